import PyProof.Rows.All
import Wide.All
import OpenK.AllK
import Wide.FinOn
import HandS.ForMost
import HandS.Wide
import HandS.Zip
import HandS.TupAny
import HandS.IsInst
import HandS.Style
import HandS.Defaults
import HandS.EndTab
import HandS.Head0
import HandS.Head1
import HandS.Head2
import HandS.HeadHook1
import HandS.HeadHook2
import HandS.HeadHook3
import HandS.NoneIn
import OpenK.KMore
import KE.GoesMore
import KE.GoesEnumKw
import PyProof.Rows.NestShow
import PyProof.ReprLen
import HandS.Conv
import HandS.TupMul
import HandS.Deep
import HandS.More
import HandS.MakeKwOnly
import KE.DataMinKey
import KE.KMinKey
import HandS.SortKw
import PyProof.SeqI3
import KE.DatumOrd
import KE.KDictZip
import KE.KUnpackStar
import HandS.DictComp
import HandS.SortInts
import HandS.Set
import HandS.SetFor
import HandS.DictTup
import KE.KSortTupG
import HandS.Nested
import KE.KNestM
import HandS.ExcInit
import HandS.ExcField
import HandS.TryOnly
import HandS.TryMany
import KE.KExcInit
import KE.KExcIs
import PyProof.ExcBaseAll.RuntimeError
import PyProof.ExcBaseAll.IndexError
import PyProof.ExcBaseAll.OverflowError
import PyProof.ExcBaseAll.ValueError
import PyProof.ExcBaseAll.LookupError
import HandS.ExcValue
import KE.KTryMore
import HandS.ExcOwn
import HandS.ExcIs
import KE.KExcLine
import HandS.SetBool
import HandS.SetKeys
import KE.KEqDict
import PyProof.InstNe
import KE.SortData
import HandS.ListItems
import HandS.Flow
import PyProof.DictCopy
import PyProof.DictUpdate
import HandS.Text
import HandS.TupLen
import PySem.Challenge.RW_firstfigures_k31_worst_lags_that_are_one
set_option Elab.async false
set_option linter.all false
set_option maxRecDepth 100000
set_option maxHeartbeats 4000000
/-! Promises of defs where nothing is shown (repr) further up the stack. -/
namespace DG
open PySem PySem.Spec PyProof.Rows L2
theorem _root_.El54 {A B C D E : Sort _} {p q r s : A → B → C → D → E → Prop} {G : Prop} (h : ∃ a b c d e, p a b c d e ∧ q a b c d e ∧ r a b c d e ∧ s a b c d e) (f : ∀ a b c d e, p a b c d e → q a b c d e → r a b c d e → s a b c d e → G) : G := by
  obtain ⟨a, b, c, d, e, h1, h2, h3, h4⟩ := h
  exact f a b c d e h1 h2 h3 h4
theorem _root_.El55 {A B C D E : Sort _} {p q r s t : A → B → C → D → E → Prop} {G : Prop} (h : ∃ a b c d e, p a b c d e ∧ q a b c d e ∧ r a b c d e ∧ s a b c d e ∧ t a b c d e) (f : ∀ a b c d e, p a b c d e → q a b c d e → r a b c d e → s a b c d e → t a b c d e → G) : G := by
  obtain ⟨a, b, c, d, e, h1, h2, h3, h4, h5⟩ := h
  exact f a b c d e h1 h2 h3 h4 h5
theorem _root_.Vs1 {α : Type _} {β γ : Sort _} {sp C : List α → β → γ → Prop} (len : ∀ ds S P, sp ds S P → ds.length = 1) (vc : ∀ x0 S P, sp [x0] S P → C [x0] S P) : ∀ ds S P, sp ds S P → C ds S P := fun ds S P h => by
  have l := len ds S P h
  match ds, l, h with
  | [x0], _, h => exact vc x0 S P h
theorem _root_.Vs2 {α : Type _} {β γ : Sort _} {sp C : List α → β → γ → Prop} (len : ∀ ds S P, sp ds S P → ds.length = 2) (vc : ∀ x0 x1 S P, sp [x0, x1] S P → C [x0, x1] S P) : ∀ ds S P, sp ds S P → C ds S P := fun ds S P h => by
  have l := len ds S P h
  match ds, l, h with
  | [x0, x1], _, h => exact vc x0 x1 S P h
theorem _root_.Vs3 {α : Type _} {β γ : Sort _} {sp C : List α → β → γ → Prop} (len : ∀ ds S P, sp ds S P → ds.length = 3) (vc : ∀ x0 x1 x2 S P, sp [x0, x1, x2] S P → C [x0, x1, x2] S P) : ∀ ds S P, sp ds S P → C ds S P := fun ds S P h => by
  have l := len ds S P h
  match ds, l, h with
  | [x0, x1, x2], _, h => exact vc x0 x1 x2 S P h
theorem _root_.Vs4 {α : Type _} {β γ : Sort _} {sp C : List α → β → γ → Prop} (len : ∀ ds S P, sp ds S P → ds.length = 4) (vc : ∀ x0 x1 x2 x3 S P, sp [x0, x1, x2, x3] S P → C [x0, x1, x2, x3] S P) : ∀ ds S P, sp ds S P → C ds S P := fun ds S P h => by
  have l := len ds S P h
  match ds, l, h with
  | [x0, x1, x2, x3], _, h => exact vc x0 x1 x2 x3 S P h
theorem _root_.Vs5 {α : Type _} {β γ : Sort _} {sp C : List α → β → γ → Prop} (len : ∀ ds S P, sp ds S P → ds.length = 5) (vc : ∀ x0 x1 x2 x3 x4 S P, sp [x0, x1, x2, x3, x4] S P → C [x0, x1, x2, x3, x4] S P) : ∀ ds S P, sp ds S P → C ds S P := fun ds S P h => by
  have l := len ds S P h
  match ds, l, h with
  | [x0, x1, x2, x3, x4], _, h => exact vc x0 x1 x2 x3 x4 S P h
theorem _root_.Vs6 {α : Type _} {β γ : Sort _} {sp C : List α → β → γ → Prop} (len : ∀ ds S P, sp ds S P → ds.length = 6) (vc : ∀ x0 x1 x2 x3 x4 x5 S P, sp [x0, x1, x2, x3, x4, x5] S P → C [x0, x1, x2, x3, x4, x5] S P) : ∀ ds S P, sp ds S P → C ds S P := fun ds S P h => by
  have l := len ds S P h
  match ds, l, h with
  | [x0, x1, x2, x3, x4, x5], _, h => exact vc x0 x1 x2 x3 x4 x5 S P h
theorem _root_.Vs7 {α : Type _} {β γ : Sort _} {sp C : List α → β → γ → Prop} (len : ∀ ds S P, sp ds S P → ds.length = 7) (vc : ∀ x0 x1 x2 x3 x4 x5 x6 S P, sp [x0, x1, x2, x3, x4, x5, x6] S P → C [x0, x1, x2, x3, x4, x5, x6] S P) : ∀ ds S P, sp ds S P → C ds S P := fun ds S P h => by
  have l := len ds S P h
  match ds, l, h with
  | [x0, x1, x2, x3, x4, x5, x6], _, h => exact vc x0 x1 x2 x3 x4 x5 x6 S P h
theorem _root_.Vs8 {α : Type _} {β γ : Sort _} {sp C : List α → β → γ → Prop} (len : ∀ ds S P, sp ds S P → ds.length = 8) (vc : ∀ x0 x1 x2 x3 x4 x5 x6 x7 S P, sp [x0, x1, x2, x3, x4, x5, x6, x7] S P → C [x0, x1, x2, x3, x4, x5, x6, x7] S P) : ∀ ds S P, sp ds S P → C ds S P := fun ds S P h => by
  have l := len ds S P h
  match ds, l, h with
  | [x0, x1, x2, x3, x4, x5, x6, x7], _, h => exact vc x0 x1 x2 x3 x4 x5 x6 x7 S P h
theorem _root_.Vs9 {α : Type _} {β γ : Sort _} {sp C : List α → β → γ → Prop} (len : ∀ ds S P, sp ds S P → ds.length = 9) (vc : ∀ x0 x1 x2 x3 x4 x5 x6 x7 x8 S P, sp [x0, x1, x2, x3, x4, x5, x6, x7, x8] S P → C [x0, x1, x2, x3, x4, x5, x6, x7, x8] S P) : ∀ ds S P, sp ds S P → C ds S P := fun ds S P h => by
  have l := len ds S P h
  match ds, l, h with
  | [x0, x1, x2, x3, x4, x5, x6, x7, x8], _, h => exact vc x0 x1 x2 x3 x4 x5 x6 x7 x8 S P h
theorem _root_.Vs10 {α : Type _} {β γ : Sort _} {sp C : List α → β → γ → Prop} (len : ∀ ds S P, sp ds S P → ds.length = 10) (vc : ∀ x0 x1 x2 x3 x4 x5 x6 x7 x8 x9 S P, sp [x0, x1, x2, x3, x4, x5, x6, x7, x8, x9] S P → C [x0, x1, x2, x3, x4, x5, x6, x7, x8, x9] S P) : ∀ ds S P, sp ds S P → C ds S P := fun ds S P h => by
  have l := len ds S P h
  match ds, l, h with
  | [x0, x1, x2, x3, x4, x5, x6, x7, x8, x9], _, h => exact vc x0 x1 x2 x3 x4 x5 x6 x7 x8 x9 S P h
theorem _root_.Vs11 {α : Type _} {β γ : Sort _} {sp C : List α → β → γ → Prop} (len : ∀ ds S P, sp ds S P → ds.length = 11) (vc : ∀ x0 x1 x2 x3 x4 x5 x6 x7 x8 x9 x10 S P, sp [x0, x1, x2, x3, x4, x5, x6, x7, x8, x9, x10] S P → C [x0, x1, x2, x3, x4, x5, x6, x7, x8, x9, x10] S P) : ∀ ds S P, sp ds S P → C ds S P := fun ds S P h => by
  have l := len ds S P h
  match ds, l, h with
  | [x0, x1, x2, x3, x4, x5, x6, x7, x8, x9, x10], _, h => exact vc x0 x1 x2 x3 x4 x5 x6 x7 x8 x9 x10 S P h
/-- room, and no repr further up -/
structure RoomG (k : Nat) (A : Around) : Prop where
  r : Room k A
  g : A.guards = some []
theorem RoomG.mono {j k : Nat} {A : Around} (h : RoomG k A) (l : j ≤ k) : RoomG j A := ⟨h.r.mono l, h.g⟩
theorem RoomG.deeper {k : Nat} {A : Around} (h : RoomG (k + 1) A) (env : Env) : RoomG k (A.deeper env) := ⟨h.r.deeper env, h.g⟩
structure FnG (P : Program) (w : World) (K : PySem.W.Frag) (mg : Str → Option Value) (base : Heap) (CX : CXT) (k : Nat) (f : Addr) (fd : FuncData) (ps : List Str) (sp : Sp) : Prop where
  len : ∀ vs H Q E, sp vs H Q E → vs.length = ps.length
  run : ∀ (A : Around) (outer : List Env) (s : Shared) (H : Hp) (args : Args) (us : List Value) (vs : List V) (Q : VK) (E : XK), RoomG k A → Env0 P w K mg base A outer s H → BindsTo s fd args (ps.zip us) → Vals vs us → sp vs H Q E →
    codeAny (model P w) A (.call (.ref f) args) (CR CX outer P w H s Q E) s
theorem FnG.imp {P : Program} {w : World} {K : PySem.W.Frag} {mg : Str → Option Value} {base : Heap} {CX : CXT} {k : Nat} {f : Addr} {fd : FuncData} {ps : List Str} {sp sp' : Sp} (F : FnG P w K mg base CX k f fd ps sp)
    (h : ∀ vs H Q E, sp' vs H Q E → sp vs H Q E) : FnG P w K mg base CX k f fd ps sp' :=
  ⟨fun vs H Q E q => F.len vs H Q E (h _ _ _ _ q), fun A outer s H args us vs Q E hr he hb hv hs => F.run A outer s H args us vs Q E hr he hb hv (h _ _ _ _ hs)⟩
section
variable {X : Cx} {CX : CXT} {k n : Nat} {f C : Addr} {fd : FuncData} {ps ks : List Str} {sp : Sp} {dvs : List V} {ds : List Value} {E : XK} {x m : Str} {p pos apos : Pos} {e o : Expr} {es : List Expr} {ta : TE} {t tk : TA} {kws : List Keyword} {g : List Value → List Value → List Value} {gV : List V → List V → List V}
theorem run_fn {pins : List (Addr × Obj)} {σ : L2.St} {H : Hp} {s : Shared} {Q : VK} {us : List Value} {vs : List V} (F : FnG X.prog X.w X.K X.mg X.base CX k f fd ps sp) (hr : RoomG k X.A) (hb : Binds X.K fd ps ds) (hd : Vals dvs ds) (hx : Passes CX X E)
    (I : Inv X pins σ H s) (r : Vals vs us) (h : sp (vs ++ dvs) H Q E) : wpAny (model X.prog X.w) X.A (call (.ref f) us) (EP X pins σ Q) X.xe s := by
  have r2 : Vals (vs ++ dvs) (us ++ ds) := r.append hd
  have hl : (us ++ ds).length = ps.length := by rw [← r2.length]; exact F.len _ _ _ _ h
  refine wpAny_call (codeAny_mono (F.run X.A X.stack s H ⟨us, []⟩ (us ++ ds) (vs ++ dvs) Q E hr I.env0 (hb s us I.kIn hl) r2 h) fun r s' hq => ?_)
  cases r with
  | error e => exact hx pins σ H s e s' I hq
  | ok fl =>
    cases fl with
    | ret u => exact I.after hq
    | next => exact False.elim hq
    | brk => exact False.elim hq
    | cont => exact False.elim hq

theorem pe_call (F : FnG X.prog X.w X.K X.mg X.base CX k f fd ps sp) (hr : RoomG k X.A) (hg : Gl X x) (hm : X.mg x = some (.ref f)) (hk : PySem.W.keepIn X.K (.ref f) = true) (hb : Binds X.K fd ps ds) (hd : Vals dvs ds) (hx : Passes CX X E)
    (ha : PA X (e :: es) t) (hdb : (x == ("__debug__" : Str)) = false := by decide) (he : starEach (e :: es) X.env = (false, eval e X.env) :: starEach es X.env := by rfl) (hpl : (backTo pos (starEach es X.env)).any (·.1) = false := by rfl) :
    PE X (.Call (.Name x p) (e :: es) [] pos) (tCall sp dvs E t) := by
  refine ⟨fun pins s σ H Q I h => ?_⟩
  refine wpAny_Call_Name_kw (ld_glob I hg hm ?_ hdb)
  refine PySem.W.callWith_K (h₀ := X.base) I.ok.mod.kin hk (thn (ha.run pos pins s σ H _ I h) fun us s1 ⟨vs, H1, I1, r, q⟩ => ⟨I1.kIn, ?_⟩) he hpl
  exact run_fn F hr hb hd hx I1 r q
end
theorem fn_of {CX : CXT} {P : Program} {w : World} {K : PySem.W.Frag} {mg : Str → Option Value} {base : Heap} {k : Nat} {f : Addr} {name qual : Str} {params : Arguments} {body : List Stmt} {scope : Scope} {dV kV doc pm cdv ct oc : Value} {an od : Option Addr}
    {osl : Array (Option Value)} {N ps : List Str} {sp : Sp} (lk : K.lookup f = some ⟨oc, od, .func (PySem.W.fnOf name qual params body scope dV kV doc pm an cdv ct), osl⟩) (hcd : PySem.W.codeIn K cdv qual = true) (S : FnScope N ps scope)
    (len : ∀ vs H Q E, sp vs H Q E → vs.length = ps.length)
    (hbody : ∀ (A : Around) (outer : List Env) (s : Shared) (H : Hp) (vs : List V) (Q : VK) (E : XK), RoomG k (A.deeper (envOfC qual scope s.heap.objs.size f cdv)) → sp vs H Q E →
      ∃ t, PSs (cxOf CX P w K mg base N qual scope f cdv A outer s H E) body t ∧ t { nx := fun _ H' => Q .non H', rt := Q } (start N vs) H) :
    FnG P w K mg base CX (k + 1) f (PySem.W.fnOf name qual params body scope dV kV doc pm an cdv ct) ps sp := by
  refine ⟨len, fun A outer s H args us vs Q E hr e0 hb r hsp => ?_⟩
  have hl := len _ _ _ _ hsp
  have KX : K.In s.heap := e0.mod.kin.keeps fun b o e => (e0.bs b o e).1
  have lim : s.heap.NoLimit := e0.mod.nolimit.keeps fun b o e => (e0.bs b o e).1
  have hkind : ∀ y ∈ ps.zip us, scope.names.lookup y.1 = some .local ∨ (scope.names.lookup y.1 = some .cell ∧ ((cellsFrom (s.heap.objs.size + 1) scope.names []).lookup y.1).isSome = true) := fun ⟨n, v⟩ hy => by
    rcases S.par n (List.of_mem_zip hy).1 with q | q
    · exact .inl q
    · exact .inr ⟨q, PySem.W.cellsFrom_some _ _ _ (.inl q)⟩
  refine codeAny_call_function hr.r.depth (KX _ _ lk) rfl S.co S.gen rfl (PySem.W.codeRec_of KX hcd) (hb _ _ _ _ ?_)
  refine wpAny_newFunctionEnv_cells S.kind hkind fun env he s1 x => ?_
  subst he
  refine ⟨lim.keeps x.toInCall.keep, codeAny_func ?_⟩
  obtain ⟨t, ht, hq⟩ := hbody A outer s H vs Q E (hr.deeper _) hsp
  have I : Inv (cxOf CX P w K mg base N qual scope f cdv A outer s H E) [] (start N vs) H s1 := inv_start S hr.r.hd e0 hl r x
  refine wpAny_mono (ht.run [] s1 (start N vs) H _ I hq) (fun fl s' hs => ?_) fun e s' hs => hs
  have fin : ∀ {σ' : L2.St} {H' : Hp} {v : V} {u : Value}, Inv (cxOf CX P w K mg base N qual scope f cdv A outer s H E) [] σ' H' s' → RelV v u → Q v H' → CE outer P w H s Q u s' :=
    fun {σ' H' v u} J rv q => ⟨v, H', J.os, J.bare, J.base, J.hok, rv, q⟩
  cases fl with
  | ret u =>
    obtain ⟨v, σ', H', J, rv, q⟩ := hs
    exact fin J rv q
  | next =>
    obtain ⟨σ', H', J, q⟩ := hs
    exact fin (v := V.non) (u := Value.none) J rfl q
  | brk =>
    obtain ⟨_, _, _, q⟩ := hs
    exact False.elim q
  | cont =>
    obtain ⟨_, _, _, q⟩ := hs
    exact False.elim q

section
variable {P : Program} {w : World} {K : PySem.W.Frag} {mg : Str → Option Value} {base : Heap}
theorem fun_ok {x qual : Str} {st : Stmt} {f : Addr} {fd : FuncData} {N ps : List Str} {k : Nat} {sp : Sp} (F : Fun K x qual st f fd) (S : FnScope N ps (defScope st)) (len : ∀ vs H Q E, sp vs H Q E → vs.length = ps.length)
    (hbody : ∀ (cdv : Value) (A : Around) (outer : List Env) (s : Shared) (H : Hp) (vs : List V) (Q : VK) (E : XK), RoomG k (A.deeper (envOfC qual (defScope st) s.heap.objs.size f cdv)) → sp vs H Q E →
      ∃ t, PSs (cxOf CX0 P w K mg base N qual (defScope st) f cdv A outer s H E).nox (defBody st) t ∧ t { nx := fun _ H' => Q .non H', rt := Q } (start N vs) H) : FnG P w K mg base CX0 (k + 1) f fd ps sp := by
  obtain ⟨oc, od, kV, doc, pm, an, cdv, ct, osl, rfl, lk, hcd⟩ := F.ex
  refine fn_of lk hcd S len fun A outer s H vs Q E hr hsp => ?_
  obtain ⟨t, h, q⟩ := hbody cdv A outer s H vs Q E hr hsp
  exact ⟨t, h.nox, q⟩
theorem funD_ok {x qual : Str} {params : Arguments} {body : List Stmt} {scope : Scope} {dvs : List V} {kws : List (Str × V)} {f : Addr} {fd : FuncData} {CX : CXT} {N ps : List Str} {k : Nat} {sp : Sp} (F : FunD K x qual params body scope dvs kws f fd) (S : FnScope N ps scope) (len : ∀ vs H Q E, sp vs H Q E → vs.length = ps.length)
    (hbody : ∀ (cdv : Value) (A : Around) (outer : List Env) (s : Shared) (H : Hp) (vs : List V) (Q : VK) (E : XK), RoomG k (A.deeper (envOfC qual scope s.heap.objs.size f cdv)) → sp vs H Q E →
      ∃ t, PSs (cxOf CX P w K mg base N qual scope f cdv A outer s H E) body t ∧ t { nx := fun _ H' => Q .non H', rt := Q } (start N vs) H) : FnG P w K mg base CX (k + 1) f fd ps sp := by
  obtain ⟨oc, od, dV, kV, doc, pm, an, cdv, ct, osl, rfl, lk, hcd, _, _⟩ := F.ex
  exact fn_of lk hcd S len fun A outer s H vs Q E hr hsp => hbody cdv A outer s H vs Q E hr hsp
end
/-! ### the end -/
theorem law_call {P : Program} {w : World} {K : PySem.W.Frag} {mg mb : Str → Option Value} {CX : CXT} {k : Nat} {fa a : Addr} {fd : FuncData} {x : Str} {sp : Sp} {s₁ : Shared} {vs : List Value} {ns : List Int}
    (KX : K.In s₁.heap) (hns : s₁.heap.Ns mainGlobals mg) (hb : s₁.heap.Ns builtinsNs mb) (hbb : ∀ x : Str, x ≠ "__name__" → mb x = bootBuiltins x) (hlim : s₁.heap.NoLimit) (hg : s₁.gens = #[])
    (ha : s₁.heap.get? a = some { cls := .type "list", data := .seq vs.toArray }) (hi : IntsAre vs ns) (hl : ns.length ≤ sizeLine) (hr : RoomG k callerA)
    (F : ∀ base : Heap, K.In base → base.Ns mainGlobals mg → FnG P w K mg base CX k fa fd [x] sp) (hbind : ∀ (s : Shared) (u : Value), BindsTo s fd ⟨[u], []⟩ [(x, u)])
    (hsp : ∀ H : Hp, Only H → SqL K H a (ns.map V.int) → sp [.ref a] H (fun v _ => v = .bl true) fun _ _ _ => False)
    (hCX : ∀ H e s', CX [] H s₁ (fun _ _ _ => False) e s' → False) :
    codeAny (model P w) callerA (.call (.ref fa) ⟨[.ref a], []⟩) (fun r s' => r = .ok (.ret (.bool true)) ∧ OldK s₁.heap s'.heap ∧ s'.os = s₁.os ∧ AllBare s'.gens) s₁ := by
  have rv := vals_ints hi
  have lenV := hi.length
  -- from an abstract heap in which nothing but the script may be tracked
  have core : ∀ H : Hp, Only H → SqL K H a (ns.map V.int) → HOk P w H s₁.heap → (∀ b, H b ≠ none → b = a) → (H a ≠ none → K.lookup a = none) →
      codeAny (model P w) callerA (.call (.ref fa) ⟨[.ref a], []⟩) (fun r s' => r = .ok (.ret (.bool true)) ∧ OldK s₁.heap s'.heap ∧ s'.os = s₁.os ∧ AllBare s'.gens) s₁ := by
    intro H hO hS hok hA hK
    have base_of : ∀ {b : Addr} {o : Obj}, s₁.heap.get? b = some o → H b = none → (hidT s₁.heap H).get? b = some o := fun e n => hidT_get e n
    have noA : ∀ {b : Addr} {o : Obj} {es : Array DictEntry} {ep : Nat}, s₁.heap.get? b = some o → o.data = .dict es ep → H b = none := fun {b o es ep} e d => by
      cases q : H b with
      | none => rfl
      | some u =>
        have e' : b = a := hA b (by rw [q]; simp)
        subst e'
        rw [ha] at e; cases e
        have d' : Data.seq vs.toArray _ = Data.dict es ep := d
        cases d'
    have nsK : ∀ {b : Addr} {m : Str → Option Value}, s₁.heap.Ns b m → (hidT s₁.heap H).Ns b m := fun {b m} ⟨o, es, ep, e, d, r⟩ => ⟨o, es, ep, base_of e (noA e d), d, r⟩
    have hKb : K.In (hidT s₁.heap H) := fun b o e => base_of (KX b o e) (by
      cases q : H b with
      | none => rfl
      | some u =>
        have e' : b = a := hA b (by rw [q]; simp)
        subst e'
        rw [hK (by rw [q]; simp)] at e; cases e)
    have hM : Mod K mg (hidT s₁.heap H) := ⟨hKb, nsK hns, ⟨mb, nsK hb, hbb⟩, let ⟨mc, h1, h2⟩ := hlim; ⟨mc, nsK h1, h2⟩⟩
    have e0 : Env0 P w K mg (hidT s₁.heap H) callerA [] s₁ H := ⟨rfl, hM, fun b o e => of_hidT e, Nat.le_of_eq (hidT_size _ _), trivial, fun b hb => absurd (show b ∈ ([] : List Addr) from hb) (by simp), hok, .of_eq hg⟩
    refine codeAny_mono ((F _ hKb (nsK hns)).run callerA [] s₁ H ⟨[.ref a], []⟩ [.ref a] [.ref a] _ _ hr e0 (hbind s₁ (.ref a)) (.cons rfl .nil) (hsp H hO hS)) fun r s' h => ?_
    cases r with
    | error e => exact (hCX H e s' h).elim
    | ok fl =>
      cases fl with
      | next => exact False.elim h
      | brk => exact False.elim h
      | cont => exact False.elim h
      | ret u =>
        obtain ⟨v, H', os, bare, un, hok', r', q⟩ := h
        have q' : v = .bl true := q
        subst q'
        obtain rfl : u = Value.bool true := r'
        refine ⟨rfl, OldK.of_keep fun b o e => ?_, os, bare⟩
        cases q : H b with
        | none => exact un.keep b o e q (by intro z; exact absurd (show b ∈ ([] : List Addr) from z) (by simp)) (by simp)
        | some u =>
          rcases hO b with z | ⟨ob, xs, z⟩
          · rw [q] at z; cases z
          · have z2 := un.frzs b ob _ z
            obtain ⟨e1, _⟩ := hok b _ z
            obtain ⟨e2, _⟩ := hok' b _ z2
            rw [e] at e1; cases e1
            exact e2
  cases hk : K.lookup a with
  | some o =>
    -- the script is one of the module's own objects
    have e := KX a o hk
    rw [ha] at e
    cases e
    refine core (fun _ => none) (fun _ => .inl rfl) (.inr ⟨_, vs.toArray, _, hk, rfl, rfl, rfl, by rw [List.size_toArray, lenV]; exact hl, by simpa using rv⟩) (fun b u z => by have z' : (none : Option HO) = some u := z; cases z') (fun b z => absurd rfl z) fun z => absurd rfl z
  | none =>
    refine core (fun b => if b = a then some (.frz { cls := .type "list", data := .seq vs.toArray } (.lst (ns.map V.int))) else none) (fun b => ?_) (.inl (.inr ⟨{ cls := .type "list", data := .seq vs.toArray }, if_pos rfl⟩)) (fun b u z => ?_) (fun b z => ?_) fun _ => hk
    · by_cases hb : b = a
      · exact .inr ⟨_, _, if_pos hb⟩
      · exact .inl (if_neg hb)
    · by_cases hb : b = a
      · have z' := (if_pos hb).symm.trans z
        cases z'
        subst hb
        exact ⟨ha, by rw [List.length_map]; exact hl, vs, _, rv, ha⟩
      · have z' := (if_neg hb).symm.trans z
        cases z'
    · by_cases hb : b = a
      · exact hb
      · exact absurd (if_neg hb) z
theorem walk_of {l : PySem.W.OpenLaw} {n k : Nat} {q : Program} {loose : List Str} {XP : (Str → Option Value) → Heap → Prop} {YP : World → Heap → Prop} {d : DefRec} {K : Params → PySem.W.Frag} {CX : World → CXT} {sp : World → Sp} {x : Str}
    (hn : l.most = some n) (hn2 : n ≤ sizeLine) (hdf : d.params.defaults = []) (hr : RoomG k callerA)
    (hY : ∀ (w : World) (h : Heap), YP w h → (K w.params).In h)
    (F : ∀ (w : World) (mg : Str → Option Value) (fa : Addr) (h : Heap), (K w.params).In h → h.Ns mainGlobals mg → mg d.name = some (.ref fa) →
      ∃ fd : FuncData, (∀ (s : Shared) (u : Value), BindsTo s fd ⟨[u], []⟩ [(x, u)]) ∧
        ∀ base : Heap, (K w.params).In base → base.Ns mainGlobals mg → FnG l.prog w (K w.params) mg base (CX w) k fa fd [x] (sp w))
    (hsp : ∀ (w : World) (H : Hp) (a : Addr) (ns : List Int), ns.length ≤ n → Only H → SqL (K w.params) H a (ns.map V.int) → sp w [.ref a] H (fun v _ => v = .bl true) fun _ _ _ => False)
    (hCX : ∀ (w : World) (H : Hp) (s : Shared) (e : Value) (s' : Shared), CX w [] H s (fun _ _ _ => False) e s' → False) :
    PySem.W.WalkO q loose XP YP l.row.toRowW d [] (fun f vs => PySem.call f vs) := by
  refine Att.attach_call hn hdf fun w s₀ s₁ mg mb fa o pm cd doc a vs ns G Y ho hd hcd hmg hobj hints hlen hg => ?_
  have KX := hY w _ Y
  obtain ⟨fd, hb, hF⟩ := F w mg fa _ KX G.T.g hmg
  exact law_call KX G.T.g G.T.b G.T.builtins G.T.nolimit hg hobj hints (Nat.le_trans hlen hn2) hr hF hb (fun H hO hS => hsp w H a ns hlen hO hS) fun H e s' => hCX w H s₁ e s'
end DG

/-! A head that writes nothing of the top out: one kernel run, its facts read by a Hook. -/
namespace HD
open PySem PySem.Spec PyProof.Rows L2 He
abbrev Pr : Type := PySem.W.Frag → Bool
def mkD (p : Str × Option Str) (x qual : Str) (st : Stmt) (dfl : List Dv := []) (kwd : List (Str × Dv) := []) : DefD := ⟨p, x, qual, defArgs st, defBody st, defScope st, dfl, kwd⟩
abbrev AlH : Type := Bool × List (List FnW) × List (Option (List (Option (Str × Int))))
/-! the same list walked by two functions: the kernel must not compare them under a binder -/
def oF1 (K : PySem.W.Frag) : List DefD → List FnW
  | [] => []
  | d :: r => fnW K d.at_ :: oF1 K r
def oF (K : PySem.W.Frag) : List (List DefD) → List (List FnW)
  | [] => []
  | q :: r => oF1 K q :: oF K r
def vF1 : List DefD → List FnW
  | [] => []
  | d :: r => d.val :: vF1 r
def vF : List (List DefD) → List (List FnW)
  | [] => []
  | q :: r => vF1 q :: vF r
def oT (K : PySem.W.Frag) : List Tab → List (Option (List (Option (Str × Int))))
  | [] => []
  | t :: r => dicW K (t.1 K) :: oT K r
def vT (w : World) : List Tab → List (Option (List (Option (Str × Int))))
  | [] => []
  | t :: r => some (keysIn w.params t.2) :: vT w r
theorem oF1_eq (K : PySem.W.Frag) : ∀ l : List DefD, oF1 K l = l.map fun d => fnW K d.at_
  | [] => rfl
  | d :: r => congrArg (fnW K d.at_ :: ·) (oF1_eq K r)
theorem oF_eq (K : PySem.W.Frag) : ∀ l : List (List DefD), oF K l = l.map fun q => q.map fun d => fnW K d.at_
  | [] => rfl
  | q :: r => by
    show oF1 K q :: oF K r = _
    rw [oF1_eq, oF_eq K r]
    rfl
theorem vF1_eq : ∀ l : List DefD, vF1 l = l.map DefD.val
  | [] => rfl
  | d :: r => congrArg (d.val :: ·) (vF1_eq r)
theorem vF_eq : ∀ l : List (List DefD), vF l = l.map fun q => q.map DefD.val
  | [] => rfl
  | q :: r => by
    show vF1 q :: vF r = _
    rw [vF1_eq, vF_eq r]
    rfl
theorem oT_eq (K : PySem.W.Frag) : ∀ l : List Tab, oT K l = l.map fun t => dicW K (t.1 K)
  | [] => rfl
  | t :: r => congrArg (dicW K (t.1 K) :: ·) (oT_eq K r)
theorem vT_eq (w : World) : ∀ l : List Tab, vT w l = l.map fun t => some (keysIn w.params t.2)
  | [] => rfl
  | t :: r => congrArg (some (keysIn w.params t.2) :: ·) (vT_eq w r)
def obsH (ps : List (List Pr)) (fn : List (List DefD)) (ts : List Tab) (K : PySem.W.Frag) : AlH := ((ps.all fun q => q.all fun p => p K) && fn.all fun q => q.all fun d => d.ok K, oF K fn, oT K ts)
def valH (fn : List (List DefD)) (ts : List Tab) (w : World) : AlH := (true, vF fn, vT w ts)
def Says (ps : List (List Pr)) (fn : List (List DefD)) (ts : List Tab) (w : World) (K : PySem.W.Frag) : Prop := obsH ps fn ts K = valH fn ts w
def obsHG (as : List Addr) (ps : List (List Pr)) (fn : List (List DefD)) (ts : List Tab) (g : Addr → Option Obj) : AlH := obsH ps fn ts (frG g as)
def hookH (n : List Addr) (ps : List (List Pr)) (fn : List (List DefD)) (ts : List Tab) : PySem.W.Hook where
  α := AlH
  obs := fun s => obsHG n ps fn ts s.heap.get?
  val := fun w => valH fn ts w
  says := fun w h => ∃ K : PySem.W.Frag, K.In h ∧ Says ps fn ts w K
  of := fun _ _ e => ⟨_, frG_in, e⟩
  keeps := fun _ _ _ ⟨K, hK, c⟩ k => ⟨K, PySem.W.Frag.In.keeps hK k, c⟩
theorem obsHG_eq {n : List Addr} {ps : List (List Pr)} {fn : List (List DefD)} {ts : List Tab} {g : Addr → Option Obj} {s : Shared} (h : ∀ a, g a = s.heap.get? a) : obsHG n ps fn ts g = (hookH n ps fn ts).obs s := by
  have e : g = s.heap.get? := funext h
  rw [e] <;> rfl
def fdo (K : PySem.W.Frag) (a : Addr) : FuncData := match K.lookup a with
  | some ⟨_, _, .func fd, _⟩ => fd
  | _ => PySem.W.fnOf "" "" ⟨[], [], none, [], [], none, []⟩ [] ⟨.function, [], false, false, []⟩ .none .none .none .none none .none .none
theorem funD_of {K : PySem.W.Frag} {d : DefD} (e : fnW K d.at_ = d.val) (c : d.ok K = true) : FunD K d.name d.qual d.params d.body d.scope (d.dvs K) (d.kws K) (fAd K d.at_) (fdo K (fAd K d.at_)) := by
  obtain ⟨fd, F⟩ := DefD.funD e c
  obtain ⟨oc, od, dV, kV, doc, pm, an, cdv, ct, osl, q, l, r⟩ := F.ex
  have e2 : fdo K (fAd K d.at_) = fd := by
    unfold fdo
    rw [l]
  rw [e2]
  exact F
theorem fun_of {K : PySem.W.Frag} {x qual : Str} {st : Stmt} {f : Addr} {fd : FuncData} (F : FunD K x qual (defArgs st) (defBody st) (defScope st) [] [] f fd) : Fun K x qual st f fd := by
  obtain ⟨oc, od, dV, kV, doc, pm, an, cdv, ct, osl, rfl, l, hc, hd, _⟩ := F.ex
  rcases hd with ⟨_, rfl⟩ | ⟨h, _⟩
  · exact ⟨⟨oc, od, kV, doc, pm, an, cdv, ct, osl, rfl, l, hc⟩, F.kp⟩
  · exact absurd rfl h
section
variable {ps : List (List Pr)} {fn : List (List DefD)} {ts : List Tab} {w : World} {K : PySem.W.Frag}
theorem Says.p (c : Says ps fn ts w K) (j i : Nat) {p : Pr} (h : (ps[j]?.bind fun q => q[i]?) = some p) : p K = true := by
  have c1 := (ba (show ((ps.all fun q => q.all fun p => p K) && fn.all fun q => q.all fun d => d.ok K) = true from congrArg (fun z : AlH => z.1) c)).1
  obtain ⟨q, hq, hp⟩ := Option.bind_eq_some_iff.mp h
  exact List.all_eq_true.mp (List.all_eq_true.mp c1 q (List.mem_of_getElem? hq)) p (List.mem_of_getElem? hp)
theorem Says.d (c : Says ps fn ts w K) (j i : Nat) {d : DefD} (h : (fn[j]?.bind fun q => q[i]?) = some d) : FunD K d.name d.qual d.params d.body d.scope (d.dvs K) (d.kws K) (fAd K d.at_) (fdo K (fAd K d.at_)) := by
  have c1 := (ba (show ((ps.all fun q => q.all fun p => p K) && fn.all fun q => q.all fun d => d.ok K) = true from congrArg (fun z : AlH => z.1) c)).2
  have c2 : (fn.map fun q => q.map fun d => fnW K d.at_) = fn.map fun q => q.map DefD.val := by
    rw [← oF_eq, ← vF_eq]
    exact congrArg (fun z : AlH => z.2.1) c
  obtain ⟨q, hq, hd⟩ := Option.bind_eq_some_iff.mp h
  have e : (fn.map fun q => q.map fun d => fnW K d.at_)[j]? = (fn.map fun q => q.map DefD.val)[j]? := by rw [c2]
  rw [List.getElem?_map, List.getElem?_map, hq] at e
  have e1 := Option.some.inj e
  have e2 : (q.map fun d => fnW K d.at_)[i]? = (q.map DefD.val)[i]? := by rw [show (q.map fun d => fnW K d.at_) = q.map DefD.val from e1]
  rw [List.getElem?_map, List.getElem?_map, hd] at e2
  exact funD_of (Option.some.inj e2) (List.all_eq_true.mp (List.all_eq_true.mp c1 q (List.mem_of_getElem? hq)) d (List.mem_of_getElem? hd))
theorem Says.f1 (c : Says ps fn ts w K) (j i : Nat) {p : Str × Option Str} {x qual : Str} {st : Stmt} {dfl : List Dv} {kwd : List (Str × Dv)} (h : (fn[j]?.bind fun q => q[i]?) = some (mkD p x qual st dfl kwd)) :
    FunD K x qual (defArgs st) (defBody st) (defScope st) (dfl.map (Dv.v K)) (kwd.map fun q => (q.1, q.2.v K)) (fAd K p) (fdo K (fAd K p)) := c.d j i h
theorem Says.f0 (c : Says ps fn ts w K) (j i : Nat) {p : Str × Option Str} {x qual : Str} {st : Stmt} (h : (fn[j]?.bind fun q => q[i]?) = some (mkD p x qual st [] [])) :
    Fun K x qual st (fAd K p) (fdo K (fAd K p)) := fun_of (c.d j i h)
theorem Says.t (c : Says ps fn ts w K) (i : Nat) {t : Tab} (h : ts[i]? = some t) : ∃ es n, KDict K w (t.1 K) es n := by
  have e : ts.map (fun t => dicW K (t.1 K)) = ts.map fun t => some (keysIn w.params t.2) := by
    rw [← oT_eq, ← vT_eq]
    exact congrArg (fun z : AlH => z.2.2) c
  have e2 : (ts.map fun t => dicW K (t.1 K))[i]? = (ts.map fun t => some (keysIn w.params t.2))[i]? := by rw [e]
  rw [List.getElem?_map, List.getElem?_map, h] at e2
  exact dicW_ok (Option.some.inj e2)
end
section
variable {K : PySem.W.Frag}
/-- x of the table at a is this literal -/
def litB (a : PySem.W.Frag → Addr) (x : Str) (v : V) : Pr := fun K => match PySem.W.nsIn K (a K) x with
  | some (some u) => relB v u
  | _ => false
theorem lit_ok {a : PySem.W.Frag → Addr} {x : Str} {v : V} (h : litB a x v K = true) : ∃ u, PySem.W.nsIn K (a K) x = some (some u) ∧ RelV v u := by
  unfold litB at h
  cases e : PySem.W.nsIn K (a K) x with
  | none =>
    rw [e] at h
    cases h
  | some r =>
    rw [e] at h
    cases r with
    | none => cases h
    | some u => exact ⟨u, rfl, relB_ok h⟩
theorem lit_int {a : PySem.W.Frag → Addr} {x : Str} {i : Int} (h : litB a x (.int i) K = true) : ∃ q : Tok, PySem.W.nsIn K (a K) x = some (some (.int i q)) := by
  obtain ⟨u, e, t, rfl⟩ := lit_ok h
  exact ⟨t, e⟩
end
theorem law_binds {K : PySem.W.Frag} {x qual y : Str} {st : Stmt} {f : Addr} {fd : FuncData} (F : Fun K x qual st f fd)
    (h : ∀ (kV doc pm : Value) (an : Option Addr) (cdv ct : Value) (s : Shared) (v : Value), BindsTo s (PySem.W.fnOf x qual (defArgs st) (defBody st) (defScope st) .none kV doc pm an cdv ct) ⟨[v], []⟩ [(y, v)]) (s : Shared) (v : Value) : BindsTo s fd ⟨[v], []⟩ [(y, v)] := by
  obtain ⟨oc, od, kV, doc, pm, an, cdv, ct, osl, rfl, lk, hcd⟩ := F.ex
  exact h kV doc pm an cdv ct s v
theorem walk_of {l : PySem.W.OpenLaw} {n k : Nat} {q : Program} {loose : List Str} {XP : (Str → Option Value) → Heap → Prop} {YP : World → Heap → Prop} {d : DefRec} {CX : World → CXT} {sp : World → PySem.W.Frag → Sp} {x : Str}
    (hn : l.most = some n) (hn2 : n ≤ sizeLine) (hdf : d.params.defaults = []) (hr : DG.RoomG k callerA)
    (F : ∀ (w : World) (mg : Str → Option Value) (fa : Addr) (h : Heap), YP w h → h.Ns mainGlobals mg → mg d.name = some (.ref fa) →
      ∃ K : PySem.W.Frag, K.In h ∧ ∃ fd : FuncData, (∀ (s : Shared) (u : Value), BindsTo s fd ⟨[u], []⟩ [(x, u)]) ∧
        ∀ base : Heap, K.In base → base.Ns mainGlobals mg → DG.FnG l.prog w K mg base (CX w) k fa fd [x] (sp w K))
    (hsp : ∀ (w : World) (K : PySem.W.Frag) (H : Hp) (a : Addr) (ns : List Int), ns.length ≤ n → Only H → SqL K H a (ns.map V.int) → sp w K [.ref a] H (fun v _ => v = .bl true) fun _ _ _ => False)
    (hCX : ∀ (w : World) (H : Hp) (s : Shared) (e : Value) (s' : Shared), CX w [] H s (fun _ _ _ => False) e s' → False) :
    PySem.W.WalkO q loose XP YP l.row.toRowW d [] (fun f vs => PySem.call f vs) := by
  refine Att.attach_call hn hdf fun w s₀ s₁ mg mb fa o pm cd doc a vs ns G Y ho hd hcd hmg hobj hints hlen hg => ?_
  obtain ⟨K, KX, fd, hb, hF⟩ := F w mg fa _ Y G.T.g hmg
  exact DG.law_call KX G.T.g G.T.b G.T.builtins G.T.nolimit hg hobj hints (Nat.le_trans hlen hn2) hr hF hb (fun H hO hS => hsp w K H a ns hlen hO hS) fun H e s' => hCX w H s₁ e s'
end HD

namespace HDR
open PySem PySem.Spec PyProof.Rows L2
def topS (i : Nat) : Stmt := PySem.Challenge.pw_firstfigures_k31_worst_lags_that_are_one.main.body.getD i (.Pass ⟨0, 0, 0, 0⟩)
abbrev s_is_number : Stmt := topS 3
abbrev s_common : Stmt := topS 4
abbrev s_frac : Stmt := topS 5
abbrev s_plus : Stmt := topS 6
abbrev s_times : Stmt := topS 7
abbrev s_is_below : Stmt := topS 8
abbrev s_power : Stmt := topS 9
abbrev s_width_of : Stmt := topS 12
abbrev s_least_power : Stmt := topS 13
abbrev s_told_lag : Stmt := topS 14
abbrev s_summed : Stmt := topS 15
abbrev s_Late_init : Stmt := inClass (topS 16) 0
abbrev s_Late_step_at : Stmt := inClass (topS 16) 1
abbrev s_Late_figure : Stmt := inClass (topS 16) 2
abbrev s_Late_settled : Stmt := inClass (topS 16) 3
abbrev s_Late_first : Stmt := inClass (topS 16) 4
abbrev s_Late_behind : Stmt := inClass (topS 16) 5
abbrev s_Late_states : Stmt := inClass (topS 16) 6
abbrev s_worst_lag : Stmt := topS 17
abbrev s_worst_rows : Stmt := topS 18
abbrev s_are_rows : Stmt := topS 19
abbrev s_shows_worst : Stmt := topS 20
abbrev s_Lcell_at : Stmt := topS 22
abbrev s_Lbox : Stmt := topS 23
abbrev s_Ltake : Stmt := topS 24
abbrev s_Lof : Stmt := topS 25
abbrev s_Lpow : Stmt := topS 26
abbrev s_Lsum : Stmt := topS 27
abbrev s_Ltold : Stmt := topS 28
abbrev s_Lis_small : Stmt := topS 29
abbrev s_Lworst : Stmt := topS 30
abbrev s_Lright : Stmt := topS 31
abbrev s_law : Stmt := topS 32
def hdP0 : List HD.Pr := [
  fun K => decide (PySem.W.nsIn K mainGlobals "Late" = some (some (.ref (He.ga K "Late")))),
  fun K => PySem.W.plainGet K (He.ga K "Late") Str.empty,
  fun K => PySem.W.hasDictIn K (He.ga K "Late"),
  fun K => PySem.W.plainOver K (He.ga K "Late"),
  fun K => decide (PySem.W.findIn K (.ref (He.ga K "Late")) "__setattr__" = some (some (.builtin "object.__setattr__"))),
  fun K => PySem.W.makesIn K (He.ga K "Late"),
  fun K => PySem.W.keepIn K (.ref (He.ga K "Late")),
  fun K => decide (PySem.W.findIn K (.ref (He.ga K "Late")) "own_base" = some none),
  fun K => decide (PySem.W.findIn K (.ref (He.ga K "Late")) "own_most" = some none),
  fun K => decide (PySem.W.findIn K (.ref (He.ga K "Late")) "own_over" = some none),
  fun K => decide (PySem.W.findIn K (.ref (He.ga K "Late")) "own_sums" = some none),
  fun K => decide (PySem.W.findIn K (.ref (He.ga K "Late")) "own_wide" = some none),
  fun K => decide (PySem.W.nsIn K mainGlobals "is_number" = some (some (.ref (He.fAd K ("is_number", none))))),
  fun K => decide (PySem.W.nsIn K mainGlobals "common" = some (some (.ref (He.fAd K ("common", none))))),
  fun K => decide (PySem.W.nsIn K mainGlobals "frac" = some (some (.ref (He.fAd K ("frac", none))))),
  fun K => decide (PySem.W.nsIn K mainGlobals "plus" = some (some (.ref (He.fAd K ("plus", none))))),
  fun K => decide (PySem.W.nsIn K mainGlobals "times" = some (some (.ref (He.fAd K ("times", none))))),
  fun K => decide (PySem.W.nsIn K mainGlobals "is_below" = some (some (.ref (He.fAd K ("is_below", none))))),
  fun K => decide (PySem.W.nsIn K mainGlobals "power" = some (some (.ref (He.fAd K ("power", none))))),
  fun K => decide (PySem.W.nsIn K mainGlobals "width_of" = some (some (.ref (He.fAd K ("width_of", none))))),
  fun K => decide (PySem.W.nsIn K mainGlobals "least_power" = some (some (.ref (He.fAd K ("least_power", none))))),
  fun K => decide (PySem.W.nsIn K mainGlobals "told_lag" = some (some (.ref (He.fAd K ("told_lag", none))))),
  fun K => decide (PySem.W.nsIn K mainGlobals "summed" = some (some (.ref (He.fAd K ("summed", none))))),
  fun K => decide (PySem.W.findIn K (.ref (He.ga K "Late")) "__init__" = some (some (.ref (He.fAd K ("Late", some "__init__"))))),
  fun K => PySem.W.isFn K (.ref (He.fAd K ("Late", some "__init__")))]
def hdP1 : List HD.Pr := [
  fun K => decide (PySem.W.findIn K (.ref (He.ga K "Late")) "step_at" = some (some (.ref (He.fAd K ("Late", some "step_at"))))),
  fun K => PySem.W.isFn K (.ref (He.fAd K ("Late", some "step_at"))),
  fun K => decide (PySem.W.findIn K (.ref (He.ga K "Late")) "figure" = some (some (.ref (He.fAd K ("Late", some "figure"))))),
  fun K => PySem.W.isFn K (.ref (He.fAd K ("Late", some "figure"))),
  fun K => decide (PySem.W.findIn K (.ref (He.ga K "Late")) "settled" = some (some (.ref (He.fAd K ("Late", some "settled"))))),
  fun K => PySem.W.isFn K (.ref (He.fAd K ("Late", some "settled"))),
  fun K => decide (PySem.W.findIn K (.ref (He.ga K "Late")) "first" = some (some (.ref (He.fAd K ("Late", some "first"))))),
  fun K => PySem.W.isFn K (.ref (He.fAd K ("Late", some "first"))),
  fun K => decide (PySem.W.findIn K (.ref (He.ga K "Late")) "behind" = some (some (.ref (He.fAd K ("Late", some "behind"))))),
  fun K => PySem.W.isFn K (.ref (He.fAd K ("Late", some "behind"))),
  fun K => decide (PySem.W.findIn K (.ref (He.ga K "Late")) "states" = some (some (.ref (He.fAd K ("Late", some "states"))))),
  fun K => PySem.W.isFn K (.ref (He.fAd K ("Late", some "states"))),
  fun K => decide (PySem.W.nsIn K mainGlobals "worst_lag" = some (some (.ref (He.fAd K ("worst_lag", none))))),
  fun K => decide (PySem.W.nsIn K mainGlobals "worst_rows" = some (some (.ref (He.fAd K ("worst_rows", none))))),
  fun K => decide (PySem.W.nsIn K mainGlobals "are_rows" = some (some (.ref (He.fAd K ("are_rows", none))))),
  fun K => decide (PySem.W.nsIn K mainGlobals "shows_worst" = some (some (.ref (He.fAd K ("shows_worst", none))))),
  fun K => decide (PySem.W.nsIn K mainGlobals "_law_cell_at" = some (some (.ref (He.fAd K ("_law_cell_at", none))))),
  fun K => decide (PySem.W.nsIn K mainGlobals "_law_box" = some (some (.ref (He.fAd K ("_law_box", none))))),
  fun K => decide (PySem.W.nsIn K mainGlobals "_law_take" = some (some (.ref (He.fAd K ("_law_take", none))))),
  fun K => decide (PySem.W.nsIn K mainGlobals "_law_of" = some (some (.ref (He.fAd K ("_law_of", none))))),
  fun K => decide (PySem.W.nsIn K mainGlobals "_law_pow" = some (some (.ref (He.fAd K ("_law_pow", none))))),
  fun K => decide (PySem.W.nsIn K mainGlobals "_law_sum" = some (some (.ref (He.fAd K ("_law_sum", none))))),
  fun K => decide (PySem.W.nsIn K mainGlobals "_law_told" = some (some (.ref (He.fAd K ("_law_told", none))))),
  fun K => decide (PySem.W.nsIn K mainGlobals "_law_is_small" = some (some (.ref (He.fAd K ("_law_is_small", none))))),
  fun K => decide (PySem.W.nsIn K mainGlobals "_law_worst" = some (some (.ref (He.fAd K ("_law_worst", none)))))]
def hdP2 : List HD.Pr := [
  fun K => decide (PySem.W.nsIn K mainGlobals "_law_right" = some (some (.ref (He.fAd K ("_law_right", none))))),
  fun K => decide (PySem.W.nsIn K mainGlobals "law" = some (some (.ref (He.fAd K ("law", none))))),
  fun K => decide (PySem.W.nsIn K mainGlobals "abs" = some none),
  fun K => decide (PySem.W.nsIn K mainGlobals "all" = some none),
  fun K => decide (PySem.W.nsIn K mainGlobals "bool" = some none),
  fun K => decide (PySem.W.nsIn K mainGlobals "int" = some none),
  fun K => decide (PySem.W.nsIn K mainGlobals "isinstance" = some none),
  fun K => decide (PySem.W.nsIn K mainGlobals "len" = some none),
  fun K => decide (PySem.W.nsIn K mainGlobals "list" = some none),
  fun K => decide (PySem.W.nsIn K mainGlobals "max" = some none),
  fun K => decide (PySem.W.nsIn K mainGlobals "min" = some none),
  fun K => decide (PySem.W.nsIn K mainGlobals "range" = some none),
  fun K => decide (PySem.W.nsIn K mainGlobals "sorted" = some none),
  fun K => decide (PySem.W.nsIn K mainGlobals "sum" = some none),
  fun K => decide (PySem.W.nsIn K mainGlobals "tuple" = some none),
  fun K => decide (PySem.W.nsIn K mainGlobals "zip" = some none),
  HD.litB (fun _ => mainGlobals) "MOST_STATES" (.int 2000)]
def hdP : List (List HD.Pr) := [hdP0, hdP1, hdP2]
def hdF0 : List He.DefD := [
  HD.mkD ("is_number", none) "is_number" "is_number" s_is_number [] [],
  HD.mkD ("common", none) "common" "common" s_common [] [],
  HD.mkD ("frac", none) "frac" "frac" s_frac [.int 1] [],
  HD.mkD ("plus", none) "plus" "plus" s_plus [] [],
  HD.mkD ("times", none) "times" "times" s_times [] [],
  HD.mkD ("is_below", none) "is_below" "is_below" s_is_below [] [],
  HD.mkD ("power", none) "power" "power" s_power [] [],
  HD.mkD ("width_of", none) "width_of" "width_of" s_width_of [] [],
  HD.mkD ("least_power", none) "least_power" "least_power" s_least_power [] [],
  HD.mkD ("told_lag", none) "told_lag" "told_lag" s_told_lag [] [],
  HD.mkD ("summed", none) "summed" "summed" s_summed [] [],
  HD.mkD ("Late", some "__init__") "__init__" "Late.__init__" s_Late_init [] [],
  HD.mkD ("Late", some "step_at") "step_at" "Late.step_at" s_Late_step_at [] [],
  HD.mkD ("Late", some "figure") "figure" "Late.figure" s_Late_figure [] [],
  HD.mkD ("Late", some "settled") "settled" "Late.settled" s_Late_settled [] [],
  HD.mkD ("Late", some "first") "first" "Late.first" s_Late_first [] [],
  HD.mkD ("Late", some "behind") "behind" "Late.behind" s_Late_behind [] [],
  HD.mkD ("Late", some "states") "states" "Late.states" s_Late_states [] [],
  HD.mkD ("worst_lag", none) "worst_lag" "worst_lag" s_worst_lag [] [],
  HD.mkD ("worst_rows", none) "worst_rows" "worst_rows" s_worst_rows [] [],
  HD.mkD ("are_rows", none) "are_rows" "are_rows" s_are_rows [] [],
  HD.mkD ("shows_worst", none) "shows_worst" "shows_worst" s_shows_worst [] [],
  HD.mkD ("_law_cell_at", none) "_law_cell_at" "_law_cell_at" s_Lcell_at [] [],
  HD.mkD ("_law_box", none) "_law_box" "_law_box" s_Lbox [] [],
  HD.mkD ("_law_take", none) "_law_take" "_law_take" s_Ltake [] []]
def hdF1 : List He.DefD := [
  HD.mkD ("_law_of", none) "_law_of" "_law_of" s_Lof [] [],
  HD.mkD ("_law_pow", none) "_law_pow" "_law_pow" s_Lpow [] [],
  HD.mkD ("_law_sum", none) "_law_sum" "_law_sum" s_Lsum [] [],
  HD.mkD ("_law_told", none) "_law_told" "_law_told" s_Ltold [] [],
  HD.mkD ("_law_is_small", none) "_law_is_small" "_law_is_small" s_Lis_small [] [],
  HD.mkD ("_law_worst", none) "_law_worst" "_law_worst" s_Lworst [] [],
  HD.mkD ("_law_right", none) "_law_right" "_law_right" s_Lright [] [],
  HD.mkD ("law", none) "law" "law" s_law [] []]
def hdF : List (List He.DefD) := [hdF0, hdF1]
def hdT : List He.Tab := []
def hdN0 : List PySem.Str := ["TooGreat", "is_number", "common", "frac", "plus", "times", "is_below", "power", "MOST_STATES", "width_of", "least_power", "told_lag", "summed", "Late", "worst_lag", "worst_rows", "are_rows", "shows_worst", "_law_cell_at", "_law_box", "_law_take", "_law_of", "_law_pow", "_law_sum", "_law_told"]
def hdN1 : List PySem.Str := ["_law_is_small", "_law_worst", "_law_right"]
def hdN : List PySem.Str := hdN0 ++ (hdN1)
abbrev hdR : PySem.W.OpenRow := PySem.W.OpenLaw.row PySem.Challenge.rw_firstfigures_k31_worst_lags_that_are_one
abbrev hdV : Program := PySem.W.view hdR.prog [32]
def hdA : List Addr := [3, 6, 4, 31, 41, 48, 56, 63, 70, 77, 84, 89, 96, 103, 108, 165, 174, 179, 184, 189, 196, 203, 210, 217, 224, 229, 234, 239, 246, 251, 258, 30, 40, 47, 55, 49, 62, 69, 76, 83, 88, 95, 102, 107, 164, 173, 178, 183, 188, 195, 202, 209, 216, 223, 228, 233, 238, 245, 250, 257, 28, 29, 32, 120, 127, 134, 141, 148, 155, 162, 163, 166, 167, 27, 119, 126, 133, 140, 147, 154, 161]
abbrev hdK : PySem.W.Hook := HD.hookH hdA hdP hdF hdT
def hdO (s : PySem.W.SharedT) : HD.AlH := HD.obsHG hdA hdP hdF hdT (HandSHeadRun.getT s)
theorem hdO_eq (s : PySem.W.SharedT) : hdO s = hdK.obs s.abs := HD.obsHG_eq (HandSHeadRun.getT_eq s)
theorem hdEf (w : PySem.World) : HandSHeadRun.RunEq hdR hdV hdK hdO 20000 hdN (w.withFollow "special-get-raises" false) := by
  intro os
  kernel_rfl
theorem hdEt (w : PySem.World) : HandSHeadRun.RunEq hdR hdV hdK hdO 20000 hdN (w.withFollow "special-get-raises" true) := by
  intro os
  kernel_rfl
theorem hdE (w : PySem.World) : HandSHeadRun.RunEq hdR hdV hdK hdO 20000 hdN w := PySem.W.byRow2 "special-get-raises" (P := fun w => HandSHeadRun.RunEq hdR hdV hdK hdO 20000 hdN w) hdEf hdEt w
end HDR
/-! A layer over the hand layer: values as data (no addresses but of what changes), readings as predicates over data. -/
namespace DL
open PySem PySem.Spec PyProof.Rows L2

/-- data: what a value is, all through; obj: a thing that may change, by its place -/
inductive D where
  | non | bl (b : Bool) | int (i : Int) | str (s : Str) | ty (n : String) | lst (xs : List D) | ext (xs : List D) | tup (xs : List D) | obj (a : Addr)
  /-- a tuple made in the run -/
  | tq (xs : List D)

/-- a tuple as data: made in the run, or standing in the written part -/
def TupAt (K : PySem.W.Frag) (I : Hp) (a : Addr) (xs : List V) : Prop := I a = some (.tup xs) ∨
    ∃ (o : Obj) (its : Array Value) (n : Nat), K.lookup a = some o ∧ o.cls = .type "tuple" ∧ o.data = .seq its n ∧ its.size ≤ sizeLine ∧ Vals xs its.toList
mutual
def Rep (K : PySem.W.Frag) (I : Hp) : D → V → Prop
  | .non, v => v = .non
  | .bl b, v => v = .bl b
  | .int i, v => v = .int i
  | .str s, v => v = .str s
  | .ty n, v => v = .ty n
  | .lst ds, v => ∃ a xs, v = .ref a ∧ I a = some (.lst xs) ∧ RepL K I ds xs
  | .ext ds, v => ∃ a xs, v = .ref a ∧ SqL K I a xs ∧ RepL K I ds xs
  | .tup ds, v => ∃ a xs, v = .ref a ∧ TupAt K I a xs ∧ RepL K I ds xs
  | .obj a, v => v = .ref a
  | .tq ds, v => ∃ a xs, v = .ref a ∧ I a = some (.tup xs) ∧ RepL K I ds xs
def RepL (K : PySem.W.Frag) (I : Hp) : List D → List V → Prop
  | [], vs => vs = []
  | d :: ds, vs => ∃ v r, vs = v :: r ∧ Rep K I d v ∧ RepL K I ds r
end

/-- what a changing thing holds -/
inductive MO where
  | lst (xs : List D)
  | ins (C : Addr) (fs : List (Str × D))
  | dK (kvs : List (Key × D))
  | dZ (o : Obj) (vs : List (Key × V)) (kvs : List (Key × D))
  | dT (kvs : List (List Key × D))
  | dU (o : Obj) (vs : List (List Key × V)) (kvs : List (List Key × D))
  | exc (C : Addr) (d : Option Addr)
  | xdD (fs : List (Str × D))
  /-- a table of code objects: each that it tells bears the name q -/
  | tab (q : Str)
abbrev Store := Addr → Option MO
abbrev DSt := List (Option D)
def supd (S : Store) (a : Addr) (m : MO) : Store := fun b => if b = a then some m else S b
def RepF {κ : Type} (K : PySem.W.Frag) (I : Hp) : List (κ × D) → List (κ × V) → Prop
  | [], vs => vs = []
  | d :: ds, vs => ∃ v r, vs = (d.1, v) :: r ∧ Rep K I d.2 v ∧ RepF K I ds r
/-- at a: an exception of the class at C, d its dict -/
def exv (a C : Addr) (d : Option Addr) : HO := .ext fun h => ∃ (oe : Obj) (xs : Array Value), h.get? a = some oe ∧ (oe.cls = .ref C ∧ oe.dict = d) ∧ oe.data = .fields xs
def RepM (K : PySem.W.Frag) (I H : Hp) (a : Addr) : MO → Prop
  | .lst ds => ∃ xs, H a = some (.lst xs) ∧ RepL K I ds xs
  | .ins C fs => ∃ dx vs, H a = some (.ins C dx vs) ∧ H dx = some (.own a) ∧ RepF K I fs vs
  | .dK kvs => ∃ vs, H a = some (.dK vs) ∧ RepF K I kvs vs
  | .dZ o vs kvs => H a = some (.frz o (.dK vs)) ∧ RepF K I kvs vs
  | .dT kvs => ∃ vs, H a = some (.dT vs) ∧ RepF K I kvs vs
  | .dU o vs kvs => H a = some (.frz o (.dT vs)) ∧ RepF K I kvs vs
  | .exc C d => H a = some (exv a C d)
  | .xdD fs => ∃ vs, H a = some (.xd vs) ∧ RepF K I fs vs
  | .tab q => ∃ ps : Array Value, H a = some (.tbl ps) ∧ TriplesOk ps.toList ∧ ∀ (pos : Pos) (cv : Value), codeAmong pos ps.toList = some cv → ∃ c, cv = .ref c ∧ I c = some (LamX.CodeO c q)
/-- what is hidden is no instance's own dict, no tuple -/
def NoHid (o : HO) : Prop := (∀ y, o ≠ .own y) ∧ ∀ ys, o ≠ .tup ys

section
variable {K : PySem.W.Frag} {I I' I'' H H' F : Hp} {S S' : Store}
theorem tupAt_same {H H' : Hp} {a : Addr} {xs : List V} (e : Same H H') (h : TupAt K H a xs) : TupAt K H' a xs := by
  rcases h with h | h
  · exact .inl (e _ _ h)
  · exact .inr h
theorem sqT_same {H H' : Hp} {a : Addr} {xs : List V} (e : Same H H') (h : TupAt K H a xs) : SqT K H' a xs := by
  rcases h with h | h
  · exact .inl (.inl (e _ _ h))
  · exact .inr h
mutual
theorem Rep.mono (e : Same I I') : ∀ (d : D) (v : V), Rep K I d v → Rep K I' d v
  | .non, _, h => by simpa only [Rep] using h
  | .bl _, _, h => by simpa only [Rep] using h
  | .int _, _, h => by simpa only [Rep] using h
  | .str _, _, h => by simpa only [Rep] using h
  | .ty _, _, h => by simpa only [Rep] using h
  | .obj _, _, h => by simpa only [Rep] using h
  | .lst ds, v, h => by
    simp only [Rep] at h ⊢
    obtain ⟨a, xs, rfl, hs, hr⟩ := h
    exact ⟨a, xs, rfl, e _ _ hs, RepL.mono e ds xs hr⟩
  | .ext ds, v, h => by
    simp only [Rep] at h ⊢
    obtain ⟨a, xs, rfl, hs, hr⟩ := h
    exact ⟨a, xs, rfl, e.seq hs, RepL.mono e ds xs hr⟩
  | .tup ds, v, h => by
    simp only [Rep] at h ⊢
    obtain ⟨a, xs, rfl, hs, hr⟩ := h
    exact ⟨a, xs, rfl, tupAt_same e hs, RepL.mono e ds xs hr⟩
  | .tq ds, v, h => by
    simp only [Rep] at h ⊢
    obtain ⟨a, xs, rfl, hs, hr⟩ := h
    exact ⟨a, xs, rfl, e _ _ hs, RepL.mono e ds xs hr⟩
theorem RepL.mono (e : Same I I') : ∀ (ds : List D) (vs : List V), RepL K I ds vs → RepL K I' ds vs
  | [], _, h => by simpa only [RepL] using h
  | d :: ds, vs, h => by
    simp only [RepL] at h ⊢
    obtain ⟨v, r, rfl, h1, h2⟩ := h
    exact ⟨v, r, rfl, Rep.mono e d v h1, RepL.mono e ds r h2⟩
end
theorem RepF.mono {κ : Type} (e : Same I I') : ∀ (ds : List (κ × D)) (vs : List (κ × V)), RepF K I ds vs → RepF K I' ds vs
  | [], _, h => by simpa only [RepF] using h
  | d :: ds, vs, h => by
    simp only [RepF] at h ⊢
    obtain ⟨v, r, rfl, h1, h2⟩ := h
    exact ⟨v, r, rfl, Rep.mono e d.2 v h1, RepF.mono e ds r h2⟩
theorem RepL.len : ∀ {ds : List D} {vs : List V}, RepL K I ds vs → vs.length = ds.length
  | [], _, h => by
    simp only [RepL] at h
    subst h; rfl
  | d :: ds, vs, h => by
    simp only [RepL] at h
    obtain ⟨v, r, rfl, h1, h2⟩ := h
    simp [RepL.len h2]
theorem RepL.get : ∀ {ds : List D} {vs : List V} {i : Nat} {d : D}, RepL K I ds vs → ds[i]? = some d → ∃ v, vs[i]? = some v ∧ Rep K I d v
  | [], _, _, _, _, e => by simp at e
  | d :: ds, vs, 0, x, h, e => by
    simp only [RepL] at h
    obtain ⟨v, r, rfl, h1, h2⟩ := h
    simp at e; subst e
    exact ⟨v, rfl, h1⟩
  | d :: ds, vs, i + 1, x, h, e => by
    simp only [RepL] at h
    obtain ⟨v, r, rfl, h1, h2⟩ := h
    obtain ⟨w, e1, e2⟩ := RepL.get (i := i) h2 (by simpa using e)
    exact ⟨w, by simpa using e1, e2⟩
theorem RepL.app : ∀ {ds es : List D} {vs ws : List V}, RepL K I ds vs → RepL K I es ws → RepL K I (ds ++ es) (vs ++ ws)
  | [], _, _, _, h, h' => by
    simp only [RepL] at h
    subst h; simpa using h'
  | d :: ds, es, vs, ws, h, h' => by
    simp only [RepL] at h
    obtain ⟨v, r, rfl, h1, h2⟩ := h
    simp only [List.cons_append, RepL]
    exact ⟨v, r ++ ws, rfl, h1, h2.app h'⟩
theorem RepL.nil : RepL K I [] [] := by simp only [RepL]
theorem RepL.cons {d : D} {v : V} {ds : List D} {vs : List V} (h : Rep K I d v) (h' : RepL K I ds vs) : RepL K I (d :: ds) (v :: vs) := by
  simp only [RepL]
  exact ⟨v, vs, rfl, h, h'⟩
theorem RepL.one {d : D} {v : V} (h : Rep K I d v) : RepL K I [d] [v] := RepL.cons h RepL.nil
theorem RepL.set : ∀ {ds : List D} {vs : List V} {d : D} {v : V} (i : Nat), RepL K I ds vs → Rep K I d v → RepL K I (ds.set i d) (vs.set i v)
  | [], _, _, _, _, h, _ => by
    simp only [RepL] at h
    subst h; simp only [List.set_nil]; exact RepL.nil
  | d :: ds, vs, x, y, 0, h, h' => by
    simp only [RepL] at h
    obtain ⟨v, r, rfl, h1, h2⟩ := h
    exact RepL.cons h' h2
  | d :: ds, vs, x, y, i + 1, h, h' => by
    simp only [RepL] at h
    obtain ⟨v, r, rfl, h1, h2⟩ := h
    exact RepL.cons h1 (h2.set i h')
theorem RepL.drop : ∀ {ds : List D} {vs : List V} (n : Nat), RepL K I ds vs → RepL K I (ds.drop n) (vs.drop n)
  | _, _, 0, h => by simpa using h
  | [], _, n + 1, h => by
    simp only [RepL] at h
    subst h; simp only [List.drop_nil]; exact RepL.nil
  | d :: ds, vs, n + 1, h => by
    simp only [RepL] at h
    obtain ⟨v, r, rfl, h1, h2⟩ := h
    simpa using h2.drop n
theorem RepL.take : ∀ {ds : List D} {vs : List V} (n : Nat), RepL K I ds vs → RepL K I (ds.take n) (vs.take n)
  | _, _, 0, h => by simp only [List.take_zero]; exact RepL.nil
  | [], _, n + 1, h => by
    simp only [RepL] at h
    subst h; simp only [List.take_nil]; exact RepL.nil
  | d :: ds, vs, n + 1, h => by
    simp only [RepL] at h
    obtain ⟨v, r, rfl, h1, h2⟩ := h
    simp only [List.take_succ_cons]
    exact RepL.cons h1 (h2.take n)
theorem RepL.inv1 {d : D} {vs : List V} (h : RepL K I [d] vs) : ∃ v, vs = [v] ∧ Rep K I d v := by
  simp only [RepL] at h
  obtain ⟨v, r, rfl, h1, rfl⟩ := h
  exact ⟨v, rfl, h1⟩
theorem RepL.inv2 {d e : D} {vs : List V} (h : RepL K I [d, e] vs) : ∃ v w, vs = [v, w] ∧ Rep K I d v ∧ Rep K I e w := by
  simp only [RepL] at h
  obtain ⟨v, r, rfl, h1, w, r', rfl, h2, rfl⟩ := h
  exact ⟨v, w, rfl, h1, h2⟩
theorem RepL.inv3 {d e f : D} {vs : List V} (h : RepL K I [d, e, f] vs) : ∃ v w u, vs = [v, w, u] ∧ Rep K I d v ∧ Rep K I e w ∧ Rep K I f u := by
  simp only [RepL] at h
  obtain ⟨v, r, rfl, h1, w, r', rfl, h2, u, r'', rfl, h3, rfl⟩ := h
  exact ⟨v, w, u, rfl, h1, h2, h3⟩
theorem rep_int {i : Int} : Rep K I (.int i) (.int i) := by simp only [Rep]
theorem rep_bl {b : Bool} : Rep K I (.bl b) (.bl b) := by simp only [Rep]
theorem rep_str {s : Str} : Rep K I (.str s) (.str s) := by simp only [Rep]
theorem rep_non : Rep K I .non .non := by simp only [Rep]
theorem Rep.int_of {i : Int} {v : V} (h : Rep K I (.int i) v) : v = .int i := by simpa only [Rep] using h
theorem Rep.bl_of {i : Bool} {v : V} (h : Rep K I (.bl i) v) : v = .bl i := by simpa only [Rep] using h
theorem Rep.str_of {i : Str} {v : V} (h : Rep K I (.str i) v) : v = .str i := by simpa only [Rep] using h
theorem Rep.non_of {v : V} (h : Rep K I .non v) : v = .non := by simpa only [Rep] using h
theorem Rep.obj_of {a : Addr} {v : V} (h : Rep K I (.obj a) v) : v = .ref a := by simpa only [Rep] using h
theorem Rep.lst_of {ds : List D} {v : V} (h : Rep K I (.lst ds) v) : ∃ a xs, v = .ref a ∧ I a = some (.lst xs) ∧ RepL K I ds xs := by simpa only [Rep] using h
theorem Rep.ext_of {ds : List D} {v : V} (h : Rep K I (.ext ds) v) : ∃ a xs, v = .ref a ∧ SqL K I a xs ∧ RepL K I ds xs := by simpa only [Rep] using h
theorem Rep.tup_of {ds : List D} {v : V} (h : Rep K I (.tup ds) v) : ∃ a xs, v = .ref a ∧ TupAt K I a xs ∧ RepL K I ds xs := by simpa only [Rep] using h
theorem Rep.tq_of {ds : List D} {v : V} (h : Rep K I (.tq ds) v) : ∃ a xs, v = .ref a ∧ I a = some (.tup xs) ∧ RepL K I ds xs := by simpa only [Rep] using h

/-! ### the heap behind the data -/
structure Ok (K : PySem.W.Frag) (I : Hp) (S : Store) (F H : Hp) : Prop where
  i : ∀ a o, I a = some o → H a = some o
  s : ∀ a m, S a = some m → I a = none ∧ RepM K I H a m
  f : ∀ a o, F a = some o → H a = some o ∧ I a = none ∧ S a = none ∧ NoHid o

theorem RepM.there {a : Addr} {m : MO} (h : RepM K I H a m) : ∃ o, H a = some o ∧ ∀ y, o ≠ .own y := by
  cases m with
  | lst ds => obtain ⟨xs, e, _⟩ := h; exact ⟨_, e, fun y z => by cases z⟩
  | ins C fs => obtain ⟨dx, vs, e, _⟩ := h; exact ⟨_, e, fun y z => by cases z⟩
  | dK kvs => obtain ⟨vs, e, _⟩ := h; exact ⟨_, e, fun y z => by cases z⟩
  | dZ o vs kvs => exact ⟨_, h.1, fun y z => by cases z⟩
  | dT kvs => obtain ⟨vs, e, _⟩ := h; exact ⟨_, e, fun y z => by cases z⟩
  | dU o vs kvs => exact ⟨_, h.1, fun y z => by cases z⟩
  | exc C d => exact ⟨_, h, fun y z => by unfold exv at z; cases z⟩
  | xdD fs => obtain ⟨vs, e, _⟩ := h; exact ⟨_, e, fun y z => by cases z⟩
  | tab q => obtain ⟨ps, e, _⟩ := h; exact ⟨_, e, fun y z => by cases z⟩
theorem RepM.mono {a : Addr} {m : MO} (h : RepM K I H a m) (e : Same I I') (ha : H' a = H a) (hd : ∀ dx, H dx = some (.own a) → H' dx = some (.own a)) : RepM K I' H' a m := by
  cases m with
  | lst ds => obtain ⟨xs, q, r⟩ := h; exact ⟨xs, ha.trans q, r.mono e⟩
  | ins C fs => obtain ⟨dx, vs, q, q2, r⟩ := h; exact ⟨dx, vs, ha.trans q, hd dx q2, r.mono e⟩
  | dK kvs => obtain ⟨vs, q, r⟩ := h; exact ⟨vs, ha.trans q, r.mono e⟩
  | dZ o vs kvs => exact ⟨ha.trans h.1, h.2.mono e⟩
  | dT kvs => obtain ⟨vs, q, r⟩ := h; exact ⟨vs, ha.trans q, r.mono e⟩
  | dU o vs kvs => exact ⟨ha.trans h.1, h.2.mono e⟩
  | exc C d => exact ha.trans h
  | xdD fs => obtain ⟨vs, q, r⟩ := h; exact ⟨vs, ha.trans q, r.mono e⟩
  | tab q => obtain ⟨ps, q, t, r⟩ := h; exact ⟨ps, ha.trans q, t, fun pos cv hc => let ⟨c, e1, e2⟩ := r pos cv hc; ⟨c, e1, e _ _ e2⟩⟩
theorem Ok.same (h : Ok K I S F H) : Same I H := h.i
theorem Ok.freshI (h : Ok K I S F H) {p : Addr} (n : H p = none) : I p = none := by
  cases e : I p with
  | none => rfl
  | some o => rw [h.i p o e] at n; cases n
theorem Ok.freshS (h : Ok K I S F H) {p : Addr} (n : H p = none) : S p = none := by
  cases e : S p with
  | none => rfl
  | some o =>
    obtain ⟨_, q, _⟩ := (h.s p o e).2.there
    rw [q] at n; cases n
theorem Ok.freshF (h : Ok K I S F H) {p : Addr} (n : H p = none) : F p = none := by
  cases e : F p with
  | none => rfl
  | some o => rw [(h.f p o e).1] at n; cases n
theorem same_new {p : Addr} {o : HO} (n : I p = none) : Same I (upd I p o) := fun b x e => by
  rw [upd_ne (ne_of_none e n)]
  exact e
/-- a new thing that never changes -/
theorem Ok.newI (h : Ok K I S F H) {p : Addr} {o : HO} (n : H p = none) : Ok K (upd I p o) S F (upd H p o) := by
  refine ⟨fun a x e => ?_, fun a m e => ?_, fun a x e => ?_⟩
  · by_cases q : a = p
    · subst q; rw [upd_same] at e ⊢; exact e
    · rw [upd_ne q] at e ⊢; exact h.i a x e
  · obtain ⟨h1, h2⟩ := h.s a m e
    obtain ⟨x, h3, _⟩ := h2.there
    have ne : a ≠ p := ne_of_none h3 n
    refine ⟨by rw [upd_ne ne]; exact h1, h2.mono (same_new (h.freshI n)) (upd_ne ne) fun dx q => ?_⟩
    rw [upd_ne (ne_of_none q n)]; exact q
  · obtain ⟨h1, h2, h3, h4⟩ := h.f a x e
    have ne : a ≠ p := ne_of_none h1 n
    exact ⟨by rw [upd_ne ne]; exact h1, by rw [upd_ne ne]; exact h2, h3, h4⟩
/-- a new list that may change -/
theorem Ok.newM (h : Ok K I S F H) {p : Addr} {xs : List V} {ds : List D} (n : H p = none) (r : RepL K I ds xs) : Ok K I (supd S p (.lst ds)) F (upd H p (.lst xs)) := by
  refine ⟨fun a x e => ?_, fun a m e => ?_, fun a x e => ?_⟩
  · rw [upd_ne (ne_of_none (h.i a x e) n)]; exact h.i a x e
  · unfold supd at e
    by_cases q : a = p
    · subst q
      rw [if_pos rfl] at e; cases e
      exact ⟨h.freshI n, xs, upd_same, r⟩
    · rw [if_neg q] at e
      obtain ⟨h1, h2⟩ := h.s a m e
      refine ⟨h1, h2.mono (Same.refl I) (upd_ne q) fun dx q => ?_⟩
      rw [upd_ne (ne_of_none q n)]; exact q
  · obtain ⟨h1, h2, h3, h4⟩ := h.f a x e
    have ne : a ≠ p := ne_of_none h1 n
    exact ⟨by rw [upd_ne ne]; exact h1, h2, by unfold supd; rw [if_neg ne]; exact h3, h4⟩
/-- a new thing that is hidden -/
theorem Ok.newF (h : Ok K I S F H) {p : Addr} {o : HO} (n : H p = none) (no : NoHid o) : Ok K I S (upd F p o) (upd H p o) := by
  refine ⟨fun a x e => ?_, fun a m e => ?_, fun a x e => ?_⟩
  · rw [upd_ne (ne_of_none (h.i a x e) n)]; exact h.i a x e
  · obtain ⟨h1, h2⟩ := h.s a m e
    obtain ⟨x, h3, _⟩ := h2.there
    have ne : a ≠ p := ne_of_none h3 n
    refine ⟨h1, h2.mono (Same.refl I) (upd_ne ne) fun dx q => ?_⟩
    rw [upd_ne (ne_of_none q n)]; exact q
  · by_cases q : a = p
    · subst q
      rw [upd_same] at e ⊢; cases e
      exact ⟨rfl, h.freshI n, h.freshS n, no⟩
    · rw [upd_ne q] at e
      obtain ⟨h1, h2, h3, h4⟩ := h.f a x e
      exact ⟨by rw [upd_ne q]; exact h1, h2, h3, h4⟩
/-- a changing list changes -/
theorem Ok.write (h : Ok K I S F H) {p : Addr} {m : MO} {o : HO} {m' : MO} (e : S p = some m) (no : ∀ y, H p ≠ some (.own y)) (r : RepM K I (upd H p o) p m') : Ok K I (supd S p m') F (upd H p o) := by
  obtain ⟨i0, m0⟩ := h.s p m e
  refine ⟨fun a x q => ?_, fun a m q => ?_, fun a x q => ?_⟩
  · rw [upd_ne (ne_of_none q i0)]; exact h.i a x q
  · unfold supd at q
    by_cases z : a = p
    · subst z
      rw [if_pos rfl] at q; cases q
      exact ⟨i0, r⟩
    · rw [if_neg z] at q
      obtain ⟨h1, h2⟩ := h.s a m q
      refine ⟨h1, h2.mono (Same.refl I) (upd_ne z) fun dx q => ?_⟩
      by_cases zz : dx = p
      · subst zz; exact absurd q (no _)
      · rw [upd_ne zz]; exact q
  · obtain ⟨h1, h2, h3, h4⟩ := h.f a x q
    have ne : a ≠ p := fun z => by subst z; rw [h3] at e; cases e
    exact ⟨by rw [upd_ne ne]; exact h1, h2, by unfold supd; rw [if_neg ne]; exact h3, h4⟩
theorem Ok.writeL (h : Ok K I S F H) {p : Addr} {m : MO} {xs : List V} {ds : List D} (e : S p = some m) (r : RepL K I ds xs) : Ok K I (supd S p (.lst ds)) F (upd H p (.lst xs)) := by
  refine h.write e (fun y z => ?_) ⟨xs, upd_same, r⟩
  obtain ⟨o, q, no⟩ := (h.s p m e).2.there
  rw [q] at z
  exact no y (Option.some.inj z)
/-- a hidden thing changes -/
theorem Ok.writeF (h : Ok K I S F H) {p : Addr} {o o' : HO} (e : F p = some o) (no : NoHid o') : Ok K I S (upd F p o') (upd H p o') := by
  obtain ⟨f1, f2, f3, f4⟩ := h.f p o e
  refine ⟨fun a x q => ?_, fun a m q => ?_, fun a x q => ?_⟩
  · rw [upd_ne (ne_of_none q f2)]; exact h.i a x q
  · obtain ⟨h1, h2⟩ := h.s a m q
    have ne : a ≠ p := fun z => by subst z; rw [f3] at q; cases q
    refine ⟨h1, h2.mono (Same.refl I) (upd_ne ne) fun dx q => ?_⟩
    by_cases zz : dx = p
    · subst zz
      rw [f1] at q
      exact absurd (Option.some.inj q) (f4.1 _)
    · rw [upd_ne zz]; exact q
  · by_cases z : a = p
    · subst z
      rw [upd_same] at q ⊢; cases q
      exact ⟨rfl, f2, f3, no⟩
    · rw [upd_ne z] at q
      obtain ⟨h1, h2, h3, h4⟩ := h.f a x q
      exact ⟨by rw [upd_ne z]; exact h1, h2, h3, h4⟩
/-- a hidden thing is laid with what never changes -/
theorem Ok.showF (h : Ok K I S F H) {p : Addr} {o : HO} (e : F p = some o) : Ok K (upd I p o) S (fun b => if b = p then none else F b) H := by
  obtain ⟨f1, f2, f3, f4⟩ := h.f p o e
  refine ⟨fun a x q => ?_, fun a m q => ?_, fun a x q => ?_⟩
  · by_cases z : a = p
    · subst z; rw [upd_same] at q; cases q; exact f1
    · rw [upd_ne z] at q; exact h.i a x q
  · obtain ⟨h1, h2⟩ := h.s a m q
    have ne : a ≠ p := fun z => by subst z; rw [f3] at q; cases q
    exact ⟨by rw [upd_ne ne]; exact h1, h2.mono (same_new f2) rfl fun _ q => q⟩
  · by_cases z : a = p
    · rw [if_pos z] at q; cases q
    · rw [if_neg z] at q
      obtain ⟨h1, h2, h3, h4⟩ := h.f a x q
      exact ⟨h1, by rw [upd_ne z]; exact h2, h3, h4⟩
theorem rep_new_lst {p : Addr} {xs : List V} {ds : List D} (n : I p = none) (r : RepL K I ds xs) : Rep K (upd I p (.lst xs)) (.lst ds) (.ref p) := by
  simp only [Rep]
  exact ⟨p, xs, rfl, upd_same, r.mono (same_new n)⟩
theorem rep_new_tup {p : Addr} {xs : List V} {ds : List D} (n : I p = none) (r : RepL K I ds xs) : Rep K (upd I p (.tup xs)) (.tup ds) (.ref p) := by
  simp only [Rep]
  exact ⟨p, xs, rfl, .inl upd_same, r.mono (same_new n)⟩
end

/-! ### slots -/
def RepS (K : PySem.W.Frag) (I : Hp) (ρ : DSt) (σ : L2.St) : Prop := ρ.length = σ.length ∧ ∀ (i : Nat) (d : D), ρ[i]? = some (some d) → ∃ v, σ[i]? = some (some v) ∧ Rep K I d v
section
variable {K : PySem.W.Frag} {I I' : Hp} {ρ : DSt} {σ : L2.St}
theorem RepS.mono (h : RepS K I ρ σ) (e : Same I I') : RepS K I' ρ σ := ⟨h.1, fun i d q => let ⟨v, a, b⟩ := h.2 i d q; ⟨v, a, b.mono e⟩⟩
theorem RepS.set (h : RepS K I ρ σ) {d : D} {v : V} (i : Nat) (r : Rep K I d v) : RepS K I (ρ.set i (some d)) (σ.set i (some v)) := by
  refine ⟨by simp [h.1], fun j x q => ?_⟩
  by_cases hj : i = j
  · subst hj
    by_cases hi : i < ρ.length
    · rw [List.getElem?_set_self hi] at q
      cases q
      exact ⟨v, by rw [List.getElem?_set_self (by rw [← h.1]; exact hi)], r⟩
    · rw [List.getElem?_eq_none (by simpa using hi)] at q; cases q
  · rw [List.getElem?_set_ne hj] at q
    obtain ⟨w, a, b⟩ := h.2 j x q
    exact ⟨w, by rw [List.getElem?_set_ne hj]; exact a, b⟩
theorem RepS.unset (h : RepS K I ρ σ) (i : Nat) : RepS K I (ρ.set i none) (σ.set i none) := by
  refine ⟨by simp [h.1], fun j x q => ?_⟩
  by_cases hj : i = j
  · subst hj
    by_cases hi : i < ρ.length
    · rw [List.getElem?_set_self hi] at q; cases q
    · rw [List.getElem?_eq_none (by simpa using hi)] at q; cases q
  · rw [List.getElem?_set_ne hj] at q
    obtain ⟨w, a, b⟩ := h.2 j x q
    exact ⟨w, by rw [List.getElem?_set_ne hj]; exact a, b⟩
def dwipe (ρ : DSt) : List Nat → DSt
  | [] => ρ
  | v :: vs => (dwipe ρ vs).set v none
theorem RepS.wipe (h : RepS K I ρ σ) : ∀ vs : List Nat, RepS K I (dwipe ρ vs) (L2.wipe σ vs)
  | [] => h
  | v :: vs => (h.wipe vs).unset v
theorem repS_start {N : List Str} {ds : List D} {vs : List V} (r : RepL K I ds vs) : RepS K I (ds.map some ++ List.replicate (N.length - ds.length) none) (L2.start N vs) := by
  have l := r.len
  refine ⟨by simp [L2.start, l], fun i d q => ?_⟩
  by_cases hi : i < ds.length
  · rw [List.getElem?_append_left (by simpa using hi)] at q
    rw [List.getElem?_map] at q
    cases e : ds[i]? with
    | none => rw [e] at q; cases q
    | some x =>
      rw [e] at q
      cases q
      obtain ⟨v, e1, e2⟩ := r.get e
      refine ⟨v, ?_, e2⟩
      unfold L2.start
      rw [List.getElem?_append_left (by simpa [l] using hi), List.getElem?_map, e1]
      rfl
  · rw [List.getElem?_append_right (by simpa using hi)] at q
    rw [List.getElem?_replicate] at q
    split at q <;> cases q
end
end DL

namespace DL
open PySem PySem.Spec PyProof.Rows L2

/-! ### readings over data -/
abbrev DE := DSt → Store → (D → Store → Prop) → Prop
abbrev DT := DSt → Store → (Bool → Store → Prop) → Prop
abbrev DA := DSt → Store → (List D → Store → Prop) → Prop
/-- what is walked: its data, what must stay as it is meanwhile -/
abbrev DI := DSt → Store → (List D → Option (Store → Prop) → Store → Prop) → Prop
structure DEnds where
  nx : DSt → Store → Prop
  rt : D → Store → Prop
  bk : DSt → Store → Prop := fun _ _ => False
  ct : DSt → Store → Prop := fun _ _ => False
  /-- an exception: its class's number, the place of its dict -/
  xc : Nat → Option Addr → DSt → Store → Prop := fun _ _ _ _ => False
abbrev DS := DEnds → DSt → Store → Prop
abbrev DSp := List D → Store → (D → Store → Prop) → Prop

section
variable (K : PySem.W.Frag)
def Sees (I F : Hp) (P : D → Store → Prop) (Q : VK) : Prop := ∀ x S' v I' H', P x S' → Same I I' → Ok K I' S' F H' → Rep K I' x v → Q v H'
def SeesT (I F : Hp) (P : Bool → Store → Prop) (Q : Bool → Hp → Prop) : Prop := ∀ b S' I' H', P b S' → Same I I' → Ok K I' S' F H' → Q b H'
def SeesA (I F : Hp) (P : List D → Store → Prop) (Q : List V → Hp → Prop) : Prop := ∀ xs S' vs I' H', P xs S' → Same I I' → Ok K I' S' F H' → RepL K I' xs vs → Q vs H'
def SeesS (I F : Hp) (P : DSt → Store → Prop) (Q : L2.St → Hp → Prop) : Prop := ∀ ρ S' σ I' H', P ρ S' → Same I I' → Ok K I' S' F H' → RepS K I' ρ σ → Q σ H'
def upE (d : DE) : TE := fun σ H Q => ∃ ρ I S F P, RepS K I ρ σ ∧ Ok K I S F H ∧ d ρ S P ∧ Sees K I F P Q
def upT (d : DT) : TT := fun σ H Q => ∃ ρ I S F P, RepS K I ρ σ ∧ Ok K I S F H ∧ d ρ S P ∧ SeesT K I F P Q
def upA (d : DA) : TA := fun σ H Q => ∃ ρ I S F P, RepS K I ρ σ ∧ Ok K I S F H ∧ d ρ S P ∧ SeesA K I F P Q
structure SeesD (I F : Hp) (DD : DEnds) (E : Ends) : Prop where
  nx : SeesS K I F DD.nx E.nx
  rt : Sees K I F DD.rt E.rt
  bk : SeesS K I F DD.bk E.bk
  ct : SeesS K I F DD.ct E.ct
def upS (d : DS) : TS := fun E σ H => ∃ ρ I S F DD, RepS K I ρ σ ∧ Ok K I S F H ∧ d DD ρ S ∧ SeesD K I F DD E
/-- a def's promise -/
def upSp (d : DSp) : Sp := fun vs H Q _ => ∃ ds I S F P, RepL K I ds vs ∧ Ok K I S F H ∧ d ds S P ∧ Sees K I F P Q
end
section
variable {K : PySem.W.Frag} {I I' F : Hp}
theorem Sees.mono {P : D → Store → Prop} {Q : VK} (h : Sees K I F P Q) (e : Same I I') : Sees K I' F P Q := fun x S' v I2 H' p e2 ok r => h x S' v I2 H' p (e.trans e2) ok r
theorem SeesT.mono {P : Bool → Store → Prop} {Q : Bool → Hp → Prop} (h : SeesT K I F P Q) (e : Same I I') : SeesT K I' F P Q := fun x S' I2 H' p e2 ok => h x S' I2 H' p (e.trans e2) ok
theorem SeesA.mono {P : List D → Store → Prop} {Q : List V → Hp → Prop} (h : SeesA K I F P Q) (e : Same I I') : SeesA K I' F P Q := fun x S' v I2 H' p e2 ok r => h x S' v I2 H' p (e.trans e2) ok r
theorem SeesS.mono {P : DSt → Store → Prop} {Q : L2.St → Hp → Prop} (h : SeesS K I F P Q) (e : Same I I') : SeesS K I' F P Q := fun x S' v I2 H' p e2 ok r => h x S' v I2 H' p (e.trans e2) ok r
theorem SeesD.mono {DD : DEnds} {E : Ends} (h : SeesD K I F DD E) (e : Same I I') : SeesD K I' F DD E := ⟨h.nx.mono e, h.rt.mono e, h.bk.mono e, h.ct.mono e⟩
end

abbrev JE (X : Cx) (e : Expr) (d : DE) : Prop := PE X e (upE X.K d)
abbrev JT (X : Cx) (e : Expr) (d : DT) : Prop := PT X e (upT X.K d)
abbrev JW (X : Cx) (e : Expr) (d : DT) : Prop := PW X e (upT X.K d)
abbrev JA (X : Cx) (es : List Expr) (d : DA) : Prop := PA X es (upA X.K d)
abbrev JS (X : Cx) (st : Stmt) (d : DS) : Prop := PS X st (upS X.K d)
abbrev JSs (X : Cx) (st : List Stmt) (d : DS) : Prop := PSs X st (upS X.K d)

theorem je_of {X : Cx} {e : Expr} {t u : TE} (h : PE X e t) (i : ∀ σ H Q, u σ H Q → t σ H Q) : PE X e u := ⟨fun pins s σ H Q I q => h.run pins s σ H Q I (i _ _ _ q)⟩
theorem jt_of {X : Cx} {e : Expr} {t u : TT} (h : PT X e t) (i : ∀ σ H Q, u σ H Q → t σ H Q) : PT X e u := ⟨fun pins s σ H Q I q => h.run pins s σ H Q I (i _ _ _ q)⟩
theorem jw_of {X : Cx} {e : Expr} {t u : TT} (h : PW X e t) (i : ∀ σ H Q, u σ H Q → t σ H Q) : PW X e u := ⟨fun wh pins s σ H Q I q => h.run wh pins s σ H Q I (i _ _ _ q)⟩
theorem ja_of {X : Cx} {e : List Expr} {t u : TA} (h : PA X e t) (i : ∀ σ H Q, u σ H Q → t σ H Q) : PA X e u := ⟨fun pos pins s σ H Q I q => h.run pos pins s σ H Q I (i _ _ _ q)⟩
theorem js_of {X : Cx} {e : Stmt} {t u : TS} (h : PS X e t) (i : ∀ D σ H, u D σ H → t D σ H) : PS X e u := ⟨fun pins s σ H Q I q => h.run pins s σ H Q I (i _ _ _ q)⟩
theorem jss_of {X : Cx} {e : List Stmt} {t u : TS} (h : PSs X e t) (i : ∀ D σ H, u D σ H → t D σ H) : PSs X e u := ⟨fun pins s σ H Q I q => h.run pins s σ H Q I (i _ _ _ q)⟩

/-! ### names, constants -/
def dVar (i : Nat) : DE := fun ρ S P => match ρ[i]? with
  | some (some x) => P x S
  | _ => False
def dC (x : D) : DE := fun _ S P => P x S
section
variable {X : Cx} {pos : Pos}
theorem je_var (i : Nat) {x : Str} (hN : X.N[i]? = some x := by rfl) (hv : Vis X.env.scope x := by first | exact Or.inl rfl | exact Or.inr (Or.inl rfl) | exact Or.inr (Or.inr rfl)) (hd : (x == ("__debug__" : Str)) = false := by decide)
    (hcd : (x == ("__classdict__" : Str)) = false := by decide) : JE X (.Name x pos) (dVar i) :=
  je_of (pe_var hN hv hd hcd) fun σ H Q h0_ => El54 h0_ fun ρ I S F P rs ok h q => by
    unfold dVar at h
    split at h
    · rename_i x e
      obtain ⟨v, e1, r⟩ := rs.2 i x e
      exact ⟨v, e1, q _ _ _ _ _ h (Same.refl I) ok r⟩
    · exact h.elim
theorem je_c {e : Expr} {x : D} {v : V} (h : PE X e (tC v)) (r : ∀ I, Rep X.K I x v) : JE X e (dC x) :=
  je_of h fun σ H Q h0_ => El54 h0_ fun ρ I S F P rs ok h q => q _ _ _ _ _ h (Same.refl I) ok (r I)
theorem je_int {i : Int} {j} : JE X (.Constant (.int i) j pos) (dC (.int i)) := je_c pe_int fun _ => rep_int
theorem je_bl {b : Bool} {j} : JE X (.Constant (.bool b) j pos) (dC (.bl b)) := je_c pe_bl fun _ => rep_bl
theorem je_non {j} : JE X (.Constant .none j pos) (dC .non) := je_c pe_non fun _ => rep_non
theorem je_str {x : Str} {j} : JE X (.Constant (.str x) j pos) (dC (.str x)) := je_c pe_str fun _ => rep_str
/-- a built-in class as a value -/
theorem je_ty {x : Str} {n : String} (hg : Gl X x) (hm : X.mg x = none) (hv : bootBuiltins x = some (.type n)) (hn : x ≠ "__name__" := by decide) (hd : (x == ("__debug__" : Str)) = false := by decide) : JE X (.Name x pos) (dC (.ty n)) :=
  je_c (pe_bltn (v := .ty n) hg hm hv rfl hn hd) fun _ => by simp only [Rep]

/-! ### operators -/
abbrev D2 := D → D → Store → (D → Store → Prop) → Prop
abbrev D1 := D → Store → (D → Store → Prop) → Prop
def dOp (o : D2) (a b : DE) : DE := fun ρ S P => a ρ S fun x S1 => b ρ S1 fun y S2 => o x y S2 P
def dUn (o : D1) (a : DE) : DE := fun ρ S P => a ρ S fun x S1 => o x S1 P
def Imp2 (K : PySem.W.Frag) (r : R2) (o : D2) : Prop := ∀ x y v w I S F H P Q, Ok K I S F H → Rep K I x v → Rep K I y w → o x y S P → Sees K I F P Q → r v w H Q
def Imp1 (K : PySem.W.Frag) (r : V → Hp → VK → Prop) (o : D1) : Prop := ∀ x v I S F H P Q, Ok K I S F H → Rep K I x v → o x S P → Sees K I F P Q → r v H Q
variable {a b : Expr} {da db : DE}
theorem up_op {K : PySem.W.Frag} {r : R2} {o : D2} (i : Imp2 K r o) : ∀ σ H Q, upE K (dOp o da db) σ H Q → tOp r (upE K da) (upE K db) σ H Q := fun σ H Q h0_ => El54 h0_ fun ρ I S F P rs ok h q =>
  ⟨ρ, I, S, F, _, rs, ok, h, fun x S1 v I1 H1 h1 e1 ok1 r1 => ⟨ρ, I1, S1, F, _, rs.mono e1, ok1, h1, fun y S2 w I2 H2 h2 e2 ok2 r2 =>
    i x y v w I2 S2 F H2 P Q ok2 (r1.mono e2) r2 h2 (q.mono (e1.trans e2))⟩⟩
theorem je_op {op : Operator} {r : R2} {o : D2} (h : OpR X (binaryOp op) r) (i : Imp2 X.K r o) (ha : JE X a da) (hb : JE X b db) : JE X (.BinOp a op b pos) (dOp o da db) := je_of (pe_op h ha hb) (up_op i)
theorem je_un {op : UnaryOp} {r : V → Hp → VK → Prop} {o : D1} (h : UnR X (unaryOp op) r) (i : Imp1 X.K r o) (ha : JE X a da) : JE X (.UnaryOp op a pos) (dUn o da) :=
  je_of (pe_un h ha) fun σ H Q h0_ => El54 h0_ fun ρ I S F P rs ok h q => ⟨ρ, I, S, F, _, rs, ok, h, fun x S1 v I1 H1 h1 e1 ok1 r1 => i x v I1 S1 F H1 P Q ok1 r1 h1 (q.mono e1)⟩
theorem je_cmp {op : CmpOp} {r : R2} {o : D2} (h : OpR X (compareOp op) r) (i : Imp2 X.K r o) (ha : JE X a da) (hb : JE X b db) (hm : behindInMarks op b = false) : JE X (.Compare a [op] [b] pos) (dOp o da db) := je_of (pe_cmpR h ha hb hm) (up_op i)
def dTest (d : DE) : DT := fun ρ S P => d ρ S fun x S1 => match x with
  | .bl k => P k S1
  | _ => False
theorem up_test {K : PySem.W.Frag} {t : TE} {d : DE} (h : ∀ σ H Q, upE K d σ H Q → t σ H Q) : ∀ σ H Q, upT K (dTest d) σ H Q → tTest t σ H Q := fun σ H Q h0_ => El54 h0_ fun ρ I S F P rs ok hh q =>
  h _ _ _ ⟨ρ, I, S, F, _, rs, ok, hh, fun x S1 v I1 H1 h1 e1 ok1 r1 => by
    cases x with
    | bl k => exact ⟨k, r1.bl_of, q k S1 I1 H1 h1 e1 ok1⟩
    | _ => exact h1.elim⟩
theorem jt_cmp {op : CmpOp} {r : R2} {o : D2} (h : OpR X (compareOp op) r) (i : Imp2 X.K r o) (ha : JE X a da) (hb : JE X b db) (hm : behindInMarks op b = false) : JT X (.Compare a [op] [b] pos) (dTest (dOp o da db)) := jt_of (pt_cmpR h ha hb hm) (up_test (up_op i))

/-! ### and, or, not, if -/
def dAnd (t u : DT) : DT := fun ρ S P => t ρ S fun c S1 => if c = true then u ρ S1 P else P false S1
def dOr (t u : DT) : DT := fun ρ S P => t ρ S fun c S1 => if c = true then P true S1 else u ρ S1 P
def dNot (t : DT) : DT := fun ρ S P => t ρ S fun c S1 => P (!c) S1
/-- and, or as values, truths all but the last -/
def dAndV (a b : DE) : DE := fun ρ S P => a ρ S fun x S1 => match x with
  | .bl c => if c = true then b ρ S1 P else P (.bl false) S1
  | _ => False
def dOrV (a b : DE) : DE := fun ρ S P => a ρ S fun x S1 => match x with
  | .bl c => if c = true then P (.bl true) S1 else b ρ S1 P
  | _ => False
def dNotV (a : DE) : DE := fun ρ S P => a ρ S fun x S1 => match x with
  | .bl c => P (.bl (!c)) S1
  | _ => False
def dIf (c : DT) (a b : DE) : DE := fun ρ S P => c ρ S fun k S1 => if k = true then a ρ S1 P else b ρ S1 P
variable {dt du : DT} {rest : List Expr}
theorem jw_and1 (ha : JT X a dt) : JW X (.BoolOp .And [a] pos) dt := pw_and1 ha
theorem jw_or1 (ha : JT X a dt) : JW X (.BoolOp .Or [a] pos) dt := pw_or1 ha
theorem jw_and (ha : JT X a dt) (hb : JW X (.BoolOp .And (b :: rest) pos) du) : JW X (.BoolOp .And (a :: b :: rest) pos) (dAnd dt du) :=
  jw_of (pw_and ha hb) fun σ H Q h0_ => El54 h0_ fun ρ I S F P rs ok h q => ⟨ρ, I, S, F, _, rs, ok, h, fun c S1 I1 H1 h1 e1 ok1 => by
    cases c with
    | true => exact ⟨ρ, I1, S1, F, P, rs.mono e1, ok1, h1, q.mono e1⟩
    | false => exact q _ _ _ _ h1 e1 ok1⟩
theorem jw_or (ha : JT X a dt) (hb : JW X (.BoolOp .Or (b :: rest) pos) du) : JW X (.BoolOp .Or (a :: b :: rest) pos) (dOr dt du) :=
  jw_of (pw_or ha hb) fun σ H Q h0_ => El54 h0_ fun ρ I S F P rs ok h q => ⟨ρ, I, S, F, _, rs, ok, h, fun c S1 I1 H1 h1 e1 ok1 => by
    cases c with
    | false => exact ⟨ρ, I1, S1, F, P, rs.mono e1, ok1, h1, q.mono e1⟩
    | true => exact q _ _ _ _ h1 e1 ok1⟩
theorem jt_w (h : JW X a dt) : JT X a dt := h.pt
theorem jt_not (ha : JT X a dt) : JT X (.UnaryOp .Not a pos) (dNot dt) :=
  jt_of (pt_not ha) fun σ H Q h0_ => El54 h0_ fun ρ I S F P rs ok h q => ⟨ρ, I, S, F, _, rs, ok, h, fun c S1 I1 H1 h1 e1 ok1 => q _ _ _ _ h1 e1 ok1⟩
/-- an expression that gives a truth, as a test -/
theorem jt_val (h : JE X a da) (he : ∀ whole, isTrue a X.env whole = (do let v ← whole; standAt a.pos; holding [v] (truthy v)) := by intro _; rfl) : JT X a (dTest da) :=
  jt_of (pt_val h he) fun σ H Q h0_ => El54 h0_ fun ρ I S F P rs ok hh q => ⟨ρ, I, S, F, _, rs, ok, hh, fun x S1 v I1 H1 h1 e1 ok1 r1 => by
    cases x with
    | bl k => exact ⟨k, r1.bl_of, q k S1 I1 H1 h1 e1 ok1⟩
    | _ => exact h1.elim⟩
theorem je_one {op} (h : JE X a da) : JE X (.BoolOp op [a] pos) da := pe_one h
theorem je_and (ha : JE X a da) (hb : JE X (.BoolOp .And (b :: rest) pos) db) : JE X (.BoolOp .And (a :: b :: rest) pos) (dAndV da db) :=
  je_of (pe_and ha hb) fun σ H Q h0_ => El54 h0_ fun ρ I S F P rs ok h q => ⟨ρ, I, S, F, _, rs, ok, h, fun x S1 v I1 H1 h1 e1 ok1 r1 => by
    cases x with
    | bl c =>
      refine ⟨c, r1.bl_of, ?_⟩
      cases c with
      | true => exact ⟨ρ, I1, S1, F, P, rs.mono e1, ok1, h1, q.mono e1⟩
      | false => exact q _ _ _ _ _ h1 e1 ok1 rep_bl
    | _ => exact h1.elim⟩
theorem je_not (ha : JE X a da) : JE X (.UnaryOp .Not a pos) (dNotV da) :=
  je_of (pe_not ha) fun σ H Q h0_ => El54 h0_ fun ρ I S F P rs ok h q => ⟨ρ, I, S, F, _, rs, ok, h, fun x S1 v I1 H1 h1 e1 ok1 r1 => by
    cases x with
    | bl c => exact ⟨c, r1.bl_of, q _ _ _ _ _ h1 e1 ok1 rep_bl⟩
    | _ => exact h1.elim⟩
theorem je_ifE {c : Expr} (hc : JT X c dt) (ha : JE X a da) (hb : JE X b db) : JE X (.IfExp c a b pos) (dIf dt da db) :=
  je_of (pe_ifExp hc ha hb) fun σ H Q h0_ => El54 h0_ fun ρ I S F P rs ok h q => ⟨ρ, I, S, F, _, rs, ok, h, fun c S1 I1 H1 h1 e1 ok1 => by
    cases c with
    | true => exact ⟨ρ, I1, S1, F, P, rs.mono e1, ok1, h1, q.mono e1⟩
    | false => exact ⟨ρ, I1, S1, F, P, rs.mono e1, ok1, h1, q.mono e1⟩⟩

/-! ### arguments, displays -/
def dNil : DA := fun _ S P => P [] S
def dCons (a : DE) (r : DA) : DA := fun ρ S P => a ρ S fun x S1 => r ρ S1 fun xs S2 => P (x :: xs) S2
variable {es : List Expr} {ds : DA}
theorem ja_nil : JA X [] dNil := ja_of pa_nil fun σ H Q h0_ => El54 h0_ fun ρ I S F P rs ok h q => q _ _ _ _ _ h (Same.refl I) ok RepL.nil
theorem ja_cons (ha : JE X a da) (hr : JA X es ds) (hs : starEach (a :: es) X.env = (false, eval a X.env) :: starEach es X.env := by rfl) : JA X (a :: es) (dCons da ds) :=
  ja_of (pa_cons ha hr hs) fun σ H Q h0_ => El54 h0_ fun ρ I S F P rs ok h q => ⟨ρ, I, S, F, _, rs, ok, h, fun x S1 v I1 H1 h1 e1 ok1 r1 => ⟨ρ, I1, S1, F, _, rs.mono e1, ok1, h1, fun xs S2 vs I2 H2 h2 e2 ok2 r2 =>
    q _ _ _ _ _ h2 (e1.trans e2) ok2 (RepL.cons (r1.mono e2) r2)⟩⟩
def dTup (a : DA) : DE := fun ρ S P => a ρ S fun xs S1 => xs.length ≤ 100000 ∧ P (.tup xs) S1
def dLst (a : DA) : DE := fun ρ S P => a ρ S fun xs S1 => xs.length ≤ 100000 ∧ P (.lst xs) S1
/-- a list that is to change -/
def dLstM (a : DA) : DE := fun ρ S P => a ρ S fun xs S1 => xs.length ≤ 100000 ∧ ∀ p, S1 p = none → P (.obj p) (supd S1 p (.lst xs))
theorem line5 {n : Nat} (h : n ≤ 100000) : n ≤ sizeLine := Nat.le_trans h (by decide)
theorem je_tup {x1} (h : JA X es ds) : JE X (.Tuple es x1 pos) (dTup ds) :=
  je_of (pe_tup h) fun σ H Q h0_ => El54 h0_ fun ρ I S F P rs ok hh q => ⟨ρ, I, S, F, _, rs, ok, hh, fun xs S1 vs I1 H1 ⟨hl, h1⟩ e1 ok1 r1 =>
    ⟨line5 (by rw [r1.len]; exact hl), fun p hp => q _ _ _ _ _ h1 (e1.trans (same_new (ok1.freshI hp))) (ok1.newI hp) (rep_new_tup (ok1.freshI hp) r1)⟩⟩
theorem je_lst (h : JA X es ds) : JE X (.List es pos) (dLst ds) :=
  je_of (pe_lst h) fun σ H Q h0_ => El54 h0_ fun ρ I S F P rs ok hh q => ⟨ρ, I, S, F, _, rs, ok, hh, fun xs S1 vs I1 H1 ⟨hl, h1⟩ e1 ok1 r1 =>
    ⟨line5 (by rw [r1.len]; exact hl), fun p hp => q _ _ _ _ _ h1 (e1.trans (same_new (ok1.freshI hp))) (ok1.newI hp) (rep_new_lst (ok1.freshI hp) r1)⟩⟩
theorem je_lstM (h : JA X es ds) : JE X (.List es pos) (dLstM ds) :=
  je_of (pe_lst h) fun σ H Q h0_ => El54 h0_ fun ρ I S F P rs ok hh q => ⟨ρ, I, S, F, _, rs, ok, hh, fun xs S1 vs I1 H1 ⟨hl, h1⟩ e1 ok1 r1 =>
    ⟨line5 (by rw [r1.len]; exact hl), fun p hp => q _ _ _ _ _ (h1 p (ok1.freshS hp)) e1 (ok1.newM hp r1) (by simp only [Rep])⟩⟩

/-! ### calls -/
def dCall (sp : DSp) (dv : List D) (a : DA) : DE := fun ρ S P => a ρ S fun xs S1 => sp (xs ++ dv) S1 P
abbrev FnD (P : Program) (w : World) (K : PySem.W.Frag) (mg : Str → Option Value) (base : Heap) (k : Nat) (f : Addr) (fd : FuncData) (ps : List Str) (sp : DSp) : Prop := DG.FnG P w K mg base CX0 k f fd ps (upSp K sp)
theorem je_call {k : Nat} {f : Addr} {fd : FuncData} {ps : List Str} {sp : DSp} {dv : List D} {dvs : List V} {dd : List Value} {x : Str} {p : Pos} (G : FnD X.prog X.w X.K X.mg X.base k f fd ps sp) (hr : DG.RoomG k X.A) (hg : Gl X x) (hm : X.mg x = some (.ref f)) (hk : PySem.W.keepIn X.K (.ref f) = true)
    (hb : Binds X.K fd ps dd) (hd : Vals dvs dd) (hdv : ∀ I, RepL X.K I dv dvs) (ha : JA X (a :: es) ds) (hdb : (x == ("__debug__" : Str)) = false := by decide) (he : starEach (a :: es) X.env = (false, eval a X.env) :: starEach es X.env := by rfl)
    (hpl : (backTo pos (starEach es X.env)).any (·.1) = false := by rfl) : JE X (.Call (.Name x p) (a :: es) [] pos) (dCall sp dv ds) :=
  je_of (DG.pe_call G hr hg hm hk hb hd pass0 ha hdb he hpl) fun σ H Q h0_ => El54 h0_ fun ρ I S F P rs ok h q => ⟨ρ, I, S, F, _, rs, ok, h, fun xs S1 vs I1 H1 h1 e1 ok1 r1 => ⟨_, I1, S1, F, P, r1.app (hdv I1), ok1, h1, q.mono e1⟩⟩
/-- a built-in's call, by its rule -/
abbrev DC := List D → Store → (D → Store → Prop) → Prop
def ImpC (K : PySem.W.Frag) (r : List V → Hp → VK → Prop) (o : DC) : Prop := ∀ xs vs I S F H P Q, Ok K I S F H → RepL K I xs vs → o xs S P → Sees K I F P Q → r vs H Q
def dCB (o : DC) (a : DA) : DE := fun ρ S P => a ρ S fun xs S1 => o xs S1 P
theorem up_cb {K : PySem.W.Frag} {r : List V → Hp → VK → Prop} {o : DC} (i : ImpC K r o) : ∀ σ H Q, upE K (dCB o ds) σ H Q → tCB r (upA K ds) σ H Q := fun σ H Q h0_ => El54 h0_ fun ρ I S F P rs ok h q =>
  ⟨ρ, I, S, F, _, rs, ok, h, fun xs S1 vs I1 H1 h1 e1 ok1 r1 => i xs vs I1 S1 F H1 P Q ok1 r1 h1 (q.mono e1)⟩
theorem je_callB {r : List V → Hp → VK → Prop} {o : DC} {id : String} {x : Str} {p : Pos} (hc : CallR X (.builtin id) r) (i : ImpC X.K r o) (hg : Gl X x) (hm : X.mg x = none) (hv : bootBuiltins x = some (.builtin id)) (ha : JA X (a :: es) ds) (hn : x ≠ "__name__" := by decide) (hdb : (x == ("__debug__" : Str)) = false := by decide)
    (hs : starEach (a :: es) X.env = (false, eval a X.env) :: starEach es X.env := by rfl) (hpl : (backTo pos (starEach es X.env)).any (·.1) = false := by rfl) : JE X (.Call (.Name x p) (a :: es) [] pos) (dCB o ds) := je_of (pe_callB hc hg hm hv ha hn hdb hs hpl) (up_cb i)
theorem je_callTy {r : List V → Hp → VK → Prop} {o : DC} {T : String} {x : Str} {p : Pos} (hc : CallR X (.type T) r) (i : ImpC X.K r o) (hg : Gl X x) (hm : X.mg x = none) (hv : bootBuiltins x = some (.type T)) (ha : JA X (a :: es) ds) (hn : x ≠ "__name__" := by decide) (hdb : (x == ("__debug__" : Str)) = false := by decide)
    (hs : starEach (a :: es) X.env = (false, eval a X.env) :: starEach es X.env := by rfl) (hpl : (backTo pos (starEach es X.env)).any (·.1) = false := by rfl) : JE X (.Call (.Name x p) (a :: es) [] pos) (dCB o ds) := je_of (pe_callTy hc hg hm hv ha hn hdb hs hpl) (up_cb i)
end
end DL

namespace DL
open PySem PySem.Spec PyProof.Rows L2

/-! ### statements -/
def dNext : DS := fun DD ρ S => DD.nx ρ S
def dSeq (t u : DS) : DS := fun DD ρ S => t { DD with nx := u DD } ρ S
def dDrop (d : DE) : DS := fun DD ρ S => d ρ S fun _ S1 => DD.nx ρ S1
def dRet (d : DE) : DS := fun DD ρ S => d ρ S DD.rt
def dRetN : DS := fun DD _ S => DD.rt .non S
def dIfS (c : DT) (t u : DS) : DS := fun DD ρ S => c ρ S fun b S1 => if b = true then t DD ρ S1 else u DD ρ S1
def dNever : DS := fun _ _ _ => False
section
variable {X : Cx} {pos : Pos} {st : Stmt} {sts : List Stmt} {t u : DS} {e : Expr} {de : DE} {dc : DT}
theorem jss_nil : JSs X [] dNext := jss_of pss_nil fun D σ H h0_ => El54 h0_ fun ρ I S F DD rs ok h q => q.nx _ _ _ _ _ h (Same.refl I) ok rs
theorem jss_cons (h1 : JS X st t) (h2 : JSs X sts u) : JSs X (st :: sts) (dSeq t u) :=
  jss_of (pss_cons h1 h2) fun D σ H h0_ => El54 h0_ fun ρ I S F DD rs ok h q =>
    ⟨ρ, I, S, F, _, rs, ok, h, ⟨fun ρ1 S1 σ1 I1 H1 h1 e1 ok1 rs1 => ⟨ρ1, I1, S1, F, DD, rs1, ok1, h1, q.mono e1⟩, q.rt, q.bk, q.ct⟩⟩
theorem jss_one (h1 : JS X st t) : JSs X [st] t := pss_one h1
theorem js_expr (he : JE X e de) (hs : swapsWith e none pos.line X.env = pure false := by rfl) : JS X (.Expr e pos) (dDrop de) :=
  js_of (ps_expr he hs) fun D σ H h0_ => El54 h0_ fun ρ I S F DD rs ok h q => ⟨ρ, I, S, F, _, rs, ok, h, fun x S1 v I1 H1 h1 e1 ok1 r1 => q.nx _ _ _ _ _ h1 e1 ok1 (rs.mono e1)⟩
theorem js_ret (he : JE X e de) : JS X (.Return (some e) pos) (dRet de) :=
  js_of (ps_ret he) fun D σ H h0_ => El54 h0_ fun ρ I S F DD rs ok h q => ⟨ρ, I, S, F, _, rs, ok, h, q.rt⟩
theorem js_if {c : Expr} {a b : List Stmt} (hc : JT X c dc) (ha : JSs X a t) (hb : JSs X b u) : JS X (.If c a b pos) (dIfS dc t u) :=
  js_of (ps_if hc ha hb) fun D σ H h0_ => El54 h0_ fun ρ I S F DD rs ok h q => ⟨ρ, I, S, F, _, rs, ok, h, fun c S1 I1 H1 h1 e1 ok1 => by
    cases c with
    | true => exact ⟨ρ, I1, S1, F, DD, rs.mono e1, ok1, h1, q.mono e1⟩
    | false => exact ⟨ρ, I1, S1, F, DD, rs.mono e1, ok1, h1, q.mono e1⟩⟩
theorem js_never : JS X st dNever := js_of ps_never fun D σ H h0_ => El54 h0_ fun ρ I S F DD rs ok h q => h
/-! ### targets -/
/-- names, and tuples of such -/
inductive Tgt where
  | nm (i : Nat)
  | tp (ts : List Tgt)
mutual
def Tgt.slots : Tgt → List Nat
  | .nm i => [i]
  | .tp ts => Tgt.slotsL ts
def Tgt.slotsL : List Tgt → List Nat
  | [] => []
  | t :: ts => t.slots ++ Tgt.slotsL ts
end
mutual
def Tgt.put : Tgt → D → DSt → Option DSt
  | .nm i, x, ρ => some (ρ.set i (some x))
  | .tp ts, .tup xs, ρ => Tgt.putL ts xs ρ
  | .tp ts, .lst xs, ρ => Tgt.putL ts xs ρ
  | .tp _, _, _ => none
def Tgt.putL : List Tgt → List D → DSt → Option DSt
  | [], [], ρ => some ρ
  | t :: ts, x :: xs, ρ => (t.put x ρ).bind fun ρ' => Tgt.putL ts xs ρ'
  | _, _, _ => none
end
/-- σ' is σ but at the slots vs -/
def But (vs : List Nat) (σ σ' : L2.St) : Prop := σ'.length = σ.length ∧ ∀ i, i ∉ vs → σ'[i]? = σ[i]?
theorem wipe_get (σ : L2.St) (i : Nat) : ∀ vs : List Nat, (L2.wipe σ vs)[i]? = if i ∈ vs then (if i < σ.length then some none else none) else σ[i]?
  | [] => by simp [L2.wipe]
  | v :: vs => by
    have ih := wipe_get σ i vs
    unfold L2.wipe
    by_cases h : v = i
    · subst h
      by_cases hl : v < σ.length
      · rw [List.getElem?_set_self (by rw [L2.wipe_length]; exact hl), if_pos (by simp), if_pos hl]
      · rw [List.getElem?_eq_none (by rw [List.length_set, L2.wipe_length]; omega), if_pos (by simp), if_neg hl]
    · rw [List.getElem?_set_ne h, ih]
      have : (i ∈ v :: vs) ↔ i ∈ vs := by simp [Ne.symm h]
      simp only [this]
theorem But.wipe {vs : List Nat} {σ σ' : L2.St} (h : But vs σ σ') : L2.wipe σ' vs = L2.wipe σ vs := by
  apply List.ext_getElem?
  intro i
  rw [wipe_get, wipe_get, h.1]
  split
  · rfl
  · rename_i hi; exact h.2 i hi
def upG (K : PySem.W.Frag) (t : Tgt) : TG := fun v σ H Q => ∃ ρ ρ' I S F x, RepS K I ρ σ ∧ Ok K I S F H ∧ Rep K I x v ∧ t.put x ρ = some ρ' ∧ ∀ σ', RepS K I ρ' σ' → But t.slots σ σ' → Q σ' H
def upGs (K : PySem.W.Frag) (ts : List Tgt) : TGs := fun vs σ H Q => ∃ ρ ρ' I S F xs, RepS K I ρ σ ∧ Ok K I S F H ∧ RepL K I xs vs ∧ Tgt.putL ts xs ρ = some ρ' ∧ ∀ σ', RepS K I ρ' σ' → But (Tgt.slotsL ts) σ σ' → Q σ' H
abbrev JG (X : Cx) (e : Expr) (t : Tgt) : Prop := PG X e (upG X.K t)
abbrev JGs (X : Cx) (es : List Expr) (ts : List Tgt) : Prop := PGs X es (upGs X.K ts)
theorem jg_of {X : Cx} {e : Expr} {t u : TG} (h : PG X e t) (i : ∀ v σ H Q, u v σ H Q → t v σ H Q) : PG X e u := ⟨by
  intro pins s σ H v x Q I r q
  exact h.run pins s σ H v x Q I r (i _ _ _ _ q)⟩
theorem jgs_of {X : Cx} {e : List Expr} {t u : TGs} (h : PGs X e t) (i : ∀ v σ H Q, u v σ H Q → t v σ H Q) : PGs X e u := ⟨by
  intro pins s σ H v x Q I r q
  exact h.run pins s σ H v x Q I r (i _ _ _ _ q)⟩
theorem jg_name (i : Nat) {x : Str} (hN : X.N.Nodup) (hi : X.N[i]? = some x) (hx : Loc X.env.scope x) (hf : X.fn x = true ∨ X.env.scope.names.lookup x = some .local := by first | exact .inl rfl | exact .inr rfl | assumption) : JG X (.Name x pos) (.nm i) :=
  jg_of (pg_name hN hi hx hf) fun v σ H Q ⟨ρ, ρ', I, S, F, x, rs, ok, r, hp, q⟩ => by
    simp only [Tgt.put, Option.some.injEq] at hp
    subst hp
    refine q _ (rs.set i r) ⟨by simp, fun j hj => ?_⟩
    rw [List.getElem?_set_ne]
    intro e
    exact hj (by simp [Tgt.slots, e])
theorem jgs_nil : JGs X [] [] := jgs_of pgs_nil fun v σ H Q ⟨ρ, ρ', I, S, F, xs, rs, ok, r, hp, q⟩ => by
  cases xs with
  | nil =>
    simp only [Tgt.putL, Option.some.injEq] at hp
    subst hp
    simp only [RepL] at r
    exact ⟨r, q σ rs ⟨rfl, fun _ _ => rfl⟩⟩
  | cons x xs => simp [Tgt.putL] at hp
theorem jgs_cons {es : List Expr} {t : Tgt} {ts : List Tgt} (h1 : JG X e t) (h2 : JGs X es ts) (hs : (assignEach (e :: es) X.env).map (·.2) = assign e X.env :: (assignEach es X.env).map (·.2) := by rfl) : JGs X (e :: es) (t :: ts) :=
  jgs_of (pgs_cons h1 h2 hs) fun v σ H Q ⟨ρ, ρ', I, S, F, xs, rs, ok, r, hp, q⟩ => by
    cases xs with
    | nil => simp [Tgt.putL] at hp
    | cons x xs =>
      simp only [Tgt.putL] at hp
      cases e1 : t.put x ρ with
      | none => rw [e1] at hp; cases hp
      | some ρ1 =>
        rw [e1] at hp
        have hp : Tgt.putL ts xs ρ1 = some ρ' := hp
        simp only [RepL] at r
        obtain ⟨w, rr, rfl, r1, r2⟩ := r
        refine ⟨w, rr, rfl, ρ, ρ1, I, S, F, x, rs, ok, r1, e1, fun σ1 rs1 b1 => ⟨ρ1, ρ', I, S, F, xs, rs1, ok, r2, hp, fun σ2 rs2 b2 => q σ2 rs2 ⟨b2.1.trans b1.1, fun i hi => ?_⟩⟩⟩
        have hi2 : i ∉ t.slots ∧ i ∉ Tgt.slotsL ts := by
          simp only [Tgt.slotsL, List.mem_append, not_or] at hi
          exact hi
        rw [b2.2 i hi2.2, b1.2 i hi2.1]
theorem pg_or {X : Cx} {e : Expr} {t u : TG} (h : PG X e t) (h' : PG X e u) : PG X e (fun v σ H Q => t v σ H Q ∨ u v σ H Q) := ⟨by
  intro pins s σ H v w Q I r hw
  rcases hw with hw | hw
  · exact h.run pins s σ H v w Q I r hw
  · exact h'.run pins s σ H v w Q I r hw⟩
theorem jg_tup {es : List Expr} {k : Nat} {ts : List Tgt} {n : Nat} (hc : X.calm = true) (h : JGs X es ts) (hl : ts.length = n := by rfl)
    (hn : (assignEach es X.env).length = n := by rfl) (hst : (assignEach es X.env).findIdx? (·.1) = none := by rfl) : JG X (.Tuple es k pos) (.tp ts) :=
  jg_of (pg_or (pg_tup hc h hn hst) (pg_unl hc h hn hst)) fun v σ H Q ⟨ρ, ρ', I, S, F, x, rs, ok, r, hp, q⟩ => by
    have key : ∀ (ts : List Tgt) (xs : List D) (ρ : DSt), Tgt.putL ts xs ρ = some ρ' → xs.length = ts.length := by
      intro ts
      induction ts with
      | nil => intro xs ρ h; cases xs with
        | nil => rfl
        | cons _ _ => simp [Tgt.putL] at h
      | cons t ts ih => intro xs ρ h; cases xs with
        | nil => simp [Tgt.putL] at h
        | cons y ys =>
          simp only [Tgt.putL] at h
          cases e1 : t.put y ρ with
          | none => rw [e1] at h; cases h
          | some ρ1 => rw [e1] at h; simp [ih ys ρ1 h]
    cases x with
    | tup xs =>
      simp only [Tgt.put] at hp
      obtain ⟨a, vs, rfl, hs, rl⟩ := r.tup_of
      have hle := key ts xs ρ hp
      refine .inl ⟨a, vs, rfl, sqT_same ok.same hs, by rw [rl.len, hle, hl], ρ, ρ', I, S, F, xs, rs, ok, rl, hp, fun σ' rs' b => q σ' rs' b⟩
    | lst xs =>
      simp only [Tgt.put] at hp
      obtain ⟨a, vs, rfl, hs, rl⟩ := r.lst_of
      have hle := key ts xs ρ hp
      refine .inr ⟨a, vs, rfl, .of (ok.i _ _ hs), by rw [rl.len, hle, hl], ρ, ρ', I, S, F, xs, rs, ok, rl, hp, fun σ' rs' b => q σ' rs' b⟩
    | _ => simp [Tgt.put] at hp

/-! ### assignments -/
def dSet (i : Nat) (d : DE) : DS := fun DD ρ S => d ρ S fun x S1 => DD.nx (ρ.set i (some x)) S1
def dAsg (t : Tgt) (d : DE) : DS := fun DD ρ S => d ρ S fun x S1 => match t.put x ρ with
  | some ρ' => DD.nx ρ' S1
  | none => False
theorem js_set (i : Nat) {x : Str} {pos' : Pos} (hN : X.N.Nodup) (hi : X.N[i]? = some x) (hx : Loc X.env.scope x) (he : JE X e de) (hs : swapsWith e (some (.Name x pos')) pos.line X.env = pure false := by rfl) (hf : X.fn x = true ∨ X.env.scope.names.lookup x = some .local := by first | exact .inl rfl | exact .inr rfl | assumption) :
    JS X (.Assign [.Name x pos'] e pos) (dSet i de) :=
  js_of (ps_set (i := i) hN hi hx he hs hf) fun D σ H h0_ => El54 h0_ fun ρ I S F DD rs ok h q => ⟨ρ, I, S, F, _, rs, ok, h, fun x S1 v I1 H1 h1 e1 ok1 r1 => q.nx _ _ _ _ _ h1 e1 ok1 ((rs.mono e1).set i r1)⟩
theorem js_asg {tg : Expr} {t : Tgt} (he : JE X e de) (hg : JG X tg t) (hs : swapsWithSole [tg] e pos.line X.env = pure false := by rfl) (hw : swappedStores [tg] e X.env = pure none := by rfl)
    (h1 : (assignEach [tg] X.env).map (·.2) = [assign tg X.env] := by rfl) : JS X (.Assign [tg] e pos) (dAsg t de) :=
  js_of (ps_asg he hg hs hw h1) fun D σ H h0_ => El54 h0_ fun ρ I S F DD rs ok h q => ⟨ρ, I, S, F, _, rs, ok, h, fun x S1 v I1 H1 h1 e1 ok1 r1 => by
    cases e2 : t.put x ρ with
    | none => rw [e2] at h1; exact h1.elim
    | some ρ' =>
      rw [e2] at h1
      exact ⟨ρ, ρ', I1, S1, F, x, rs.mono e1, ok1, r1, e2, fun σ' rs' _ => q.nx _ _ _ _ _ h1 e1 ok1 rs'⟩⟩
def dPar (i j : Nat) (a : DA) : DS := fun DD ρ S => a ρ S fun xs S1 => match xs with
  | [x, y] => DD.nx ((ρ.set i (some x)).set j (some y)) S1
  | _ => False
theorem js_par (i j : Nat) {x y : Str} {a b : Expr} {da : DA} {px py pt : Pos} {kt k2 pt2} (hc : X.calm = true) (hN : X.N.Nodup) (hi : X.N[i]? = some x) (hj : X.N[j]? = some y) (hij : i ≠ j)
    (hx : X.env.scope.names.lookup x = some .local) (hy : X.env.scope.names.lookup y = some .local) (ha : JA X [a, b] da)
    (hw : swappedStores [.Tuple [.Name x px, .Name y py] kt pt] (.Tuple [a, b] k2 pt2) X.env = pure (some [x, y]))
    (hs : swapsWithSole [.Tuple [.Name x px, .Name y py] kt pt] (.Tuple [a, b] k2 pt2) pos.line X.env = pure false := by rfl) :
    JS X (.Assign [.Tuple [.Name x px, .Name y py] kt pt] (.Tuple [a, b] k2 pt2) pos) (dPar i j da) :=
  js_of (ps_par hc hN hi hj hij hx hy ha hw hs) fun D σ H h0_ => El54 h0_ fun ρ I S F DD rs ok h q => ⟨ρ, I, S, F, _, rs, ok, h, fun xs S1 vs I1 H1 h1 e1 ok1 r1 => by
    match xs, h1 with
    | [x, y], h1 =>
      obtain ⟨v, w, rfl, ra, rb⟩ := r1.inv2
      exact ⟨v, w, rfl, q.nx _ _ _ _ _ h1 e1 ok1 (((rs.mono e1).set i ra).set j rb)⟩⟩
/-- x op= e -/
def ImpIp (K : PySem.W.Frag) (r : TIp) (o : D2) : Prop := ∀ x y v w I S F H P Q, Ok K I S F H → Rep K I x v → Rep K I y w → o x y S P → Sees K I F P Q → r v w H Q
def dAug (i : Nat) (o : D2) (d : DE) : DS := fun DD ρ S => match ρ[i]? with
  | some (some x) => d ρ S fun y S1 => o x y S1 fun z S2 => DD.nx (ρ.set i (some z)) S2
  | _ => False
theorem js_aug (i : Nat) {x : Str} {op : Operator} {ti : TIp} {o : D2} {pos' : Pos} (hN : X.N.Nodup) (hi : X.N[i]? = some x) (hx : Loc X.env.scope x) (he : JE X e de) (ho : PIp X op ti) (im : ImpIp X.K ti o) (hf : X.fn x = true ∨ X.env.scope.names.lookup x = some .local := by first | exact .inl rfl | exact .inr rfl | assumption) :
    JS X (.AugAssign (.Name x pos') op e pos) (dAug i o de) :=
  js_of (ps_aug (i := i) hN hi hx he ho hf) fun D σ H h0_ => El54 h0_ fun ρ I S F DD rs ok h q => by
    unfold dAug at h
    split at h
    · rename_i x ex
      obtain ⟨v, e1, r⟩ := rs.2 i x ex
      refine ⟨v, e1, ρ, I, S, F, _, rs, ok, h, fun y S1 w I1 H1 h1 e1 ok1 r1 => ?_⟩
      exact im x y v w I1 S1 F H1 _ _ ok1 (r.mono e1) r1 h1 fun z S2 u I2 H2 h2 e2 ok2 r2 => q.nx _ _ _ _ _ h2 (e1.trans e2) ok2 ((rs.mono (e1.trans e2)).set i r2)
    · exact h.elim

/-! ### while -/
def dWhile (c : DT) (b : DS) : DS := fun DD ρ S => ∃ W : Nat → DSt → Store → Prop, (∃ m, W m ρ S) ∧ ∀ m ρ S, W m ρ S →
  c ρ S fun k S1 => if k = true then b { DD with nx := fun ρ' S' => ∃ m', m' < m ∧ W m' ρ' S', ct := fun ρ' S' => ∃ m', m' < m ∧ W m' ρ' S', bk := DD.nx } ρ S1 else DD.nx ρ S1
theorem js_while {c : Expr} {body : List Stmt} (hp : PassesOwn (model X.prog X.w) X.A X.env X.xe) (hc : JT X c dc) (hb : JSs X body t) : JS X (.While c body [] pos) (dWhile dc t) :=
  js_of (ps_while hp hc hb) fun D σ H ⟨ρ, I, S, F, DD, rs, ok, ⟨W, ⟨m0, w0⟩, turn⟩, q⟩ => by
    refine ⟨fun m σ H => ∃ ρ I' S, Same I I' ∧ RepS X.K I' ρ σ ∧ Ok X.K I' S F H ∧ W m ρ S, ⟨m0, ρ, I, S, Same.refl I, rs, ok, w0⟩, ?_⟩
    rintro m σ1 H1 ⟨ρ1, I1, S1, e1, rs1, ok1, w1⟩
    refine ⟨ρ1, I1, S1, F, _, rs1, ok1, turn m ρ1 S1 w1, fun k S2 I2 H2 h2 e2 ok2 => ?_⟩
    cases k with
    | true =>
      rw [if_pos rfl] at h2 ⊢
      refine ⟨fun σ' H' => ∃ m', m' < m ∧ ∃ ρ I' S, Same I I' ∧ RepS X.K I' ρ σ' ∧ Ok X.K I' S F H' ∧ W m' ρ S, fun σ' H' h => h, ρ1, I2, S2, F, _, rs1.mono e2, ok2, h2, ⟨?_, ?_, ?_, ?_⟩⟩
      · intro ρ3 S3 σ3 I3 H3 ⟨m', hm, w3⟩ e3 ok3 rs3
        exact ⟨m', hm, ρ3, I3, S3, (e1.trans e2).trans e3, rs3, ok3, w3⟩
      · exact q.rt.mono (e1.trans e2)
      · exact q.nx.mono (e1.trans e2)
      · intro ρ3 S3 σ3 I3 H3 ⟨m', hm, w3⟩ e3 ok3 rs3
        exact ⟨m', hm, ρ3, I3, S3, (e1.trans e2).trans e3, rs3, ok3, w3⟩
    | false =>
      rw [if_neg Bool.false_ne_true] at h2 ⊢
      exact q.nx _ _ _ _ _ h2 (e1.trans e2) ok2 (rs1.mono e2)

/-! ### what is walked -/
/-- a list that may change is walked: it stays meanwhile -/
def PinOk : Option (Store → Prop) → Store → Prop
  | none, _ => True
  | some p, S => p S
/-- J walks the data ds -/
structure ItOk (K : PySem.W.Frag) (I : Hp) (J : It) (ds : List D) (pin : Option (Store → Prop)) : Prop where
  go : ∀ I2 S F H, Same I I2 → Ok K I2 S F H → PinOk pin S → ∀ i d, ds[i]? = some d → J.go i H ∧ ∀ x H', J.yld i H x H' → ∃ I3, Same I2 I3 ∧ Ok K I3 S F H' ∧ Rep K I3 d x
  stop : ∀ I2 S F H, Same I I2 → Ok K I2 S F H → PinOk pin S → ∀ i, i = ds.length → J.stop i H
theorem ItOk.mono {K : PySem.W.Frag} {I I' : Hp} {J : It} {ds : List D} {pin : Option (Store → Prop)} (h : ItOk K I J ds pin) (e : Same I I') : ItOk K I' J ds pin :=
  ⟨fun I2 S F H e2 => h.go I2 S F H (e.trans e2), fun I2 S F H e2 => h.stop I2 S F H (e.trans e2)⟩
def SeesI (K : PySem.W.Frag) (I F : Hp) (P : List D → Option (Store → Prop) → Store → Prop) (R : It → Hp → Prop) : Prop := ∀ ds pin S' I' H' J, P ds pin S' → Same I I' → Ok K I' S' F H' → ItOk K I' J ds pin → R J H'
theorem SeesI.mono {K : PySem.W.Frag} {I I' F : Hp} {P : List D → Option (Store → Prop) → Store → Prop} {R : It → Hp → Prop} (h : SeesI K I F P R) (e : Same I I') : SeesI K I' F P R := fun ds pin S' I2 H' J p e2 => h ds pin S' I2 H' J p (e.trans e2)
def upI (K : PySem.W.Frag) (d : DI) : TI := fun σ H R => ∃ ρ I S F P, RepS K I ρ σ ∧ Ok K I S F H ∧ d ρ S P ∧ SeesI K I F P R
abbrev JI (X : Cx) (tg iter : Expr) (d : DI) : Prop := PI X tg iter (upI X.K d)
theorem ji_of {X : Cx} {tg e : Expr} {t u : TI} (h : PI X tg e t) (i : ∀ σ H R, u σ H R → t σ H R) : PI X tg e u := ⟨fun pins s σ H R I q => h.run pins s σ H R I (i _ _ _ q)⟩

/-! ### for -/
/-- a loop over the data ds: W by the turn -/
def ForB (t : Tgt) (b : DS) (DD : DEnds) (ds : List D) (ρ : DSt) (S1 : Store) : Prop := ∃ W : Nat → DSt → Store → Prop, W 0 ρ S1 ∧
  (∀ i d ρ S, ds[i]? = some d → W i ρ S → ∃ ρ', t.put d ρ = some ρ' ∧ b { DD with nx := W (i + 1), ct := W (i + 1), bk := DD.nx } ρ' S) ∧ ∀ ρ S, W ds.length ρ S → DD.nx ρ S
/-- the same, of a list that may change: p, that it stays -/
def ForP (t : Tgt) (b : DS) (DD : DEnds) (ds : List D) (p : Store → Prop) (ρ : DSt) (S1 : Store) : Prop := ∃ W : Nat → DSt → Store → Prop, W 0 ρ S1 ∧ (∀ i ρ S, W i ρ S → p S) ∧
  (∀ i d ρ S, ds[i]? = some d → W i ρ S → ∃ ρ', t.put d ρ = some ρ' ∧ b { DD with nx := W (i + 1), ct := W (i + 1), bk := DD.nx } ρ' S) ∧ ∀ ρ S, W ds.length ρ S → DD.nx ρ S
def ForN (t : Tgt) (b : DS) (DD : DEnds) (ds : List D) (pin : Option (Store → Prop)) (ρ : DSt) (S1 : Store) : Prop := match pin with
  | none => ForB t b DD ds ρ S1
  | some p => ForP t b DD ds p ρ S1
theorem ForN.all {t : Tgt} {b : DS} {DD : DEnds} {ds : List D} {pin : Option (Store → Prop)} {ρ : DSt} {S1 : Store} (h : ForN t b DD ds pin ρ S1) : ∃ W : Nat → DSt → Store → Prop, W 0 ρ S1 ∧ (∀ i ρ S, W i ρ S → PinOk pin S) ∧
    (∀ i d ρ S, ds[i]? = some d → W i ρ S → ∃ ρ', t.put d ρ = some ρ' ∧ b { DD with nx := W (i + 1), ct := W (i + 1), bk := DD.nx } ρ' S) ∧ ∀ ρ S, W ds.length ρ S → DD.nx ρ S := by
  cases pin with
  | none => obtain ⟨W, w0, w1, w2⟩ := h; exact ⟨W, w0, fun _ _ _ _ => trivial, w1, w2⟩
  | some p => exact h
def dFor (di : DI) (t : Tgt) (b : DS) : DS := fun DD ρ S => di ρ S fun ds pin S1 => ForN t b DD ds pin ρ S1
theorem js_for {tg iter : Expr} {body : List Stmt} {di : DI} {tt : Tgt} (hp : PassesOwn (model X.prog X.w) X.A X.env X.xe) (hc : X.calm = true) (hi : JI X tg iter di) (hg : JG X tg tt) (hb : JSs X body t)
    (hs : ∀ x, foldedSetIterable iter X.env x = pure x := by intro _; rfl) : JS X (.For tg iter body [] pos) (dFor di tt t) :=
  js_of (ps_for hp hc hi hg hb hs) fun D σ H h0_ => El54 h0_ fun ρ I S F DD rs ok h q => by
    refine ⟨ρ, I, S, F, _, rs, ok, h, fun ds pin S1 I1 H1 J hB e1 ok1 it => ?_⟩
    obtain ⟨W, w0, hpin, turn, fin⟩ := ForN.all hB
    refine ⟨fun i m σ H => m + i = ds.length ∧ ∃ ρ I' S, Same I1 I' ∧ RepS X.K I' ρ σ ∧ Ok X.K I' S F H ∧ W i ρ S, ⟨ds.length, by simp, ρ, I1, S1, Same.refl I1, rs.mono e1, ok1, w0⟩, ?_⟩
    rintro i m σ2 H2 ⟨em, ρ2, I2, S2, e2, rs2, ok2, w2⟩
    by_cases hi : i < ds.length
    · refine .inr ?_
      obtain ⟨g1, g2⟩ := it.go I2 S2 F H2 e2 ok2 (hpin _ _ _ w2) i ds[i] (List.getElem?_eq_getElem hi)
      obtain ⟨ρ3, hput, hbody⟩ := turn i ds[i] ρ2 S2 (List.getElem?_eq_getElem hi) w2
      refine ⟨g1, fun σ' H' => ∃ ρ I' S, Same I1 I' ∧ RepS X.K I' ρ σ' ∧ Ok X.K I' S F H' ∧ W (i + 1) ρ S, fun σ' H' h => ⟨m - 1, by omega, by omega, h⟩, fun x H3 hy => ?_⟩
      obtain ⟨I3, e3, ok3, r3⟩ := g2 x H3 hy
      refine ⟨ρ2, ρ3, I3, S2, F, ds[i], rs2.mono e3, ok3, r3, hput, fun σ3 rs3 _ => ?_⟩
      refine ⟨ρ3, I3, S2, F, _, rs3, ok3, hbody, ⟨?_, ?_, ?_, ?_⟩⟩
      · intro ρ4 S4 σ4 I4 H4 w4 e4 ok4 rs4
        exact ⟨ρ4, I4, S4, (e2.trans e3).trans e4, rs4, ok4, w4⟩
      · exact q.rt.mono (((e1.trans e2)).trans e3)
      · exact q.nx.mono (((e1.trans e2)).trans e3)
      · intro ρ4 S4 σ4 I4 H4 w4 e4 ok4 rs4
        exact ⟨ρ4, I4, S4, (e2.trans e3).trans e4, rs4, ok4, w4⟩
    · have e : i = ds.length := by omega
      subst e
      exact .inl ⟨it.stop I2 S2 F H2 e2 ok2 (hpin _ _ _ w2) _ rfl, q.nx _ _ _ _ _ (fin ρ2 S2 w2) (e1.trans e2) ok2 rs2⟩

/-! ### comprehensions -/
def dYes : DT := fun _ S P => P true S
abbrev JTs (X : Cx) (ifs : List Expr) (d : DT) : Prop := PTs X ifs (upT X.K d)
theorem jts_of {X : Cx} {e : List Expr} {t u : TT} (h : PTs X e t) (i : ∀ σ H Q, u σ H Q → t σ H Q) : PTs X e u := ⟨fun pins s σ H Q I q => h.run pins s σ H Q I (i _ _ _ q)⟩
theorem jts_nil : JTs X [] dYes := jts_of pts_nil fun σ H Q h0_ => El54 h0_ fun ρ I S F P rs ok h q => q _ _ _ _ h (Same.refl I) ok
theorem jts_one {c : Expr} (h : JT X c dc) : JTs X [c] dc := pts_one h
/-- the new list is one that changes no more -/
def LcB (t : Tgt) (tt : DT) (de : DE) (P : D → Store → Prop) (ds : List D) (ρ : DSt) (S1 : Store) : Prop := ds.length ≤ 100000 ∧ ∃ W : Nat → List D → Store → Prop, W 0 [] S1 ∧
  (∀ i d acc S, ds[i]? = some d → W i acc S → ∃ ρ', t.put d (dwipe ρ t.slots) = some ρ' ∧ tt ρ' S fun b S2 => if b = true then de ρ' S2 fun y S3 => W (i + 1) (acc ++ [y]) S3 else W (i + 1) acc S2) ∧ ∀ acc S, W ds.length acc S → P (.lst acc) S
def LcP (t : Tgt) (tt : DT) (de : DE) (P : D → Store → Prop) (ds : List D) (p : Store → Prop) (ρ : DSt) (S1 : Store) : Prop := ds.length ≤ 100000 ∧ ∃ W : Nat → List D → Store → Prop, W 0 [] S1 ∧ (∀ i acc S, W i acc S → p S) ∧
  (∀ i d acc S, ds[i]? = some d → W i acc S → ∃ ρ', t.put d (dwipe ρ t.slots) = some ρ' ∧ tt ρ' S fun b S2 => if b = true then de ρ' S2 fun y S3 => W (i + 1) (acc ++ [y]) S3 else W (i + 1) acc S2) ∧ ∀ acc S, W ds.length acc S → P (.lst acc) S
def LcN (t : Tgt) (tt : DT) (de : DE) (P : D → Store → Prop) (ds : List D) (pin : Option (Store → Prop)) (ρ : DSt) (S1 : Store) : Prop := match pin with
  | none => LcB t tt de P ds ρ S1
  | some p => LcP t tt de P ds p ρ S1
theorem LcN.all {t : Tgt} {tt : DT} {de : DE} {P : D → Store → Prop} {ds : List D} {pin : Option (Store → Prop)} {ρ : DSt} {S1 : Store} (h : LcN t tt de P ds pin ρ S1) : ds.length ≤ 100000 ∧ ∃ W : Nat → List D → Store → Prop, W 0 [] S1 ∧ (∀ i acc S, W i acc S → PinOk pin S) ∧
    (∀ i d acc S, ds[i]? = some d → W i acc S → ∃ ρ', t.put d (dwipe ρ t.slots) = some ρ' ∧ tt ρ' S fun b S2 => if b = true then de ρ' S2 fun y S3 => W (i + 1) (acc ++ [y]) S3 else W (i + 1) acc S2) ∧ ∀ acc S, W ds.length acc S → P (.lst acc) S := by
  cases pin with
  | none => obtain ⟨hl, W, w0, w1, w2⟩ := h; exact ⟨hl, W, w0, fun _ _ _ _ => trivial, w1, w2⟩
  | some p => exact h
def dLc (di : DI) (t : Tgt) (tt : DT) (de : DE) : DE := fun ρ S P => di ρ S fun ds pin S1 => LcN t tt de P ds pin ρ S1
theorem up_lc {X : Cx} {di : DI} {t : Tgt} {tt : DT} {de : DE} : ∀ σ H Q, upE X.K (dLc di t tt de) σ H Q → tLc (upI X.K di) (upG X.K t) (upT X.K tt) (upE X.K de) t.slots σ H Q := fun σ H Q h0_ => El54 h0_ fun ρ I S F P rs ok h q => by
  refine ⟨ρ, I, S, F, _, rs, ok, h, fun ds pin S1 I1 H1 J hB e1 ok1 it => fun Dd hD => ?_⟩
  obtain ⟨hlen, W, w0, hpin, turn, fin⟩ := LcN.all hB
  have fI : I1 Dd = none := ok1.freshI hD
  refine ⟨fun i m H => m + i = ds.length ∧ ∃ I' S' acc vs, Same I1 I' ∧ Ok X.K I' S' (upd F Dd (.lst vs)) H ∧ RepL X.K I' acc vs ∧ acc.length ≤ i ∧ W i acc S', ⟨ds.length, by simp, I1, S1, [], [], Same.refl I1, ok1.newF hD ⟨fun y z => (by cases z), fun y z => (by cases z)⟩, RepL.nil, Nat.le_refl _, w0⟩, ?_⟩
  rintro i m H2 ⟨em, I2, S2, acc, vs, e2, ok2, rl, hacc, w2⟩
  by_cases hi : i < ds.length
  · refine .inr ?_
    obtain ⟨g1, g2⟩ := it.go I2 S2 _ H2 e2 ok2 (hpin _ _ _ w2) i ds[i] (List.getElem?_eq_getElem hi)
    obtain ⟨ρ3, hput, hbody⟩ := turn i ds[i] acc S2 (List.getElem?_eq_getElem hi) w2
    refine ⟨g1, fun H' => ∃ I' S' acc vs, Same I1 I' ∧ Ok X.K I' S' (upd F Dd (.lst vs)) H' ∧ RepL X.K I' acc vs ∧ acc.length ≤ i + 1 ∧ W (i + 1) acc S', fun H' h => ⟨m - 1, by omega, by omega, h⟩, fun x H3 hy => ?_⟩
    obtain ⟨I3, e3, ok3, r3⟩ := g2 x H3 hy
    refine ⟨dwipe ρ t.slots, ρ3, I3, S2, _, ds[i], ((rs.mono e1).mono (e2.trans e3)).wipe _, ok3, r3, hput, fun σ3 rs3 b3 => ⟨by
      rw [b3.wipe]
      apply List.ext_getElem?
      intro j
      rw [wipe_get, wipe_get, L2.wipe_length]
      split <;> simp_all, ?_⟩⟩
    refine ⟨ρ3, I3, S2, _, _, rs3, ok3, hbody, fun b S4 I4 H4 h4 e4 ok4 => ?_⟩
    cases b with
    | true =>
      rw [if_pos rfl] at h4 ⊢
      refine ⟨ρ3, I4, S4, _, _, rs3.mono e4, ok4, h4, fun y S5 v I5 H5 h5 e5 ok5 r5 => ?_⟩
      have hF : (upd F Dd (.lst vs)) Dd = some (.lst vs) := upd_same
      refine ⟨vs, (ok5.f Dd _ hF).1, ?_, I5, S5, acc ++ [y], vs ++ [v], (((e2.trans e3).trans e4).trans e5), ?_, (rl.mono ((e3.trans e4).trans e5)).app (RepL.one r5), by simp; omega, h5⟩
      · rw [rl.len]
        have : (100000 : Nat) < sizeLine := by decide
        omega
      · have := ok5.writeF (o' := .lst (vs ++ [v])) hF ⟨fun y z => (by cases z), fun y z => (by cases z)⟩
        rwa [upd_upd] at this
    | false =>
      rw [if_neg Bool.false_ne_true] at h4 ⊢
      exact ⟨I4, S4, acc, vs, ((e2.trans e3).trans e4), ok4, rl.mono (e3.trans e4), by omega, h4⟩
  · have e : i = ds.length := by omega
    subst e
    refine .inl ⟨it.stop I2 S2 _ H2 e2 ok2 (hpin _ _ _ w2) _ rfl, ?_⟩
    have hF : (upd F Dd (.lst vs)) Dd = some (.lst vs) := upd_same
    have i2 : I2 Dd = none := (ok2.f Dd _ hF).2.1
    have ok3 := ok2.showF hF
    have ok4 : Ok X.K (upd I2 Dd (.lst vs)) S2 F H2 := by
      refine ⟨ok3.i, ok3.s, fun a x q => ?_⟩
      have ne : a ≠ Dd := fun z => by
        subst z
        rw [(ok1.freshF hD)] at q; cases q
      exact ok3.f a x (by show (if a = Dd then none else upd F Dd (.lst vs) a) = some x; rw [if_neg ne, upd_ne ne]; exact q)
    exact q _ _ _ _ _ (fin acc S2 w2) ((e1.trans e2).trans (same_new i2)) ok4 (rep_new_lst i2 rl)
theorem je_lc {elt tg iter : Expr} {ifs : List Expr} {scope : Scope} (own : List (Str × Nat)) {di : DI} {t : Tgt} {tt : DT} {de : DE} (hc : X.calm = true) (hN : X.N.Nodup) (hi : JI X tg iter di) (ok : BlkOk X.N X.env.scope scope own) (ho : own.map (·.2) = t.slots)
    (hg : ∀ (s : Shared) (H : Hp) (C : Addr) (cl : List (Str × Addr)) (fp : List Addr), JG (X.blk s H scope (compEnvC scope cl C X.env) fp) tg t) (ht : ∀ (s : Shared) (H : Hp) (C : Addr) (cl : List (Str × Addr)) (fp : List Addr), JTs (X.blk s H scope (compEnvC scope cl C X.env) fp) ifs tt)
    (he : ∀ (s : Shared) (H : Hp) (C : Addr) (cl : List (Str × Addr)) (fp : List Addr), JE (X.blk s H scope (compEnvC scope cl C X.env) fp) elt de) (hs : ∀ x, foldedSetIterable iter X.env x = pure x := by intro _; rfl) :
    JE X (.ListComp elt [⟨tg, iter, ifs, 0⟩] scope pos) (dLc di t tt de) :=
  je_of (pe_lc hc hN hi ok hg ht he hs) fun σ H Q h => by
    rw [ho]
    exact up_lc σ H Q h
theorem js_setLc (i : Nat) {y : Str} {py : Pos} {elt tg iter : Expr} {ifs : List Expr} {scope : Scope} (own : List (Str × Nat)) {spos : Pos} {di : DI} {t : Tgt} {tt : DT} {de : DE} (hc : X.calm = true) (hN : X.N.Nodup) (hy : X.N[i]? = some y) (hyl : X.env.scope.names.lookup y = some .local)
    (hsw : swapsWith (.ListComp elt [⟨tg, iter, ifs, 0⟩] scope pos) (some (.Name y py)) spos.line X.env = pure true) (hi : JI X tg iter di) (ok : BlkOk X.N X.env.scope scope own) (ho : own.map (·.2) = t.slots)
    (hg : ∀ (s : Shared) (H : Hp) (C : Addr) (cl : List (Str × Addr)) (fp : List Addr), JG (X.blk s H scope (compEnvC scope cl C X.env) fp) tg t) (ht : ∀ (s : Shared) (H : Hp) (C : Addr) (cl : List (Str × Addr)) (fp : List Addr), JTs (X.blk s H scope (compEnvC scope cl C X.env) fp) ifs tt)
    (he : ∀ (s : Shared) (H : Hp) (C : Addr) (cl : List (Str × Addr)) (fp : List Addr), JE (X.blk s H scope (compEnvC scope cl C X.env) fp) elt de) (hs : ∀ x, foldedSetIterable iter X.env x = pure x := by intro _; rfl) :
    JS X (.Assign [.Name y py] (.ListComp elt [⟨tg, iter, ifs, 0⟩] scope pos) spos) (dSet i (dLc di t tt de)) :=
  js_of (ps_setLc hc hN hy hyl hsw hi ok hg ht he hs) fun D σ H h0_ => El54 h0_ fun ρ I S F DD rs ok h q => by
    rw [ho]
    exact up_lc (X := X) σ H _ ⟨ρ, I, S, F, _, rs, ok, h, fun x S1 v I1 H1 h1 e1 ok1 r1 => q.nx _ _ _ _ _ h1 e1 ok1 ((rs.mono e1).set i r1)⟩
end

/-! ### a def keeps its promise -/
section
variable {P : Program} {w : World} {K : PySem.W.Frag} {mg : Str → Option Value} {base : Heap}
def dEnd (Q : D → Store → Prop) : DEnds := { nx := fun _ S => Q .non S, rt := Q }
theorem fn_d {x qual : Str} {st : Stmt} {f : Addr} {fd : FuncData} {N ps : List Str} {k : Nat} {sp : DSp} (F : Fun K x qual st f fd) (S : FnScope N ps (defScope st)) (len : ∀ ds S P, sp ds S P → ds.length = ps.length)
    (hbody : ∀ (cdv : Value) (A : Around) (outer : List Env) (s : Shared) (H : Hp) (E : XK), DG.RoomG k (A.deeper (envOfC qual (defScope st) s.heap.objs.size f cdv)) →
      ∃ d : DS, JSs (cxOf CX0 P w K mg base N qual (defScope st) f cdv A outer s H E).nox (defBody st) d ∧ ∀ ds S P, sp ds S P → d (dEnd P) (ds.map some ++ List.replicate (N.length - ds.length) none) S) : FnD P w K mg base (k + 1) f fd ps sp := by
  refine DG.fun_ok F S (fun vs H Q E h => ?_) (fun cdv A outer s H vs Q E hr h => ?_)
  · obtain ⟨ds, I, S, F, P, r, ok, h, q⟩ := h
    rw [r.len]
    exact len _ _ _ h
  · obtain ⟨ds, I, S', F', P', r, ok, h, q⟩ := h
    obtain ⟨d, h1, h2⟩ := hbody cdv A outer s H E hr
    refine ⟨_, h1, _, I, S', F', _, repS_start r, ok, h2 ds S' P' h, ⟨?_, q, ?_, ?_⟩⟩
    · intro ρ S2 σ I2 H2 p e2 ok2 _
      exact q _ _ _ _ _ p e2 ok2 rep_non
    · intro ρ S2 σ I2 H2 p e2 ok2 _
      exact p.elim
    · intro ρ S2 σ I2 H2 p e2 ok2 _
      exact p.elim
end
end DL

namespace DL
open PySem PySem.Spec PyProof.Rows L2

/-! ### lists and tuples as data -/
def lstOf (S : Store) : D → Option (List D)
  | .lst ds => some ds
  | .ext ds => some ds
  | .obj a => match S a with
    | some (.lst ds) => some ds
    | _ => none
  | _ => none
def seqOf (S : Store) : D → Option (List D)
  | .tup ds => some ds
  | x => lstOf S x
section
variable {K : PySem.W.Frag} {I F H : Hp} {S : Store}
theorem lst_sq (ok : Ok K I S F H) {x : D} {v : V} {ds : List D} (r : Rep K I x v) (h : lstOf S x = some ds) : ∃ a xs, v = .ref a ∧ SqL K H a xs ∧ RepL K I ds xs := by
  cases x with
  | lst es =>
    simp only [lstOf, Option.some.injEq] at h; subst h
    obtain ⟨a, xs, rfl, e, rl⟩ := r.lst_of
    exact ⟨a, xs, rfl, .of (ok.i _ _ e), rl⟩
  | ext es =>
    simp only [lstOf, Option.some.injEq] at h; subst h
    obtain ⟨a, xs, rfl, e, rl⟩ := r.ext_of
    exact ⟨a, xs, rfl, ok.same.seq e, rl⟩
  | obj a =>
    unfold lstOf at h
    cases e : S a with
    | none => simp [e] at h
    | some m =>
      cases m with
      | lst es =>
        simp [e] at h; subst h
        obtain ⟨_, xs, q, rl⟩ := ok.s a _ e
        exact ⟨a, xs, r.obj_of, .of q, rl⟩
      | _ => simp [e] at h
  | _ => simp [lstOf] at h
/-- one that can be added to, repeated: tracked by itself -/
theorem lst_hp (ok : Ok K I S F H) {x : D} {v : V} {ds : List D} (r : Rep K I x v) (h : lstOf S x = some ds) (ne : ∀ es, x ≠ .ext es) : ∃ a xs, v = .ref a ∧ H a = some (.lst xs) ∧ RepL K I ds xs := by
  cases x with
  | lst es =>
    simp only [lstOf, Option.some.injEq] at h; subst h
    obtain ⟨a, xs, rfl, e, rl⟩ := r.lst_of
    exact ⟨a, xs, rfl, ok.i _ _ e, rl⟩
  | ext es => exact absurd rfl (ne es)
  | obj a =>
    unfold lstOf at h
    cases e : S a with
    | none => simp [e] at h
    | some m =>
      cases m with
      | lst es =>
        simp [e] at h; subst h
        obtain ⟨_, xs, q, rl⟩ := ok.s a _ e
        exact ⟨a, xs, r.obj_of, q, rl⟩
      | _ => simp [e] at h
  | _ => simp [lstOf] at h
theorem tup_sq (ok : Ok K I S F H) {v : V} {ds : List D} (r : Rep K I (.tup ds) v) : ∃ a xs, v = .ref a ∧ SqT K H a xs ∧ RepL K I ds xs := by
  obtain ⟨a, xs, rfl, e, rl⟩ := r.tup_of
  exact ⟨a, xs, rfl, sqT_same ok.same e, rl⟩
end

/-! ### arithmetic -/
def MulB (i j : Int) : Prop := CMul i j ∨ CMulW i j
def DivB (j : Int) : Prop := j ≠ 0 ∧ j.natAbs.log2 < 9000
def dAdd : D2 := fun x y S P => match x, y with
  | .int i, .int j => P (.int (i + j)) S
  | .str a, .str b => a.length + b.length ≤ 100000 ∧ P (.str (a ++ b)) S
  | .tup xs, .tup ys => xs.length + ys.length ≤ 100000 ∧ P (.tup (xs ++ ys)) S
  | .ext _, _ => False
  | _, .ext _ => False
  | x, y => match lstOf S x, lstOf S y with
    | some xs, some ys => xs.length + ys.length ≤ 100000 ∧ P (.lst (xs ++ ys)) S
    | _, _ => False
def dSub : D2 := fun x y S P => match x, y with
  | .int i, .int j => P (.int (i - j)) S
  | _, _ => False
def dMul : D2 := fun x y S P => match x, y with
  | .int i, .int j => MulB i j ∧ P (.int (i * j)) S
  | .lst xs, .int k => -(2 ^ 63) ≤ k ∧ k < 2 ^ 63 ∧ xs.length * k.toNat ≤ 100000 ∧ P (.lst (List.replicate k.toNat xs).flatten) S
  | _, _ => False
def dFdiv : D2 := fun x y S P => match x, y with
  | .int i, .int j => DivB j ∧ P (.int (i.fdiv j)) S
  | _, _ => False
def dMod : D2 := fun x y S P => match x, y with
  | .int i, .int j => 0 < j ∧ P (.int (i % j)) S
  | _, _ => False
def dPow : D2 := fun x y S P => match x, y with
  | .int i, .int j => CPow i j ∧ P (.int (i ^ j.toNat)) S
  | _, _ => False
def dNeg : D1 := fun x S P => match x with
  | .int i => P (.int (-i)) S
  | _ => False
def dLt : D2 := fun x y S P => match x, y with
  | .int i, .int j => P (.bl (decide (i < j))) S
  | _, _ => False
def dLe : D2 := fun x y S P => match x, y with
  | .int i, .int j => P (.bl (decide (i ≤ j))) S
  | _, _ => False
def dGt : D2 := fun x y S P => match x, y with
  | .int i, .int j => P (.bl (decide (j < i))) S
  | _, _ => False
def dGe : D2 := fun x y S P => match x, y with
  | .int i, .int j => P (.bl (decide (j ≤ i))) S
  | _, _ => False
section
variable {X : Cx} {pos : Pos} {a b : Expr} {da db : DE}
theorem op_mulA : OpR X (binaryOp .Mult) (rI MulB fun i j => .int (i * j)) := opI fun i j _ _ _ _ _ hc q => by
  rcases hc with h | h
  · exact mul_int q h.ok
  · exact mul_int q h.ok
theorem op_fdivA : OpR X (binaryOp .FloorDiv) (rI (fun _ j => DivB j) fun i j => .int (i.fdiv j)) := opI fun i j _ _ _ _ _ hc q => floordiv_int hc.1 q (.inl (PyProof.noPylong_of_log2 hc.2))
theorem i_add {K : PySem.W.Frag} : Imp2 K (fun x y H Q => (rI0 fun i j => .int (i + j)) x y H Q ∨ (∃ i j, x = .str i ∧ y = .str j ∧ i.length + j.length ≤ sizeLine ∧ Q (.str (i ++ j)) H) ∨ rCatA K x y H Q ∨ rCat x y H Q) dAdd := by
  intro x y v w I S F H P Q ok rx ry h q
  have lists : ∀ xs ys, lstOf S x = some xs → lstOf S y = some ys → (∀ es, x ≠ .ext es) → (∀ es, y ≠ .ext es) → xs.length + ys.length ≤ 100000 → P (.lst (xs ++ ys)) S → rCat v w H Q := fun xs ys ex ey nx ny hl p => by
    obtain ⟨l, xs', rfl, h1, r1⟩ := lst_hp ok rx ex nx
    obtain ⟨l', ys', rfl, h2, r2⟩ := lst_hp ok ry ey ny
    exact ⟨l, l', xs', ys', rfl, rfl, h1, h2, line5 (by rw [r1.len, r2.len]; exact hl), fun p' hp => q _ _ _ _ _ p (same_new (ok.freshI hp)) (ok.newI hp) (rep_new_lst (ok.freshI hp) (r1.app r2))⟩
  unfold dAdd at h
  split at h
  · cases rx.int_of; cases ry.int_of
    exact .inl ⟨_, _, rfl, rfl, q _ _ _ _ _ h (Same.refl I) ok rep_int⟩
  · cases rx.str_of; cases ry.str_of
    exact .inr (.inl ⟨_, _, rfl, rfl, line5 h.1, q _ _ _ _ _ h.2 (Same.refl I) ok rep_str⟩)
  · rename_i xs ys
    obtain ⟨l, xs', rfl, h1, r1⟩ := tup_sq ok rx
    obtain ⟨l', ys', rfl, h2, r2⟩ := tup_sq ok ry
    refine .inr (.inr (.inl ⟨l, l', xs', ys', rfl, rfl, h1, h2, line5 (by rw [r1.len, r2.len]; exact h.1), fun e => ?_, fun _ e => ?_, fun _ _ p hp => ?_⟩))
    · have : xs = [] := by
        have := r1.len; rw [e] at this
        exact List.eq_nil_of_length_eq_zero this.symm
      subst this
      exact q _ _ _ _ _ h.2 (Same.refl I) ok (by simpa using ry)
    · have : ys = [] := by
        have := r2.len; rw [e] at this
        exact List.eq_nil_of_length_eq_zero this.symm
      subst this
      exact q _ _ _ _ _ h.2 (Same.refl I) ok (by simpa using rx)
    · exact q _ _ _ _ _ h.2 (same_new (ok.freshI hp)) (ok.newI hp) (rep_new_tup (ok.freshI hp) (r1.app r2))
  · exact h.elim
  · exact h.elim
  · split at h
    · rename_i xs ys e1 e2
      refine .inr (.inr (.inr (lists xs ys e1 e2 (fun es z => ?_) (fun es z => ?_) h.1 h.2)))
      · simp_all
      · simp_all
    · exact h.elim
theorem je_add (ha : JE X a da) (hb : JE X b db) : JE X (.BinOp a .Add b pos) (dOp dAdd da db) := je_op (op_add.or (op_add_str.or (op_catA.or op_cat))) i_add ha hb
theorem i_sub {K : PySem.W.Frag} : Imp2 K (rI0 fun i j => .int (i - j)) dSub := by
  intro x y v w I S F H P Q ok rx ry h q
  unfold dSub at h
  split at h
  · cases rx.int_of; cases ry.int_of
    exact ⟨_, _, rfl, rfl, q _ _ _ _ _ h (Same.refl I) ok rep_int⟩
  · exact h.elim
theorem je_sub (ha : JE X a da) (hb : JE X b db) : JE X (.BinOp a .Sub b pos) (dOp dSub da db) := je_op op_sub i_sub ha hb
theorem repL_rep {K : PySem.W.Frag} {I : Hp} {ds : List D} {vs : List V} (h : RepL K I ds vs) : ∀ k : Nat, RepL K I (List.replicate k ds).flatten (List.replicate k vs).flatten
  | 0 => by simpa using RepL.nil
  | k + 1 => by
    simp only [List.replicate_succ, List.flatten_cons]
    exact h.app (repL_rep h k)
theorem i_mul {K : PySem.W.Frag} : Imp2 K (fun x y H Q => (rI MulB fun i j => .int (i * j)) x y H Q ∨ rRep x y H Q) dMul := by
  intro x y v w I S F H P Q ok rx ry h q
  unfold dMul at h
  split at h
  · cases rx.int_of; cases ry.int_of
    exact .inl ⟨_, _, rfl, rfl, h.1, q _ _ _ _ _ h.2 (Same.refl I) ok rep_int⟩
  · rename_i xs k
    obtain ⟨l, xs', rfl, h1, r1⟩ := rx.lst_of
    cases ry.int_of
    exact .inr ⟨l, k, xs', rfl, rfl, ok.i _ _ h1, h.1, h.2.1, line5 (by rw [r1.len]; exact h.2.2.1), fun p hp => q _ _ _ _ _ h.2.2.2 (same_new (ok.freshI hp)) (ok.newI hp) (rep_new_lst (ok.freshI hp) (repL_rep r1 _))⟩
  · exact h.elim
theorem je_mul (ha : JE X a da) (hb : JE X b db) : JE X (.BinOp a .Mult b pos) (dOp dMul da db) := je_op (op_mulA.or op_rep) i_mul ha hb
theorem i_fdiv {K : PySem.W.Frag} : Imp2 K (rI (fun _ j => DivB j) fun i j => .int (i.fdiv j)) dFdiv := by
  intro x y v w I S F H P Q ok rx ry h q
  unfold dFdiv at h
  split at h
  · cases rx.int_of; cases ry.int_of
    exact ⟨_, _, rfl, rfl, h.1, q _ _ _ _ _ h.2 (Same.refl I) ok rep_int⟩
  · exact h.elim
theorem je_fdiv (ha : JE X a da) (hb : JE X b db) : JE X (.BinOp a .FloorDiv b pos) (dOp dFdiv da db) := je_op op_fdivA i_fdiv ha hb
theorem i_mod {K : PySem.W.Frag} : Imp2 K (rI (fun _ j => 0 < j) fun i j => .int (i % j)) dMod := by
  intro x y v w I S F H P Q ok rx ry h q
  unfold dMod at h
  split at h
  · cases rx.int_of; cases ry.int_of
    exact ⟨_, _, rfl, rfl, h.1, q _ _ _ _ _ h.2 (Same.refl I) ok rep_int⟩
  · exact h.elim
theorem je_mod (ha : JE X a da) (hb : JE X b db) : JE X (.BinOp a .Mod b pos) (dOp dMod da db) := je_op op_mod i_mod ha hb
theorem i_pow {K : PySem.W.Frag} : Imp2 K (rI CPow fun i j => .int (i ^ j.toNat)) dPow := by
  intro x y v w I S F H P Q ok rx ry h q
  unfold dPow at h
  split at h
  · cases rx.int_of; cases ry.int_of
    exact ⟨_, _, rfl, rfl, h.1, q _ _ _ _ _ h.2 (Same.refl I) ok rep_int⟩
  · exact h.elim
theorem je_pow (ha : JE X a da) (hb : JE X b db) : JE X (.BinOp a .Pow b pos) (dOp dPow da db) := je_op op_pow i_pow ha hb
theorem i_neg {K : PySem.W.Frag} : Imp1 K (rU fun i => .int (-i)) dNeg := by
  intro x v I S F H P Q ok rx h q
  unfold dNeg at h
  split at h
  · cases rx.int_of
    exact ⟨_, rfl, q _ _ _ _ _ h (Same.refl I) ok rep_int⟩
  · exact h.elim
theorem je_neg (ha : JE X a da) : JE X (.UnaryOp .USub a pos) (dUn dNeg da) := je_un un_neg i_neg ha
theorem i_lt {K : PySem.W.Frag} : Imp2 K (rI0 fun i j => .bl (decide (i < j))) dLt := by
  intro x y v w I S F H P Q ok rx ry h q
  unfold dLt at h
  split at h
  · cases rx.int_of; cases ry.int_of
    exact ⟨_, _, rfl, rfl, q _ _ _ _ _ h (Same.refl I) ok rep_bl⟩
  · exact h.elim
theorem i_le {K : PySem.W.Frag} : Imp2 K (rI0 fun i j => .bl (decide (i ≤ j))) dLe := by
  intro x y v w I S F H P Q ok rx ry h q
  unfold dLe at h
  split at h
  · cases rx.int_of; cases ry.int_of
    exact ⟨_, _, rfl, rfl, q _ _ _ _ _ h (Same.refl I) ok rep_bl⟩
  · exact h.elim
theorem i_gt {K : PySem.W.Frag} : Imp2 K (rI0 fun i j => .bl (decide (j < i))) dGt := by
  intro x y v w I S F H P Q ok rx ry h q
  unfold dGt at h
  split at h
  · cases rx.int_of; cases ry.int_of
    exact ⟨_, _, rfl, rfl, q _ _ _ _ _ h (Same.refl I) ok rep_bl⟩
  · exact h.elim
theorem i_ge {K : PySem.W.Frag} : Imp2 K (rI0 fun i j => .bl (decide (j ≤ i))) dGe := by
  intro x y v w I S F H P Q ok rx ry h q
  unfold dGe at h
  split at h
  · cases rx.int_of; cases ry.int_of
    exact ⟨_, _, rfl, rfl, q _ _ _ _ _ h (Same.refl I) ok rep_bl⟩
  · exact h.elim
theorem je_lt (ha : JE X a da) (hb : JE X b db) : JE X (.Compare a [.Lt] [b] pos) (dOp dLt da db) := je_cmp op_lt i_lt ha hb (nomark _)
theorem je_ge (ha : JE X a da) (hb : JE X b db) : JE X (.Compare a [.GtE] [b] pos) (dOp dGe da db) := je_cmp op_ge i_ge ha hb (nomark _)
theorem jt_lt (ha : JE X a da) (hb : JE X b db) : JT X (.Compare a [.Lt] [b] pos) (dTest (dOp dLt da db)) := jt_cmp op_lt i_lt ha hb (nomark _)
theorem jt_gt (ha : JE X a da) (hb : JE X b db) : JT X (.Compare a [.Gt] [b] pos) (dTest (dOp dGt da db)) := jt_cmp op_gt i_gt ha hb (nomark _)
theorem jt_ge (ha : JE X a da) (hb : JE X b db) : JT X (.Compare a [.GtE] [b] pos) (dTest (dOp dGe da db)) := jt_cmp op_ge i_ge ha hb (nomark _)

end

/-! ### == and != -/
mutual
def D.py : D → Option PyData
  | .non => some .none
  | .bl b => some (.bool b)
  | .int i => some (.int i)
  | .str s => some (.str s)
  | .lst ds => (D.pyL ds).map .list
  | .ext ds => (D.pyL ds).map .list
  | .tup ds => (D.pyL ds).map .tuple
  | .tq ds => (D.pyL ds).map .tuple
  | .ty _ => none
  | .obj _ => none
def D.pyL : List D → Option (List PyData)
  | [] => some []
  | d :: ds => match d.py, D.pyL ds with
    | some p, some ps => some (p :: ps)
    | _, _ => none
end
section
variable {K : PySem.W.Frag} {I H : Hp}
mutual
theorem rep_dp (e : Same I H) : ∀ (d : D) (v : V) (p : PyData), Rep K I d v → d.py = some p → Dp K H v p
  | .non, v, p, h, q => by cases h.non_of; simp only [D.py, Option.some.injEq] at q; subst q; exact .non
  | .bl b, v, p, h, q => by cases h.bl_of; simp only [D.py, Option.some.injEq] at q; subst q; exact .bl b
  | .int b, v, p, h, q => by cases h.int_of; simp only [D.py, Option.some.injEq] at q; subst q; exact .int b
  | .str b, v, p, h, q => by cases h.str_of; simp only [D.py, Option.some.injEq] at q; subst q; exact .str b
  | .lst ds, v, p, h, q => by
    obtain ⟨a, xs, rfl, h1, r⟩ := h.lst_of
    simp only [D.py] at q
    cases z : D.pyL ds with
    | none => rw [z] at q; cases q
    | some ps =>
      rw [z] at q; simp only [Option.map_some, Option.some.injEq] at q; subst q
      exact .lst (.of (e _ _ h1)) (rep_dpL e ds xs ps r z)
  | .ext ds, v, p, h, q => by
    obtain ⟨a, xs, rfl, h1, r⟩ := h.ext_of
    simp only [D.py] at q
    cases z : D.pyL ds with
    | none => rw [z] at q; cases q
    | some ps =>
      rw [z] at q; simp only [Option.map_some, Option.some.injEq] at q; subst q
      exact .lst (e.seq h1) (rep_dpL e ds xs ps r z)
  | .tup ds, v, p, h, q => by
    obtain ⟨a, xs, rfl, h1, r⟩ := h.tup_of
    simp only [D.py] at q
    cases z : D.pyL ds with
    | none => rw [z] at q; cases q
    | some ps =>
      rw [z] at q; simp only [Option.map_some, Option.some.injEq] at q; subst q
      exact .tup (sqT_same e h1) (rep_dpL e ds xs ps r z)
  | .tq ds, v, p, h, q => by
    obtain ⟨a, xs, rfl, h1, r⟩ := h.tq_of
    simp only [D.py] at q
    cases z : D.pyL ds with
    | none => rw [z] at q; cases q
    | some ps =>
      rw [z] at q; simp only [Option.map_some, Option.some.injEq] at q; subst q
      exact .tup (sqT_same e (.inl h1)) (rep_dpL e ds xs ps r z)
  | .ty _, v, p, h, q => by simp [D.py] at q
  | .obj _, v, p, h, q => by simp [D.py] at q
theorem rep_dpL (e : Same I H) : ∀ (ds : List D) (vs : List V) (ps : List PyData), RepL K I ds vs → D.pyL ds = some ps → DpAll K H vs ps
  | [], vs, ps, h, q => by
    simp only [RepL] at h
    simp only [D.pyL, Option.some.injEq] at q
    subst h q; exact .nil
  | d :: ds, vs, ps, h, q => by
    simp only [RepL] at h
    obtain ⟨v, r, rfl, h1, h2⟩ := h
    simp only [D.pyL] at q
    cases e1 : d.py with
    | none => rw [e1] at q; cases q
    | some p =>
      cases e2 : D.pyL ds with
      | none => rw [e1, e2] at q; cases q
      | some ps' =>
        rw [e1, e2] at q; simp only [Option.some.injEq] at q; subst q
        exact .cons (rep_dp e d v p h1 e1) (rep_dpL e ds r ps' h2 e2)
end
end
/-- what == gives of two data -/
def dEqB : D → D → Option Bool
  | .int i, .int j => some (decide (i = j))
  | .bl i, .bl j => some (decide (i = j))
  | .str i, .str j => some (decide (i = j))
  | .non, .non => some true
  | .non, .int _ => some false
  | .int _, .non => some false
  | .non, .str _ => some false
  | .str _, .non => some false
  | .non, .bl _ => some false
  | .bl _, .non => some false
  | .int _, .str _ => some false
  | .str _, .int _ => some false
  | .bl _, .str _ => some false
  | .str _, .bl _ => some false
  | x, y => match x.py, y.py with
    | some p, some q => if SeqAt.shaped p = true ∧ SeqAt.shaped q = true then some (PyData.eqv p q) else none
    | _, _ => none
def dEq : D2 := fun x y S P => match dEqB x y with
  | some k => P (.bl k) S
  | none => False
def dNe : D2 := fun x y S P => match dEqB x y with
  | some k => P (.bl (!k)) S
  | none => False
section
variable {K : PySem.W.Frag}
theorem eqB_of {I H : Hp} {x y : D} {v w : V} {k : Bool} (e : Same I H) (rx : Rep K I x v) (ry : Rep K I y w) (h : dEqB x y = some k) :
    (scal v w = true ∧ decide (v = w) = k) ∨ ∃ p q, Dp K H v p ∧ Dp K H w q ∧ SeqAt.shaped p = true ∧ SeqAt.shaped q = true ∧ PyData.eqv p q = k := by
  unfold dEqB at h
  split at h
  case h_1 => cases rx.int_of; cases ry.int_of; cases h; exact .inl ⟨rfl, by simp⟩
  case h_2 => cases rx.bl_of; cases ry.bl_of; cases h; exact .inl ⟨rfl, by simp⟩
  case h_3 => cases rx.str_of; cases ry.str_of; cases h; exact .inl ⟨rfl, by simp⟩
  case h_4 => cases rx.non_of; cases ry.non_of; cases h; exact .inl ⟨rfl, by simp⟩
  case h_5 => cases rx.non_of; cases ry.int_of; cases h; exact .inl ⟨rfl, by simp⟩
  case h_6 => cases rx.int_of; cases ry.non_of; cases h; exact .inl ⟨rfl, by simp⟩
  case h_7 => cases rx.non_of; cases ry.str_of; cases h; exact .inl ⟨rfl, by simp⟩
  case h_8 => cases rx.str_of; cases ry.non_of; cases h; exact .inl ⟨rfl, by simp⟩
  case h_9 => cases rx.non_of; cases ry.bl_of; cases h; exact .inl ⟨rfl, by simp⟩
  case h_10 => cases rx.bl_of; cases ry.non_of; cases h; exact .inl ⟨rfl, by simp⟩
  case h_11 => cases rx.int_of; cases ry.str_of; cases h; exact .inl ⟨rfl, by simp⟩
  case h_12 => cases rx.str_of; cases ry.int_of; cases h; exact .inl ⟨rfl, by simp⟩
  case h_13 => cases rx.bl_of; cases ry.str_of; cases h; exact .inl ⟨rfl, by simp⟩
  case h_14 => cases rx.str_of; cases ry.bl_of; cases h; exact .inl ⟨rfl, by simp⟩
  case h_15 =>
    split at h
    · rename_i p q e1 e2
      split at h
      · rename_i hs
        cases h
        exact .inr ⟨p, q, rep_dp e _ _ _ rx e1, rep_dp e _ _ _ ry e2, hs.1, hs.2, rfl⟩
      · cases h
    · cases h
theorem i_eq : Imp2 K (fun x y H Q => rEq x y H Q ∨ rEqD K x y H Q) dEq := by
  intro x y v w I S F H P Q ok rx ry h q
  unfold dEq at h
  split at h
  · rename_i k e
    rcases eqB_of ok.same rx ry e with ⟨h1, h2⟩ | ⟨p, p', h1, h2, h3, h4, h5⟩
    · exact .inl ⟨h1, by rw [h2]; exact q _ _ _ _ _ h (Same.refl I) ok rep_bl⟩
    · exact .inr ⟨p, p', h1, h2, h3, h4, by rw [h5]; exact q _ _ _ _ _ h (Same.refl I) ok rep_bl⟩
  · exact h.elim
theorem i_ne : Imp2 K (fun x y H Q => rNe x y H Q ∨ rNeD K x y H Q) dNe := by
  intro x y v w I S F H P Q ok rx ry h q
  unfold dNe at h
  split at h
  · rename_i k e
    rcases eqB_of ok.same rx ry e with ⟨h1, h2⟩ | ⟨p, p', h1, h2, h3, h4, h5⟩
    · exact .inl ⟨h1, by rw [h2]; exact q _ _ _ _ _ h (Same.refl I) ok rep_bl⟩
    · exact .inr ⟨p, p', h1, h2, h3, h4, by rw [h5]; exact q _ _ _ _ _ h (Same.refl I) ok rep_bl⟩
  · exact h.elim
variable {X : Cx} {pos : Pos} {a b : Expr} {da db : DE}
theorem je_eq {k : Nat} (hr : DG.RoomG k X.A) (ha : JE X a da) (hb : JE X b db) : JE X (.Compare a [.Eq] [b] pos) (dOp dEq da db) := je_cmp (op_eq.or (op_eqD hr.r.units)) i_eq ha hb (nomark _)
theorem jt_eq {k : Nat} (hr : DG.RoomG k X.A) (ha : JE X a da) (hb : JE X b db) : JT X (.Compare a [.Eq] [b] pos) (dTest (dOp dEq da db)) := jt_cmp (op_eq.or (op_eqD hr.r.units)) i_eq ha hb (nomark _)
theorem jt_ne {k : Nat} (hr : DG.RoomG k X.A) (ha : JE X a da) (hb : JE X b db) : JT X (.Compare a [.NotEq] [b] pos) (dTest (dOp dNe da db)) := jt_cmp (op_ne.or (op_neD hr.r.units)) i_ne ha hb (nomark _)
end

/-! ### is None, in -/
def isNon : D → Bool
  | .non => true
  | _ => false
def dIsN : D2 := fun x y S P => match y with
  | .non => P (.bl (isNon x)) S
  | _ => False
def dNotN : D2 := fun x y S P => match y with
  | .non => P (.bl (!isNon x)) S
  | _ => False
def isFlat : D → Bool
  | .non | .bl _ | .int _ | .str _ => true
  | _ => false
/-- y is in the list, as == has it, of flat things -/
def eqFlat : D → D → Bool
  | .non, .non => true
  | .bl a, .bl b => a == b
  | .bl a, .int j => (if a then 1 else 0) == j
  | .int i, .bl b => i == (if b then 1 else 0)
  | .int i, .int j => decide (i = j)
  | .str x, .str y => decide (x = y)
  | _, _ => false
def dIn (neg : Bool) : D2 := fun x y S P => match seqOf S y with
  | some ys => isFlat x = true ∧ ys.all isFlat = true ∧ P (.bl (if neg then !(ys.any fun z => eqFlat z x) else ys.any fun z => eqFlat z x)) S
  | none => False
section
variable {K : PySem.W.Frag} {I F H : Hp}
theorem flat_rep {x : D} {v : V} (r : Rep K I x v) (h : isFlat x = true) : flatV v = true := by
  cases x with
  | non => cases r.non_of; rfl
  | bl b => cases r.bl_of; rfl
  | int i => cases r.int_of; rfl
  | str s => cases r.str_of; rfl
  | _ => simp [isFlat] at h
theorem eqFlat_rep {x y : D} {v w : V} (rx : Rep K I x v) (ry : Rep K I y w) (hx : isFlat x = true) (hy : isFlat y = true) : eqV v w = eqFlat x y := by
  cases x <;> simp only [isFlat, Bool.false_eq_true] at hx <;> cases y <;> simp only [isFlat, Bool.false_eq_true] at hy <;>
    simp only [Rep] at rx ry <;> subst rx <;> subst ry <;> first | rfl | simp [eqV, eqFlat] | (simp [eqV, eqFlat]; done)
theorem flats_rep : ∀ {xs : List D} {vs : List V}, RepL K I xs vs → xs.all isFlat = true → vs.all flatV = true
  | [], vs, r, _ => by
    simp only [RepL] at r
    subst r; rfl
  | x :: xs, vs, r, h => by
    simp only [RepL] at r
    obtain ⟨v, r', rfl, h1, h2⟩ := r
    simp only [List.all_cons, Bool.and_eq_true] at h ⊢
    exact ⟨flat_rep h1 h.1, flats_rep h2 h.2⟩
theorem anys_rep {x : D} {v : V} (rx : Rep K I x v) (fx : isFlat x = true) : ∀ {xs : List D} {vs : List V}, RepL K I xs vs → xs.all isFlat = true → inV v vs = xs.any fun z => eqFlat z x
  | [], vs, r, _ => by
    simp only [RepL] at r
    subst r; rfl
  | y :: xs, vs, r, h => by
    simp only [RepL] at r
    obtain ⟨w, r', rfl, h1, h2⟩ := r
    simp only [List.all_cons, Bool.and_eq_true] at h
    show (eqV w v || inV v r') = _
    rw [eqFlat_rep h1 rx h.1 fx, anys_rep rx fx h2 h.2]
    rfl
theorem seq_sq (ok : Ok K I S F H) {x : D} {v : V} {ds : List D} (r : Rep K I x v) (h : seqOf S x = some ds) : ∃ a xs, v = .ref a ∧ (SqL K H a xs ∨ SqT K H a xs) ∧ RepL K I ds xs := by
  cases x with
  | tup es =>
    simp only [seqOf, Option.some.injEq] at h; subst h
    obtain ⟨a, xs, e, q, rl⟩ := tup_sq ok r
    exact ⟨a, xs, e, .inr q, rl⟩
  | _ =>
    simp only [seqOf] at h
    obtain ⟨a, xs, e, q, rl⟩ := lst_sq ok r h
    exact ⟨a, xs, e, .inl q, rl⟩
theorem i_in (neg : Bool) : Imp2 K (rIn K neg) (dIn neg) := by
  intro x y v w I S F H P Q ok rx ry h q
  unfold dIn at h
  split at h
  · rename_i ys e
    obtain ⟨a, vs, rfl, hs, rl⟩ := seq_sq ok ry e
    refine ⟨a, vs, rfl, hs, flat_rep rx h.1, flats_rep rl h.2.1, ?_⟩
    rw [anys_rep rx h.1 rl h.2.1]
    exact q _ _ _ _ _ h.2.2 (Same.refl I) ok rep_bl
  · exact h.elim
theorem isNon_rep {I : Hp} {x : D} {v : V} (r : Rep K I x v) : decide (v = .non) = isNon x := by
  cases x with
  | non => cases r.non_of; rfl
  | bl b => cases r.bl_of; rfl
  | int i => cases r.int_of; rfl
  | str s => cases r.str_of; rfl
  | ty n => simp only [Rep] at r; subst r; rfl
  | obj a => cases r.obj_of; rfl
  | lst ds => obtain ⟨a, xs, rfl, _⟩ := r.lst_of; rfl
  | ext ds => obtain ⟨a, xs, rfl, _⟩ := r.ext_of; rfl
  | tup ds => obtain ⟨a, xs, rfl, _⟩ := r.tup_of; rfl
  | tq ds => obtain ⟨a, xs, rfl, _⟩ := r.tq_of; rfl
theorem i_isN : Imp2 K (fun x y H Q => y = .non ∧ Q (.bl (decide (x = .non))) H) dIsN := by
  intro x y v w I S F H P Q ok rx ry h q
  unfold dIsN at h
  split at h
  · refine ⟨ry.non_of, ?_⟩
    rw [isNon_rep rx]
    exact q _ _ _ _ _ h (Same.refl I) ok rep_bl
  · exact h.elim
theorem i_notN : Imp2 K (fun x y H Q => y = .non ∧ Q (.bl (!decide (x = .non))) H) dNotN := by
  intro x y v w I S F H P Q ok rx ry h q
  unfold dNotN at h
  split at h
  · refine ⟨ry.non_of, ?_⟩
    rw [isNon_rep rx]
    exact q _ _ _ _ _ h (Same.refl I) ok rep_bl
  · exact h.elim
variable {X : Cx} {pos : Pos} {a b : Expr} {da db : DE}
theorem jt_in (ha : JE X a da) (hb : JE X b db) (hm : behindInMarks .In b = false := by rfl) : JT X (.Compare a [.In] [b] pos) (dTest (dOp (dIn false) da db)) := jt_cmp op_in_seq (i_in false) ha hb hm
theorem jt_isN (ha : JE X a da) (hb : JE X b db) : JT X (.Compare a [.Is] [b] pos) (dTest (dOp dIsN da db)) := jt_cmp op_isN i_isN ha hb (nomark _)
theorem jt_notN (ha : JE X a da) (hb : JE X b db) : JT X (.Compare a [.IsNot] [b] pos) (dTest (dOp dNotN da db)) := jt_cmp op_notN i_notN ha hb (nomark _)
end

/-! ### subscripts -/
def dIx : D2 := fun x y S P => match y with
  | .int i => match x with
    | .str z => z.length ≤ 100000 ∧ (match atI z.cps.toList i with
      | some c => P (.str ⟨#[c]⟩) S
      | none => False)
    | x => match seqOf S x with
      | some ds => match atI ds i with
        | some d => P d S
        | none => False
      | none => False
  | _ => False
def dcut (xs : List D) (lo hi : Option Int) : List D := (xs.drop (HT.sIx xs.length 0 lo)).take (HT.sIx xs.length xs.length hi - HT.sIx xs.length 0 lo)
abbrev DO := DSt → Store → (Option Int → Store → Prop) → Prop
def dNoPart : DO := fun _ S P => P none S
def dPart (d : DE) : DO := fun ρ S P => d ρ S fun x S1 => match x with
  | .int i => P (some i) S1
  | _ => False
def dSl (d : DE) (lo hi : DO) : DE := fun ρ S P => d ρ S fun x S1 => lo ρ S1 fun l S2 => hi ρ S2 fun u S3 => match x with
  | .tup ds => P (.tup (dcut ds l u)) S3
  | x => match lstOf S3 x with
    | some ds => P (.lst (dcut ds l u)) S3
    | none => False
section
variable {K : PySem.W.Frag} {I F H : Hp} {S : Store}
theorem atI_rep {ds : List D} {vs : List V} {i : Int} {d : D} (r : RepL K I ds vs) (h : atI ds i = some d) : ∃ v, atI vs i = some v ∧ Rep K I d v := by
  unfold atI at h ⊢
  rw [r.len]
  cases e : ixN ds.length i with
  | none => rw [e] at h; cases h
  | some j =>
    rw [e] at h
    exact r.get (i := j) h
theorem i_ix : Imp2 K (rIx K) dIx := by
  intro x y v w I S F H P Q ok rx ry h q
  unfold dIx at h
  split at h
  · rename_i i
    cases ry.int_of
    split at h
    · rename_i z
      cases rx.str_of
      obtain ⟨hl, h⟩ := h
      split at h
      · rename_i c e
        exact .inr (.inr ⟨_, _, c, rfl, rfl, line5 hl, e, q _ _ _ _ _ h (Same.refl I) ok rep_str⟩)
      · exact h.elim
    · split at h
      · rename_i ds e
        split at h
        · rename_i d e2
          obtain ⟨a, xs, rfl, hs, rl⟩ := seq_sq ok rx e
          obtain ⟨u, e3, r3⟩ := atI_rep rl e2
          rcases hs with hs | hs
          · exact .inl ⟨a, xs, i, u, rfl, rfl, hs, e3, q _ _ _ _ _ h (Same.refl I) ok r3⟩
          · exact .inr (.inl ⟨a, xs, i, u, rfl, rfl, hs, e3, q _ _ _ _ _ h (Same.refl I) ok r3⟩)
        · exact h.elim
      · exact h.elim
  · exact h.elim
variable {X : Cx} {pos : Pos} {a b : Expr} {da db : DE}
theorem je_ix (ha : JE X a da) (hb : JE X b db) (hs : PlainIx b := by exact fun _ _ => rfl) : JE X (.Subscript a b pos) (dOp dIx da db) := je_of (pe_ix ix_seq ha hb hs) (up_op i_ix)
/-- xs[::-1] -/
def dRevL (d : DE) : DE := fun ρ S P => d ρ S fun x S1 => match lstOf S1 x with
  | some ds => P (.lst ds.reverse) S1
  | none => False
end
end DL

namespace DL
open PySem PySem.Spec PyProof.Rows L2

/-! ### keywords -/
def pick {α : Type} (perm : List Nat) (us ws : List α) : List α := perm.filterMap fun i => (us ++ ws)[i]?
def dCallK (sp : DSp) (n m : Nat) (perm : List Nat) (a kw : DA) : DE := fun ρ S P => a ρ S fun xs S1 => kw ρ S1 fun ys S2 => xs.length = n ∧ ys.length = m ∧ sp (pick perm xs ys) S2 P
section
variable {X : Cx} {pos kpos : Pos} {a b : Expr} {da db : DE} {es : List Expr} {ds dk : DA} {kws : List Keyword} {nm : Option Str}
variable {k n : Nat} {f : Addr} {fd : FuncData} {ps ks : List Str} {sp : DSp} {x : Str} {p : Pos} {perm : List Nat}
end

/-! ### built-ins -/
def dInts : List D → Option (List Int)
  | [] => some []
  | .int i :: r => (dInts r).map (i :: ·)
  | _ => none
def dBools : List D → Option (List Bool)
  | [] => some []
  | .bl i :: r => (dBools r).map (i :: ·)
  | _ => none
theorem dInts_map : ∀ ns : List Int, dInts (ns.map .int) = some ns
  | [] => rfl
  | n :: ns => by simp [dInts, dInts_map ns]
theorem dBools_map : ∀ ns : List Bool, dBools (ns.map .bl) = some ns
  | [] => rfl
  | n :: ns => by simp [dBools, dBools_map ns]
theorem dInts_rep {K : PySem.W.Frag} {I : Hp} : ∀ {ds : List D} {vs : List V} {ns : List Int}, RepL K I ds vs → dInts ds = some ns → vs = ns.map V.int
  | [], vs, ns, r, h => by
    simp only [RepL] at r
    simp only [dInts, Option.some.injEq] at h
    subst r h; rfl
  | d :: ds, vs, ns, r, h => by
    simp only [RepL] at r
    obtain ⟨v, r', rfl, h1, h2⟩ := r
    cases d with
    | int i =>
      simp only [dInts] at h
      cases e : dInts ds with
      | none => rw [e] at h; cases h
      | some ms =>
        rw [e] at h
        simp only [Option.map_some, Option.some.injEq] at h
        subst h
        rw [dInts_rep h2 e, h1.int_of]; rfl
    | _ => simp [dInts] at h
theorem dBools_rep {K : PySem.W.Frag} {I : Hp} : ∀ {ds : List D} {vs : List V} {ns : List Bool}, RepL K I ds vs → dBools ds = some ns → vs = ns.map V.bl
  | [], vs, ns, r, h => by
    simp only [RepL] at r
    simp only [dBools, Option.some.injEq] at h
    subst r h; rfl
  | d :: ds, vs, ns, r, h => by
    simp only [RepL] at r
    obtain ⟨v, r', rfl, h1, h2⟩ := r
    cases d with
    | bl i =>
      simp only [dBools] at h
      cases e : dBools ds with
      | none => rw [e] at h; cases h
      | some ms =>
        rw [e] at h
        simp only [Option.map_some, Option.some.injEq] at h
        subst h
        rw [dBools_rep h2 e, h1.bl_of]; rfl
    | _ => simp [dBools] at h
def cAbs : DC := fun xs S P => match xs with
  | [.int i] => P (.int (if i < 0 then -i else i)) S
  | _ => False
def cMax2 : DC := fun xs S P => match xs with
  | [.int i, .int j] => P (.int (if j > i then j else i)) S
  | _ => False
def cMin2 : DC := fun xs S P => match xs with
  | [.int i, .int j] => P (.int (if j < i then j else i)) S
  | _ => False
def cMaxL : DC := fun xs S P => match xs with
  | [x] => match (lstOf S x).bind dInts with
    | some ns => 0 < ns.length ∧ ∀ m, m ∈ ns → (∀ y, y ∈ ns → y ≤ m) → P (.int m) S
    | none => False
  | _ => False
def cSum : DC := fun xs S P => match xs with
  | [x] => match (lstOf S x).bind dInts with
    | some ns => P (.int ns.sum) S
    | none => False
  | _ => False
def cAll : DC := fun xs S P => match xs with
  | [x] => match (lstOf S x).bind dBools with
    | some ns => P (.bl (ns.all id)) S
    | none => False
  | _ => False
def cInt : DC := fun xs S P => match xs with
  | [.int i] => P (.int i) S
  | [.bl k] => P (.int (if k then 1 else 0)) S
  | _ => False
def cLen : DC := fun xs S P => match xs with
  | [.str z] => z.length ≤ 100000 ∧ P (.int z.length) S
  | [x] => match seqOf S x with
    | some ds => P (.int ds.length) S
    | none => False
  | _ => False
def cList : DC := fun xs S P => match xs with
  | [x] => match seqOf S x with
    | some ds => P (.lst ds) S
    | none => False
  | _ => False
def cTuple : DC := fun xs S P => match xs with
  | [x] => match seqOf S x with
    | some ds => P (.tup ds) S
    | none => False
  | _ => False
section
variable {K : PySem.W.Frag}
theorem i_abs : ImpC K (fun xs H Q => ∃ i, xs = [.int i] ∧ Q (.int (if i < 0 then -i else i)) H) cAbs := by
  intro xs vs I S F H P Q ok r h q
  unfold cAbs at h
  split at h
  · obtain ⟨v, rfl, rv⟩ := r.inv1
    cases rv.int_of
    exact ⟨_, rfl, q _ _ _ _ _ h (Same.refl I) ok rep_int⟩
  · exact h.elim
theorem i_max2 : ImpC K (fun xs H Q => ∃ i j, xs = [.int i, .int j] ∧ Q (.int (if j > i then j else i)) H) cMax2 := by
  intro xs vs I S F H P Q ok r h q
  unfold cMax2 at h
  split at h
  · obtain ⟨v, w, rfl, rv, rw⟩ := r.inv2
    cases rv.int_of; cases rw.int_of
    exact ⟨_, _, rfl, q _ _ _ _ _ h (Same.refl I) ok rep_int⟩
  · exact h.elim
theorem i_min2 : ImpC K (fun xs H Q => ∃ i j, xs = [.int i, .int j] ∧ Q (.int (if j < i then j else i)) H) cMin2 := by
  intro xs vs I S F H P Q ok r h q
  unfold cMin2 at h
  split at h
  · obtain ⟨v, w, rfl, rv, rw⟩ := r.inv2
    cases rv.int_of; cases rw.int_of
    exact ⟨_, _, rfl, q _ _ _ _ _ h (Same.refl I) ok rep_int⟩
  · exact h.elim
theorem lstInts {I F H : Hp} {S : Store} (ok : Ok K I S F H) {x : D} {v : V} {ns : List Int} (r : Rep K I x v) (h : (lstOf S x).bind dInts = some ns) : ∃ a, v = .ref a ∧ SqL K H a (ns.map V.int) := by
  cases e : lstOf S x with
  | none => rw [e] at h; cases h
  | some ds =>
    rw [e] at h
    obtain ⟨a, xs, rfl, hs, rl⟩ := lst_sq ok r e
    exact ⟨a, rfl, by rw [← dInts_rep rl h]; exact hs⟩
theorem lstBools {I F H : Hp} {S : Store} (ok : Ok K I S F H) {x : D} {v : V} {ns : List Bool} (r : Rep K I x v) (h : (lstOf S x).bind dBools = some ns) : ∃ a, v = .ref a ∧ SqL K H a (ns.map V.bl) := by
  cases e : lstOf S x with
  | none => rw [e] at h; cases h
  | some ds =>
    rw [e] at h
    obtain ⟨a, xs, rfl, hs, rl⟩ := lst_sq ok r e
    exact ⟨a, rfl, by rw [← dBools_rep rl h]; exact hs⟩
theorem i_maxL : ImpC K (rMax K) cMaxL := by
  intro xs vs I S F H P Q ok r h q
  unfold cMaxL at h
  split at h
  · split at h
    · rename_i ns e
      obtain ⟨v, rfl, rv⟩ := r.inv1
      obtain ⟨a, rfl, hs⟩ := lstInts ok rv e
      exact ⟨a, ns, rfl, hs, h.1, fun m hm hy => q _ _ _ _ _ (h.2 m hm hy) (Same.refl I) ok rep_int⟩
    · exact h.elim
  · exact h.elim
theorem i_sum : ImpC K (rSum K) cSum := by
  intro xs vs I S F H P Q ok r h q
  unfold cSum at h
  split at h
  · split at h
    · rename_i ns e
      obtain ⟨v, rfl, rv⟩ := r.inv1
      obtain ⟨a, rfl, hs⟩ := lstInts ok rv e
      exact ⟨a, ns, rfl, hs, q _ _ _ _ _ h (Same.refl I) ok rep_int⟩
    · exact h.elim
  · exact h.elim
theorem i_all : ImpC K (rAll K) cAll := by
  intro xs vs I S F H P Q ok r h q
  unfold cAll at h
  split at h
  · split at h
    · rename_i ns e
      obtain ⟨v, rfl, rv⟩ := r.inv1
      obtain ⟨a, rfl, hs⟩ := lstBools ok rv e
      exact ⟨a, ns, rfl, hs, q _ _ _ _ _ h (Same.refl I) ok rep_bl⟩
    · exact h.elim
  · exact h.elim
theorem i_int : ImpC K (fun xs H Q => (∃ i, xs = [.int i] ∧ Q (.int i) H) ∨ ∃ k, xs = [.bl k] ∧ Q (.int (if k then 1 else 0)) H) cInt := by
  intro xs vs I S F H P Q ok r h q
  unfold cInt at h
  split at h
  · obtain ⟨v, rfl, rv⟩ := r.inv1
    cases rv.int_of
    exact .inl ⟨_, rfl, q _ _ _ _ _ h (Same.refl I) ok rep_int⟩
  · obtain ⟨v, rfl, rv⟩ := r.inv1
    cases rv.bl_of
    exact .inr ⟨_, rfl, q _ _ _ _ _ h (Same.refl I) ok rep_int⟩
  · exact h.elim
theorem i_len : ImpC K (fun xs H Q => (∃ p ys, xs = [.ref p] ∧ (SqL K H p ys ∨ SqT K H p ys) ∧ Q (.int ys.length) H) ∨ ∃ z, xs = [.str z] ∧ z.length ≤ sizeLine ∧ Q (.int z.length) H) cLen := by
  intro xs vs I S F H P Q ok r h q
  unfold cLen at h
  split at h
  · obtain ⟨v, rfl, rv⟩ := r.inv1
    cases rv.str_of
    exact .inr ⟨_, rfl, line5 h.1, q _ _ _ _ _ h.2 (Same.refl I) ok rep_int⟩
  · split at h
    · rename_i ds e
      obtain ⟨v, rfl, rv⟩ := r.inv1
      obtain ⟨a, xs, rfl, hs, rl⟩ := seq_sq ok rv e
      exact .inl ⟨a, xs, rfl, hs, by rw [rl.len]; exact q _ _ _ _ _ h (Same.refl I) ok rep_int⟩
    · exact h.elim
  · exact h.elim
theorem i_tuple : ImpC K (fun xs H Q => ∃ p ys, xs = [.ref p] ∧ ((SqL K H p ys ∧ ∀ l, H l = none → Q (.ref l) (upd H l (.tup ys))) ∨ (SqT K H p ys ∧ Q (.ref p) H))) cTuple := by
  intro xs vs I S F H P Q ok r h q
  unfold cTuple at h
  split at h
  · rename_i x
    split at h
    · rename_i ds e
      obtain ⟨v, rfl, rv⟩ := r.inv1
      cases x with
      | tup es =>
        simp only [seqOf, Option.some.injEq] at e; subst e
        obtain ⟨a, xs, rfl, hs, rl⟩ := tup_sq ok rv
        exact ⟨a, xs, rfl, .inr ⟨hs, q _ _ _ _ _ h (Same.refl I) ok rv⟩⟩
      | _ =>
        simp only [seqOf] at e
        obtain ⟨a, xs, rfl, hs, rl⟩ := lst_sq ok rv e
        exact ⟨a, xs, rfl, .inl ⟨hs, fun l hl => q _ _ _ _ _ h (same_new (ok.freshI hl)) (ok.newI hl) (rep_new_tup (ok.freshI hl) rl)⟩⟩
    · exact h.elim
  · exact h.elim
/-! isinstance -/
def tyName (S : Store) : D → Option String
  | .non => some "NoneType"
  | .bl _ => some "bool"
  | .int _ => some "int"
  | .str _ => some "str"
  | .lst _ => some "list"
  | .tup _ => some "tuple"
  | .obj a => match S a with
    | some (.lst _) => some "list"
    | some (.dK _) => some "dict"
    | _ => none
  | _ => none
def isTy (m n : String) : Bool := m == n || (m == "bool" && n == "int")
def knownTy (n : String) : Bool := n == "bool" || n == "int" || n == "str" || n == "list" || n == "tuple" || n == "dict"
theorem kit_isTy : ∀ m ∈ ["NoneType", "bool", "int", "str", "list", "tuple", "dict"], ∀ n ∈ ["bool", "int", "str", "list", "tuple", "dict"], kitB m n = some (isTy m n) := by decide +kernel
theorem tyName_in {S : Store} {x : D} {m : String} (h : tyName S x = some m) : m ∈ ["NoneType", "bool", "int", "str", "list", "tuple", "dict"] := by
  unfold tyName at h
  split at h <;> first | (cases h; done) | skip
  all_goals try (simp only [Option.some.injEq] at h; subst h; decide)
  split at h <;> first | (cases h; done) | skip
  all_goals (simp only [Option.some.injEq] at h; subst h; decide)
theorem known_in {n : String} (h : knownTy n = true) : n ∈ ["bool", "int", "str", "list", "tuple", "dict"] := by
  unfold knownTy at h
  simp only [Bool.or_eq_true, beq_iff_eq] at h
  rcases h with ((((h | h) | h) | h) | h) | h <;> simp [h]
theorem ty_x {I F H : Hp} {S : Store} (ok : Ok K I S F H) {x : D} {v : V} {m : String} (r : Rep K I x v) (h : tyName S x = some m) : TyX K H v (.type m) := by
  cases x with
  | non => cases r.non_of; simp only [tyName, Option.some.injEq] at h; subst h; exact .base .non
  | bl b => cases r.bl_of; simp only [tyName, Option.some.injEq] at h; subst h; exact .base (.bl b)
  | int b => cases r.int_of; simp only [tyName, Option.some.injEq] at h; subst h; exact .base (.int b)
  | str b => cases r.str_of; simp only [tyName, Option.some.injEq] at h; subst h; exact .base (.str b)
  | lst ds =>
    obtain ⟨a, xs, rfl, e, _⟩ := r.lst_of
    simp only [tyName, Option.some.injEq] at h; subst h; exact .base (.lst (ok.i _ _ e))
  | ext ds => simp [tyName] at h
  | ty n => simp [tyName] at h
  | tup ds =>
    obtain ⟨a, xs, rfl, e, _⟩ := tup_sq ok r
    simp only [tyName, Option.some.injEq] at h; subst h
    rcases e with (e | ⟨o, e⟩) | ⟨o, its, n, e, c, _⟩
    · exact .base (.tup e)
    · exact .fTuple e
    · exact .kTuple e c
  | tq ds => simp [tyName] at h
  | obj a =>
    cases r.obj_of
    simp only [tyName] at h
    split at h
    · rename_i ds e
      simp only [Option.some.injEq] at h; subst h
      obtain ⟨_, xs, q, _⟩ := ok.s a _ e
      exact .base (.lst q)
    · rename_i ds e
      simp only [Option.some.injEq] at h; subst h
      obtain ⟨_, xs, q, _⟩ := ok.s a _ e
      exact .base (.dK q)
    · cases h
def tys : List D → Option (List String)
  | [] => some []
  | .ty n :: r => if knownTy n = true then (tys r).map (n :: ·) else none
  | _ => none
def cIsi : DC := fun xs S P => match xs with
  | [x, .ty n] => match tyName S x with
    | some m => knownTy n = true ∧ P (.bl (isTy m n)) S
    | none => False
  | [x, .tup cs] => match tyName S x, tys cs with
    | some m, some ns => P (.bl (ns.any fun n => isTy m n)) S
    | _, _ => False
  | _ => False
theorem tys_rep {I : Hp} {m : String} (hm : m ∈ ["NoneType", "bool", "int", "str", "list", "tuple", "dict"]) : ∀ {cs : List D} {vs : List V} {ns : List String}, RepL K I cs vs → tys cs = some ns →
    ∃ us : List Value, Paired ClsV vs us ∧ PySem.W.kitAny K (.type m) us = some (ns.any fun n => isTy m n)
  | [], vs, ns, r, h => by
    simp only [RepL] at r
    simp only [tys, Option.some.injEq] at h
    subst r h
    exact ⟨[], .nil, kitAny_nil⟩
  | d :: cs, vs, ns, r, h => by
    simp only [RepL] at r
    obtain ⟨v, r', rfl, h1, h2⟩ := r
    cases d with
    | ty n =>
      simp only [tys] at h
      split at h
      · rename_i hk
        cases e : tys cs with
        | none => rw [e] at h; cases h
        | some ms =>
          rw [e] at h
          simp only [Option.map_some, Option.some.injEq] at h
          subst h
          obtain ⟨us, p, q⟩ := tys_rep hm h2 e
          simp only [Rep] at h1
          subst h1
          refine ⟨.type n :: us, .cons (.ty n) p, kitAny_cons (b := isTy m n) (kit_ty (kit_isTy m hm n (known_in hk))) (fun e => ?_) (fun e => ?_)⟩
          · simp [e, q]
          · simp [e]
      · cases h
    | _ => simp [tys] at h
theorem i_isi : ImpC K (fun xs H Q => rIsi K xs H Q ∨ rIsiT K xs H Q ∨ rIsiK K xs H Q) cIsi := by
  intro xs vs I S F H P Q ok r h q
  unfold cIsi at h
  split at h
  · rename_i x n
    split at h
    · rename_i m e
      obtain ⟨v, w, rfl, rv, rw⟩ := r.inv2
      simp only [Rep] at rw
      subst rw
      exact .inl ⟨v, .ty n, .type m, .type n, isTy m n, rfl, .ty n, ty_x ok rv e, kit_ty (kit_isTy m (tyName_in e) n (known_in h.1)), q _ _ _ _ _ h.2 (Same.refl I) ok rep_bl⟩
    · exact h.elim
  · rename_i x cs
    split at h
    · rename_i m ns e1 e2
      obtain ⟨v, w, rfl, rv, rw⟩ := r.inv2
      obtain ⟨a, ys, rfl, hs, rl⟩ := rw.tup_of
      obtain ⟨us, p, hk⟩ := tys_rep (tyName_in e1) rl e2
      rcases hs with hs | ⟨o, its, n, lk, oc, od, _, vl⟩
      · exact .inr (.inl ⟨v, a, ys, .type m, us, _, rfl, ok.i _ _ hs, p, ty_x ok rv e1, hk, q _ _ _ _ _ h (Same.refl I) ok rep_bl⟩)
      · have eu := ClsV.all p vl
        obtain ⟨c1, d1, t1, sl1⟩ := o
        simp only at oc od
        subst oc od
        refine .inr (.inr ⟨v, a, d1, us, n, sl1, .type m, _, rfl, ?_, ty_x ok rv e1, hk, q _ _ _ _ _ h (Same.refl I) ok rep_bl⟩)
        rw [lk, ← eu]
    · exact h.elim
  · exact h.elim
end
end DL

namespace DL
open PySem PySem.Spec PyProof.Rows L2

/-! ### built-ins by name -/
theorem b_abs : bootBuiltins "abs" = some (.builtin "abs") := by decide +kernel
theorem b_max : bootBuiltins "max" = some (.builtin "max") := by decide +kernel
theorem b_min : bootBuiltins "min" = some (.builtin "min") := by decide +kernel
theorem b_len : bootBuiltins "len" = some (.builtin "len") := by decide +kernel
theorem b_sum : bootBuiltins "sum" = some (.builtin "sum") := by decide +kernel
theorem b_all : bootBuiltins "all" = some (.builtin "all") := by decide +kernel
theorem b_isi : bootBuiltins "isinstance" = some (.builtin "isinstance") := by decide +kernel
theorem b_int : bootBuiltins "int" = some (.type "int") := by decide +kernel
theorem b_bool : bootBuiltins "bool" = some (.type "bool") := by decide +kernel
theorem b_list : bootBuiltins "list" = some (.type "list") := by decide +kernel
theorem b_tuple : bootBuiltins "tuple" = some (.type "tuple") := by decide +kernel
section
variable {X : Cx} {pos p : Pos} {a b : Expr} {da db : DE} {es : List Expr} {ds : DA}
theorem je_abs (hm : X.mg "abs" = none) (ha : JA X [a] ds) (hg : Gl X "abs" := by rfl) (hs : starEach [a] X.env = [(false, eval a X.env)] := by rfl) : JE X (.Call (.Name "abs" p) [a] [] pos) (dCB cAbs ds) := je_callB call_abs i_abs hg hm b_abs ha (hs := hs) (hpl := by rfl)
theorem je_max2 (hm : X.mg "max" = none) (ha : JA X [a, b] ds) (hc : X.calm = true := by rfl) (hg : Gl X "max" := by rfl) (hs : starEach [a, b] X.env = (false, eval a X.env) :: starEach [b] X.env := by rfl) (hpl : (backTo pos (starEach [b] X.env)).any (·.1) = false := by rfl) : JE X (.Call (.Name "max" p) [a, b] [] pos) (dCB cMax2 ds) := je_callB (call_max2 hc) i_max2 hg hm b_max ha (hs := hs) (hpl := hpl)
theorem je_min2 (hm : X.mg "min" = none) (ha : JA X [a, b] ds) (hc : X.calm = true := by rfl) (hg : Gl X "min" := by rfl) (hs : starEach [a, b] X.env = (false, eval a X.env) :: starEach [b] X.env := by rfl) (hpl : (backTo pos (starEach [b] X.env)).any (·.1) = false := by rfl) : JE X (.Call (.Name "min" p) [a, b] [] pos) (dCB cMin2 ds) := je_callB (call_min2 hc) i_min2 hg hm b_min ha (hs := hs) (hpl := hpl)
theorem je_maxL (hm : X.mg "max" = none) (ha : JA X [a] ds) (hc : X.calm = true := by rfl) (hg : Gl X "max" := by rfl) (hs : starEach [a] X.env = [(false, eval a X.env)] := by rfl) : JE X (.Call (.Name "max" p) [a] [] pos) (dCB cMaxL ds) := je_callB (cr_max hc) i_maxL hg hm b_max ha (hs := hs) (hpl := by rfl)
theorem je_sum (hm : X.mg "sum" = none) (ha : JA X [a] ds) (hc : X.calm = true := by rfl) (hg : Gl X "sum" := by rfl) (hs : starEach [a] X.env = [(false, eval a X.env)] := by rfl) : JE X (.Call (.Name "sum" p) [a] [] pos) (dCB cSum ds) := je_callB (cr_sum hc) i_sum hg hm b_sum ha (hs := hs) (hpl := by rfl)
theorem je_all (hm : X.mg "all" = none) (ha : JA X [a] ds) (hc : X.calm = true := by rfl) (hg : Gl X "all" := by rfl) (hs : starEach [a] X.env = [(false, eval a X.env)] := by rfl) : JE X (.Call (.Name "all" p) [a] [] pos) (dCB cAll ds) := je_callB (cr_all hc) i_all hg hm b_all ha (hs := hs) (hpl := by rfl)
theorem je_len (hm : X.mg "len" = none) (ha : JA X [a] ds) (hg : Gl X "len" := by rfl) (hs : starEach [a] X.env = [(false, eval a X.env)] := by rfl) : JE X (.Call (.Name "len" p) [a] [] pos) (dCB cLen ds) := je_callB (call_len_seq.or call_len_str) i_len hg hm b_len ha (hs := hs) (hpl := by rfl)
theorem je_isi (hm : X.mg "isinstance" = none) (ha : JA X [a, b] ds) (hg : Gl X "isinstance" := by rfl) (hs : starEach [a, b] X.env = (false, eval a X.env) :: starEach [b] X.env := by rfl) (hpl : (backTo pos (starEach [b] X.env)).any (·.1) = false := by rfl) : JE X (.Call (.Name "isinstance" p) [a, b] [] pos) (dCB cIsi ds) := je_callB (call_isi.or (call_isiT.or call_isiK)) i_isi hg hm b_isi ha (hs := hs) (hpl := hpl)
theorem je_intC (hm : X.mg "int" = none) (ha : JA X [a] ds) (hg : Gl X "int" := by rfl) (hs : starEach [a] X.env = [(false, eval a X.env)] := by rfl) : JE X (.Call (.Name "int" p) [a] [] pos) (dCB cInt ds) := je_callTy call_int1 i_int hg hm b_int ha (hs := hs) (hpl := by rfl)
theorem je_tupC (hm : X.mg "tuple" = none) (ha : JA X [a] ds) (hg : Gl X "tuple" := by rfl) (hs : starEach [a] X.env = [(false, eval a X.env)] := by rfl) : JE X (.Call (.Name "tuple" p) [a] [] pos) (dCB cTuple ds) := je_callTy call_tuple_of i_tuple hg hm b_tuple ha (hs := hs) (hpl := by rfl)
theorem je_tyInt (hm : X.mg "int" = none) (hg : Gl X "int" := by rfl) : JE X (.Name "int" p) (dC (.ty "int")) := je_ty hg hm b_int
theorem je_tyBool (hm : X.mg "bool" = none) (hg : Gl X "bool" := by rfl) : JE X (.Name "bool" p) (dC (.ty "bool")) := je_ty hg hm b_bool
theorem je_tyList (hm : X.mg "list" = none) (hg : Gl X "list" := by rfl) : JE X (.Name "list" p) (dC (.ty "list")) := je_ty hg hm b_list
theorem je_tyTuple (hm : X.mg "tuple" = none) (hg : Gl X "tuple" := by rfl) : JE X (.Name "tuple" p) (dC (.ty "tuple")) := je_ty hg hm b_tuple
end

/-! ### what is walked -/
/-- a list that may change, walked, is to stay -/
def pinOf (S : Store) : D → Option (Store → Prop)
  | .obj l => some fun S' => S' l = S l
  | _ => none
def dItSeq (d : DE) : DI := fun ρ S P => d ρ S fun x S1 => match seqOf S1 x with
  | some ds => P ds (pinOf S1 x) S1
  | none => False
def rng (lo : Int) (n : Nat) : List D := (List.range n).map fun (i : Nat) => .int (lo + (i : Int))
theorem rng_len (lo : Int) (n : Nat) : (rng lo n).length = n := by simp [rng]
theorem rng_get {lo : Int} {n i : Nat} {d : D} (h : (rng lo n)[i]? = some d) : i < n ∧ d = .int (lo + (i : Int)) := by
  unfold rng at h
  rw [List.getElem?_map] at h
  by_cases hi : i < n
  · rw [List.getElem?_range hi] at h
    cases h
    exact ⟨hi, rfl⟩
  · rw [List.getElem?_eq_none (by simpa using hi)] at h; cases h
def dRng1 (a : DA) : DI := fun ρ S P => a ρ S fun xs S1 => match xs with
  | [.int j] => -(2 ^ 62) ≤ j ∧ j < 2 ^ 62 ∧ P (rng 0 j.toNat) none S1
  | _ => False
def dRng2 (a : DA) : DI := fun ρ S P => a ρ S fun xs S1 => match xs with
  | [.int i, .int j] => (-(2 ^ 62) ≤ i ∧ i < 2 ^ 62 ∧ -(2 ^ 62) ≤ j ∧ j < 2 ^ 62) ∧ P (rng i (j - i).toNat) none S1
  | _ => False
def zipD (as bs : List D) : List D := List.zipWith (fun a b => .tup [a, b]) as bs
section
variable {X : Cx} {pos p : Pos} {tg a b c : Expr} {da db : DE} {es : List Expr} {ds : DA}
/-- a list or a tuple -/
theorem pi_seq {l : Expr} {tl : TE} (hl : PE X l tl) : PI X tg l (fun σ H R => tl σ H fun x H1 => ∃ a, x = .ref a ∧ (((∃ xs, SqL X.K H1 a xs) ∧ R (Itl X.K a) H1) ∨ ((∃ xs, SqT X.K H1 a xs) ∧ R (Itt X.K a) H1))) := by
  refine ⟨fun pins s σ H R I h => ?_⟩
  refine thn (hl.run pins s σ H _ I h) fun v s1 ⟨x, H1, I1, r1, q1⟩ => ?_
  obtain ⟨a, e, q1⟩ := q1
  subst e
  cases r1
  rcases q1 with ⟨⟨xs, hq⟩, q⟩ | ⟨⟨xs, hq⟩, q⟩
  · obtain ⟨its, rv, p, hz⟩ := I1.list hq
    refine wpAny_pyIter_list p.isList ?_
    refine ⟨s1.heap.objs.size, [s1.heap.objs.size], _, _, H1, rfl, I1.kept (t' := s1.toks) fun b o e => Heap.get?_push_of_some _ e, turn_list a _, ⟨_, Heap.get?_push_size _ rfl, rfl, rfl⟩, fun b hb => ?_, q⟩
    have e : b = s1.heap.objs.size := by simpa using hb
    subst e
    exact I1.fpOk (Nat.le_refl _) (I1.hok.fresh (Nat.le_refl _))
  · obtain ⟨its, rv, p, hz⟩ := I1.tuple hq
    refine wpAny_pyIter_tuple (show s1.heap.IsTuple a its.toArray from p) ?_
    refine ⟨s1.heap.objs.size, [s1.heap.objs.size], _, _, H1, rfl, I1.kept (t' := s1.toks) fun b o e => Heap.get?_push_of_some _ e, turn_tuple a _, ⟨_, Heap.get?_push_size _ rfl, rfl, rfl⟩, fun b hb => ?_, q⟩
    have e : b = s1.heap.objs.size := by simpa using hb
    subst e
    exact I1.fpOk (Nat.le_refl _) (I1.hok.fresh (Nat.le_refl _))
theorem itl_ok {K : PySem.W.Frag} {I : Hp} {a : Addr} {ds : List D} {pin : Option (Store → Prop)} (hs : ∀ I2 S F H, Same I I2 → Ok K I2 S F H → PinOk pin S → ∃ xs, SqL K H a xs ∧ RepL K I2 ds xs) : ItOk K I (Itl K a) ds pin where
  go I2 S F H e ok pk i d hd := by
    obtain ⟨xs, h2, rl⟩ := hs I2 S F H e ok pk
    obtain ⟨v, e1, r1⟩ := rl.get hd
    refine ⟨⟨xs, v, h2, e1⟩, fun x H' hy => ?_⟩
    obtain ⟨rfl, hy⟩ := hy
    have := hy xs h2
    rw [e1] at this
    cases this
    exact ⟨I2, Same.refl _, ok, r1⟩
  stop I2 S F H e ok pk i hi := by
    obtain ⟨xs, h2, rl⟩ := hs I2 S F H e ok pk
    exact ⟨xs, h2, by rw [rl.len]; exact Nat.le_of_eq hi.symm⟩
theorem itt_ok {K : PySem.W.Frag} {I : Hp} {a : Addr} {ds : List D} {pin : Option (Store → Prop)} (hs : ∀ I2 S F H, Same I I2 → Ok K I2 S F H → PinOk pin S → ∃ xs, SqT K H a xs ∧ RepL K I2 ds xs) : ItOk K I (Itt K a) ds pin where
  go I2 S F H e ok pk i d hd := by
    obtain ⟨xs, h2, rl⟩ := hs I2 S F H e ok pk
    obtain ⟨v, e1, r1⟩ := rl.get hd
    refine ⟨⟨xs, v, h2, e1⟩, fun x H' hy => ?_⟩
    obtain ⟨rfl, hy⟩ := hy
    have := hy xs h2
    rw [e1] at this
    cases this
    exact ⟨I2, Same.refl _, ok, r1⟩
  stop I2 S F H e ok pk i hi := by
    obtain ⟨xs, h2, rl⟩ := hs I2 S F H e ok pk
    exact ⟨xs, h2, by rw [rl.len]; exact Nat.le_of_eq hi.symm⟩
/-- a list (b false) or a tuple (b true) -/
def Sq (b : Bool) (K : PySem.W.Frag) (H : Hp) (a : Addr) (xs : List V) : Prop := match b with | true => SqT K H a xs | false => SqL K H a xs
theorem src_sq {K : PySem.W.Frag} {I F H : Hp} {S : Store} {x : D} {v : V} {ds : List D} (ok : Ok K I S F H) (r : Rep K I x v) (h : seqOf S x = some ds) :
    ∃ b a, v = .ref a ∧ ∀ I2 S2 F2 H2, Same I I2 → Ok K I2 S2 F2 H2 → PinOk (pinOf S x) S2 → ∃ xs, Sq b K H2 a xs ∧ RepL K I2 ds xs := by
  cases x with
  | tup es =>
    simp only [seqOf, Option.some.injEq] at h; subst h
    obtain ⟨a, xs, rfl, hs, rl⟩ := r.tup_of
    exact ⟨true, a, rfl, fun I2 S2 F2 H2 e ok2 _ => ⟨xs, sqT_same ok2.same (tupAt_same e hs), rl.mono e⟩⟩
  | lst es =>
    simp only [seqOf, lstOf, Option.some.injEq] at h; subst h
    obtain ⟨a, xs, rfl, hs, rl⟩ := r.lst_of
    exact ⟨false, a, rfl, fun I2 S2 F2 H2 e ok2 _ => ⟨xs, ok2.same.seq (e.seq (.of hs)), rl.mono e⟩⟩
  | ext es =>
    simp only [seqOf, lstOf, Option.some.injEq] at h; subst h
    obtain ⟨a, xs, rfl, hs, rl⟩ := r.ext_of
    exact ⟨false, a, rfl, fun I2 S2 F2 H2 e ok2 _ => ⟨xs, ok2.same.seq (e.seq hs), rl.mono e⟩⟩
  | obj l =>
    simp only [seqOf, lstOf] at h
    cases e : S l with
    | none => simp [e] at h
    | some m =>
      cases m with
      | lst es =>
        simp [e] at h; subst h
        refine ⟨false, l, r.obj_of, fun I2 S2 F2 H2 e2 ok2 pk => ?_⟩
        have pk' : S2 l = S l := pk
        rw [e] at pk'
        obtain ⟨_, ys, q2, rl⟩ := ok2.s l _ pk'
        exact ⟨ys, .of q2, rl⟩
      | _ => simp [e] at h
  | _ => simp [seqOf, lstOf] at h
theorem pin_self (S : Store) (x : D) : PinOk (pinOf S x) S := by
  cases x <;> first | trivial | rfl
theorem ji_seq (h : JE X a da) : JI X tg a (dItSeq da) :=
  ji_of (pi_seq h) fun σ H R h0_ => El54 h0_ fun ρ I S F P rs ok hh q => ⟨ρ, I, S, F, _, rs, ok, hh, fun x S1 v I1 H1 h1 e1 ok1 r1 => by
    split at h1
    · rename_i ds hds
      obtain ⟨b, a, rfl, hs⟩ := src_sq ok1 r1 hds
      obtain ⟨xs, q1, _⟩ := hs _ _ _ _ (Same.refl _) ok1 (pin_self _ _)
      cases b
      · exact ⟨a, rfl, .inl ⟨⟨xs, q1⟩, q _ _ _ _ _ _ h1 e1 ok1 (itl_ok hs)⟩⟩
      · exact ⟨a, rfl, .inr ⟨⟨xs, q1⟩, q _ _ _ _ _ _ h1 e1 ok1 (itt_ok hs)⟩⟩
    · exact h1.elim⟩
theorem itr_ok {K : PySem.W.Frag} {I : Hp} (lo : Int) (n : Nat) : ItOk K I (Itr lo n) (rng lo n) none where
  go I2 S F H e ok _ i d hd := by
    obtain ⟨hi, rfl⟩ := rng_get hd
    exact ⟨hi, fun x H' ⟨e1, e2⟩ => ⟨I2, Same.refl _, by rw [e1]; exact ok, by rw [e2]; exact rep_int⟩⟩
  stop I2 S F H e ok _ i hi := by rw [rng_len] at hi; exact Nat.le_of_eq hi.symm
theorem ji_range1 (hm : X.mg "range" = none) (ha : JA X [a] ds) (hg : Gl X "range" := by rfl) (hs : starEach [a] X.env = [(false, eval a X.env)] := by rfl) : JI X tg (.Call (.Name "range" p) [a] [] pos) (dRng1 ds) :=
  ji_of (pi_range1 hg hm ha hs) fun σ H R h0_ => El54 h0_ fun ρ I S F P rs ok hh q => ⟨ρ, I, S, F, _, rs, ok, hh, fun xs S1 v I1 H1 h1 e1 ok1 r1 => by
    split at h1
    · obtain ⟨v, rfl, rv⟩ := r1.inv1
      cases rv.int_of
      exact ⟨_, rfl, h1.1, h1.2.1, q _ _ _ _ _ _ h1.2.2 e1 ok1 (itr_ok _ _)⟩
    · exact h1.elim⟩
theorem ji_range2 (hm : X.mg "range" = none) (ha : JA X [a, b] ds) (hg : Gl X "range" := by rfl) (hs : starEach [a, b] X.env = [(false, eval a X.env), (false, eval b X.env)] := by rfl) (hs2 : starEach [b] X.env = [(false, eval b X.env)] := by rfl) : JI X tg (.Call (.Name "range" p) [a, b] [] pos) (dRng2 ds) :=
  ji_of (pi_range2 hg hm ha hs hs2) fun σ H R h0_ => El54 h0_ fun ρ I S F P rs ok hh q => ⟨ρ, I, S, F, _, rs, ok, hh, fun xs S1 v I1 H1 h1 e1 ok1 r1 => by
    split at h1
    · obtain ⟨v, w, rfl, rv, rw⟩ := r1.inv2
      cases rv.int_of; cases rw.int_of
      exact ⟨_, _, rfl, h1.1, q _ _ _ _ _ _ h1.2 e1 ok1 (itr_ok _ _)⟩
    · exact h1.elim⟩
theorem rep_tup2 {K : PySem.W.Frag} {I : Hp} {T : Addr} {x y : V} {d e : D} (n : I T = none) (h1 : Rep K I d x) (h2 : Rep K I e y) : Rep K (upd I T (.tup [x, y])) (.tup [d, e]) (.ref T) := rep_new_tup n (RepL.cons h1 (RepL.one h2))
end

/-! ### changes -/
section
variable {X : Cx} {pos p apos : Pos} {tg a b c o i : Expr} {da db d1 d2 : DE} {es : List Expr} {ds : DA}
def dAppend (a b : DE) : DE := fun ρ S P => a ρ S fun x S1 => match x with
  | .obj l => ∃ es, S1 l = some (.lst es) ∧ b ρ S1 fun y S2 => ∃ ds, S2 l = some (.lst ds) ∧ ds.length < 100000 ∧ P .non (supd S2 l (.lst (ds ++ [y])))
  | _ => False
theorem je_append (ha : JE X o da) (hb : JE X a db) (hbase : attributeBase o "append" X.env (eval o X.env) = eval o X.env := by rfl) (hs0 : starEach [a] X.env = [(false, eval a X.env)] := by rfl)
    (hfew : ((backTo pos (starEach [a] X.env)).all (fun x => !x.1) && (backToKw pos (keywordEach [] X.env)).all (fun x => x.1.isSome)
      && decide ([a].length + ([] : List Keyword).length + (if ([] : List Keyword).isEmpty then 0 else 1) < 30)) = true := by rfl)
    (hline : (apos.endLine == pos.line) = true := by rfl) : JE X (.Call (.Attribute o "append" apos) [a] [] pos) (dAppend da db) :=
  je_of (pe_bm PySem.F.plainAttrs_list PySem.F.slot_list_append PySem.F.type_list_append mt_append ha (pa_cons hb pa_nil hs0) hbase hfew hline (hs := hs0) (hplain := by rfl)) fun σ H Q h0_ => El54 h0_ fun ρ I S F P rs ok hh q =>
    ⟨ρ, I, S, F, _, rs, ok, hh, fun x S1 v I1 H1 h1 e1 ok1 r1 => by
      cases x with
      | obj l =>
        obtain ⟨es, e2, h2⟩ := h1
        obtain ⟨_, ys, q2, _⟩ := ok1.s l _ e2
        cases r1.obj_of
        refine ⟨.inl ⟨rfl, ys, .of q2⟩, ρ, I1, S1, F, _, rs.mono e1, ok1, h2, fun y S2 w I2 H2 h3 e3 ok2 r2 => ?_⟩
        obtain ⟨ds, e4, hl, h4⟩ := h3
        obtain ⟨_, zs, q4, rl⟩ := ok2.s l _ e4
        refine ⟨l, zs, w, rfl, rfl, q4, ?_, q _ _ _ _ _ h4 (e1.trans e3) (ok2.writeL e4 (rl.app (RepL.one r2))) rep_non⟩
        rw [rl.len]
        exact Nat.lt_of_lt_of_le hl (by decide)
      | _ => exact h1.elim⟩
/-- o[i] = e -/
def dSetIx (de d1 d2 : DE) : DS := fun DD ρ S => de ρ S fun x S1 => d1 ρ S1 fun o S2 => d2 ρ S2 fun i S3 => match o, i with
  | .obj l, .int k => match S3 l with
    | some (.lst ds) => match ixN ds.length k with
      | some j => DD.nx ρ (supd S3 l (.lst (ds.set j x)))
      | none => False
    | _ => False
  | _, _ => False
theorem js_setIx {e : Expr} {de : DE} (he : JE X e de) (ho : JE X o d1) (hi : JE X i d2)
    (ha : ∀ v, assign (.Subscript o i p) X.env v = (do
      let ov ← holding [v] (eval o X.env)
      let iv ← holding [v, ov] (eval i X.env)
      standAt p
      holding [v, ov, iv] (setItem ov iv v)
      release [v, ov, iv] []) := by intro _; rfl)
    (hs : swapsWithSole [.Subscript o i p] e pos.line X.env = pure false := by rfl) (hw : swappedStores [.Subscript o i p] e X.env = pure none := by rfl)
    (h1 : (assignEach [.Subscript o i p] X.env).map (·.2) = [assign (.Subscript o i p) X.env] := by rfl) : JS X (.Assign [.Subscript o i p] e pos) (dSetIx de d1 d2) :=
  js_of (ps_asg he (pg_sub ho hi set_list ha) hs hw h1) fun D σ H h0_ => El54 h0_ fun ρ I S F DD rs ok h q => ⟨ρ, I, S, F, _, rs, ok, h, fun x S1 v I1 H1 h1 e1 ok1 r1 =>
    ⟨ρ, I1, S1, F, _, rs.mono e1, ok1, h1, fun o S2 w I2 H2 h2 e2 ok2 r2 => ⟨ρ, I2, S2, F, _, rs.mono (e1.trans e2), ok2, h2, fun i S3 u I3 H3 h3 e3 ok3 r3 => by
      have rx := r1.mono (e2.trans e3)
      have ro := r2.mono e3
      split at h3
      · rename_i l k
        split at h3
        · rename_i ds eS
          split at h3
          · rename_i j ej
            obtain ⟨_, zs, q4, rl⟩ := ok3.s l _ eS
            cases ro.obj_of
            cases r3.int_of
            refine ⟨l, zs, k, j, rfl, rfl, q4, by rw [rl.len]; exact ej, q.nx _ _ _ _ _ h3 ((e1.trans e2).trans e3) (ok3.writeL eS (rl.set j rx)) (rs.mono ((e1.trans e2).trans e3))⟩
          · exact h3.elim
        · exact h3.elim
      · exact h3.elim⟩⟩⟩
/-! in-place operators on a name -/
theorem i_iadd {K : PySem.W.Frag} : ImpIp K (rI0 fun i j => .int (i + j)) (fun x y S P => match x, y with
  | .int i, .int j => P (.int (i + j)) S
  | _, _ => False) := by
  intro x y v w I S F H P Q ok rx ry h q
  split at h
  · cases rx.int_of; cases ry.int_of
    exact ⟨_, _, rfl, rfl, q _ _ _ _ _ h (Same.refl I) ok rep_int⟩
  · exact h.elim
theorem iop_mulA : OpR X (inplaceOp .Mult) (rI MulB fun i j => .int (i * j)) := opI fun i j _ _ _ _ _ hc q => by
  rcases hc with h | h
  · exact imul_int q h.ok
  · exact imul_int q h.ok
def dIAdd : D2 := fun x y S P => match x, y with
  | .int i, .int j => P (.int (i + j)) S
  | _, _ => False
def dIMul : D2 := fun x y S P => match x, y with
  | .int i, .int j => MulB i j ∧ P (.int (i * j)) S
  | _, _ => False
theorem i_imul {K : PySem.W.Frag} : ImpIp K (rI MulB fun i j => .int (i * j)) dIMul := by
  intro x y v w I S F H P Q ok rx ry h q
  unfold dIMul at h
  split at h
  · cases rx.int_of; cases ry.int_of
    exact ⟨_, _, rfl, rfl, h.1, q _ _ _ _ _ h.2 (Same.refl I) ok rep_int⟩
  · exact h.elim
variable {e : Expr} {de : DE} {x : Str} {pos' : Pos}
theorem js_iadd (i : Nat) (hN : X.N.Nodup) (hi : X.N[i]? = some x) (hx : Loc X.env.scope x) (he : JE X e de) (hf : X.fn x = true ∨ X.env.scope.names.lookup x = some .local := by first | exact .inl rfl | exact .inr rfl | assumption) : JS X (.AugAssign (.Name x pos') .Add e pos) (dAug i dIAdd de) := js_aug i hN hi hx he (ti := rI0 fun i j => .int (i + j)) iop_add i_iadd hf
theorem js_isub (i : Nat) (hN : X.N.Nodup) (hi : X.N[i]? = some x) (hx : Loc X.env.scope x) (he : JE X e de) (hf : X.fn x = true ∨ X.env.scope.names.lookup x = some .local := by first | exact .inl rfl | exact .inr rfl | assumption) : JS X (.AugAssign (.Name x pos') .Sub e pos) (dAug i dSub de) := js_aug i hN hi hx he (ti := rI0 fun i j => .int (i - j)) iop_sub i_sub hf
theorem js_imul (i : Nat) (hN : X.N.Nodup) (hi : X.N[i]? = some x) (hx : Loc X.env.scope x) (he : JE X e de) (hf : X.fn x = true ∨ X.env.scope.names.lookup x = some .local := by first | exact .inl rfl | exact .inr rfl | assumption) : JS X (.AugAssign (.Name x pos') .Mult e pos) (dAug i dIMul de) := js_aug i hN hi hx he (ti := rI MulB fun i j => .int (i * j)) iop_mulA i_imul hf
end
end DL

namespace DL
open PySem PySem.Spec PyProof.Rows L2

/-- the def called x keeps its promise sp, called with every argument by its place -/
structure Does (P : Program) (w : World) (K : PySem.W.Frag) (mg : Str → Option Value) (base : Heap) (k : Nat) (x : Str) (ps : List Str) (f : Addr) (fd : FuncData) (sp : DSp) : Prop where
  g : mg x = some (.ref f)
  kp : PySem.W.keepIn K (.ref f) = true
  b : Binds K fd ps []
  ok : FnD P w K mg base k f fd ps sp
section
variable {X : Cx} {pos p : Pos} {a : Expr} {es : List Expr} {ds : DA} {k j : Nat} {x : Str} {ps : List Str} {f : Addr} {fd : FuncData} {sp : DSp}
theorem je_f (G : Does X.prog X.w X.K X.mg X.base k x ps f fd sp) (hr : DG.RoomG j X.A) (ha : JA X (a :: es) ds) (hk : k ≤ j := by decide) (hg : Gl X x := by rfl) (hdb : (x == ("__debug__" : Str)) = false := by decide) (he : starEach (a :: es) X.env = (false, eval a X.env) :: starEach es X.env := by rfl)
    (hpl : (backTo pos (starEach es X.env)).any (·.1) = false := by rfl) : JE X (.Call (.Name x p) (a :: es) [] pos) (dCB sp ds) :=
  je_of (je_call G.ok (hr.mono hk) hg G.g G.kp G.b .nil (fun _ => RepL.nil) ha hdb he hpl) fun σ H Q h0_ => El54 h0_ fun ρ I S F P rs ok h q => ⟨ρ, I, S, F, P, rs, ok, by simpa only [dCall, dCB, List.append_nil] using h, q⟩
variable {ks : List Str} {n m : Nat} {perm : List Nat} {kws : List Keyword} {dk : DA}
end
/-- a def with positional defaults: its body's promise -/
theorem fn_dD {P : Program} {w : World} {K : PySem.W.Frag} {mg : Str → Option Value} {base : Heap} {x qual : Str} {st : Stmt} {f : Addr} {fd : FuncData} {N ps : List Str} {k : Nat} {sp : DSp} {dvs : List V} {kws : List (Str × V)}
    (F : FunD K x qual (defArgs st) (defBody st) (defScope st) dvs kws f fd) (S : FnScope N ps (defScope st)) (len : ∀ ds S P, sp ds S P → ds.length = ps.length)
    (hbody : ∀ (cdv : Value) (A : Around) (outer : List Env) (s : Shared) (H : Hp) (E : XK), DG.RoomG k (A.deeper (envOfC qual (defScope st) s.heap.objs.size f cdv)) →
      ∃ d : DS, JSs (cxOf CX0 P w K mg base N qual (defScope st) f cdv A outer s H E).nox (defBody st) d ∧ ∀ ds S P, sp ds S P → d (dEnd P) (ds.map some ++ List.replicate (N.length - ds.length) none) S) : FnD P w K mg base (k + 1) f fd ps sp := by
  refine DG.funD_ok F S (fun vs H Q E h => ?_) (fun cdv A outer s H vs Q E hr h => ?_)
  · obtain ⟨ds, I, S, F, P, r, ok, h, q⟩ := h
    rw [r.len]
    exact len _ _ _ h
  · obtain ⟨ds, I, S', F', P', r, ok, h, q⟩ := h
    obtain ⟨d, h1, h2⟩ := hbody cdv A outer s H E hr
    refine ⟨_, h1.nox, _, I, S', F', _, repS_start r, ok, h2 ds S' P' h, ⟨?_, q, ?_, ?_⟩⟩
    · intro ρ S2 σ I2 H2 p e2 ok2 _
      exact q _ _ _ _ _ p e2 ok2 rep_non
    · intro ρ S2 σ I2 H2 p e2 ok2 _
      exact p.elim
    · intro ρ S2 σ I2 H2 p e2 ok2 _
      exact p.elim

/-! ### chains -/
section
variable {X : Cx} {pos : Pos} {a b c : Expr} {da db dc : DE} {op op' : CmpOp} {r r' : R2} {o o' : D2}
def dChainR (o o' : D2) (da db dc : DE) : DE := fun ρ S P => da ρ S fun x S1 => db ρ S1 fun y S2 => o x y S2 fun z S3 => match z with
  | .bl k => if k = true then dc ρ S3 fun u S4 => o' y u S4 P else P (.bl false) S3
  | _ => False
theorem up_chain {K : PySem.W.Frag} (i : Imp2 K r o) (i' : Imp2 K r' o') : ∀ σ H Q, upE K (dChainR o o' da db dc) σ H Q → tChain r r' (upE K da) (upE K db) (upE K dc) σ H Q := fun σ H Q h0_ => El54 h0_ fun ρ I S F P rs ok h q =>
  ⟨ρ, I, S, F, _, rs, ok, h, fun x S1 v I1 H1 h1 e1 ok1 r1 => ⟨ρ, I1, S1, F, _, rs.mono e1, ok1, h1, fun y S2 w I2 H2 h2 e2 ok2 r2 =>
    i x y v w I2 S2 F H2 _ _ ok2 (r1.mono e2) r2 h2 fun z S3 u I3 H3 h3 e3 ok3 r3 => by
      cases z with
      | bl k =>
        refine ⟨k, r3.bl_of, ?_⟩
        cases k with
        | true =>
          simp only [reduceIte] at h3 ⊢
          exact ⟨ρ, I3, S3, F, _, rs.mono ((e1.trans e2).trans e3), ok3, h3, fun u S4 t I4 H4 h4 e4 ok4 r4 => i' y u w t I4 S4 F H4 P Q ok4 (r2.mono (e3.trans e4)) r4 h4 (q.mono (((e1.trans e2).trans e3).trans e4))⟩
        | false =>
          simp only [Bool.false_eq_true, reduceIte] at h3 ⊢
          exact q _ _ _ _ _ h3 ((e1.trans e2).trans e3) ok3 rep_bl
      | _ => exact h3.elim⟩⟩
end
end DL

namespace DL
open PySem PySem.Spec PyProof.Rows L2

/-! ### the law's own promise -/
def sp_law : DSp := fun ds S P => ∃ ns : List Int, ds = [.ext (ns.map .int)] ∧ ns.length ≤ 63 ∧ ∀ S', P (.bl true) S'
def spLaw (K : PySem.W.Frag) : Sp := fun vs H Q _ => ∃ (a : Addr) (ns : List Int), vs = [.ref a] ∧ SqL K H a (ns.map V.int) ∧ ns.length ≤ 63 ∧ ∀ H', Q (.bl true) H'
theorem repL_ints {K : PySem.W.Frag} {I : Hp} : ∀ ns : List Int, RepL K I (ns.map .int) (ns.map V.int)
  | [] => RepL.nil
  | n :: ns => RepL.cons rep_int (repL_ints ns)
theorem law_up {K : PySem.W.Frag} : ∀ vs H Q E, spLaw K vs H Q E → upSp K sp_law vs H Q E := fun vs H Q E ⟨a, ns, e, hs, hl, q⟩ => by
  subst e
  refine ⟨[.ext (ns.map .int)], fun b => if b = a then H b else none, fun _ => none, fun _ => none, fun x _ => x = .bl true, RepL.one ?_, ⟨fun b o e => ?_, fun b m e => (nomatch e), fun b o e => (nomatch e)⟩, ⟨ns, rfl, hl, fun _ => rfl⟩, fun x S' v I' H' p _ _ r => ?_⟩
  · simp only [Rep]
    refine ⟨a, _, rfl, ?_, repL_ints ns⟩
    rcases hs with (h | ⟨o, h⟩) | h
    · exact .inl (.inl (by simpa using h))
    · exact .inl (.inr ⟨o, by simpa using h⟩)
    · exact .inr h
  · by_cases z : b = a
    · rw [if_pos z] at e; exact e
    · rw [if_neg z] at e; cases e
  · subst p
    rw [r.bl_of]
    exact q H'
theorem law_len : ∀ ds S P, sp_law ds S P → ds.length = 1 := fun ds S P ⟨ns, e, _⟩ => by rw [e]; rfl
theorem bindsAll {K : PySem.W.Frag} {x qual : Str} {st : Stmt} {f : Addr} {fd : FuncData} {dvs : List V} {ps : List Str} (F : FunD K x qual (defArgs st) (defBody st) (defScope st) dvs [] f fd) (n : Nat) (hd : dvs ≠ []) (hn : n = ps.length)
    (h : ∀ (T : Addr) (kV doc pm : Value) (an : Option Addr) (cdv ct : Value) (us its : List Value), us.length = n → its.length = dvs.length →
      ∃ k, bindArgs (PySem.W.fnOf x qual (defArgs st) (defBody st) (defScope st) (.ref T) kV doc pm an cdv ct) ⟨us, []⟩ = seqItems? (.ref T) >>= k ∧ k (some its.toArray) = pure (ps.zip us)) : Binds K fd ps [] := by
  obtain ⟨ds, v, b⟩ := F.binds1 (ps := ps) n dvs.length hd (by omega) fun T kV doc pm an cdv ct us its h1 h2 => by
    obtain ⟨k, e1, e2⟩ := h T kV doc pm an cdv ct us its h1 h2
    refine ⟨k, e1, ?_⟩
    rw [e2, ← h2, List.drop_length, List.append_nil]
  rw [List.drop_length] at v
  cases v
  exact b
end DL

namespace DZ
open PySem PySem.Spec PyProof.Rows L2
open Sem (wp)
/-! zip(a, b, strict=True) -/
abbrev IsZipS (h : Heap) (z TI TO : Addr) (f0 : Value) : Prop :=
  h.get? z = some { cls := .type "zip", dict := none, data := .fields #[f0, .bool false, .bool true, .ref TI, .ref TO], slots := #[] }
section
variable {prog : Program} {w : World} {A : Around} {E : Value → Shared → Prop} {s : Shared}
theorem orEnd_item {it : Addr} {fp : List Addr} {n i : Nat} {P : Nat → Value → Prop} {St : Nat → Heap → Prop} {Q : Option Value → Shared → Prop} (D : Draws prog w A it fp n P St) (hi : i < n) (st : St i s.heap)
    (hQ : ∀ x h' tk, P i x → St (i + 1) h' → Heap.SameBut it s.heap h' → Q (some x) { s with heap := h', toks := tk }) : wpAny (model prog w) A (Builtin.SmallTypes.nextOrEnd (.ref it)) Q E s := by
  unfold Builtin.SmallTypes.nextOrEnd
  exact wpAny_bind (wpAny_attempt (D.item i _ _ _ hi st fun x h' tk a b c => wpAny_pure (hQ x h' tk a b c)))
theorem orEnd_done {it : Addr} {fp : List Addr} {n : Nat} {P : Nat → Value → Prop} {St : Nat → Heap → Prop} {Q : Option Value → Shared → Prop} (D : Draws prog w A it fp n P St) (st : St n s.heap)
    (hQ : ∀ h', Heap.ExtBut it s.heap h' → Q none { s with heap := h' }) : wpAny (model prog w) A (Builtin.SmallTypes.nextOrEnd (.ref it)) Q E s := by
  unfold Builtin.SmallTypes.nextOrEnd
  refine wpAny_bind (wpAny_attempt (D.done s _ _ st fun h' e hk he => ?_))
  obtain ⟨o, ho, hc⟩ := he
  exact wpAny_bind (wpAny_isInstance (T := "StopIteration") (b := true) ⟨o, ho, hc⟩ isSubtype_stop (wpAny_pure (hQ _ hk)))
theorem stop_raises {α : Type} {Q : α → Shared → Prop} (hh : A.handled = none)
    (hE : ∀ h' e, (∀ c o, s.heap.get? c = some o → h'.get? c = some o) → (∃ o, h'.get? e = some o ∧ o.cls = .type "StopIteration") → E (.ref e) { s with heap := h' }) : wpAny (model prog w) A (Builtin.SmallTypes.stopIteration : Sem α) Q E s := by
  unfold Builtin.SmallTypes.stopIteration
  refine wpAny_bind ?_
  simp only [newExc, newTuple]
  refine wpAny_bind (wpAny_newObj_type ?_ (by size_fits))
  refine wpAny_bind (m := firstArgMember _ _) (wpAny_of_eq (a := Value.none) (by first | rfl | (simp only [firstArgMember]; rfl)) ?_)
  refine wpAny_newObj_type ?_ (by size_fits)
  simp only [raiseNew]
  refine wpAny_bind (wpAny_handled ?_)
  rw [hh]
  refine wpAny_bind (wpAny_pure (wpAny_throw ?_))
  exact hE _ _ (fun c o e => Heap.get?_push_of_some _ (Heap.get?_push_of_some _ e)) ⟨_, Heap.get?_push_size _ rfl, rfl⟩
end
section
variable {prog : Program} {w : World} {A : Around} {E : Value → Shared → Prop} {s : Shared} {z TI TO i1 i2 : Addr} {fp1 fp2 : List Addr} {n1 n2 i : Nat} {P1 P2 : Nat → Value → Prop} {St1 St2 : Nat → Heap → Prop} {a1 a2 : Value}
theorem zS_next_item {Q : Value → Shared → Prop} (S : ZipSep2 z TI TO i1 i2 fp1 fp2) (D1 : Draws prog w A i1 fp1 n1 P1 St1) (D2 : Draws prog w A i2 fp2 n2 P2 St2)
    (hz : IsZipS s.heap z TI TO .none) (hTI : IsTupOf2 s.heap TI (.ref i1) (.ref i2)) (hTO : IsTupOf2 s.heap TO a1 a2) (st1 : St1 i s.heap) (st2 : St2 i s.heap) (hlt1 : i < n1) (hlt2 : i < n2)
    (hQ : ∀ x1 x2 h' tk, P1 i x1 → P2 i x2 → IsZipS h' z TI TO (rawInt s.heap.objs.size) → IsTupOf2 h' TO x1 x2 → St1 (i + 1) h' → St2 (i + 1) h' → IsTupOf2 h' s.heap.objs.size x1 x2 → h'.objs.size = s.heap.objs.size + 1 →
      (∀ c o, c ≠ z → c ≠ TO → c ≠ i1 → c ≠ i2 → s.heap.get? c = some o → h'.get? c = some o) → Q (.ref s.heap.objs.size) { s with heap := h', toks := tk }) :
    wpAny (model prog w) A (Builtin.«zip.__next__» ⟨[.ref z], []⟩) (fun fin s' => ∃ v, fin = .done (.ret v) ∧ Q v s') E s := by
  obtain ⟨hp, g, d, tk0, os⟩ := s
  show wpAny _ _ (field (.ref z) 2 >>= _) _ _ _
  refine wpAny_bind (wpAny_field hz rfl (x := .bool true) rfl ?_)
  show wpAny _ _ (field (.ref z) 3 >>= _) _ _ _
  refine wpAny_bind (wpAny_field hz rfl (x := .ref TI) rfl ?_)
  refine wpAny_bind (wpAny_seqItems hTI rfl ?_)
  show wpAny _ _ (Builtin.SmallTypes.ownedTupleIsFree (.ref z) >>= _) _ _ _
  refine wpAny_bind ?_
  unfold Builtin.SmallTypes.ownedTupleIsFree
  refine wpAny_bind (wpAny_field hz rfl (x := .none) rfl (wpAny_pure ?_))
  simp only [if_true]
  refine wpAny_bind (wpAny_rule ?_)
  refine wpAny_bind (wpAny_field hz rfl (x := .ref TO) rfl ?_)
  refine wpAny_bind (wpAny_setField_rec hz (by simp) fun g0 hz0 hs0 => ?_)
  replace hz0 : IsZipS g0 z TI TO .ellipsis := hz0
  replace hs0 : Heap.SameBut z hp g0 := hs0
  refine wpAny_bind ?_
  simp only [List.zipIdx_cons, List.zipIdx_nil, List.forIn_cons, List.forIn_nil]
  refine wpAny_bind (wpAny_bind (wpAny_onRaise ?_))
  show wpAny _ _ (Builtin.SmallTypes.nextOrEnd (.ref i1)) _ _ ⟨g0, g, d, tk0, os⟩
  refine orEnd_item (s := ⟨g0, g, d, tk0, os⟩) D1 hlt1 (D1.over st1 hs0 S.zf1) fun x1 p1 tk1 hx1 sn1 hp1 => ?_
  replace hp1 : Heap.SameBut i1 g0 p1 := hp1
  have hU1 : IsTupOf2 p1 TO a1 a2 := hp1.extBut _ _ S.Ti1 (hs0.extBut _ _ S.TOz hTO)
  refine wpAny_bind (wpAny_seqItems (s := ⟨p1, g, d, tk1, os⟩) hU1 rfl ?_)
  refine wpAny_bind (updateSeq_IsTupOf2 (s := ⟨p1, g, d, tk1, os⟩) hU1 fun g1 hT1 hs1 => ?_)
  replace hT1 : IsTupOf2 g1 TO x1 a2 := hT1
  replace hs1 : Heap.SameBut TO p1 g1 := hs1
  refine wpAny_bind (wpAny_letGo (wpAny_pure ?_))
  refine wpAny_bind (wpAny_bind (wpAny_onRaise ?_))
  show wpAny _ _ (Builtin.SmallTypes.nextOrEnd (.ref i2)) _ _ ⟨g1, g, d, tk1, os⟩
  refine orEnd_item (s := ⟨g1, g, d, tk1, os⟩) D2 hlt2 (D2.over (D2.over (D2.over st2 hs0 S.zf2) hp1 S.sep1_2) hs1 S.Tf2) fun x2 p2 tk2 hx2 sn2 hp2 => ?_
  replace hp2 : Heap.SameBut i2 g1 p2 := hp2
  have hU2 : IsTupOf2 p2 TO x1 a2 := hp2.extBut _ _ S.Ti2 hT1
  refine wpAny_bind (wpAny_seqItems (s := ⟨p2, g, d, tk2, os⟩) hU2 rfl ?_)
  refine wpAny_bind (updateSeq_IsTupOf2 (s := ⟨p2, g, d, tk2, os⟩) hU2 fun g2 hT2 hs2 => ?_)
  replace hT2 : IsTupOf2 g2 TO x1 x2 := hT2
  replace hs2 : Heap.SameBut TO p2 g2 := hs2
  refine wpAny_bind (wpAny_letGo (wpAny_pure (wpAny_pure ?_)))
  refine wpAny_bind (wpAny_seqItems (s := ⟨g2, g, d, tk2, os⟩) hT2 rfl ?_)
  refine wpAny_bind (wpAny_newTuple ?_)
  have hsz : g2.objs.size = hp.objs.size := by rw [hs2.1, hp2.1, hs1.1, hp1.1, hs0.1]
  have hzz : IsZipS g2 z TI TO .ellipsis := (hs2.extBut _ _ S.TOz.symm (hp2.extBut _ _ S.zi2 (hs1.extBut _ _ S.TOz.symm (hp1.extBut _ _ S.zi1 hz0))))
  have hkk : ∀ c o, c ≠ z → c ≠ TO → c ≠ i1 → c ≠ i2 → hp.get? c = some o → g2.get? c = some o := fun c o cz cT c1 c2 e =>
    (hs2.extBut _ _ cT (hp2.extBut _ _ c2 (hs1.extBut _ _ cT (hp1.extBut _ _ c1 (hs0.extBut _ _ cz e)))))
  have hj1 : St1 (i + 1) g2 := (D1.over (D1.over (D1.over sn1 hs1 S.Tf1) hp2 S.sep2_1) hs2 S.Tf1)
  have hj2 : St2 (i + 1) g2 := (D2.over sn2 hs2 S.Tf2)
  have hzlt : z < g2.objs.size := Heap.lt_size hzz
  show wpAny _ _ (Builtin.SmallTypes.ownedTupleHandOut (.ref z) (.ref g2.objs.size) >>= _) _ _ ⟨g2.push { cls := .type "tuple", data := .seq #[x1, x2] }, g, d, tk2, os⟩
  refine wpAny_bind ?_
  unfold Builtin.SmallTypes.ownedTupleHandOut
  have hz₆ : IsZipS (g2.push { cls := .type "tuple", data := .seq #[x1, x2] }) z TI TO .ellipsis := Heap.get?_push_of_some _ hzz
  refine wpAny_bind (wpAny_setField_rec hz₆ (by simp) fun h₇ hz₇ hs₇ => ?_)
  replace hz₇ : IsZipS h₇ z TI TO (rawInt g2.objs.size) := hz₇
  refine wpAny_setField_rec hz₇ (by simp) fun h₈ hz₈ hs₈ => ?_
  replace hz₈ : IsZipS h₈ z TI TO (rawInt g2.objs.size) := hz₈
  replace hs₇ : Heap.SameBut z (g2.push { cls := .type "tuple", data := .seq #[x1, x2] }) h₇ := hs₇
  replace hs₈ : Heap.SameBut z h₇ h₈ := hs₈
  have up : ∀ c o, c ≠ z → g2.get? c = some o → h₈.get? c = some o := fun c o c1 e => hs₈.extBut _ _ c1 (hs₇.extBut _ _ c1 (Heap.get?_push_of_some _ e))
  have hT₈ : IsTupOf2 h₈ g2.objs.size x1 x2 := hs₈.extBut _ _ (Nat.ne_of_gt hzlt) (hs₇.extBut _ _ (Nat.ne_of_gt hzlt) (Heap.get?_push_size _ rfl))
  have hz8 : h₈.objs.size = g2.objs.size + 1 := by rw [hs₈.1, hs₇.1, Heap.size_push]
  rw [hsz] at hz₈ hT₈ hz8
  refine wpAny_pure ⟨_, rfl, ?_⟩
  show Q (.ref g2.objs.size) ⟨h₈, g, d, tk2, os⟩
  rw [hsz]
  exact hQ x1 x2 h₈ tk2 hx1 hx2 hz₈ (up _ _ S.TOz hT2) (D1.frame _ _ _ hj1 fun b hb o e => up b o (fun q => S.zf1 (q ▸ hb)) e) (D2.frame _ _ _ hj2 fun b hb o e => up b o (fun q => S.zf2 (q ▸ hb)) e) hT₈ hz8 fun c o cz cT c1 c2 e => up c o cz (hkk c o cz cT c1 c2 e)

theorem zS_next_end {Q : Fin → Shared → Prop} (hh : A.handled = none) (S : ZipSep2 z TI TO i1 i2 fp1 fp2) (D1 : Draws prog w A i1 fp1 n1 P1 St1) (D2 : Draws prog w A i2 fp2 n2 P2 St2)
    (hz : IsZipS s.heap z TI TO .none) (hTI : IsTupOf2 s.heap TI (.ref i1) (.ref i2)) (hTO : IsTupOf2 s.heap TO a1 a2) (st1 : St1 n1 s.heap) (st2 : St2 n2 s.heap)
    (hE : ∀ h' tk e, (∀ c o, c ≠ z → c ≠ TO → c ≠ i1 → c ≠ i2 → s.heap.get? c = some o → h'.get? c = some o) → (∃ o, h'.get? e = some o ∧ o.cls = .type "StopIteration") → E (.ref e) { s with heap := h', toks := tk }) :
    wpAny (model prog w) A (Builtin.«zip.__next__» ⟨[.ref z], []⟩) Q E s := by
  obtain ⟨hp, g, d, tk0, os⟩ := s
  show wpAny _ _ (field (.ref z) 2 >>= _) _ _ _
  refine wpAny_bind (wpAny_field hz rfl (x := .bool true) rfl ?_)
  show wpAny _ _ (field (.ref z) 3 >>= _) _ _ _
  refine wpAny_bind (wpAny_field hz rfl (x := .ref TI) rfl ?_)
  refine wpAny_bind (wpAny_seqItems hTI rfl ?_)
  show wpAny _ _ (Builtin.SmallTypes.ownedTupleIsFree (.ref z) >>= _) _ _ _
  refine wpAny_bind ?_
  unfold Builtin.SmallTypes.ownedTupleIsFree
  refine wpAny_bind (wpAny_field hz rfl (x := .none) rfl (wpAny_pure ?_))
  simp only [if_true]
  refine wpAny_bind (wpAny_rule ?_)
  refine wpAny_bind (wpAny_field hz rfl (x := .ref TO) rfl ?_)
  refine wpAny_bind (wpAny_setField_rec hz (by simp) fun g0 hz0 hs0 => ?_)
  replace hz0 : IsZipS g0 z TI TO .ellipsis := hz0
  replace hs0 : Heap.SameBut z hp g0 := hs0
  refine wpAny_bind ?_
  simp only [List.zipIdx_cons, List.zipIdx_nil, List.forIn_cons, List.forIn_nil]
  refine wpAny_bind (wpAny_bind (wpAny_onRaise ?_))
  show wpAny _ _ (Builtin.SmallTypes.nextOrEnd (.ref i1)) _ _ ⟨g0, g, d, tk0, os⟩
  refine orEnd_done (s := ⟨g0, g, d, tk0, os⟩) D1 (D1.over st1 hs0 S.zf1) fun p1 hp1 => ?_
  replace hp1 : Heap.ExtBut i1 g0 p1 := hp1
  have hz1 : IsZipS p1 z TI TO .ellipsis := hp1 _ _ S.zi1 hz0
  refine wpAny_bind (wpAny_setField_rec (s := ⟨p1, g, d, tk0, os⟩) hz1 (by simp) fun g1 hz1' hs1 => ?_)
  replace hs1 : Heap.SameBut z p1 g1 := hs1
  refine wpAny_bind ?_
  show wpAny _ _ (((Builtin.SmallTypes.nextOrEnd (.ref i2) >>= _) >>= _) >>= _) _ _ ⟨g1, g, d, tk0, os⟩
  have st2' : St2 n2 g1 := D2.over (D2.frame _ _ _ (D2.over st2 hs0 S.zf2) fun b hb o e => hp1 b o (fun q => S.sep1_2 (q ▸ hb)) e) hs1 S.zf2
  refine wpAny_bind (wpAny_bind (wpAny_bind (orEnd_done (s := ⟨g1, g, d, tk0, os⟩) D2 st2' fun p2 hp2 => ?_)))
  replace hp2 : Heap.ExtBut i2 g1 p2 := hp2
  simp only [Option.isSome_none, Bool.false_eq_true, if_false]
  refine wpAny_pure (wpAny_pure (wpAny_bind (wpAny_rule ?_)))
  refine stop_raises hh fun h' e hk he => ?_
  exact hE h' tk0 e (fun c o cz cT c1 c2 x => hk _ _ (hp2 _ _ c2 (hs1.extBut _ _ cz (hp1 _ _ c1 (hs0.extBut _ _ cz x))))) he

theorem pyNext_zS_item {Q : Option Value → Shared → Prop} (S : ZipSep2 z TI TO i1 i2 fp1 fp2) (D1 : Draws prog w A.in1 i1 fp1 n1 P1 St1) (D2 : Draws prog w A.in1 i2 fp2 n2 P2 St2)
    (hz : IsZipS s.heap z TI TO .none) (hTI : IsTupOf2 s.heap TI (.ref i1) (.ref i2)) (hTO : IsTupOf2 s.heap TO a1 a2) (st1 : St1 i s.heap) (st2 : St2 i s.heap) (hlt1 : i < n1) (hlt2 : i < n2)
    (hQ : ∀ x1 x2 h' tk, P1 i x1 → P2 i x2 → IsZipS h' z TI TO (rawInt s.heap.objs.size) → IsTupOf2 h' TO x1 x2 → St1 (i + 1) h' → St2 (i + 1) h' → IsTupOf2 h' s.heap.objs.size x1 x2 → h'.objs.size = s.heap.objs.size + 1 →
      (∀ c o, c ≠ z → c ≠ TO → c ≠ i1 → c ≠ i2 → s.heap.get? c = some o → h'.get? c = some o) → Q (some (.ref s.heap.objs.size)) { s with heap := h', toks := tk }) :
    wpAny (model prog w) A (pyNext (.ref z)) Q E s := by
  have hT : s.TypeIs (.ref z) "zip" := ⟨_, hz, rfl⟩
  unfold pyNext
  exact wpAny_bind (wpAny_attempt (wpAny_callSpecial?_slot (name := Str.ofString "__next__") hT F.slot_zip_next
    (wpAny_call_entry F.slot_zip_next hT F.entry_zip_next
      (zS_next_item S D1 D2 hz hTI hTO st1 st2 hlt1 hlt2 fun x1 x2 h' tk y1 y2 b1 b2 d1 d2 b5 b6 b7 => wpAny_pure (hQ x1 x2 h' tk y1 y2 b1 b2 d1 d2 b5 b6 b7)) (F.args_zip_next_1 _))))
theorem pyNext_zS_end {Q : Option Value → Shared → Prop} (hh : A.in1.handled = none) (S : ZipSep2 z TI TO i1 i2 fp1 fp2) (D1 : Draws prog w A.in1 i1 fp1 n1 P1 St1) (D2 : Draws prog w A.in1 i2 fp2 n2 P2 St2)
    (hz : IsZipS s.heap z TI TO .none) (hTI : IsTupOf2 s.heap TI (.ref i1) (.ref i2)) (hTO : IsTupOf2 s.heap TO a1 a2) (st1 : St1 n1 s.heap) (st2 : St2 n2 s.heap)
    (hQ : ∀ h' tk, (∀ c o, c ≠ z → c ≠ TO → c ≠ i1 → c ≠ i2 → s.heap.get? c = some o → h'.get? c = some o) → Q none { s with heap := h', toks := tk }) : wpAny (model prog w) A (pyNext (.ref z)) Q E s := by
  have hT : s.TypeIs (.ref z) "zip" := ⟨_, hz, rfl⟩
  unfold pyNext
  refine wpAny_bind (wpAny_attempt (wpAny_callSpecial?_slot (name := Str.ofString "__next__") hT F.slot_zip_next
    (wpAny_call_entry F.slot_zip_next hT F.entry_zip_next (zS_next_end hh S D1 D2 hz hTI hTO st1 st2 fun h' tk e hk he => ?_) (F.args_zip_next_1 _))))
  obtain ⟨o, ho, hc⟩ := he
  refine wpAny_bind (wpAny_isInstance (T := "StopIteration") (b := true) ⟨o, ho, hc⟩ isSubtype_stop ?_)
  exact wpAny_pure (hQ _ _ hk)
theorem letGo_zS {elts : List Expr} {x1} {pos : Pos} {z TI TO T : Addr} {Q : Unit → Shared → Prop} (hz : IsZipS s.heap z TI TO (rawInt T))
    (hQ : ∀ h', IsZipS h' z TI TO .none → Heap.SameBut z s.heap h' → Q () { s with heap := h' }) :
    wpAny (model prog w) A (letOwnedTupleGo (.Tuple elts x1 pos) (.ref z) (.ref T)) Q E s := by
  unfold letOwnedTupleGo
  refine wpAny_bind (wpAny_load hz ?_)
  show wpAny _ _ (if (["enumerate", "zip", "dict_itemiterator", "dict_reverseitemiterator", "odict_iterator", "itertools.zip_longest", "itertools.pairwise"].contains "zip" &&
      (#[rawInt T, .bool false, .bool true, .ref TI, .ref TO] : Array Value)[0]? == some (rawInt T)) = true then _ else _) Q E s
  rw [if_pos (by simp)]
  refine wpAny_bind (wpAny_rule ?_)
  show wpAny _ _ (setField (.ref z) 0 .none) Q E s
  exact wpAny_setField_rec hz (by simp) fun h' hz' hs' => hQ h' hz' hs'
theorem pyIter_zS {z TI TO : Addr} {f0 : Value} {Q : Value → Shared → Prop} (hz : IsZipS s.heap z TI TO f0) (h : Q (.ref z) s) : wpAny (model prog w) A (pyIter (.ref z)) Q E s := by
  have hT : s.TypeIs (.ref z) "zip" := ⟨_, hz, rfl⟩
  refine wpAny_pyIter_slot hT F.slot_zip_iter (wpAny_call_entry F.slot_zip_iter hT F.entry_zip_iter ?_ (F.args_zip_iter_1 _))
  show wpAny _ _ (ret (.ref z)) _ _ s
  exact wpAny_pure ⟨_, rfl, "zip", _, hT, F.slot_zip_next.lookup, h⟩
end

/-! ### zip(v1, v2, strict=True) begins -/
theorem typeCall_zS (a b : Value) : checkTypeCall "zip" ⟨[a, b], [(Str.ofString "strict", .bool true)]⟩ = pure () := by kernel_rfl
theorem newCall_zS (a b : Value) : checkBuiltinCall "zip.__new__" ⟨[.type "zip", a, b], [(Str.ofString "strict", .bool true)]⟩ = pure () := by kernel_rfl
theorem args_object_init_zS (obj a b : Value) : argsOk "object.__init__" ⟨[obj, a, b], [(Str.ofString "strict", .bool true)]⟩ := by unfold argsOk; kernel_rfl
abbrev zsZ (h : Heap) (o1 o2 : Obj) : Heap := (gzO2 h o1 o2).push { cls := .type "zip", data := .fields #[.none, .bool false, .bool true, .ref ((h.push o1).push o2).objs.size, .ref (gzT2 h o1 o2).objs.size] }
theorem meets_zS {v1 v2 : Value} {o1 o2 : Obj} {H1 H2 : Heap → Prop} (B1 : Begins v1 o1 H1) (B2 : Begins v2 o2 H2) :
    Meets (Builtin.«zip.__new__» ⟨[.type "zip", v1, v2], [(Str.ofString "strict", .bool true)]⟩) (fun _ R s => (H1 s.heap ∧ H2 s.heap) ∧
      R (.ok (.ret (.ref (gzO2 s.heap o1 o2).objs.size))) { s with heap := zsZ s.heap o1 o2 }) :=
  .of_wp fun prog w A R s h => by
    obtain ⟨hp, g, d, tk, os⟩ := s; obtain ⟨⟨h1, h2⟩, h⟩ := h
    have hsub := sub_zip
    have e1 : (Str.ofString "strict" == ("strict" : Str)) = true := by decide +kernel
    have e2 : (Str.ofString "strict" != ("strict" : Str)) = false := by decide +kernel
    have q1 : ∀ {A' : Around} {E : Value → Shared → Prop} {Q : Value → Shared → Prop}, Q (.ref hp.objs.size) ⟨(hp.push o1), g, d, tk, os⟩ → wpAny (model prog w) A' (pyIter v1) Q E ⟨hp, g, d, tk, os⟩ :=
      fun q => B1.iter prog w _ _ ⟨hp, g, d, tk, os⟩ _ (B1.keeps _ _ h1 fun b o' e => e) q
    have q2 : ∀ {A' : Around} {E : Value → Shared → Prop} {Q : Value → Shared → Prop}, Q (.ref (hp.push o1).objs.size) ⟨((hp.push o1).push o2), g, d, tk, os⟩ → wpAny (model prog w) A' (pyIter v2) Q E ⟨(hp.push o1), g, d, tk, os⟩ :=
      fun q => B2.iter prog w _ _ ⟨(hp.push o1), g, d, tk, os⟩ _ (B2.keeps _ _ h2 fun b o' e => (Heap.get?_push_of_some _ e)) q
    wp_walk using q1, q2
    exact ⟨_, rfl, h⟩
end DZ
namespace DL
open PySem PySem.Spec PyProof.Rows L2 DZ
/-! ### zip of lists and tuples, in any mix, strict or not -/
def IterAt (b : Bool) (h : Heap) (it a : Addr) (i : Nat) : Prop := match b with | true => h.IsTupleIter it a i | false => h.IsListIter it a i
def SrcAt (b : Bool) (h : Heap) (a : Addr) (items : Array Value) : Prop := match b with | true => h.IsTuple a items | false => h.IsList a items
def iterOf (b : Bool) (a : Addr) : Obj := match b with | true => { cls := .type "tuple_iterator", data := .fields #[.ref a, .int 0 0] } | false => { cls := .type "list_iterator", data := .fields #[.ref a, .int 0 0] }
abbrev ZipAt (st : Bool) (h : Heap) (z TI TO : Addr) (f0 : Value) : Prop :=
  h.get? z = some { cls := .type "zip", dict := none, data := .fields #[f0, .bool false, .bool st, .ref TI, .ref TO], slots := #[] }
theorem draws_src {prog : Program} {w : World} {A : Around} (hh : A.handled = none) (b : Bool) (it a : Addr) (hne : a ≠ it) (items : Array Value) :
    Draws prog w A it [it, a] items.size (fun i v => items[i]? = some v) (fun i h => IterAt b h it a i ∧ SrcAt b h a items) := by
  cases b
  · exact .list hh it a hne items
  · exact .tuple hh it a hne items
theorem begins_src (b : Bool) (a : Addr) (items : Array Value) : Begins (.ref a) (iterOf b a) fun h => SrcAt b h a items := by
  cases b
  · exact begins_list a items
  · exact begins_tuple a items
theorem iterAt_new {b : Bool} {h : Heap} {it a : Addr} (e : h.get? it = some (iterOf b a)) : IterAt b h it a 0 := by
  cases b
  · exact ⟨_, e, rfl, rfl⟩
  · exact ⟨_, e, rfl, rfl⟩
theorem IterAt.live {b : Bool} {h : Heap} {it a : Addr} {i : Nat} (e : IterAt b h it a i) : ∃ o, h.get? it = some o := by
  cases b
  · obtain ⟨o, e, _⟩ := e; exact ⟨o, e⟩
  · obtain ⟨o, e, _⟩ := e; exact ⟨o, e⟩
theorem IterAt.at {b : Bool} {h h' : Heap} {it a : Addr} {i : Nat} (e : IterAt b h it a i) (k : ∀ o, h.get? it = some o → h'.get? it = some o) : IterAt b h' it a i := by
  cases b
  · exact Heap.IsListIter.at e k
  · exact Heap.IsTupleIter.at e k
theorem inv_src {X : Cx} {pins : List (Addr × Obj)} {σ : L2.St} {H : Hp} {s : Shared} {b : Bool} {a : Addr} {xs : List V} (I : Inv X pins σ H s) (h : Sq b X.K H a xs) : ∃ its : List Value, Vals xs its ∧ SrcAt b s.heap a its.toArray := by
  cases b
  · obtain ⟨its, rv, p, _⟩ := I.list h
    exact ⟨its, rv, p.isList⟩
  · obtain ⟨its, rv, p, _⟩ := I.tuple h
    exact ⟨its, rv, p⟩
theorem inv_src_inj {X : Cx} {pins : List (Addr × Obj)} {σ : L2.St} {H : Hp} {s : Shared} {b : Bool} {a : Addr} {xs ys : List V} (I : Inv X pins σ H s) (h : Sq b X.K H a xs) (h' : Sq b X.K H a ys) : xs = ys := by
  cases b
  · exact I.list_inj h h'
  · exact I.tuple_inj h h'
theorem SrcAt.lt {b : Bool} {h : Heap} {a : Addr} {its : Array Value} (p : SrcAt b h a its) : a < h.objs.size := by
  cases b
  · obtain ⟨o, e, _⟩ := p; exact Heap.lt_size e
  · obtain ⟨o, e, _⟩ := p; exact Heap.lt_size e
theorem zipSep {z TI TO i1 i2 a b : Addr} (D : ZipApart z TI TO i1 i2 a b) : ZipSep2 z TI TO i1 i2 [i1, a] [i2, b] where
  TIz := D.TIz
  TOz := D.TOz
  TITO := D.TITO
  TIi1 := D.TIi1
  mem1 := by simp
  zf1 := by simp [D.i1z.symm, D.l1z.symm]
  Tf1 := by simp [D.TOi1, D.l1TO.symm]
  TIi2 := D.TIi2
  mem2 := by simp
  zf2 := by simp [D.i2z.symm, D.l2z.symm]
  Tf2 := by simp [D.TOi2, D.l2TO.symm]
  sep1_2 := by simp [D.i12, D.l2i1.symm]
  sep2_1 := by simp [D.i12.symm, D.l1i2.symm]
section
variable {prog : Program} {w : World} {A : Around} {E : Value → Shared → Prop} {s : Shared} {z TI TO i1 i2 : Addr} {fp1 fp2 : List Addr} {n1 n2 i : Nat} {P1 P2 : Nat → Value → Prop} {St1 St2 : Nat → Heap → Prop} {a1 a2 : Value}
theorem pyNext_zA_item (st : Bool) {Q : Option Value → Shared → Prop} (S : ZipSep2 z TI TO i1 i2 fp1 fp2) (D1 : Draws prog w A.in1 i1 fp1 n1 P1 St1) (D2 : Draws prog w A.in1 i2 fp2 n2 P2 St2)
    (hz : ZipAt st s.heap z TI TO .none) (hTI : IsTupOf2 s.heap TI (.ref i1) (.ref i2)) (hTO : IsTupOf2 s.heap TO a1 a2) (st1 : St1 i s.heap) (st2 : St2 i s.heap) (hlt1 : i < n1) (hlt2 : i < n2)
    (hQ : ∀ x1 x2 h' tk, P1 i x1 → P2 i x2 → ZipAt st h' z TI TO (rawInt s.heap.objs.size) → IsTupOf2 h' TO x1 x2 → St1 (i + 1) h' → St2 (i + 1) h' → IsTupOf2 h' s.heap.objs.size x1 x2 → h'.objs.size = s.heap.objs.size + 1 →
      (∀ c o, c ≠ z → c ≠ TO → c ≠ i1 → c ≠ i2 → s.heap.get? c = some o → h'.get? c = some o) → Q (some (.ref s.heap.objs.size)) { s with heap := h', toks := tk }) :
    wpAny (model prog w) A (pyNext (.ref z)) Q E s := by
  cases st
  · exact wpAny_pyNext_zipD2_item S D1 D2 hz hTI hTO st1 st2 hlt1 hlt2 hQ
  · exact pyNext_zS_item S D1 D2 hz hTI hTO st1 st2 hlt1 hlt2 hQ
theorem pyNext_zA_end (st : Bool) {Q : Option Value → Shared → Prop} (hh : A.in1.handled = none) (S : ZipSep2 z TI TO i1 i2 fp1 fp2) (D1 : Draws prog w A.in1 i1 fp1 n1 P1 St1) (D2 : Draws prog w A.in1 i2 fp2 n2 P2 St2)
    (hz : ZipAt st s.heap z TI TO .none) (hTI : IsTupOf2 s.heap TI (.ref i1) (.ref i2)) (hTO : IsTupOf2 s.heap TO a1 a2) (st1 : St1 i s.heap) (st2 : St2 i s.heap) (hle1 : i ≤ n1) (hle2 : i ≤ n2) (hend : i = n1 ∨ i = n2) (hst : st = true → i = n1 ∧ i = n2)
    (hQ : ∀ h' tk, (∀ c o, c ≠ z → c ≠ TO → c ≠ i1 → c ≠ i2 → s.heap.get? c = some o → h'.get? c = some o) → Q none { s with heap := h', toks := tk }) : wpAny (model prog w) A (pyNext (.ref z)) Q E s := by
  cases st
  · exact wpAny_pyNext_zipD2_end S D1 D2 hz hTI hTO st1 st2 hle1 hle2 hend hQ
  · obtain ⟨e1, e2⟩ := hst rfl
    exact pyNext_zS_end hh S D1 D2 hz hTI hTO (e1 ▸ st1) (e2 ▸ st2) hQ
theorem letGo_zA (st : Bool) {elts : List Expr} {x1} {pos : Pos} {z TI TO T : Addr} {Q : Unit → Shared → Prop} (hz : ZipAt st s.heap z TI TO (rawInt T))
    (hQ : ∀ h', ZipAt st h' z TI TO .none → Heap.SameBut z s.heap h' → Q () { s with heap := h' }) :
    wpAny (model prog w) A (letOwnedTupleGo (.Tuple elts x1 pos) (.ref z) (.ref T)) Q E s := by
  cases st
  · exact wpAny_letOwnedTupleGo_zip hz hQ
  · exact letGo_zS hz hQ
theorem pyIter_zA (st : Bool) {z TI TO : Addr} {f0 : Value} {Q : Value → Shared → Prop} (hz : ZipAt st s.heap z TI TO f0) (h : Q (.ref z) s) : wpAny (model prog w) A (pyIter (.ref z)) Q E s := by
  cases st
  · exact wpAny_pyIter_zip hz h
  · exact pyIter_zS hz h
end
/-- the lists and tuples at a and b as they stand at each turn, the items in new pairs -/
def ItZ (st b1 b2 : Bool) (K : PySem.W.Frag) (a b : Addr) : It :=
  ⟨fun i H => ∃ (xs ys : List V) (x y : V), Sq b1 K H a xs ∧ Sq b2 K H b ys ∧ xs[i]? = some x ∧ ys[i]? = some y,
    fun i H v H' => ∃ T x y, v = .ref T ∧ H T = none ∧ H' = upd H T (.tup [x, y]) ∧ (∀ xs, Sq b1 K H a xs → xs[i]? = some x) ∧ ∀ ys, Sq b2 K H b ys → ys[i]? = some y,
    fun i H => ∃ xs ys : List V, Sq b1 K H a xs ∧ Sq b2 K H b ys ∧ i ≤ xs.length ∧ i ≤ ys.length ∧ (i = xs.length ∨ i = ys.length) ∧ (st = true → i = xs.length ∧ i = ys.length)⟩
theorem turn_zA {st b1 b2 : Bool} {P : Program} {w : World} {K : PySem.W.Frag} {elts : List Expr} {kk : Nat} {tpos : Pos} {a b z TI TO i1 i2 : Addr} (D : ZipApart z TI TO i1 i2 a b) :
    Turn P w K (.Tuple elts kk tpos) (ItZ st b1 b2 K a b) [z, TI, TO, i1, i2] z (fun i h => ZipAt st h z TI TO .none ∧ IsPair h TI (.ref i1) (.ref i2) ∧ (∃ x y, IsPair h TO x y) ∧ IterAt b1 h i1 a i ∧ IterAt b2 h i2 b i) where
  mem := by simp
  obj := fun i h st c hc => by
    obtain ⟨hz, hTI, ⟨x, y, hTO⟩, h1, h2⟩ := st
    have e' : c = z ∨ c = TI ∨ c = TO ∨ c = i1 ∨ c = i2 := by simpa using hc
    rcases e' with q | q | q | q | q
    · rw [q]; exact ⟨_, hz, fun v q => nomatch q⟩
    · rw [q]; exact ⟨_, hTI, fun v q => nomatch q⟩
    · rw [q]; exact ⟨_, hTO, fun v q => nomatch q⟩
    · rw [q]
      cases b1
      · obtain ⟨o1, e1, _, d1⟩ := h1
        exact ⟨o1, e1, fun v q => by rw [d1] at q; cases q⟩
      · obtain ⟨o1, e1, _, d1⟩ := h1
        exact ⟨o1, e1, fun v q => by rw [d1] at q; cases q⟩
    · rw [q]
      cases b2
      · obtain ⟨o1, e1, _, d1⟩ := h2
        exact ⟨o1, e1, fun v q => by rw [d1] at q; cases q⟩
      · obtain ⟨o1, e1, _, d1⟩ := h2
        exact ⟨o1, e1, fun v q => by rw [d1] at q; cases q⟩
  keep := fun i h h' st k => by
    obtain ⟨hz, hTI, ⟨x, y, hTO⟩, h1, h2⟩ := st
    exact ⟨k z (by simp) _ hz, k TI (by simp) _ hTI, ⟨x, y, k TO (by simp) _ hTO⟩, h1.at fun o q => k i1 (by simp) o q, h2.at fun o q => k i2 (by simp) o q⟩
  item := by
    intro X hP hw hK hc i pins s σ H E I hf hst hg
    subst hP hw hK
    have hh1 : X.A.in1.handled = none := I.ok.hd hc
    obtain ⟨hz, hTI, ⟨x0, y0, hTO⟩, h1, h2⟩ := hst
    obtain ⟨xs, ys, x, y, hqx, hqy, hx, hy⟩ := hg
    obtain ⟨its, rv, p⟩ := inv_src I hqx
    obtain ⟨its2, rv2, p2⟩ := inv_src I hqy
    obtain ⟨u, hu, ru⟩ := rv.get hx
    obtain ⟨u2, hu2, ru2⟩ := rv2.get hy
    have hzl : z < s.heap.objs.size := Heap.lt_size hz
    have l1 : i < its.toArray.size := by
      have := (List.getElem?_eq_some_iff.mp hu).1
      simpa using this
    have l2 : i < its2.toArray.size := by
      have := (List.getElem?_eq_some_iff.mp hu2).1
      simpa using this
    refine pyNext_zA_item st (zipSep D) (draws_src hh1 b1 i1 a D.l1i1 its.toArray) (draws_src hh1 b2 i2 b D.l2i2 its2.toArray) hz hTI hTO ⟨h1, p⟩ ⟨h2, p2⟩ l1 l2 fun w1 w2 h' tk q1 q2 z' TO' h1' h2' hT hsz hk => ?_
    have ew1 : u = w1 := by rw [List.getElem?_toArray, hu] at q1; exact Option.some.inj q1
    have ew2 : u2 = w2 := by rw [List.getElem?_toArray, hu2] at q2; exact Option.some.inj q2
    subst ew1 ew2
    refine ⟨_, rfl, letGo_zA st (s := { s with heap := h', toks := tk }) z' fun h'' z'' sb => ?_⟩
    have hT2 : h''.get? s.heap.objs.size = some { cls := .type "tuple", data := .seq #[u, u2] } := (sb.2 _ (Nat.ne_of_gt hzl)).trans hT
    have new : ObjOk X.prog X.w (upd H s.heap.objs.size (.tup [x, y])) h'' s.heap.objs.size (.tup [x, y]) :=
      ⟨by show 2 ≤ sizeLine; decide, [u, u2], .cons ru (.cons ru2 .nil), ⟨_, hT2, rfl, _, rfl⟩⟩
    have I1 : Inv X pins σ (upd H s.heap.objs.size (.tup [x, y])) { s with heap := h'', toks := tk } :=
      I.turnedNew (t' := tk) (ch := [z, TI, TO, i1, i2]) (fun c o hb q => (sb.2 c (fun q' => hb (by simp [q']))).trans (hk c o (fun q' => hb (by simp [q'])) (fun q' => hb (by simp [q'])) (fun q' => hb (by simp [q'])) (fun q' => hb (by simp [q'])) q)) hf (Nat.le_refl _) new
    refine ⟨.ref s.heap.objs.size, _, I1, rfl, ⟨_, x, y, rfl, I.hok.fresh (Nat.le_refl _), rfl, fun l hl => by rw [inv_src_inj I hl hqx]; exact hx, fun l hl => by rw [inv_src_inj I hl hqy]; exact hy⟩, ⟨z'', ?_, ⟨u, u2, ?_⟩, ?_, ?_⟩, fun c hcm => ?_⟩
    · exact (sb.2 _ D.TIz).trans (hk _ _ D.TIz D.TITO D.TIi1 D.TIi2 hTI)
    · exact (sb.2 _ D.TOz).trans TO'
    · exact h1'.1.at fun o q => (sb.2 _ D.i1z).trans q
    · exact h2'.1.at fun o q => (sb.2 _ D.i2z).trans q
    · have hlt : c < s.heap.objs.size := by
        have e' : c = z ∨ c = TI ∨ c = TO ∨ c = i1 ∨ c = i2 := by simpa using hcm
        rcases e' with q | q | q | q | q
        · rw [q]; exact hzl
        · rw [q]; exact Heap.lt_size hTI
        · rw [q]; exact Heap.lt_size hTO
        · rw [q]; obtain ⟨_, e1⟩ := h1.live; exact Heap.lt_size e1
        · rw [q]; obtain ⟨_, e2⟩ := h2.live; exact Heap.lt_size e2
      rw [upd_ne (Nat.ne_of_lt hlt)]
      exact (hf c hcm).1
  done := by
    intro X hP hw hK hc i pins s σ H E I hf hst hg
    subst hP hw hK
    have hh1 : X.A.in1.handled = none := I.ok.hd hc
    obtain ⟨hz, hTI, ⟨x0, y0, hTO⟩, h1, h2⟩ := hst
    obtain ⟨xs, ys, hqx, hqy, hle1, hle2, hend, hs⟩ := hg
    obtain ⟨its, rv, p⟩ := inv_src I hqx
    obtain ⟨its2, rv2, p2⟩ := inv_src I hqy
    have l1 := rv.length
    have l2 := rv2.length
    refine pyNext_zA_end st hh1 (zipSep D) (draws_src hh1 b1 i1 a D.l1i1 its.toArray) (draws_src hh1 b2 i2 b D.l2i2 its2.toArray) hz hTI hTO ⟨h1, p⟩ ⟨h2, p2⟩ (by simp; omega) (by simp; omega) (by simp; omega) (fun e => by have := hs e; simp; omega) fun h' tk hk => ⟨rfl, I.turnedL (t' := tk) (ch := [z, TI, TO, i1, i2]) (fun c o hb q =>
      hk c o (fun q' => hb (by simp [q'])) (fun q' => hb (by simp [q'])) (fun q' => hb (by simp [q'])) (fun q' => hb (by simp [q'])) q) hf⟩
  self := fun A i s Q E st' h => pyIter_zA st st'.1 h
end DL
namespace DZ
open PySem PySem.Spec PyProof.Rows L2
section
variable {prog : Program} {w : World} {A : Around} {E : Value → Shared → Prop} {s : Shared}
/-- zip of 2, strict: its 5 new cells -/
theorem zS_begins2 {v1 v2 : Value} {o1 o2 : Obj} {H1 H2 : Heap → Prop} {Q : Value → Shared → Prop} (B1 : Begins v1 o1 H1) (B2 : Begins v2 o2 H2) (h1 : H1 s.heap) (h2 : H2 s.heap)
    (h : ∀ h', IsZipS h' (s.heap.objs.size + 4) (s.heap.objs.size + 2) (s.heap.objs.size + 3) .none → IsTupOf2 h' (s.heap.objs.size + 2) (.ref s.heap.objs.size) (.ref (s.heap.objs.size + 1)) →
      IsTupOf2 h' (s.heap.objs.size + 3) .none .none → h'.get? s.heap.objs.size = some o1 → h'.get? (s.heap.objs.size + 1) = some o2 → h'.objs.size = s.heap.objs.size + 5 →
      (∀ c o, s.heap.get? c = some o → h'.get? c = some o) → Q (.ref (s.heap.objs.size + 4)) { s with heap := h' }) :
    wpAny (model prog w) A (call (.type "zip") [v1, v2] [(Str.ofString "strict", .bool true)]) Q E s := by
  refine callType_newKw F.called_zip (by decide) (typeCall_zS _ _) (newCall_zS _ _) (fun obj => args_object_init_zS obj _ _) F.entry_zip_new
    (meets_zS B1 B2) ⟨⟨h1, h2⟩, ?_⟩
  have z1 : (s.heap.push o1).objs.size = s.heap.objs.size + 1 := by rw [Heap.size_push]
  have z2 : ((s.heap.push o1).push o2).objs.size = s.heap.objs.size + 2 := by rw [Heap.size_push, z1]
  have zT : (gzT2 s.heap o1 o2).objs.size = s.heap.objs.size + 3 := by rw [Heap.size_push, z2]
  have zO : (gzO2 s.heap o1 o2).objs.size = s.heap.objs.size + 4 := by rw [Heap.size_push, zT]
  have zZ : (zsZ s.heap o1 o2).objs.size = s.heap.objs.size + 5 := by rw [Heap.size_push, zO]
  have gZ : (zsZ s.heap o1 o2).get? (gzO2 s.heap o1 o2).objs.size = some { cls := .type "zip", data := .fields #[.none, .bool false, .bool true, .ref ((s.heap.push o1).push o2).objs.size, .ref (gzT2 s.heap o1 o2).objs.size] } := Heap.get?_push_size _ rfl
  have gO : (zsZ s.heap o1 o2).get? (gzT2 s.heap o1 o2).objs.size = some { cls := .type "tuple", data := .seq #[.none, .none] } := Heap.get?_push_of_some _ (Heap.get?_push_size _ rfl)
  have gT : (zsZ s.heap o1 o2).get? ((s.heap.push o1).push o2).objs.size = some { cls := .type "tuple", data := .seq #[.ref s.heap.objs.size, .ref (s.heap.push o1).objs.size] } := Heap.get?_push_of_some _ (Heap.get?_push_of_some _ (Heap.get?_push_size _ rfl))
  have g1 : (zsZ s.heap o1 o2).get? s.heap.objs.size = some o1 := Heap.get?_push_of_some _ (Heap.get?_push_of_some _ (Heap.get?_push_of_some _ (Heap.get?_push_of_some _ (Heap.get?_push_size _ B1.free))))
  have g2 : (zsZ s.heap o1 o2).get? (s.heap.push o1).objs.size = some o2 := Heap.get?_push_of_some _ (Heap.get?_push_of_some _ (Heap.get?_push_of_some _ (Heap.get?_push_size _ B2.free)))
  rw [zO, zT, z2] at gZ
  rw [zT] at gO
  rw [z2, z1] at gT
  rw [z1] at g2
  show _ ∧ _
  rw [zO]
  exact ⟨⟨_, gZ, rfl⟩, h _ gZ gT gO g1 g2 zZ fun c o e => Heap.get?_push_of_some _ (Heap.get?_push_of_some _ (Heap.get?_push_of_some _ (Heap.get?_push_of_some _ (Heap.get?_push_of_some _ e))))⟩
end
section
variable {M : Model} {A : Around} {E : Value → Shared → Prop} {s : Shared} {env : Env}
theorem callWith_type_kw {pos : Pos} {id : String} {e : Expr} {rest : List Expr} {kws : List Keyword} {Q : Value → Shared → Prop}
    (h : wpAny M A (spliced (backTo pos (starEach (e :: rest) env))) (fun vs s₁ => wpAny M A (evalAll ((backToKw pos (keywordEach kws env)).map (·.2)))
      (fun kvs s₂ => wpAny M A (call (.type id) vs (((backToKw pos (keywordEach kws env)).filterMap (·.1)).zip kvs)) Q E s₂) E s₁) E s)
    (he : backTo pos (starEach (e :: rest) env) = (false, eval e env) :: backTo pos (starEach rest env) := by rfl)
    (hplain : (backTo pos (starEach (e :: rest) env)).any (·.1) = false := by rfl)
    (hall : (backToKw pos (keywordEach kws env)).all (·.1.isSome) = true := by rfl)
    (hkw : (backToKw pos (keywordEach kws env)).any (·.1.isNone) = false := by rfl) :
    wpAny M A (callWith pos (.type id) [] (backTo pos (starEach (e :: rest) env)) (backToKw pos (keywordEach kws env))) Q E s := by
  rw [he] at h
  have h2 := evalArgs_kwB (f := .type id) (Q := fun a s₁ => wpAny M A (call (.type id) ([] ++ a.pos) a.kw) Q E s₁) hall h
  rw [← he] at h2
  unfold callWith
  refine wpAny_bind (wpAny_holding (wpAny_mono h2 (fun a s₁ h₁ => wpAny_bind (wpAny_standAt ?_)) fun _ _ x => x))
  simp only [hplain, hkw, Bool.or_false]
  refine wpAny_bind (wpAny_pure ?_)
  exact wpAny_bind (wpAny_mono h₁ (fun r s₂ hr => wpAny_bind (wpAny_holding (wpAny_point (wpAny_pure hr)))) fun _ _ x => x)
end
end DZ
namespace DL
open PySem PySem.Spec PyProof.Rows L2 DZ
def iZA (st : Bool) (K : PySem.W.Frag) (ta : TA) : TI := fun σ H R => ta σ H fun vs H1 => ∃ b1 b2 a b xs ys, vs = [.ref a, .ref b] ∧ Sq b1 K H1 a xs ∧ Sq b2 K H1 b ys ∧ R (ItZ st b1 b2 K a b) H1
section
variable {X : Cx} {e e2 k : Expr} {ta : TA} {p pos tpos kpos : Pos} {elts : List Expr} {kk : Nat}
theorem zA_of {st b1 b2 : Bool} {pins : List (Addr × Obj)} {σ : L2.St} {H1 : Hp} {s1 : Shared} {a b : Addr} {R : It → Hp → Prop} {h' : Heap} {its its2 : Array Value} (I1 : Inv X pins σ H1 s1) (p1 : SrcAt b1 s1.heap a its) (p2 : SrcAt b2 s1.heap b its2) (q : R (ItZ st b1 b2 X.K a b) H1)
    (hz : ZipAt st h' (s1.heap.objs.size + 4) (s1.heap.objs.size + 2) (s1.heap.objs.size + 3) .none) (hTI : IsTupOf2 h' (s1.heap.objs.size + 2) (.ref s1.heap.objs.size) (.ref (s1.heap.objs.size + 1))) (hTO : IsTupOf2 h' (s1.heap.objs.size + 3) .none .none)
    (g1 : h'.get? s1.heap.objs.size = some (iterOf b1 a)) (g2 : h'.get? (s1.heap.objs.size + 1) = some (iterOf b2 b)) (hk : ∀ c o, s1.heap.get? c = some o → h'.get? c = some o) :
    PIE X pins σ (.Tuple elts kk tpos) R (.ref (s1.heap.objs.size + 4)) { s1 with heap := h' } := by
  have I2 : Inv X pins σ H1 { s1 with heap := h' } := I1.kept (t' := s1.toks) hk
  have fresh5 : ∀ c, c ∈ [s1.heap.objs.size + 4, s1.heap.objs.size + 2, s1.heap.objs.size + 3, s1.heap.objs.size, s1.heap.objs.size + 1] → FpOk X pins H1 c := fun c hcm => by
    have e' : c = s1.heap.objs.size + 4 ∨ c = s1.heap.objs.size + 2 ∨ c = s1.heap.objs.size + 3 ∨ c = s1.heap.objs.size ∨ c = s1.heap.objs.size + 1 := by simpa using hcm
    have hle : s1.heap.objs.size ≤ c := by
      rcases e' with z | z | z | z | z
      · rw [z]; exact Nat.le_add_right _ _
      · rw [z]; exact Nat.le_add_right _ _
      · rw [z]; exact Nat.le_add_right _ _
      · rw [z]; exact Nat.le_refl _
      · rw [z]; exact Nat.le_add_right _ _
    exact I1.fpOk hle (I1.hok.fresh hle)
  exact ⟨s1.heap.objs.size + 4, [s1.heap.objs.size + 4, s1.heap.objs.size + 2, s1.heap.objs.size + 3, s1.heap.objs.size, s1.heap.objs.size + 1], _, _, H1, rfl, I2, turn_zA (PySem.W.ktu_apart s1.heap.objs.size a b p1.lt p2.lt), ⟨hz, hTI, ⟨_, _, hTO⟩, iterAt_new g1, iterAt_new g2⟩, fresh5, q⟩
theorem pi_zA0 (hg : Gl X "zip") (hm : X.mg "zip" = none) (ha : PA X [e, e2] ta)
    (hs : starEach [e, e2] X.env = (false, eval e X.env) :: starEach [e2] X.env := by rfl) (hpl : (backTo pos (starEach [e2] X.env)).any (·.1) = false := by rfl) :
    PI X (.Tuple elts kk tpos) (.Call (.Name "zip" p) [e, e2] [] pos) (iZA false X.K ta) := by
  refine ⟨fun pins s σ H R I h => ?_⟩
  refine Call_ (ld_blt I hg hm PyProof.Rows.boot_zip (PyProof.Rows.callWith_type1 (thn (ha.run pos pins s σ H _ I h) fun us s1 ⟨vs, H1, I1, r1, q1⟩ => ?_) hs hpl))
  obtain ⟨b1, b2, a, b, xs, ys, ex, hqx, hqy, q⟩ := q1
  subst ex
  cases r1 with
  | cons r rr =>
    cases rr with
    | cons r' rr =>
      cases rr
      cases r
      cases r'
      obtain ⟨its, rv, p1⟩ := inv_src I1 hqx
      obtain ⟨its2, rv2, p2⟩ := inv_src I1 hqy
      exact zip_begins2 (begins_src b1 a its.toArray) (begins_src b2 b its2.toArray) p1 p2 fun h' hz hTI hTO g1 g2 hsz hk => pyIter_zA false hz (zA_of I1 p1 p2 q hz hTI hTO g1 g2 hk)
theorem pi_zA1 (hg : Gl X "zip") (hm : X.mg "zip" = none) (ha : PA X [e, e2] ta) (ht : ∀ {E : Value → Shared → Prop} {s : Shared} {Q : Value → Shared → Prop}, Q (.bool true) s → wpAny (model X.prog X.w) X.A (eval k X.env) Q E s)
    (hs : starEach [e, e2] X.env = (false, eval e X.env) :: starEach [e2] X.env := by rfl) (hpl : (backTo pos (starEach [e2] X.env)).any (·.1) = false := by rfl) :
    PI X (.Tuple elts kk tpos) (.Call (.Name "zip" p) [e, e2] [⟨some (Str.ofString "strict"), k, kpos⟩] pos) (iZA true X.K ta) := by
  refine ⟨fun pins s σ H R I h => ?_⟩
  refine wpAny_Call_Name_kw (ld_blt I hg hm PyProof.Rows.boot_zip ?_)
  refine callWith_type_kw (thn (ha.run pos pins s σ H _ I h) fun us s1 ⟨vs, H1, I1, r1, q1⟩ => ?_) (by rw [hs]; rfl) (by rw [hs]; show (false || (backTo pos (starEach [e2] X.env)).any (·.1)) = false; rw [hpl]; rfl)
  refine PyProof.Rows.kws_cons (ht (PyProof.Rows.kws_nil ?_))
  obtain ⟨b1, b2, a, b, xs, ys, ex, hqx, hqy, q⟩ := q1
  subst ex
  cases r1 with
  | cons r rr =>
    cases rr with
    | cons r' rr =>
      cases rr
      cases r
      cases r'
      obtain ⟨its, rv, p1⟩ := inv_src I1 hqx
      obtain ⟨its2, rv2, p2⟩ := inv_src I1 hqy
      exact zS_begins2 (begins_src b1 a its.toArray) (begins_src b2 b its2.toArray) p1 p2 fun h' hz hTI hTO g1 g2 hsz hk => pyIter_zA true hz (zA_of I1 p1 p2 q hz hTI hTO g1 g2 hk)
end
section
variable {X : Cx} {e e2 k : Expr} {ta : TA} {p pos tpos kpos : Pos} {elts : List Expr} {kk : Nat}
end
/-! ### the same over data -/
def enumD (k : Int) (ds : List D) : List D := ds.mapIdx fun i d => .tup [.int (k + (i : Int)), d]
def dEnum (a : DA) : DI := fun ρ S P => a ρ S fun xs S1 => match xs with
  | [x] => match seqOf S1 x with
    | some ds => P (enumD 0 ds) (pinOf S1 x) S1
    | none => False
  | _ => False
def dEnum2 (a : DA) : DI := fun ρ S P => a ρ S fun xs S1 => match xs with
  | [x, .int k] => match seqOf S1 x with
    | some ds => (-(2 ^ 63) ≤ k ∧ k < 2 ^ 63) ∧ P (enumD k ds) (pinOf S1 x) S1
    | none => False
  | _ => False
theorem zipD_get {as bs : List D} {i : Nat} {d : D} (h : (zipD as bs)[i]? = some d) : ∃ x y, as[i]? = some x ∧ bs[i]? = some y ∧ d = .tup [x, y] := by
  unfold zipD at h
  rw [List.getElem?_zipWith] at h
  cases e1 : as[i]? with
  | none => simp [e1] at h
  | some x =>
    cases e2 : bs[i]? with
    | none => simp [e1, e2] at h
    | some y =>
      simp only [e1, e2, Option.some.injEq] at h
      exact ⟨x, y, rfl, rfl, h.symm⟩
/-- both stay -/
def pin2 : Option (Store → Prop) → Option (Store → Prop) → Option (Store → Prop)
  | none, q => q
  | p, none => p
  | some p, some q => some fun S => p S ∧ q S
theorem pin2_ok {p q : Option (Store → Prop)} {S : Store} (h : PinOk (pin2 p q) S) : PinOk p S ∧ PinOk q S := by
  cases p with
  | none => exact ⟨trivial, h⟩
  | some p =>
    cases q with
    | none => exact ⟨h, trivial⟩
    | some q => exact h
theorem itz_ok {st : Bool} {K : PySem.W.Frag} {I : Hp} {b1 b2 : Bool} {a b : Addr} {as bs : List D} {p1 p2 : Option (Store → Prop)} (h1 : ∀ I2 S F H, Same I I2 → Ok K I2 S F H → PinOk p1 S → ∃ xs, Sq b1 K H a xs ∧ RepL K I2 as xs) (h2 : ∀ I2 S F H, Same I I2 → Ok K I2 S F H → PinOk p2 S → ∃ ys, Sq b2 K H b ys ∧ RepL K I2 bs ys)
    (hst : st = true → as.length = bs.length) : ItOk K I (ItZ st b1 b2 K a b) (zipD as bs) (pin2 p1 p2) where
  go I2 S F H e ok pk i d hd := by
    obtain ⟨x, y, ex, ey, rfl⟩ := zipD_get hd
    obtain ⟨xs, q1, r1⟩ := h1 I2 S F H e ok (pin2_ok pk).1
    obtain ⟨ys, q2, r2⟩ := h2 I2 S F H e ok (pin2_ok pk).2
    obtain ⟨v, ev, rv⟩ := r1.get ex
    obtain ⟨u, eu, ru⟩ := r2.get ey
    refine ⟨⟨xs, ys, v, u, q1, q2, ev, eu⟩, fun z H' hy => ?_⟩
    obtain ⟨T, x0, y0, rfl, nT, rfl, f1, f2⟩ := hy
    have e1 := f1 xs q1
    have e2 := f2 ys q2
    rw [ev] at e1; rw [eu] at e2
    cases e1; cases e2
    exact ⟨upd I2 T (.tup [v, u]), same_new (ok.freshI nT), ok.newI nT, rep_tup2 (ok.freshI nT) rv ru⟩
  stop I2 S F H e ok pk i hi := by
    obtain ⟨xs, q1, r1⟩ := h1 I2 S F H e ok (pin2_ok pk).1
    obtain ⟨ys, q2, r2⟩ := h2 I2 S F H e ok (pin2_ok pk).2
    have l1 := r1.len
    have l2 := r2.len
    simp only [zipD, List.length_zipWith] at hi
    exact ⟨xs, ys, q1, q2, by omega, by omega, by omega, fun q => by have := hst q; omega⟩
def dZip (a : DA) : DI := fun ρ S P => a ρ S fun xs S1 => match xs with
  | [x, y] => match seqOf S1 x, seqOf S1 y with
    | some as, some bs => P (zipD as bs) (pin2 (pinOf S1 x) (pinOf S1 y)) S1
    | _, _ => False
  | _ => False
def dZipS (a : DA) : DI := fun ρ S P => a ρ S fun xs S1 => match xs with
  | [x, y] => match seqOf S1 x, seqOf S1 y with
    | some as, some bs => as.length = bs.length ∧ P (zipD as bs) (pin2 (pinOf S1 x) (pinOf S1 y)) S1
    | _, _ => False
  | _ => False
section
variable {X : Cx} {e e2 : Expr} {ds : DA} {p pos tpos kpos cpos : Pos} {elts : List Expr} {kk ck : Nat}
theorem ji_zip (hm : X.mg "zip" = none) (ha : JA X [e, e2] ds) (hg : Gl X "zip" := by rfl) (hs : starEach [e, e2] X.env = (false, eval e X.env) :: starEach [e2] X.env := by rfl) (hpl : (backTo pos (starEach [e2] X.env)).any (·.1) = false := by rfl) :
    JI X (.Tuple elts kk tpos) (.Call (.Name "zip" p) [e, e2] [] pos) (dZip ds) :=
  ji_of (pi_zA0 hg hm ha hs hpl) fun σ H R h0_ => El54 h0_ fun ρ I S F P rs ok hh q => ⟨ρ, I, S, F, _, rs, ok, hh, fun xs S1 v I1 H1 h1 e1 ok1 r1 => by
    split at h1
    · rename_i x y
      obtain ⟨v, u, rfl, rv, ru⟩ := r1.inv2
      split at h1
      · rename_i as bs e3 e4
        obtain ⟨b1, a, rfl, hs1⟩ := src_sq ok1 rv e3
        obtain ⟨b2, b, rfl, hs2⟩ := src_sq ok1 ru e4
        obtain ⟨xs, q1, _⟩ := hs1 _ _ _ _ (Same.refl _) ok1 (pin_self _ _)
        obtain ⟨ys, q2, _⟩ := hs2 _ _ _ _ (Same.refl _) ok1 (pin_self _ _)
        exact ⟨b1, b2, a, b, xs, ys, rfl, q1, q2, q _ _ _ _ _ _ h1 e1 ok1 (itz_ok hs1 hs2 (fun e => nomatch e))⟩
      · exact h1.elim
    · exact h1.elim⟩
theorem ji_zipS (hm : X.mg "zip" = none) (ha : JA X [e, e2] ds) (hg : Gl X "zip" := by rfl) (hs : starEach [e, e2] X.env = (false, eval e X.env) :: starEach [e2] X.env := by rfl) (hpl : (backTo pos (starEach [e2] X.env)).any (·.1) = false := by rfl) :
    JI X (.Tuple elts kk tpos) (.Call (.Name "zip" p) [e, e2] [⟨some "strict", .Constant (.bool true) ck cpos, kpos⟩] pos) (dZipS ds) :=
  ji_of (pi_zA1 hg hm ha (fun h => Constant_bool h) hs hpl) fun σ H R h0_ => El54 h0_ fun ρ I S F P rs ok hh q => ⟨ρ, I, S, F, _, rs, ok, hh, fun xs S1 v I1 H1 h1 e1 ok1 r1 => by
    split at h1
    · rename_i x y
      obtain ⟨v, u, rfl, rv, ru⟩ := r1.inv2
      split at h1
      · rename_i as bs e3 e4
        obtain ⟨hl, h1⟩ := h1
        obtain ⟨b1, a, rfl, hs1⟩ := src_sq ok1 rv e3
        obtain ⟨b2, b, rfl, hs2⟩ := src_sq ok1 ru e4
        obtain ⟨xs, q1, _⟩ := hs1 _ _ _ _ (Same.refl _) ok1 (pin_self _ _)
        obtain ⟨ys, q2, _⟩ := hs2 _ _ _ _ (Same.refl _) ok1 (pin_self _ _)
        exact ⟨b1, b2, a, b, xs, ys, rfl, q1, q2, q _ _ _ _ _ _ h1 e1 ok1 (itz_ok hs1 hs2 (fun _ => hl))⟩
      · exact h1.elim
    · exact h1.elim⟩
end
end DL

namespace DL
open PySem PySem.Spec PyProof.Rows L2

/-! ### is True, is False -/
def dIsB : D2 := fun x y S P => match x, y with
  | .bl a, .bl b => P (.bl (decide (a = b))) S
  | _, _ => False
def dNotB : D2 := fun x y S P => match x, y with
  | .bl a, .bl b => P (.bl (!decide (a = b))) S
  | _, _ => False
section
variable {X : Cx} {pos p : Pos} {a b : Expr} {da db : DE} {x : Str}
/-! ### a module's constants -/
theorem je_globC {v : V} {u : Value} {d : D} (hm : X.mg x = some u) (r : RelV v u) (hd : ∀ I, Rep X.K I d v) (hg : Gl X x := by rfl) (hdb : (x == ("__debug__" : Str)) = false := by decide) : JE X (.Name x p) (dC d) :=
  je_of (pe_glob hg hm r hdb) fun σ H Q h0_ => El54 h0_ fun ρ I S F P rs ok h q => q _ _ _ _ _ h (Same.refl I) ok (hd I)
theorem je_cI {i : Int} (h : ∃ t, X.mg x = some (.int i t)) (hg : Gl X x := by rfl) (hdb : (x == ("__debug__" : Str)) = false := by decide) : JE X (.Name x p) (dC (.int i)) := by
  obtain ⟨t, h⟩ := h
  exact je_globC (v := .int i) h ⟨t, rfl⟩ (fun I => rep_int) hg hdb
end

/-! ### repr -/
mutual
def pyD : D → Option PyData
  | .non => some .none
  | .bl b => some (.bool b)
  | .int i => some (.int i)
  | .str x => some (.str x)
  | .lst ds => (pyDL ds).map .list
  | .ext ds => (pyDL ds).map .list
  | .tup ds => (pyDL ds).map .tuple
  | .tq _ => none
  | .ty _ => none
  | .obj _ => none
def pyDL : List D → Option (List PyData)
  | [] => some []
  | d :: ds => (pyD d).bind fun p => (pyDL ds).map (p :: ·)
end
section
variable {X : Cx} {pins : List (Addr × Obj)} {σ : L2.St} {H I F : Hp} {s : Shared} {S : Store}
mutual
theorem reads_of (J : Inv X pins σ H s) (ok : Ok X.K I S F H) : ∀ (x : D) (v : V) (u : Value) (p : PyData), Rep X.K I x v → RelV v u → pyD x = some p → ∃ as, Reads s.heap u p as
  | .non, v, u, p, r, rv, h => by
    simp only [pyD, Option.some.injEq] at h; subst h
    cases r.non_of; cases (show u = Value.none from rv)
    exact ⟨_, .none⟩
  | .bl b, v, u, p, r, rv, h => by
    simp only [pyD, Option.some.injEq] at h; subst h
    cases r.bl_of; cases (show u = Value.bool b from rv)
    exact ⟨_, .bool b⟩
  | .int i, v, u, p, r, rv, h => by
    simp only [pyD, Option.some.injEq] at h; subst h
    cases r.int_of; obtain ⟨t, rfl⟩ := rv
    exact ⟨_, .int i t⟩
  | .str z, v, u, p, r, rv, h => by
    simp only [pyD, Option.some.injEq] at h; subst h
    cases r.str_of; obtain ⟨t, rfl⟩ := rv
    exact ⟨_, .str z t⟩
  | .lst ds, v, u, p, r, rv, h => by
    simp only [pyD, Option.map_eq_some_iff] at h
    obtain ⟨ps, h, rfl⟩ := h
    obtain ⟨a, xs, rfl, e, rl⟩ := r.lst_of
    cases rv
    obtain ⟨its, q, ⟨o, n, e1, e2, _, e3⟩, _⟩ := J.list (.of (ok.i _ _ e))
    obtain ⟨as, ra⟩ := reads_ofL J ok ds xs its ps rl q h
    exact ⟨_, .list e1 e2 e3 (by simpa using ra)⟩
  | .ext ds, v, u, p, r, rv, h => by
    simp only [pyD, Option.map_eq_some_iff] at h
    obtain ⟨ps, h, rfl⟩ := h
    obtain ⟨a, xs, rfl, e, rl⟩ := r.ext_of
    cases rv
    obtain ⟨its, q, ⟨o, n, e1, e2, _, e3⟩, _⟩ := J.list (ok.same.seq e)
    obtain ⟨as, ra⟩ := reads_ofL J ok ds xs its ps rl q h
    exact ⟨_, .list e1 e2 e3 (by simpa using ra)⟩
  | .tup ds, v, u, p, r, rv, h => by
    simp only [pyD, Option.map_eq_some_iff] at h
    obtain ⟨ps, h, rfl⟩ := h
    obtain ⟨a, xs, rfl, e, rl⟩ := r.tup_of
    cases rv
    obtain ⟨its, q, ⟨o, e1, e2, n, e3⟩, _⟩ := J.tuple (sqT_same ok.same e)
    obtain ⟨as, ra⟩ := reads_ofL J ok ds xs its ps rl q h
    exact ⟨_, .tuple e1 e2 e3 (by simpa using ra)⟩
  | .ty _, _, _, _, _, _, h => by simp [pyD] at h
  | .tq _, _, _, _, _, _, h => by simp [pyD] at h
  | .obj _, _, _, _, _, _, h => by simp [pyD] at h
theorem reads_ofL (J : Inv X pins σ H s) (ok : Ok X.K I S F H) : ∀ (ds : List D) (vs : List V) (us : List Value) (ps : List PyData), RepL X.K I ds vs → Vals vs us → pyDL ds = some ps → ∃ as, ReadsAll s.heap us ps as
  | [], vs, us, ps, r, rv, h => by
    simp only [pyDL, Option.some.injEq] at h; subst h
    simp only [RepL] at r; subst r
    cases rv
    exact ⟨_, .nil⟩
  | d :: ds, vs, us, ps, r, rv, h => by
    simp only [pyDL, Option.bind_eq_some_iff, Option.map_eq_some_iff] at h
    obtain ⟨p, h1, ps', h2, rfl⟩ := h
    simp only [RepL] at r
    obtain ⟨v, vs', rfl, r1, r2⟩ := r
    cases rv with
    | cons q qs =>
      obtain ⟨as, ra⟩ := reads_of J ok d v _ p r1 q h1
      obtain ⟨bs, rb⟩ := reads_ofL J ok ds vs' _ ps' r2 qs h2
      exact ⟨_, .cons ra rb⟩
end
mutual
theorem pyD_noDict : ∀ (x : D) (p : PyData), pyD x = some p → p.hasDict = false
  | .non, p, h => by simp only [pyD, Option.some.injEq] at h; subst h; rfl
  | .bl b, p, h => by simp only [pyD, Option.some.injEq] at h; subst h; rfl
  | .int i, p, h => by simp only [pyD, Option.some.injEq] at h; subst h; rfl
  | .str z, p, h => by simp only [pyD, Option.some.injEq] at h; subst h; rfl
  | .lst ds, p, h => by
    simp only [pyD, Option.map_eq_some_iff] at h
    obtain ⟨ps, h, rfl⟩ := h
    simp only [PyData.hasDict]; exact pyDL_noDict ds ps h
  | .ext ds, p, h => by
    simp only [pyD, Option.map_eq_some_iff] at h
    obtain ⟨ps, h, rfl⟩ := h
    simp only [PyData.hasDict]; exact pyDL_noDict ds ps h
  | .tup ds, p, h => by
    simp only [pyD, Option.map_eq_some_iff] at h
    obtain ⟨ps, h, rfl⟩ := h
    simp only [PyData.hasDict]; exact pyDL_noDict ds ps h
  | .ty _, _, h => by simp [pyD] at h
  | .tq _, _, h => by simp [pyD] at h
  | .obj _, _, h => by simp [pyD] at h
theorem pyDL_noDict : ∀ (ds : List D) (ps : List PyData), pyDL ds = some ps → PyData.hasDictAll ps = false
  | [], ps, h => by simp only [pyDL, Option.some.injEq] at h; subst h; rfl
  | d :: ds, ps, h => by
    simp only [pyDL, Option.bind_eq_some_iff, Option.map_eq_some_iff] at h
    obtain ⟨p, h1, ps', h2, rfl⟩ := h
    simp only [PyData.hasDictAll, pyD_noDict d p h1, pyDL_noDict ds ps' h2, Bool.or_false]
end
end
/-- what repr tells, with depth and length at most -/
structure Rp (d c : Nat) (x : D) (p : PyData) : Prop where
  e : pyD x = some p
  s : p.showable = true
  d : p.depth ≤ d
  c : p.shown.length ≤ c
def Rpd (d c : Nat) (x : D) : Prop := ∃ p, Rp d c x p
theorem Rpd.mono {d c d' c' : Nat} {x : D} (h : Rpd d c x) (h1 : d ≤ d') (h2 : c ≤ c') : Rpd d' c' x := by
  obtain ⟨p, h⟩ := h
  exact ⟨p, h.e, h.s, Nat.le_trans h.d h1, Nat.le_trans h.c h2⟩
theorem rp_int {i : Int} (h : i.natAbs < 10 ^ 12) : Rpd 1 13 (.int i) := ⟨.int i, by simp [pyD], by
  simp only [PyData.showable, decide_eq_true_eq]
  have : i.natAbs.log2 < 64 := PySem.Flt.log2_lt_of (by decide) (show i.natAbs < 2 ^ 64 by omega)
  omega, by simp [PyData.depth], PyData.shown_int_le h⟩
end DL
namespace DL
open PySem PySem.Spec PyProof.Rows L2
section
variable {X : Cx} {pos : Pos} {a b c : Expr} {da db dc : DE} {op op' : CmpOp} {r r' : R2} {o o' : D2}
theorem je_chain (ho : OpR X (compareOp op) r) (ho' : OpR X (compareOp op') r') (i : Imp2 X.K r o) (i' : Imp2 X.K r' o') (ha : JE X a da) (hb : JE X b db) (hc : JE X c dc)
    (hm : lastMarks [op, op'] [b, c] = false := by with_unfolding_all rfl) : JE X (.Compare a [op, op'] [b, c] pos) (dChainR o o' da db dc) := je_of (pe_chain ho ho' ha hb hc hm) (up_chain i i')
end
end DL
namespace DL
open PySem PySem.Spec PyProof.Rows L2
def dPar3 (i j l : Nat) (a : DA) : DS := fun DD ρ S => a ρ S fun xs S1 => match xs with
  | [x, y, z] => DD.nx (((ρ.set i (some x)).set j (some y)).set l (some z)) S1
  | _ => False
theorem js_par3 (i j l : Nat) {X : Cx} {pos : Pos} {x y z : Str} {a b c : Expr} {da : DA} {px py pz pt : Pos} {kt k2 pt2} (hc : X.calm = true) (hN : X.N.Nodup) (hi : X.N[i]? = some x) (hj : X.N[j]? = some y) (hl : X.N[l]? = some z) (hij : i ≠ j) (hil : i ≠ l) (hjl : j ≠ l)
    (hx : X.env.scope.names.lookup x = some .local) (hy : X.env.scope.names.lookup y = some .local) (hz : X.env.scope.names.lookup z = some .local) (ha : JA X [a, b, c] da)
    (hw : swappedStores [.Tuple [.Name x px, .Name y py, .Name z pz] kt pt] (.Tuple [a, b, c] k2 pt2) X.env = pure (some [x, y, z]))
    (hs : swapsWithSole [.Tuple [.Name x px, .Name y py, .Name z pz] kt pt] (.Tuple [a, b, c] k2 pt2) pos.line X.env = pure false := by rfl) :
    JS X (.Assign [.Tuple [.Name x px, .Name y py, .Name z pz] kt pt] (.Tuple [a, b, c] k2 pt2) pos) (dPar3 i j l da) :=
  js_of (ps_par3 hc hN hi hj hl hij hil hjl hx hy hz ha hw hs) fun D σ H h0_ => El54 h0_ fun ρ I S F DD rs ok h q => ⟨ρ, I, S, F, _, rs, ok, h, fun xs S1 vs I1 H1 h1 e1 ok1 r1 => by
    unfold dPar3 at *
    split at h1
    · obtain ⟨v, w, u, rfl, rv, rw, ru⟩ := r1.inv3
      exact ⟨v, w, u, rfl, q.nx _ _ _ _ _ h1 e1 ok1 ((((rs.mono e1).set i rv).set j rw).set l ru)⟩
    · exact h1.elim⟩
end DL
namespace DL
open PySem PySem.Spec PyProof.Rows L2
/-! ### isinstance of data -/
theorem isi_non_int  {S : Store} {P : D → Store → Prop} : cIsi [.non, .ty "int"] S P = P (.bl false) S := propext ⟨fun h => h.2, fun h => ⟨by decide, h⟩⟩
theorem isi_non_bool  {S : Store} {P : D → Store → Prop} : cIsi [.non, .ty "bool"] S P = P (.bl false) S := propext ⟨fun h => h.2, fun h => ⟨by decide, h⟩⟩
theorem isi_non_str  {S : Store} {P : D → Store → Prop} : cIsi [.non, .ty "str"] S P = P (.bl false) S := propext ⟨fun h => h.2, fun h => ⟨by decide, h⟩⟩
theorem isi_non_list  {S : Store} {P : D → Store → Prop} : cIsi [.non, .ty "list"] S P = P (.bl false) S := propext ⟨fun h => h.2, fun h => ⟨by decide, h⟩⟩
theorem isi_non_tuple  {S : Store} {P : D → Store → Prop} : cIsi [.non, .ty "tuple"] S P = P (.bl false) S := propext ⟨fun h => h.2, fun h => ⟨by decide, h⟩⟩
theorem isi_non_lt  {S : Store} {P : D → Store → Prop} : cIsi [.non, .tup [.ty "list", .ty "tuple"]] S P = P (.bl false) S := rfl
theorem isi_bl_int {k : Bool} {S : Store} {P : D → Store → Prop} : cIsi [(.bl k), .ty "int"] S P = P (.bl true) S := propext ⟨fun h => h.2, fun h => ⟨by decide, h⟩⟩
theorem isi_bl_bool {k : Bool} {S : Store} {P : D → Store → Prop} : cIsi [(.bl k), .ty "bool"] S P = P (.bl true) S := propext ⟨fun h => h.2, fun h => ⟨by decide, h⟩⟩
theorem isi_bl_str {k : Bool} {S : Store} {P : D → Store → Prop} : cIsi [(.bl k), .ty "str"] S P = P (.bl false) S := propext ⟨fun h => h.2, fun h => ⟨by decide, h⟩⟩
theorem isi_bl_list {k : Bool} {S : Store} {P : D → Store → Prop} : cIsi [(.bl k), .ty "list"] S P = P (.bl false) S := propext ⟨fun h => h.2, fun h => ⟨by decide, h⟩⟩
theorem isi_bl_tuple {k : Bool} {S : Store} {P : D → Store → Prop} : cIsi [(.bl k), .ty "tuple"] S P = P (.bl false) S := propext ⟨fun h => h.2, fun h => ⟨by decide, h⟩⟩
theorem isi_bl_lt {k : Bool} {S : Store} {P : D → Store → Prop} : cIsi [(.bl k), .tup [.ty "list", .ty "tuple"]] S P = P (.bl false) S := rfl
theorem isi_int_int {i : Int} {S : Store} {P : D → Store → Prop} : cIsi [(.int i), .ty "int"] S P = P (.bl true) S := propext ⟨fun h => h.2, fun h => ⟨by decide, h⟩⟩
theorem isi_int_bool {i : Int} {S : Store} {P : D → Store → Prop} : cIsi [(.int i), .ty "bool"] S P = P (.bl false) S := propext ⟨fun h => h.2, fun h => ⟨by decide, h⟩⟩
theorem isi_int_str {i : Int} {S : Store} {P : D → Store → Prop} : cIsi [(.int i), .ty "str"] S P = P (.bl false) S := propext ⟨fun h => h.2, fun h => ⟨by decide, h⟩⟩
theorem isi_int_list {i : Int} {S : Store} {P : D → Store → Prop} : cIsi [(.int i), .ty "list"] S P = P (.bl false) S := propext ⟨fun h => h.2, fun h => ⟨by decide, h⟩⟩
theorem isi_int_tuple {i : Int} {S : Store} {P : D → Store → Prop} : cIsi [(.int i), .ty "tuple"] S P = P (.bl false) S := propext ⟨fun h => h.2, fun h => ⟨by decide, h⟩⟩
theorem isi_int_lt {i : Int} {S : Store} {P : D → Store → Prop} : cIsi [(.int i), .tup [.ty "list", .ty "tuple"]] S P = P (.bl false) S := rfl
theorem isi_str_int {z : Str} {S : Store} {P : D → Store → Prop} : cIsi [(.str z), .ty "int"] S P = P (.bl false) S := propext ⟨fun h => h.2, fun h => ⟨by decide, h⟩⟩
theorem isi_str_bool {z : Str} {S : Store} {P : D → Store → Prop} : cIsi [(.str z), .ty "bool"] S P = P (.bl false) S := propext ⟨fun h => h.2, fun h => ⟨by decide, h⟩⟩
theorem isi_str_str {z : Str} {S : Store} {P : D → Store → Prop} : cIsi [(.str z), .ty "str"] S P = P (.bl true) S := propext ⟨fun h => h.2, fun h => ⟨by decide, h⟩⟩
theorem isi_str_list {z : Str} {S : Store} {P : D → Store → Prop} : cIsi [(.str z), .ty "list"] S P = P (.bl false) S := propext ⟨fun h => h.2, fun h => ⟨by decide, h⟩⟩
theorem isi_str_tuple {z : Str} {S : Store} {P : D → Store → Prop} : cIsi [(.str z), .ty "tuple"] S P = P (.bl false) S := propext ⟨fun h => h.2, fun h => ⟨by decide, h⟩⟩
theorem isi_str_lt {z : Str} {S : Store} {P : D → Store → Prop} : cIsi [(.str z), .tup [.ty "list", .ty "tuple"]] S P = P (.bl false) S := rfl
theorem isi_lst_int {ds : List D} {S : Store} {P : D → Store → Prop} : cIsi [(.lst ds), .ty "int"] S P = P (.bl false) S := propext ⟨fun h => h.2, fun h => ⟨by decide, h⟩⟩
theorem isi_lst_bool {ds : List D} {S : Store} {P : D → Store → Prop} : cIsi [(.lst ds), .ty "bool"] S P = P (.bl false) S := propext ⟨fun h => h.2, fun h => ⟨by decide, h⟩⟩
theorem isi_lst_str {ds : List D} {S : Store} {P : D → Store → Prop} : cIsi [(.lst ds), .ty "str"] S P = P (.bl false) S := propext ⟨fun h => h.2, fun h => ⟨by decide, h⟩⟩
theorem isi_lst_list {ds : List D} {S : Store} {P : D → Store → Prop} : cIsi [(.lst ds), .ty "list"] S P = P (.bl true) S := propext ⟨fun h => h.2, fun h => ⟨by decide, h⟩⟩
theorem isi_lst_tuple {ds : List D} {S : Store} {P : D → Store → Prop} : cIsi [(.lst ds), .ty "tuple"] S P = P (.bl false) S := propext ⟨fun h => h.2, fun h => ⟨by decide, h⟩⟩
theorem isi_lst_lt {ds : List D} {S : Store} {P : D → Store → Prop} : cIsi [(.lst ds), .tup [.ty "list", .ty "tuple"]] S P = P (.bl true) S := rfl
theorem isi_tup_int {ds : List D} {S : Store} {P : D → Store → Prop} : cIsi [(.tup ds), .ty "int"] S P = P (.bl false) S := propext ⟨fun h => h.2, fun h => ⟨by decide, h⟩⟩
theorem isi_tup_bool {ds : List D} {S : Store} {P : D → Store → Prop} : cIsi [(.tup ds), .ty "bool"] S P = P (.bl false) S := propext ⟨fun h => h.2, fun h => ⟨by decide, h⟩⟩
theorem isi_tup_str {ds : List D} {S : Store} {P : D → Store → Prop} : cIsi [(.tup ds), .ty "str"] S P = P (.bl false) S := propext ⟨fun h => h.2, fun h => ⟨by decide, h⟩⟩
theorem isi_tup_list {ds : List D} {S : Store} {P : D → Store → Prop} : cIsi [(.tup ds), .ty "list"] S P = P (.bl false) S := propext ⟨fun h => h.2, fun h => ⟨by decide, h⟩⟩
theorem isi_tup_tuple {ds : List D} {S : Store} {P : D → Store → Prop} : cIsi [(.tup ds), .ty "tuple"] S P = P (.bl true) S := propext ⟨fun h => h.2, fun h => ⟨by decide, h⟩⟩
theorem isi_tup_lt {ds : List D} {S : Store} {P : D → Store → Prop} : cIsi [(.tup ds), .tup [.ty "list", .ty "tuple"]] S P = P (.bl true) S := rfl
end DL
namespace DL
open PySem PySem.Spec PyProof.Rows L2
def dLcM (di : DI) (t : Tgt) (tt : DT) (de : DE) : DE := fun ρ S P => dLc di t tt de ρ S fun x S1 => match x with
  | .lst acc => ∀ p, S1 p = none → P (.obj p) (supd S1 p (.lst acc))
  | _ => False
section
variable {X : Cx} {pos : Pos}
end
end DL

namespace DL
open PySem PySem.Spec PyProof.Rows L2

/-! ### list(range(..)), tuple(range(..)) -/
def dLstR1 (a : DE) : DE := fun ρ S P => a ρ S fun x S1 => match x with
  | .int j => RgOk 0 j ∧ P (.lst (rng 0 j.toNat)) S1
  | _ => False
def dLstR2 (a b : DE) : DE := fun ρ S P => a ρ S fun x S1 => b ρ S1 fun y S2 => match x, y with
  | .int i, .int j => RgOk i j ∧ P (.lst (rng i (j - i).toNat)) S2
  | _, _ => False
def dLstR1M (a : DE) : DE := fun ρ S P => a ρ S fun x S1 => match x with
  | .int j => RgOk 0 j ∧ ∀ l, S1 l = none → P (.obj l) (supd S1 l (.lst (rng 0 j.toNat)))
  | _ => False
theorem repL_map {K : PySem.W.Frag} {I : Hp} {α : Type} {f : α → D} {g : α → V} (h : ∀ x, Rep K I (f x) (g x)) : ∀ l : List α, RepL K I (l.map f) (l.map g)
  | [] => RepL.nil
  | x :: r => RepL.cons (h x) (repL_map h r)
theorem repL_rng {K : PySem.W.Frag} {I : Hp} (a b : Int) : RepL K I (rng a (b - a).toNat) (rgV a b) := repL_map (fun _ => rep_int) _
section
variable {X : Cx} {pos p p2 pos2 : Pos} {a b : Expr} {da db : DE}
theorem je_listR1M (hm : X.mg "list" = none) (hm2 : X.mg "range" = none) (ha : JE X a da) (hc : X.calm = true := by rfl) (hg : Gl X "list" := by rfl) (hg2 : Gl X "range" := by rfl) (hs : starEach [a] X.env = (false, eval a X.env) :: starEach [] X.env := by rfl) :
    JE X (.Call (.Name "list" p) [.Call (.Name "range" p2) [a] [] pos2] [] pos) (dLstR1M da) :=
  je_of (pe_listRg hc hg hm (prg_1 hg2 hm2 ha hs)) fun σ H Q h0_ => El54 h0_ fun ρ I S F P rs ok h q => ⟨ρ, I, S, F, _, rs, ok, h, fun x S1 v I1 H1 h1 e1 ok1 r1 => by
    split at h1
    · rename_i j
      cases r1.int_of
      have rl : RepL X.K I1 (rng 0 j.toNat) (rgV 0 j) := by
        have := repL_rng (K := X.K) (I := I1) 0 j
        rwa [Int.sub_zero] at this
      exact ⟨_, rfl, h1.1, fun l hl => q _ _ _ _ _ (h1.2 l (ok1.freshS hl)) e1 (ok1.newM hl rl) (by simp only [Rep])⟩
    · exact h1.elim⟩
end

section
variable {X : Cx} {pos : Pos} {a b : Expr} {da db : DE}
end
end DL

namespace DL
open PySem PySem.Spec PyProof.Rows L2

/-! ### two fors in a comprehension -/
theorem But.wipe_sub {ts vs : List Nat} {σ σ2 : L2.St} (h : But ts (L2.wipe σ vs) σ2) (sub : ∀ i, i ∈ ts → i ∈ vs) : L2.wipe σ2 vs = L2.wipe σ vs := by
  apply List.ext_getElem?
  intro j
  have hl := h.1
  rw [L2.wipe_length] at hl
  rw [wipe_get, wipe_get, hl]
  split
  · rfl
  · rename_i hj
    rw [h.2 j fun z => hj (sub j z), wipe_get, if_neg hj]
def dLc2 (di : DI) (t : Tgt) (tt : DT) (di1 : DI) (t1 : Tgt) (tt1 : DT) (de : DE) : DE := fun ρ S P => di ρ S fun ds pin S1 =>
  ∃ W : Nat → List D → Store → Prop, W 0 [] S1 ∧ (∀ i acc S, W i acc S → PinOk pin S) ∧
  (∀ i d acc S, ds[i]? = some d → W i acc S → ∃ ρ', t.put d (dwipe ρ (t.slots ++ t1.slots)) = some ρ' ∧ tt ρ' S fun b S2 => if b = true then di1 ρ' S2 fun ds1 pin1 S3 =>
    ∃ W1 : Nat → List D → Store → Prop, W1 0 acc S3 ∧ (∀ j acc S, W1 j acc S → PinOk pin1 S) ∧
      (∀ j d1 acc1 S4, ds1[j]? = some d1 → W1 j acc1 S4 → ∃ ρ'', t1.put d1 (dwipe ρ' t1.slots) = some ρ'' ∧ tt1 ρ'' S4 fun b S5 => if b = true then de ρ'' S5 fun y S6 => acc1.length < 100000 ∧ W1 (j + 1) (acc1 ++ [y]) S6 else W1 (j + 1) acc1 S5) ∧
      ∀ acc1 S4, W1 ds1.length acc1 S4 → W (i + 1) acc1 S4
    else W (i + 1) acc S2) ∧ ∀ acc S, W ds.length acc S → P (.lst acc) S
theorem up_lc2 {X : Cx} {di di1 : DI} {t t1 : Tgt} {tt tt1 : DT} {de : DE} : ∀ σ H Q, upE X.K (dLc2 di t tt di1 t1 tt1 de) σ H Q → tLc2 (upI X.K di) (upG X.K t) (upT X.K tt) (upI X.K di1) (upG X.K t1) (upT X.K tt1) (upE X.K de) (t.slots ++ t1.slots) t1.slots σ H Q := fun σ H Q h0_ => El54 h0_ fun ρ I S F P rs ok h q => by
  refine ⟨ρ, I, S, F, _, rs, ok, h, fun ds pin S1 I1 H1 J hB e1 ok1 it => fun Dd hD => ?_⟩
  obtain ⟨W, w0, hpin, turn, fin⟩ := hB
  refine ⟨fun i m H => m + i = ds.length ∧ ∃ I' S' acc vs, Same I1 I' ∧ Ok X.K I' S' (upd F Dd (.lst vs)) H ∧ RepL X.K I' acc vs ∧ W i acc S', ⟨ds.length, by simp, I1, S1, [], [], Same.refl I1, ok1.newF hD ⟨fun y z => (by cases z), fun y z => (by cases z)⟩, RepL.nil, w0⟩, ?_⟩
  rintro i m H2 ⟨em, I2, S2, acc, vs, e2, ok2, rl, w2⟩
  by_cases hi : i < ds.length
  · refine .inr ?_
    obtain ⟨g1, g2⟩ := it.go I2 S2 _ H2 e2 ok2 (hpin _ _ _ w2) i ds[i] (List.getElem?_eq_getElem hi)
    obtain ⟨ρ3, hput, hbody⟩ := turn i ds[i] acc S2 (List.getElem?_eq_getElem hi) w2
    refine ⟨g1, fun H' => ∃ I' S' acc vs, Same I1 I' ∧ Ok X.K I' S' (upd F Dd (.lst vs)) H' ∧ RepL X.K I' acc vs ∧ W (i + 1) acc S', fun H' h => ⟨m - 1, by omega, by omega, h⟩, fun x H3 hy => ?_⟩
    obtain ⟨I3, e3, ok3, r3⟩ := g2 x H3 hy
    refine ⟨dwipe ρ (t.slots ++ t1.slots), ρ3, I3, S2, _, ds[i], ((rs.mono e1).mono (e2.trans e3)).wipe _, ok3, r3, hput, fun σ3 rs3 b3 => ⟨b3.wipe_sub fun i hi => List.mem_append_left _ hi, ?_⟩⟩
    refine ⟨ρ3, I3, S2, _, _, rs3, ok3, hbody, fun b S4 I4 H4 h4 e4 ok4 => ?_⟩
    cases b with
    | true =>
      rw [if_pos rfl] at h4 ⊢
      refine ⟨ρ3, I4, S4, _, _, rs3.mono e4, ok4, h4, fun ds1 pin1 S5 I5 H5 J1 h5 e5 ok5 it1 => ?_⟩
      obtain ⟨W1, v0, vpin, vturn, vfin⟩ := h5
      refine ⟨fun j k H => k + j = ds1.length ∧ ∃ I' S' acc vs, Same I5 I' ∧ Ok X.K I' S' (upd F Dd (.lst vs)) H ∧ RepL X.K I' acc vs ∧ W1 j acc S', ⟨ds1.length, by simp, I5, S5, acc, vs, Same.refl I5, ok5, rl.mono ((e3.trans e4).trans e5), v0⟩, ?_⟩
      rintro j k H6 ⟨ek, I6, S6, acc6, vs6, e6, ok6, rl6, w6⟩
      by_cases hj : j < ds1.length
      · refine .inr ?_
        obtain ⟨g3, g4⟩ := it1.go I6 S6 _ H6 e6 ok6 (vpin _ _ _ w6) j ds1[j] (List.getElem?_eq_getElem hj)
        obtain ⟨ρ7, hput7, hbody7⟩ := vturn j ds1[j] acc6 S6 (List.getElem?_eq_getElem hj) w6
        refine ⟨g3, fun H' => ∃ I' S' acc vs, Same I5 I' ∧ Ok X.K I' S' (upd F Dd (.lst vs)) H' ∧ RepL X.K I' acc vs ∧ W1 (j + 1) acc S', fun H' h => ⟨k - 1, by omega, by omega, h⟩, fun x H7 hy7 => ?_⟩
        obtain ⟨I7, e7, ok7, r7⟩ := g4 x H7 hy7
        refine ⟨dwipe ρ3 t1.slots, ρ7, I7, S6, _, ds1[j], (rs3.mono (((e4.trans e5).trans e6).trans e7)).wipe _, ok7, r7, hput7, fun σ7 rs7 b7 => ⟨b7.wipe_sub fun i hi => hi, ?_⟩⟩
        refine ⟨ρ7, I7, S6, _, _, rs7, ok7, hbody7, fun b S8 I8 H8 h8 e8 ok8 => ?_⟩
        cases b with
        | true =>
          rw [if_pos rfl] at h8 ⊢
          refine ⟨ρ7, I8, S8, _, _, rs7.mono e8, ok8, h8, fun y S9 v I9 H9 h9 e9 ok9 r9 => ?_⟩
          have hF : (upd F Dd (.lst vs6)) Dd = some (.lst vs6) := upd_same
          refine ⟨vs6, (ok9.f Dd _ hF).1, ?_, I9, S9, acc6 ++ [y], vs6 ++ [v], (((e6.trans e7).trans e8).trans e9), ?_, (rl6.mono ((e7.trans e8).trans e9)).app (RepL.one r9), h9.2⟩
          · rw [rl6.len]
            have : (100000 : Nat) < sizeLine := by decide
            have := h9.1
            omega
          · have := ok9.writeF (o' := .lst (vs6 ++ [v])) hF ⟨fun y z => (by cases z), fun y z => (by cases z)⟩
            rwa [upd_upd] at this
        | false =>
          rw [if_neg Bool.false_ne_true] at h8 ⊢
          exact ⟨I8, S8, acc6, vs6, ((e6.trans e7).trans e8), ok8, rl6.mono (e7.trans e8), h8⟩
      · have e : j = ds1.length := by omega
        subst e
        exact .inl ⟨it1.stop I6 S6 _ H6 e6 ok6 (vpin _ _ _ w6) _ rfl, I6, S6, acc6, vs6, (((e2.trans e3).trans e4).trans e5).trans e6, ok6, rl6, vfin acc6 S6 w6⟩
    | false =>
      rw [if_neg Bool.false_ne_true] at h4 ⊢
      exact ⟨I4, S4, acc, vs, ((e2.trans e3).trans e4), ok4, rl.mono (e3.trans e4), h4⟩
  · have e : i = ds.length := by omega
    subst e
    refine .inl ⟨it.stop I2 S2 _ H2 e2 ok2 (hpin _ _ _ w2) _ rfl, ?_⟩
    have hF : (upd F Dd (.lst vs)) Dd = some (.lst vs) := upd_same
    have i2 : I2 Dd = none := (ok2.f Dd _ hF).2.1
    have ok3 := ok2.showF hF
    have ok4 : Ok X.K (upd I2 Dd (.lst vs)) S2 F H2 := by
      refine ⟨ok3.i, ok3.s, fun a x q => ?_⟩
      have ne : a ≠ Dd := fun z => by
        subst z
        rw [(ok1.freshF hD)] at q; cases q
      exact ok3.f a x (by show (if a = Dd then none else upd F Dd (.lst vs) a) = some x; rw [if_neg ne, upd_ne ne]; exact q)
    exact q _ _ _ _ _ (fin acc S2 w2) ((e1.trans e2).trans (same_new i2)) ok4 (rep_new_lst i2 rl)
section
variable {X : Cx} {pos : Pos}
theorem js_setLc2 (i : Nat) {y : Str} {py spos : Pos} {elt tg iter tg1 iter1 : Expr} {ifs ifs1 : List Expr} {scope : Scope} (own : List (Str × Nat)) {di di1 : DI} {t t1 : Tgt} {tt tt1 : DT} {de : DE} (ho : own.map (·.2) = t.slots ++ t1.slots) (hN : X.N.Nodup) (hy : X.N[i]? = some y) (hyl : X.env.scope.names.lookup y = some .local)
    (hsw : swapsWith (.ListComp elt [⟨tg, iter, ifs, 0⟩, ⟨tg1, iter1, ifs1, 0⟩] scope pos) (some (.Name y py)) spos.line X.env = pure true) (hi : JI X tg iter di) (ok : BlkOk X.N X.env.scope scope own)
    (hc : X.calm = true)
    (hg : ∀ (s : Shared) (H : Hp) (C : Addr) (cl : List (Str × Addr)) (fp : List Addr), JG (X.blk s H scope (compEnvC scope cl C X.env) fp) tg t) (ht : ∀ (s : Shared) (H : Hp) (C : Addr) (cl : List (Str × Addr)) (fp : List Addr), JTs (X.blk s H scope (compEnvC scope cl C X.env) fp) ifs tt)
    (hi1 : ∀ (s : Shared) (H : Hp) (C : Addr) (cl : List (Str × Addr)) (fp : List Addr), JI (X.blk s H scope (compEnvC scope cl C X.env) fp) tg1 iter1 di1)
    (hg1 : ∀ (s : Shared) (H : Hp) (C : Addr) (cl : List (Str × Addr)) (fp : List Addr), JG (X.blk s H scope (compEnvC scope cl C X.env) fp) tg1 t1) (ht1 : ∀ (s : Shared) (H : Hp) (C : Addr) (cl : List (Str × Addr)) (fp : List Addr), JTs (X.blk s H scope (compEnvC scope cl C X.env) fp) ifs1 tt1)
    (he : ∀ (s : Shared) (H : Hp) (C : Addr) (cl : List (Str × Addr)) (fp : List Addr), JE (X.blk s H scope (compEnvC scope cl C X.env) fp) elt de) (hs : ∀ x, foldedSetIterable iter X.env x = pure x := by intro _; rfl) (hs1 : ∀ env x, foldedSetIterable iter1 env x = pure x := by intro _ _; rfl) :
    JS X (.Assign [.Name y py] (.ListComp elt [⟨tg, iter, ifs, 0⟩, ⟨tg1, iter1, ifs1, 0⟩] scope pos) spos) (dSet i (dLc2 di t tt di1 t1 tt1 de)) :=
  js_of (ps_setLc2 (vs1 := t1.slots) hc hN hy hyl hsw hi ok (fun i hi => by rw [ho]; exact List.mem_append_right _ hi) hg ht hi1 hg1 ht1 he hs hs1) fun D σ H h0_ => El54 h0_ fun ρ I S F DD rs ok h q => by
    rw [ho]
    exact up_lc2 (X := X) σ H _ ⟨ρ, I, S, F, _, rs, ok, h, fun x S1 v I1 H1 h1 e1 ok1 r1 => q.nx _ _ _ _ _ h1 e1 ok1 ((rs.mono e1).set i r1)⟩

theorem lst_dp {K : PySem.W.Frag} {I F H : Hp} {S : Store} (ok : Ok K I S F H) {y : D} {w : V} {ps : List PyData} (r : Rep K I y w) (h : (lstOf S y).bind D.pyL = some ps) : Dp K H w (.list ps) := by
  cases e : lstOf S y with
  | none => rw [e] at h; cases h
  | some ds =>
    rw [e] at h
    obtain ⟨a, xs, rfl, hs, rl⟩ := lst_sq ok r e
    exact .lst hs (rep_dpL ok.same ds xs ps rl h)
variable {a b : Expr} {da db : DE}
end
end DL

/-! every other item of a tuple -/
namespace L2
open PySem PySem.Spec PyProof.Rows HT
section
variable {prog : Program} {w : World} {A : Around} {E : Value → Shared → Prop} {s : Shared}
end
section
variable {X : Cx}
end
section
end
end L2
namespace DL
open PySem PySem.Spec PyProof.Rows L2
end DL

namespace DL
open PySem PySem.Spec PyProof.Rows L2

/-! ### {'a': 1, ..}.get(x, y) of a written dict -/
def dictAt : List (Str × Int) → Str → Option Int
  | [], _ => none
  | (k, v) :: r, z => if k = z then some v else dictAt r z
theorem Ok.less {K : PySem.W.Frag} {I F F' H : Hp} {S : Store} (h : Ok K I S F' H) (le : ∀ a o, F a = some o → F' a = some o) : Ok K I S F H := ⟨h.i, h.s, fun a o e => h.f a o (le a o e)⟩
def dDispGet (kvs : List (Str × Int)) (dk dd : DE) : DE := fun ρ S P => dk ρ S fun x S1 => dd ρ S1 fun y S2 => match x with
  | .str z => (match dictAt kvs z with
    | some i => P (.int i) S2
    | none => P y S2)
  | _ => False
section
variable {X : Cx} {pos p1 apos cpos : Pos} {e f : Expr} {dk dd : DE}
variable {o a : Expr} {da db : DE} {pos : Pos}
end
end DL

namespace DL
open PySem PySem.Spec PyProof.Rows L2

section
variable {X : Cx} {e f : Expr} {ty tx : TE} {x : Str} {p1 apos cpos : Pos}
end
section
variable {X : Cx} {e f : Expr} {dk dd : DE} {x : Str} {p1 apos cpos : Pos}
end
end DL

namespace DL
open PySem PySem.Spec PyProof.Rows L2
/-! ### xs == ys of lists, also of those that change -/
def dEqL (neg : Bool) : D2 := fun x y S P => match (lstOf S x).bind D.pyL, (lstOf S y).bind D.pyL with
  | some ps, some qs => SeqAt.shaped (.list ps) = true ∧ SeqAt.shaped (.list qs) = true ∧ P (.bl (if neg then !PyData.eqv (.list ps) (.list qs) else PyData.eqv (.list ps) (.list qs))) S
  | _, _ => False
section
variable {X : Cx} {pos : Pos} {a b : Expr} {da db : DE}
theorem i_neL {K : PySem.W.Frag} : Imp2 K (rNeD K) (dEqL true) := by
  intro x y v w I S F H P Q ok rx ry h q
  unfold dEqL at h
  split at h
  · rename_i p ps e1 e2
    exact ⟨_, _, lst_dp ok rx e1, lst_dp ok ry e2, h.1, h.2.1, q _ _ _ _ _ h.2.2 (Same.refl I) ok rep_bl⟩
  · exact h.elim
theorem jt_neL {k : Nat} (hr : DG.RoomG k X.A) (ha : JE X a da) (hb : JE X b db) (hm : behindInMarks .NotEq b = false := by rfl) : JT X (.Compare a [.NotEq] [b] pos) (dTest (dOp (dEqL true) da db)) := jt_cmp (op_neD (by have := hr.r.un; omega)) i_neL ha hb hm
end
end DL

/-! Own classes: instances as things that change. -/
namespace DG
open PySem PySem.Spec PyProof.Rows L2
theorem RoomG.make {k : Nat} {A : Around} (h : RoomG (k + 1) A) (C : Addr) (us : List Value) (kw : List (Str × Value)) : RoomG k (A.under (.builtin "type.__call__" ⟨.ref C :: us, kw⟩)) :=
  ⟨h.r.make C us kw, by
    show pushGuards (Code.guards (.builtin "type.__call__" ⟨.ref C :: us, kw⟩)) A.guards = some []
    rw [h.g]; rfl⟩
section
variable {X : Cx} {CX : CXT} {k n : Nat} {f C : Addr} {fd : FuncData} {ps ks : List Str} {sp : Sp} {dvs : List V} {ds : List Value} {E : XK} {x m : Str} {p pos apos : Pos} {e o : Expr} {es : List Expr} {ta : TE} {t tk : TA} {kws : List Keyword} {g : List Value → List Value → List Value} {gV : List V → List V → List V}
/-- o.m(e, ..) -/
theorem pe_meth {pl : Sem Bool} (he : PE X o ta) (c : Cls X.K C) (hm : Meth X.K C m f) (F : FnG X.prog X.w X.K X.mg X.base CX k f fd ps sp) (hr : RoomG k X.A) (hb : Binds X.K fd ps ds) (hd : Vals dvs ds) (hx : Passes CX X E) (ha : PA X (e :: es) t)
    (hst : starEach (e :: es) X.env = (false, eval e X.env) :: starEach es X.env := by rfl) (hpl : (backTo pos (starEach es X.env)).any (·.1) = false := by rfl)
    (ht : eval (.Call (.Attribute o m apos) (e :: es) [] pos) X.env = (do
      let ov ← eval o X.env
      standAt apos.atName
      let (f, first) ← holding [ov] (getMethod ov m pl)
      callWith pos f first (backTo pos (starEach (e :: es) X.env)) (backToKw pos (keywordEach [] X.env))) := by rfl) :
    PE X (.Call (.Attribute o m apos) (e :: es) [] pos) (tMeth C m sp dvs E ta t) := by
  refine ⟨fun pins s σ H Q I h => ?_⟩
  refine PySem.W.methodCall_KW (pl := pl) (thn (he.run pins s σ H _ I h) fun u s1 ⟨x, H1, I1, rx, a, dx, fs, ex, ea, l, q⟩ => ?_) ht
  subst ex
  obtain rfl : u = Value.ref a := rx
  refine getmeth_ok I1 ea c hm l ?_
  refine PySem.W.callWith_K (first := [.ref a]) (h₀ := X.base) I.ok.mod.kin hm.kp (thn (ha.run pos pins s1 σ H1 _ I1 q) fun us s2 ⟨vs, H2, I2, r, q2⟩ => ⟨I2.kIn, ?_⟩) hst hpl
  exact run_fn (us := .ref a :: us) (vs := .ref a :: vs) F hr hb hd hx I2 (.cons rfl r) q2
/-- o.m() -/
theorem pe_meth0 {pl : Sem Bool} (he : PE X o ta) (c : Cls X.K C) (hm : Meth X.K C m f) (F : FnG X.prog X.w X.K X.mg X.base CX k f fd ps sp) (hr : RoomG k X.A) (hb : Binds X.K fd ps ds) (hd : Vals dvs ds) (hx : Passes CX X E)
    (ht : eval (.Call (.Attribute o m apos) [] [] pos) X.env = (do
      let ov ← eval o X.env
      standAt apos.atName
      let (f, first) ← holding [ov] (getMethod ov m pl)
      callWith pos f first (backTo pos (starEach [] X.env)) (backToKw pos (keywordEach [] X.env))) := by rfl) :
    PE X (.Call (.Attribute o m apos) [] [] pos) (tMeth C m sp dvs E ta tNil) := by
  refine ⟨fun pins s σ H Q I h => ?_⟩
  refine PySem.W.methodCall_KW (pl := pl) (thn (he.run pins s σ H _ I h) fun u s1 ⟨x, H1, I1, rx, a, dx, fs, ex, ea, l, q⟩ => ?_) ht
  subst ex
  obtain rfl : u = Value.ref a := rx
  refine getmeth_ok I1 ea c hm l ?_
  exact PySem.W.callWith_K0 (first := [.ref a]) I1.kIn hm.kp (run_fn (us := [.ref a]) (vs := [.ref a]) F hr hb hd hx I1 (.cons rfl .nil) q)
theorem run_make {pins : List (Addr × Obj)} {σ : L2.St} {H : Hp} {s : Shared} {Q : VK} {us : List Value} {vs : List V} (M : Mk X.K C f) (F : FnG X.prog X.w X.K X.mg X.base CX k f fd ps sp) (hr : RoomG (k + 1) X.A) (hb : Binds X.K fd ps ds) (hd : Vals dvs ds)
    (hx : Passes CX X E) (I : Inv X pins σ H s) (r : Vals vs us)
    (h : ∀ x dx, H x = none → H dx = none → dx ≠ x → sp (.ref x :: (vs ++ dvs)) (upd (upd H dx (.own x)) x (.ins C dx [])) (fun v H2 => v = .non ∧ Q (.ref x) H2) E) :
    wpAny (model X.prog X.w) X.A (call (.ref C) us) (EP X pins σ Q) X.xe s := by
  have hq := h (s.heap.objs.size + 1) s.heap.objs.size (I.hok.fresh (Nat.le_succ _)) (I.hok.fresh (Nat.le_refl _)) (Nat.ne_of_lt (Nat.lt_succ_self _))
  have I2 := Inv.made (C := C) I
  have r2 : Vals (V.ref (s.heap.objs.size + 1) :: (vs ++ dvs)) (Value.ref (s.heap.objs.size + 1) :: (us ++ ds)) := .cons rfl (r.append hd)
  have hl : (Value.ref (s.heap.objs.size + 1) :: us ++ ds).length = ps.length := by
    have e := r2.length
    rw [F.len _ _ _ _ hq] at e
    exact e.symm
  refine wpAny_call (make_map (f := f) I.kIn M.makes M.init (beq_iff_eq.mp M.fn) (codeAny_mono (F.run _ X.stack _ _ ⟨Value.ref (s.heap.objs.size + 1) :: us, []⟩ (Value.ref (s.heap.objs.size + 1) :: (us ++ ds)) _ _ E (hr.make C us [])
    (I2.env0.make C us []) (hb _ (Value.ref (s.heap.objs.size + 1) :: us) I2.kIn hl) r2 hq) fun r s' hq' => ?_))
  cases r with
  | error e => exact hx pins σ _ _ e s' I2 hq'
  | ok fl =>
    cases fl with
    | ret u =>
      obtain ⟨v, H', I3, rv, ev, q3⟩ := I2.after hq'
      subst ev
      exact ⟨rv, ⟨V.ref (s.heap.objs.size + 1), H', I3, rfl, q3⟩⟩
    | next => exact False.elim hq'
    | brk => exact False.elim hq'
    | cont => exact False.elim hq'
theorem pe_make (M : Mk X.K C f) (F : FnG X.prog X.w X.K X.mg X.base CX k f fd ps sp) (hr : RoomG (k + 1) X.A) (hg : Gl X x) (hm : X.mg x = some (.ref C)) (hb : Binds X.K fd ps ds) (hd : Vals dvs ds) (hx : Passes CX X E)
    (ha : PA X (e :: es) t) (hdb : (x == ("__debug__" : Str)) = false := by decide) (he : starEach (e :: es) X.env = (false, eval e X.env) :: starEach es X.env := by rfl) (hpl : (backTo pos (starEach es X.env)).any (·.1) = false := by rfl) :
    PE X (.Call (.Name x p) (e :: es) [] pos) (tMake C sp dvs E t) := by
  refine ⟨fun pins s σ H Q I h => ?_⟩
  refine wpAny_Call_Name_kw (ld_glob I hg hm ?_ hdb)
  refine PySem.W.callWith_K (h₀ := X.base) I.ok.mod.kin M.kp (thn (ha.run pos pins s σ H _ I h) fun us s1 ⟨vs, H1, I1, r, q⟩ => ⟨I1.kIn, ?_⟩) he hpl
  exact run_make M F hr hb hd hx I1 r q
end
end DG
namespace DL
open PySem PySem.Spec PyProof.Rows L2
/-- where the own classes stand -/
class CT where
  at_ : Nat → Addr
def putD (f : Str) (x : D) : List (Str × D) → List (Str × D)
  | [] => [(f, x)]
  | (g, y) :: r => if g = f then (g, x) :: r else (g, y) :: putD f x r
section
variable {K : PySem.W.Frag} {I F H : Hp} {S : Store}
theorem RepF.look {f : Str} {d : D} : ∀ {fs : List (Str × D)} {vs : List (Str × V)}, RepF K I fs vs → fs.lookup f = some d → ∃ v, vs.lookup f = some v ∧ Rep K I d v
  | [], _, _, e => by simp at e
  | (g, x) :: r, vs, h, e => by
    simp only [RepF] at h
    obtain ⟨v, w, rfl, h1, h2⟩ := h
    rw [List.lookup_cons] at e ⊢
    cases q : (f == g) with
    | true =>
      rw [q] at e
      cases e
      exact ⟨v, rfl, h1⟩
    | false =>
      rw [q] at e
      exact RepF.look h2 e
theorem RepF.no {f : Str} : ∀ {fs : List (Str × D)} {vs : List (Str × V)}, RepF K I fs vs → fs.lookup f = none → vs.lookup f = none
  | [], _, h, _ => by
    simp only [RepF] at h
    subst h; rfl
  | (g, x) :: r, vs, h, e => by
    simp only [RepF] at h
    obtain ⟨v, w, rfl, h1, h2⟩ := h
    rw [List.lookup_cons] at e ⊢
    cases q : (f == g) with
    | true => rw [q] at e; cases e
    | false =>
      rw [q] at e
      exact RepF.no h2 e
theorem RepF.len : ∀ {fs : List (Str × D)} {vs : List (Str × V)}, RepF K I fs vs → vs.length = fs.length
  | [], _, h => by
    simp only [RepF] at h
    subst h; rfl
  | (g, x) :: r, vs, h => by
    simp only [RepF] at h
    obtain ⟨v, w, rfl, h1, h2⟩ := h
    simp [RepF.len h2]
theorem RepF.put {f : Str} {d : D} {v : V} (h' : Rep K I d v) : ∀ {fs : List (Str × D)} {vs : List (Str × V)}, RepF K I fs vs → RepF K I (putD f d fs) (putF f v vs)
  | [], _, h => by
    simp only [RepF] at h
    subst h
    simp only [putD, putF, RepF]
    exact ⟨v, [], rfl, h', rfl⟩
  | (g, x) :: r, vs, h => by
    simp only [RepF] at h
    obtain ⟨w, u, rfl, h1, h2⟩ := h
    show RepF K I (if g = f then (g, d) :: r else (g, x) :: putD f d r) (if g = f then (g, v) :: u else (g, w) :: putF f v u)
    by_cases q : g = f
    · rw [if_pos q, if_pos q]
      simp only [RepF]
      exact ⟨v, u, rfl, h', h2⟩
    · rw [if_neg q, if_neg q]
      simp only [RepF]
      exact ⟨w, _, rfl, h1, RepF.put h' h2⟩
theorem Ok.insAt (ok : Ok K I S F H) {p C : Addr} {fs : List (Str × D)} (e : S p = some (.ins C fs)) : ∃ dx vs, H p = some (.ins C dx vs) ∧ H dx = some (.own p) ∧ RepF K I fs vs := (ok.s p _ e).2
theorem Ok.putIns (ok : Ok K I S F H) {p C dx : Addr} {fs : List (Str × D)} {vs : List (Str × V)} {f : Str} {d : D} {v : V} (e : S p = some (.ins C fs)) (h1 : H p = some (.ins C dx vs)) (h2 : H dx = some (.own p)) (r : RepF K I fs vs) (r' : Rep K I d v) :
    Ok K I (supd S p (.ins C (putD f d fs))) F (upd H p (.ins C dx (putF f v vs))) := by
  have ne : dx ≠ p := fun z => by subst z; rw [h1] at h2; cases h2
  refine ok.write e (fun y z => by rw [h1] at z; cases z) ⟨dx, _, upd_same, by rw [upd_ne ne]; exact h2, r.put r'⟩
/-- a new instance -/
theorem Ok.newIns (h : Ok K I S F H) {p dx C : Addr} (n : H p = none) (n2 : H dx = none) (ne : dx ≠ p) : Ok K I (supd S p (.ins C [])) F (upd (upd H dx (.own p)) p (.ins C dx [])) := by
  have up : ∀ {a o}, H a = some o → (upd (upd H dx (.own p)) p (.ins C dx [])) a = some o := fun {a o} e => by
    rw [upd_ne (ne_of_none e n), upd_ne (ne_of_none e n2)]; exact e
  refine ⟨fun a x e => up (h.i a x e), fun a m e => ?_, fun a x e => ?_⟩
  · unfold supd at e
    by_cases q : a = p
    · subst q
      rw [if_pos rfl] at e; cases e
      exact ⟨h.freshI n, dx, [], upd_same, by rw [upd_ne ne, upd_same], by simp only [RepF]⟩
    · rw [if_neg q] at e
      obtain ⟨h1, h2⟩ := h.s a m e
      obtain ⟨o, h3, _⟩ := h2.there
      exact ⟨h1, h2.mono (Same.refl I) ((up h3).trans h3.symm) fun dy q2 => up q2⟩
  · obtain ⟨h1, h2, h3, h4⟩ := h.f a x e
    have ne2 : a ≠ p := ne_of_none h1 n
    exact ⟨up h1, h2, by unfold supd; rw [if_neg ne2]; exact h3, h4⟩
end
/-! ### o.f, o.f = e, o.f += e -/
def dFld [CT] (c : Nat) (f : Str) (a : DE) : DE := fun ρ S P => a ρ S fun x S1 => ∃ p fs d, x = .obj p ∧ S1 p = some (.ins (CT.at_ c) fs) ∧ fs.lookup f = some d ∧ P d S1
def dSetFld [CT] (c : Nat) (f : Str) (a v : DE) : DS := fun DD ρ S => v ρ S fun y S1 => a ρ S1 fun x S2 => ∃ p fs, x = .obj p ∧ S2 p = some (.ins (CT.at_ c) fs) ∧ fs.length < 900 ∧ DD.nx ρ (supd S2 p (.ins (CT.at_ c) (putD f y fs)))
/-- self.f += e of ints -/
def dFldAdd [CT] (c : Nat) (f : Str) (a v : DE) : DS := fun DD ρ S => a ρ S fun x S1 => ∃ p fs i, x = .obj p ∧ S1 p = some (.ins (CT.at_ c) fs) ∧ fs.lookup f = some (.int i) ∧ v ρ S1 fun y S2 => ∃ j fs', y = .int j ∧ S2 p = some (.ins (CT.at_ c) fs') ∧ fs'.length < 900 ∧
  DD.nx ρ (supd S2 p (.ins (CT.at_ c) (putD f (.int (i + j)) fs')))
section
variable [CT] {X : Cx} {o value : Expr} {c : Nat} {f : Str} {pos pos' tpos : Pos} {da dv : DE}
theorem up_fld (cl : Cls X.K (CT.at_ c)) (n : NoAttr X.K (CT.at_ c) f) : ∀ σ H Q, upE X.K (dFld c f da) σ H Q → tFld X.K (upE X.K da) f σ H Q := fun σ H Q h0_ => El54 h0_ fun ρ I S F P rs ok h q =>
  ⟨ρ, I, S, F, _, rs, ok, h, fun x S1 v I1 H1 ⟨p, fs, d, ex, es, el, h1⟩ e1 ok1 r1 => by
    subst ex
    obtain ⟨dx, vs, hp, _, rf⟩ := ok1.insAt es
    obtain ⟨u, hu, ru⟩ := rf.look el
    exact ⟨p, _, dx, vs, u, r1.obj_of, hp, cl, n, hu, q _ _ _ _ _ h1 e1 ok1 ru⟩⟩
theorem je_fld (cl : Cls X.K (CT.at_ c)) (n : NoAttr X.K (CT.at_ c) f) (he : JE X o da) (hb : attributeBase o f X.env (eval o X.env) = eval o X.env := by rfl) : JE X (.Attribute o f pos) (dFld c f da) :=
  je_of (pe_fld he hb) (up_fld cl n)
theorem js_fld (cl : Cls X.K (CT.at_ c)) (n : NoAttr X.K (CT.at_ c) f) (ha : JE X o da) (hv : JE X value dv) (hs : swapsWith value (some (.Attribute o f pos')) pos.line X.env = pure false := by rfl) :
    JS X (.Assign [.Attribute o f pos'] value pos) (dSetFld c f da dv) :=
  js_of (ps_fld ha hv hs) fun D σ H h0_ => El54 h0_ fun ρ I S F DD rs ok h q => ⟨ρ, I, S, F, _, rs, ok, h, fun y S1 v I1 H1 h1 e1 ok1 r1 => ⟨ρ, I1, S1, F, _, rs.mono e1, ok1, h1, fun x S2 w I2 H2 ⟨p, fs, ex, es, hl, h2⟩ e2 ok2 r2 => by
    subst ex
    obtain ⟨dx, vs, hp, hd, rf⟩ := ok2.insAt es
    refine ⟨p, _, dx, vs, r2.obj_of, hp, cl, n, by rw [rf.len]; omega, ?_⟩
    exact q.nx _ _ _ _ _ h2 (e1.trans e2) (ok2.putIns es hp hd rf (r1.mono e2)) (rs.mono (e1.trans e2))⟩⟩
end
/-! ### calls of methods, C(..) -/
def dMeth [CT] (c : Nat) (m : Str) (sp : DSp) (a : DE) (r : DA) : DE := fun ρ S P => a ρ S fun x S1 => ∃ p fs, x = .obj p ∧ S1 p = some (.ins (CT.at_ c) fs) ∧ fs.lookup m = none ∧ r ρ S1 fun xs S2 => sp (x :: xs) S2 P
def dMake [CT] (c : Nat) (sp : DSp) (r : DA) : DE := fun ρ S P => r ρ S fun xs S1 => ∀ p, S1 p = none → sp (.obj p :: xs) (supd S1 p (.ins (CT.at_ c) [])) fun y S2 => y = .non ∧ P (.obj p) S2
def dMakeK [CT] (c : Nat) (sp : DSp) (n m : Nat) (perm : List Nat) (r kw : DA) : DE := fun ρ S P => r ρ S fun xs S1 => kw ρ S1 fun ys S2 => xs.length = n ∧ ys.length = m ∧ ∀ p, S2 p = none →
  sp (pick perm (.obj p :: xs) ys) (supd S2 p (.ins (CT.at_ c) [])) fun y S3 => y = .non ∧ P (.obj p) S3
/-- the method m of the class c keeps its promise -/
structure DoesM [CT] (P : Program) (w : World) (K : PySem.W.Frag) (mg : Str → Option Value) (base : Heap) (k : Nat) (c : Nat) (m : Str) (ps : List Str) (f : Addr) (fd : FuncData) (sp : DSp) : Prop where
  cl : Cls K (CT.at_ c)
  mt : Meth K (CT.at_ c) m f
  b : Binds K fd ps []
  ok : FnD P w K mg base k f fd ps sp
/-- the class c is made by __init__, which keeps its promise -/
structure DoesI [CT] (P : Program) (w : World) (K : PySem.W.Frag) (mg : Str → Option Value) (base : Heap) (k : Nat) (c : Nat) (x : Str) (ps : List Str) (f : Addr) (fd : FuncData) (sp : DSp) : Prop where
  g : mg x = some (.ref (CT.at_ c))
  mks : Mk K (CT.at_ c) f
  ok : FnD P w K mg base k f fd ps sp
section
variable [CT] {X : Cx} {o a : Expr} {es : List Expr} {c : Nat} {m x : Str} {pos apos p : Pos} {da : DE} {ds dk : DA} {k j n l : Nat} {ps ks : List Str} {f : Addr} {fd : FuncData} {sp : DSp} {perm : List Nat} {kws : List Keyword}
theorem up_meth : ∀ σ H Q, upE X.K (dMeth c m sp da ds) σ H Q → tMeth (CT.at_ c) m (upSp X.K sp) [] E0 (upE X.K da) (upA X.K ds) σ H Q := fun σ H Q h0_ => El54 h0_ fun ρ I S F P rs ok h q =>
  ⟨ρ, I, S, F, _, rs, ok, h, fun x S1 v I1 H1 ⟨p, fs, ex, es, el, h1⟩ e1 ok1 r1 => by
    subst ex
    obtain ⟨dx, vs, hp, hd, rf⟩ := ok1.insAt es
    refine ⟨p, dx, vs, r1.obj_of, hp, rf.no el, ρ, I1, S1, F, _, rs.mono e1, ok1, h1, fun xs S2 ws I2 H2 h2 e2 ok2 r2 => ?_⟩
    show upSp X.K sp (v :: (ws ++ [])) H2 Q E0
    rw [List.append_nil]
    exact ⟨_, I2, S2, F, P, .cons (r1.mono e2) r2, ok2, h2, q.mono (e1.trans e2)⟩⟩
theorem je_m {pl : Sem Bool} (G : DoesM X.prog X.w X.K X.mg X.base k c m ps f fd sp) (hr : DG.RoomG j X.A) (he : JE X o da) (ha : JA X (a :: es) ds) (hk : k ≤ j := by decide)
    (hst : starEach (a :: es) X.env = (false, eval a X.env) :: starEach es X.env := by rfl) (hpl : (backTo pos (starEach es X.env)).any (·.1) = false := by rfl)
    (ht : eval (.Call (.Attribute o m apos) (a :: es) [] pos) X.env = (do
      let ov ← eval o X.env
      standAt apos.atName
      let (f, first) ← holding [ov] (getMethod ov m pl)
      callWith pos f first (backTo pos (starEach (a :: es) X.env)) (backToKw pos (keywordEach [] X.env))) := by rfl) :
    JE X (.Call (.Attribute o m apos) (a :: es) [] pos) (dMeth c m sp da ds) :=
  je_of (DG.pe_meth (pl := pl) he G.cl G.mt G.ok (hr.mono hk) G.b .nil pass0 ha hst hpl ht) up_meth
theorem je_m0 {pl : Sem Bool} (G : DoesM X.prog X.w X.K X.mg X.base k c m ps f fd sp) (hr : DG.RoomG j X.A) (he : JE X o da) (hk : k ≤ j := by decide)
    (ht : eval (.Call (.Attribute o m apos) [] [] pos) X.env = (do
      let ov ← eval o X.env
      standAt apos.atName
      let (f, first) ← holding [ov] (getMethod ov m pl)
      callWith pos f first (backTo pos (starEach [] X.env)) (backToKw pos (keywordEach [] X.env))) := by rfl) :
    JE X (.Call (.Attribute o m apos) [] [] pos) (dMeth c m sp da dNil) :=
  je_of (DG.pe_meth0 (pl := pl) he G.cl G.mt G.ok (hr.mono hk) G.b .nil pass0 ht) fun σ H Q h0_ => El54 h0_ fun ρ I S F P rs ok h q => ⟨ρ, I, S, F, _, rs, ok, h, fun x S1 v I1 H1 ⟨p, fs, ex, es, el, h1⟩ e1 ok1 r1 => by
    subst ex
    obtain ⟨dx, vs, hp, hd, rf⟩ := ok1.insAt es
    exact ⟨p, dx, vs, r1.obj_of, hp, rf.no el, _, I1, S1, F, P, .cons r1 RepL.nil, ok1, h1, q.mono e1⟩⟩
theorem sees_make {K : PySem.W.Frag} {I F : Hp} {P : D → Store → Prop} {Q : VK} {p : Addr} (q : Sees K I F P Q) : Sees K I F (fun y S2 => y = .non ∧ P (.obj p) S2) (fun v H2 => v = .non ∧ Q (.ref p) H2) := fun x S v I2 H2 ⟨ex, h⟩ e ok r => by
  subst ex
  exact ⟨r.non_of, q _ _ _ _ _ h e ok (by simp only [Rep])⟩
theorem je_make (G : DoesI X.prog X.w X.K X.mg X.base k c x ps f fd sp) (hr : DG.RoomG j X.A) (hb : Binds X.K fd ps []) (ha : JA X (a :: es) ds) (hk : k + 1 ≤ j := by decide) (hg : Gl X x := by rfl) (hdb : (x == ("__debug__" : Str)) = false := by decide)
    (he : starEach (a :: es) X.env = (false, eval a X.env) :: starEach es X.env := by rfl) (hpl : (backTo pos (starEach es X.env)).any (·.1) = false := by rfl) : JE X (.Call (.Name x p) (a :: es) [] pos) (dMake c sp ds) :=
  je_of (DG.pe_make G.mks G.ok (hr.mono hk) hg G.g hb .nil pass0 ha hdb he hpl) fun σ H Q h0_ => El54 h0_ fun ρ I S F P rs ok h q => ⟨ρ, I, S, F, _, rs, ok, h, fun xs S1 vs I1 H1 h1 e1 ok1 r1 x dx nx nd ne => by
    rw [List.append_nil]
    exact ⟨_, I1, _, F, _, .cons (by simp only [Rep]) r1, ok1.newIns nx nd ne, h1 x (ok1.freshS nx), sees_make (q.mono e1)⟩⟩
end
/-- the def called x keeps its promise sp, called by keywords -/
structure DoesK (P : Program) (w : World) (K : PySem.W.Frag) (mg : Str → Option Value) (base : Heap) (k : Nat) (x : Str) (ps : List Str) (f : Addr) (fd : FuncData) (sp : DSp) : Prop where
  g : mg x = some (.ref f)
  kp : PySem.W.keepIn K (.ref f) = true
  ok : FnD P w K mg base k f fd ps sp
section
variable {X : Cx} {pos p : Pos} {a : Expr} {es : List Expr} {ds dk : DA} {k j n m : Nat} {x : Str} {ps ks : List Str} {f : Addr} {fd : FuncData} {sp : DSp} {perm : List Nat} {kws : List Keyword}
end
/-! ### a, b = x, y where a, b are fields -/
/-- o.f as a target -/
def gFld (K : PySem.W.Frag) (ta : TE) (f : Str) : TG := fun v σ H Q => ta σ H fun x H2 => ∃ a C dx fs, x = .ref a ∧ H2 a = some (.ins C dx fs) ∧ Cls K C ∧ NoAttr K C f ∧ fs.length < 1000 ∧ Q σ (upd H2 a (.ins C dx (putF f v fs)))
theorem pg_fld {X : Cx} {o : Expr} {f : Str} {pos : Pos} {ta : TE} (ha : PE X o ta) : PG X (.Attribute o f pos) (gFld X.K ta f) := by
  refine ⟨fun pins s σ H v u Q I r h => ?_⟩
  rw [show assign (.Attribute o f pos) X.env u = (do
    let ov ← holding [u] (eval o X.env)
    standAt pos.atName
    holding [u, ov] (setAttr ov f u)
    release [u, ov] []) from rfl]
  refine wpAny_bind (wpAny_holding (thn (ha.run pins s σ H _ I h) fun ov s1 ⟨x, H1, I1, r1, a, C, dx, fs, ex, ea, c, n, l, q1⟩ => ?_))
  subst ex
  obtain rfl : ov = Value.ref a := r1
  refine wpAny_bind (wpAny_standAt (wpAny_bind (wpAny_holding (setattr_ok I1 ea c n l r fun s2 I2 => ?_))))
  exact wpAny_release ⟨σ, _, I2, q1⟩
/-- o.f, o.g = x, y -/
def dFld2 [CT] (c : Nat) (f g : Str) (i : Nat) (da db : DE) : DS := fun DD ρ S => da ρ S fun x S1 => db ρ S1 fun y S2 => ∃ p fs, ρ[i]? = some (some (.obj p)) ∧ S2 p = some (.ins (CT.at_ c) fs) ∧ fs.length < 900 ∧
  DD.nx ρ (supd S2 p (.ins (CT.at_ c) (putD g y (putD f x fs))))
theorem putD_len (f : Str) (x : D) : ∀ fs : List (Str × D), (putD f x fs).length ≤ fs.length + 1
  | [] => by simp [putD]
  | (g, y) :: r => by
    have := putD_len f x r
    show (if g = f then (g, x) :: r else (g, y) :: putD f x r).length ≤ _
    split <;> simp <;> omega
theorem supd_twice {S : Store} {a : Addr} {m m' : MO} : supd (supd S a m) a m' = supd S a m' := by
  funext b
  unfold supd
  split <;> rfl
section
variable [CT] {X : Cx} {a b : Expr} {c : Nat} {f g x y : Str} {pos p1 p2 p3 p4 pt pt2 : Pos} {da db : DE} {kt k2}
end
end DL

/-! min(xs, key=f) of ints, f a def of the module. -/
namespace DL
open PySem PySem.Spec PyProof.Rows L2
/-- the list's ints, what f makes of each: any of the least may be told -/
def dMinKey (sp : DSp) (a : DE) : DE := fun ρ S P => a ρ S fun x S1 => ∃ (ns : List Int) (kf : Int → Int), lstOf S1 x = some (ns.map .int) ∧ ns ≠ [] ∧ (∀ i, i ∈ ns → ∀ (S' : Store) (Q : D → Store → Prop), S' = S1 → Q (.int (kf i)) S' → sp [.int i] S' Q) ∧
  ∀ m, m ∈ ns → (∀ i, i ∈ ns → kf m ≤ kf i) → P (.int m) S1
end DL

namespace DL
open PySem PySem.Spec PyProof.Rows L2
section
variable {X : Cx}
open Classical in
end
section
variable {K : PySem.W.Frag}
end
section
variable {X : Cx} {pos p : Pos} {a : Expr} {ds : DA}
theorem b_sorted : bootBuiltins "sorted" = some (.builtin "sorted") := by decide +kernel
end
end DL

/-! min of a list of pairs of ints. -/
namespace DL
open PySem PySem.Spec PyProof.Rows L2
section
variable {X : Cx}
end
section
variable {K : PySem.W.Frag}
end
section
variable {X : Cx} {pos p : Pos} {a : Expr} {ds : DA}
end
end DL

/-! A list that has changed and changes no more, from a statement on. -/
namespace DL
open PySem PySem.Spec PyProof.Rows L2
end DL

/-! list(zip(a, b)): the pairs given out are held, each one a new tuple. -/
namespace DL
open PySem PySem.Spec PyProof.Rows L2 DZ
section
variable {prog : Program} {w : World} {A : Around} {E : Value → Shared → Prop} {s : Shared} {z TI TO i1 i2 T : Addr} {f : Bool} {oT : Obj} {fp1 fp2 : List Addr} {n1 n2 i : Nat} {P1 P2 : Nat → Value → Prop} {St1 St2 : Nat → Heap → Prop}
end
/-- the zip at a turn: nothing given out yet, or a pair that is held -/
structure ZH (b1 b2 : Bool) (h : Heap) (z TI TO i1 i2 a b : Addr) (its its2 : Array Value) (i : Nat) (S : Addr) : Prop where
  ti : IsTupOf2 h TI (.ref i1) (.ref i2)
  to : ∃ o, h.get? TO = some o
  t1 : IterAt b1 h i1 a i
  t2 : IterAt b2 h i2 b i
  s1 : SrcAt b1 h a its
  s2 : SrcAt b2 h b its2
  zz : (IsZip h z TI TO .none ∧ ∃ x y, IsTupOf2 h TO x y) ∨ ∃ T f oT, IsZipHeld h z TI TO T f ∧ h.get? T = some oT ∧ T ≠ z ∧ T ≠ i1 ∧ T ≠ i2 ∧ T ≠ S
theorem SrcAt.at {b : Bool} {h h' : Heap} {a : Addr} {its : Array Value} (e : SrcAt b h a its) (k : ∀ o, h.get? a = some o → h'.get? a = some o) : SrcAt b h' a its := by
  cases b
  · exact Heap.IsList.at e k
  · exact Heap.IsTuple.at e k
section
variable {X : Cx} {z TI TO i1 i2 a b S : Addr} {b1 b2 : Bool} {its its2 : List Value} {xs ys : List V}
end
section
variable {X : Cx} {e e2 : Expr} {ta : TA} {ds : DA} {p p2 pos q : Pos}
open Classical in
end
end DL

/-! xs.pop(i), xs.insert(i, y). -/
namespace DL
open PySem PySem.Spec PyProof.Rows L2
section
variable {K : PySem.W.Frag} {I : Hp}
theorem RepL.erase : ∀ {ds : List D} {vs : List V} (i : Nat), RepL K I ds vs → RepL K I (ds.eraseIdx i) (vs.eraseIdx i) := by
  intro ds vs i h
  rw [List.eraseIdx_eq_take_drop_succ, List.eraseIdx_eq_take_drop_succ]
  exact (h.take i).app (h.drop (i + 1))
end
section
variable {X : Cx} {pos p apos : Pos} {a b c o : Expr} {da db dc : DE}
def dPopAt (a b : DE) : DE := fun ρ S P => a ρ S fun x S1 => match x with
  | .obj l => (∃ es, S1 l = some (.lst es)) ∧ b ρ S1 fun y S2 => match S2 l, y with
    | some (.lst ds), .int i => -(2 ^ 63) ≤ i ∧ i < 2 ^ 63 ∧ ∃ k d, seqIndex? i ds.length = some k ∧ ds[k]? = some d ∧ P d (supd S2 l (.lst (ds.eraseIdx k)))
    | _, _ => False
  | _ => False
theorem je_popAt (ha : JE X o da) (hb : JE X a db) (hbase : attributeBase o "pop" X.env (eval o X.env) = eval o X.env := by rfl) (hs0 : starEach [a] X.env = [(false, eval a X.env)] := by rfl)
    (hfew : ((backTo pos (starEach [a] X.env)).all (fun x => !x.1) && (backToKw pos (keywordEach [] X.env)).all (fun x => x.1.isSome)
      && decide ([a].length + ([] : List Keyword).length + (if ([] : List Keyword).isEmpty then 0 else 1) < 30)) = true := by rfl)
    (hline : (apos.endLine == pos.line) = true := by rfl) : JE X (.Call (.Attribute o "pop" apos) [a] [] pos) (dPopAt da db) :=
  je_of (pe_bm PySem.F.plainAttrs_list PySem.F.slot_list_pop PySem.F.type_list_pop mt_popAt ha (pa_cons hb pa_nil hs0) hbase hfew hline (hs := hs0) (hplain := by rfl)) fun σ H Q h0_ => El54 h0_ fun ρ I S F P rs ok hh q =>
    ⟨ρ, I, S, F, _, rs, ok, hh, fun x S1 v I1 H1 h1 e1 ok1 r1 => by
      cases x with
      | obj l =>
        obtain ⟨⟨es, e2⟩, h2⟩ := h1
        obtain ⟨_, ys, q2, _⟩ := ok1.s l _ e2
        cases r1.obj_of
        refine ⟨.inl ⟨rfl, ys, .of q2⟩, ρ, I1, S1, F, _, rs.mono e1, ok1, h2, fun y S2 w I2 H2 h3 e3 ok2 r2 => ?_⟩
        split at h3
        · rename_i ds i e4
          obtain ⟨_, zs, q4, rl⟩ := ok2.s l _ e4
          obtain ⟨i0, i1, k, d, hk, hd, h4⟩ := h3
          obtain ⟨v, hv, rv⟩ := rl.get hd
          cases r2.int_of
          refine ⟨l, zs, i, k, v, rfl, rfl, q4, i0, i1, by rw [rl.len]; exact hk, hv, q _ _ _ _ _ h4 (e1.trans e3) (ok2.writeL e4 (rl.erase k)) rv⟩
        · exact h3.elim
      | _ => exact h1.elim⟩
end
end DL

/-! a, *b = e of a tuple; x in NAME of a written dict. -/
namespace DL
open PySem PySem.Spec PyProof.Rows L2
section
variable {prog : Program} {w : World} {A : Around} {E : Value → Shared → Prop} {s : Shared}
end
section
variable {X : Cx} {pos p : Pos}
end
end DL

/-! Dicts as things that change: keys ints and texts (dK), or tuples of such (dT). dZ, dU: locked while they are walked. -/
namespace DL
open PySem PySem.Spec PyProof.Rows L2

/-! ### lists of pairs, whatever the values are -/
section
variable {κ : Type} [DecidableEq κ] {α : Type}
def dVal (kvs : List (κ × α)) (k : κ) : Option α := (kvs.find? fun kv => decide (kv.1 = k)).map (·.2)
def dPut (kvs : List (κ × α)) (k : κ) (v : α) : List (κ × α) :=
  if (kvs.any fun kv => decide (kv.1 = k)) = true then kvs.map (fun kv => if kv.1 = k then (kv.1, v) else kv) else kvs ++ [(k, v)]
def dWo (kvs : List (κ × α)) (k : κ) : List (κ × α) := kvs.filter fun kv => decide (kv.1 ≠ k)
def dMrg (kvs more : List (κ × α)) : List (κ × α) := more.foldl (fun acc kv => dPut acc kv.1 kv.2) kvs
theorem dVal_nil (k : κ) : dVal ([] : List (κ × α)) k = none := rfl
theorem dVal_cons (p : κ × α) (r : List (κ × α)) (k : κ) : dVal (p :: r) k = if p.1 = k then some p.2 else dVal r k := by
  unfold dVal
  rw [List.find?_cons]
  by_cases e : p.1 = k
  · simp [e]
  · simp [e]
theorem dVal_none {kvs : List (κ × α)} {k : κ} : dVal kvs k = none ↔ k ∉ kvs.map (·.1) := by
  induction kvs with
  | nil => simp [dVal_nil]
  | cons p r ih =>
    rw [dVal_cons]
    by_cases e : p.1 = k
    · simp [e]
    · rw [if_neg e, ih]
      simp [Ne.symm e]
theorem any_key {kvs : List (κ × α)} {k : κ} : (kvs.any fun kv => decide (kv.1 = k)) = decide (k ∈ kvs.map (·.1)) := by
  induction kvs with
  | nil => rfl
  | cons p r ih =>
    rw [List.any_cons, ih]
    by_cases e : p.1 = k
    · simp [e]
    · simp [e, Ne.symm e]
theorem dPut_new {kvs : List (κ × α)} {k : κ} (v : α) (h : k ∉ kvs.map (·.1)) : dPut kvs k v = kvs ++ [(k, v)] := by
  unfold dPut
  rw [any_key, decide_eq_false h]
  simp
theorem dPut_keys (kvs : List (κ × α)) (k : κ) (v : α) : (dPut kvs k v).map (·.1) = if k ∈ kvs.map (·.1) then kvs.map (·.1) else kvs.map (·.1) ++ [k] := by
  by_cases h : k ∈ kvs.map (·.1)
  · rw [if_pos h]
    unfold dPut
    rw [any_key, decide_eq_true h, if_pos rfl, List.map_map]
    congr 1
    funext p
    simp only [Function.comp]
    split <;> rfl
  · rw [if_neg h, dPut_new v h]
    simp
theorem dPut_len (kvs : List (κ × α)) (k : κ) (v : α) : (dPut kvs k v).length ≤ kvs.length + 1 := by
  unfold dPut
  split <;> simp
theorem dPut_nd {kvs : List (κ × α)} {k : κ} {v : α} (h : (kvs.map (·.1)).Nodup) : ((dPut kvs k v).map (·.1)).Nodup := by
  rw [dPut_keys]
  split
  · exact h
  · rename_i q
    rw [List.nodup_append]
    refine ⟨h, by simp, fun a ha b hb => ?_⟩
    simp only [List.mem_singleton] at hb
    subst hb
    intro z
    subst z
    exact q ha
end

def kD : Key → D
  | .inl i => .int i
  | .inr s => .str s
def keyOf : D → Option Key
  | .int i => some (.inl i)
  | .str s => some (.inr s)
  | _ => none
def keysOf : List D → Option (List Key)
  | [] => some []
  | x :: r => match keyOf x, keysOf r with
    | some k, some ks => some (k :: ks)
    | _, _ => none
theorem keyOf_int (i : Int) : keyOf (.int i) = some (.inl i) := rfl
theorem keyOf_str (s : Str) : keyOf (.str s) = some (.inr s) := rfl
theorem keyOf_eq {x : D} {k : Key} (h : keyOf x = some k) : x = kD k := by
  cases x <;> simp [keyOf] at h <;> subst h <;> rfl
section
variable {K : PySem.W.Frag} {I I' F H : Hp} {S : Store}
theorem kD_rep (k : Key) : Rep K I (kD k) (kV k) := by
  cases k with
  | inl i => exact rep_int
  | inr s => exact rep_str
theorem kD_of {k : Key} {v : V} (h : Rep K I (kD k) v) : v = kV k := by
  cases k with
  | inl i => exact h.int_of
  | inr s => exact h.str_of
theorem keysOf_rep : ∀ {xs : List D} {ks : List Key} {vs : List V}, RepL K I xs vs → keysOf xs = some ks → vs = ks.map kV
  | [], ks, vs, r, h => by
    simp only [RepL] at r
    simp only [keysOf, Option.some.injEq] at h
    subst r h; rfl
  | x :: r, ks, vs, rl, h => by
    simp only [RepL] at rl
    obtain ⟨v, w, rfl, h1, h2⟩ := rl
    unfold keysOf at h
    cases e1 : keyOf x with
    | none => rw [e1] at h; cases h
    | some k =>
      cases e2 : keysOf r with
      | none => rw [e1, e2] at h; cases h
      | some js =>
        rw [e1, e2] at h
        cases h
        rw [keyOf_eq e1] at h1
        rw [kD_of h1, keysOf_rep h2 e2]
        rfl
section
variable {κ : Type} [DecidableEq κ]
theorem RepF.nilK : RepF K I ([] : List (κ × D)) [] := by simp only [RepF]
theorem RepF.consK {p : κ × D} {v : V} {r : List (κ × D)} {w : List (κ × V)} (h : Rep K I p.2 v) (h' : RepF K I r w) : RepF K I (p :: r) ((p.1, v) :: w) := by
  simp only [RepF]
  exact ⟨v, w, rfl, h, h'⟩
theorem RepF.lenK : ∀ {fs : List (κ × D)} {vs : List (κ × V)}, RepF K I fs vs → vs.length = fs.length
  | [], _, h => by
    simp only [RepF] at h
    subst h; rfl
  | p :: r, vs, h => by
    simp only [RepF] at h
    obtain ⟨v, w, rfl, h1, h2⟩ := h
    simp [RepF.lenK h2]
theorem RepF.keysK : ∀ {fs : List (κ × D)} {vs : List (κ × V)}, RepF K I fs vs → vs.map (·.1) = fs.map (·.1)
  | [], _, h => by
    simp only [RepF] at h
    subst h; rfl
  | p :: r, vs, h => by
    simp only [RepF] at h
    obtain ⟨v, w, rfl, h1, h2⟩ := h
    simp [RepF.keysK h2]
theorem RepF.getK : ∀ {fs : List (κ × D)} {vs : List (κ × V)} {i : Nat} {p : κ × D}, RepF K I fs vs → fs[i]? = some p → ∃ v, vs[i]? = some (p.1, v) ∧ Rep K I p.2 v
  | [], _, _, _, _, e => by simp at e
  | q :: r, vs, 0, p, h, e => by
    simp only [RepF] at h
    obtain ⟨v, w, rfl, h1, h2⟩ := h
    simp at e; subst e
    exact ⟨v, rfl, h1⟩
  | q :: r, vs, i + 1, p, h, e => by
    simp only [RepF] at h
    obtain ⟨v, w, rfl, h1, h2⟩ := h
    obtain ⟨u, e1, e2⟩ := RepF.getK (i := i) h2 (by simpa using e)
    exact ⟨u, by simpa using e1, e2⟩
theorem RepF.valK {k : κ} : ∀ {fs : List (κ × D)} {vs : List (κ × V)}, RepF K I fs vs → (∀ d, dVal fs k = some d → ∃ v, valV vs k = some v ∧ Rep K I d v) ∧ (dVal fs k = none → valV vs k = none)
  | [], _, h => by
    simp only [RepF] at h
    subst h
    exact ⟨fun d e => by simp [dVal_nil] at e, fun _ => rfl⟩
  | p :: r, vs, h => by
    simp only [RepF] at h
    obtain ⟨v, w, rfl, h1, h2⟩ := h
    have ih := RepF.valK (k := k) h2
    rw [dVal_cons]
    by_cases e : p.1 = k
    · rw [if_pos e, valV_pos (p := (p.1, v)) e]
      exact ⟨fun d z => by cases z; exact ⟨v, rfl, h1⟩, fun z => by cases z⟩
    · rw [if_neg e, valV_neg (p := (p.1, v)) e]
      exact ih
theorem RepF.appK : ∀ {fs gs : List (κ × D)} {vs ws : List (κ × V)}, RepF K I fs vs → RepF K I gs ws → RepF K I (fs ++ gs) (vs ++ ws)
  | [], _, _, _, h, h' => by
    simp only [RepF] at h
    subst h; simpa using h'
  | p :: r, gs, vs, ws, h, h' => by
    simp only [RepF] at h
    obtain ⟨v, w, rfl, h1, h2⟩ := h
    simp only [List.cons_append, RepF]
    exact ⟨v, w ++ ws, rfl, h1, h2.appK h'⟩
theorem RepF.putK {k : κ} {d : D} {v : V} {fs : List (κ × D)} {vs : List (κ × V)} (h : RepF K I fs vs) (h' : Rep K I d v) : RepF K I (dPut fs k d) (L2.putK vs k v) := by
  have ha : (vs.any fun kv => decide (kv.1 = k)) = (fs.any fun kv => decide (kv.1 = k)) := by
    have e : ∀ {α : Type} (l : List (κ × α)), (l.any fun kv => decide (kv.1 = k)) = ((l.map (·.1)).any fun j => decide (j = k)) := fun l => by rw [List.any_map]; rfl
    rw [e, e, h.keysK]
  unfold dPut L2.putK
  rw [ha]
  split
  · clear ha
    rename_i hx
    clear hx
    induction fs generalizing vs with
    | nil =>
      simp only [RepF] at h
      subst h
      exact RepF.nilK
    | cons p r ih =>
      simp only [RepF] at h
      obtain ⟨w, u, rfl, h1, h2⟩ := h
      simp only [List.map_cons]
      by_cases e : p.1 = k
      · rw [if_pos e, if_pos e]
        exact RepF.consK (p := (p.1, d)) h' (ih h2)
      · rw [if_neg e, if_neg e]
        exact RepF.consK h1 (ih h2)
  · exact h.appK (RepF.consK (p := (k, d)) h' RepF.nilK)
end
/-! ### a dict of the store -/
/-- what a dict with keys of ints and texts holds, locked or not -/
def dctOf (S : Store) : D → Option (List (Key × D))
  | .obj a => match S a with
    | some (.dK kvs) => some kvs
    | some (.dZ _ _ kvs) => some kvs
    | _ => none
  | _ => none
theorem dct_rd (ok : Ok K I S F H) {x : D} {v : V} {kvs : List (Key × D)} (r : Rep K I x v) (h : dctOf S x = some kvs) : ∃ a vs, v = .ref a ∧ Rd H a (.dK vs) ∧ RepF K I kvs vs := by
  cases x with
  | obj a =>
    unfold dctOf at h
    cases e : S a with
    | none => simp [e] at h
    | some m =>
      cases m with
      | dK es =>
        simp [e] at h; subst h
        obtain ⟨_, vs, q, rf⟩ := ok.s a _ e
        exact ⟨a, vs, r.obj_of, .inl q, rf⟩
      | dZ o ws es =>
        simp [e] at h; subst h
        obtain ⟨_, q, rf⟩ := ok.s a _ e
        exact ⟨a, ws, r.obj_of, .inr ⟨o, q⟩, rf⟩
      | _ => simp [e] at h
  | _ => simp [dctOf] at h
theorem Ok.dkAt (ok : Ok K I S F H) {a : Addr} {kvs : List (Key × D)} (e : S a = some (.dK kvs)) : ∃ vs, H a = some (.dK vs) ∧ RepF K I kvs vs := (ok.s a _ e).2
/-- a hidden dict is laid into the store -/
theorem Ok.showD (h : Ok K I S F H) {p : Addr} {vs : List (Key × V)} {kvs : List (Key × D)} (e : F p = some (.dK vs)) (r : RepF K I kvs vs) : Ok K I (supd S p (.dK kvs)) (fun b => if b = p then none else F b) H := by
  obtain ⟨f1, f2, f3, f4⟩ := h.f p _ e
  refine ⟨h.i, fun a m q => ?_, fun a x q => ?_⟩
  · unfold supd at q
    by_cases z : a = p
    · subst z
      rw [if_pos rfl] at q; cases q
      exact ⟨f2, vs, f1, r⟩
    · rw [if_neg z] at q
      exact h.s a m q
  · by_cases z : a = p
    · rw [if_pos z] at q; cases q
    · rw [if_neg z] at q
      obtain ⟨h1, h2, h3, h4⟩ := h.f a x q
      exact ⟨h1, h2, by unfold supd; rw [if_neg z]; exact h3, h4⟩
end

/-! ### d[k], k in d, d.get(k), d.get(k, x) -/
def dDGet : D2 := fun x y S P => match dctOf S x, keyOf y with
  | some kvs, some k => (match dVal kvs k with
    | some d => P d S
    | none => False)
  | _, _ => False
def dDIn (neg : Bool) : D2 := fun y x S P => match dctOf S x, keyOf y with
  | some kvs, some k => P (.bl (if neg then !(dVal kvs k).isSome else (dVal kvs k).isSome)) S
  | _, _ => False
def dDGet1 (dd dk : DE) : DE := fun ρ S P => dd ρ S fun x S1 => (dctOf S1 x).isSome = true ∧ dk ρ S1 fun y S2 => match dctOf S2 x, keyOf y with
  | some kvs, some k => P ((dVal kvs k).getD .non) S2
  | _, _ => False
def dDGet2 (dd dk dx : DE) : DE := fun ρ S P => dd ρ S fun x S1 => (dctOf S1 x).isSome = true ∧ dk ρ S1 fun y S2 => dx ρ S2 fun z S3 => match dctOf S3 x, keyOf y with
  | some kvs, some k => P ((dVal kvs k).getD z) S3
  | _, _ => False
def dDPut (dd dk dv : DE) : DS := fun DD ρ S => dv ρ S fun z S1 => dd ρ S1 fun x S2 => dk ρ S2 fun y S3 => ∃ a kvs k, x = .obj a ∧ S3 a = some (.dK kvs) ∧ keyOf y = some k ∧ kvs.length < 100000 ∧ DD.nx ρ (supd S3 a (.dK (dPut kvs k z)))
def dDPop1 (dd dk : DE) : DE := fun ρ S P => dd ρ S fun x S1 => (dctOf S1 x).isSome = true ∧ dk ρ S1 fun y S2 => ∃ a kvs k v, x = .obj a ∧ S2 a = some (.dK kvs) ∧ keyOf y = some k ∧ dVal kvs k = some v ∧ P v (supd S2 a (.dK (dWo kvs k)))
def dDPop2 (dd dk dx : DE) : DE := fun ρ S P => dd ρ S fun x S1 => (dctOf S1 x).isSome = true ∧ dk ρ S1 fun y S2 => dx ρ S2 fun z S3 => ∃ a kvs k, x = .obj a ∧ S3 a = some (.dK kvs) ∧ keyOf y = some k ∧
  match dVal kvs k with
  | some v => P v (supd S3 a (.dK (dWo kvs k)))
  | none => P z S3
section
variable {X : Cx} {pos pos' apos cpos : Pos} {o i e f value : Expr} {dd dk dv dx : DE} {n : Nat}
theorem je_dget (hr : DG.RoomG n X.A) (ho : JE X o dd) (hi : JE X i dk) (hs : NoSl i := by first | exact fun _ _ => rfl | (intro _ _; rfl)) : JE X (.Subscript o i pos) (dOp dDGet dd dk) :=
  je_of (pe_dget (by have := hr.r.un; omega) ho hi hs) fun σ H Q h0_ => El54 h0_ fun ρ I S F P rs ok h q => ⟨ρ, I, S, F, _, rs, ok, h, fun x S1 v I1 H1 h1 e1 ok1 r1 => ⟨ρ, I1, S1, F, _, rs.mono e1, ok1, h1, fun y S2 w I2 H2 h2 e2 ok2 r2 => by
    unfold dDGet at h2
    split at h2
    · rename_i kvs k h3 h4
      obtain ⟨a, vs, rfl, hd, rf⟩ := dct_rd ok2 (r1.mono e2) h3
      rw [keyOf_eq h4] at r2
      split at h2
      · rename_i d h5
        obtain ⟨u, hu, ru⟩ := (rf.valK (k := k)).1 d h5
        exact ⟨a, u, rfl, .inl ⟨vs, k, hd, kD_of r2, hu.symm⟩, q _ _ _ _ _ h2 (e1.trans e2) ok2 ru⟩
      · exact h2.elim
    · exact h2.elim⟩⟩
theorem jt_cmpP {op : CmpOp} {t : TE} {d : DE} (h : PC X op i o t) (u : ∀ σ H Q, upE X.K d σ H Q → t σ H Q) (hm : behindInMarks op o = false) : JT X (.Compare i [op] [o] pos) (dTest d) :=
  jt_of (pt_cmp h hm) fun σ H Q h0_ => El54 h0_ fun ρ I S F P rs ok hh q => u _ _ _ ⟨ρ, I, S, F, _, rs, ok, hh, fun x S1 v I1 H1 h1 e1 ok1 r1 => by
    cases x with
    | bl k => exact ⟨k, r1.bl_of, q k S1 I1 H1 h1 e1 ok1⟩
    | _ => exact h1.elim⟩
end

/-! ### {} and displays -/
def dNewD : DE := fun _ S P => ∀ p, S p = none → P (.obj p) (supd S p (.dK []))
def dPrs : List (DE × DE) → DSt → Store → (List (D × D) → Store → Prop) → Prop
  | [], _, S, P => P [] S
  | t :: r, ρ, S, P => t.1 ρ S fun k S1 => t.2 ρ S1 fun v S2 => dPrs r ρ S2 fun ps S3 => P ((k, v) :: ps) S3
def dkvsOf : List (D × D) → Option (List (Key × D))
  | [] => some []
  | (x, y) :: r => match keyOf x, dkvsOf r with
    | some k, some ks => some ((k, y) :: ks)
    | _, _ => none
/-- a display of unlike keys -/
def dDisp (prs : List (DE × DE)) : DE := fun ρ S P => dPrs prs ρ S fun ps S1 => match dkvsOf ps with
  | some kvs => kvs.length ≤ 15 ∧ (kvs.map (·.1)).Nodup ∧ ∀ p, S1 p = none → P (.obj p) (supd S1 p (.dK kvs))
  | none => False
section
variable {X : Cx} {pos : Pos} {k v : Expr} {ks : List (Option Expr)} {vs : List Expr} {dk dv : DE} {prs : List (DE × DE)}
abbrev JPs (X : Cx) (pos : Pos) (keys : List (Option Expr)) (values : List Expr) (prs : List (DE × DE)) : Prop := PPs X pos keys values (prs.map fun p => (upE X.K p.1, upE X.K p.2))
theorem jps_nil : JPs X pos [] [] [] := pps_nil
theorem jps_cons (hk : JE X k dk) (hv : JE X v dv) (hr : JPs X pos ks vs prs) : JPs X pos (some k :: ks) (v :: vs) ((dk, dv) :: prs) := pps_cons hk hv hr
def RepP (K : PySem.W.Frag) (I : Hp) : List (D × D) → List (V × V) → Prop
  | [], ws => ws = []
  | p :: r, ws => ∃ u v w, ws = (u, v) :: w ∧ Rep K I p.1 u ∧ Rep K I p.2 v ∧ RepP K I r w
theorem up_pairs {K : PySem.W.Frag} {F : Hp} {σ : L2.St} : ∀ (prs : List (DE × DE)) {ρ : DSt} {I H : Hp} {S : Store} {P : List (D × D) → Store → Prop} {Q : List (V × V) → Hp → Prop}, RepS K I ρ σ → Ok K I S F H → dPrs prs ρ S P →
    (∀ ps S' ws I' H', P ps S' → Same I I' → Ok K I' S' F H' → RepP K I' ps ws → Q ws H') → tPairs (prs.map fun p => (upE K p.1, upE K p.2)) σ H Q
  | [], ρ, I, H, S, P, Q, rs, ok, h, q => q _ _ _ _ _ h (Same.refl I) ok (by simp only [RepP])
  | t :: r, ρ, I, H, S, P, Q, rs, ok, h, q => by
    show upE K t.1 σ H fun x H1 => upE K t.2 σ H1 fun y H2 => tPairs (r.map fun p => (upE K p.1, upE K p.2)) σ H2 fun ps H3 => Q ((x, y) :: ps) H3
    exact ⟨ρ, I, S, F, _, rs, ok, h, fun x S1 v I1 H1 h1 e1 ok1 r1 => ⟨ρ, I1, S1, F, _, rs.mono e1, ok1, h1, fun y S2 w I2 H2 h2 e2 ok2 r2 =>
      up_pairs r (rs.mono (e1.trans e2)) ok2 h2 fun ps S3 ws I3 H3 h3 e3 ok3 r3 => q _ _ _ _ _ h3 ((e1.trans e2).trans e3) ok3 (by
        simp only [RepP]
        exact ⟨v, w, ws, rfl, (r1.mono e2).mono e3, r2.mono e3, r3⟩)⟩⟩
theorem dkvsOf_rep {K : PySem.W.Frag} {I : Hp} : ∀ {ps : List (D × D)} {kvs : List (Key × D)} {ws : List (V × V)}, RepP K I ps ws → dkvsOf ps = some kvs → ∃ vs : List (Key × V), ws = vs.map (fun kv => (kV kv.1, kv.2)) ∧ RepF K I kvs vs
  | [], kvs, ws, h, e => by
    simp only [RepP] at h
    simp only [dkvsOf, Option.some.injEq] at e
    subst h e
    exact ⟨[], rfl, RepF.nilK⟩
  | (x, y) :: r, kvs, ws, h, e => by
    simp only [RepP] at h
    obtain ⟨u, v, w, rfl, h1, h2, h3⟩ := h
    unfold dkvsOf at e
    cases e1 : keyOf x with
    | none => rw [e1] at e; cases e
    | some k =>
      cases e2 : dkvsOf r with
      | none => rw [e1, e2] at e; cases e
      | some js =>
        rw [e1, e2] at e
        cases e
        obtain ⟨vs, rfl, rf⟩ := dkvsOf_rep h3 e2
        rw [keyOf_eq e1] at h1
        exact ⟨(k, v) :: vs, by rw [kD_of h1]; rfl, RepF.consK (p := (k, y)) h2 rf⟩
theorem mergeK_nd {vs : List (Key × V)} (h : (vs.map (·.1)).Nodup) : mergeK [] vs = vs := by
  have : ∀ (more acc : List (Key × V)), (more.map (·.1)).Nodup → (∀ k ∈ more.map (·.1), k ∉ acc.map (·.1)) → mergeK acc more = acc ++ more := by
    intro more
    induction more with
    | nil => intro acc _ _; simp [mergeK]
    | cons p r ih =>
      intro acc h h2
      simp only [List.map_cons, List.nodup_cons] at h
      have hn : L2.putK acc p.1 p.2 = acc ++ [(p.1, p.2)] := by
        unfold L2.putK
        have : ¬ (acc.any fun kv => decide (kv.1 = p.1)) = true := by
          intro z
          rw [List.any_eq_true] at z
          obtain ⟨x, hx, e⟩ := z
          exact h2 p.1 (by simp) (List.mem_map.2 ⟨x, hx, of_decide_eq_true e⟩)
        rw [if_neg this]
      show mergeK (L2.putK acc p.1 p.2) r = _
      rw [hn, ih _ h.2 fun k hk => ?_]
      · simp
      · simp only [List.map_append, List.mem_append, not_or]
        refine ⟨h2 k (by simp [hk]), ?_⟩
        simp only [List.map_cons, List.map_nil, List.mem_singleton]
        intro e
        subst e
        exact h.1 hk
  simpa using this vs [] h (by simp)
theorem je_disp (h : JPs X pos ks vs prs) (hall : ks.all (·.isSome) = true := by rfl) (hl : ks.length = vs.length := by rfl) (h0 : ks ≠ [] := by exact fun z => nomatch z) (h15 : ks.length ≤ 15 := by decide) : JE X (.Dict ks vs pos) (dDisp prs) :=
  je_of (pe_disp h hall hl h0 h15) fun σ H Q h0_ => El54 h0_ fun ρ I S F P rs ok h q => by
    intro p hp
    have hF : (upd F p (.dK [])) p = some (.dK []) := upd_same
    have ok1 : Ok X.K I S (upd F p (.dK [])) (upd H p (.dK [])) := ok.newF hp ⟨fun y z => (by cases z), fun y z => (by cases z)⟩
    have hn : F p = none := ok.freshF hp
    refine up_pairs prs rs ok1 h fun ps S1 ws I1 H1 h1 e1 ok2 r1 => ?_
    split at h1
    · rename_i kvs hk
      obtain ⟨vs', ew, rf⟩ := dkvsOf_rep r1 hk
      have hd := (ok2.f p _ hF)
      refine ⟨hd.1, vs', ew, by rw [rf.lenK]; exact h1.1, ?_⟩
      rw [mergeK_nd (by rw [rf.keysK]; exact h1.2.1)]
      have ok3 := ok2.writeF (o' := .dK vs') hF ⟨fun y z => (by cases z), fun y z => (by cases z)⟩
      rw [upd_upd] at ok3
      have ok4 := ok3.showD (kvs := kvs) upd_same rf
      refine q _ _ _ _ _ (h1.2.2 p hd.2.2.1) e1 (ok4.less fun a x ea => ?_) (by simp only [Rep])
      have ne : a ≠ p := fun z => by rw [z, hn] at ea; cases ea
      show (if a = p then none else upd F p (.dK vs') a) = some x
      rw [if_neg ne, upd_ne ne]; exact ea
    · exact h1.elim
end

/-! ### locks -/
/-- what is to hold behind a lock of p -/
def lockEnds (DD : DEnds) (p : Addr) (o : Obj) (vs : List (Key × V)) (kvs : List (Key × D)) : DEnds where
  nx := fun ρ S => S p = some (.dZ o vs kvs) ∧ DD.nx ρ (supd S p (.dK kvs))
  rt := fun x S => S p = some (.dZ o vs kvs) ∧ DD.rt x (supd S p (.dK kvs))
  bk := fun ρ S => S p = some (.dZ o vs kvs) ∧ DD.bk ρ (supd S p (.dK kvs))
  ct := fun ρ S => S p = some (.dZ o vs kvs) ∧ DD.ct ρ (supd S p (.dK kvs))
def dLock (t : DS) : DS := fun DD ρ S => t DD ρ S ∨ ∃ p kvs, S p = some (.dK kvs) ∧ ∀ o vs, t (lockEnds DD p o vs kvs) ρ (supd S p (.dZ o vs kvs))
section
variable {K : PySem.W.Frag} {I F H : Hp} {S : Store}
theorem Ok.lockD (ok : Ok K I S F H) {p : Addr} {kvs : List (Key × D)} {vs : List (Key × V)} (o : Obj) (e : S p = some (.dK kvs)) (hh : H p = some (.dK vs)) (r : RepF K I kvs vs) : Ok K I (supd S p (.dZ o vs kvs)) F (upd H p (.frz o (.dK vs))) :=
  ok.write e (fun y z => by rw [hh] at z; cases z) ⟨upd_same, r⟩
theorem Ok.unlockD (ok : Ok K I S F H) {p : Addr} {kvs : List (Key × D)} {vs : List (Key × V)} {o : Obj} (e : S p = some (.dZ o vs kvs)) : H p = some (.frz o (.dK vs)) ∧ Ok K I (supd S p (.dK kvs)) F (upd H p (.dK vs)) := by
  obtain ⟨_, h1, h2⟩ := ok.s p _ e
  exact ⟨h1, ok.write e (fun y z => by rw [h1] at z; cases z) ⟨vs, upd_same, h2⟩⟩
variable {X : Cx} {st : Stmt} {e : Expr} {t : DS} {d : DE}
theorem ps_or {a b : TS} (h : PS X st a) (h' : PS X st b) : PS X st (fun D σ H => a D σ H ∨ b D σ H) := ⟨fun pins s σ H D I hw => hw.elim (h.run pins s σ H D I) (h'.run pins s σ H D I)⟩
theorem js_lock (h : JS X st t) : JS X st (dLock t) := js_of (ps_or h (ps_lock h)) fun D σ H h0_ => El54 h0_ fun ρ I S F DD rs ok h q => by
  rcases h with h | ⟨p, kvs, e, h⟩
  · exact .inl ⟨ρ, I, S, F, DD, rs, ok, h, q⟩
  · obtain ⟨vs, hh, r⟩ := ok.dkAt e
    refine .inr ⟨p, _, hh, trivial, fun od => ⟨ρ, I, _, F, _, rs, ok.lockD od e hh r, h od vs, ?_⟩⟩
    refine ⟨fun ρ1 S1 σ1 I1 H1 h1 e1 ok1 rs1 => ?_, fun x S1 v I1 H1 h1 e1 ok1 r1 => ?_, fun ρ1 S1 σ1 I1 H1 h1 e1 ok1 rs1 => ?_, fun ρ1 S1 σ1 I1 H1 h1 e1 ok1 rs1 => ?_⟩
    · obtain ⟨z, ok2⟩ := ok1.unlockD h1.1
      exact ⟨z, q.nx _ _ _ _ _ h1.2 e1 ok2 rs1⟩
    · obtain ⟨z, ok2⟩ := ok1.unlockD h1.1
      exact ⟨z, q.rt _ _ _ _ _ h1.2 e1 ok2 r1⟩
    · obtain ⟨z, ok2⟩ := ok1.unlockD h1.1
      exact ⟨z, q.bk _ _ _ _ _ h1.2 e1 ok2 rs1⟩
    · obtain ⟨z, ok2⟩ := ok1.unlockD h1.1
      exact ⟨z, q.ct _ _ _ _ _ h1.2 e1 ok2 rs1⟩
end

/-! ### a locked dict walked -/
/-- its keys -/
def dItKeys (d : DE) : DI := fun ρ S P => d ρ S fun x S1 => ∃ a o vs kvs, x = .obj a ∧ S1 a = some (.dZ o vs kvs) ∧ P (kvs.map fun kv => kD kv.1) (some fun S => S a = some (.dZ o vs kvs)) S1
/-- its pairs, its values -/
def dItItems (d : DE) : DI := fun ρ S P => d ρ S fun x S1 => ∃ a o vs kvs, x = .obj a ∧ S1 a = some (.dZ o vs kvs) ∧ P (kvs.map fun kv => .tup [kD kv.1, kv.2]) (some fun S => S a = some (.dZ o vs kvs)) S1
def dItVals (d : DE) : DI := fun ρ S P => d ρ S fun x S1 => ∃ a o vs kvs, x = .obj a ∧ S1 a = some (.dZ o vs kvs) ∧ P (kvs.map fun kv => kv.2) (some fun S => S a = some (.dZ o vs kvs)) S1
section
variable {X : Cx} {tg e : Expr} {d : DE} {apos cpos : Pos}
theorem ji_keys (he : JE X e d) : JI X tg e (dItKeys d) := ji_of (pi_keys he) fun σ H R h0_ => El54 h0_ fun ρ I S F P rs ok h q => ⟨ρ, I, S, F, _, rs, ok, h, fun x S1 v I1 H1 ⟨a, o, vs, kvs, ex, es, h1⟩ e1 ok1 r1 => by
  subst ex
  obtain ⟨_, hh, rf⟩ := ok1.s a _ es
  refine ⟨a, o, r1.obj_of, .inl ⟨vs, hh, q _ _ _ _ _ _ h1 e1 ok1 ⟨fun I2 S2 F2 H2 e2 ok2 pk i d hd => ?_, fun I2 S2 F2 H2 e2 ok2 pk i hi => ?_⟩⟩⟩
  · obtain ⟨_, hh2, rf2⟩ := ok2.s a _ (show S2 a = _ from pk)
    rw [List.getElem?_map] at hd
    cases e3 : kvs[i]? with
    | none => rw [e3] at hd; cases hd
    | some p =>
      rw [e3] at hd
      cases hd
      obtain ⟨u, hu, _⟩ := rf2.getK e3
      refine ⟨⟨hh2, by rw [List.getElem?_eq_some_iff] at hu; exact hu.1⟩, fun y H3 hy => ?_⟩
      obtain ⟨rfl, k, w, hk, rfl⟩ := hy
      rw [hu] at hk
      cases hk
      exact ⟨I2, Same.refl I2, ok2, kD_rep _⟩
  · obtain ⟨_, hh2, rf2⟩ := ok2.s a _ (show S2 a = _ from pk)
    refine ⟨hh2, ?_⟩
    rw [rf2.lenK]
    rw [List.length_map] at hi
    omega⟩
theorem ji_items {elts : List Expr} {kk : Nat} {tpos : Pos} (he : JE X e d) (hbase : attributeBase e "items" X.env (eval e X.env) = eval e X.env := by rfl) (hline : (apos.endLine == cpos.line) = true := by rfl) :
    JI X (.Tuple elts kk tpos) (.Call (.Attribute e "items" apos) [] [] cpos) (dItItems d) :=
  ji_of (pi_items he hbase hline) fun σ H R h0_ => El54 h0_ fun ρ I S F P rs ok h q => ⟨ρ, I, S, F, _, rs, ok, h, fun x S1 v I1 H1 ⟨a, o, vs, kvs, ex, es, h1⟩ e1 ok1 r1 => by
    subst ex
    obtain ⟨_, hh, rf⟩ := ok1.s a _ es
    refine ⟨a, o, vs, r1.obj_of, hh, q _ _ _ _ _ _ h1 e1 ok1 ⟨fun I2 S2 F2 H2 e2 ok2 pk i d hd => ?_, fun I2 S2 F2 H2 e2 ok2 pk i hi => ?_⟩⟩
    · obtain ⟨_, hh2, rf2⟩ := ok2.s a _ (show S2 a = _ from pk)
      rw [List.getElem?_map] at hd
      cases e3 : kvs[i]? with
      | none => rw [e3] at hd; cases hd
      | some p =>
        rw [e3] at hd
        cases hd
        obtain ⟨u, hu, ru⟩ := rf2.getK e3
        refine ⟨⟨hh2, by rw [List.getElem?_eq_some_iff] at hu; exact hu.1⟩, fun y H3 hy => ?_⟩
        obtain ⟨T, k, w, hk, rfl, hT, rfl⟩ := hy
        rw [hu] at hk
        cases hk
        exact ⟨_, same_new (ok2.freshI hT), ok2.newI hT, rep_new_tup (ok2.freshI hT) (RepL.cons (kD_rep _) (RepL.one ru))⟩
    · obtain ⟨_, hh2, rf2⟩ := ok2.s a _ (show S2 a = _ from pk)
      refine ⟨hh2, ?_⟩
      rw [rf2.lenK]
      rw [List.length_map] at hi
      omega⟩
end
end DL

/-! Dict comprehensions over data: one for, two fors. -/
namespace DL
open PySem PySem.Spec PyProof.Rows L2

/-! ### two fors, by the hand layer's parts -/
section
variable {X : Cx} {kx vx tg iter tg1 iter1 : Expr} {ifs ifs1 : List Expr} {scope : Scope} {pos : Pos}
variable {prog : Program} {w : World} {A : Around} {R : Result → Shared → Prop} {s : Shared} {it acc : Value} {env : Env} {D : Addr}
abbrev nothing : Value → Shared → Prop := fun _ _ => False
end
section
variable {X : Cx} {kx vx tg iter tg1 iter1 : Expr} {ifs ifs1 : List Expr} {scope : Scope} {pos : Pos}
end
end DL

/-! Dict comprehensions as readings; len, list, sorted, dict, update of dicts. -/
namespace DL
open PySem PySem.Spec PyProof.Rows L2

/-! ### {k: v for t in xs if ..} -/
/-- over the data ds: W by the turn and the pairs so far -/
def DcN (t : Tgt) (tt : DT) (dk dv : DE) (P : D → Store → Prop) (ds : List D) (pin : Option (Store → Prop)) (ρ : DSt) (S1 : Store) : Prop :=
  ∃ W : Nat → List (Key × D) → Store → Prop, W 0 [] S1 ∧ (∀ i acc S, W i acc S → PinOk pin S) ∧
  (∀ i d acc S, ds[i]? = some d → W i acc S → ∃ ρ', t.put d (dwipe ρ t.slots) = some ρ' ∧ tt ρ' S fun b S2 => if b = true then dk ρ' S2 fun y S3 => dv ρ' S3 fun z S4 => ∃ k, keyOf y = some k ∧ acc.length < 100000 ∧ W (i + 1) (dPut acc k z) S4 else W (i + 1) acc S2) ∧
  ∀ acc S, W ds.length acc S → ∀ p, S p = none → P (.obj p) (supd S p (.dK acc))
def dDc (di : DI) (t : Tgt) (tt : DT) (dk dv : DE) : DE := fun ρ S P => di ρ S fun ds pin S1 => DcN t tt dk dv P ds pin ρ S1
def Dc2N (t : Tgt) (tt : DT) (di1 : DI) (t1 : Tgt) (tt1 : DT) (dk dv : DE) (P : D → Store → Prop) (ds : List D) (pin : Option (Store → Prop)) (ρ : DSt) (S1 : Store) : Prop :=
  ∃ W : Nat → List (Key × D) → Store → Prop, W 0 [] S1 ∧ (∀ i acc S, W i acc S → PinOk pin S) ∧
  (∀ i d acc S, ds[i]? = some d → W i acc S → ∃ ρ', t.put d (dwipe ρ (t.slots ++ t1.slots)) = some ρ' ∧ tt ρ' S fun b S2 => if b = true then di1 ρ' S2 fun ds1 pin1 S3 =>
    ∃ W1 : Nat → List (Key × D) → Store → Prop, W1 0 acc S3 ∧ (∀ j acc S, W1 j acc S → PinOk pin1 S) ∧
      (∀ j d1 acc1 S4, ds1[j]? = some d1 → W1 j acc1 S4 → ∃ ρ'', t1.put d1 (dwipe ρ' t1.slots) = some ρ'' ∧ tt1 ρ'' S4 fun b S5 => if b = true then dk ρ'' S5 fun y S6 => dv ρ'' S6 fun z S7 => ∃ k, keyOf y = some k ∧ acc1.length < 100000 ∧ W1 (j + 1) (dPut acc1 k z) S7 else W1 (j + 1) acc1 S5) ∧
      ∀ acc1 S4, W1 ds1.length acc1 S4 → W (i + 1) acc1 S4
    else W (i + 1) acc S2) ∧
  ∀ acc S, W ds.length acc S → ∀ p, S p = none → P (.obj p) (supd S p (.dK acc))
def dDc2 (di : DI) (t : Tgt) (tt : DT) (di1 : DI) (t1 : Tgt) (tt1 : DT) (dk dv : DE) : DE := fun ρ S P => di ρ S fun ds pin S1 => Dc2N t tt di1 t1 tt1 dk dv P ds pin ρ S1
theorem size_lt {n : Nat} (h : n < 100000) : n < sizeLine := Nat.lt_of_lt_of_le h (by decide)
theorem nohid_dK {vs : List (Key × V)} : NoHid (.dK vs) := ⟨fun y z => (by cases z), fun y z => (by cases z)⟩
section
variable {K : PySem.W.Frag} {I F H : Hp} {S : Store}
theorem Ok.hidePut (ok : Ok K I S (upd F p (.dK vs)) H) {vs' : List (Key × V)} : Ok K I S (upd F p (.dK vs')) (upd H p (.dK vs')) := by
  have z := ok.writeF (p := p) (o := .dK vs) (o' := .dK vs') upd_same nohid_dK
  rwa [upd_upd] at z
theorem Ok.hideShow (ok : Ok K I S (upd F p (.dK vs)) H) (n : F p = none) {kvs : List (Key × D)} (r : RepF K I kvs vs) : S p = none ∧ Ok K I (supd S p (.dK kvs)) F H := by
  refine ⟨(ok.f p _ upd_same).2.2.1, (ok.showD upd_same r).less fun a x ea => ?_⟩
  have ne : a ≠ p := fun z => by rw [z, n] at ea; cases ea
  show (if a = p then none else upd F p (.dK vs) a) = some x
  rw [if_neg ne, upd_ne ne]; exact ea
end
theorem up_dc {X : Cx} {di : DI} {t : Tgt} {tt : DT} {dk dv : DE} : ∀ σ H Q, upE X.K (dDc di t tt dk dv) σ H Q → tDc (upI X.K di) (upG X.K t) (upT X.K tt) (upE X.K dk) (upE X.K dv) t.slots σ H Q := fun σ H Q h0_ => El54 h0_ fun ρ I S F P rs ok h q => by
  refine ⟨ρ, I, S, F, _, rs, ok, h, fun ds pin S1 I1 H1 J hB e1 ok1 it => fun p hp => ?_⟩
  obtain ⟨W, w0, hpin, turn, fin⟩ := hB
  have fn := ok1.freshF hp
  refine ⟨fun i m H => m + i = ds.length ∧ ∃ I' S' acc vs, Same I1 I' ∧ Ok X.K I' S' (upd F p (.dK vs)) H ∧ RepF X.K I' acc vs ∧ W i acc S', ⟨ds.length, by simp, I1, S1, [], [], Same.refl I1, ok1.newF hp nohid_dK, RepF.nilK, w0⟩, ?_⟩
  rintro i m H2 ⟨em, I2, S2, acc, vs, e2, ok2, rl, w2⟩
  by_cases hi : i < ds.length
  · refine .inr ?_
    obtain ⟨g1, g2⟩ := it.go I2 S2 _ H2 e2 ok2 (hpin _ _ _ w2) i ds[i] (List.getElem?_eq_getElem hi)
    obtain ⟨ρ3, hput, hbody⟩ := turn i ds[i] acc S2 (List.getElem?_eq_getElem hi) w2
    refine ⟨g1, fun H' => ∃ I' S' acc vs, Same I1 I' ∧ Ok X.K I' S' (upd F p (.dK vs)) H' ∧ RepF X.K I' acc vs ∧ W (i + 1) acc S', fun H' h => ⟨m - 1, by omega, by omega, h⟩, fun x H3 hy => ?_⟩
    obtain ⟨I3, e3, ok3, r3⟩ := g2 x H3 hy
    refine ⟨dwipe ρ t.slots, ρ3, I3, S2, _, ds[i], ((rs.mono e1).mono (e2.trans e3)).wipe _, ok3, r3, hput, fun σ3 rs3 b3 => ⟨b3.wipe_sub fun i hi => hi, ?_⟩⟩
    refine ⟨ρ3, I3, S2, _, _, rs3, ok3, hbody, fun b S4 I4 H4 h4 e4 ok4 => ?_⟩
    cases b with
    | true =>
      rw [if_pos rfl] at h4 ⊢
      refine ⟨ρ3, I4, S4, _, _, rs3.mono e4, ok4, h4, fun y S5 u I5 H5 h5 e5 ok5 r5 => ⟨ρ3, I5, S5, _, _, rs3.mono (e4.trans e5), ok5, h5, fun z S6 v I6 H6 h6 e6 ok6 r6 => ?_⟩⟩
      obtain ⟨k, hk, hl, w6⟩ := h6
      have r5' := r5.mono e6
      rw [keyOf_eq hk] at r5
      have rl' := rl.mono (((e3.trans e4).trans e5).trans e6)
      refine ⟨vs, k, kD_of r5, (ok6.f p _ upd_same).1, size_lt (by rw [rl.lenK]; exact hl), I6, S6, dPut acc k z, L2.putK vs k v, (((e2.trans e3).trans e4).trans e5).trans e6, ok6.hidePut, rl'.putK r6, w6⟩
    | false =>
      rw [if_neg Bool.false_ne_true] at h4 ⊢
      exact ⟨I4, S4, acc, vs, ((e2.trans e3).trans e4), ok4, rl.mono (e3.trans e4), h4⟩
  · have e : i = ds.length := by omega
    subst e
    obtain ⟨sn, ok3⟩ := ok2.hideShow fn rl
    exact .inl ⟨it.stop I2 S2 _ H2 e2 ok2 (hpin _ _ _ w2) _ rfl, q _ _ _ _ _ (fin acc S2 w2 p sn) (e1.trans e2) ok3 (by simp only [Rep])⟩
section
variable {X : Cx} {kx vx tg iter tg1 iter1 : Expr} {ifs ifs1 : List Expr} {scope : Scope} {pos spos : Pos} {di di1 : DI} {t t1 : Tgt} {tt tt1 : DT} {dk dv : DE}
/-- in every block of this scope -/
abbrev InBlk (X : Cx) (scope : Scope) (φ : Cx → Prop) : Prop := ∀ (s : Shared) (H : Hp) (C : Addr) (cl : List (Str × Addr)) (fp : List Addr), φ (X.blk s H scope (compEnvC scope cl C X.env) fp)
theorem je_dc (own : List (Str × Nat)) (hc : X.calm = true) (hN : X.N.Nodup) (hi : JI X tg iter di) (ok : BlkOk X.N X.env.scope scope own) (ho : own.map (·.2) = t.slots) (hg : InBlk X scope fun Y => JG Y tg t) (ht : InBlk X scope fun Y => JTs Y ifs tt)
    (hk : InBlk X scope fun Y => JE Y kx dk) (hv : InBlk X scope fun Y => JE Y vx dv) (hs : ∀ x, foldedSetIterable iter X.env x = pure x := by intro _; rfl) : JE X (.DictComp kx vx [⟨tg, iter, ifs, 0⟩] scope pos) (dDc di t tt dk dv) :=
  je_of (pe_dc hc hN hi ok hg ht hk hv hs) fun σ H Q h => by
    rw [ho]
    exact up_dc σ H Q h
end

/-! ### len(d), list(d), dict(d), dict of pairs, sorted(d), d.update(d) -/
def cLenD : DC := fun xs S P => match xs with
  | [x] => (match dctOf S x with
    | some kvs => P (.int kvs.length) S
    | none => False)
  | _ => False
def cListD : DC := fun xs S P => match xs with
  | [x] => (match dctOf S x with
    | some kvs => P (.lst (kvs.map fun kv => kD kv.1)) S
    | none => False)
  | _ => False
def cListDM : DC := fun xs S P => match xs with
  | [x] => (match dctOf S x with
    | some kvs => ∀ p, S p = none → P (.obj p) (supd S p (.lst (kvs.map fun kv => kD kv.1)))
    | none => False)
  | _ => False
def cDictD : DC := fun xs S P => match xs with
  | [x] => (match dctOf S x with
    | some kvs => ∀ p, S p = none → P (.obj p) (supd S p (.dK kvs))
    | none => False)
  | _ => False
def pairsOf : List D → Option (List (Key × D))
  | [] => some []
  | .tup [x, y] :: r => match keyOf x, pairsOf r with
    | some k, some ks => some ((k, y) :: ks)
    | _, _ => none
  | _ => none
def cDictP : DC := fun xs S P => match xs with
  | [x] => (match (lstOf S x).bind pairsOf with
    | some kvs => kvs.length ≤ 100000 ∧ ∀ p, S p = none → P (.obj p) (supd S p (.dK (dMrg [] kvs)))
    | none => False)
  | _ => False
def dDUpd (dd de : DE) : DE := fun ρ S P => dd ρ S fun x S1 => (∃ a es, x = .obj a ∧ S1 a = some (.dK es)) ∧ de ρ S1 fun y S2 => ∃ a b kvs more, x = .obj a ∧ y = .obj b ∧ a ≠ b ∧ S2 a = some (.dK kvs) ∧ dctOf S2 y = some more ∧ kvs.length + more.length ≤ 100000 ∧
  P .non (supd S2 a (.dK (dMrg kvs more)))
theorem rep_ints {K : PySem.W.Frag} {I : Hp} : ∀ ys : List Int, RepL K I (ys.map .int) (ys.map V.int)
  | [] => RepL.nil
  | _ :: r => RepL.cons rep_int (rep_ints r)
section
variable {X : Cx}
variable {K : PySem.W.Frag}
variable {a e o : Expr} {pos p apos cpos : Pos} {ds : DA} {dd de : DE}
end
end DL

/-! xs[:0:-1], defs with a keyword default. -/
namespace L2
open PySem PySem.Spec PyProof.Rows PySem.W
section
variable {X : Cx} {a : Expr} {ta : TE} {p p2 p1 p3 pos pos2 : Pos}
end
end L2
namespace DL
open PySem PySem.Spec PyProof.Rows L2
def dBack (d : DE) : DE := fun ρ S P => d ρ S fun x S1 => match lstOf S1 x with
  | some ds => P (.lst (ds.drop 1).reverse) S1
  | none => False
section
variable {X : Cx} {a : Expr} {es : List Expr} {da : DE} {ds : DA} {p p1 p2 p3 pos pos2 : Pos}
end
end DL

/-! sorted(d), d a dict of any many ints as keys; sorted(xs) of ints. -/
namespace L2
open PySem PySem.Spec PyProof.Rows PySem.W
/-- what the collected keys are -/
theorem keys_ints {vs : List (Key × Value)} {ks : List Int} {acc : List Value} (hk : vs.map (·.1) = ks.map Sum.inl) (len : acc.length = ks.length) (h : ∀ (j : Nat) (v : Value), acc[j]? = some v → ∃ k x, vs[j]? = some (k, x) ∧ keyIs k v = true) : IntsAre acc ks := by
  refine ints_each len fun j v e => ?_
  obtain ⟨k, x, e1, e2⟩ := h j v e
  have e3 : (ks.map (Sum.inl (β := Str)))[j]? = some k := by
    rw [← hk, List.getElem?_map, e1]
    rfl
  rw [List.getElem?_map] at e3
  cases e4 : ks[j]? with
  | none => rw [e4] at e3; exact nomatch e3
  | some y =>
    rw [e4] at e3
    cases e3
    rcases keyIs_shape e2 with ⟨i, t, ei, ev⟩ | ⟨z, t, ez, ev⟩
    · cases ei
      exact ⟨y, t, rfl, ev⟩
    · exact nomatch ez
theorem call_sortedDB {X : Cx} (hcalm : X.calm = true) : CallR X (.builtin "sorted") (fun xs H Q => ∃ (a : Addr) (kvs : List (Key × V)) (ks : List Int), xs = [.ref a] ∧ Rd H a (.dK kvs) ∧ kvs.map (·.1) = ks.map Sum.inl ∧
    ∀ (ys : List Int) (p : Addr), ys.Perm ks → ys.Pairwise (· ≤ ·) → H p = none → Q (.ref p) (upd H p (.lst (ys.map V.int)))) := by
  intro pins s σ H xs us Q I r h
  obtain ⟨a, kvs, ks, ex, hd, hks, q⟩ := h
  subst ex
  obtain ⟨u, eu, ru⟩ := vals1 r
  subst eu
  cases ru
  obtain ⟨size, notSys, vs, rel, dd⟩ := dk_rd I.hok hd
  obtain ⟨ep, at1⟩ := dd.dictAt
  have lv : vs.length = kvs.length := rel.length.symm
  have lk : kvs.length = ks.length := by simpa using congrArg List.length hks
  refine Calls.call_function_entry PyProof.Rows.kind_sorted PyProof.Rows.plain_sorted PyProof.Rows.entry_sorted (PyProof.Rows.args_sorted1 _) ?_
  unfold Builtin.«sorted»
  refine wpAny_bind (m := checkCount "sorted" 1 1 _) (wpAny_pure (wpAny_bind (PySem.W.kdu_collect (A := X.A.in1) (PySem.W.kdl_dict (knd := mixKind X.prog X.w) (kvs := vs) (ep := ep) notSys) (I.ok.hd hcalm) at1 (by rw [lv]; exact size) fun h' tk acc hk hacc => ?_)))
  have la : acc.toList.length = ks.length := by rw [Array.length_toList, hacc.1, lv, lk]
  have big : acc.toList.length ≤ sizeLine := by rw [la, ← lk]; exact size
  have ia : IntsAre acc.toList ks := keys_ints (rel.keys.symm.trans hks) la fun j v e => hacc.2 j v (by rw [← Array.getElem?_toList]; exact e)
  have I1 : Inv X pins σ H { s with heap := h', toks := tk } := I.kept hk
  refine wpAny_bind (wpAny_newList ?_ big)
  have at2 : (h'.push (seqObj "list" acc.toList.toArray 0)).get? h'.objs.size = some (seqObj "list" acc.toList.toArray 0) := Heap.get?_push_size _ rfl
  show wpAny _ _ _ _ _ { s with heap := h'.push (seqObj "list" acc.toList.toArray 0), toks := tk }
  refine wpAny_bind (wpAny_holding (wpAny_call_entry PyProof.Rows.slot_list_sort ⟨_, at2, rfl⟩ PyProof.Rows.entry_list_sort
    (SrtO.list_sort_ord (s := { s with heap := h'.push (seqObj "list" acc.toList.toArray 0), toks := tk }) SrtO.swo_int at2 big (fun h2 => SrtO.ints_sortable ia h2) fun out h1 h2 => ⟨.none, rfl, ?_⟩) (PyProof.Rows.args_list_sort _)))
  obtain ⟨k1, k2, k3⟩ := SrtO.ints_out ia h1 h2
  obtain ⟨ep', he'⟩ := PyProof.Rows.sortedHeap_at (vs := acc.toList) (out := out.toArray) at2
  have len : ((out.map SrtO.iv).map V.int).length ≤ sizeLine := by rw [List.length_map, k2.length_eq, ← la]; exact big
  have I2 := I1.laid (a := h'.objs.size) (o := .lst ((out.map SrtO.iv).map V.int)) (t' := tk) (fun b u e => by
    have hb : b < h'.objs.size := Heap.lt_size e
    exact (PyProof.Rows.sortedHeap_old (Nat.ne_of_lt hb) (by rw [size_push']; exact Nat.lt_succ_of_lt hb)).trans (Heap.get?_push_of_some _ e)) (Nat.le_refl _) ⟨len, out, ep', vals_of_ints k1, he'⟩
  exact wpAny_pure ⟨_, rfl, .ref h'.objs.size, _, I2, rfl, q _ _ k2 k3 (I1.hok.fresh (Nat.le_refl _))⟩
end L2
namespace DL
open PySem PySem.Spec PyProof.Rows L2
/-- ints as keys -/
def cSortDB : DC := fun xs S P => match xs with
  | [x] => (match dctOf S x with
    | some kvs => ∃ ks : List Int, kvs.map (·.1) = ks.map Sum.inl ∧ ∀ ys : List Int, ys.Perm ks → ys.Pairwise (· ≤ ·) → P (.lst (ys.map .int)) S
    | none => False)
  | _ => False
/-- sorted(xs) of ints -/
def cSortL : DC := fun xs S P => match xs with
  | [x] => (match (lstOf S x).bind dInts with
    | some ks => ∀ ys : List Int, ys.Perm ks → ys.Pairwise (· ≤ ·) → P (.lst (ys.map .int)) S
    | none => False)
  | _ => False
section
variable {X : Cx} {K : PySem.W.Frag} {a : Expr} {pos p : Pos} {ds : DA}
theorem i_sortDB : ImpC K (fun xs H Q => ∃ (a : Addr) (kvs : List (Key × V)) (ks : List Int), xs = [.ref a] ∧ Rd H a (.dK kvs) ∧ kvs.map (·.1) = ks.map Sum.inl ∧ ∀ (ys : List Int) (p : Addr), ys.Perm ks → ys.Pairwise (· ≤ ·) → H p = none → Q (.ref p) (upd H p (.lst (ys.map V.int)))) cSortDB := by
  intro xs vs I S F H P Q ok r h q
  match xs, h with
  | [x], h =>
    obtain ⟨v, rfl, rv⟩ := r.inv1
    unfold cSortDB at h
    simp only at h
    split at h
    · rename_i kvs e
      obtain ⟨ks, hk, h⟩ := h
      obtain ⟨a, ws, rfl, hd, rf⟩ := dct_rd ok rv e
      exact ⟨a, ws, ks, rfl, hd, by rw [rf.keysK]; exact hk, fun ys p h1 h2 hp => q _ _ _ _ _ (h ys h1 h2) (same_new (ok.freshI hp)) (ok.newI hp) (rep_new_lst (ok.freshI hp) (rep_ints ys))⟩
    · exact h.elim
theorem je_sortDB (hm : X.mg "sorted" = none) (hc : X.calm = true) (ha : JA X [a] ds) (hg : Gl X "sorted" := by rfl) (hs : starEach [a] X.env = [(false, eval a X.env)] := by rfl) : JE X (.Call (.Name "sorted" p) [a] [] pos) (dCB cSortDB ds) := je_callB (call_sortedDB hc) i_sortDB hg hm b_sorted ha (hs := hs) (hpl := by rfl)
end
end DL

/-! sorted(set(xs)) of ints. -/
namespace L2
open PySem PySem.Spec PyProof.Rows PySem.W
section
variable {P : Program} {w : World} {A : Around} {E : Value → Shared → Prop} {s : Shared}
end
section
variable {X : Cx} {a : Expr} {ta : TE} {p p2 p1 p3 pos pos2 : Pos}
end
end L2
namespace DL
open PySem PySem.Spec PyProof.Rows L2
section
variable {X : Cx} {a : Expr} {es : List Expr} {da : DE} {ds : DA} {p p1 p2 p3 pos pos2 : Pos}
end
end DL

/-! xs[::-1] of a tuple. -/
namespace L2
open PySem PySem.Spec PyProof.Rows PySem.W
section
variable {X : Cx} {a : Expr} {ta : TE} {p p2 p1 p3 pos pos2 : Pos} {s : Shared} {prog : Program} {w : World} {A : Around} {E : Value → Shared → Prop}
end
end L2
namespace DL
open PySem PySem.Spec PyProof.Rows L2
section
variable {X : Cx} {a : Expr} {da : DE} {p p1 p2 p3 pos : Pos}
end
end DL

/-! Rows by names: sorted of texts, of tuples that begin with unlike texts, of a dict's items. -/
namespace WS
open PySem PySem.W PySem.Calls PyProof.Rows PyProof.V PySem.Spec
/-! ### ranks of texts -/
def below (x y : Str) : Bool := decide (x.cps.toList < y.cps.toList)
/-- how many of some texts are below one -/
def rank (xs : List Str) (x : Str) : Int := (xs.filter fun y => below y x).length
/-! ### tuples that begin with a text -/
def First (h : Heap) (v : Value) (y : Str) : Prop := ∃ (a : Addr) (t : Tok) (rest : List Value), v = .ref a ∧ IsTup h a (Value.str y t :: rest).toArray
def firstTx (h : Heap) (v : Value) : Str := DT.txOf (DT.seqAt0 h (DT.refOf (some v)))
theorem First.tx {h : Heap} {v : Value} {y : Str} (x : First h v y) : firstTx h v = y := by
  obtain ⟨a, t, rest, rfl, h1⟩ := x
  show DT.txOf (DT.seqAt0 h a) = y
  rw [DT.seqAt0_of h1]
  rfl
theorem First.keeps {h h' : Heap} {v : Value} {y : Str} (x : First h v y) (k : ∀ b o, h.get? b = some o → o.cls = .type "tuple" → h'.get? b = some o) : First h' v y := by
  obtain ⟨a, t, rest, e, ⟨o, ho, hc, r⟩⟩ := x
  exact ⟨a, t, rest, e, ⟨o, k _ _ ho hc, hc, r⟩⟩
section
variable {prog : Program} {w : World} {A : Around} {E : Value → Shared → Prop} {s : Shared}
end
end WS
namespace WS
open PySem PySem.W PySem.Calls PyProof.Rows PyProof.V PySem.Spec
section
variable {prog : Program} {w : World} {A : Around} {E : Value → Shared → Prop} {s : Shared}
end
end WS
namespace DL
open PySem PySem.Spec PyProof.Rows L2
section
variable {X : Cx}
end
end DL

/-! sorted(d.items()), d a dict whose keys are texts. -/
namespace DL
open PySem PySem.Spec PyProof.Rows L2
section
variable {X : Cx}
end
end DL

/-! Rows by names, as data: sorted, join, clear, for with a starred target. -/
namespace DL
open PySem PySem.Spec PyProof.Rows L2
def dStrs : List D → Option (List Str)
  | [] => some []
  | .str x :: ds => match dStrs ds with
    | some xs => some (x :: xs)
    | none => none
  | _ => none
/-- sorted(d.items()), fewer than 64 texts as keys -/
def dSortIt (d : DE) : DE := fun ρ S P => d ρ S fun x S1 => ∃ (a : Addr) (ks : List (Str × D)), x = .obj a ∧ S1 a = some (.dK (ks.map fun e => (Sum.inr e.1, e.2))) ∧ ks.length < 64 ∧ (ks.map (·.1)).Nodup ∧
  ∀ ps : List (Str × D), ps.Perm ks → ps.Pairwise (fun a b => WS.below a.1 b.1 = true) → P (.lst (ps.map fun e => .tup [.str e.1, e.2])) S1
section
variable {X : Cx} {K : PySem.W.Frag} {a o : Expr} {pos p apos ip : Pos} {ds : DA} {da db d : DE}
open Classical in
/-! ### xs.clear() -/
def dClear (a : DE) : DE := fun ρ S P => a ρ S fun x S1 => match x with
  | .obj l => (match S1 l with
    | some (.lst ds) => P .non (supd S1 l (.lst []))
    | _ => False)
  | _ => False
/-! ### "..".join(xs) -/
def dJoin (d1 d2 : DE) : DE := fun ρ S P => d1 ρ S fun x S1 => match x with
  | .str z => d2 ρ S1 fun y S2 => match (lstOf S2 y).bind dStrs with
    | some ys => (ys.map (·.length)).sum + ys.length * z.length ≤ 16777216 ∧ P (.str (Str.join z ys)) S2
    | none => False
  | _ => False

end
end DL

/-! len(o) of an own instance; a new list that may change or not; sorted(..) as a list that changes. -/
namespace DL
open PySem PySem.Spec PyProof.Rows L2
section
variable {prog : Program} {w : World} {A : Around} {E : Value → Shared → Prop} {s : Shared} {K : PySem.W.Frag} {x C f : Addr} {ox : Obj} {od : Option Obj}
end
section
variable [CT] {X : Cx}
def dLenO (c : Nat) (sp : DSp) (a : DE) : DE := fun ρ S P => a ρ S fun x S1 => ∃ p fs, x = .obj p ∧ S1 p = some (.ins (CT.at_ c) fs) ∧ sp [.obj p] S1 fun y S2 => ∃ i : Int, y = .int i ∧ 0 ≤ i ∧ i < 2 ^ 63 ∧ P (.int i) S2
end
section
variable {X : Cx} {K : PySem.W.Frag} {a e : Expr} {pos p : Pos} {ds : DA} {d : DE}
/-- z[lo:hi] of a text -/
def dSlT (d : DE) (lo hi : DO) : DE := fun ρ S P => d ρ S fun x S1 => lo ρ S1 fun l S2 => hi ρ S2 fun u S3 => match x with
  | .str z => z.length ≤ 100000 ∧ P (.str (cutS z l u)) S3
  | _ => False
end
end DL

/-! min(xs, key=lambda x: ..): the lambda is made, its code object found in the table or laid there. -/
namespace LamD
open PySem PySem.Spec PyProof.Rows L2 LamX NdefX
/-- a lambda's words, its code object; it captures nothing -/
structure LF where
  qual : Str
  params : Arguments
  body : Expr
  scope : Scope
  c : Addr
/-- the object at f is the lambda F -/
def LamO (f : Addr) (F : LF) : HO := .ext fun h => ∃ (pm ctv : Value), h.get? f = some (PySem.W.kla_obj "<lambda>" F.qual F.params F.body F.scope [] pm F.c ctv)
/-- what the making of a lambda does to the heap: its code object found in the table, or laid there -/
structure LamStep (P : Addr) (q : Str) (f : Addr) (F : LF) (H H1 : Hp) : Prop where
  nf : H f = none
  ex : (∃ pos ps, H P = some (.tbl ps) ∧ codeAmong pos ps.toList = some (.ref F.c) ∧ H1 = upd H f (LamO f F)) ∨
    (∃ (pos : Pos) (ps : Array Value), H P = some (.tbl ps) ∧ TriplesOk ps.toList ∧ H F.c = none ∧ F.c ≠ f ∧ H1 = upd (upd (upd H P (.tbl (ps ++ #[rawInt pos.line, rawInt pos.col, .ref F.c]))) F.c (CodeO F.c q)) f (LamO f F))
section
variable {X : Cx} {pins : List (Addr × Obj)} {σ : L2.St} {H : Hp} {s : Shared}
end
end LamD
namespace DL
open PySem PySem.Spec PyProof.Rows L2 LamX LamD
theorem supd_id {S : Store} {p : Addr} {m : MO} (e : S p = some m) : supd S p m = S := by
  funext z
  unfold supd
  split
  · rename_i h; subst h; exact e.symm
  · rfl
end DL

/-! The law's end where a lambda's table of code objects may grow; a method that makes a lambda. -/
namespace LamD
open PySem PySem.Spec PyProof.Rows L2 LamX
end LamD
namespace DL
open PySem PySem.Spec PyProof.Rows L2 LamX LamD
section
variable {P : Program} {w : World} {K : PySem.W.Frag} {mg : Str → Option Value} {base : Heap}
end
end DL
namespace DL
open PySem PySem.Spec PyProof.Rows L2
/-- o.f, o.g, o.h = x, y, z -/
def dFld3 [CT] (c : Nat) (f g k : Str) (i : Nat) (da db dc : DE) : DS := fun DD ρ S => da ρ S fun x S1 => db ρ S1 fun y S2 => dc ρ S2 fun z S3 => ∃ p fs, ρ[i]? = some (some (.obj p)) ∧ S3 p = some (.ins (CT.at_ c) fs) ∧ fs.length < 900 ∧
  DD.nx ρ (supd S3 p (.ins (CT.at_ c) (putD k z (putD g y (putD f x fs)))))
section
variable [CT] {X : Cx} {a b e : Expr} {c : Nat} {f g k x y z : Str} {pos p1 p2 p3 p4 p5 p6 pt pt2 : Pos} {da db dc : DE} {kt k2}
theorem js_fld3 (i : Nat) (cl : Cls X.K (CT.at_ c)) (n1 : NoAttr X.K (CT.at_ c) f) (n2 : NoAttr X.K (CT.at_ c) g) (n3 : NoAttr X.K (CT.at_ c) k) (h1 : PE X (.Name x p1) (tVar i)) (h2 : PE X (.Name y p3) (tVar i)) (h3 : PE X (.Name z p5) (tVar i)) (hc : X.calm = true) (ha : JE X a da) (hb : JE X b db) (hd : JE X e dc)
    (hst : starEach [a, b, e] X.env = (false, eval a X.env) :: starEach [b, e] X.env := by rfl) (hst2 : starEach [b, e] X.env = (false, eval b X.env) :: starEach [e] X.env := by rfl) (hst3 : starEach [e] X.env = (false, eval e X.env) :: starEach [] X.env := by rfl)
    (ha1 : (assignEach [.Attribute (.Name x p1) f p2, .Attribute (.Name y p3) g p4, .Attribute (.Name z p5) k p6] X.env).map (·.2) = assign (.Attribute (.Name x p1) f p2) X.env :: (assignEach [.Attribute (.Name y p3) g p4, .Attribute (.Name z p5) k p6] X.env).map (·.2) := by rfl)
    (ha2 : (assignEach [.Attribute (.Name y p3) g p4, .Attribute (.Name z p5) k p6] X.env).map (·.2) = assign (.Attribute (.Name y p3) g p4) X.env :: (assignEach [.Attribute (.Name z p5) k p6] X.env).map (·.2) := by rfl)
    (ha3 : (assignEach [.Attribute (.Name z p5) k p6] X.env).map (·.2) = assign (.Attribute (.Name z p5) k p6) X.env :: (assignEach [] X.env).map (·.2) := by rfl)
    (hn : (assignEach [.Attribute (.Name x p1) f p2, .Attribute (.Name y p3) g p4, .Attribute (.Name z p5) k p6] X.env).length = 3 := by rfl) (hfi : (assignEach [.Attribute (.Name x p1) f p2, .Attribute (.Name y p3) g p4, .Attribute (.Name z p5) k p6] X.env).findIdx? (·.1) = none := by rfl)
    (hs : swapsWithSole [.Tuple [.Attribute (.Name x p1) f p2, .Attribute (.Name y p3) g p4, .Attribute (.Name z p5) k p6] kt pt] (.Tuple [a, b, e] k2 pt2) pos.line X.env = pure false := by rfl) (hw : swappedStores [.Tuple [.Attribute (.Name x p1) f p2, .Attribute (.Name y p3) g p4, .Attribute (.Name z p5) k p6] kt pt] (.Tuple [a, b, e] k2 pt2) X.env = pure none := by rfl)
    (h0 : (assignEach [.Tuple [.Attribute (.Name x p1) f p2, .Attribute (.Name y p3) g p4, .Attribute (.Name z p5) k p6] kt pt] X.env).map (·.2) = [assign (.Tuple [.Attribute (.Name x p1) f p2, .Attribute (.Name y p3) g p4, .Attribute (.Name z p5) k p6] kt pt) X.env] := by rfl) :
    JS X (.Assign [.Tuple [.Attribute (.Name x p1) f p2, .Attribute (.Name y p3) g p4, .Attribute (.Name z p5) k p6] kt pt] (.Tuple [a, b, e] k2 pt2) pos) (dFld3 c f g k i da db dc) :=
  js_of (ps_asg (pe_tup (pa_cons ha (pa_cons hb (pa_cons hd pa_nil hst3) hst2) hst)) (pg_tup hc (pgs_cons (pg_fld h1) (pgs_cons (pg_fld h2) (pgs_cons (pg_fld h3) pgs_nil ha3) ha2) ha1) hn hfi) hs hw h0) fun D σ H h0_ => El54 h0_ fun ρ I S F DD rs ok h q =>
    ⟨ρ, I, S, F, _, rs, ok, h, fun x S1 v I1 H1 h1 e1 ok1 r1 => ⟨ρ, I1, S1, F, _, rs.mono e1, ok1, h1, fun y S2 w I2 H2 h2 e2 ok2 r2 => ⟨ρ, I2, S2, F, _, (rs.mono e1).mono e2, ok2, h2, fun z S3 u I3 H3 ⟨p, fs, ei, es, hl, h4⟩ e3 ok3 r3 => ⟨by show 3 ≤ sizeLine; decide, fun t ht => by
      have ok4 := ok3.newI (o := .tup [v, w, u]) ht
      have e4 : Same I3 (upd I3 t (.tup [v, w, u])) := same_new (ok3.freshI ht)
      refine ⟨t, [v, w, u], rfl, .inl (.inl upd_same), rfl, ?_⟩
      obtain ⟨dx, vs, hp, hd, rf⟩ := ok4.insAt es
      have ok5 := ok4.putIns (f := f) es hp hd rf (((r1.mono e2).mono e3).mono e4)
      have rs4 := rs.mono (((e1.trans e2).trans e3).trans e4)
      obtain ⟨s0, hu, ru⟩ := rs4.2 i _ ei
      have es5 : (supd S3 p (.ins (CT.at_ c) (putD f x fs))) p = some (.ins (CT.at_ c) (putD f x fs)) := by unfold supd; rw [if_pos rfl]
      have l5 := putD_len f x fs
      obtain ⟨dx5, vs5, hp5, hd5, rf5⟩ := ok5.insAt es5
      have ok6 := ok5.putIns (f := g) es5 hp5 hd5 rf5 ((r2.mono e3).mono e4)
      rw [supd_twice] at ok6
      have es6 : (supd S3 p (.ins (CT.at_ c) (putD g y (putD f x fs)))) p = some (.ins (CT.at_ c) (putD g y (putD f x fs))) := by unfold supd; rw [if_pos rfl]
      have l6 := putD_len g y (putD f x fs)
      obtain ⟨dx6, vs6, hp6, hd6, rf6⟩ := ok6.insAt es6
      have ok7 := ok6.putIns (f := k) es6 hp6 hd6 rf6 (r3.mono e4)
      rw [supd_twice] at ok7
      refine ⟨v, [w, u], rfl, s0, hu, p, _, dx, vs, ru.obj_of, hp, cl, n1, by rw [rf.len]; omega, w, [u], rfl, s0, hu, p, _, dx5, vs5, ru.obj_of, hp5, cl, n2, by rw [rf5.len]; omega, u, [], rfl, s0, hu, p, _, dx6, vs6, ru.obj_of, hp6, cl, n3, by rw [rf6.len]; omega, rfl, ?_⟩
      exact q.nx _ _ _ _ _ h4 (((e1.trans e2).trans e3).trans e4) ok7 rs4⟩⟩⟩⟩
end
end DL

/-! Own exception classes over any built-in one: made by their own __init__. -/
namespace XF
open PySem
/-- the __init__ of a built-in exception class, which is BaseException's -/
structure Ix (B initId : String) : Prop where
  slot : Slot B (Str.ofString "__init__") initId
  entry : entryFor table initId = some Builtin.«BaseException.__init__»
  split : splitId initId = some (B, "__init__")
  kind : builtinKind initId = some Manifest.AttrKind.slot
  row : Manifest.signature? initId = some { machinery := Manifest.Machinery.positional, full := "*", short := B, receiver := Manifest.Receiver.self, params := [{ name := "args", kind := Manifest.ParamKind.varPos, required := false }] }
  star : (B != "*") = true
theorem Ix.of {B newId initId : String} {bm : List Value} (F : ExcBaseFacts B newId initId bm) : Ix B initId := ⟨F.init, F.initEntry, F.initSplit, F.initKind, F.initRow, F.noStar⟩
/-- what a built-in exception class is known by: the class N of its __new__, its own __init__, its classes bmB -/
structure Bx (B initId N newId : String) (bmB : List Value) : Prop where
  fb : ∃ initN bmN, ExcBaseFacts N newId initN bmN
  ix : Ix B initId
  sf : StoreFacts B bmB "object.__setattr__" "object"
  ty : typeOf (.type B) = pure (.type "type")
  st : Manifest.isStub B = false
  hi : PySem.W.handedIn (.builtin initId) = true
  cN : bmB.contains (.type N) = true
  cB : bmB.contains (.type B) = true
  nA : bmB.contains (.type "AttributeError") = false
  nN : bmB.contains (.type "NameError") = false
open Builtin Builtin.ObjectAttr PySem.HandSPX
section
variable {M : Model} {A : Around} {E : Value → Shared → Prop} {h : Heap} {g : Array GenState} {d : Drawn} {t : Nat} {os : OsState}
variable {nm q : Str} {C N : Addr} {bs bm bmB : List Value} {hdct : Bool} {sn : List Str} {sub : List Value} {ab : Bool} {col : Option Bool} {dd : Option Addr} {k0 k1 k2 k3 k5 : Option Value} {B BN newId initId : String}
end
section
variable {prog : Program} {w : World} {A : Around} {E : Value → Shared → Prop} {R : Result → Shared → Prop} {h : Heap} {g : Array GenState} {d : Drawn} {t : Nat} {os : OsState}
variable {nm q : Str} {C N : Addr} {bs bm bmB : List Value} {hdct : Bool} {sn : List Str} {sub : List Value} {ab : Bool} {col : Option Bool} {dd : Option Addr} {k0 k1 k2 k3 k5 : Option Value} {B BN newId initId : String}
end
end XF
namespace DG
open PySem PySem.Spec PyProof.Rows L2 XF
/-- an own class over such a one -/
structure Ox (K : PySem.W.Frag) (C : Addr) (B initId BN newId : String) (bmB : List Value) : Prop where
  bx : Bx B initId BN newId bmB
  xi : PySem.W.excInitIn K C bmB newId = true
  xo : PySem.W.excOver K C bmB = true
  hd : PySem.W.hasDictIn K C = true
  sa : PySem.W.findIn K (.ref C) "__setattr__" = some (some (.builtin "object.__setattr__"))
  exC : PySem.W.subIn K (.ref C) (.type "BaseException") = some true
  tyC : PySem.W.typeIn K (.ref C) = some (.type "type")
  kC : PySem.W.keepIn K (.ref C) = true
section
open PySem.W PySem.Calls PySem.HandSPX Builtin Builtin.ObjectAttr
variable {prog : Program} {w : World} {A : Around} {R : Result → Shared → Prop} {hp : Heap} {g : Array GenState} {d : Drawn} {t : Nat} {os : OsState} {B initId BN newId : String} {bmB : List Value}
end
section
variable {X : Cx} {pins : List (Addr × Obj)} {σ : L2.St} {H : Hp} {s : Shared} {a C dx : Addr} {f : Str} {y : V} {u : Value} {Q : Unit → Shared → Prop} {E : Value → Shared → Prop} {A : Around} {B initId BN newId : String} {bmB : List Value}
end
section
variable {X : Cx} {o e : Expr} {es : List Expr} {to te : TE} {ta : TA} {f : Str} {p p' p1 p2 pos : Pos} {B initId BN newId : String} {bmB : List Value} {BS : Str}
end
section
variable {X : Cx} {e : Expr} {es : List Expr} {ta : TA} {p pos : Pos} {B initId BN newId : String} {bmB : List Value}
end
/-! ### the two kinds of such an __init__ -/
/-- self, y: y is kept under the name g -/
def spX1 (K : PySem.W.Frag) (B initId BN newId : String) (bmB : List Value) (g : Str) : Sp := fun vs H Q _ => ∃ (a C : Addr) (v : V), vs = [.ref a, v] ∧ Ox K C B initId BN newId bmB ∧ PySem.W.takerIn K C g = some none ∧ H a = some (exo a C none) ∧
  ∀ dx, H dx = none → dx ≠ a → Q .non (upd (upd H dx (exd dx [(g, v)])) a (exo a C (some dx)))
def spX0 (K : PySem.W.Frag) (B initId BN newId : String) (bmB : List Value) : Sp := fun vs H Q _ => ∃ (a C : Addr), vs = [.ref a] ∧ Ox K C B initId BN newId bmB ∧ H a = some (exo a C none) ∧ Q .non H
section
variable {P : Program} {w : World} {K : PySem.W.Frag} {mg : Str → Option Value} {base : Heap} {B initId BN newId : String} {bmB : List Value} {BS x y g qual : Str} {st : Stmt} {f : Addr} {fd : FuncData}
end
end DG

/-! try / except: what was caught is known from then on. -/
namespace DG
open PySem PySem.Spec PyProof.Rows L2
section
variable {X : Cx} {pins : List (Addr × Obj)} {σ : L2.St} {H : Hp} {s : Shared} {a : Addr} {o : HO}
end
/-- one clause: what its test tells of a class, the name's slot, its suite -/
structure HX where
  mt : Value → Option Bool
  i : Option Nat
  ts : Addr → Value → Option Addr → TS
/-- the test of a clause -/
def TestX (X : Cx) (te : Expr) (mt : Value → Option Bool) : Prop := ∀ (a : Addr) (oe : Obj) (pn : List (Addr × Obj)) (σ : L2.St) (H : Hp) (s : Shared) (Q : Bool → Shared → Prop) (E : Value → Shared → Prop) (b : Bool) (cls : Value), Inv (X.suite a ((a, oe) :: pn)) [] σ H s →
  PySem.W.Looks (model X.prog X.w) s.heap (typeOf (.ref a)) cls → mt cls = some b → (∀ h', s.heap.StaysIn h' → Q b { s with heap := h' }) →
  wpAny (model X.prog X.w) (X.A.mark (some (.ref a))) (eval te X.env) (fun c s₁ => wpAny (model X.prog X.w) (X.A.mark (some (.ref a))) (excMatches (.ref a) c) Q E s₁) E s
section
variable {X : Cx}
theorem Names.suite {x : Str} {c : Value} {a : Addr} {pn : List (Addr × Obj)} (h : Names X x c) : Names (X.suite a pn) x c := h
end
/-- the clauses -/
inductive HdX (X : Cx) : List ExceptHandler → List HX → Prop
  | nil : HdX X [] []
  | only {te : Expr} {mt : Value → Option Bool} {ts : Addr → Value → Option Addr → TS} {b₀ : Stmt} {suite : List Stmt} {pos' : Pos} {hds : List ExceptHandler} {l : List HX} (ht : TestX X te mt)
      (hsu : ∀ (a : Addr) (oe : Obj) (cls : Value) (d : Option Addr) (pn : List (Addr × Obj)), Zc cls d oe → (∃ vs, oe.data = .fields vs) → PSs (X.suite a ((a, oe) :: pn)) (b₀ :: suite) (ts a cls d)) (r : HdX X hds l) :
      HdX X (.ExceptHandler (some te) none (b₀ :: suite) pos' :: hds) (⟨mt, none, ts⟩ :: l)
  | as {te : Expr} {mt : Value → Option Bool} {ts : Addr → Value → Option Addr → TS} {n : Str} {i : Nat} {b₀ : Stmt} {suite : List Stmt} {pos' : Pos} {hds : List ExceptHandler} {l : List HX} (hi : X.N[i]? = some n) (hln : X.env.kindOf n = some .local) (ht : TestX X te mt)
      (hsu : ∀ (a : Addr) (oe : Obj) (cls : Value) (d : Option Addr) (pn : List (Addr × Obj)), Zc cls d oe → (∃ vs, oe.data = .fields vs) → PSs (X.suite a ((a, oe) :: pn)) (b₀ :: suite) (ts a cls d)) (r : HdX X hds l) :
      HdX X (.ExceptHandler (some te) (some n) (b₀ :: suite) pos' :: hds) (⟨mt, some i, ts⟩ :: l)
section
variable {X : Cx} {body : List Stmt} {h₀ : ExceptHandler} {hds : List ExceptHandler} {l : List HX} {pos : Pos} {tb : WX → TS} {Wout : WX}
end
end DG

/-! Data: statements that may raise, defs that may, try. -/
namespace DG
open PySem PySem.Spec PyProof.Rows L2
section
variable {X : Cx} {CX : CXT} {k : Nat} {f C : Addr} {fd : FuncData} {ps : List Str} {sp : Sp} {E : L2.St → XK} {x m : Str} {p pos apos : Pos} {e o : Expr} {es : List Expr} {ta : TE} {t : TA}
end
end DG
namespace DL
open PySem PySem.Spec PyProof.Rows L2
abbrev DX := Nat → Option Addr → DSt → Store → Prop
section
variable [CT] {K : PySem.W.Frag} {I I' F : Hp}
def SeesW (K : PySem.W.Frag) (I F : Hp) (xc : DX) (W : WX) : Prop := ∀ n d ρ S' σ I' H', xc n d ρ S' → Same I I' → Ok K I' S' F H' → RepS K I' ρ σ → W (.ref (CT.at_ n)) d σ H'
theorem SeesW.mono {xc : DX} {W : WX} (h : SeesW K I F xc W) (e : Same I I') : SeesW K I' F xc W := fun n d ρ S' σ I2 H' q e2 => h n d ρ S' σ I2 H' q (e.trans e2)
theorem SeesW.no {W : WX} : SeesW K I F (fun _ _ _ _ => False) W := fun _ _ _ _ _ _ _ h => h.elim
end
section
variable [CT]
variable {X : Cx} {W : WX} {pos : Pos} {st : Stmt} {sts : List Stmt} {t u : DS} {e : Expr} {de : DE} {dc : DT}
/-- the class number n, called x, is made of one thing, kept as g -/
structure Mk1 (P : Program) (w : World) (K : PySem.W.Frag) (mg : Str → Option Value) (base : Heap) (n : Nat) (x g : Str) : Prop where
  m : mg x = some (.ref (CT.at_ n))
  ex : ∃ B initId BN newId bmB f fd y, DG.Ox K (CT.at_ n) B initId BN newId bmB ∧ PySem.W.findIn K (.ref (CT.at_ n)) "__init__" = some (some (.ref f)) ∧ PySem.W.typeIn K (.ref f) = some (.type "function") ∧
    DG.FnG P w K mg base CX0 1 f fd ["self", y] (DG.spX1 K B initId BN newId bmB g) ∧ Binds K fd ["self", y] [] ∧ PySem.W.takerIn K (CT.at_ n) g = some none
structure Mk0 (P : Program) (w : World) (K : PySem.W.Frag) (mg : Str → Option Value) (base : Heap) (n : Nat) (x : Str) : Prop where
  m : mg x = some (.ref (CT.at_ n))
  ex : ∃ B initId BN newId bmB f fd, DG.Ox K (CT.at_ n) B initId BN newId bmB ∧ PySem.W.findIn K (.ref (CT.at_ n)) "__init__" = some (some (.ref f)) ∧ PySem.W.typeIn K (.ref f) = some (.type "function") ∧
    DG.FnG P w K mg base CX0 1 f fd ["self"] (DG.spX0 K B initId BN newId bmB) ∧ Binds K fd ["self"] []
end
/-! ### defs that may raise -/
abbrev DPX := Nat → Option Addr → Store → Prop
abbrev DSpX := List D → Store → (D → Store → Prop) → DPX → Prop
section
variable [CT]
def SeesE (K : PySem.W.Frag) (I F : Hp) (px : DPX) (E : XK) : Prop := ∀ n d S' I' H', px n d S' → Same I I' → Ok K I' S' F H' → E (.ref (CT.at_ n)) d H'
def upSpX (K : PySem.W.Frag) (d : DSpX) : Sp := fun vs H Q E => ∃ ds I S F P px, RepL K I ds vs ∧ Ok K I S F H ∧ d ds S P px ∧ Sees K I F P Q ∧ SeesE K I F px E
abbrev FnX (P : Program) (w : World) (K : PySem.W.Frag) (mg : Str → Option Value) (base : Heap) (k : Nat) (f : Addr) (fd : FuncData) (ps : List Str) (sp : DSpX) : Prop := DG.FnG P w K mg base (L2.CX P w) k f fd ps (upSpX K sp)
/-! ### calls of such -/
abbrev DEX := DSt → Store → (D → Store → Prop) → DPX → Prop
structure DoesX (P : Program) (w : World) (K : PySem.W.Frag) (mg : Str → Option Value) (base : Heap) (k : Nat) (x : Str) (ps : List Str) (f : Addr) (fd : FuncData) (sp : DSpX) : Prop where
  g : mg x = some (.ref f)
  kp : PySem.W.keepIn K (.ref f) = true
  b : Binds K fd ps []
  ok : FnX P w K mg base k f fd ps sp
structure DoesMX (P : Program) (w : World) (K : PySem.W.Frag) (mg : Str → Option Value) (base : Heap) (k : Nat) (c : Nat) (m : Str) (ps : List Str) (f : Addr) (fd : FuncData) (sp : DSpX) : Prop where
  cl : Cls K (CT.at_ c)
  mt : Meth K (CT.at_ c) m f
  b : Binds K fd ps []
  ok : FnX P w K mg base k f fd ps sp
variable {X : Cx} {W : WX} {pos apos p : Pos} {e o a : Expr} {es : List Expr} {da : DE} {ds : DA} {k j c : Nat} {x m : Str} {ps : List Str} {f : Addr} {fd : FuncData} {sp : DSpX} {de : DEX}
/-! ### try -/
/-- a clause: the classes it takes, its name's slot, its suite by the exception's place and its dict's -/
structure HD where
  ms : List Nat
  i : Option Nat
  su : Addr → Option Addr → DS
inductive HdD (X : Cx) (ns : List Nat) : List ExceptHandler → List HD → Prop
  | nil : HdD X ns [] []
  | only {te : Expr} {mt : Value → Option Bool} {ms : List Nat} {su : DS} {b₀ : Stmt} {suite : List Stmt} {pos' : Pos} {hds : List ExceptHandler} {l : List HD} (ht : DG.TestX X te mt) (hm : ∀ n, n ∈ ns → mt (.ref (CT.at_ n)) = some (decide (n ∈ ms)))
      (hsu : ∀ (a : Addr) (oe : Obj) (pn : List (Addr × Obj)), JSs (X.suite a ((a, oe) :: pn)) (b₀ :: suite) su) (r : HdD X ns hds l) :
      HdD X ns (.ExceptHandler (some te) none (b₀ :: suite) pos' :: hds) (⟨ms, none, fun _ _ => su⟩ :: l)
  | as {te : Expr} {mt : Value → Option Bool} {ms : List Nat} {su : Addr → Option Addr → DS} {nm : Str} {i : Nat} {b₀ : Stmt} {suite : List Stmt} {pos' : Pos} {hds : List ExceptHandler} {l : List HD} (hi : X.N[i]? = some nm) (hln : X.env.kindOf nm = some .local)
      (ht : DG.TestX X te mt) (hm : ∀ n, n ∈ ns → mt (.ref (CT.at_ n)) = some (decide (n ∈ ms)))
      (hsu : ∀ (a : Addr) (oe : Obj) (n : Nat) (d : Option Addr) (pn : List (Addr × Obj)), n ∈ ns → Zc (.ref (CT.at_ n)) d oe → (∃ vs, oe.data = .fields vs) → JSs (X.suite a ((a, oe) :: pn)) (b₀ :: suite) (su a d)) (r : HdD X ns hds l) :
      HdD X ns (.ExceptHandler (some te) (some nm) (b₀ :: suite) pos' :: hds) (⟨ms, some i, su⟩ :: l)
end
end DL

/-! What is asked of caught errors: their fields, isinstance. -/
namespace DL
open PySem PySem.Spec PyProof.Rows L2
/-- what the written part says of an own exception class -/
structure XkC (K : PySem.W.Frag) (C : Addr) : Prop where
  f : XfC K C
  cl : (PySem.W.clsIn K C).isSome = true
  ha : PySem.W.findIn K (.ref C) "__class__" = some (some (.builtin "object.__class__"))
  hn : PySem.W.specialIn K (.builtin "object.__class__") "__get__" = some (some (.builtin "getset_descriptor.__get__"))
  ht : PySem.W.takesIn K (.builtin "object.__class__") = some true
  hm : PySem.W.mroIn K C (.type "object") = some true
section
variable [CT] {X : Cx}
structure IxC (K : PySem.W.Frag) (u : Value) (tab : List (Nat × Bool)) : Prop where
  n : PySem.W.kitOne K (.type "NoneType") u = some false
  t : ∀ n b, tab.lookup n = some b → PySem.W.kitOne K (.ref (CT.at_ n)) u = some b ∧ XkC K (CT.at_ n)
end
section
variable [CT] {K : PySem.W.Frag} {u : Value} {tab : List (Nat × Bool)}
end
end DL


/-! Sets of keys: set comprehensions, set(list of texts), how many there are. -/
namespace L2
open PySem PySem.Spec PyProof.Rows PpSet
/-! ### how many unlike ones -/
def addD {κ : Type} [DecidableEq κ] (l : List κ) (k : κ) : List κ := if k ∈ l then l else l ++ [k]
def distD {κ : Type} [DecidableEq κ] (l : List κ) : List κ := l.foldl addD []
section
variable {κ : Type} [DecidableEq κ] {l : List κ} {k z : κ}
theorem addD_mem : z ∈ addD l k ↔ z ∈ l ∨ z = k := by
  unfold addD
  split
  · rename_i h
    exact ⟨.inl, fun h' => h'.elim id fun e => e ▸ h⟩
  · simp
def memD (l : List κ) (k : κ) : Bool := l.any fun y => decide (y = k)
theorem memD_iff {l : List κ} {k : κ} : memD l k = true ↔ k ∈ l := by
  unfold memD
  rw [List.any_eq_true]
  exact ⟨fun ⟨y, h, e⟩ => of_decide_eq_true e ▸ h, fun h => ⟨k, h, decide_eq_true rfl⟩⟩
theorem memD_add {l : List κ} {k z : κ} : memD (addD l k) z = (memD l z || decide (z = k)) := by
  rw [Bool.eq_iff_iff, memD_iff, addD_mem, Bool.or_eq_true, memD_iff, decide_eq_true_eq]
theorem distD_snoc : distD (l ++ [k]) = addD (distD l) k := by unfold distD; rw [List.foldl_append]; rfl
theorem distD_mem (l : List κ) : z ∈ distD l ↔ z ∈ l := by
  have key : ∀ (l acc : List κ), z ∈ l.foldl addD acc ↔ z ∈ acc ∨ z ∈ l := by
    intro l
    induction l with
    | nil => intro acc; simp
    | cons a l ih =>
      intro acc
      rw [List.foldl_cons, ih, addD_mem, List.mem_cons, or_assoc]
  unfold distD
  rw [key]
  simp
theorem distD_len (l : List κ) : (distD l).length ≤ l.length := by
  have key : ∀ (l acc : List κ), (l.foldl addD acc).length ≤ acc.length + l.length := by
    intro l
    induction l with
    | nil => intro acc; simp
    | cons a l ih =>
      intro acc
      have h1 := ih (addD acc a)
      have h2 : (addD acc a).length ≤ acc.length + 1 := by unfold addD; split <;> simp
      rw [List.foldl_cons, List.length_cons]
      omega
  have := key l []
  simpa [distD] using this
end
/-! ### set(list of texts) -/
section
variable {prog : Program} {w : World} {A : Around} {Rs : Result → Shared → Prop} {it : Addr} {fq fw : List Addr} {Gs : Array GenState → Array GenState → Prop} {n : Nat} {P : Nat → Value → Prop} {Sts : Nat → Shared → Prop}
end
section
variable {prog : Program} {w : World} {A : Around} {E0 : Value → Shared → Prop} {s : Shared}
set_option maxHeartbeats 8000000 in
end
section
variable {X : Cx}
end
/-! ### set comprehensions -/
theorem setK_fresh {P : Program} {w : World} (h : Heap) : (h.push { cls := .type "set", dict := none, data := .set #[] 0 (.fresh 0 0 (!w.params.followText "set-order")) }).SetOf (mixKind P w) h.objs.size (fun _ => false) 0 :=
  ⟨_, #[], 0, _, Heap.get?_push_size _ rfl, ⟨rfl, rfl, rfl⟩, rfl, (fun e he => by simp at he), (fun k => by simp), (by decide), (by rfl), rfl⟩
section
variable {X : Cx}
/-- {elt for target in iter if ..}, each a key -/
def tScK (P : Program) (w : World) (ti : TI) (g : TG) (tt : TT) (te : TE) (vs : List Nat) : TE := fun σ H Q => ti σ H fun J M => ∀ Z, M Z = none → ∃ W : Nat → Nat → Hp → Prop, (∃ m, W 0 m (upd M Z (SetK P w Z (fun _ => false) 0))) ∧ ∀ i m H, W i m H →
  (J.stop i H ∧ Q (.ref Z) H) ∨ (J.go i H ∧ ∃ Nx : Hp → Prop, (∀ H', Nx H' → ∃ m', m' < m ∧ W (i + 1) m' H') ∧ ∀ x H', J.yld i H x H' → g x (wipe σ vs) H' fun σ2 H2 => wipe σ2 vs = wipe σ vs ∧ tt σ2 H2 fun b H3 =>
    if b = true then te σ2 H3 fun y H4 => ∃ (ky : Key) (S : Key → Bool) (n : Nat), y = kV ky ∧ H4 Z = some (SetK P w Z S n) ∧ n + 1 < scanBound ∧ Nx (upd H4 Z (SetK P w Z (fun j => S j || decide (j = ky)) (if S ky = true then n else n + 1))) else Nx H3)
theorem sck_core {pn : List (Addr × Obj)} {s : Shared} {σ : L2.St} {H : Hp} {Q : VK} {el tgt itr : Expr} {ifz : List Expr} {sc : Scope} {ow : List (Str × Nat)} {po pos' : Pos} {ti : TI} {g : TG} {tt : TT} {te : TE} {us : Option (Value → Sem Unit)} {QF : Value → Shared → Prop}
    (hc : X.calm = true) (hN : X.N.Nodup) (I : Inv X pn σ H s) (hi : PI X tgt itr ti) (ok : BlkOk X.N X.env.scope sc ow)
    (hg : ∀ (s : Shared) (H : Hp) (C : Addr) (cl : List (PySem.Str × Addr)) (fq : List Addr), PG (X.blk s H sc (compEnvC sc cl C X.env) fq) tgt g) (ht : ∀ (s : Shared) (H : Hp) (C : Addr) (cl : List (PySem.Str × Addr)) (fq : List Addr), PTs (X.blk s H sc (compEnvC sc cl C X.env) fq) ifz tt)
    (he : ∀ (s : Shared) (H : Hp) (C : Addr) (cl : List (PySem.Str × Addr)) (fq : List Addr), PE (X.blk s H sc (compEnvC sc cl C X.env) fq) el te) (hs : ∀ x, foldedSetIterable itr X.env x = pure x)
    (h : tScK X.prog X.w ti g tt te (ow.map (·.2)) σ H Q)
    (hEnd : ∀ D C s' m H', Inv X pn σ H' s' → Q (.ref D) H' → s'.heap.Ns C m → FpOk X pn H' C → compPost (model X.prog X.w) X.A X.xe us QF (.ref D) C (.ok .next) s') :
    wpAny (model X.prog X.w) X.A (comprehension (.SetComp el [⟨tgt, itr, ifz, 0⟩] sc po) sc X.env pos' (newSet (.type "set")) false (eval itr X.env) us) QF X.xe s := by
  have hfr : ∀ z ∈ sc.names, z.2 = .free → ∃ c, X.env.cells.lookup z.1 = some c := fun z hz e => by
    rcases ok.free z hz e with kk | kk
    · exact I.ok.has _ (.inl kk)
    · exact I.ok.has _ (.inr kk)
  refine wpAny_comprehension_free (use := us) rfl hs (closure_ok hfr) ok.kind (fun z hz e => by rw [ok.uniq z hz, e])
    (thn (hi.run pn s σ H _ I h) fun xv s1 hx => thn hx fun itv t2 h2 => ?_)
  obtain ⟨it, fq, tn, J, M2, e, J2, T, b2, f2, q⟩ := h2
  subst e
  refine newSet_ok (newEnv_comp ?_)
  generalize eD : t2.heap.objs.size = D
  have hDn : M2 D = none := J2.hok.fresh (Nat.le_of_eq eD)
  obtain ⟨W, ⟨m0, w0⟩, go1⟩ := q D hDn
  generalize hs3 : ({ t2 with heap := t2.heap.push { cls := .type "set", dict := none, data := .set #[] 0 (.fresh 0 0 (!X.w.params.followText "set-order")) } } : Shared) = t3
  have J3 : Inv X pn σ (upd M2 D (SetK X.prog X.w D (fun _ => false) 0)) t3 := by
    rw [← hs3]
    refine J2.laid (t' := t2.toks) (fun b o e => Heap.get?_push_of_some _ e) (Nat.le_of_eq eD) ?_
    rw [← eD]
    exact setK_new (setK_fresh t2.heap)
  have h3 : t3.heap = t2.heap.push { cls := .type "set", dict := none, data := .set #[] 0 (.fresh 0 0 (!X.w.params.followText "set-order")) } := by rw [← hs3]
  have below : ∀ b ∈ fq, b < t2.heap.objs.size := fun b hb => by
    obtain ⟨o, e, _⟩ := T.obj _ _ b2 b hb
    exact Heap.lt_size e
  have f3 : ∀ b ∈ fq, FpOk X pn (upd M2 D (SetK X.prog X.w D (fun _ => false) 0)) b ∧ b < t3.heap.objs.size := fun b hb => by
    have hlt := below b hb
    refine ⟨⟨?_, (f2 b hb).2⟩, by rw [h3, Heap.size_push]; exact Nat.lt_succ_of_lt hlt⟩
    rw [upd_ne (by rw [← eD]; exact Nat.ne_of_lt hlt)]
    exact (f2 b hb).1
  have b3 : tn 0 t3.heap := T.keep _ _ _ b2 fun b _ o e => by rw [h3]; exact Heap.get?_push_of_some _ e
  have J4 := block_start J3 ok hN f3
  have qg := hg t3 (upd M2 D (SetK X.prog X.w D (fun _ => false) 0)) t3.heap.objs.size (cellsFrom (t3.heap.objs.size + 1) sc.names (cloFrom X.env.cells sc.names [])) fq
  have qt := ht t3 (upd M2 D (SetK X.prog X.w D (fun _ => false) 0)) t3.heap.objs.size (cellsFrom (t3.heap.objs.size + 1) sc.names (cloFrom X.env.cells sc.names [])) fq
  have qe := he t3 (upd M2 D (SetK X.prog X.w D (fun _ => false) 0)) t3.heap.objs.size (cellsFrom (t3.heap.objs.size + 1) sc.names (cloFrom X.env.cells sc.names [])) fq
  show codeAny _ _ (.compStart (.SetComp el [⟨tgt, itr, ifz, 0⟩] sc po) 0 (.ref it) (.ref D) (compEnvC sc (cellsFrom (t3.heap.objs.size + 1) sc.names (cloFrom X.env.cells sc.names [])) t3.heap.objs.size X.env)) (compPost (model X.prog X.w) X.A X.xe us QF (.ref D) t3.heap.objs.size) { t3 with heap := pushCells (t3.heap.push { cls := .type "dict", data := .dict #[] }) sc.names }
  have nfp : ∀ b ∈ fq, (upd M2 D (SetK X.prog X.w D (fun _ => false) 0)) b = none := fun b hb => (f3 b hb).1.1
  generalize hce : compEnvC sc (cellsFrom (t3.heap.objs.size + 1) sc.names (cloFrom X.env.cells sc.names [])) t3.heap.objs.size X.env = cn at J4 qg qt qe ⊢
  have cL : cn.locals = t3.heap.objs.size := by subst hce; rfl
  generalize hH3 : upd M2 D (SetK X.prog X.w D (fun _ => false) 0) = M3 at J3 J4 qg qt qe w0 nfp f3
  generalize hs4 : ({ t3 with heap := pushCells (t3.heap.push { cls := .type "dict", data := .dict #[] }) sc.names } : Shared) = t4 at J4 ⊢
  have b4 : tn 0 t4.heap := T.keep _ _ _ b3 fun b _ o e => by rw [← hs4]; exact pushCells_keeps _ _ _ _ (Heap.get?_push_of_some _ e)
  have still : ∀ {σ' : L2.St} {H' : Hp} {s' : Shared}, Inv (X.blk t3 M3 sc cn fq) [] σ' H' s' → (∀ b ∈ fq, H' b = none) → ∀ b ∈ fq, FpOk (X.blk t3 M3 sc cn fq) [] H' b := fun {σ' H' s'} J' hn b hb =>
    ⟨hn b hb, (J'.ok.exf b hb).1, J'.ok.exfs b hb, .inl hb, fun x c e => (J'.ok.exf b hb).2 x c e, fun p hp => absurd (show p ∈ ([] : List (Addr × Obj)) ++ [] from hp) (by simp)⟩
  have rounds : codeAny (model X.prog X.w) X.A (.compLoop (.SetComp el [⟨tgt, itr, ifz, 0⟩] sc po) 0 (.ref it) (.ref D) cn) (compPost (model X.prog X.w) X.A X.xe us QF (.ref D) t3.heap.objs.size) t4 := by
    refine compLoopS_any (fun n s' => ∃ i H', Inv (X.blk t3 M3 sc cn fq) [] (wipe σ (ow.map (·.2))) H' s' ∧ tn i s'.heap ∧ (∀ b ∈ fq, H' b = none) ∧ W i n H') ?_ m0 ⟨0, M3, J4, b4, nfp, w0⟩
    rintro n t5 ⟨i, M5, J5, b5, n5, w5⟩
    rcases go1 i n M5 w5 with ⟨stop, qq⟩ | ⟨go, Nx, hNx, nxt⟩
    · have td := T.done (X.blk t3 M3 sc cn fq) rfl rfl rfl hc i [] t5 _ M5 (fun _ _ => False) J5 (still J5 n5) b5 stop
      refine thnF td fun r t6 ⟨hr, J6⟩ => ?_
      subst hr
      have J7 : Inv X pn σ M5 t6 := J3.call' (ch := fq) J6.os J6.base J6.hok J6.bare fun b hb => ⟨(f3 b hb).1.2.2.2.1, (f3 b hb).1.2.1, (f3 b hb).1.2.2.2.2.1, (f3 b hb).1.2.2.2.2.2⟩
      have nC : M5 t3.heap.objs.size = none := by
        have z : M5 cn.locals = none := J6.free
        rw [cL] at z
        exact z
      obtain ⟨m, hn, _⟩ := J6.loc
      have hn : t6.heap.Ns cn.locals m := hn
      rw [cL] at hn
      exact hEnd D t3.heap.objs.size t6 m M5 J7 qq hn (J3.fpOk (Nat.le_refl _) nC)
    · have ti := T.item (X.blk t3 M3 sc cn fq) rfl rfl rfl hc i [] t5 _ M5 (fun _ _ => False) J5 (still J5 n5) b5 go
      refine thnF ti fun r t6 ⟨u, hr, h6⟩ => ?_
      subst hr
      refine thnF h6 fun _ t7 ⟨x, M7, J7, r7, y7, b7, n7⟩ => ?_
      have K7 := J7.pinned (still J7 n7) (T.obj _ _ b7)
      refine thnF (qg.run _ t7 _ M7 x u _ K7 r7 (nxt x M7 y7)) fun _ t8 ⟨σ8, M8, J8, hw8, q8⟩ => ?_
      refine thnF (qt.run _ t8 σ8 M8 _ J8 q8) fun b t9 ⟨M9, J9, q9⟩ => ?_
      have turned : ∀ {s' : Shared} {H' : Hp}, Inv (X.blk t3 M3 sc cn fq) ([] ++ pinsAt fq t7.heap) σ8 H' s' → Nx H' → ∃ m, m < n ∧ ∃ i H', Inv (X.blk t3 M3 sc cn fq) [] (wipe σ (ow.map (·.2))) H' s' ∧ tn i s'.heap ∧ (∀ b ∈ fq, H' b = none) ∧ W i m H' := fun {s' H'} J' nx => by
        obtain ⟨m', hm, w'⟩ := hNx H' nx
        have pin' : ∀ b ∈ fq, ∀ o, t7.heap.get? b = some o → s'.heap.get? b = some o ∧ H' b = none := fun b hb o e =>
          let z := J'.pin (b, o) (List.mem_append_right _ (List.mem_append_right _ (mem_pinsAt hb e)))
          ⟨z.1, z.2.1⟩
        have hl : (wipe σ (ow.map (·.2))).length = σ8.length := by rw [← hw8, wipe_length]
        refine ⟨m', hm, i + 1, H', (J'.unpinned (pins := [])).weak hl (fun j v e => ?_), T.keep _ _ _ b7 fun b hb o e => (pin' b hb o e).1, fun b hb => ?_, w'⟩
        · rw [← hw8] at e
          exact (wipe_some e).1
        · obtain ⟨o, e, _⟩ := T.obj _ _ b7 b hb
          exact (pin' b hb o e).2
      cases b with
      | false =>
        simp only [Bool.false_eq_true, if_false] at q9 ⊢
        exact turned J9 q9
      | true =>
        simp only [if_true] at q9 ⊢
        refine thnF (qe.run _ t9 σ8 M9 _ J9 q9) fun z t10 ⟨yv, M10, J10, r10, ky, S0, n0, ey, hD10, hz10, nx⟩ => ?_
        subst ey
        refine thnF (mt_saddK (X := X.blk t3 M3 sc cn fq) _ t10 σ8 M10 (.ref D) [kV ky] (.ref D) [z] (fun _ H' => Nx H') J10 rfl (.cons r10 .nil) ⟨D, ky, S0, n0, rfl, rfl, hD10, hz10, nx⟩) fun _ t11 ⟨v, H', J11, _, nx'⟩ => turned J11 nx'
  exact codeAny_compStart_set rounds (T.self X.A 0 _ _ _ b4 rounds)
theorem pe_sck {el tgt itr : Expr} {ifz : List Expr} {sc : Scope} {ow : List (Str × Nat)} {po : Pos} {ti : TI} {g : TG} {tt : TT} {te : TE} (hc : X.calm = true) (hN : X.N.Nodup) (hi : PI X tgt itr ti) (ok : BlkOk X.N X.env.scope sc ow)
    (hg : ∀ (s : Shared) (H : Hp) (C : Addr) (cl : List (Str × Addr)) (fq : List Addr), PG (X.blk s H sc (compEnvC sc cl C X.env) fq) tgt g) (ht : ∀ (s : Shared) (H : Hp) (C : Addr) (cl : List (Str × Addr)) (fq : List Addr), PTs (X.blk s H sc (compEnvC sc cl C X.env) fq) ifz tt)
    (he : ∀ (s : Shared) (H : Hp) (C : Addr) (cl : List (Str × Addr)) (fq : List Addr), PE (X.blk s H sc (compEnvC sc cl C X.env) fq) el te) (hs : ∀ x, foldedSetIterable itr X.env x = pure x := by intro _; rfl) :
    PE X (.SetComp el [⟨tgt, itr, ifz, 0⟩] sc po) (tScK X.prog X.w ti g tt te (ow.map (·.2))) := by
  refine ⟨fun pn s σ H Q I h => ?_⟩
  rw [eval_SetComp]
  refine sck_core hc hN I hi ok hg ht he hs h fun Z C t m H' J qz hn fz => ⟨m, hn, fun h2 sb => ?_⟩
  obtain ⟨z0, z1, z2, z3, z4, z5⟩ := fz
  exact ⟨.ref Z, H', J.turned (t' := t.toks) (fun b o hb e => (sb.2 b hb).trans e) z0 z1 z3 z4 z5, rfl, qz⟩
/-- len of a set of keys -/
def rLenSK (P : Program) (w : World) : List V → Hp → VK → Prop := fun xs H Q => ∃ (a : Addr) (S : Key → Bool) (n : Nat), xs = [V.ref a] ∧ H a = some (SetK P w a S n) ∧ n ≤ 1000000 ∧ Q (.int n) H
theorem cr_lenSK : CallR X (.builtin "len") (rLenSK X.prog X.w) := by
  intro pn s σ H xs us Q I r h
  obtain ⟨a, S, n, rfl, ha, hl, q⟩ := h
  obtain rfl := Vals.ref1 r
  obtain ⟨o, es, ep, t, ho, hex, hd, _, _, _, hf, hn⟩ := setK_get I ha
  exact call_len_set ho hex hd hf (by rw [hn]; omega) ⟨.int n, H, I.tok _, ⟨_, by rw [hn]⟩, q⟩
end
end L2

namespace DL
open PySem PySem.Spec PyProof.Rows L2
section
variable {X : Cx} {pos p p2 q : Pos} {a : Expr} {da : DE}
/-- len({elt for target in iter if ..}), each a key -/
def LkN (t : Tgt) (tt : DT) (de : DE) (P : D → Store → Prop) (ds : List D) (pin : Option (Store → Prop)) (ρ : DSt) (S1 : Store) : Prop := ds.length ≤ 4000 ∧ ∃ W : Nat → List Key → Store → Prop, W 0 [] S1 ∧ (∀ i acc S, W i acc S → PinOk pin S) ∧
  (∀ i d acc S, ds[i]? = some d → W i acc S → ∃ ρ', t.put d (dwipe ρ t.slots) = some ρ' ∧ tt ρ' S fun b S2 => if b = true then de ρ' S2 fun y S3 => ∃ k, keyOf y = some k ∧ W (i + 1) (acc ++ [k]) S3 else W (i + 1) acc S2) ∧ ∀ acc S, W ds.length acc S → P (.int ((distD acc).length : Nat)) S
def dLenSc (di : DI) (t : Tgt) (tt : DT) (de : DE) : DE := fun ρ S P => di ρ S fun ds pin S1 => LkN t tt de P ds pin ρ S1
theorem noHid_set {P : Program} {w : World} {Z : Addr} {T : Key → Bool} {n : Nat} : NoHid (SetK P w Z T n) := ⟨fun y z => (by unfold SetK at z; cases z), fun y z => (by unfold SetK at z; cases z)⟩
theorem up_lenSc {di : DI} {t : Tgt} {tt : DT} {de : DE} : ∀ σ H Q, upE X.K (dLenSc di t tt de) σ H Q → tCB (rLenSK X.prog X.w) (fun σ H Q => tScK X.prog X.w (upI X.K di) (upG X.K t) (upT X.K tt) (upE X.K de) t.slots σ H fun x H1 => Q [x] H1) σ H Q := fun σ H Q h0_ => El54 h0_ fun ρ I S F P rs ok h q => by
  refine ⟨ρ, I, S, F, _, rs, ok, h, fun ds pin S1 I1 H1 J hB e1 ok1 it => fun Z hZ => ?_⟩
  obtain ⟨hlen, W, w0, hpin, turn, fin⟩ := hB
  have fZ : F Z = none := ok1.freshF hZ
  obtain ⟨so, eso⟩ : ∃ so : List Key → HO, so = fun acc => SetK X.prog X.w Z (fun j => memD (distD acc) j) (distD acc).length := ⟨_, rfl⟩
  have so0 : SetK X.prog X.w Z (fun _ => false) 0 = so [] := by rw [eso]; simp [distD, memD]
  have nh : ∀ acc, NoHid (so acc) := fun acc => by rw [eso]; exact noHid_set
  have soA : ∀ acc k, SetK X.prog X.w Z (fun j => memD (distD acc) j || decide (j = k)) (if memD (distD acc) k = true then (distD acc).length else (distD acc).length + 1) = so (acc ++ [k]) := fun acc k => by
    rw [eso]
    dsimp only
    rw [distD_snoc]
    congr 1
    · funext j
      rw [memD_add]
    · unfold addD
      by_cases hk : k ∈ distD acc
      · rw [if_pos (memD_iff.mpr hk), if_pos hk]
      · rw [if_neg (fun z => hk (memD_iff.mp z)), if_neg hk]; simp
  refine ⟨fun i m H => m + i = ds.length ∧ ∃ I' S' acc, Same I1 I' ∧ Ok X.K I' S' (upd F Z (so acc)) H ∧ acc.length ≤ i ∧ W i acc S', ⟨ds.length, by simp, I1, S1, [], Same.refl I1, by rw [so0]; exact ok1.newF hZ (nh []), Nat.le_refl _, w0⟩, ?_⟩
  rintro i m H2 ⟨em, I2, S2, acc, e2, ok2, hacc, w2⟩
  by_cases hi : i < ds.length
  · refine .inr ?_
    obtain ⟨g1, g2⟩ := it.go I2 S2 _ H2 e2 ok2 (hpin _ _ _ w2) i ds[i] (List.getElem?_eq_getElem hi)
    obtain ⟨ρ3, hput, hbody⟩ := turn i ds[i] acc S2 (List.getElem?_eq_getElem hi) w2
    refine ⟨g1, fun H' => ∃ I' S' acc, Same I1 I' ∧ Ok X.K I' S' (upd F Z (so acc)) H' ∧ acc.length ≤ i + 1 ∧ W (i + 1) acc S', fun H' h => ⟨m - 1, by omega, by omega, h⟩, fun x H3 hy => ?_⟩
    obtain ⟨I3, e3, ok3, r3⟩ := g2 x H3 hy
    refine ⟨dwipe ρ t.slots, ρ3, I3, S2, _, ds[i], ((rs.mono e1).mono (e2.trans e3)).wipe _, ok3, r3, hput, fun σ3 rs3 b3 => ⟨by
      rw [b3.wipe]
      apply List.ext_getElem?
      intro j
      rw [wipe_get, wipe_get, L2.wipe_length]
      split <;> simp_all, ?_⟩⟩
    refine ⟨ρ3, I3, S2, _, _, rs3, ok3, hbody, fun b S4 I4 H4 h4 e4 ok4 => ?_⟩
    cases b with
    | true =>
      rw [if_pos rfl] at h4 ⊢
      refine ⟨ρ3, I4, S4, _, _, rs3.mono e4, ok4, h4, fun y S5 v I5 H5 h5 e5 ok5 r5 => ?_⟩
      obtain ⟨k, ek, h5⟩ := h5
      have hF : (upd F Z (so acc)) Z = some (so acc) := upd_same
      rw [keyOf_eq ek] at r5
      refine ⟨k, fun j => memD (distD acc) j, (distD acc).length, kD_of r5, by rw [(ok5.f Z _ hF).1, eso], ?_, I5, S5, acc ++ [k], (((e2.trans e3).trans e4).trans e5), ?_, by simp; omega, h5⟩
      · have := distD_len acc
        unfold scanBound
        omega
      · rw [soA]
        have := ok5.writeF hF (nh (acc ++ [k]))
        rwa [upd_upd] at this
    | false =>
      rw [if_neg Bool.false_ne_true] at h4 ⊢
      exact ⟨I4, S4, acc, ((e2.trans e3).trans e4), ok4, by omega, h4⟩
  · have e : i = ds.length := by omega
    subst e
    have hF : (upd F Z (so acc)) Z = some (so acc) := upd_same
    have hZ2 : H2 Z = some (so acc) := (ok2.f Z _ hF).1
    have ok3 : Ok X.K I2 S2 F H2 := ⟨ok2.i, ok2.s, fun a x z => ok2.f a x (by rw [upd_ne (fun e => by rw [e, fZ] at z; cases z)]; exact z)⟩
    refine .inl ⟨it.stop I2 S2 _ H2 e2 ok2 (hpin _ _ _ w2) _ rfl, Z, _, _, rfl, by rw [hZ2, eso], ?_, q _ _ _ _ _ (fin acc S2 w2) (e1.trans e2) ok3 rep_int⟩
    have := distD_len acc
    omega
theorem je_lenSc {el tg iter : Expr} {ifs : List Expr} {scope : Scope} {sp : Pos} (own : List (Str × Nat)) {di : DI} {t : Tgt} {tt : DT} {de : DE} (hm : X.mg "len" = none) (hc : X.calm = true) (hN : X.N.Nodup) (hi : JI X tg iter di) (ok : BlkOk X.N X.env.scope scope own) (ho : own.map (·.2) = t.slots)
    (hg : ∀ (s : Shared) (H : Hp) (C : Addr) (cl : List (Str × Addr)) (fp : List Addr), JG (X.blk s H scope (compEnvC scope cl C X.env) fp) tg t) (ht : ∀ (s : Shared) (H : Hp) (C : Addr) (cl : List (Str × Addr)) (fp : List Addr), JTs (X.blk s H scope (compEnvC scope cl C X.env) fp) ifs tt)
    (he : ∀ (s : Shared) (H : Hp) (C : Addr) (cl : List (Str × Addr)) (fp : List Addr), JE (X.blk s H scope (compEnvC scope cl C X.env) fp) el de) (hs : ∀ x, foldedSetIterable iter X.env x = pure x := by intro _; rfl) (hgl : Gl X "len" := by rfl)
    (hst : starEach [.SetComp el [⟨tg, iter, ifs, 0⟩] scope sp] X.env = [(false, eval (.SetComp el [⟨tg, iter, ifs, 0⟩] scope sp) X.env)] := by rfl) : JE X (.Call (.Name "len" p) [.SetComp el [⟨tg, iter, ifs, 0⟩] scope sp] [] pos) (dLenSc di t tt de) :=
  je_of (pe_callB cr_lenSK hgl hm b_len (pa_cons (pe_sck hc hN hi ok hg ht he hs) pa_nil hst) (he := hst) (hpl := by rfl)) fun σ H Q h => by
    rw [ho]
    exact up_lenSc σ H Q h
end
section
variable {X : Cx} {K : PySem.W.Frag} {a o : Expr} {pos p apos ip : Pos} {ds : DA} {da db d : DE}
open Classical in
end
end DL

/-! A list gives its last. -/
namespace DL
open PySem PySem.Spec PyProof.Rows L2
section
variable {X : Cx} {K : PySem.W.Frag} {a o : Expr} {pos p apos ip : Pos} {ds : DA} {da db d : DE}
end
end DL

/-! Targets that are places of dicts, alone or among others: a, d[k] = x, y. -/
namespace DL
open PySem PySem.Spec PyProof.Rows L2
/-- a target, as data -/
abbrev DG1 := D → DSt → Store → (DSt → Store → Prop) → Prop
section
variable {X : Cx} {a b o i e tg : Expr} {pos pos' : Pos} {dd dk de : DE} {t u : DG1} {n : Nat}
end
end DL

/-! min of a list of pairs of a number and a list of texts: one whose number is least. -/
namespace DL
open PySem PySem.Spec PyProof.Rows L2
section
variable {X : Cx}
end
section
variable {K : PySem.W.Frag}
end
section
variable {X : Cx} {pos p : Pos} {a : Expr} {ds : DA}
end
end DL

/-! d != e of two dicts that are alike. -/
namespace DL
open PySem PySem.Spec PyProof.Rows L2
section
variable {X : Cx}
end
section
variable {X : Cx} {pos : Pos} {a b : Expr} {da db : DE}
end
end DL

/-! isinstance of a caught one by several own classes at once. -/
namespace DL
open PySem PySem.Spec PyProof.Rows L2
section
variable [CT] {X : Cx}
end
end DL

/-! try: suite / finally: suite, where nothing raises. -/
namespace DL
open PySem PySem.Spec PyProof.Rows L2
/-! ### == and != of own instances -/
section
open PySem.W
variable {prog : Program} {w : World} {A : Around} {E : Value → Shared → Prop} {s : Shared} {K : PySem.W.Frag} {x C f L : Addr} {h₀ : Heap} {m : Str → Option Value} {ox : Obj} {od : Option Obj}
end
section
variable [CT] {X : Cx}
variable {pos : Pos} {a b : Expr} {da db : DE} {c k j : Nat} {ps : List Str} {f : Addr} {fd : FuncData} {sp : DSp}
end
/-! ### isinstance(o, C), of the class C itself -/
structure IsiC (K : PySem.W.Frag) (C : Addr) : Prop where
  ha : PySem.W.findIn K (.ref C) "__class__" = some (some (.builtin "object.__class__"))
  hn : PySem.W.specialIn K (.builtin "object.__class__") "__get__" = some (some (.builtin "getset_descriptor.__get__"))
  ht : PySem.W.takesIn K (.builtin "object.__class__") = some true
  hm : PySem.W.mroIn K C (.type "object") = some true
section
variable [CT] {X : Cx}
end
end DL

/-! sorted(..) of texts, alike ones too. -/
namespace DL
open PySem PySem.Spec PyProof.Rows L2
section
variable {X : Cx} {K : PySem.W.Frag} {a e : Expr} {pos p : Pos} {ds : DA} {d : DE}
end
/-! ### o.m(k = v, ..) -/
section
variable [CT] {X : Cx} {o : Expr} {c : Nat} {m : Str} {pos apos : Pos} {da : DE} {dk : DA} {k j : Nat} {ps ks : List Str} {f : Addr} {fd : FuncData} {sp : DSp} {perm : List Nat} {kws : List Keyword}
end
end DL

/-! A text, walked sign by sign. -/
namespace DL
open PySem PySem.Spec PyProof.Rows L2
section
variable {X : Cx} {K : PySem.W.Frag} {tg a e : Expr} {pos p : Pos} {da : DE}
end
end DL

/-! sorted(d, reverse=b) of a dict of few texts: its keys in some order. -/
namespace DL
open PySem PySem.Spec PyProof.Rows L2
section
variable {X : Cx}
end
section
variable [CT] {X : Cx}
variable {pos : Pos} {a b : Expr} {da db : DE} {c k j : Nat} {ps : List Str} {f : Addr} {fd : FuncData} {sp : DSp}
end
end DL

/-! list(d.items()); x or y of numbers and None. -/
namespace DL
open PySem PySem.Spec PyProof.Rows L2
section
variable {X : Cx} {K : PySem.W.Frag} {a b e o : Expr} {rest : List Expr} {pos p apos ip : Pos} {da db d : DE}
open Classical in
end
end DL

/-! d | e of dicts. -/
namespace DL
open PySem PySem.Spec PyProof.Rows L2
section
variable {prog : Program} {w : World} {K : Type} [DecidableEq K]
end
section
variable {X : Cx} {K : PySem.W.Frag}
variable {a b : Expr} {pos : Pos} {da db : DE}
end
end DL

/-! d |= e of dicts. -/
namespace DL
open PySem PySem.Spec PyProof.Rows L2
section
variable {prog : Program} {w : World} {K : Type} [DecidableEq K]
end
section
variable {X : Cx} {K : PySem.W.Frag}
variable {e : Expr} {pos : Pos} {de : DE}
end
end DL

/-! tuple * int, 0 and 1 too. -/
namespace L2
open PySem PySem.Spec PyProof.Rows
section
variable {X : Cx}
end
end L2
namespace DL
open PySem PySem.Spec PyProof.Rows L2
section
variable {X : Cx} {pos : Pos} {a b : Expr} {da db : DE}
end
end DL

/-! text > text -/
namespace DL
open PySem PySem.Spec PyProof.Rows L2
section
variable {X : Cx} {pos : Pos} {a b : Expr} {da db : DE}
end
end DL

/-! Dicts whose keys are tuples made in the run. -/
namespace DL
open PySem PySem.Spec PyProof.Rows L2
/-! ### tuples made in the run -/
theorem rep_new_tq {K : PySem.W.Frag} {I : Hp} {p : Addr} {xs : List V} {ds : List D} (n : I p = none) (r : RepL K I ds xs) : Rep K (upd I p (.tup xs)) (.tq ds) (.ref p) := by
  simp only [Rep]
  exact ⟨p, xs, rfl, upd_same, r.mono (same_new n)⟩
mutual
def weakD : D → D
  | .tq ds => .tup (weakL ds)
  | .tup ds => .tup (weakL ds)
  | x => x
def weakL : List D → List D
  | [] => []
  | d :: ds => weakD d :: weakL ds
end
theorem weakD_int (i : Int) : weakD (.int i) = .int i := by unfold weakD; rfl
theorem weakD_str (i : Str) : weakD (.str i) = .str i := by unfold weakD; rfl
theorem weakD_non : weakD .non = .non := by unfold weakD; rfl
theorem weakD_bl (b : Bool) : weakD (.bl b) = .bl b := by unfold weakD; rfl
theorem weakD_obj (b : Addr) : weakD (.obj b) = .obj b := by unfold weakD; rfl
theorem weakD_lst (b : List D) : weakD (.lst b) = .lst b := by unfold weakD; rfl
theorem weakD_tq (ds : List D) : weakD (.tq ds) = .tup (weakL ds) := by rw [weakD]
theorem weakD_tup (ds : List D) : weakD (.tup ds) = .tup (weakL ds) := by rw [weakD]
theorem weakL_nil : weakL [] = [] := by rw [weakL]
theorem weakL_cons (d : D) (ds : List D) : weakL (d :: ds) = weakD d :: weakL ds := by rw [weakL]
theorem weakL_map {α : Type} {f : α → D} (h : ∀ a, weakD (f a) = f a) : ∀ l : List α, weakL (l.map f) = l.map f
  | [] => weakL_nil
  | a :: l => by rw [List.map_cons, weakL_cons, h, weakL_map h l]
theorem weakL_ints (l : List Int) : weakL (l.map .int) = l.map .int := weakL_map weakD_int l
mutual
theorem rep_weakD {K : PySem.W.Frag} {I : Hp} : ∀ (x : D) (v : V), Rep K I x v → Rep K I (weakD x) v
  | .tq ds, v, r => by
    obtain ⟨a, xs, rfl, h, rl⟩ := r.tq_of
    rw [weakD_tq]
    simp only [Rep]
    exact ⟨a, xs, rfl, .inl h, rep_weakL ds xs rl⟩
  | .tup ds, v, r => by
    obtain ⟨a, xs, rfl, h, rl⟩ := r.tup_of
    rw [weakD_tup]
    simp only [Rep]
    exact ⟨a, xs, rfl, h, rep_weakL ds xs rl⟩
  | .non, v, r => by rw [weakD_non]; exact r
  | .bl _, v, r => by rw [weakD_bl]; exact r
  | .int _, v, r => by rw [weakD_int]; exact r
  | .str _, v, r => by rw [weakD_str]; exact r
  | .obj _, v, r => by rw [weakD_obj]; exact r
  | .lst _, v, r => by rw [weakD_lst]; exact r
  | .ty _, v, r => by unfold weakD; exact r
  | .ext _, v, r => by unfold weakD; exact r
theorem rep_weakL {K : PySem.W.Frag} {I : Hp} : ∀ (ds : List D) (vs : List V), RepL K I ds vs → RepL K I (weakL ds) vs
  | [], vs, r => by rw [weakL_nil]; exact r
  | d :: ds, vs, r => by
    simp only [RepL] at r
    obtain ⟨v, w, rfl, h1, h2⟩ := r
    rw [weakL_cons]
    simp only [RepL]
    exact ⟨v, w, rfl, rep_weakD d v h1, rep_weakL ds w h2⟩
end
/-- a tuple, wherever it came from -/
def dWk (d : DE) : DE := fun ρ S P => d ρ S fun x S1 => P (weakD x) S1
def dTupQ (a : DA) : DE := fun ρ S P => a ρ S fun xs S1 => xs.length ≤ 100000 ∧ P (.tq xs) S1
/-- tuple(a list) -/
def cTupleQ : DC := fun xs S P => match xs with
  | [x] => match lstOf S x with
    | some ds => P (.tq ds) S
    | none => False
  | _ => False
section
variable {X : Cx} {pos : Pos} {e : Expr} {d : DE} {es : List Expr} {ds : DA}
theorem je_wk (h : JE X e d) : JE X e (dWk d) := je_of h fun σ H Q h0_ => El54 h0_ fun ρ I S F P rs ok hd q => ⟨ρ, I, S, F, _, rs, ok, hd, fun x S1 v I1 H1 h1 e1 ok1 r1 => q _ _ _ _ _ h1 e1 ok1 (rep_weakD _ _ r1)⟩
theorem je_tupq {x1} (h : JA X es ds) : JE X (.Tuple es x1 pos) (dTupQ ds) :=
  je_of (pe_tup h) fun σ H Q h0_ => El54 h0_ fun ρ I S F P rs ok hh q => ⟨ρ, I, S, F, _, rs, ok, hh, fun xs S1 vs I1 H1 ⟨hl, h1⟩ e1 ok1 r1 =>
    ⟨line5 (by rw [r1.len]; exact hl), fun p hp => q _ _ _ _ _ h1 (e1.trans (same_new (ok1.freshI hp))) (ok1.newI hp) (rep_new_tq (ok1.freshI hp) r1)⟩⟩
end
/-! ### keys -/
def tkOf : D → Option (List Key)
  | .tq ds => keysOf ds
  | _ => none
section
variable {K : PySem.W.Frag} {I I' F H : Hp} {S : Store}
theorem tk_rep {x : D} {v : V} {k : List Key} (r : Rep K I x v) (h : tkOf x = some k) : ∃ b, v = .ref b ∧ I b = some (.tup (k.map kV)) := by
  cases x with
  | tq ds =>
    obtain ⟨a, xs, rfl, hs, rl⟩ := r.tq_of
    exact ⟨a, rfl, by rw [hs, keysOf_rep rl h]⟩
  | _ => simp [tkOf] at h
def tctOf (S : Store) : D → Option (List (List Key × D))
  | .obj a => match S a with
    | some (.dT kvs) => some kvs
    | some (.dU _ _ kvs) => some kvs
    | _ => none
  | _ => none
theorem tct_dT {S : Store} {a : Addr} {kvs : List (List Key × D)} (h : S a = some (.dT kvs)) : tctOf S (.obj a) = some kvs := by simp only [tctOf, h]
theorem tct_rd (ok : Ok K I S F H) {x : D} {v : V} {kvs : List (List Key × D)} (r : Rep K I x v) (h : tctOf S x = some kvs) : ∃ a vs, v = .ref a ∧ Rd H a (.dT vs) ∧ RepF K I kvs vs := by
  cases x with
  | obj a =>
    unfold tctOf at h
    cases e : S a with
    | none => simp [e] at h
    | some m =>
      cases m with
      | dT es =>
        simp [e] at h; subst h
        obtain ⟨_, vs, q, rf⟩ := ok.s a _ e
        exact ⟨a, vs, r.obj_of, .inl q, rf⟩
      | dU o ws es =>
        simp [e] at h; subst h
        obtain ⟨_, q, rf⟩ := ok.s a _ e
        exact ⟨a, ws, r.obj_of, .inr ⟨o, q⟩, rf⟩
      | _ => simp [e] at h
  | _ => simp [tctOf] at h
theorem Ok.dtAt (ok : Ok K I S F H) {a : Addr} {kvs : List (List Key × D)} (e : S a = some (.dT kvs)) : ∃ vs, H a = some (.dT vs) ∧ RepF K I kvs vs := (ok.s a _ e).2
theorem Ok.writeT (ok : Ok K I S F H) {a : Addr} {m : MO} {vs vs0 : List (List Key × V)} {kvs : List (List Key × D)} (e : S a = some m) (hh : H a = some (.dT vs0)) (r : RepF K I kvs vs) : Ok K I (supd S a (.dT kvs)) F (upd H a (.dT vs)) :=
  ok.write e (fun y z => by rw [hh] at z; cases z) ⟨vs, upd_same, r⟩
theorem Ok.showT (h : Ok K I S F H) {p : Addr} {vs : List (List Key × V)} {kvs : List (List Key × D)} (e : F p = some (.dT vs)) (r : RepF K I kvs vs) : Ok K I (supd S p (.dT kvs)) (fun b => if b = p then none else F b) H := by
  obtain ⟨f1, f2, f3, f4⟩ := h.f p _ e
  refine ⟨h.i, fun a m q => ?_, fun a x q => ?_⟩
  · unfold supd at q
    by_cases z : a = p
    · subst z
      rw [if_pos rfl] at q; cases q
      exact ⟨f2, vs, f1, r⟩
    · rw [if_neg z] at q
      exact h.s a m q
  · by_cases z : a = p
    · rw [if_pos z] at q; cases q
    · rw [if_neg z] at q
      obtain ⟨h1, h2, h3, h4⟩ := h.f a x q
      exact ⟨h1, h2, by unfold supd; rw [if_neg z]; exact h3, h4⟩
/-- a tuple of the heap, known as data -/
theorem Ok.adopt (h : Ok K I S F H) {q : Addr} {xs : List V} (e : H q = some (.tup xs)) : ∃ I', Same I I' ∧ I' q = some (.tup xs) ∧ Ok K I' S F H := by
  cases c : I q with
  | some o =>
    have := h.i q o c
    rw [e] at this; cases this
    exact ⟨I, Same.refl I, c, h⟩
  | none =>
    refine ⟨upd I q (.tup xs), same_new c, upd_same, fun a x ea => ?_, fun a m ea => ?_, fun a x ea => ?_⟩
    · by_cases z : a = q
      · subst z
        rw [L2.upd_same] at ea; cases ea
        exact e
      · rw [upd_ne z] at ea; exact h.i a x ea
    · obtain ⟨h1, h2⟩ := h.s a m ea
      have ne : a ≠ q := by
        intro z; subst z
        cases m with
        | lst ds => obtain ⟨ys, hy, _⟩ := h2; rw [e] at hy; cases hy
        | ins C fs => obtain ⟨dx, vs, hy, _⟩ := h2; rw [e] at hy; cases hy
        | dK kvs => obtain ⟨ys, hy, _⟩ := h2; rw [e] at hy; cases hy
        | dZ o vs kvs => obtain ⟨hy, _⟩ := h2; rw [e] at hy; cases hy
        | dT kvs => obtain ⟨ys, hy, _⟩ := h2; rw [e] at hy; cases hy
        | dU o vs kvs => obtain ⟨hy, _⟩ := h2; rw [e] at hy; cases hy
        | exc C d => have hy := h2; simp only [RepM] at hy; rw [e] at hy; cases hy
        | xdD fs => obtain ⟨ys, hy, _⟩ := h2; rw [e] at hy; cases hy
        | tab z => obtain ⟨ys, hy, _⟩ := h2; rw [e] at hy; cases hy
      exact ⟨by rw [upd_ne ne]; exact h1, h2.mono (same_new c) rfl fun dx q => q⟩
    · obtain ⟨h1, h2, h3, h4⟩ := h.f a x ea
      have ne : a ≠ q := by
        intro z; subst z
        rw [e] at h1; cases h1
        exact h4.2 _ rfl
      exact ⟨h1, by rw [upd_ne ne]; exact h2, h3, h4⟩
end
/-! ### d[k], k in d, d[k] = x -/
def dTGet : D2 := fun x y S P => match tctOf S x, tkOf y with
  | some kvs, some k => (match dVal kvs k with
    | some d => P d S
    | none => False)
  | _, _ => False
def dTIn (neg : Bool) : D2 := fun y x S P => match tctOf S x, tkOf y with
  | some kvs, some k => P (.bl (if neg then !(dVal kvs k).isSome else (dVal kvs k).isSome)) S
  | _, _ => False
def dTPut (dd dk dv : DE) : DS := fun DD ρ S => dv ρ S fun z S1 => dd ρ S1 fun x S2 => dk ρ S2 fun y S3 => ∃ a kvs k, x = .obj a ∧ S3 a = some (.dT kvs) ∧ tkOf y = some k ∧ kvs.length < 100000 ∧ DD.nx ρ (supd S3 a (.dT (dPut kvs k z)))
theorem getT_of {K : PySem.W.Frag} {I F H : Hp} {S : Store} {x y : D} {v w : V} {kvs : List (List Key × D)} {k : List Key} (ok : Ok K I S F H) (r1 : Rep K I x v) (r2 : Rep K I y w) (h3 : tctOf S x = some kvs) (h4 : tkOf y = some k) :
    ∃ a o, v = .ref a ∧ DGet H a w o ∧ (∀ d, dVal kvs k = some d → ∃ u, o = some u ∧ Rep K I d u) ∧ (dVal kvs k = none → o = none) ∧ o.isSome = (dVal kvs k).isSome := by
  obtain ⟨a, vs, rfl, hd, rf⟩ := tct_rd ok r1 h3
  obtain ⟨b, rfl, hb⟩ := tk_rep r2 h4
  have z := rf.valK (k := k)
  refine ⟨a, valV vs k, rfl, .inr ⟨vs, k, b, hd, rfl, ok.i _ _ hb, rfl⟩, z.1, z.2, ?_⟩
  cases e : dVal kvs k with
  | none => rw [z.2 e]; rfl
  | some d => obtain ⟨u, hu, _⟩ := z.1 d e; rw [hu]; rfl
section
variable {X : Cx} {pos pos' apos cpos : Pos} {o i e f value : Expr} {dd dk dv dx : DE} {n : Nat}
theorem je_tget (hr : DG.RoomG n X.A) (ho : JE X o dd) (hi : JE X i dk) (hs : NoSl i := by first | exact fun _ _ => rfl | (intro _ _; rfl)) : JE X (.Subscript o i pos) (dOp dTGet dd dk) :=
  je_of (pe_dget (by have := hr.r.un; omega) ho hi hs) fun σ H Q h0_ => El54 h0_ fun ρ I S F P rs ok h q => ⟨ρ, I, S, F, _, rs, ok, h, fun x S1 v I1 H1 h1 e1 ok1 r1 => ⟨ρ, I1, S1, F, _, rs.mono e1, ok1, h1, fun y S2 w I2 H2 h2 e2 ok2 r2 => by
    unfold dTGet at h2
    split at h2
    · rename_i kvs k h3 h4
      obtain ⟨a, ov, rfl, g, z1, _, _⟩ := getT_of ok2 (r1.mono e2) r2 h3 h4
      split at h2
      · rename_i d h5
        obtain ⟨u, rfl, ru⟩ := z1 d h5
        exact ⟨a, u, rfl, g, q _ _ _ _ _ h2 (e1.trans e2) ok2 ru⟩
      · exact h2.elim
    · exact h2.elim⟩⟩
theorem up_tin (neg : Bool) : ∀ σ H Q, upE X.K (dOp (dTIn neg) dk dd) σ H Q → (if neg then tDNotIn (upE X.K dk) (upE X.K dd) σ H Q else tDIn (upE X.K dk) (upE X.K dd) σ H Q) := fun σ H Q h0_ => El54 h0_ fun ρ I S F P rs ok h q => by
  have key : ∀ y S1 w I1 H1, dd ρ S1 (fun x S2 => dTIn neg y x S2 P) → Same I I1 → Ok X.K I1 S1 F H1 → Rep X.K I1 y w →
      upE X.K dd σ H1 fun v H2 => ∃ a o, v = .ref a ∧ DGet H2 a w o ∧ Q (.bl (if neg then !o.isSome else o.isSome)) H2 := fun y S1 w I1 H1 h1 e1 ok1 r1 =>
    ⟨ρ, I1, S1, F, _, rs.mono e1, ok1, h1, fun x S2 v I2 H2 h2 e2 ok2 r2 => by
      unfold dTIn at h2
      split at h2
      · rename_i kvs k h3 h4
        obtain ⟨a, ov, rfl, g, _, _, z⟩ := getT_of ok2 r2 (r1.mono e2) h3 h4
        refine ⟨a, ov, rfl, g, ?_⟩
        rw [z]
        exact q _ _ _ _ _ h2 (e1.trans e2) ok2 rep_bl
      · exact h2.elim⟩
  cases neg with
  | true => exact ⟨ρ, I, S, F, _, rs, ok, h, key⟩
  | false => exact ⟨ρ, I, S, F, _, rs, ok, h, key⟩
theorem jt_tnotin (hr : DG.RoomG n X.A) (hi : JE X i dk) (ho : JE X o dd) (hm : behindInMarks .NotIn o = false := by rfl) : JT X (.Compare i [.NotIn] [o] pos) (dTest (dOp (dTIn true) dk dd)) :=
  jt_cmpP (pc_dnotin (by have := hr.r.un; omega) hi ho) (up_tin true) hm
theorem js_tput (hr : DG.RoomG n X.A) (ho : JE X o dd) (hi : JE X i dk) (hv : JE X value dv) (hs : swapsWith value (some (.Subscript o i pos')) pos.line X.env = pure false := by rfl) : JS X (.Assign [.Subscript o i pos'] value pos) (dTPut dd dk dv) :=
  js_of (ps_dput (by have := hr.r.un; omega) ho hi hv hs) fun D σ H h0_ => El54 h0_ fun ρ I S F DD rs ok h q => ⟨ρ, I, S, F, _, rs, ok, h, fun z S1 zv I1 H1 h1 e1 ok1 r1 => ⟨ρ, I1, S1, F, _, rs.mono e1, ok1, h1, fun x S2 v I2 H2 h2 e2 ok2 r2 =>
    ⟨ρ, I2, S2, F, _, rs.mono (e1.trans e2), ok2, h2, fun y S3 w I3 H3 ⟨a, kvs, k, ex, es, ek, hl, h3⟩ e3 ok3 r3 => by
      subst ex
      obtain ⟨vs, hh, rf⟩ := ok3.dtAt es
      obtain ⟨b, rfl, hb⟩ := tk_rep r3 ek
      have hl2 : vs.length < sizeLine := by rw [rf.lenK]; exact Nat.lt_of_lt_of_le hl (by decide)
      exact ⟨a, upd H3 a (.dT (L2.putK vs k zv)), (r2.mono e3).obj_of, DPut.t hh (ok3.i _ _ hb) hl2, q.nx _ _ _ _ _ h3 ((e1.trans e2).trans e3) (ok3.writeT es hh (rf.putK ((r1.mono e2).mono e3))) (rs.mono ((e1.trans e2).trans e3))⟩⟩⟩⟩
end
/-! ### {}, {k: v}, len(d), list(d) -/
def dTNew : DE := fun _ S P => ∀ p, S p = none → P (.obj p) (supd S p (.dT []))
def dTOne (dk dv : DE) : DE := fun ρ S P => dk ρ S fun x S1 => dv ρ S1 fun y S2 => ∃ k, tkOf x = some k ∧ ∀ p, S2 p = none → P (.obj p) (supd S2 p (.dT [(k, y)]))
def tOneT (tk tv : TE) : TE := fun σ H Q => ∀ p, H p = none → tk σ (upd H p (.dT [])) fun x H1 => tv σ H1 fun y H2 => ∃ k b, x = .ref b ∧ H2 p = some (.dT []) ∧ H2 b = some (.tup (List.map kV k)) ∧ Q (.ref p) (upd H2 p (.dT [(k, y)]))
theorem pe_oneT {X : Cx} {pos : Pos} {ke ve : Expr} {tk tv : TE} (hu : X.A.units < cLine) (hk : PE X ke tk) (hv : PE X ve tv) : PE X (.Dict [some ke] [ve] pos) (tOneT tk tv) := by
  refine ⟨fun pins s σ H Q I q => ?_⟩
  have hn := I.hok.fresh (Nat.le_refl s.heap.objs.size)
  have I1 := I.laid (a := s.heap.objs.size) (o := .dT []) (h' := s.heap.push { cls := .type "dict", data := .dict #[] }) (t' := s.toks) (fun _ _ q => Heap.get?_push_of_some _ q) (Nat.le_refl _) (dt_empty s.heap I.big)
  refine wpAny_Dict_any rfl rfl (by simp) (by simp) ?_
  refine pairTrees_cons_walk (thn (hk.run pins _ σ _ _ I1 (q _ hn)) fun u s1 ⟨x, H1, I2, rx, q1⟩ => thn (hv.run pins s1 σ H1 _ I2 q1) fun w2 s2 ⟨y, H2, I3, ry, k, b, ex, e, eb, q2⟩ => pairTrees_nil_walk ?_)
  subst ex
  obtain rfl : u = Value.ref b := rx
  obtain ⟨z, hd, xs, rel, dd⟩ := dt_of I3.hok e
  cases rel
  show wpAny _ _ (storeAll s.heap.objs.size [(Value.ref b, w2)]) _ _ _
  unfold storeAll
  simp only [List.forIn_cons, List.forIn_nil]
  refine wpAny_bind (wpAny_bind ?_)
  refine wpAny_dictSet_heap (hsz := Nat.zero_le _) (knd := tupleKind (mixKind X.prog X.w)) hu (key_of I3.hok eb) dd fun h' dd' hs => ?_
  refine wpAny_pure ?_
  refine wpAny_pure ⟨.ref s.heap.objs.size, _, ?_, rfl, q2⟩
  obtain ⟨q, es, ep, hq, h2, h3, h4, _, h5⟩ := dd'
  have rel1 := (show KT H2 [] [] from .nil).put k eb ry
  refine d_write I3 (by rw [e]; exact True.intro) hs ⟨q, hq⟩ ⟨by show 1 ≤ sizeLine; decide, hd, _, rel1.keeps fun c ys ec => ?_, q, es, ep, hq, h2, h3, h4, h5⟩
  rw [upd_ne (ne_of ec e (fun z => nomatch z))]
  exact ec
section
variable {X : Cx} {pos : Pos} {ke ve : Expr} {dk dv : DE} {n : Nat}
theorem je_tone (hr : DG.RoomG n X.A) (hk : JE X ke dk) (hv : JE X ve dv) : JE X (.Dict [some ke] [ve] pos) (dTOne dk dv) :=
  je_of (pe_oneT (by have := hr.r.un; omega) hk hv) fun σ H Q h0_ => El54 h0_ fun ρ I S F P rs ok h q => by
    intro p hp
    have hF : (upd F p (.dT [])) p = some (.dT []) := L2.upd_same
    have ok1 : Ok X.K I S (upd F p (.dT [])) (upd H p (.dT [])) := ok.newF hp ⟨fun y z => (by cases z), fun y z => (by cases z)⟩
    have hn : F p = none := ok.freshF hp
    refine ⟨ρ, I, S, _, _, rs, ok1, h, fun x S1 v I1 H1 h1 e1 ok2 r1 => ⟨ρ, I1, S1, _, _, rs.mono e1, ok2, h1, fun y S2 w I2 H2 ⟨k, hk2, h2⟩ e2 ok3 r2 => ?_⟩⟩
    obtain ⟨b, rfl, hb⟩ := tk_rep (r1.mono e2) hk2
    have hd := ok3.f p _ hF
    refine ⟨k, b, rfl, hd.1, ok3.i _ _ hb, ?_⟩
    have ok4 := ok3.writeF (o' := .dT [(k, w)]) hF ⟨fun y z => (by cases z), fun y z => (by cases z)⟩
    rw [upd_upd] at ok4
    have ok5 := ok4.showT (kvs := [(k, y)]) L2.upd_same (RepF.consK (p := (k, y)) r2 RepF.nilK)
    refine q _ _ _ _ _ (h2 p hd.2.2.1) (e1.trans e2) (ok5.less fun a x ea => ?_) (by simp only [Rep])
    have ne : a ≠ p := fun z => by rw [z, hn] at ea; cases ea
    show (if a = p then none else upd F p (.dT [(k, w)]) a) = some x
    rw [if_neg ne, upd_ne ne]; exact ea
end
/-! ### a dict that is only read from here on -/
def tFrzT (t : TE) : TE := fun σ H Q => t σ H fun x H1 => ∃ a, x = .ref a ∧ ((∃ kvs, H1 a = some (.dT kvs) ∧ ∀ o, Q x (upd H1 a (.frz o (.dT kvs)))) ∨ Q x H1)
theorem pe_frzT {X : Cx} {e : Expr} {t : TE} (h : PE X e t) : PE X e (tFrzT t) := ⟨fun pins s σ H Q I hw => thn (h.run pins s σ H _ I hw) fun u s1 ⟨x, H1, I1, rx, a, ex, q⟩ => by
  rcases q with ⟨kvs, ha, q⟩ | q
  · obtain ⟨od, I2⟩ := I1.lock ha True.intro
    exact ⟨x, _, I2, rx, q od⟩
  · exact ⟨x, _, I1, rx, q⟩⟩
def dFrzT (d : DE) : DE := fun ρ S P => d ρ S fun x S1 => ∃ a kvs, x = .obj a ∧ ((S1 a = some (.dT kvs) ∧ ∀ o vs, P (.obj a) (supd S1 a (.dU o vs kvs))) ∨ ((∃ o vs, S1 a = some (.dU o vs kvs)) ∧ P (.obj a) S1))
/-- its keys, its pairs -/
def tkD (k : List Key) : D := .tq (k.map kD)
def dTKeys (d : DE) : DI := fun ρ S P => d ρ S fun x S1 => ∃ a o vs kvs, x = .obj a ∧ S1 a = some (.dU o vs kvs) ∧ P (kvs.map fun kv => tkD kv.1) (some fun S => S a = some (.dU o vs kvs)) S1
def dTItems (d : DE) : DI := fun ρ S P => d ρ S fun x S1 => ∃ a o vs kvs, x = .obj a ∧ S1 a = some (.dU o vs kvs) ∧ P (kvs.map fun kv => .tup [tkD kv.1, kv.2]) (some fun S => S a = some (.dU o vs kvs)) S1
/-- the same, keys as plain tuples (to be unpacked) -/
def tuD (k : List Key) : D := .tup (k.map kD)
def dTKeysU (d : DE) : DI := fun ρ S P => d ρ S fun x S1 => ∃ a o vs kvs, x = .obj a ∧ S1 a = some (.dU o vs kvs) ∧ P (kvs.map fun kv => tuD kv.1) (some fun S => S a = some (.dU o vs kvs)) S1
def dTItemsU (d : DE) : DI := fun ρ S P => d ρ S fun x S1 => ∃ a o vs kvs, x = .obj a ∧ S1 a = some (.dU o vs kvs) ∧ P (kvs.map fun kv => .tup [tuD kv.1, kv.2]) (some fun S => S a = some (.dU o vs kvs)) S1
theorem repL_kD {K : PySem.W.Frag} {I : Hp} : ∀ k : List Key, RepL K I (k.map kD) (k.map kV)
  | [] => RepL.nil
  | k :: r => RepL.cons (kD_rep k) (repL_kD r)
/-- the pairs of the locked dict at d with tuple keys -/
def Itit (d : Addr) (o : Obj) (kvs : List (List Key × V)) : It :=
  ⟨fun i H => H d = some (.frz o (.dT kvs)) ∧ i < kvs.length, fun i H x H' => ∃ (T q : Addr) (k : List Key) (v : V), kvs[i]? = some (k, v) ∧ x = .ref T ∧ H q = some (.tup (k.map kV)) ∧ H T = none ∧ H' = upd H T (.tup [.ref q, v]), fun i H => H d = some (.frz o (.dT kvs)) ∧ kvs.length ≤ i⟩
theorem Inv.frzTV {X : Cx} {pins : List (Addr × Obj)} {σ : L2.St} {H : Hp} {s : Shared} {d : Addr} {o : Obj} {kvs : List (List Key × V)} (I : Inv X pins σ H s) (h : H d = some (.frz o (.dT kvs))) :
    (d == sysModules) = false ∧ s.heap.get? d = some o ∧ o.ExactDict ∧ ∃ (es : Array DictEntry) (ep : Nat), o.data = .dict es ep ∧ es.size = kvs.length ∧
      ∀ (i : Nat) (k : List Key) (v : V), kvs[i]? = some (k, v) → ∃ (en : DictEntry) (q : Addr), es[i]? = some en ∧ en.key = .ref q ∧ H q = some (.tup (k.map kV)) ∧ RelV v en.val := by
  obtain ⟨hd, z, hs, xs, pr, o', es, ep, ho, hx, hdt, he, _⟩ := I.hok d _ h
  rw [hd] at ho
  cases ho
  refine ⟨hs, hd, hx, es, ep, hdt, ?_, fun i k v e => ?_⟩
  · have l1 : es.size = xs.length := size_of_entries he
    have l2 : kvs.length = xs.length := Paired.length pr
    omega
  · obtain ⟨b, hb, e1, e2, e3⟩ := paired_get pr e
    have q := entry_at he i
    rw [hb] at q
    exact ⟨_, b.2.1, q, rfl, e2, e3⟩
section
variable {P : Program} {w : World} {K : PySem.W.Frag} {d : Addr} {o : Obj} {es : Array DictEntry} {ep : Nat}
theorem turn_itemsT {kvs : List (List Key × V)} {elts : List Expr} {kk : Nat} {tpos : Pos} (it : Addr) (hod : o.data = .dict es ep) :
    Turn P w K (.Tuple elts kk tpos) (Itit d o kvs) [it] it (fun i h => ∃ ok ov, IsItemIter h it d i kvs.length ep ok ov) where
  mem := by simp
  obj := fun i h st b hb => by
    have e : b = it := by simpa using hb
    subst e
    obtain ⟨ok, ov, e⟩ := st
    exact ⟨_, e, fun v z => nomatch z⟩
  keep := fun i h h' st k => let ⟨ok, ov, e⟩ := st; ⟨ok, ov, k it (by simp) _ e⟩
  item := by
    intro X hP hw hK hc i pins s σ H E I hf st hg
    subst hP hw hK
    obtain ⟨hd, hi⟩ := hg
    obtain ⟨hs, hgd, hx, es', ep', hdt, hsz, ent⟩ := Inv.frzTV I hd
    obtain ⟨rfl, rfl⟩ := dict_ep hod hdt
    obtain ⟨⟨k, v⟩, hkv⟩ : ∃ p, kvs[i]? = some p := ⟨kvs[i], List.getElem?_eq_getElem hi⟩
    obtain ⟨en, q, hen, hkey, hq, rv⟩ := ent i k v hkv
    obtain ⟨ok, ov, he⟩ := st
    rw [← hsz] at he
    have hlt : it < s.heap.objs.size := Heap.lt_size he
    have hi2 : i < es'.size := by rw [hsz]; exact hi
    have hen2 : es'[i] = en := by
      have := Array.getElem?_eq_getElem hi2
      rw [this] at hen
      exact Option.some.inj hen
    refine DT.nextI he ⟨o, hgd, hx, hdt⟩ hi2 fun h' ho hT hz hk => ?_
    rw [hen2] at ho hT
    refine ⟨_, rfl, wpAny_letOwnedTupleGo_items (s := { s with heap := h' }) ho fun h'' he' sb => ?_⟩
    have hT2 : h''.get? s.heap.objs.size = some { cls := .type "tuple", data := .seq #[en.key, en.val] } := (sb.2 _ (Nat.ne_of_gt hlt)).trans hT
    have new : ObjOk X.prog X.w (upd H s.heap.objs.size (.tup [.ref q, v])) h'' s.heap.objs.size (.tup [.ref q, v]) :=
      ⟨by show 2 ≤ sizeLine; decide, [en.key, en.val], .cons hkey (.cons rv .nil), ⟨_, hT2, rfl, _, rfl⟩⟩
    have I1 : Inv X pins σ (upd H s.heap.objs.size (.tup [.ref q, v])) { s with heap := h'' } :=
      I.turnedNew (t' := s.toks) (ch := [it]) (fun b ob hb e => (sb.2 b (by simpa using hb)).trans (hk b ob (by simpa using hb) e)) hf (Nat.le_refl _) new
    refine ⟨.ref s.heap.objs.size, _, I1, rfl, ⟨_, q, k, v, hkv, rfl, hq, I.hok.fresh (Nat.le_refl _), rfl⟩, ⟨en.key, en.val, ?_⟩, fun b hb => ?_⟩
    · rw [← hsz]; exact he'
    · have e : b = it := by simpa using hb
      rw [e, upd_ne (Nat.ne_of_lt hlt)]
      exact (hf it (by simp)).1
  done := by
    intro X hP hw hK hc i pins s σ H E I hf st hg
    subst hP hw hK
    obtain ⟨hd, hi⟩ := hg
    obtain ⟨f0, f1, f2, f3, f4, f5⟩ := hf it (by simp)
    obtain ⟨hs, hgd, hx, es', ep', hdt, hsz, ent⟩ := Inv.frzTV I hd
    obtain ⟨rfl, rfl⟩ := dict_ep hod hdt
    obtain ⟨ok, ov, he⟩ := st
    rw [← hsz] at he
    exact DT.endI (I.ok.hd hc) he ⟨o, hgd, hx, hdt⟩ (by omega) fun h' eb => ⟨rfl, I.turned (t' := s.toks) (fun b ob hb e => eb b ob hb e) f0 f1 f3 f4 f5⟩
  self := fun A i s Q E st h => let ⟨_, _, e⟩ := st; PySem.W.kcp_self e h
end
def iItemsT (td : TE) : TI := fun σ H R => td σ H fun x H1 => ∃ d o kvs, x = .ref d ∧ H1 d = some (.frz o (.dT kvs)) ∧ R (Itit d o kvs) H1
section
variable {X : Cx} {tg e : Expr} {td : TE} {apos cpos : Pos}
theorem pi_itemsT {elts : List Expr} {kk : Nat} {tpos : Pos} (he : PE X e td) (hbase : attributeBase e "items" X.env (eval e X.env) = eval e X.env := by rfl) (hline : (apos.endLine == cpos.line) = true := by rfl) :
    PI X (.Tuple elts kk tpos) (.Call (.Attribute e "items" apos) [] [] cpos) (iItemsT td) := by
  refine ⟨fun pins s σ H R I h => ?_⟩
  refine wpAny_Call_method (T := "dict") (id := "dict.items") hbase rfl hline F.plainAttrs_dict F.slot_dict_items F.type_dict_items (thn (he.run pins s σ H _ I h) fun u s1 ⟨x, H1, I1, rx, d, o, kvs, ex, hd, q⟩ => ?_)
  subst ex
  obtain rfl : u = Value.ref d := rx
  obtain ⟨hs, hgd, hx, es, ep, hdt, hsz, ent⟩ := Inv.frzTV I1 hd
  have raw : DT.Raw s1.heap d es ep := ⟨o, hgd, hx, hdt⟩
  refine ⟨raw.typeIs, fun b q => (by cases q; exact ⟨o, hgd, hx.2.1⟩), ?_⟩
  have I2 : Inv X pins σ H1 { s1 with heap := s1.heap.push { cls := .type "dict_items", data := .fields #[.ref d] } } := I1.kept (t' := s1.toks) fun b ob q => Heap.get?_push_of_some _ q
  have fin : wpAny (model X.prog X.w) X.A (pyIter (.ref s1.heap.objs.size)) (PIE X pins σ (.Tuple elts kk tpos) R) X.xe { s1 with heap := s1.heap.push { cls := .type "dict_items", data := .fields #[.ref d] } } := by
    refine DT.iterI (es := es) (ep := ep) ⟨_, Heap.get?_push_size _ rfl, rfl, rfl⟩ (raw.push _) (pi_one (tk := s1.toks) I2 _ (turn_itemsT _ hdt) ⟨.none, .none, ?_⟩ q)
    rw [← hsz]
    exact Heap.get?_push_size _ rfl
  show wpAny _ _ (callWith cpos (.builtin "dict.items") [.ref d] [] []) _ X.xe s1
  exact method_meetsIn F.slot_dict_items F.entry_dict_items rfl (PySem.evalArgs_none ⟨rfl, raw.typeIs, F.args_dict_items_1 _, _, DT.meetsItems (es := es) (ep := ep) hs, ⟨raw, fin⟩⟩)
end
section
variable {X : Cx} {tg e : Expr} {d : DE} {apos cpos : Pos}
theorem je_frzT (h : JE X e d) : JE X e (dFrzT d) := je_of (pe_frzT h) fun σ H Q h0_ => El54 h0_ fun ρ I S F P rs ok hd q => ⟨ρ, I, S, F, _, rs, ok, hd, fun x S1 v I1 H1 ⟨a, kvs, ex, h1⟩ e1 ok1 r1 => by
  subst ex
  refine ⟨a, r1.obj_of, ?_⟩
  rcases h1 with ⟨es, h1⟩ | ⟨_, h1⟩
  · obtain ⟨vs, hh, rf⟩ := ok1.dtAt es
    refine .inl ⟨vs, hh, fun o => ?_⟩
    have ok2 : Ok X.K I1 (supd S1 a (.dU o vs kvs)) F (upd H1 a (.frz o (.dT vs))) := ok1.write es (fun y z => by rw [hh] at z; cases z) ⟨upd_same, rf⟩
    exact q _ _ _ _ _ (h1 o vs) e1 ok2 (by simp only [Rep]; exact r1.obj_of)
  · exact .inr (q _ _ _ _ _ h1 e1 ok1 r1)⟩
theorem ji_keysU (he : JE X e d) : JI X tg e (dTKeysU d) := ji_of (pi_keys he) fun σ H R h0_ => El54 h0_ fun ρ I S F P rs ok h q => ⟨ρ, I, S, F, _, rs, ok, h, fun x S1 v I1 H1 ⟨a, o, vs, kvs, ex, es, h1⟩ e1 ok1 r1 => by
  subst ex
  obtain ⟨_, hh, rf⟩ := ok1.s a _ es
  refine ⟨a, o, r1.obj_of, .inr ⟨vs, hh, q _ _ _ _ _ _ h1 e1 ok1 ⟨fun I2 S2 F2 H2 e2 ok2 pk i d hd => ?_, fun I2 S2 F2 H2 e2 ok2 pk i hi => ?_⟩⟩⟩
  · obtain ⟨_, hh2, rf2⟩ := ok2.s a _ (show S2 a = _ from pk)
    rw [List.getElem?_map] at hd
    cases e3 : kvs[i]? with
    | none => rw [e3] at hd; cases hd
    | some p =>
      rw [e3] at hd
      cases hd
      obtain ⟨u, hu, _⟩ := rf2.getK e3
      refine ⟨⟨hh2, by rw [List.getElem?_eq_some_iff] at hu; exact hu.1⟩, fun y H3 hy => ?_⟩
      obtain ⟨rfl, k, w, b, hk, rfl, hb⟩ := hy
      rw [hu] at hk
      cases hk
      obtain ⟨I3, e3, hb3, ok3⟩ := ok2.adopt hb
      refine ⟨I3, e3, ok3, ?_⟩
      unfold tuD
      simp only [Rep]
      exact ⟨b, _, rfl, .inl hb3, repL_kD _⟩
  · obtain ⟨_, hh2, rf2⟩ := ok2.s a _ (show S2 a = _ from pk)
    refine ⟨hh2, ?_⟩
    rw [rf2.lenK]
    rw [List.length_map] at hi
    omega⟩
theorem ji_itemsU {elts : List Expr} {kk : Nat} {tpos : Pos} (he : JE X e d) (hbase : attributeBase e "items" X.env (eval e X.env) = eval e X.env := by rfl) (hline : (apos.endLine == cpos.line) = true := by rfl) :
    JI X (.Tuple elts kk tpos) (.Call (.Attribute e "items" apos) [] [] cpos) (dTItemsU d) :=
  ji_of (pi_itemsT he hbase hline) fun σ H R h0_ => El54 h0_ fun ρ I S F P rs ok h q => ⟨ρ, I, S, F, _, rs, ok, h, fun x S1 v I1 H1 ⟨a, o, vs, kvs, ex, es, h1⟩ e1 ok1 r1 => by
    subst ex
    obtain ⟨_, hh, rf⟩ := ok1.s a _ es
    refine ⟨a, o, vs, r1.obj_of, hh, q _ _ _ _ _ _ h1 e1 ok1 ⟨fun I2 S2 F2 H2 e2 ok2 pk i d hd => ?_, fun I2 S2 F2 H2 e2 ok2 pk i hi => ?_⟩⟩
    · obtain ⟨_, hh2, rf2⟩ := ok2.s a _ (show S2 a = _ from pk)
      rw [List.getElem?_map] at hd
      cases e3 : kvs[i]? with
      | none => rw [e3] at hd; cases hd
      | some p =>
        rw [e3] at hd
        cases hd
        obtain ⟨u, hu, ru⟩ := rf2.getK e3
        refine ⟨⟨hh2, by rw [List.getElem?_eq_some_iff] at hu; exact hu.1⟩, fun y H3 hy => ?_⟩
        obtain ⟨T, b, k, w, hk, rfl, hb, hT, rfl⟩ := hy
        rw [hu] at hk
        cases hk
        obtain ⟨I3, e4, hb3, ok3⟩ := ok2.adopt hb
        have nT := ok3.freshI hT
        refine ⟨_, e4.trans (same_new nT), ok3.newI hT, rep_new_tup nT (RepL.cons ?_ (RepL.one (ru.mono e4)))⟩
        unfold tuD
        simp only [Rep]
        exact ⟨b, _, rfl, .inl hb3, repL_kD _⟩
    · obtain ⟨_, hh2, rf2⟩ := ok2.s a _ (show S2 a = _ from pk)
      refine ⟨hh2, ?_⟩
      rw [rf2.lenK]
      rw [List.length_map] at hi
      omega⟩
end
/-- len(d) -/
def cLenT : DC := fun xs S P => match xs with
  | [.obj a] => match S a with
    | some (.dT kvs) => P (.int kvs.length) S
    | _ => False
  | _ => False
theorem i_lenT {K : PySem.W.Frag} : ImpC K rLenT cLenT := by
  intro xs vs I S F H P Q ok r h q
  unfold cLenT at h
  split at h
  · split at h
    · rename_i a _ kvs e
      obtain ⟨v, rfl, rv⟩ := r.inv1
      obtain ⟨vs, hh, rf⟩ := ok.dtAt e
      exact ⟨a, vs, by rw [rv.obj_of], hh, by rw [rf.lenK]; exact q _ _ _ _ _ h (Same.refl I) ok rep_int⟩
    · exact h.elim
  · exact h.elim
/-- list(d): its keys -/
def cListT : DC := fun xs S P => match xs with
  | [x] => match tctOf S x with
    | some kvs => P (.lst (kvs.map fun kv => tkD kv.1)) S
    | none => False
  | _ => False
section
variable {X : Cx} {a : Expr} {p pos : Pos} {ds : DA}
theorem je_lenT (hm : X.mg "len" = none) (ha : JA X [a] ds) (hg : Gl X "len" := by rfl) (hs : starEach [a] X.env = [(false, eval a X.env)] := by rfl) : JE X (.Call (.Name "len" p) [a] [] pos) (dCB cLenT ds) := je_callB call_len_dT i_lenT hg hm b_len ha (hs := hs) (hpl := by rfl)
end
end DL

/-! fractions as data, their sizes -/
namespace Lb
open PySem PySem.Spec PyProof.Rows L2 DL

theorem supd_same0 {S : Store} {p : Addr} {m : MO} : supd S p m p = some m := by unfold supd; rw [if_pos rfl]
theorem put_nm {i : Nat} {x : D} {ρ : DSt} : Tgt.put (.nm i) x ρ = some (ρ.set i (some x)) := by simp only [Tgt.put]
theorem put_tp {ts : List Tgt} {xs : List D} {ρ : DSt} : Tgt.put (.tp ts) (.tup xs) ρ = Tgt.putL ts xs ρ := by simp only [Tgt.put]
theorem put_tl {ts : List Tgt} {xs : List D} {ρ : DSt} : Tgt.put (.tp ts) (.lst xs) ρ = Tgt.putL ts xs ρ := by simp only [Tgt.put]
theorem putL_nil {ρ : DSt} : Tgt.putL [] [] ρ = some ρ := by simp only [Tgt.putL]
theorem putL_cons {t : Tgt} {ts : List Tgt} {x : D} {xs : List D} {ρ : DSt} : Tgt.putL (t :: ts) (x :: xs) ρ = (t.put x ρ).bind fun ρ' => Tgt.putL ts xs ρ' := by simp only [Tgt.putL]
def encR (q : Rat) : D := .tup [.int q.num, .int (q.den : Int)]
/-- so many bits at most -/
def Sz (n : Nat) (q : Rat) : Prop := q.num.natAbs < 2 ^ n ∧ q.den < 2 ^ n
theorem Sz.mono {n m : Nat} {q : Rat} (h : Sz n q) (hm : n ≤ m) : Sz m q := ⟨Nat.lt_of_lt_of_le h.1 (Nat.pow_le_pow_right (by decide) hm), Nat.lt_of_lt_of_le h.2 (Nat.pow_le_pow_right (by decide) hm)⟩
theorem sz_int {n : Nat} {k : Int} (h : k.natAbs < 2 ^ n) (h1 : 1 ≤ n := by decide) : Sz n (k : Rat) := ⟨h, by show 1 < 2 ^ n; exact Nat.one_lt_two_pow (by omega)⟩
theorem frac_num {a b : Int} (hb : b ≠ 0) : ((a : Rat) / (b : Rat)).num = b.sign * a / (Int.gcd a b : Int) ∧ (((a : Rat) / (b : Rat)).den : Int) = (b.natAbs : Int) / (Int.gcd a b : Int) := by
  rw [← Rat.divInt_eq_div, Rat.num_divInt, Rat.den_divInt, if_neg hb, Int.gcd_comm b a]
  exact ⟨rfl, by simp⟩
theorem gcd_pos_r {a b : Int} (hb : b ≠ 0) : 0 < (Int.gcd a b : Int) := by
  have := Int.gcd_pos_of_ne_zero_right a hb
  omega
theorem natAbs_div_le (a : Int) (g : Int) (hg : 0 < g) : (a / g).natAbs ≤ a.natAbs := by
  exact Int.natAbs_ediv_le_natAbs a g
/-- the size of a quotient of whole numbers -/
theorem sz_frac {n : Nat} {a b : Int} (hb : b ≠ 0) (h1 : a.natAbs < 2 ^ n) (h2 : b.natAbs < 2 ^ n) : Sz n ((a : Rat) / (b : Rat)) := by
  obtain ⟨e1, e2⟩ := frac_num (a := a) hb
  have hg := gcd_pos_r (a := a) hb
  have hdvd : (Int.gcd a b : Int) ∣ a := Int.gcd_dvd_left a b
  refine ⟨?_, ?_⟩
  · rw [e1]
    refine Nat.lt_of_le_of_lt (natAbs_div_le _ _ hg) ?_
    rw [Int.natAbs_mul]
    have : b.sign.natAbs ≤ 1 := by
      rcases Int.lt_trichotomy b 0 with h | h | h
      · simp [Int.sign_eq_neg_one_of_neg h]
      · exact absurd h hb
      · simp [Int.sign_eq_one_of_pos h]
    calc b.sign.natAbs * a.natAbs ≤ 1 * a.natAbs := Nat.mul_le_mul_right _ this
      _ < 2 ^ n := by omega
  · have : (((a : Rat) / (b : Rat)).den : Int).natAbs ≤ b.natAbs := by
      rw [e2]
      exact Nat.le_trans (natAbs_div_le _ _ hg) (by simp)
    omega
theorem rat_eq (q : Rat) : q = (q.num : Rat) / ((q.den : Int) : Rat) := by
  rw [← Rat.divInt_eq_div, Rat.num_divInt_den]
theorem den_ne (q : Rat) : ((q.den : Int) : Rat) ≠ 0 := by
  have : (q.den : Int) ≠ 0 := by have := q.den_pos; omega
  intro h
  exact this (by exact_mod_cast h)
theorem rat_add (q r : Rat) : q + r = ((q.num * (r.den : Int) + r.num * (q.den : Int) : Int) : Rat) / (((q.den : Int) * (r.den : Int) : Int) : Rat) := by
  rw [← Rat.divInt_eq_div, Rat.add_def', ← Rat.divInt_ofNat, Int.natCast_mul]
theorem rat_sub (q r : Rat) : q - r = ((q.num * (r.den : Int) - r.num * (q.den : Int) : Int) : Rat) / (((q.den : Int) * (r.den : Int) : Int) : Rat) := by
  rw [← Rat.divInt_eq_div, Rat.sub_def', ← Rat.divInt_ofNat, Int.natCast_mul]
theorem rat_mul (q r : Rat) : q * r = ((q.num * r.num : Int) : Rat) / (((q.den : Int) * (r.den : Int) : Int) : Rat) := by
  rw [← Rat.divInt_eq_div, Rat.mul_def', ← Rat.divInt_ofNat, Int.natCast_mul]
theorem pow_bound {a b n m : Nat} (h1 : a < 2 ^ n) (h2 : b < 2 ^ m) : a * b < 2 ^ (n + m) := by
  rw [Nat.pow_add]
  exact Nat.mul_lt_mul'' h1 h2
theorem den_nz (q : Rat) : (q.den : Int) ≠ 0 := by have := q.den_pos; omega
theorem add_bound {q r : Rat} {n m : Nat} (h1 : Sz n q) (h2 : Sz m r) (s : Int) (hs : s.natAbs = 1) : (q.num * (r.den : Int) + s * (r.num * (q.den : Int))).natAbs < 2 ^ (n + m + 1) ∧ ((q.den : Int) * (r.den : Int)).natAbs < 2 ^ (n + m + 1) := by
  have a1 := pow_bound h1.1 h2.2
  have a2 := pow_bound h2.1 h1.2
  have a3 := pow_bound h1.2 h2.2
  have e : 2 ^ (n + m + 1) = 2 * 2 ^ (n + m) := by rw [Nat.pow_succ]; omega
  have e2 : 2 ^ (m + n) = 2 ^ (n + m) := by rw [Nat.add_comm]
  rw [e2] at a2
  constructor
  · refine Nat.lt_of_le_of_lt (Int.natAbs_add_le _ _) ?_
    rw [Int.natAbs_mul, Int.natAbs_mul, Int.natAbs_mul, hs]
    simp only [Int.natAbs_natCast, Nat.one_mul]
    omega
  · rw [Int.natAbs_mul]
    simp only [Int.natAbs_natCast]
    omega
theorem sz_add {q r : Rat} {n m : Nat} (h1 : Sz n q) (h2 : Sz m r) : Sz (n + m + 1) (q + r) := by
  rw [rat_add]
  have := add_bound h1 h2 1 rfl
  exact sz_frac (Int.mul_ne_zero (den_nz q) (den_nz r)) (by simpa using this.1) this.2
theorem sz_sub {q r : Rat} {n m : Nat} (h1 : Sz n q) (h2 : Sz m r) : Sz (n + m + 1) (q - r) := by
  rw [rat_sub]
  have := add_bound h1 h2 (-1) rfl
  exact sz_frac (Int.mul_ne_zero (den_nz q) (den_nz r)) (by
    have e : q.num * (r.den : Int) - r.num * (q.den : Int) = q.num * (r.den : Int) + -1 * (r.num * (q.den : Int)) := by omega
    rw [e]; exact this.1) this.2
theorem mul_bound {q r : Rat} {n m : Nat} (h1 : Sz n q) (h2 : Sz m r) : (q.num * r.num).natAbs < 2 ^ (n + m) ∧ ((q.den : Int) * (r.den : Int)).natAbs < 2 ^ (n + m) := by
  constructor
  · rw [Int.natAbs_mul]; exact pow_bound h1.1 h2.1
  · rw [Int.natAbs_mul]; simp only [Int.natAbs_natCast]; exact pow_bound h1.2 h2.2
theorem sz_mul {q r : Rat} {n m : Nat} (h1 : Sz n q) (h2 : Sz m r) : Sz (n + m) (q * r) := by
  rw [rat_mul]
  have := mul_bound h1 h2
  exact sz_frac (Int.mul_ne_zero (den_nz q) (den_nz r)) this.1 this.2
theorem log_lt {a n : Nat} (h : a < 2 ^ n) (hn : 0 < n) : a.log2 < n := PySem.Flt.log2_lt_of hn h
theorem mulB {i j : Int} {n m : Nat} (h1 : i.natAbs < 2 ^ n) (h2 : j.natAbs < 2 ^ m) (h : n + m ≤ 900000) : MulB i j := by
  refine .inr ?_
  unfold CMulW
  have a := log_lt (n := n + 1) (Nat.lt_trans h1 (Nat.pow_lt_pow_right (by decide) (by omega))) (by omega)
  have b := log_lt (n := m + 1) (Nat.lt_trans h2 (Nat.pow_lt_pow_right (by decide) (by omega))) (by omega)
  omega
theorem mulS {i j : Int} (h : -(2 ^ 64) < i ∧ i < 2 ^ 64 := by omega) : MulB i j := .inl (.inl h)
theorem mulS2 {i j : Int} (h : -(2 ^ 64) < j ∧ j < 2 ^ 64 := by omega) : MulB i j := .inl (.inr h)
theorem divB {j : Int} {n : Nat} (h0 : j ≠ 0) (h1 : j.natAbs < 2 ^ n) (h : n ≤ 8999) : DivB j := by
  have a := log_lt (n := n + 1) (Nat.lt_trans h1 (Nat.pow_lt_pow_right (by decide) (by omega))) (by omega)
  exact ⟨h0, by omega⟩
theorem divS {j : Int} (h0 : j ≠ 0) (h : j.natAbs < 2 ^ 60 := by omega) : DivB j := divB (n := 60) h0 h (by decide)

/-! powers of a base -/
theorem zpow_of_nat (b : Rat) (n : Nat) : b ^ (n : Int) = b ^ n := rfl
theorem intpow_cast (b : Int) (n : Nat) : ((b ^ n : Int) : Rat) = (b : Rat) ^ n := by
  induction n with
  | zero => simp
  | succ n ih => rw [Int.pow_succ, Rat.pow_succ, Rat.intCast_mul, ih]
theorem encR_zpow_nn (b : Int) (k : Int) (h : 0 ≤ k) : encR ((b : Rat) ^ k) = .tup [.int (b ^ k.toNat), .int 1] := by
  have : (b : Rat) ^ k = ((b ^ k.toNat : Int) : Rat) := by
    rw [intpow_cast, ← zpow_of_nat]
    congr 1; omega
  rw [this]; rfl
theorem encR_zpow_neg (b : Int) (k : Int) (hb : 0 < b) (h : k < 0) : encR ((b : Rat) ^ k) = .tup [.int 1, .int (b ^ (-k).toNat)] := by
  have hp : 0 < b ^ (-k).toNat := Int.pow_pos hb
  have : (b : Rat) ^ k = ((1 : Int) : Rat) / ((b ^ (-k).toNat : Int) : Rat) := by
    rw [intpow_cast, ← zpow_of_nat]
    have e : k = -(((-k).toNat : Nat) : Int) := by omega
    conv => lhs; rw [e, Rat.zpow_neg]
    simp [Rat.div_def]
  obtain ⟨e1, e2⟩ := frac_num (a := 1) (b := b ^ (-k).toNat) (by omega)
  unfold encR
  rw [this, e1, e2]
  have s : (b ^ (-k).toNat).sign = 1 := Int.sign_eq_one_of_pos hp
  have g1 : Int.gcd 1 (b ^ (-k).toNat) = 1 := by simp
  rw [s, g1]
  have e3 : ((b ^ (-k).toNat).natAbs : Int) = b ^ (-k).toNat := by omega
  rw [e3]
  simp
theorem sz_zpow {b k : Int} (hb : 0 < b) (hb2 : b ≤ 16) : Sz (4 * k.natAbs + 1) ((b : Rat) ^ k) := by
  have key : ∀ n : Nat, (b ^ n).natAbs < 2 ^ (4 * n + 1) := fun n => by
    rw [Int.natAbs_pow]
    have h1 : b.natAbs ≤ 2 ^ 4 := by omega
    calc b.natAbs ^ n ≤ (2 ^ 4) ^ n := Nat.pow_le_pow_left h1 n
      _ = 2 ^ (4 * n) := by rw [Nat.pow_mul]
      _ < 2 ^ (4 * n + 1) := Nat.pow_lt_pow_right (by decide) (by omega)
  by_cases h : 0 ≤ k
  · have e := encR_zpow_nn b k h
    unfold encR at e
    simp only [D.tup.injEq, List.cons.injEq, D.int.injEq, and_true] at e
    have hk : k.toNat = k.natAbs := by omega
    refine ⟨by rw [e.1, hk]; exact key _, ?_⟩
    have : ((b : Rat) ^ k).den = 1 := by omega
    rw [this]
    exact Nat.one_lt_two_pow (by omega)
  · have e := encR_zpow_neg b k hb (by omega)
    unfold encR at e
    simp only [D.tup.injEq, List.cons.injEq, D.int.injEq, and_true] at e
    have hk : (-k).toNat = k.natAbs := by omega
    refine ⟨by rw [e.1]; exact Nat.one_lt_two_pow (by omega), ?_⟩
    have h2 := key k.natAbs
    rw [hk] at e
    have h3 : ((((b : Rat) ^ k).den : Int)).natAbs < 2 ^ (4 * k.natAbs + 1) := by rw [e.2]; exact h2
    omega
theorem atI_0 {α : Type} (a : α) (l : List α) : atI (a :: l) 0 = some a := by
  unfold atI ixN
  rw [if_pos (by decide), if_pos (by simp only [List.length_cons]; omega)]
  rfl
theorem atI_1 {α : Type} (a b : α) (l : List α) : atI (a :: b :: l) 1 = some b := by
  unfold atI ixN
  rw [if_pos (by decide), if_pos (by simp only [List.length_cons]; omega)]
  rfl
theorem atI_2 {α : Type} (a b c : α) (l : List α) : atI (a :: b :: c :: l) 2 = some c := by
  unfold atI ixN
  rw [if_pos (by decide), if_pos (by simp only [List.length_cons]; omega)]
  rfl
theorem atI_3 {α : Type} (a b c d : α) (l : List α) : atI (a :: b :: c :: d :: l) 3 = some d := by
  unfold atI ixN
  rw [if_pos (by decide), if_pos (by simp only [List.length_cons]; omega)]
  rfl
theorem eqB_ii {i j : Int} : dEqB (.int i) (.int j) = some (decide (i = j)) := rfl
theorem eqB_bb {i j : Bool} : dEqB (.bl i) (.bl j) = some (decide (i = j)) := rfl
theorem eqB_ss {i j : Str} : dEqB (.str i) (.str j) = some (decide (i = j)) := rfl
theorem eqB_nn : dEqB .non .non = some true := rfl
theorem eqB_ni {j : Int} : dEqB .non (.int j) = some false := rfl
theorem eqB_in {j : Int} : dEqB (.int j) .non = some false := rfl
theorem eqB_ns {j : Str} : dEqB .non (.str j) = some false := rfl
theorem eqB_sn {j : Str} : dEqB (.str j) .non = some false := rfl
theorem eqB_is {i : Int} {j : Str} : dEqB (.int i) (.str j) = some false := rfl
theorem eqB_si {i : Int} {j : Str} : dEqB (.str j) (.int i) = some false := rfl
theorem eqB_nb {j : Bool} : dEqB .non (.bl j) = some false := rfl
theorem eqB_bn {j : Bool} : dEqB (.bl j) .non = some false := rfl
theorem map_toNat_inj : ∀ (l m : List Char), l.map Char.toNat = m.map Char.toNat → l = m
  | [], [], _ => rfl
  | [], _ :: _, h => by simp at h
  | _ :: _, [], h => by simp at h
  | a :: l, b :: m, h => by
    simp only [List.map_cons, List.cons.injEq] at h
    rw [map_toNat_inj l m h.2, Char.toNat_inj.mp h.1]
theorem ofString_inj (a b : String) : (Str.ofString a = Str.ofString b) = (a = b) := by
  apply propext
  constructor
  · intro h
    rw [Str.ofString_eq_toList, Str.ofString_eq_toList] at h
    have h : List.map Char.toNat a.toList = List.map Char.toNat b.toList := congrArg (fun z : Str => z.cps.toList) h
    have : a.toList = b.toList := map_toNat_inj _ _ h
    exact String.ext this
  · intro h; rw [h]
local macro_rules | `(tactic| walk_at "dgo") => `(tactic| try simp only [dSeq, dSet, dPar, dOp, dUn, dVar, dC, dCB, dCons, dNil, dTup, dLst, dLstM, dIfS, dIf, dTest, dNot, dAnd, dOr, dAndV, dOrV, dNotV, dRet, dRetN, dEnd, dNext, dAdd, dSub, dMul, dFdiv, dMod, dPow, dNeg, dLt, dLe, dGt, dGe, dEq, dNe, eqB_ii, eqB_bb, eqB_ss, eqB_nn, eqB_ni, eqB_in, eqB_ns, eqB_sn, eqB_is, eqB_si, eqB_nb, eqB_bn, dIx, dIn, dIsN, dNotN, DL.isNon, cAbs, cMax2, cMin2, cInt, cLen, cList, cTuple, dIsB, dNotB, dPar3, ForN, LcN, pinOf, pin2, dEnum2, dAppend, supd_same0, isi_non_int, isi_non_bool, isi_non_str, isi_non_list, isi_non_tuple, isi_non_lt, isi_bl_int, isi_bl_bool, isi_bl_str, isi_bl_list, isi_bl_tuple, isi_bl_lt, isi_int_int, isi_int_bool, isi_int_str, isi_int_list, isi_int_tuple, isi_int_lt, isi_str_int, isi_str_bool, isi_str_str, isi_str_list, isi_str_tuple, isi_str_lt, isi_lst_int, isi_lst_bool, isi_lst_str, isi_lst_list, isi_lst_tuple, isi_lst_lt, isi_tup_int, isi_tup_bool, isi_tup_str, isi_tup_list, isi_tup_tuple, isi_tup_lt, dAug, dIAdd, dIMul, dDrop, dSl, dPart, dNoPart, dRevL, dCallK, dChainR, dAsg, put_nm, put_tp, put_tl, putL_nil, putL_cons, Option.bind, seqOf, lstOf, dFor, dLc, dLcM, dItSeq, dZip, dZipS, dEnum, dRng1, dRng2, dYes, dwipe, Tgt.slots, Tgt.slotsL,
  atI_0, atI_1, atI_2, atI_3, List.getElem?_cons_zero, List.getElem?_cons_succ, List.set_cons_zero, List.set_cons_succ, decide_eq_true_eq, List.length_cons, List.length_nil, List.cons_append, List.nil_append, List.append_nil, ofString_inj, String.reduceEq, decide_true, decide_false, reduceIte, Bool.false_eq_true, Bool.not_true, Bool.not_false, eqFlat, isFlat, List.any_cons, List.any_nil, List.all_cons, List.all_nil, Bool.or_false, Bool.or_true, Bool.false_or, Bool.true_or, Bool.and_true, Bool.true_and, true_and, and_true, Nat.reduceAdd, Nat.reduceLeDiff, Int.reduceLT, Int.reduceLE, Int.reduceNeg])
/-! ### fractions -/
def sp_common : DSp := fun ds S P => ∃ a b : Int, ds = [.int a, .int b] ∧ 0 ≤ a ∧ 0 ≤ b ∧ P (.int (Int.gcd a b)) S
def rd_common : DS :=
  (dSeq (dWhile (dTest (dOp dGt (dVar 1) (dC (.int 0)))) (dPar 0 1 (dCons (dVar 1) (dCons (dOp dMod (dVar 0) (dVar 1)) dNil))))
  (dRet (dVar 0)))
def goal_common : Prop := ∀ (x0 x1 : D) (S : Store) (P : D → Store → Prop), sp_common [x0, x1] S P → rd_common (dEnd P) [some x0, some x1] S
theorem len_common : ∀ ds S P, sp_common ds S P → ds.length = 2 := by
  rintro ds S P ⟨a, b, rfl, _⟩; rfl
theorem gcd_step (c d : Int) (h : 0 < d) : Int.gcd d (c % d) = Int.gcd c d := by
  have hc : Int.gcd d (c % d) = Int.gcd d c := by
    have e : c = d * (c / d) + c % d := by have := Int.emod_add_mul_ediv c d; omega
    conv => rhs; rw [e]
    simp
  rw [hc, Int.gcd_comm]
theorem vc_common : goal_common := by
  rintro x0 x1 S P ⟨a, b, e, ha, hb, h⟩
  cases e
  unfold rd_common
  walk_at "dgo"
  refine ⟨fun m ρ S' => ∃ c d : Int, m = d.toNat ∧ ρ = [some (.int c), some (.int d)] ∧ S' = S ∧ 0 ≤ c ∧ 0 ≤ d ∧ Int.gcd c d = Int.gcd a b, ⟨_, a, b, rfl, rfl, rfl, ha, hb, rfl⟩, ?_⟩
  rintro m ρ S' ⟨c, d, rfl, rfl, rfl, hc, hd, hg⟩
  walk_at "dgo"
  split
  · rename_i h0
    have h1 := Int.emod_nonneg c (b := d) (by omega)
    have h2 := Int.emod_lt_of_pos c h0
    exact ⟨h0, (c % d).toNat, by omega, d, c % d, rfl, rfl, hd, h1, by rw [← hg]; exact gcd_step c d h0⟩
  · have : d = 0 := by omega
    subst this
    have e : (c : Int) = (Int.gcd a b : Int) := by
      rw [← hg, Int.gcd_zero_right]; omega
    rw [e]; exact h
def sp_frac : DSp := fun ds S P => ∃ a b : Int, ds = [.int a, .int b] ∧ b ≠ 0 ∧ a.natAbs < 2 ^ 8900 ∧ b.natAbs < 2 ^ 8900 ∧ P (encR ((a : Rat) / (b : Rat))) S
def rd_frac : DS :=
  (dSeq (dSet 2 (dCB sp_common (dCons (dCB cAbs (dCons (dVar 0) dNil)) (dCons (dCB cAbs (dCons (dVar 1) dNil)) dNil))))
  (dSeq (dSet 2 (dIf (dTest (dOp dGt (dVar 1) (dC (.int 0)))) (dVar 2) (dUn dNeg (dVar 2))))
  (dRet (dTup (dCons (dOp dFdiv (dVar 0) (dVar 2)) (dCons (dOp dFdiv (dVar 1) (dVar 2)) dNil))))))
def goal_frac : Prop := ∀ (x0 x1 : D) (S : Store) (P : D → Store → Prop), sp_frac [x0, x1] S P → rd_frac (dEnd P) [some x0, some x1, none] S
theorem len_frac : ∀ ds S P, sp_frac ds S P → ds.length = 2 := by
  rintro ds S P ⟨a, b, rfl, _⟩; rfl
theorem abs_if (a : Int) : (if a < 0 then -a else a) = (a.natAbs : Int) := by split <;> omega
theorem gcd_abs (a b : Int) : Int.gcd (a.natAbs : Int) (b.natAbs : Int) = Int.gcd a b := by simp [Int.gcd]
theorem gcd_le_r {a b : Int} (hb : b ≠ 0) : Int.gcd a b ≤ b.natAbs := Nat.le_of_dvd (by omega) (by have := Int.natAbs_dvd_natAbs.mpr (Int.gcd_dvd_right a b); simpa using this)
theorem fdiv_dvd {a g k : Int} (hg : g ≠ 0) (e : a = g * k) : a.fdiv g = k := by
  subst e
  exact Int.mul_fdiv_cancel_left k hg
theorem encR_frac {a b : Int} (hb : b ≠ 0) : encR ((a : Rat) / (b : Rat)) = .tup [.int (b.sign * a / (Int.gcd a b : Int)), .int ((b.natAbs : Int) / (Int.gcd a b : Int))] := by
  obtain ⟨e1, e2⟩ := frac_num (a := a) hb
  unfold encR
  rw [e1, e2]
theorem vc_frac : goal_frac := by
  rintro x0 x1 S P ⟨a, b, e, hb, h1, h2, h⟩
  cases e
  unfold rd_frac
  walk_at "dgo"
  refine ⟨_, _, rfl, by rw [abs_if]; omega, by rw [abs_if]; omega, ?_⟩
  rw [abs_if, abs_if, gcd_abs]
  have hg := gcd_pos_r (a := a) hb
  obtain ⟨k, ek⟩ : (Int.gcd a b : Int) ∣ a := Int.gcd_dvd_left a b
  obtain ⟨l, el⟩ : (Int.gcd a b : Int) ∣ b := Int.gcd_dvd_right a b
  have hgl := gcd_le_r (a := a) hb
  rw [encR_frac hb] at h
  generalize hG : (Int.gcd a b : Int) = g at *
  have hgs : g.natAbs < 2 ^ 8900 := by omega
  walk_at "dgo"
  by_cases hp : 0 < b
  · rw [if_pos hp]
    refine ⟨divB (n := 8900) (by omega) hgs (by decide), divB (n := 8900) (by omega) hgs (by decide), ?_⟩
    rw [Int.sign_eq_one_of_pos hp, Int.one_mul] at h
    have e1 : a.fdiv g = a / g := by rw [Int.fdiv_eq_ediv_of_nonneg _ (by omega)]
    have e2 : b.fdiv g = (b.natAbs : Int) / g := by
      rw [Int.fdiv_eq_ediv_of_nonneg _ (by omega)]
      congr 1; omega
    rw [e1, e2]; exact h
  · rw [if_neg hp]
    refine ⟨divB (n := 8900) (by omega) (by rw [Int.natAbs_neg]; exact hgs) (by decide), divB (n := 8900) (by omega) (by rw [Int.natAbs_neg]; exact hgs) (by decide), ?_⟩
    rw [Int.sign_eq_neg_one_of_neg (show b < 0 by omega)] at h
    have e1 : a.fdiv (-g) = -1 * a / g := by
      rw [fdiv_dvd (k := -k) (by omega) (by rw [Int.neg_mul_neg]; exact ek)]
      rw [show -1 * a = g * (-k) by rw [ek]; simp [Int.mul_neg]]
      rw [Int.mul_ediv_cancel_left _ (by omega)]
    have e2 : b.fdiv (-g) = (b.natAbs : Int) / g := by
      rw [fdiv_dvd (k := -l) (by omega) (by rw [Int.neg_mul_neg]; exact el)]
      rw [show (b.natAbs : Int) = g * (-l) by rw [Int.mul_neg, ← el]; omega]
      rw [Int.mul_ediv_cancel_left _ (by omega)]
    rw [e1, e2]; exact h
theorem bound_mono {x : Nat} {n m : Nat} (h : x < 2 ^ n) (hm : n ≤ m := by decide) : x < 2 ^ m := Nat.lt_of_lt_of_le h (Nat.pow_le_pow_right (by decide) hm)
/-- two fractions of moderate size -/
def sp_plus : DSp := fun ds S P => ∃ q r : Rat, ds = [encR q, encR r] ∧ Sz 4000 q ∧ Sz 4000 r ∧ P (encR (q + r)) S
def rd_plus : DS :=
  (dRet (dCB sp_frac (dCons (dOp dAdd (dOp dMul (dOp dIx (dVar 0) (dC (.int 0))) (dOp dIx (dVar 1) (dC (.int 1)))) (dOp dMul (dOp dIx (dVar 1) (dC (.int 0))) (dOp dIx (dVar 0) (dC (.int 1))))) (dCons (dOp dMul (dOp dIx (dVar 0) (dC (.int 1))) (dOp dIx (dVar 1) (dC (.int 1)))) dNil))))
def goal_plus : Prop := ∀ (x0 x1 : D) (S : Store) (P : D → Store → Prop), sp_plus [x0, x1] S P → rd_plus (dEnd P) [some x0, some x1] S
theorem len_plus : ∀ ds S P, sp_plus ds S P → ds.length = 2 := by
  rintro ds S P ⟨a, b, rfl, _⟩; rfl
theorem szmul {q : Rat} {r : Rat} {n m : Nat} (h1 : Sz n q) (h2 : Sz m r) (h : n + m ≤ 900000) : MulB q.num (r.den : Int) := mulB h1.1 (by simpa using h2.2) h
theorem szmulN {q : Rat} {r : Rat} {n m : Nat} (h1 : Sz n q) (h2 : Sz m r) (h : n + m ≤ 900000) : MulB q.num r.num := mulB h1.1 h2.1 h
theorem szmulD {q : Rat} {r : Rat} {n m : Nat} (h1 : Sz n q) (h2 : Sz m r) (h : n + m ≤ 900000) : MulB (q.den : Int) (r.den : Int) := mulB (by simpa using h1.2) (by simpa using h2.2) h
theorem vc_plus : goal_plus := by
  rintro x0 x1 S P ⟨q, r, e, h1, h2, h⟩
  cases e
  unfold rd_plus encR
  walk_at "dgo"
  obtain ⟨b1, b2⟩ := add_bound h1 h2 1 rfl
  refine ⟨szmul h1 h2 (by decide), szmul h2 h1 (by decide), szmulD h1 h2 (by decide), _, _, rfl, Int.mul_ne_zero (den_nz q) (den_nz r), bound_mono (by rw [Int.one_mul] at b1; exact b1), bound_mono b2, ?_⟩
  rw [← rat_add]; exact h
def sp_times : DSp := fun ds S P => ∃ q r : Rat, ds = [encR q, encR r] ∧ Sz 4000 q ∧ Sz 4000 r ∧ P (encR (q * r)) S
def rd_times : DS :=
  (dRet (dCB sp_frac (dCons (dOp dMul (dOp dIx (dVar 0) (dC (.int 0))) (dOp dIx (dVar 1) (dC (.int 0)))) (dCons (dOp dMul (dOp dIx (dVar 0) (dC (.int 1))) (dOp dIx (dVar 1) (dC (.int 1)))) dNil))))
def goal_times : Prop := ∀ (x0 x1 : D) (S : Store) (P : D → Store → Prop), sp_times [x0, x1] S P → rd_times (dEnd P) [some x0, some x1] S
theorem len_times : ∀ ds S P, sp_times ds S P → ds.length = 2 := by
  rintro ds S P ⟨a, b, rfl, _⟩; rfl
theorem vc_times : goal_times := by
  rintro x0 x1 S P ⟨q, r, e, h1, h2, h⟩
  cases e
  unfold rd_times encR
  walk_at "dgo"
  obtain ⟨b1, b2⟩ := mul_bound h1 h2
  refine ⟨szmulN h1 h2 (by decide), szmulD h1 h2 (by decide), _, _, rfl, Int.mul_ne_zero (den_nz q) (den_nz r), bound_mono b1, bound_mono b2, ?_⟩
  rw [← rat_mul]; exact h
def sp_is_below : DSp := fun ds S P => ∃ q r : Rat, ds = [encR q, encR r] ∧ Sz 400000 q ∧ Sz 400000 r ∧ P (.bl (decide (q < r))) S
def rd_is_below : DS :=
  (dRet (dOp dLt (dOp dMul (dOp dIx (dVar 0) (dC (.int 0))) (dOp dIx (dVar 1) (dC (.int 1)))) (dOp dMul (dOp dIx (dVar 1) (dC (.int 0))) (dOp dIx (dVar 0) (dC (.int 1))))))
def goal_is_below : Prop := ∀ (x0 x1 : D) (S : Store) (P : D → Store → Prop), sp_is_below [x0, x1] S P → rd_is_below (dEnd P) [some x0, some x1] S
theorem len_is_below : ∀ ds S P, sp_is_below ds S P → ds.length = 2 := by
  rintro ds S P ⟨a, b, rfl, _⟩; rfl
theorem vc_is_below : goal_is_below := by
  rintro x0 x1 S P ⟨q, r, e, h1, h2, h⟩
  cases e
  unfold rd_is_below encR
  walk_at "dgo"
  refine ⟨szmul h1 h2 (by decide), szmul h2 h1 (by decide), ?_⟩
  have e : decide (q < r) = decide (q.num * (r.den : Int) < r.num * (q.den : Int)) := by
    congr 1
    exact propext (Rat.lt_iff q r)
  rw [← e]; exact h
def sp_power : DSp := fun ds S P => ∃ b k : Int, ds = [.int b, .int k] ∧ 0 < b ∧ b ≤ 16 ∧ k.natAbs ≤ 900 ∧ P (encR ((b : Rat) ^ k)) S
def rd_power : DS :=
  (dSeq (dSet 2 (dC (.int 1)))
  (dSeq (dFor (dRng1 (dCons (dCB cAbs (dCons (dVar 1) dNil)) dNil)) (.nm 3) (dAug 2 dIMul (dVar 0)))
  (dRet (dIf (dTest (dOp dGe (dVar 1) (dC (.int 0)))) (dTup (dCons (dVar 2) (dCons (dC (.int 1)) dNil))) (dTup (dCons (dC (.int 1)) (dCons (dVar 2) dNil)))))))
def goal_power : Prop := ∀ (x0 x1 : D) (S : Store) (P : D → Store → Prop), sp_power [x0, x1] S P → rd_power (dEnd P) [some x0, some x1, none, none] S
theorem len_power : ∀ ds S P, sp_power ds S P → ds.length = 2 := by
  rintro ds S P ⟨a, b, rfl, _⟩; rfl
theorem vc_power : goal_power := by
  rintro x0 x1 S P ⟨b, k, e, h1, h2, h3, h⟩
  cases e
  unfold rd_power
  walk_at "dgo"
  rw [abs_if]
  refine ⟨by omega, by omega, fun i ρ S' => ∃ z, ρ = [some (.int b), some (.int k), some (.int (b ^ i)), z] ∧ S' = S, ⟨none, by simp, rfl⟩, ?_, ?_⟩
  · rintro i d ρ S' hd ⟨z, rfl, rfl⟩
    refine ⟨_, rfl, ?_⟩
    walk_at "dgo"
    refine ⟨mulS2, some d, ?_⟩
    rw [Int.pow_succ]
  · rintro ρ S' ⟨z, rfl, rfl⟩
    rw [rng_len]
    walk_at "dgo"
    by_cases hk : 0 ≤ k
    · rw [if_pos hk]
      rw [encR_zpow_nn b k hk] at h
      rw [show ((k.natAbs : Int)).toNat = k.toNat by omega]; exact h
    · rw [if_neg hk]
      rw [encR_zpow_neg b k h1 (by omega)] at h
      rw [show ((k.natAbs : Int)).toNat = (-k).toNat by omega]; exact h
/-! ### draws -/
def BoxAt (S : Store) (p : Addr) (n : Nat) : Prop := ∃ a s t : Int, S p = some (.lst [.int a, .int s, .int t]) ∧ 0 ≤ a ∧ 0 ≤ s ∧ s < 2 ^ 62 ∧ 0 ≤ t ∧ t ≤ n
def Drew (S S' : Store) (p : Addr) (n : Nat) : Prop := ∃ a s t : Int, S' = supd S p (.lst [.int a, .int s, .int t]) ∧ 0 ≤ a ∧ 0 ≤ s ∧ s < 2 ^ 62 ∧ 0 ≤ t ∧ t ≤ n
theorem supd_same {S : Store} {p : Addr} {m : MO} : supd S p m p = some m := by unfold supd; rw [if_pos rfl]
theorem supd_ne {S : Store} {p q : Addr} {m : MO} (h : q ≠ p) : supd S p m q = S q := by unfold supd; rw [if_neg h]
theorem supd_supd {S : Store} {p : Addr} {m m' : MO} : supd (supd S p m) p m' = supd S p m' := by
  funext q; unfold supd; split <;> rfl
theorem Drew.box {S S' : Store} {p : Addr} {n : Nat} (h : Drew S S' p n) : BoxAt S' p n := by
  obtain ⟨a, s, t, rfl, h⟩ := h
  exact ⟨a, s, t, supd_same, h⟩
theorem Drew.trans {S S1 S2 : Store} {p : Addr} {n m : Nat} (h : Drew S S1 p n) (h2 : Drew S1 S2 p m) : Drew S S2 p m := by
  obtain ⟨a, s, t, rfl, _⟩ := h
  obtain ⟨a, s, t, rfl, h⟩ := h2
  exact ⟨a, s, t, supd_supd, h⟩
theorem Drew.other {S S' : Store} {p q : Addr} {n : Nat} (h : Drew S S' p n) (hq : q ≠ p) : S' q = S q := by
  obtain ⟨a, s, t, rfl, _⟩ := h
  exact supd_ne hq
theorem Drew.mono {S S' : Store} {p : Addr} {n m : Nat} (h : Drew S S' p n) (hm : n ≤ m) : Drew S S' p m := by
  obtain ⟨a, s, t, e, h1, h2, h3, h4, h5⟩ := h
  exact ⟨a, s, t, e, h1, h2, h3, h4, by omega⟩
theorem BoxAt.mono {S : Store} {p : Addr} {n m : Nat} (h : BoxAt S p n) (hm : n ≤ m) : BoxAt S p m := by
  obtain ⟨a, s, t, e, h1, h2, h3, h4, h5⟩ := h
  exact ⟨a, s, t, e, h1, h2, h3, h4, by omega⟩
theorem BoxAt.refl {S : Store} {p : Addr} {n : Nat} (h : BoxAt S p n) : Drew S S p n := by
  obtain ⟨a, s, t, e, h⟩ := h
  refine ⟨a, s, t, ?_, h⟩
  funext q; unfold supd; split
  · rename_i z; rw [z, e]
  · rfl
def sp_Lcell_at : DSp := fun ds S P => ∃ (ns : List Int) (k : Int), ds = [.ext (ns.map .int), .int k] ∧ 0 ≤ k ∧ ∀ c, P (.int c) S
def rd_Lcell_at : DS :=
  (dSeq (dIfS (dTest (dOp dLt (dVar 1) (dCB cLen (dCons (dVar 0) dNil)))) (dRet (dOp dIx (dVar 0) (dVar 1))) dNext)
  (dRet (dC (.int 0))))
def goal_Lcell_at : Prop := ∀ (x0 x1 : D) (S : Store) (P : D → Store → Prop), sp_Lcell_at [x0, x1] S P → rd_Lcell_at (dEnd P) [some x0, some x1] S
theorem len_Lcell_at : ∀ ds S P, sp_Lcell_at ds S P → ds.length = 2 := by
  rintro ds S P ⟨a, b, rfl, _⟩; rfl
theorem atI_at {α : Type} {l : List α} {k : Int} (h0 : 0 ≤ k) (h1 : k < (l.length : Int)) : atI l k = l[k.toNat]? := by
  unfold atI ixN
  rw [if_pos h0, if_pos h1]
  rfl
theorem vc_Lcell_at : goal_Lcell_at := by
  rintro x0 x1 S P ⟨ns, k, e, h0, h⟩
  cases e
  unfold rd_Lcell_at
  walk_at "dgo"
  split
  · rename_i hk
    rw [atI_at h0 hk]
    rw [List.length_map] at hk
    have : k.toNat < ns.length := by omega
    rw [List.getElem?_map, List.getElem?_eq_getElem this]
    exact h _
  · exact h _
def sp_Lbox : DSp := fun ds S P => ∃ (ns : List Int) (k : Int), ds = [.ext (ns.map .int), .int k] ∧ 0 ≤ k ∧ k ≤ 1000 ∧ ∀ p S', S p = none → Drew S S' p 0 → P (.obj p) S'
def rd_Lbox : DS :=
  (dSeq (dSet 2 (dCB sp_Lcell_at (dCons (dVar 0) (dCons (dVar 1) dNil))))
  (dRet (dLstM (dCons (dOp dMul (dCB cAbs (dCons (dVar 2) dNil)) (dCB cInt (dCons (dOp dGe (dCB cAbs (dCons (dVar 2) dNil)) (dOp dPow (dC (.int 10)) (dC (.int 18)))) dNil))) (dCons (dOp dAdd (dOp dAdd (dOp dMod (dVar 2) (dC (.int 2305843009213693951))) (dOp dMul (dC (.int 39373)) (dVar 1))) (dC (.int 17))) (dCons (dC (.int 0)) dNil))))))
def goal_Lbox : Prop := ∀ (x0 x1 : D) (S : Store) (P : D → Store → Prop), sp_Lbox [x0, x1] S P → rd_Lbox (dEnd P) [some x0, some x1, none] S
theorem len_Lbox : ∀ ds S P, sp_Lbox ds S P → ds.length = 2 := by
  rintro ds S P ⟨a, b, rfl, _⟩; rfl
theorem vc_Lbox : goal_Lbox := by
  rintro x0 x1 S P ⟨ns, k, e, h0, h1, h⟩
  cases e
  unfold rd_Lbox
  walk_at "dgo"
  refine ⟨ns, k, rfl, h0, fun c => ?_⟩
  walk_at "dgo"
  refine ⟨⟨by decide, by decide, by decide⟩, mulS2 (by (repeat' split) <;> decide), mulS, fun p hp => h p _ hp ⟨_, _, 0, rfl, ?_, ?_, ?_, by decide, by decide⟩⟩
  · rw [abs_if]
    split <;> simp
  · have := Int.emod_nonneg c (show (2305843009213693951 : Int) ≠ 0 by decide)
    omega
  · have := Int.emod_lt_of_pos c (show (0 : Int) < 2305843009213693951 by decide)
    omega
def sp_Ltake : DSp := fun ds S P => ∃ (p : Addr) (size : Int) (n : Nat), ds = [.obj p, .int size] ∧ 0 < size ∧ size ≤ 2 ^ 40 ∧ BoxAt S p n ∧ n ≤ 1000000000 ∧ ∀ x S', 0 ≤ x → x < size → Drew S S' p (n + 1) → P (.int x) S'
def rd_Ltake : DS :=
  (dSeq (dIfS (dTest (dOp dGt (dOp dIx (dVar 0) (dC (.int 0))) (dC (.int 0)))) (dSeq (dSet 2 (dOp dMod (dOp dIx (dVar 0) (dC (.int 0))) (dVar 1)))
  (dSeq (dSetIx (dOp dFdiv (dOp dIx (dVar 0) (dC (.int 0))) (dVar 1)) (dVar 0) (dC (.int 0)))
  (dRet (dVar 2)))) dNext)
  (dSeq (dSetIx (dOp dAdd (dOp dIx (dVar 0) (dC (.int 2))) (dC (.int 1))) (dVar 0) (dC (.int 2)))
  (dSeq (dSet 3 (dOp dMod (dOp dMul (dOp dAdd (dOp dIx (dVar 0) (dC (.int 1))) (dOp dMul (dC (.int 48271)) (dOp dIx (dVar 0) (dC (.int 2))))) (dOp dAdd (dC (.int 39373)) (dOp dIx (dVar 0) (dC (.int 2))))) (dC (.int 2147483647))))
  (dSeq (dSet 4 (dOp dMod (dOp dMul (dOp dAdd (dOp dAdd (dVar 3) (dOp dIx (dVar 0) (dC (.int 2)))) (dOp dFdiv (dOp dIx (dVar 0) (dC (.int 1))) (dC (.int 1000003)))) (dOp dAdd (dOp dMod (dVar 3) (dC (.int 40009))) (dC (.int 7)))) (dC (.int 2147483629))))
  (dRet (dOp dMod (dOp dFdiv (dOp dMod (dOp dAdd (dOp dMul (dVar 4) (dC (.int 48271))) (dVar 3)) (dC (.int 2147483587))) (dC (.int 64))) (dVar 1)))))))
def goal_Ltake : Prop := ∀ (x0 x1 : D) (S : Store) (P : D → Store → Prop), sp_Ltake [x0, x1] S P → rd_Ltake (dEnd P) [some x0, some x1, none, none, none] S
theorem len_Ltake : ∀ ds S P, sp_Ltake ds S P → ds.length = 2 := by
  rintro ds S P ⟨a, b, n, rfl, _⟩; rfl
theorem vc_Ltake : goal_Ltake := by
  rintro x0 x1 S P ⟨p, size, n, e, h0, h1, ⟨a, s, t, eb, b1, b2, b3, b4, b5⟩, hn, h⟩
  cases e
  unfold rd_Ltake dSetIx
  walk_at "dgo"
  simp only [eb]
  walk_at "dgo"
  have hx : ∀ y : Int, 0 ≤ y % size ∧ y % size < size := fun y => ⟨Int.emod_nonneg y (by omega), Int.emod_lt_of_pos y h0⟩
  split
  · rename_i ha
    refine ⟨h0, divS (by omega) (by omega), ?_⟩
    have e0 : ixN (0 + 1 + 1 + 1) 0 = some 0 := rfl
    simp only [e0, List.set_cons_zero]
    walk_at "dgo"
    exact h _ _ (hx a).1 (hx a).2 ⟨_, _, _, rfl, by rw [Int.fdiv_eq_ediv_of_nonneg _ (by omega)]; exact Int.ediv_nonneg b1 (by omega), b2, b3, b4, by omega⟩
  · have e2 : ixN (0 + 1 + 1 + 1) 2 = some 2 := rfl
    simp only [e2, List.set_cons_zero, List.set_cons_succ]
    walk_at "dgo"
    try simp only [supd_same]
    walk_at "dgo"
    have ht : t ≤ 1000000000 := by
      have hn2 : n ≤ 1000000000 := hn
      omega
    generalize hy1 : (s + 48271 * (t + 1)) * (39373 + (t + 1)) = y1
    have m1 : 0 ≤ y1 % 2147483647 ∧ y1 % 2147483647 < 2147483647 := ⟨Int.emod_nonneg _ (by decide), Int.emod_lt_of_pos _ (by decide)⟩
    generalize y1 % 2147483647 = z1 at *
    have hd : 0 ≤ s.fdiv 1000003 ∧ s.fdiv 1000003 ≤ s := by
      rw [Int.fdiv_eq_ediv_of_nonneg _ (by decide)]
      constructor
      · exact Int.ediv_nonneg b2 (by decide)
      · exact Int.ediv_le_self _ b2
    generalize s.fdiv 1000003 = z2 at *
    have m2 : 0 ≤ z1 % 40009 ∧ z1 % 40009 < 40009 := ⟨Int.emod_nonneg _ (by decide), Int.emod_lt_of_pos _ (by decide)⟩
    generalize z1 % 40009 = z3 at *
    generalize hy2 : (z1 + (t + 1) + z2) * (z3 + 7) = y2
    have m3 : 0 ≤ y2 % 2147483629 ∧ y2 % 2147483629 < 2147483629 := ⟨Int.emod_nonneg _ (by decide), Int.emod_lt_of_pos _ (by decide)⟩
    generalize y2 % 2147483629 = z4 at *
    refine ⟨mulS, mulS (by omega), divS (by decide) (by decide), mulS (by omega), mulS (by omega), divS (by decide) (by decide), h0, ?_⟩
    exact h _ _ (hx _).1 (hx _).2 ⟨_, _, _, rfl, b1, b2, b3, by omega, by omega⟩
def sp_Lof : DSp := fun ds S P => ∃ (p : Addr) (y : D) (xs : List D) (n : Nat), ds = [.obj p, y] ∧ (y = .lst xs ∨ y = .tup xs) ∧ 0 < xs.length ∧ xs.length ≤ 100000 ∧ BoxAt S p n ∧ n ≤ 1000000000 ∧ ∀ x S', x ∈ xs → Drew S S' p (n + 1) → P x S'
def rd_Lof : DS :=
  (dRet (dOp dIx (dVar 1) (dCB sp_Ltake (dCons (dVar 0) (dCons (dCB cLen (dCons (dVar 1) dNil)) dNil)))))
def goal_Lof : Prop := ∀ (x0 x1 : D) (S : Store) (P : D → Store → Prop), sp_Lof [x0, x1] S P → rd_Lof (dEnd P) [some x0, some x1] S
theorem len_Lof : ∀ ds S P, sp_Lof ds S P → ds.length = 2 := by
  rintro ds S P ⟨a, b, xs, n, rfl, _⟩; rfl
theorem vc_Lof : goal_Lof := by
  rintro x0 x1 S P ⟨p, y, xs, n, e, hy, h0, h1, hb, hn, h⟩
  cases e
  unfold rd_Lof
  rcases hy with rfl | rfl
  all_goals
    walk_at "dgo"
    refine ⟨p, _, n, rfl, by omega, by omega, hb, hn, fun x S' hx1 hx2 hd => ?_⟩
    walk_at "dgo"
    have hl : x.toNat < xs.length := by omega
    rw [atI_at hx1 hx2, List.getElem?_eq_getElem hl]
    exact h _ _ (List.getElem_mem hl) hd
/-! ### the law's own fractions -/
def sp_Lfrac : DSp := fun ds S P => ∃ a b : Int, ds = [.int a, .int b] ∧ b ≠ 0 ∧ a.natAbs < 2 ^ 8900 ∧ b.natAbs < 2 ^ 8900 ∧ P (encR ((a : Rat) / (b : Rat))) S
/-! ### powers and order -/
theorem ratpos {b : Int} (h : 0 < b) : (0 : Rat) < (b : Rat) := Rat.intCast_pos.mpr h
theorem one_le_pow {b : Rat} (h : 1 ≤ b) : ∀ n : Nat, 1 ≤ b ^ n
  | 0 => by simp
  | n + 1 => by
    rw [Rat.pow_succ]
    have h1 := one_le_pow h n
    have h2 := Rat.mul_le_mul_of_nonneg_left (c := b ^ n) h (by grind)
    grind
theorem zpow_mono {b : Int} (hb : 1 ≤ b) {m n : Int} (h : m ≤ n) : (b : Rat) ^ m ≤ (b : Rat) ^ n := by
  have hp : (0 : Rat) < (b : Rat) := ratpos (by omega)
  have e : n = m + ((n - m).toNat : Int) := by omega
  rw [e, Rat.zpow_add (by grind)]
  have h1 : (1 : Rat) ≤ (b : Rat) ^ (((n - m).toNat : Nat) : Int) := one_le_pow (by
    have : (1 : Rat) = ((1 : Int) : Rat) := rfl
    rw [this]; exact Rat.intCast_le_intCast.mpr hb) _
  have h2 := Rat.mul_le_mul_of_nonneg_left (c := (b : Rat) ^ m) h1 (Rat.le_of_lt (Rat.zpow_pos hp))
  grind
/-- a fraction above 0 of so many bits lies between such powers of two -/
theorem sz_lt {q : Rat} {n : Nat} (h : Sz n q) (hq : 0 < q) : q < (2 : Rat) ^ n ∧ 1 < q * (2 : Rat) ^ n := by
  have hn : 0 < q.num := by simpa using (Rat.lt_iff 0 q).mp hq
  have hd : (0 : Rat) < ((q.den : Int) : Rat) := ratpos (by have := q.den_pos; omega)
  have e := rat_eq q
  have p2 : ((2 ^ n : Nat) : Rat) = (2 : Rat) ^ n := by
    have := intpow_cast 2 n
    rw [← Rat.intCast_natCast]
    exact_mod_cast this
  have h1 : (q.num : Rat) < (2 : Rat) ^ n := by
    rw [← p2, ← Rat.intCast_natCast]
    exact Rat.intCast_lt_intCast.mpr (by have := h.1; omega)
  have h2 : ((q.den : Int) : Rat) < (2 : Rat) ^ n := by
    rw [← p2, ← Rat.intCast_natCast]
    exact Rat.intCast_lt_intCast.mpr (by have := h.2; omega)
  have h3 : (1 : Rat) ≤ (q.num : Rat) := by
    have : (1 : Rat) = ((1 : Int) : Rat) := rfl
    rw [this]; exact Rat.intCast_le_intCast.mpr hn
  have h4 : (1 : Rat) ≤ ((q.den : Int) : Rat) := by
    have : (1 : Rat) = ((1 : Int) : Rat) := rfl
    rw [this]; exact Rat.intCast_le_intCast.mpr (by have := q.den_pos; omega)
  have em : q * ((q.den : Int) : Rat) = (q.num : Rat) := by
    conv => lhs; lhs; rw [e]
    exact Rat.div_mul_cancel (den_ne q)
  constructor
  · have := Rat.mul_le_mul_of_nonneg_left (c := q) h4 (Rat.le_of_lt hq)
    grind
  · have := Rat.mul_lt_mul_of_pos_left h2 hq
    grind
/-! ### the least power that is enough -/
def IsLp (b room : Int) (need : Rat) (d : Int) : Prop := need ≤ (b : Rat) ^ d * (room : Rat) ∧ (b : Rat) ^ (d - 1) * (room : Rat) < need
theorem IsLp.uniq {b room : Int} {need : Rat} {d e : Int} (hb : 1 ≤ b) (hr : 1 ≤ room) (h : IsLp b room need d) (h' : IsLp b room need e) : d = e := by
  have key : ∀ d e : Int, IsLp b room need d → IsLp b room need e → ¬ d < e := fun d e h h' hl => by
    have h1 := zpow_mono hb (show d ≤ e - 1 by omega)
    have hr0 : (0 : Rat) ≤ (room : Rat) := Rat.le_of_lt (ratpos (by omega))
    have h2 := Rat.mul_le_mul_of_nonneg_right h1 hr0
    have h3 := h.1
    have h4 := h'.2
    grind
  have h1 := key d e h h'
  have h2 := key e d h' h
  omega
def sp_least_power : DSp := fun ds S P => ∃ (b room : Int) (need : Rat), ds = [.int b, .int room, encR need] ∧ 2 ≤ b ∧ b ≤ 16 ∧ 1 ≤ room ∧ room < 2 ^ 20 ∧ 0 < need ∧ Sz 800 need ∧ ∀ d, IsLp b room need d → -830 ≤ d → d ≤ 830 → P (.int d) S
def rd_least_power : DS :=
  (dSeq (dSet 3 (dC (.int 0)))
  (dSeq (dWhile (dTest (dCB sp_is_below (dCons (dCB sp_times (dCons (dCB sp_power (dCons (dVar 0) (dCons (dVar 3) dNil))) (dCons (dTup (dCons (dVar 1) (dCons (dC (.int 1)) dNil))) dNil))) (dCons (dVar 2) dNil)))) (dAug 3 dIAdd (dC (.int 1))))
  (dSeq (dWhile (dNot (dTest (dCB sp_is_below (dCons (dCB sp_times (dCons (dCB sp_power (dCons (dVar 0) (dCons (dOp dSub (dVar 3) (dC (.int 1))) dNil))) (dCons (dTup (dCons (dVar 1) (dCons (dC (.int 1)) dNil))) dNil))) (dCons (dVar 2) dNil))))) (dAug 3 dSub (dC (.int 1))))
  (dRet (dVar 3)))))
def goal_least_power : Prop := ∀ (x0 x1 x2 : D) (S : Store) (P : D → Store → Prop), sp_least_power [x0, x1, x2] S P → rd_least_power (dEnd P) [some x0, some x1, some x2, none] S
theorem len_least_power : ∀ ds S P, sp_least_power ds S P → ds.length = 3 := by
  rintro ds S P ⟨a, b, n, rfl, _⟩; rfl
theorem pow2_le {b : Int} (hb : 2 ≤ b) (n : Nat) : (2 : Rat) ^ n ≤ (b : Rat) ^ n := by
  induction n with
  | zero => simp
  | succ n ih =>
    rw [Rat.pow_succ, Rat.pow_succ]
    have h2 : (2 : Rat) ≤ (b : Rat) := by
      have : (2 : Rat) = ((2 : Int) : Rat) := rfl
      rw [this]; exact Rat.intCast_le_intCast.mpr hb
    have p : (0 : Rat) < (2 : Rat) ^ n := Rat.pow_pos (by decide)
    have a1 := Rat.mul_le_mul_of_nonneg_left (c := (2 : Rat) ^ n) h2 (Rat.le_of_lt p)
    have a2 := Rat.mul_le_mul_of_nonneg_right (c := (b : Rat)) ih (by grind)
    grind
theorem lp_high {b room : Int} {need : Rat} (hb : 2 ≤ b) (hr : 1 ≤ room) (h : Sz 800 need) (h0 : 0 < need) {d : Int} (hd : 800 ≤ d) : ¬ (b : Rat) ^ d * (room : Rat) < need := by
  intro hl
  have h1 := (sz_lt h h0).1
  have h2 := pow2_le hb 800
  have h3 := zpow_mono (show (1 : Int) ≤ b by omega) (show ((800 : Nat) : Int) ≤ d by omega)
  rw [zpow_of_nat] at h3
  have hr1 : (1 : Rat) ≤ (room : Rat) := by
    have : (1 : Rat) = ((1 : Int) : Rat) := rfl
    rw [this]; exact Rat.intCast_le_intCast.mpr hr
  have h4 : (0 : Rat) < (b : Rat) ^ d := Rat.zpow_pos (ratpos (by omega))
  have h5 := Rat.mul_le_mul_of_nonneg_left (c := (b : Rat) ^ d) hr1 (Rat.le_of_lt h4)
  generalize (2 : Rat) ^ 800 = z at *
  generalize (b : Rat) ^ 800 = y at *
  grind
theorem lp_low {b room : Int} {need : Rat} (hb : 2 ≤ b) (hr : 1 ≤ room) (hr2 : room < 2 ^ 20) (h : Sz 800 need) (h0 : 0 < need) {d : Int} (hd : d ≤ -820) : (b : Rat) ^ d * (room : Rat) < need := by
  have h1 := (sz_lt h h0).2
  have h2 := pow2_le hb 820
  have h3 := zpow_mono (show (1 : Int) ≤ b by omega) (show d ≤ -((820 : Nat) : Int) by omega)
  rw [Rat.zpow_neg, zpow_of_nat] at h3
  have hp : (0 : Rat) < (b : Rat) ^ 820 := Rat.pow_pos (ratpos (by omega))
  have hr1 : (room : Rat) < (2 : Rat) ^ 20 := by
    have e : (2 : Rat) ^ 20 = ((2 ^ 20 : Int) : Rat) := by rw [intpow_cast]; rfl
    rw [e]; exact Rat.intCast_lt_intCast.mpr hr2
  have hr0 : (0 : Rat) < (room : Rat) := ratpos (by omega)
  have e2 : (2 : Rat) ^ 820 = (2 : Rat) ^ 800 * (2 : Rat) ^ 20 := by
    have := Rat.zpow_add (q := 2) (by decide) ((800 : Nat) : Int) ((20 : Nat) : Int)
    exact this
  rw [e2] at h2
  have hz : (0 : Rat) < (2 : Rat) ^ 800 := Rat.pow_pos (by decide)
  have hw : (0 : Rat) < (2 : Rat) ^ 20 := Rat.pow_pos (by decide)
  generalize (2 : Rat) ^ 800 = z at *
  generalize (2 : Rat) ^ 20 = w at *
  generalize (b : Rat) ^ 820 = y at *
  -- b^d ≤ 1/y ≤ 1/(z w), room < w, so b^d room < 1/z < need
  have a1 : (b : Rat) ^ d * y ≤ 1 := by
    have := Rat.mul_le_mul_of_nonneg_right (c := y) h3 (Rat.le_of_lt hp)
    rw [Rat.inv_mul_cancel _ (by grind)] at this
    exact this
  have hbd : (0 : Rat) < (b : Rat) ^ d := Rat.zpow_pos (ratpos (by omega))
  generalize (b : Rat) ^ d = x at *
  have a2 : x * (z * w) ≤ 1 := by
    have := Rat.mul_le_mul_of_nonneg_left (c := x) h2 (Rat.le_of_lt hbd)
    grind
  have a3 : x * (room : Rat) * z < 1 := by
    have t1 := Rat.mul_lt_mul_of_pos_left hr1 (show (0 : Rat) < x * z from Rat.mul_pos hbd hz)
    grind
  have a4 : x * (room : Rat) * z < need * z := by grind
  exact Rat.lt_of_mul_lt_mul_right a4 (Rat.le_of_lt hz)
theorem vc_least_power : goal_least_power := by
  rintro x0 x1 x2 S P ⟨b, room, need, e, h1, h2, h3, h4, h5, h6, h⟩
  cases e
  unfold rd_least_power
  have szr : Sz 21 ((room : Int) : Rat) := sz_int (by omega)
  have szp : ∀ d : Int, -830 ≤ d → d ≤ 830 → Sz 4000 ((b : Rat) ^ d) := fun d a1 a2 => (sz_zpow (k := d) (by omega) h2).mono (by omega)
  have szm : ∀ d : Int, -830 ≤ d → d ≤ 830 → Sz 400000 ((b : Rat) ^ d * (room : Rat)) := fun d a1 a2 => (sz_mul (szp d a1 a2) szr).mono (by decide)
  have szn : Sz 400000 need := h6.mono (by decide)
  -- one look
  have look : ∀ (d : Int) (Q : D → Store → Prop) (S : Store), -830 ≤ d → d ≤ 830 → Q (.bl (decide ((b : Rat) ^ d * (room : Rat) < need))) S →
      sp_power [.int b, .int d] S fun x S1 => sp_times [x, .tup [.int room, .int 1]] S1 fun y S2 => sp_is_below [y, encR need] S2 Q := fun d Q S a1 a2 q =>
    ⟨b, d, rfl, by omega, h2, by omega, _, ((room : Int) : Rat), rfl, szp d a1 a2, szr.mono (by decide), _, _, rfl, szm d a1 a2, szn, q⟩
  unfold dWhile
  walk_at "dgo"
  refine ⟨fun m ρ S' => ∃ lag : Int, ρ = [some (.int b), some (.int room), some (encR need), some (.int lag)] ∧ S' = S ∧ 0 ≤ lag ∧ lag ≤ 800 ∧ m = (800 - lag).toNat, ⟨800, 0, rfl, rfl, by decide, by decide, by decide⟩, ?_⟩
  rintro m ρ S' ⟨lag, rfl, rfl, l0, l1, rfl⟩
  walk_at "dgo"
  refine look lag _ _ (by omega) (by omega) ?_
  walk_at "dgo"
  split
  · rename_i hlt
    have : ¬ 800 ≤ lag := fun z => lp_high h1 h3 h6 h5 z hlt
    exact ⟨_, by omega, lag + 1, rfl, by omega, by omega, rfl⟩
  · rename_i hge
    refine ⟨fun m ρ S'' => ∃ lag : Int, ρ = [some (.int b), some (.int room), some (encR need), some (.int lag)] ∧ S'' = S' ∧ -820 ≤ lag ∧ lag ≤ 800 ∧ ¬ (b : Rat) ^ lag * (room : Rat) < need ∧ m = (lag + 820).toNat, ⟨_, lag, rfl, rfl, by omega, by omega, hge, rfl⟩, ?_⟩
    rintro m ρ S'' ⟨lag, rfl, rfl, l0, l1, hl, rfl⟩
    walk_at "dgo"
    refine look (lag - 1) _ _ (by omega) (by omega) ?_
    walk_at "dgo"
    by_cases hc : (b : Rat) ^ (lag - 1) * (room : Rat) < need
    · simp only [hc, decide_true, Bool.not_true, Bool.false_eq_true, reduceIte]
      exact h lag ⟨Rat.not_lt.mp hl, hc⟩ (by omega) (by omega)
    · simp only [hc, decide_false, Bool.not_false, reduceIte]
      have : ¬ lag - 1 ≤ -820 := fun z => hc (lp_low h1 h3 h4 h6 h5 z)
      exact ⟨_, by omega, lag - 1, rfl, by omega, by omega, hc, rfl⟩
/-! ### list comprehensions -/
/-- over the data of some things, the data of others, nothing drawn -/
theorem lc_mapA {α : Type} {t : Tgt} {de : DE} {P : D → Store → Prop} {xs : List α} {ρ : DSt} {S : Store} (f g : α → D) (hl : xs.length ≤ 100000)
    (h : ∀ a, a ∈ xs → ∃ ρ', t.put (f a) (dwipe ρ t.slots) = some ρ' ∧ ∀ Q : D → Store → Prop, Q (g a) S → de ρ' S Q) (q : P (.lst (xs.map g)) S) : LcB t dYes de P (xs.map f) ρ S := by
  refine ⟨by simpa using hl, fun i acc S' => acc = (xs.take i).map g ∧ S' = S, ⟨rfl, rfl⟩, ?_, ?_⟩
  · rintro i d acc S' hd ⟨rfl, rfl⟩
    rw [List.getElem?_map] at hd
    cases e : xs[i]? with
    | none => rw [e] at hd; cases hd
    | some a =>
      rw [e] at hd
      cases hd
      obtain ⟨ρ', h1, h2⟩ := h a (List.mem_of_getElem? e)
      refine ⟨ρ', h1, ?_⟩
      simp only [dYes, reduceIte]
      refine h2 _ ⟨?_, rfl⟩
      rw [List.take_add_one, e]
      simp
  · rintro acc S' ⟨rfl, rfl⟩
    rw [List.length_map, List.take_length]
    exact q
/-- each item by itself, with draws on the way: R of each, St between -/
theorem lc_st {t : Tgt} {de : DE} {P : D → Store → Prop} {ds : List D} {ρ : DSt} {S : Store} (R : Nat → D → Prop) (St : Nat → Store → Prop) (hl : ds.length ≤ 100000) (h0 : St 0 S)
    (h : ∀ (i : Nat) (d : D) (S' : Store), ds[i]? = some d → St i S' → ∃ ρ', t.put d (dwipe ρ t.slots) = some ρ' ∧ ∀ Q : D → Store → Prop, (∀ y S'', R i y → St (i + 1) S'' → Q y S'') → de ρ' S' Q)
    (q : ∀ ys S', ys.length = ds.length → (∀ i y, ys[i]? = some y → R i y) → St ds.length S' → P (.lst ys) S') : LcB t dYes de P ds ρ S := by
  refine ⟨hl, fun i acc S' => acc.length = i ∧ (∀ j y, acc[j]? = some y → R j y) ∧ St i S', ⟨rfl, by simp, h0⟩, ?_, ?_⟩
  · rintro i d acc S' hd ⟨rfl, hr, hs⟩
    obtain ⟨ρ', h1, h2⟩ := h _ d S' hd hs
    refine ⟨ρ', h1, ?_⟩
    simp only [dYes, reduceIte]
    refine h2 _ fun y S'' r s => ⟨by simp, fun j z hz => ?_, s⟩
    by_cases hj : j < acc.length
    · rw [List.getElem?_append_left hj] at hz
      exact hr j z hz
    · rw [List.getElem?_append_right (by omega)] at hz
      have hj2 : j = acc.length := by
        have := (List.getElem?_eq_some_iff.mp hz).1
        simp at this
        omega
      subst hj2
      simp at hz
      exact hz ▸ r
  · rintro acc S' ⟨h1, h2, h3⟩
    exact q acc S' h1 h2 h3
/-- lists of data with a property are data of things -/
theorem ex_map {α : Type} {f : α → D} {R : α → Prop} : ∀ {ys : List D}, (∀ y, y ∈ ys → ∃ a, y = f a ∧ R a) → ∃ as : List α, ys = as.map f ∧ ∀ a, a ∈ as → R a
  | [], _ => ⟨[], rfl, by simp⟩
  | y :: ys, h => by
    obtain ⟨a, rfl, ra⟩ := h y (by simp)
    obtain ⟨as, rfl, ras⟩ := ex_map (f := f) (R := R) (ys := ys) (fun z hz => h z (by simp [hz]))
    exact ⟨a :: as, rfl, fun b hb => by
      rcases List.mem_cons.mp hb with rfl | hb
      · exact ra
      · exact ras b hb⟩
/-! ### the greatest of a list -/
def maxI (ms : List Int) : Int := ms.foldr (fun a b => max a b) 0
theorem maxI_ge : ∀ {ms : List Int} {m : Int}, m ∈ ms → m ≤ maxI ms
  | a :: r, m, h => by
    have e : maxI (a :: r) = max a (maxI r) := rfl
    rcases List.mem_cons.mp h with rfl | h
    · rw [e]; omega
    · have := maxI_ge h
      rw [e]; omega
theorem maxI_mem : ∀ {ms : List Int}, ms ≠ [] → (∀ m ∈ ms, 0 ≤ m) → maxI ms ∈ ms
  | [a], _, h => by
    have e : maxI [a] = max a 0 := rfl
    have := h a (by simp)
    rw [e]; simp; omega
  | a :: b :: r, _, h => by
    have e : maxI (a :: b :: r) = max a (maxI (b :: r)) := rfl
    have ih := maxI_mem (ms := b :: r) (by simp) (fun m hm => h m (by simp [hm]))
    rcases Int.le_total a (maxI (b :: r)) with q | q
    · have : max a (maxI (b :: r)) = maxI (b :: r) := by omega
      rw [e, this]
      exact List.mem_cons_of_mem _ ih
    · have : max a (maxI (b :: r)) = a := by omega
      rw [e, this]; simp
/-! ### kinds, sources, widths -/
inductive Kd where
  | sum (ws : List Int) (o : Int)
  | least
  | most
  | times
  | over (k : Int)
def Kd.d : Kd → D
  | .sum ws o => .tup [.str "sum", .tup (ws.map .int), .int o]
  | .least => .tup [.str "least"]
  | .most => .tup [.str "most"]
  | .times => .tup [.str "times"]
  | .over k => .tup [.str "over", .int k]
def srcD (q : Int × Int) : D := .tup [.int q.1, .int q.2]
def abI (a : Int) : Int := if a < 0 then -a else a
def sumW (ws ms : List Int) : Int := (List.zipWith (fun w m => abI w * m) ws ms).sum
def Kd.wide (b : Int) (ss : List (Int × Int)) : Kd → Rat
  | .sum ws o => ((sumW ws (ss.map (·.2)) : Int) : Rat) / (o : Rat)
  | .times => match ss with
    | [(e0, m0), (e1, m1)] => ((m0 * m1 : Int) : Rat) / ((b - 1 : Int) : Rat) * ((b : Rat) ^ e0 + (b : Rat) ^ e1)
    | _ => 0
  | .over k => match ss with
    | [(e0, m0), (_, m1)] => ((m0 : Int) : Rat) * (b : Rat) ^ k * (((1 : Int) : Rat) + ((m1 : Int) : Rat) / ((b - 1 : Int) : Rat) * (b : Rat) ^ k * (b : Rat) ^ e0)
    | _ => 0
  | _ => ((maxI (ss.map (·.2)) : Int) : Rat)
def Kd.Ok (ss : List (Int × Int)) : Kd → Prop
  | .sum ws o => ws.length = ss.length ∧ 0 < o ∧ o < 2 ^ 20 ∧ ∀ w ∈ ws, w ≠ 0 ∧ w.natAbs ≤ 100
  | .times => ss.length = 2
  | .over k => ss.length = 2 ∧ 0 ≤ k ∧ k ≤ 6
  | _ => True
structure SsOk (b : Int) (ss : List (Int × Int)) : Prop where
  b0 : 2 ≤ b
  b1 : b ≤ 16
  n0 : 1 ≤ ss.length
  n1 : ss.length ≤ 8
  each : ∀ q ∈ ss, (-30 ≤ q.1 ∧ q.1 ≤ 30) ∧ 1 ≤ q.2 ∧ q.2 ≤ 60
theorem sumW_bound : ∀ (ws ms : List Int) (n : Nat), ws.length ≤ n → (∀ w ∈ ws, w ≠ 0 ∧ w.natAbs ≤ 100) → (∀ m ∈ ms, 1 ≤ m ∧ m ≤ 60) → 0 ≤ sumW ws ms ∧ sumW ws ms ≤ 6000 * (n : Int) ∧ (ws ≠ [] → ms ≠ [] → 0 < sumW ws ms)
  | [], ms, n, _, _, _ => by
    have e : sumW [] ms = 0 := by unfold sumW; simp
    rw [e]; exact ⟨by omega, by omega, fun h => absurd rfl h⟩
  | w :: ws, [], n, _, _, _ => by
    have e : sumW (w :: ws) [] = 0 := by unfold sumW; simp
    rw [e]; exact ⟨by omega, by omega, fun _ h => absurd rfl h⟩
  | w :: ws, m :: ms, n, hn, hw, hm => by
    have e : sumW (w :: ws) (m :: ms) = abI w * m + sumW ws ms := by unfold sumW; simp
    obtain ⟨i1, i2, i3⟩ := sumW_bound ws ms (n - 1) (by simp at hn; omega) (fun x hx => hw x (by simp [hx])) (fun x hx => hm x (by simp [hx]))
    obtain ⟨w0, w1⟩ := hw w (by simp)
    obtain ⟨m0, m1⟩ := hm m (by simp)
    have a0 : 1 ≤ abI w ∧ abI w ≤ 100 := by unfold abI; split <;> omega
    have p1 : 1 * 1 ≤ abI w * m := Int.mul_le_mul a0.1 m0 (by decide) (by omega)
    have p2 : abI w * m ≤ 100 * 60 := Int.mul_le_mul a0.2 m1 (by omega) (by decide)
    have hn1 : 1 ≤ n := by simp at hn; omega
    rw [e]
    exact ⟨by omega, by omega, fun _ _ => by omega⟩
theorem div_pos' {x y : Rat} (hx : 0 < x) (hy : 0 < y) : 0 < x / y := by
  rw [Rat.div_def]
  exact Rat.mul_pos hx (Rat.inv_pos.mpr hy)
theorem SsOk.mosts {b : Int} {ss : List (Int × Int)} (h : SsOk b ss) : ∀ m ∈ ss.map (·.2), 1 ≤ m ∧ m ≤ 60 := fun m hm => by
  obtain ⟨q, hq, rfl⟩ := List.mem_map.mp hm
  exact (h.each q hq).2
theorem SsOk.max {b : Int} {ss : List (Int × Int)} (h : SsOk b ss) : 1 ≤ maxI (ss.map (·.2)) ∧ maxI (ss.map (·.2)) ≤ 60 := by
  have hne : ss.map (·.2) ≠ [] := by
    have n0 := h.n0
    intro z
    have z2 : ss = [] := by simpa using z
    rw [z2] at n0
    exact absurd n0 (by decide)
  exact h.mosts _ (maxI_mem hne fun m hm => by have := h.mosts m hm; omega)
section
variable {b : Int} {ss : List (Int × Int)}
theorem SsOk.bp (h : SsOk b ss) : (0 : Rat) < (b : Rat) := ratpos (by have := h.b0; omega)
theorem SsOk.cp (h : SsOk b ss) : (0 : Rat) < ((b - 1 : Int) : Rat) := ratpos (by have := h.b0; omega)
theorem SsOk.cne (h : SsOk b ss) : (b - 1 : Int) ≠ 0 := by have := h.b0; omega
theorem SsOk.sb (h : SsOk b ss) {e : Int} (h1 : -30 ≤ e) (h2 : e ≤ 30) : Sz 121 ((b : Rat) ^ e) := (sz_zpow (k := e) (by have := h.b0; omega) (by have := h.b1; omega)).mono (by omega)
theorem SsOk.sf (h : SsOk b ss) {m : Int} (hm : m.natAbs < 2 ^ 12) : Sz 12 ((m : Rat) / ((b - 1 : Int) : Rat)) := sz_frac h.cne hm (by have := h.b0; have := h.b1; omega)
theorem mm_bound {m0 m1 : Int} (h0 : 1 ≤ m0 ∧ m0 ≤ 60) (h1 : 1 ≤ m1 ∧ m1 ≤ 60) : (m0 * m1).natAbs < 2 ^ 12 := by
  rw [Int.natAbs_mul]
  have := Nat.mul_le_mul (show m0.natAbs ≤ 60 by omega) (show m1.natAbs ≤ 60 by omega)
  omega
theorem SsOk.wide (h : SsOk b ss) {kd : Kd} (hk : kd.Ok ss) : 0 < kd.wide b ss ∧ Sz 398 (kd.wide b ss) := by
  have mx := h.max
  have mr : (0 : Rat) < ((maxI (ss.map (·.2)) : Int) : Rat) ∧ Sz 398 ((maxI (ss.map (·.2)) : Int) : Rat) := ⟨ratpos (by omega), (sz_int (n := 6) (by omega)).mono (by decide)⟩
  cases kd with
  | least => exact mr
  | most => exact mr
  | sum ws o =>
    obtain ⟨h1, h2, h3, h4⟩ := hk
    obtain ⟨s0, s1, s2⟩ := sumW_bound ws (ss.map (·.2)) 8 (by have := h.n1; omega) h4 h.mosts
    have s3 := s2 (by
      intro z; subst z
      have := h.n0; simp at h1; omega) (by
      have n0 := h.n0
      intro z
      have z2 : ss = [] := by simpa using z
      rw [z2] at n0
      exact absurd n0 (by decide))
    refine ⟨div_pos' (ratpos s3) (ratpos h2), (sz_frac (n := 20) (by omega) ?_ ?_).mono (by decide)⟩
    · omega
    · omega
  | times =>
    match ss, hk, h with
    | [(e0, m0), (e1, m1)], _, h =>
      obtain ⟨q0, q1⟩ := h.each (e0, m0) (by simp)
      obtain ⟨r0, r1⟩ := h.each (e1, m1) (by simp)
      simp only at q0 q1 r0 r1
      have p0 := Rat.zpow_pos (n := e0) h.bp
      have p1 := Rat.zpow_pos (n := e1) h.bp
      have mmp : (0 : Rat) < ((m0 * m1 : Int) : Rat) := ratpos (Int.mul_pos (by omega) (by omega))
      exact ⟨Rat.mul_pos (div_pos' mmp h.cp) (by grind), (sz_mul (h.sf (mm_bound q1 r1)) (sz_add (h.sb q0.1 q0.2) (h.sb r0.1 r0.2))).mono (by decide)⟩
  | over k =>
    obtain ⟨hl, k0, k1⟩ := hk
    match ss, hl, h with
    | [(e0, m0), (e1, m1)], _, h =>
      obtain ⟨q0, q1⟩ := h.each (e0, m0) (by simp)
      obtain ⟨r0, r1⟩ := h.each (e1, m1) (by simp)
      simp only at q0 q1 r0 r1
      have p0 := Rat.zpow_pos (n := e0) h.bp
      have pk := Rat.zpow_pos (n := k) h.bp
      have m0p : (0 : Rat) < (m0 : Rat) := ratpos (by omega)
      have m1p : (0 : Rat) < (m1 : Rat) := ratpos (by omega)
      have := Rat.mul_pos (Rat.mul_pos (div_pos' m1p h.cp) pk) p0
      have one : ((1 : Int) : Rat) = 1 := rfl
      have sk : Sz 25 ((b : Rat) ^ k) := (sz_zpow (k := k) (by have := h.b0; omega) (by have := h.b1; omega)).mono (by omega)
      have n0 : Sz 12 (m0 : Rat) := sz_int (by omega)
      have f1 := h.sf (m := m1) (by omega)
      have o1 : Sz 1 ((1 : Int) : Rat) := sz_int (by decide)
      exact ⟨Rat.mul_pos (Rat.mul_pos m0p pk) (by rw [one]; grind), (sz_mul (sz_mul n0 sk) (sz_add o1 (sz_mul (sz_mul f1 sk) (h.sb q0.1 q0.2)))).mono (by decide)⟩
/-- twice the width -/
def Kd.need (b : Int) (ss : List (Int × Int)) (kd : Kd) : Rat := ((2 : Int) : Rat) * kd.wide b ss
theorem SsOk.need (h : SsOk b ss) {kd : Kd} (hk : kd.Ok ss) : 0 < kd.need b ss ∧ Sz 400 (kd.need b ss) :=
  ⟨Rat.mul_pos (by decide) (h.wide hk).1, (sz_mul (sz_int (n := 2) (k := 2) (by decide)) (h.wide hk).2).mono (by decide)⟩
end
theorem IsLp.up {b room d : Int} {q : Rat} (hb : 1 ≤ b) (h : IsLp b room q d) : IsLp b room (q * (b : Rat)) (d + 1) := by
  have hp : (0 : Rat) < (b : Rat) := ratpos (by omega)
  have hn : (b : Rat) ≠ 0 := by grind
  have e2 : (b : Rat) ^ (d + 1 - 1) = (b : Rat) ^ (d - 1) * (b : Rat) := by
    rw [← Rat.zpow_add_one hn]; congr 1; omega
  obtain ⟨h1, h2⟩ := h
  constructor
  · rw [Rat.zpow_add_one hn]
    have := Rat.mul_le_mul_of_nonneg_right h1 (Rat.le_of_lt hp)
    grind
  · rw [e2]
    have := Rat.mul_lt_mul_of_pos_right h2 hp
    grind
/-! ### promises -/
/-- the sources, in a list or a tuple -/
def srcsD (tu : Bool) (ss : List (Int × Int)) : D := if tu then .tup (ss.map srcD) else .lst (ss.map srcD)
def sp_width_of : DSp := fun ds S P => ∃ (b : Int) (ss : List (Int × Int)) (tu : Bool) (kd : Kd), ds = [.int b, kd.d, srcsD tu ss] ∧ SsOk b ss ∧ kd.Ok ss ∧ P (encR (kd.wide b ss)) S
/-- what told_lag is asked about -/
inductive TKd where
  | kd (k : Kd)
  | loose (xs : List D)
  | told (x : D)
  | choose
  | moved (k : Int)
def TKd.d : TKd → D
  | .kd k => k.d
  | .loose xs => .tup [.str "loose", .tup xs]
  | .told x => .tup [.str "told", x]
  | .choose => .tup [.str "choose"]
  | .moved k => .tup [.str "moved", .int k]
def TKd.Lag (b : Int) (ss : List (Int × Int)) (most : Int) : TKd → D → Prop
  | .kd k, x => ∃ d : Int, x = .int d ∧ IsLp b (2 * most - b + 1) (k.need b ss) d ∧ -830 ≤ d ∧ d ≤ 830
  | .loose _, x => x = .int 0
  | .told _, x => x = .non
  | .choose, x => x = .non
  | .moved k, x => x = .int k
def TKd.Ok (b : Int) (ss : List (Int × Int)) (most : Int) : TKd → Prop
  | .kd k => SsOk b ss ∧ k.Ok ss ∧ b ≤ 2 * most ∧ most ≤ 60
  | _ => True
def sp_told_lag : DSp := fun ds S P => ∃ (b begin most : Int) (ss : List (Int × Int)) (tu : Bool) (kd : TKd), ds = [.int b, kd.d, srcsD tu ss, .int begin, .int most] ∧ kd.Ok b ss most ∧ ∀ x, kd.Lag b ss most x → P x S
def rd_width_of : DS :=
  (dSeq (dPar 3 4 (dCons (dOp dIx (dVar 1) (dC (.int 0))) (dCons (dLc (dItSeq (dVar 2)) (.tp [(.nm 5), (.nm 6)]) dYes (dVar 6)) dNil)))
  (dSeq (dIfS (dTest (dOp dEq (dVar 3) (dC (.str "sum")))) (dRet (dCB sp_frac (dCons (dCB cSum (dCons (dLc (dZipS (dCons (dOp dIx (dVar 1) (dC (.int 1))) (dCons (dVar 4) dNil))) (.tp [(.nm 7), (.nm 6)]) dYes (dOp dMul (dCB cAbs (dCons (dVar 7) dNil)) (dVar 6))) dNil)) (dCons (dOp dIx (dVar 1) (dC (.int 2))) dNil)))) dNext)
  (dSeq (dIfS (dTest (dOp (dIn false) (dVar 3) (dTup (dCons (dC (.str "least")) (dCons (dC (.str "most")) dNil))))) (dRet (dTup (dCons (dCB cMaxL (dCons (dVar 4) dNil)) (dCons (dC (.int 1)) dNil)))) dNext)
  (dSeq (dSet 8 (dLc (dItSeq (dVar 2)) (.tp [(.nm 5), (.nm 6)]) dYes (dCB sp_power (dCons (dVar 0) (dCons (dVar 5) dNil)))))
  (dSeq (dIfS (dTest (dOp dEq (dVar 3) (dC (.str "times")))) (dRet (dCB sp_times (dCons (dCB sp_frac (dCons (dOp dMul (dOp dIx (dVar 4) (dC (.int 0))) (dOp dIx (dVar 4) (dC (.int 1)))) (dCons (dOp dSub (dVar 0) (dC (.int 1))) dNil))) (dCons (dCB sp_plus (dCons (dOp dIx (dVar 8) (dC (.int 0))) (dCons (dOp dIx (dVar 8) (dC (.int 1))) dNil))) dNil)))) dNext)
  (dSeq (dSet 9 (dCB sp_power (dCons (dVar 0) (dCons (dOp dIx (dVar 1) (dC (.int 1))) dNil))))
  (dRet (dCB sp_times (dCons (dCB sp_times (dCons (dTup (dCons (dOp dIx (dVar 4) (dC (.int 0))) (dCons (dC (.int 1)) dNil))) (dCons (dVar 9) dNil))) (dCons (dCB sp_plus (dCons (dTup (dCons (dC (.int 1)) (dCons (dC (.int 1)) dNil))) (dCons (dCB sp_times (dCons (dCB sp_times (dCons (dCB sp_frac (dCons (dOp dIx (dVar 4) (dC (.int 1))) (dCons (dOp dSub (dVar 0) (dC (.int 1))) dNil))) (dCons (dVar 9) dNil))) (dCons (dOp dIx (dVar 8) (dC (.int 0))) dNil))) dNil))) dNil))))))))))
def goal_width_of : Prop := ∀ (x0 x1 x2 : D) (S : Store) (P : D → Store → Prop), sp_width_of [x0, x1, x2] S P → rd_width_of (dEnd P) [some x0, some x1, some x2, none, none, none, none, none, none, none] S
def rd_told_lag : DS :=
  (dSeq (dIfS (dTest (dOp dEq (dOp dIx (dVar 1) (dC (.int 0))) (dC (.str "moved")))) (dRet (dOp dIx (dVar 1) (dC (.int 1)))) dNext)
  (dSeq (dIfS (dTest (dOp (dIn false) (dOp dIx (dVar 1) (dC (.int 0))) (dTup (dCons (dC (.str "loose")) (dCons (dC (.str "told")) (dCons (dC (.str "choose")) dNil)))))) (dRet (dIf (dTest (dOp dEq (dOp dIx (dVar 1) (dC (.int 0))) (dC (.str "loose")))) (dC (.int 0)) (dC .non))) dNext)
  (dRet (dCB sp_least_power (dCons (dVar 0) (dCons (dOp dAdd (dOp dSub (dOp dMul (dC (.int 2)) (dVar 4)) (dVar 0)) (dC (.int 1))) (dCons (dCB sp_times (dCons (dTup (dCons (dC (.int 2)) (dCons (dC (.int 1)) dNil))) (dCons (dCB sp_width_of (dCons (dVar 0) (dCons (dVar 1) (dCons (dVar 2) dNil)))) dNil))) dNil)))))))
def goal_told_lag : Prop := ∀ (x0 x1 x2 x3 x4 : D) (S : Store) (P : D → Store → Prop), sp_told_lag [x0, x1, x2, x3, x4] S P → rd_told_lag (dEnd P) [some x0, some x1, some x2, some x3, some x4] S
theorem len_width_of : ∀ ds S P, sp_width_of ds S P → ds.length = 3 := by
  rintro ds S P ⟨a, b, c, d, rfl, _⟩; rfl
theorem len_told_lag : ∀ ds S P, sp_told_lag ds S P → ds.length = 5 := by
  rintro ds S P ⟨a, b, c, d, e, f, rfl, _⟩; rfl
theorem zipD_map {α β : Type} (f : α → D) (g : β → D) : ∀ (xs : List α) (ys : List β), zipD (xs.map f) (ys.map g) = (xs.zip ys).map fun p => .tup [f p.1, g p.2]
  | [], _ => by simp [zipD]
  | _ :: _, [] => by simp [zipD]
  | x :: xs, y :: ys => by
    have := zipD_map f g xs ys
    unfold zipD at this ⊢
    simp [this]
theorem dInts_mapF {α : Type} (F : α → Int) (xs : List α) : dInts (xs.map fun a => .int (F a)) = some (xs.map F) := by
  have := dInts_map (xs.map F)
  rwa [List.map_map] at this
theorem dBools_mapF {α : Type} (F : α → Bool) (xs : List α) : dBools (xs.map fun a => .bl (F a)) = some (xs.map F) := by
  have := dBools_map (xs.map F)
  rwa [List.map_map] at this
theorem sumW_zip : ∀ (ws : List Int) (ss : List (Int × Int)), ((ws.zip ss).map fun p => abI p.1 * p.2.2).sum = sumW ws (ss.map (·.2))
  | [], _ => by simp [sumW]
  | _ :: _, [] => by simp [sumW]
  | w :: ws, q :: ss => by
    have := sumW_zip ws ss
    unfold sumW at this ⊢
    simp [this]
theorem vc_width_of : goal_width_of := by
  rintro x0 x1 x2 S P ⟨b, ss, tu, kd, e, hs, hk, h⟩
  cases e
  unfold rd_width_of
  have hl : ss.length ≤ 100000 := by have := hs.n1; omega
  have mosts : ∀ (ρ : DSt) (P : D → Store → Prop), P (.lst (ss.map fun q => .int q.2)) S → ρ.length = 10 → LcB (.tp [.nm 5, .nm 6]) dYes (dVar 6) P (ss.map srcD) ρ S := fun ρ P q hl2 => by
    refine lc_mapA srcD (fun q => .int q.2) hl (fun a ha => ?_) q
    match ρ, hl2 with
    | [r0, r1, r2, r3, r4, r5, r6, r7, r8, r9], _ => exact ⟨_, rfl, fun Q q => q⟩
  have begins : ∀ (ρ : DSt) (P : D → Store → Prop), P (.lst (ss.map fun q => encR ((b : Rat) ^ q.1))) S → ρ.length = 10 → ρ[0]? = some (some (.int b)) → LcB (.tp [.nm 5, .nm 6]) dYes (dCB sp_power (dCons (dVar 0) (dCons (dVar 5) dNil))) P (ss.map srcD) ρ S := fun ρ P q hl2 h0 => by
    refine lc_mapA srcD (fun q => encR ((b : Rat) ^ q.1)) hl (fun a ha => ?_) q
    match ρ, hl2 with
    | [r0, r1, r2, r3, r4, r5, r6, r7, r8, r9], _ =>
      cases h0
      have hb := hs.each a ha
      exact ⟨_, rfl, fun Q q => ⟨b, a.1, rfl, by have := hs.b0; omega, by have := hs.b1; omega, by omega, q⟩⟩
  have mx := hs.max
  have mxl : ss.map (fun q => q.2) ≠ [] := by
    have n0 := hs.n0
    intro z
    have z2 : ss = [] := by simpa using z
    rw [z2] at n0
    exact absurd n0 (by decide)
  have hmax : ∀ (P : D → Store → Prop), P (.int (maxI (ss.map (·.2)))) S → cMaxL [.lst (ss.map fun q => .int q.2)] S P := fun P q => by
    unfold cMaxL
    simp only [lstOf, Option.bind, dInts_mapF]
    refine ⟨by have := hs.n0; rw [List.length_map]; omega, fun m hm hge => ?_⟩
    have e : m = maxI (ss.map (·.2)) := by
      have a1 : m ≤ maxI (ss.map (·.2)) := maxI_ge hm
      have a2 : maxI (ss.map (·.2)) ≤ m := hge _ (maxI_mem mxl fun m hm => by have := hs.mosts m hm; omega)
      omega
    rw [e]; exact q
  cases tu
  all_goals
    unfold srcsD
    simp only [Bool.false_eq_true, reduceIte]
    walk_at "dgo"
    cases kd with
    | sum ws o =>
      obtain ⟨h1, h2, h3, h4⟩ := hk
      unfold Kd.d
      walk_at "dgo"
      refine mosts _ _ ?_ rfl
      walk_at "dgo"
      refine ⟨by simpa using h1, ?_⟩
      rw [zipD_map]
      refine lc_mapA _ (fun p => .int (abI p.1 * p.2.2)) (by simp; omega) (fun p hp => ⟨_, rfl, fun Q q => ?_⟩) ?_
      · walk_at "dgo"
        obtain ⟨p1, p2⟩ := List.of_mem_zip hp
        have a1 := h4 _ p1
        refine ⟨mulS (by unfold abI at *; split <;> omega), q⟩
      · unfold cSum
        simp only [lstOf, Option.bind, dInts_mapF]
        rw [sumW_zip]
        obtain ⟨s0, s1, s2⟩ := sumW_bound ws (ss.map (·.2)) 8 (by have := hs.n1; omega) h4 hs.mosts
        exact ⟨_, o, rfl, by omega, bound_mono (n := 20) (by omega), bound_mono (n := 20) (by omega), h⟩
    | least =>
      unfold Kd.d
      walk_at "dgo"
      refine mosts _ _ ?_ rfl
      walk_at "dgo"
      exact hmax _ h
    | most =>
      unfold Kd.d
      walk_at "dgo"
      refine mosts _ _ ?_ rfl
      walk_at "dgo"
      exact hmax _ h
    | times =>
      unfold Kd.d
      walk_at "dgo"
      refine mosts _ _ ?_ rfl
      walk_at "dgo"
      refine begins _ _ ?_ rfl rfl
      match ss, hk, hs, h with
      | [(e0, m0), (e1, m1)], _, hs, h =>
        obtain ⟨q0, q1⟩ := hs.each (e0, m0) (by simp)
        obtain ⟨r0, r1⟩ := hs.each (e1, m1) (by simp)
        simp only [List.map_cons, List.map_nil] at q0 q1 r0 r1 ⊢
        have b0 := hs.b0; have b1 := hs.b1
        have s0 := hs.sb q0.1 q0.2
        have s1 := hs.sb r0.1 r0.2
        have mm := mm_bound q1 r1
        walk_at "dgo"
        refine ⟨mulS, _, _, rfl, by omega, bound_mono mm, bound_mono (n := 12) (by omega), _, _, rfl, s0.mono (by decide), s1.mono (by decide), _, _, rfl, (hs.sf mm).mono (by decide), (sz_add s0 s1).mono (by decide), ?_⟩
        exact h
    | over k =>
      obtain ⟨hk, k0, k1⟩ := hk
      unfold Kd.d
      walk_at "dgo"
      refine mosts _ _ ?_ rfl
      walk_at "dgo"
      refine begins _ _ ?_ rfl rfl
      match ss, hk, hs, h with
      | [(e0, m0), (e1, m1)], _, hs, h =>
        obtain ⟨q0, q1⟩ := hs.each (e0, m0) (by simp)
        obtain ⟨r0, r1⟩ := hs.each (e1, m1) (by simp)
        simp only [List.map_cons, List.map_nil] at q0 q1 r0 r1 ⊢
        have b0 := hs.b0; have b1 := hs.b1
        have s0 := hs.sb q0.1 q0.2
        have sk := hs.sb (e := k) (by omega) (by omega)
        have n0 : Sz 12 (m0 : Rat) := sz_int (by omega)
        have f1 := hs.sf (m := m1) (by omega)
        have o1 : Sz 1 ((1 : Int) : Rat) := sz_int (by decide)
        walk_at "dgo"
        refine ⟨b, k, rfl, by omega, by omega, by omega, ?_⟩
        walk_at "dgo"
        refine ⟨(m0 : Rat), _, rfl, n0.mono (by decide), sk.mono (by decide), ?_⟩
        walk_at "dgo"
        refine ⟨m1, b - 1, rfl, by omega, bound_mono (n := 12) (by omega), bound_mono (n := 12) (by omega), _, _, rfl, f1.mono (by decide), sk.mono (by decide), _, _, rfl, (sz_mul f1 sk).mono (by decide), s0.mono (by decide), ((1 : Int) : Rat), _, rfl, o1.mono (by decide), (sz_mul (sz_mul f1 sk) s0).mono (by decide), ?_⟩
        exact ⟨_, _, rfl, (sz_mul n0 sk).mono (by decide), (sz_add o1 (sz_mul (sz_mul f1 sk) s0)).mono (by decide), h⟩
theorem vc_told_lag : goal_told_lag := by
  rintro x0 x1 x2 x3 x4 S P ⟨b, begin, most, ss, tu, kd, e, hk, h⟩
  cases e
  unfold rd_told_lag
  cases kd with
  | loose xs => unfold TKd.d; walk_at "dgo"; exact h _ rfl
  | told x => unfold TKd.d; walk_at "dgo"; exact h _ rfl
  | choose => unfold TKd.d; walk_at "dgo"; exact h _ rfl
  | moved k => unfold TKd.d; walk_at "dgo"; exact h _ rfl
  | kd k =>
    obtain ⟨hs, hk, h1, h2⟩ := hk
    have b0 := hs.b0; have b1 := hs.b1
    have nn := hs.need hk
    have ww := hs.wide hk
    have fin : sp_width_of [.int b, k.d, srcsD tu ss] S fun y S1 => sp_times [.tup [.int 2, .int 1], y] S1 fun z S2 => sp_least_power [.int b, .int (2 * most - b + 1), z] S2 P := by
      refine ⟨b, ss, tu, k, rfl, hs, hk, ((2 : Int) : Rat), _, rfl, (sz_int (n := 2) (by decide)).mono (by decide), ww.2.mono (by decide), ?_⟩
      exact ⟨b, _, _, rfl, b0, b1, by omega, by omega, nn.1, nn.2.mono (by decide), fun d hd d0 d1 => h _ ⟨d, rfl, hd, d0, d1⟩⟩
    cases k <;> (unfold TKd.d Kd.d; unfold Kd.d at fin; walk_at "dgo"; exact ⟨mulS, fin⟩)
/-! ### plain data -/
inductive Plain : Nat → D → Prop
  | non {n} : Plain n .non
  | bl {n b} : Plain n (.bl b)
  | int {n i} : Plain n (.int i)
  | str {n z} : Plain n (.str z)
  | lst {n ds} (hl : ds.length ≤ 100000) (h : ∀ y, y ∈ ds → Plain n y) : Plain (n + 1) (.lst ds)
  | tup {n ds} (hl : ds.length ≤ 100000) (h : ∀ y, y ∈ ds → Plain n y) : Plain (n + 1) (.tup ds)
theorem Plain.mono {n : Nat} {x : D} (h : Plain n x) : ∀ {m : Nat}, n ≤ m → Plain m x := by
  induction h with
  | non => intro m _; exact .non
  | bl => intro m _; exact .bl
  | int => intro m _; exact .int
  | str => intro m _; exact .str
  | lst hl h ih => intro m hm; cases m with
    | zero => omega
    | succ m => exact .lst hl fun y hy => ih y hy (by omega)
  | tup hl h ih => intro m hm; cases m with
    | zero => omega
    | succ m => exact .tup hl fun y hy => ih y hy (by omega)
/-- plain, of a text so long at most -/
def Gd (n c : Nat) (x : D) : Prop := Plain n x ∧ Rpd (n + 1) c x
theorem Gd.mono {n c n' c' : Nat} {x : D} (h : Gd n c x) (h1 : n ≤ n') (h2 : c ≤ c') : Gd n' c' x := ⟨h.1.mono h1, h.2.mono (by omega) h2⟩
theorem gd_int {i : Int} (h : i.natAbs < 10 ^ 12 := by omega) : Gd 0 13 (.int i) := ⟨.int, rp_int h⟩
/-! ### rows -/
structure Rw where
  e : Int
  m : Int
  fs : List Int
def Rw.d (r : Rw) : D := .tup [.int r.e, .int r.m, .tup (r.fs.map .int)]
/-- rows as they are drawn -/
structure Rw.Drawn (b : Int) (r : Rw) : Prop where
  e0 : -12 ≤ r.e
  e1 : r.e ≤ 12
  m0 : b ≤ 2 * r.m
  m1 : r.m ≤ 60
  l : r.fs.length ≤ 60
  f : ∀ f, f ∈ r.fs → -r.m ≤ f ∧ f ≤ r.m
/-- what a drawn row's parts are -/
theorem Rw.Drawn.figs {b : Int} {r : Rw} (h : r.Drawn b) : ∀ y, y ∈ r.fs.map D.int → Gd 0 13 y := fun y hy => by
  obtain ⟨f, hf, rfl⟩ := List.mem_map.mp hy
  have := h.f f hf
  have := h.m1
  exact gd_int
theorem flat_rep {α : Type} (a : α) : ∀ n : Nat, (List.replicate n [a]).flatten = List.replicate n a
  | 0 => rfl
  | n + 1 => by rw [List.replicate_succ, List.flatten_cons, flat_rep a n]; rfl
/-! ### stores that grow -/
def Grown (S S' : Store) : Prop := ∀ a m, S a = some m → S' a = some m
theorem Grown.refl {S : Store} : Grown S S := fun _ _ h => h
theorem Grown.trans {S S1 S2 : Store} (h : Grown S S1) (h2 : Grown S1 S2) : Grown S S2 := fun a m e => h2 a m (h a m e)
theorem Grown.new {S : Store} {p : Addr} {m : MO} (n : S p = none) : Grown S (supd S p m) := fun a x e => by
  unfold supd
  rw [if_neg fun z => by rw [z, n] at e; cases e]; exact e
theorem Grown.ne {S : Store} {p q : Addr} {m : MO} (h : S p = some m) (n : S q = none) : p ≠ q := fun z => by rw [z, n] at h; cases h
theorem dct_dK {S : Store} {a : Addr} {kvs : List (Key × D)} (h : S a = some (.dK kvs)) : dctOf S (.obj a) = some kvs := by
  show (match S a with | some (.dK kvs) => some kvs | some (.dZ _ _ kvs) => some kvs | _ => none) = _
  rw [h]
theorem inl_mem {x : Int} {xs : List Int} : (Sum.inl x : Key) ∈ xs.map Sum.inl ↔ x ∈ xs := by
  rw [List.mem_map]
  exact ⟨fun ⟨y, h, e⟩ => Sum.inl.inj e ▸ h, fun h => ⟨x, h, rfl⟩⟩
/-! ### lists of numbers -/
/-- range(lo, hi) -/
def irg (lo hi : Int) : List Int := (List.range (hi - lo).toNat).map fun (i : Nat) => lo + (i : Int)
theorem mem_irg {lo hi x : Int} : x ∈ irg lo hi ↔ lo ≤ x ∧ x < hi := by
  unfold irg
  rw [List.mem_map]
  constructor
  · rintro ⟨i, hi', rfl⟩
    have := List.mem_range.mp hi'
    omega
  · rintro ⟨h1, h2⟩
    exact ⟨(x - lo).toNat, List.mem_range.mpr (by omega), by omega⟩
theorem irg_len (lo hi : Int) : (irg lo hi).length = (hi - lo).toNat := by simp [irg]
theorem irg_lt (lo hi : Int) : (irg lo hi).Pairwise (· < ·) := by
  unfold irg
  rw [List.pairwise_map]
  exact List.pairwise_lt_range.imp fun h => by omega
theorem nd_lt {xs : List Int} (h : xs.Pairwise (· < ·)) : xs.Nodup := h.imp fun h => by omega
/-- rising, just the members of l -/
structure Srt (l ys : List Int) : Prop where
  lt : ys.Pairwise (· < ·)
  mem : ∀ k, k ∈ ys ↔ k ∈ l
theorem srt_uniq : ∀ {ys zs : List Int}, ys.Pairwise (· < ·) → zs.Pairwise (· < ·) → (∀ k, k ∈ ys ↔ k ∈ zs) → ys = zs
  | [], [], _, _, _ => rfl
  | [], z :: zs, _, _, h => by have := (h z).2 (by simp); simp at this
  | y :: ys, [], _, _, h => by have := (h y).1 (by simp); simp at this
  | y :: ys, z :: zs, h1, h2, h => by
    rw [List.pairwise_cons] at h1 h2
    have e : y = z := by
      have a1 := (h y).1 (by simp)
      have a2 := (h z).2 (by simp)
      rcases List.mem_cons.mp a1 with q | q
      · exact q
      · rcases List.mem_cons.mp a2 with r | r
        · exact r.symm
        · have := h1.1 z r
          have := h2.1 y q
          omega
    subst e
    rw [srt_uniq h1.2 h2.2 fun k => ?_]
    constructor
    · intro hk
      have := h1.1 k hk
      rcases List.mem_cons.mp ((h k).1 (by simp [hk])) with q | q
      · omega
      · exact q
    · intro hk
      have := h2.1 k hk
      rcases List.mem_cons.mp ((h k).2 (by simp [hk])) with q | q
      · omega
      · exact q
theorem Srt.uniq {l l' ys zs : List Int} (h : Srt l ys) (h' : Srt l' zs) (e : ∀ k, k ∈ l ↔ k ∈ l') : ys = zs := srt_uniq h.lt h'.lt fun k => (h.mem k).trans ((e k).trans (h'.mem k).symm)
theorem nd_sub_len : ∀ {c l : List Int}, c.Nodup → (∀ k, k ∈ c → k ∈ l) → c.length ≤ l.length
  | [], l, _, _ => by simp
  | a :: c, l, h, hs => by
    rw [List.nodup_cons] at h
    have ha : a ∈ l := hs a (by simp)
    have := nd_sub_len (c := c) (l := l.erase a) h.2 fun k hk => by
      have hne : k ≠ a := fun e => h.1 (e ▸ hk)
      exact (List.mem_erase_of_ne hne).2 (hs k (by simp [hk]))
    rw [List.length_erase_of_mem ha] at this
    have := List.length_pos_of_mem ha
    simp only [List.length_cons]
    omega
/-! ### all that may come in a place -/
/-- all sums, one source more -/
def addS (acc : List Int) (p : Int × Int) : List Int := acc.flatMap fun one => (irg (-p.2) (p.2 + 1)).map fun f => one + p.1 * f
def sumsR (ps : List (Int × Int)) : List Int := ps.foldl addS [0]
/-- the greatest of them -/
def addT (T : Int) (p : Int × Int) : Int := T + (p.1.natAbs : Int) * p.2
def topR (ps : List (Int × Int)) : Int := ps.foldl addT 0
theorem mem_addS {acc : List Int} {p : Int × Int} {x : Int} : x ∈ addS acc p ↔ ∃ one ∈ acc, ∃ f, -p.2 ≤ f ∧ f ≤ p.2 ∧ x = one + p.1 * f := by
  unfold addS
  rw [List.mem_flatMap]
  constructor
  · rintro ⟨one, h1, h2⟩
    obtain ⟨f, hf, rfl⟩ := List.mem_map.mp h2
    rw [mem_irg] at hf
    exact ⟨one, h1, f, by omega, by omega, rfl⟩
  · rintro ⟨one, h1, f, h2, h3, rfl⟩
    exact ⟨one, h1, List.mem_map.mpr ⟨f, mem_irg.mpr ⟨h2, by omega⟩, rfl⟩⟩
theorem abs_mul_le {w f m : Int} (h1 : -m ≤ f) (h2 : f ≤ m) : -((w.natAbs : Int) * m) ≤ w * f ∧ w * f ≤ (w.natAbs : Int) * m := by
  rcases Int.le_total 0 w with h | h
  · have e : (w.natAbs : Int) = w := by omega
    rw [e]
    have a := Int.mul_le_mul_of_nonneg_left h1 h
    have b := Int.mul_le_mul_of_nonneg_left h2 h
    rw [Int.mul_neg] at a
    omega
  · have e : (w.natAbs : Int) = -w := by omega
    rw [e]
    have a := Int.mul_le_mul_of_nonneg_left h1 (show (0 : Int) ≤ -w by omega)
    have b := Int.mul_le_mul_of_nonneg_left h2 (show (0 : Int) ≤ -w by omega)
    rw [Int.mul_neg] at a
    rw [Int.neg_mul, Int.neg_mul] at a b
    rw [Int.neg_mul]
    omega
theorem addS_bound {acc : List Int} {p : Int × Int} {T : Int} (h : ∀ x ∈ acc, -T ≤ x ∧ x ≤ T) : ∀ x ∈ addS acc p, -(addT T p) ≤ x ∧ x ≤ addT T p := by
  unfold addT
  intro x hx
  obtain ⟨one, h1, f, h2, h3, rfl⟩ := mem_addS.mp hx
  have a := h one h1
  have b := abs_mul_le (w := p.1) h2 h3
  omega
theorem sums_bound : ∀ (ps : List (Int × Int)) (acc : List Int) (T : Int), (∀ x ∈ acc, -T ≤ x ∧ x ≤ T) → ∀ x ∈ ps.foldl addS acc, -(ps.foldl addT T) ≤ x ∧ x ≤ ps.foldl addT T
  | [], _, _, h => h
  | p :: ps, acc, T, h => sums_bound ps _ _ (addS_bound h)
theorem sumsR_bound {ps : List (Int × Int)} : ∀ x ∈ sumsR ps, -(topR ps) ≤ x ∧ x ≤ topR ps := sums_bound ps [0] 0 (by simp)
theorem zero_addS {acc : List Int} {p : Int × Int} (h : 0 ∈ acc) (hp : 0 ≤ p.2) : 0 ∈ addS acc p := mem_addS.mpr ⟨0, h, 0, by omega, hp, by simp⟩
theorem zero_sums : ∀ (ps : List (Int × Int)) (acc : List Int), 0 ∈ acc → (∀ p ∈ ps, 0 ≤ p.2) → 0 ∈ ps.foldl addS acc
  | [], _, h, _ => h
  | p :: ps, acc, h, hp => zero_sums ps _ (zero_addS h (hp p (by simp))) fun q hq => hp q (by simp [hq])
theorem zero_sumsR {ps : List (Int × Int)} (hp : ∀ p ∈ ps, 0 ≤ p.2) : 0 ∈ sumsR ps := zero_sums ps [0] (by simp) hp
/-! ### a game -/
structure Gm where
  b : Int
  w : Int
  st : Int
  sums : List Int
def Gm.top (g : Gm) : Int := g.sums.getLastD 0
def Gm.gr (g : Gm) : Int := (g.st * g.w - g.top).fdiv (g.b - 1)
def Gm.rests (g : Gm) : List Int := irg (-g.gr) (g.gr + 1)
def Gm.led (g : Gm) (a : Int) : List Int := (irg (max (-g.w) (-((g.gr - a).fdiv g.st))) (min g.w ((a + g.gr).fdiv g.st) + 1)).map fun f => a - f * g.st
/-- some figure leads to one of those held -/
def Gm.heldB (g : Gm) (H : List Int) (a : Int) : Bool := (g.led a).any fun x => decide (x ∈ H)
/-- the first sum behind which none does -/
def Gm.fatal (g : Gm) (H : List Int) (r : Int) : Option Int := g.sums.find? fun s => !g.heldB H (g.b * r + s)
def Gm.safe (g : Gm) (H : List Int) (r : Int) : Bool := (g.fatal H r).isNone
/-- the rests that go, each with its rank and its sum -/
def Gm.gone (g : Gm) (H : List Int) (k : Int) : List (Int × Int × Int) := (H.filter fun r => !g.safe H r).map fun r => (r, k, (g.fatal H r).getD 0)
def Gm.ranksN (g : Gm) : Nat → List (Int × Int × Int) → List Int → Int → List (Int × Int × Int) × List Int
  | 0, found, H, _ => (found, H)
  | n + 1, found, H, k => if H.all (g.safe H) = true then (found, H) else g.ranksN n (found ++ g.gone H k) (H.filter (g.safe H)) (k + 1)
def Gm.ranks (g : Gm) : List (Int × Int × Int) × List Int := g.ranksN (g.rests.length + 1) [] g.rests 0
/-- what is wanted of a game -/
structure GmOk (g : Gm) : Prop where
  b0 : 2 ≤ g.b
  b1 : g.b ≤ 16
  w0 : 0 ≤ g.w
  w1 : g.w ≤ 1000
  s0 : 0 < g.st
  s1 : g.st < 2 ^ 40
  ne : g.sums ≠ []
  sl : g.sums.length ≤ 2000
  sb : ∀ s ∈ g.sums, s.natAbs < 2 ^ 40
  few : 2 * g.gr + 1 ≤ 2000
theorem fdiv_lt_iff {a x k : Int} (hk : 0 < k) : x ≤ a.fdiv k ↔ x * k ≤ a := by
  rw [Int.fdiv_eq_ediv_of_nonneg _ (by omega)]
  exact Int.le_ediv_iff_mul_le hk
/-! ### isinstance of dict, of (bool, str) -/
theorem isiG_non_dict {S : Store} {P : D → Store → Prop} : cIsi [.non, .ty "dict"] S P = P (.bl false) S := propext ⟨fun h => h.2, fun h => ⟨by decide, h⟩⟩
theorem isiG_bl_dict {k : Bool} {S : Store} {P : D → Store → Prop} : cIsi [(.bl k), .ty "dict"] S P = P (.bl false) S := propext ⟨fun h => h.2, fun h => ⟨by decide, h⟩⟩
theorem isiG_int_dict {k : Int} {S : Store} {P : D → Store → Prop} : cIsi [(.int k), .ty "dict"] S P = P (.bl false) S := propext ⟨fun h => h.2, fun h => ⟨by decide, h⟩⟩
theorem isiG_str_dict {k : Str} {S : Store} {P : D → Store → Prop} : cIsi [(.str k), .ty "dict"] S P = P (.bl false) S := propext ⟨fun h => h.2, fun h => ⟨by decide, h⟩⟩
theorem isiG_lst_dict {k : List D} {S : Store} {P : D → Store → Prop} : cIsi [(.lst k), .ty "dict"] S P = P (.bl false) S := propext ⟨fun h => h.2, fun h => ⟨by decide, h⟩⟩
theorem isiG_tup_dict {k : List D} {S : Store} {P : D → Store → Prop} : cIsi [(.tup k), .ty "dict"] S P = P (.bl false) S := propext ⟨fun h => h.2, fun h => ⟨by decide, h⟩⟩
theorem isiG_non_bs {S : Store} {P : D → Store → Prop} : cIsi [.non, .tup [.ty "bool", .ty "str"]] S P = P (.bl false) S := rfl
theorem isiG_bl_bs {k : Bool} {S : Store} {P : D → Store → Prop} : cIsi [(.bl k), .tup [.ty "bool", .ty "str"]] S P = P (.bl true) S := rfl
theorem isiG_int_bs {k : Int} {S : Store} {P : D → Store → Prop} : cIsi [(.int k), .tup [.ty "bool", .ty "str"]] S P = P (.bl false) S := rfl
theorem isiG_str_bs {k : Str} {S : Store} {P : D → Store → Prop} : cIsi [(.str k), .tup [.ty "bool", .ty "str"]] S P = P (.bl true) S := rfl
theorem isiG_lst_bs {k : List D} {S : Store} {P : D → Store → Prop} : cIsi [(.lst k), .tup [.ty "bool", .ty "str"]] S P = P (.bl false) S := rfl
theorem isiG_tup_bs {k : List D} {S : Store} {P : D → Store → Prop} : cIsi [(.tup k), .tup [.ty "bool", .ty "str"]] S P = P (.bl false) S := rfl
theorem pwR {b : Int} (b0 : 1 ≤ b) {n m : Nat} (h : n ≤ m) : b ^ n ≤ b ^ m := by
  obtain ⟨k, rfl⟩ : ∃ k, m = n + k := ⟨m - n, by omega⟩
  rw [Int.pow_add]
  have h1 : 1 ≤ b ^ k := Int.pow_pos (by omega)
  have h2 : 1 ≤ b ^ n := Int.pow_pos (by omega)
  have := Int.mul_le_mul_of_nonneg_left h1 (show 0 ≤ b ^ n by omega)
  omega
theorem pw2 {b : Int} (b0 : 2 ≤ b) : ∀ n : Nat, (2 : Int) ^ n ≤ b ^ n
  | 0 => by simp
  | n + 1 => by
    rw [Int.pow_succ, Int.pow_succ]
    exact Int.mul_le_mul (pw2 b0 n) b0 (by omega) (by have : 0 < b ^ n := Int.pow_pos (by omega); omega)
structure Mz where
  b : Int
  v : Int
  m : Int
  W : Int
def Mz.u (M : Mz) (L : Int) : Int := M.v * M.b ^ (L + 8).toNat
def Mz.room (M : Mz) (L : Int) : Int := M.u L * M.m - M.W * M.b ^ 9
def Mz.ok (M : Mz) (R L d : Int) : Prop := (M.b - 1) * (R - d * M.u L) ≤ M.room L ∧ -(M.room L) ≤ (M.b - 1) * (R - d * M.u L)
structure Mz.Ok (M : Mz) : Prop where
  b0 : 2 ≤ M.b
  b1 : M.b ≤ 10
  v0 : 1 ≤ M.v
  v1 : M.v ≤ 60
  v2 : M.v ≤ 25 ∨ 3 ≤ M.b
  m0 : 1 ≤ M.m
  m1 : M.m ≤ 20
  W0 : 1 ≤ M.W
  W1 : M.W ≤ 200
def Mz.Inv (M : Mz) (R L : Int) : Prop := (M.b - 1) * R + M.W * M.b ^ 9 ≤ M.b * (M.u L * M.m) ∧ -((M.b - 1) * R) + M.W * M.b ^ 9 ≤ M.b * (M.u L * M.m)
/-- the right figure least in size, if there is one -/
def Mz.Nx (M : Mz) (R L : Int) : Option Int → Prop
  | none => ∀ d, ¬ M.ok R L d
  | some d => M.ok R L d ∧ ∀ e, M.ok R L e → d.natAbs ≤ e.natAbs
theorem Mz.Ok.u0 {M : Mz} (h : M.Ok) (L : Int) : 1 ≤ M.u L := by
  have h1 : 1 ≤ M.b ^ (L + 8).toNat := Int.pow_pos (by have := h.b0; omega)
  have := Int.mul_le_mul h.v0 h1 (by omega) (by have := h.v0; omega)
  unfold Mz.u; omega
theorem Mz.ok_mid {M : Mz} {R L d : Int} (h1 : M.ok R L d) (h2 : M.ok R L (-d)) : M.ok R L 0 := by
  unfold Mz.ok at *
  rw [Int.mul_sub] at *
  rw [Int.neg_mul, Int.mul_neg] at h2
  rw [Int.zero_mul, Int.mul_zero]
  generalize (M.b - 1) * (d * M.u L) = y at *
  generalize (M.b - 1) * R = x at *
  omega
theorem Mz.Nx.uniq {M : Mz} {R L : Int} {o o' : Option Int} (h : M.Nx R L o) (h' : M.Nx R L o') : o = o' := by
  cases o with
  | none =>
    cases o' with
    | none => rfl
    | some d => exact absurd h'.1 (h d)
  | some d =>
    cases o' with
    | none => exact absurd h.1 (h' d)
    | some e =>
      have a := h.2 e h'.1
      have a' := h'.2 d h.1
      by_cases q : d = e
      · rw [q]
      · have : e = -d := by omega
        subst this
        have z := h.2 0 (Mz.ok_mid h.1 h'.1)
        have : d = 0 := by simp at z; exact z
        subst this
        exact absurd rfl q
/-- one that is right is there no further out than m -/
theorem Mz.near {M : Mz} (ho : M.Ok) {R L e : Int} (I : M.Inv R L) (h : M.ok R L e) : ∃ d, M.ok R L d ∧ -M.m ≤ d ∧ d ≤ M.m ∧ d.natAbs ≤ e.natAbs := by
  have b0 := ho.b0; have m0 := ho.m0; have u0 := ho.u0 L
  by_cases h1 : M.m < e
  · refine ⟨M.m, ?_, by omega, Int.le_refl _, by omega⟩
    unfold Mz.ok Mz.Inv Mz.room at *
    obtain ⟨h2, h3⟩ := h
    obtain ⟨i1, i2⟩ := I
    have k1 : (M.b - 1) * (M.m * M.u L) ≤ (M.b - 1) * (e * M.u L) := Int.mul_le_mul_of_nonneg_left (Int.mul_le_mul_of_nonneg_right (Int.le_of_lt h1) (by omega)) (by omega)
    rw [Int.mul_sub] at *
    rw [show M.b * (M.u L * M.m) = (M.b - 1) * (M.m * M.u L) + M.u L * M.m by rw [Int.mul_comm M.m, Int.sub_mul, Int.one_mul]; omega] at i1 i2
    generalize (M.b - 1) * (M.m * M.u L) = y at *
    generalize (M.b - 1) * (e * M.u L) = z at *
    generalize (M.b - 1) * R = x at *
    generalize M.W * M.b ^ 9 = w at *
    generalize M.u L * M.m = t at *
    omega
  · by_cases h4 : e < -M.m
    · refine ⟨-M.m, ?_, Int.le_refl _, by omega, by omega⟩
      unfold Mz.ok Mz.Inv Mz.room at *
      obtain ⟨h2, h3⟩ := h
      obtain ⟨i1, i2⟩ := I
      have k1 : (M.b - 1) * (e * M.u L) ≤ (M.b - 1) * (-M.m * M.u L) := Int.mul_le_mul_of_nonneg_left (Int.mul_le_mul_of_nonneg_right (Int.le_of_lt h4) (by omega)) (by omega)
      rw [Int.mul_sub] at *
      rw [show M.b * (M.u L * M.m) = (M.b - 1) * (M.m * M.u L) + M.u L * M.m by rw [Int.mul_comm M.m, Int.sub_mul, Int.one_mul]; omega] at i1 i2
      rw [show (M.b - 1) * (-M.m * M.u L) = -((M.b - 1) * (M.m * M.u L)) by rw [Int.neg_mul, Int.mul_neg]] at *
      generalize (M.b - 1) * (M.m * M.u L) = y at *
      generalize (M.b - 1) * (e * M.u L) = z at *
      generalize (M.b - 1) * R = x at *
      generalize M.W * M.b ^ 9 = w at *
      generalize M.u L * M.m = t at *
      omega
    · exact ⟨e, h, by omega, by omega, Nat.le_refl _⟩
theorem Mz.Ok.pw {M : Mz} (h : M.Ok) (n : Nat) : 1 ≤ M.b ^ n := Int.pow_pos (by have := h.b0; omega)
/-- where a figure is right the lead is -7 at least -/
theorem Mz.ok_lead {M : Mz} (ho : M.Ok) {R L d : Int} (h : M.ok R L d) : -7 ≤ L := by
  apply Decidable.byContradiction
  intro hl
  have b0 := ho.b0
  unfold Mz.ok Mz.room at h
  have h1 : M.W * M.b ^ 9 ≤ M.u L * M.m := by omega
  have h2 : (L + 8).toNat = 0 := by omega
  unfold Mz.u at h1
  rw [h2, Int.pow_zero, Int.mul_one] at h1
  have h5 : M.b ^ 9 ≤ M.W * M.b ^ 9 := by
    have := Int.mul_le_mul_of_nonneg_right ho.W0 (show 0 ≤ M.b ^ 9 by have := ho.pw 9; omega)
    rw [Int.one_mul] at this; exact this
  have v0 := ho.v0; have m0 := ho.m0
  rcases ho.v2 with v2 | v2
  · have h4 : M.v * M.m ≤ 25 * 20 := Int.mul_le_mul v2 ho.m1 (by omega) (by decide)
    have h7 := pw2 b0 9
    rw [show (2 : Int) ^ 9 = 512 by decide] at h7
    omega
  · have h4 : M.v * M.m ≤ 60 * 20 := Int.mul_le_mul ho.v1 ho.m1 (by omega) (by decide)
    have h7 : (3 : Int) ^ 9 ≤ M.b ^ 9 := by
      have key : ∀ n : Nat, (3 : Int) ^ n ≤ M.b ^ n := fun n => by
        induction n with
        | zero => simp
        | succ n ih =>
          rw [Int.pow_succ, Int.pow_succ]
          exact Int.mul_le_mul ih v2 (by omega) (by have : 0 < M.b ^ n := Int.pow_pos (by omega); omega)
      exact key 9
    rw [show (3 : Int) ^ 9 = 19683 by decide] at h7
    omega
inductive Mz.Stl (M : Mz) : Int → Int → Int → Int → Prop
  | stop {R L : Int} : M.Nx R L none → Stl M R L R L
  | go {R L d R' L' : Int} : M.Nx R L (some d) → Stl M (R - d * M.u L) (L - 1) R' L' → Stl M R L R' L'
theorem Mz.Stl.uniq {M : Mz} {R L A B A' B' : Int} (h : M.Stl R L A B) (h' : M.Stl R L A' B') : A = A' ∧ B = B' := by
  induction h with
  | stop n =>
    cases h' with
    | stop _ => exact ⟨rfl, rfl⟩
    | go n' _ => cases n.uniq n'
  | go n _ ih =>
    cases h' with
    | stop n' => cases n.uniq n'
    | go n' s' =>
      cases n.uniq n'
      exact ih s'
theorem Mz.u_down {M : Mz} {L : Int} (h : -7 ≤ L) : M.u L = M.b * M.u (L - 1) := by
  unfold Mz.u
  rw [show (L + 8).toNat = (L - 1 + 8).toNat + 1 by omega, Int.pow_succ, ← Int.mul_assoc, Int.mul_comm M.b]
theorem Mz.Inv.give {M : Mz} {R L d : Int} (ho : M.Ok) (h : M.ok R L d) : M.Inv (R - d * M.u L) (L - 1) := by
  have hl := Mz.ok_lead ho h
  unfold Mz.ok Mz.room Mz.Inv at *
  rw [Mz.u_down (by omega), Int.mul_assoc] at h
  rw [Mz.u_down (M := M) (L := L) (by omega)]
  generalize (M.b - 1) * (R - d * (M.b * M.u (L - 1))) = x at *
  omega
theorem Mz.Inv.read {M : Mz} {R L c : Int} (ho : M.Ok) (hl : -8 ≤ L) (h : M.Inv R L) (c0 : -M.W ≤ c) (c1 : c ≤ M.W) : M.Inv (R * M.b + c * M.b ^ 9) (L + 1) := by
  have b0 := ho.b0
  have k1 : M.u (L + 1) = M.b * M.u L := by
    have := Mz.u_down (M := M) (L := L + 1) (by omega)
    rwa [show L + 1 - 1 = L by omega] at this
  unfold Mz.Inv at *
  obtain ⟨i1, i2⟩ := h
  rw [k1]
  have p := ho.pw 9
  have j1 := Int.mul_le_mul_of_nonneg_left i1 (show 0 ≤ M.b by omega)
  have j2 := Int.mul_le_mul_of_nonneg_left i2 (show 0 ≤ M.b by omega)
  have q1 : (M.b - 1) * (c * M.b ^ 9) ≤ (M.b - 1) * (M.W * M.b ^ 9) := Int.mul_le_mul_of_nonneg_left (Int.mul_le_mul_of_nonneg_right c1 (by omega)) (by omega)
  have q2 : (M.b - 1) * (-M.W * M.b ^ 9) ≤ (M.b - 1) * (c * M.b ^ 9) := Int.mul_le_mul_of_nonneg_left (Int.mul_le_mul_of_nonneg_right c0 (by omega)) (by omega)
  rw [Int.neg_mul, Int.mul_neg] at q2
  rw [show (M.b - 1) * (M.W * M.b ^ 9) = M.b * (M.W * M.b ^ 9) - M.W * M.b ^ 9 by rw [Int.sub_mul, Int.one_mul]] at q1 q2
  rw [Int.mul_add] at j1 j2
  rw [Int.mul_add, show (M.b - 1) * (R * M.b) = M.b * ((M.b - 1) * R) by rw [← Int.mul_assoc, Int.mul_comm _ M.b]]
  rw [show M.b * (M.b * M.u L * M.m) = M.b * (M.b * (M.u L * M.m)) by rw [Int.mul_assoc M.b (M.u L)]]
  rw [Int.mul_neg] at j2
  generalize M.b * ((M.b - 1) * R) = x at *
  generalize (M.b - 1) * (c * M.b ^ 9) = y at *
  generalize M.b * (M.W * M.b ^ 9) = z at *
  generalize M.W * M.b ^ 9 = w at *
  omega
/-- a state of the program (its rest grows below 0) and the same state in one scale -/
def Mz.Rel (M : Mz) (r R L : Int) : Prop := r * M.b ^ 9 = R * M.b ^ (-L).toNat ∧ -8 ≤ L
/-- what step_at tells -/
def Mz.here (M : Mz) (r L : Int) : Int := if 0 < L then r else r * M.b
def Mz.stp (M : Mz) (L : Int) : Int := if 0 < L then M.v * M.b ^ (L - 1).toNat else M.v
def Mz.wid (M : Mz) (L : Int) : Int := if 0 < L then M.W else M.W * M.b ^ (1 - L).toNat
theorem Mz.scale {M : Mz} (ho : M.Ok) {r R L : Int} (h : M.Rel r R L) : ∃ k : Int, 0 < k ∧ M.here r L * k = R ∧ M.stp L * k = M.u L ∧ M.wid L * k = M.W * M.b ^ 9 := by
  obtain ⟨h1, h2⟩ := h
  have b0 := ho.b0
  unfold Mz.here Mz.stp Mz.wid Mz.u
  by_cases q : 0 < L
  · refine ⟨M.b ^ 9, by have := ho.pw 9; omega, ?_, ?_, ?_⟩
    · rw [if_pos q, h1, show (-L).toNat = 0 by omega, Int.pow_zero, Int.mul_one]
    · rw [if_pos q, Int.mul_assoc, ← Int.pow_add, show (L - 1).toNat + 9 = (L + 8).toNat by omega]
    · rw [if_pos q]
  · refine ⟨M.b ^ (L + 8).toNat, by have := ho.pw (L + 8).toNat; omega, ?_, ?_, ?_⟩
    · rw [if_neg q]
      have e : r * M.b * M.b ^ (L + 8).toNat * M.b ^ (-L).toNat = R * M.b ^ (-L).toNat := by
        rw [← h1, Int.mul_assoc, Int.mul_assoc, ← Int.pow_add, ← Int.pow_succ']
        rw [show (L + 8).toNat + (-L).toNat + 1 = 9 by omega]
      exact Int.eq_of_mul_eq_mul_right (by have := ho.pw (-L).toNat; omega) e
    · rw [if_neg q]
    · rw [if_neg q, Int.mul_assoc, ← Int.pow_add, show (1 - L).toNat + (L + 8).toNat = 9 by omega]
theorem Mz.ok_scale {M : Mz} (ho : M.Ok) {r R L : Int} (h : M.Rel r R L) (d : Int) : M.ok R L d ↔ (M.b - 1) * (M.here r L - d * M.stp L) ≤ M.stp L * M.m - M.wid L ∧ -(M.stp L * M.m - M.wid L) ≤ (M.b - 1) * (M.here r L - d * M.stp L) := by
  obtain ⟨k, k0, e1, e2, e3⟩ := Mz.scale ho h
  unfold Mz.ok Mz.room
  rw [← e1, ← e2, ← e3]
  have x1 : (M.b - 1) * (M.here r L * k - d * (M.stp L * k)) = (M.b - 1) * (M.here r L - d * M.stp L) * k := by
    rw [← Int.mul_assoc d, ← Int.sub_mul, Int.mul_assoc]
  have x2 : M.stp L * k * M.m - M.wid L * k = (M.stp L * M.m - M.wid L) * k := by
    rw [Int.mul_right_comm, ← Int.sub_mul]
  rw [x1, x2, ← Int.neg_mul]
  constructor
  · rintro ⟨a, c⟩
    exact ⟨Int.le_of_mul_le_mul_right a k0, Int.le_of_mul_le_mul_right c k0⟩
  · rintro ⟨a, c⟩
    exact ⟨Int.mul_le_mul_of_nonneg_right a (by omega), Int.mul_le_mul_of_nonneg_right c (by omega)⟩
theorem Mz.stp0 {M : Mz} (ho : M.Ok) (L : Int) : 1 ≤ M.stp L := by
  unfold Mz.stp
  split
  · have := Int.mul_le_mul ho.v0 (ho.pw (L - 1).toNat) (by omega) (by have := ho.v0; omega)
    omega
  · exact ho.v0
/-- the figure that the program tells -/
theorem Mz.fig {M : Mz} (ho : M.Ok) {r R L : Int} (h : M.Rel r R L) :
    (M.stp L * M.m < M.wid L → M.Nx R L none) ∧
    ∀ room, room = (M.stp L * M.m - M.wid L).fdiv (M.b - 1) → ¬ M.stp L * M.m < M.wid L →
      ((M.here r L + room).fdiv (M.stp L) < -((room - M.here r L).fdiv (M.stp L)) → M.Nx R L none) ∧
      (¬ (M.here r L + room).fdiv (M.stp L) < -((room - M.here r L).fdiv (M.stp L)) → M.Nx R L (some (max (-((room - M.here r L).fdiv (M.stp L))) (min 0 ((M.here r L + room).fdiv (M.stp L)))))) := by
  have b0 := ho.b0
  have s0 := Mz.stp0 ho L
  refine ⟨fun q d hd => ?_, fun room hr q => ?_⟩
  · have := (Mz.ok_scale ho h d).mp hd
    omega
  have key : ∀ d, M.ok R L d ↔ -((room - M.here r L).fdiv (M.stp L)) ≤ d ∧ d ≤ (M.here r L + room).fdiv (M.stp L) := fun d => by
    rw [Mz.ok_scale ho h d]
    have a1 : (M.b - 1) * (M.here r L - d * M.stp L) ≤ M.stp L * M.m - M.wid L ↔ M.here r L - d * M.stp L ≤ room := by
      rw [hr, fdiv_lt_iff (by omega), Int.mul_comm]
    have a2 : -(M.stp L * M.m - M.wid L) ≤ (M.b - 1) * (M.here r L - d * M.stp L) ↔ -(M.here r L - d * M.stp L) ≤ room := by
      rw [hr, fdiv_lt_iff (by omega), Int.neg_mul, Int.mul_comm (M.here r L - d * M.stp L)]
      omega
    rw [a1, a2]
    have a3 : M.here r L - d * M.stp L ≤ room ↔ -d ≤ (room - M.here r L).fdiv (M.stp L) := by
      rw [fdiv_lt_iff (by omega), Int.neg_mul]; omega
    have a4 : -(M.here r L - d * M.stp L) ≤ room ↔ d ≤ (M.here r L + room).fdiv (M.stp L) := by
      rw [fdiv_lt_iff (by omega)]; omega
    rw [a3, a4]
    omega
  generalize -((room - M.here r L).fdiv (M.stp L)) = lo at *
  generalize (M.here r L + room).fdiv (M.stp L) = hi at *
  refine ⟨fun z d hd => ?_, fun z => ⟨(key _).mpr (by omega), fun e he => ?_⟩⟩
  · have := (key d).mp hd; omega
  · have := (key e).mp he; omega
theorem Mz.rel_give {M : Mz} (ho : M.Ok) {r R L d : Int} (h : M.Rel r R L) (hd : M.ok R L d) : M.Rel (M.here r L - d * M.stp L) (R - d * M.u L) (L - 1) := by
  have hl := Mz.ok_lead ho hd
  obtain ⟨k, k0, e1, e2, e3⟩ := Mz.scale ho h
  refine ⟨?_, by omega⟩
  obtain ⟨h1, h2⟩ := h
  have b0 := ho.b0
  unfold Mz.here Mz.stp Mz.u at *
  by_cases q : 0 < L
  · simp only [if_pos q] at *
    rw [show (-(L - 1)).toNat = 0 by omega, Int.pow_zero, Int.mul_one, Int.sub_mul, h1, show (-L).toNat = 0 by omega, Int.pow_zero, Int.mul_one, Int.mul_assoc d, Int.mul_assoc M.v, ← Int.pow_add, show (L - 1).toNat + 9 = (L + 8).toNat by omega]
  · simp only [if_neg q] at *
    rw [Int.sub_mul, Int.sub_mul]
    have x1 : r * M.b * M.b ^ 9 = R * M.b ^ (-(L - 1)).toNat := by
      rw [show (-(L - 1)).toNat = (-L).toNat + 1 by omega, Int.pow_succ M.b (-L).toNat, Int.mul_right_comm, h1, Int.mul_assoc]
    rw [x1, Int.mul_assoc d, Int.mul_assoc d, Int.mul_assoc M.v, ← Int.pow_add, show (L + 8).toNat + (-(L - 1)).toNat = 9 by omega]
theorem Mz.rel_read {M : Mz} (ho : M.Ok) {r R L c : Int} (h : M.Rel r R L) : M.Rel (if L < 0 then r + c * M.b ^ (-L - 1).toNat else r * M.b + c) (R * M.b + c * M.b ^ 9) (L + 1) := by
  obtain ⟨h1, h2⟩ := h
  refine ⟨?_, by omega⟩
  have b0 := ho.b0
  by_cases q : L < 0
  · rw [if_pos q, Int.add_mul, h1, Int.add_mul, Int.mul_assoc R, ← Int.pow_succ', show (-(L + 1)).toNat + 1 = (-L).toNat by omega, show (-(L + 1)).toNat = (-L - 1).toNat by omega, Int.mul_right_comm c]
  · rw [if_neg q, show (-(L + 1)).toNat = 0 by omega, Int.pow_zero, Int.mul_one, Int.add_mul, Int.mul_right_comm, h1, show (-L).toNat = 0 by omega, Int.pow_zero, Int.mul_one]
/-- at rest 0, a figure is right just where 0 is -/
theorem Mz.nx0 {M : Mz} (ho : M.Ok) {L : Int} : (M.room L < 0 → M.Nx 0 L none) ∧ (0 ≤ M.room L → M.Nx 0 L (some 0)) := by
  refine ⟨fun h d hd => ?_, fun h => ⟨?_, fun e _ => by simp⟩⟩
  · unfold Mz.ok at hd; omega
  · unfold Mz.ok
    rw [Int.zero_mul, Int.sub_zero, Int.mul_zero]
    omega
theorem Mz.room_mono {M : Mz} (ho : M.Ok) {L L' : Int} (h : L ≤ L') : M.room L ≤ M.room L' := by
  unfold Mz.room Mz.u
  have b0 := ho.b0; have v0 := ho.v0; have m0 := ho.m0
  have h1 : M.b ^ (L + 8).toNat ≤ M.b ^ (L' + 8).toNat := pwR (by omega) (by omega)
  have h2 := Int.mul_le_mul_of_nonneg_right (Int.mul_le_mul_of_nonneg_left h1 (show 0 ≤ M.v by omega)) (show 0 ≤ M.m by omega)
  omega
theorem Mz.room9 {M : Mz} (ho : M.Ok) : 0 ≤ M.room 9 := by
  have b0 := ho.b0
  unfold Mz.room Mz.u
  rw [show ((9 : Int) + 8).toNat = 8 + 9 by rfl, Int.pow_add]
  have h1 : (256 : Int) ≤ M.b ^ 8 := by
    have := pw2 b0 8
    rwa [show (2 : Int) ^ 8 = 256 by decide] at this
  have p := ho.pw 9
  have h2 : M.W * M.b ^ 9 ≤ 256 * M.b ^ 9 := Int.mul_le_mul_of_nonneg_right (by have := ho.W1; omega) (by omega)
  have h3 : 256 * M.b ^ 9 ≤ M.b ^ 8 * M.b ^ 9 := Int.mul_le_mul_of_nonneg_right h1 (by omega)
  have h4 : 1 * (M.b ^ 8 * M.b ^ 9) ≤ M.v * (M.b ^ 8 * M.b ^ 9) := Int.mul_le_mul_of_nonneg_right ho.v0 (by omega)
  have h5 : M.v * (M.b ^ 8 * M.b ^ 9) * 1 ≤ M.v * (M.b ^ 8 * M.b ^ 9) * M.m := Int.mul_le_mul_of_nonneg_left ho.m0 (by omega)
  omega
/-- from a lead at which nought is right one comes on to lower ones -/
theorem Mz.stl0 {M : Mz} (ho : M.Ok) {L A B : Int} (n : Nat) : (∀ i : Int, L ≤ i → i ≤ L + n → 0 ≤ M.room i) → M.Stl 0 L A B → M.Stl 0 (L + n) A B := by
  induction n with
  | zero => intro _ h; simpa using h
  | succ n ih =>
    intro hr h
    refine .go ((Mz.nx0 ho).2 (hr _ (by omega) (by omega))) ?_
    rw [Int.zero_mul, Int.sub_zero, show L + ((n + 1 : Nat) : Int) - 1 = L + (n : Int) by omega]
    exact ih (fun i h1 h2 => hr i h1 (by omega)) h
/-- rows, place by place -/
inductive Mz.Led (M : Mz) : List Int → Int → Int → Prop
  | nil {R L : Int} : M.Stl 0 9 R L → Led M [] R L
  | more {cs : List Int} {c R L R' L' : Int} : Led M cs R L → M.Stl (R * M.b + c * M.b ^ 9) (L + 1) R' L' → Led M (cs ++ [c]) R' L'
theorem Mz.Led.nil_inv {M : Mz} {R L : Int} (h : M.Led [] R L) : M.Stl 0 9 R L := by
  generalize e : ([] : List Int) = l at h
  cases h with
  | nil s => exact s
  | more a b => simp at e
theorem Mz.Led.more_inv {M : Mz} {cs : List Int} {c R' L' : Int} (h : M.Led (cs ++ [c]) R' L') : ∃ R L, M.Led cs R L ∧ M.Stl (R * M.b + c * M.b ^ 9) (L + 1) R' L' := by
  generalize e : cs ++ [c] = l at h
  cases h with
  | nil s => simp at e
  | more a s =>
    obtain ⟨rfl, e2⟩ := List.append_inj' e rfl
    cases e2
    exact ⟨_, _, a, s⟩
theorem Mz.Led.uniq {M : Mz} {cs : List Int} {R L R' L' : Int} (h : M.Led cs R L) : M.Led cs R' L' → R = R' ∧ L = L' := by
  induction h generalizing R' L' with
  | nil s => exact fun h' => s.uniq h'.nil_inv
  | more a s ih =>
    intro h'
    obtain ⟨R1, L1, a', s'⟩ := h'.more_inv
    obtain ⟨rfl, rfl⟩ := ih a'
    exact s.uniq s'
/-- the invariant along a settling -/
theorem Mz.Stl.keep {M : Mz} (ho : M.Ok) {R L R' L' : Int} (h : M.Stl R L R' L') : M.Inv R L → -8 ≤ L → M.Inv R' L' ∧ -8 ≤ L' ∧ L' ≤ L := by
  induction h with
  | stop n => exact fun i l => ⟨i, l, Int.le_refl _⟩
  | go n _ ih =>
    intro i l
    have hl := Mz.ok_lead ho n.1
    obtain ⟨a, b, c⟩ := ih (Mz.Inv.give ho n.1) (by omega)
    exact ⟨a, b, by omega⟩
theorem Mz.inv9 {M : Mz} (ho : M.Ok) : M.Inv 0 9 := by
  have h := Mz.room9 ho
  have b0 := ho.b0; have u0 := ho.u0 9; have m0 := ho.m0
  unfold Mz.Inv
  rw [Int.mul_zero]
  unfold Mz.room at h
  have h1 : 0 ≤ M.u 9 * M.m := Int.mul_nonneg (by omega) (by omega)
  have h2 := Int.mul_le_mul_of_nonneg_right (show 1 ≤ M.b by omega) h1
  omega
theorem Mz.Led.keep {M : Mz} (ho : M.Ok) {cs : List Int} {R L : Int} (h : M.Led cs R L) : (∀ c, c ∈ cs → -M.W ≤ c ∧ c ≤ M.W) → M.Inv R L ∧ -8 ≤ L ∧ L ≤ 9 + cs.length := by
  induction h with
  | nil s =>
    intro _
    obtain ⟨a, b, c⟩ := s.keep ho (Mz.inv9 ho) (by omega)
    exact ⟨a, b, by simpa using c⟩
  | more a s ih =>
    intro hc
    obtain ⟨i, l, u⟩ := ih fun c hc' => hc c (List.mem_append_left _ hc')
    obtain ⟨c0, c1⟩ := hc _ (List.mem_append_right _ (List.mem_singleton.mpr rfl))
    obtain ⟨i', l', u'⟩ := s.keep ho (Mz.Inv.read ho l i c0 c1) (by omega)
    exact ⟨i', l', by simp; omega⟩
theorem pow16 {b : Int} (b0 : 2 ≤ b) (b1 : b ≤ 16) : ∀ n : Nat, b ^ n ≤ 2 ^ (4 * n)
  | 0 => by simp
  | n + 1 => by
    rw [Int.pow_succ, show 4 * (n + 1) = 4 * n + 4 by omega, Int.pow_add]
    have h0 : 0 < b ^ n := Int.pow_pos (by omega)
    exact Int.mul_le_mul (pow16 b0 b1 n) (by rw [show (2 : Int) ^ 4 = 16 by decide]; exact b1) (by omega) (by have : (0 : Int) < 2 ^ (4 * n) := Int.pow_pos (by decide); omega)
theorem Mz.Ok.u1 {M : Mz} (ho : M.Ok) {L : Int} (l1 : L ≤ 800) : M.u L ≤ 2 ^ 3238 := by
  have b0 := ho.b0; have b1 := ho.b1
  unfold Mz.u
  have h1 : M.b ^ (L + 8).toNat ≤ 2 ^ 3232 := Int.le_trans (pow16 b0 (by omega) _) (pwR (by decide) (by omega))
  have h2 := Int.mul_le_mul (show M.v ≤ 2 ^ 6 by have := ho.v1; rw [show (2 : Int) ^ 6 = 64 by decide]; omega) h1 (by have := ho.pw (L + 8).toNat; omega) (by decide)
  rw [← Int.pow_add] at h2
  exact h2
theorem Mz.Inv.bd {M : Mz} (ho : M.Ok) {R L : Int} (I : M.Inv R L) (l1 : L ≤ 800) : R.natAbs < 2 ^ 3250 := by
  have b0 := ho.b0; have b1 := ho.b1
  unfold Mz.Inv at I
  obtain ⟨i1, i2⟩ := I
  have u0 := ho.u0 L
  have h1 : M.u L * M.m ≤ 2 ^ 3238 * 2 ^ 5 := Int.mul_le_mul (ho.u1 l1) (by have := ho.m1; rw [show (2 : Int) ^ 5 = 32 by decide]; omega) (by have := ho.m0; omega) (Int.le_of_lt (Int.pow_pos (by decide)))
  have m0 := ho.m0
  have h0 : 0 ≤ M.u L * M.m := Int.mul_nonneg (by omega) (by omega)
  have h2 : M.b * (M.u L * M.m) ≤ 2 ^ 4 * (2 ^ 3238 * 2 ^ 5) := Int.mul_le_mul (by rw [show (2 : Int) ^ 4 = 16 by decide]; omega) h1 h0 (by decide)
  have h3 : (2 : Int) ^ 4 * (2 ^ 3238 * 2 ^ 5) = 2 ^ 3247 := by rw [← Int.pow_add, ← Int.pow_add]
  rw [h3] at h2
  have w0 : 0 ≤ M.W * M.b ^ 9 := Int.mul_nonneg (by have := ho.W0; omega) (by have := ho.pw 9; omega)
  have k1 : (M.b - 1) * R ≤ 2 ^ 3247 := by omega
  have k2 : (M.b - 1) * (-R) ≤ 2 ^ 3247 := by rw [Int.mul_neg]; omega
  have k3 : R ≤ 2 ^ 3247 := by
    by_cases q : 0 ≤ R
    · have := Int.mul_le_mul_of_nonneg_right (show 1 ≤ M.b - 1 by omega) q; omega
    · have : (0 : Int) < 2 ^ 3247 := Int.pow_pos (by decide); omega
  have k4 : -R ≤ 2 ^ 3247 := by
    by_cases q : 0 ≤ -R
    · have := Int.mul_le_mul_of_nonneg_right (show 1 ≤ M.b - 1 by omega) q; omega
    · have : (0 : Int) < 2 ^ 3247 := Int.pow_pos (by decide); omega
  have k5 : (2 : Int) ^ 3247 < 2 ^ 3250 := by
    rw [show (3250 : Nat) = 3247 + 3 by rfl, Int.pow_add]
    have : (0 : Int) < 2 ^ 3247 := Int.pow_pos (by decide)
    rw [show (2 : Int) ^ 3 = 8 by decide]; omega
  have k6 : ((2 ^ 3250 : Nat) : Int) = 2 ^ 3250 := Int.natCast_pow 2 3250
  have : (R.natAbs : Int) < ((2 ^ 3250 : Nat) : Int) := by rw [k6]; omega
  exact Int.ofNat_lt.mp this
theorem Mz.Rel.bd {M : Mz} (ho : M.Ok) {r R L : Int} (hr : M.Rel r R L) (h : R.natAbs < 2 ^ 3250) : r.natAbs < 2 ^ 3250 := by
  obtain ⟨h1, h2⟩ := hr
  have b0 := ho.b0
  have e : M.b ^ 9 = M.b ^ (9 - (-L).toNat) * M.b ^ (-L).toNat := by rw [← Int.pow_add, show 9 - (-L).toNat + (-L).toNat = 9 by omega]
  rw [e, ← Int.mul_assoc] at h1
  have h3 := Int.eq_of_mul_eq_mul_right (by have := ho.pw (-L).toNat; omega) h1
  have h4 : R.natAbs = r.natAbs * (M.b ^ (9 - (-L).toNat)).natAbs := by rw [← h3, Int.natAbs_mul]
  have h5 : 1 ≤ (M.b ^ (9 - (-L).toNat)).natAbs := by have := ho.pw (9 - (-L).toNat); omega
  have := Nat.le_mul_of_pos_right r.natAbs h5
  omega
theorem Mz.stp_bd {M : Mz} (ho : M.Ok) {L : Int} (l1 : L ≤ 800) : (M.stp L).natAbs < 2 ^ 3239 := by
  have s0 := Mz.stp0 ho L
  have h1 : M.stp L ≤ 2 ^ 3238 := by
    unfold Mz.stp
    split
    · have h1 : M.b ^ (L - 1).toNat ≤ 2 ^ 3232 := Int.le_trans (pow16 ho.b0 (by have := ho.b1; omega) _) (pwR (by decide) (by omega))
      have h2 := Int.mul_le_mul (show M.v ≤ 2 ^ 6 by have := ho.v1; rw [show (2 : Int) ^ 6 = 64 by decide]; omega) h1 (by have := ho.pw (L - 1).toNat; omega) (by decide)
      rw [← Int.pow_add] at h2
      exact h2
    · have : (60 : Int) ≤ 2 ^ 3238 := Int.le_trans (show (60 : Int) ≤ 2 ^ 6 by decide) (pwR (by decide) (by decide))
      have := ho.v1; omega
  have k6 : ((2 ^ 3238 : Nat) : Int) = 2 ^ 3238 := Int.natCast_pow 2 3238
  have : ((M.stp L).natAbs : Int) ≤ ((2 ^ 3238 : Nat) : Int) := by rw [k6]; omega
  exact Nat.lt_of_le_of_lt (Int.ofNat_le.mp this) (Nat.pow_lt_pow_right (by decide) (by decide))
end Lb

/-! Games: the program's defs walked. -/
namespace Lb
open PySem PySem.Spec PyProof.Rows L2 DL
variable [CT]
local macro_rules | `(tactic| walk_at "dg5") => `(tactic| try simp only [isiG_non_dict, isiG_bl_dict, isiG_int_dict, isiG_str_dict, isiG_lst_dict, isiG_tup_dict, isiG_non_bs, isiG_bl_bs, isiG_int_bs, isiG_str_bs, isiG_lst_bs, isiG_tup_bs, dCall, dNewD, dDisp, dPrs, dkvsOf, dDGet, dDIn, dDGet1, dDGet2, dDPut, dDPop1, dDPop2, dDUpd, cLenD, cListD, cListDM, cDictD, cDictP, cSortDB, cSortL, dBack, dItKeys, dItItems, dItVals, keyOf_int, keyOf_str, dDc, dDc2, dLstR1, dLstR2, dFld, dSetFld, dFldAdd, dMeth, dMake, dMakeK, dFld2, put_tl, dSeq, dSet, dPar, dOp, dUn, dVar, dC, dCB, dCons, dNil, dTup, dLst, dLstM, dIfS, dIf, dTest, dNot, dAnd, dOr, dAndV, dOrV, dNotV, dRet, dRetN, dEnd, dNext, dAdd, dSub, dMul, dFdiv, dMod, dPow, dNeg, dLt, dLe, dGt, dGe, dEq, dNe, eqB_ii, eqB_bb, eqB_ss, eqB_nn, eqB_ni, eqB_in, eqB_ns, eqB_sn, eqB_is, eqB_si, eqB_nb, eqB_bn, dIx, dIn, dIsN, dNotN, DL.isNon, cAbs, cMax2, cMin2, cInt, cLen, cList, cTuple, dIsB, dNotB, dPar3, ForN, LcN, pinOf, pin2, dEnum2, dAppend, supd_same0, isi_non_int, isi_non_bool, isi_non_str, isi_non_list, isi_non_tuple, isi_non_lt, isi_bl_int, isi_bl_bool, isi_bl_str, isi_bl_list, isi_bl_tuple, isi_bl_lt, isi_int_int, isi_int_bool, isi_int_str, isi_int_list, isi_int_tuple, isi_int_lt, isi_str_int, isi_str_bool, isi_str_str, isi_str_list, isi_str_tuple, isi_str_lt, isi_lst_int, isi_lst_bool, isi_lst_str, isi_lst_list, isi_lst_tuple, isi_lst_lt, isi_tup_int, isi_tup_bool, isi_tup_str, isi_tup_list, isi_tup_tuple, isi_tup_lt, dAug, dIAdd, dIMul, dDrop, dSl, dPart, dNoPart, dRevL, dCallK, dChainR, dAsg, put_nm, put_tp, put_tl, putL_nil, putL_cons, Option.bind, seqOf, lstOf, dFor, dLc, dLcM, dItSeq, dZip, dZipS, dEnum, dRng1, dRng2, dYes, dwipe, Tgt.slots, Tgt.slotsL,
  atI_0, atI_1, atI_2, atI_3, List.getElem?_cons_zero, List.getElem?_cons_succ, List.set_cons_zero, List.set_cons_succ, decide_eq_true_eq, List.length_cons, List.length_nil, List.cons_append, List.nil_append, List.append_nil, ofString_inj, String.reduceEq, decide_true, decide_false, reduceIte, Bool.false_eq_true, Bool.not_true, Bool.not_false, eqFlat, isFlat, List.any_cons, List.any_nil, List.all_cons, List.all_nil, Bool.or_false, Bool.or_true, Bool.false_or, Bool.true_or, Bool.and_true, Bool.true_and, true_and, and_true, Nat.reduceAdd, Nat.reduceLeDiff, Int.reduceLT, Int.reduceLE, Int.reduceNeg])
/-- the shares and mosts of a game -/
structure SumOk (ws ms : List Int) : Prop where
  l : ws.length = ms.length
  w : ∀ w ∈ ws, w.natAbs ≤ 1000
  m0 : ∀ m ∈ ms, 0 ≤ m
  m1 : ∀ m ∈ ms, m ≤ 1000
  n : (sumsR (ws.zip ms)).length ≤ 99999
theorem fdiv_bd {x k : Int} {B : Int} (hk : 0 < k) (h1 : -B ≤ x) (h2 : x ≤ B) (hB : 0 ≤ B) : -B ≤ x.fdiv k ∧ x.fdiv k ≤ B := by
  constructor
  · rw [fdiv_lt_iff hk]
    have : B * 1 ≤ B * k := Int.mul_le_mul_of_nonneg_left (by omega) hB
    rw [Int.neg_mul]
    omega
  · by_cases c : 0 ≤ x.fdiv k
    · have := (fdiv_lt_iff (a := x) (x := x.fdiv k) hk).mp (Int.le_refl _)
      have : x.fdiv k * 1 ≤ x.fdiv k * k := Int.mul_le_mul_of_nonneg_left (by omega) c
      omega
    · omega
theorem top_mem {g : Gm} (h : g.sums ≠ []) : g.top ∈ g.sums := by
  unfold Gm.top
  rw [List.getLastD_eq_getLast?, List.getLast?_eq_some_getLast h]
  exact List.getLast_mem h
theorem addS_len (acc : List Int) (p : Int × Int) : (addS acc p).length = acc.length * (irg (-p.2) (p.2 + 1)).length := by
  unfold addS
  rw [List.length_flatMap]
  simp only [List.length_map]
  induction acc with
  | nil => simp
  | cons a l ih => simp only [List.map_cons, List.sum_cons, ih, List.length_cons]; rw [Nat.add_mul, Nat.one_mul, Nat.add_comm]
/-- the keys of a dict are just those with M, at most n -/
def KS (acc : List (Key × D)) (M : Int → Prop) (n : Nat) : Prop := ∃ ks : List Int, acc.map (·.1) = ks.map Sum.inl ∧ ks.Nodup ∧ (∀ x, x ∈ ks ↔ M x) ∧ acc.length ≤ n
theorem KS.put {acc : List (Key × D)} {M : Int → Prop} {n : Nat} (h : KS acc M n) (v : Int) (d : D) : KS (dPut acc (.inl v) d) (fun x => M x ∨ x = v) (n + 1) := by
  obtain ⟨ks, h1, h2, h3, h4⟩ := h
  have hl := dPut_len acc (.inl v) d
  by_cases c : v ∈ ks
  · refine ⟨ks, ?_, h2, fun x => ?_, by omega⟩
    · rw [dPut_keys, h1, if_pos (inl_mem.mpr c)]
    · rw [h3]
      exact ⟨.inl, fun z => z.elim id fun e => e ▸ (h3 v).mp c⟩
  · refine ⟨ks ++ [v], ?_, ?_, fun x => ?_, by omega⟩
    · rw [dPut_keys, h1, if_neg fun z => c (inl_mem.mp z), List.map_append]; rfl
    · rw [List.nodup_append]
      exact ⟨h2, by simp, fun a ha b hb => by
        simp at hb
        subst hb
        intro e
        subst e
        exact c ha⟩
    · rw [List.mem_append, h3]
      simp
theorem KS.congr {acc : List (Key × D)} {M M' : Int → Prop} {n m : Nat} (h : KS acc M n) (e : ∀ x, M x ↔ M' x) (hn : n ≤ m) : KS acc M' m := by
  obtain ⟨ks, h1, h2, h3, h4⟩ := h
  exact ⟨ks, h1, h2, fun x => (h3 x).trans (e x), by omega⟩
/-! ### the least lag -/
def gmAt (b over most : Int) (sums : List Int) (L : Nat) : Gm := ⟨b, most, over * b ^ L, sums⟩
def ruK (g : Gm) : List (Key × D) := [(.inr "root", .int g.b), (.inr "step", .int g.st), (.inr "sums", .lst (g.sums.map .int)), (.inr "all", .int g.top), (.inr "wide", .int g.w)]
def RuAt (S : Store) (q : Addr) (g : Gm) : Prop := dctOf S (.obj q) = some (ruK g)
/-- few enough sums to be sorted as a set -/
structure SumFew (ws ms : List Int) : Prop where
  ok : SumOk ws ms
  t : topR (ws.zip ms) ≤ 31
  m : ∀ m ∈ ms, m ≤ 31
/-- a game by draws of these laws -/
structure Drawn (b over most : Int) (ws ms : List Int) : Prop where
  b0 : 2 ≤ b
  b1 : b ≤ 5
  o0 : 1 ≤ over
  o1 : over ≤ 5
  l : ws.length = ms.length
  n : ws.length = 1 ∨ ws.length = 2
  w : ∀ w ∈ ws, w.natAbs ≤ 3
  m0 : ∀ m ∈ ms, 1 ≤ m
  m1 : ∀ m ∈ ms, m ≤ 4
  m2 : ∀ m ∈ ms, m ≤ (b + 1) / 2 + 1
  t0 : (b + 1) / 2 ≤ most
  t1 : most ≤ (b + 1) / 2 + 2
theorem few_len {l ys : List Int} {T : Int} (hT : T ≤ 31) (h : ∀ x ∈ l, -T ≤ x ∧ x ≤ T) (nd : ys.Nodup) (hs : ∀ k ∈ ys, k ∈ l) : ys.length < 64 := by
  have := nd_sub_len (l := irg (-31) 32) nd fun k hk => by
    have := h k (hs k hk)
    exact mem_irg.mpr (by omega)
  rw [irg_len] at this
  have e : ((32 : Int) - -31).toNat = 63 := rfl
  omega
theorem RuAt.some {S : Store} {q : Addr} {g : Gm} (h : RuAt S q g) : ∃ m, S q = Option.some m := by
  unfold RuAt dctOf at h
  cases e : S q with
  | none => simp [e] at h
  | some m => exact ⟨m, rfl⟩
theorem Drawn.cases {b over most : Int} {ws ms : List Int} (h : Drawn b over most ws ms) : (∃ w m, ws = [w] ∧ ms = [m]) ∨ ∃ w v m l, ws = [w, v] ∧ ms = [m, l] := by
  have hl := h.l
  rcases h.n with e | e
  · obtain ⟨w, rfl⟩ := List.length_eq_one_iff.mp e
    obtain ⟨m, rfl⟩ := List.length_eq_one_iff.mp (by rw [← hl]; exact e)
    exact .inl ⟨w, m, rfl, rfl⟩
  · have two : ∀ xs : List Int, xs.length = 2 → ∃ a b, xs = [a, b] := fun xs hx => by
      match xs, hx with
      | [a, b], _ => exact ⟨a, b, rfl⟩
    obtain ⟨w, v, rfl⟩ := two ws e
    obtain ⟨m, l, rfl⟩ := two ms (by rw [← hl]; exact e)
    exact .inr ⟨w, v, m, l, rfl, rfl⟩
theorem prod12 {w m : Int} (hw : w.natAbs ≤ 3) (h0 : 1 ≤ m) (h1 : m ≤ 4) : 0 ≤ (w.natAbs : Int) * m ∧ (w.natAbs : Int) * m ≤ 12 := by
  have : (w.natAbs : Int) * m ≤ 3 * 4 := Int.mul_le_mul (by omega) h1 (by omega) (by omega)
  have : 0 ≤ (w.natAbs : Int) * m := Int.mul_nonneg (by omega) (by omega)
  omega
theorem Drawn.top {b over most : Int} {ws ms : List Int} (h : Drawn b over most ws ms) : topR (ws.zip ms) ≤ 24 := by
  rcases h.cases with ⟨w, m, rfl, rfl⟩ | ⟨w, v, m, l, rfl, rfl⟩
  · have := prod12 (h.w w (by simp)) (h.m0 m (by simp)) (h.m1 m (by simp))
    simp only [topR, addT, List.zip_cons_cons, List.zip_nil_right, List.foldl_cons, List.foldl_nil]
    omega
  · have := prod12 (h.w w (by simp)) (h.m0 m (by simp)) (h.m1 m (by simp))
    have := prod12 (h.w v (by simp)) (h.m0 l (by simp)) (h.m1 l (by simp))
    simp only [topR, addT, List.zip_cons_cons, List.zip_nil_right, List.foldl_cons, List.foldl_nil]
    omega
theorem Drawn.len {b over most : Int} {ws ms : List Int} (h : Drawn b over most ws ms) : (sumsR (ws.zip ms)).length ≤ 81 := by
  have one : ∀ m : Int, 1 ≤ m → m ≤ 4 → (irg (-m) (m + 1)).length ≤ 9 := fun m h0 h1 => by rw [irg_len]; omega
  rcases h.cases with ⟨w, m, rfl, rfl⟩ | ⟨w, v, m, l, rfl, rfl⟩
  · have := one m (h.m0 m (by simp)) (h.m1 m (by simp))
    simp only [sumsR, List.zip_cons_cons, List.zip_nil_right, List.foldl_cons, List.foldl_nil, addS_len, List.length_cons, List.length_nil]
    omega
  · have h1 := one m (h.m0 m (by simp)) (h.m1 m (by simp))
    have h2 := one l (h.m0 l (by simp)) (h.m1 l (by simp))
    simp only [sumsR, List.zip_cons_cons, List.zip_nil_right, List.foldl_cons, List.foldl_nil, addS_len, List.length_cons, List.length_nil]
    have := Nat.mul_le_mul h1 h2
    rw [Nat.zero_add, Nat.one_mul]
    omega
theorem Drawn.few {b over most : Int} {ws ms : List Int} (h : Drawn b over most ws ms) : SumFew ws ms :=
  ⟨⟨h.l, fun w hw => by have := h.w w hw; omega, fun m hm => by have := h.m0 m hm; omega, fun m hm => by have := h.m1 m hm; omega, by have := h.len; omega⟩, by have := h.top; omega, fun m hm => by have := h.m1 m hm; omega⟩
/-- the sums there are -/
theorem Drawn.sums {b over most : Int} {ws ms : List Int} (h : Drawn b over most ws ms) : ∃ ys, Srt (sumsR (ws.zip ms)) ys := by
  refine ⟨(irg (-24) 25).filter fun x => decide (x ∈ sumsR (ws.zip ms)), (irg_lt _ _).filter _, fun k => ?_⟩
  rw [List.mem_filter, mem_irg, decide_eq_true_eq]
  refine ⟨fun z => z.2, fun z => ⟨?_, z⟩⟩
  have := sumsR_bound k z
  have := h.top
  omega
structure SumsOf (ws ms ys : List Int) : Prop where
  srt : Srt (sumsR (ws.zip ms)) ys
  ne : ys ≠ []
  len : ys.length < 64
  bd : ∀ x ∈ ys, x.natAbs ≤ 31
theorem Drawn.of {b over most : Int} {ws ms ys : List Int} (h : Drawn b over most ws ms) (hy : Srt (sumsR (ws.zip ms)) ys) : SumsOf ws ms ys := by
  have bd : ∀ x ∈ sumsR (ws.zip ms), -24 ≤ x ∧ x ≤ 24 := fun x hx => by
    have := sumsR_bound x hx
    have := h.top
    omega
  refine ⟨hy, ?_, few_len (T := 24) (by omega) bd (nd_lt hy.lt) fun k hk => (hy.mem k).mp hk, fun x hx => by have := bd x ((hy.mem x).mp hx); omega⟩
  intro z
  have : (0 : Int) ∈ ys := (hy.mem 0).mpr (zero_sumsR fun p hp => by have := h.m0 _ (List.of_mem_zip hp).2; omega)
  rw [z] at this
  simp at this
theorem pow_small {b : Int} {L : Nat} (h0 : 2 ≤ b) (h1 : b ≤ 5) (hL : L ≤ 2) : 1 ≤ b ^ L ∧ b ^ L ≤ 25 := by
  have hb : b = 2 ∨ b = 3 ∨ b = 4 ∨ b = 5 := by omega
  have hl : L = 0 ∨ L = 1 ∨ L = 2 := by omega
  rcases hb with rfl | rfl | rfl | rfl <;> rcases hl with rfl | rfl | rfl <;> decide
theorem Drawn.gm {b over most : Int} {ws ms ys : List Int} (h : Drawn b over most ws ms) (hy : SumsOf ws ms ys) {L : Nat} (hL : L ≤ 2) : GmOk (gmAt b over most ys L) ∧ (gmAt b over most ys L).rests.length * ys.length ≤ 99999 := by
  have hp := pow_small h.b0 h.b1 hL
  have b0 := h.b0; have b1 := h.b1; have o0 := h.o0; have o1 := h.o1; have t0 := h.t0; have t1 := h.t1
  have st : 1 ≤ over * b ^ L ∧ over * b ^ L ≤ 125 := by
    have : over * b ^ L ≤ 5 * 25 := Int.mul_le_mul o1 hp.2 (by omega) (by omega)
    have : 1 * 1 ≤ over * b ^ L := Int.mul_le_mul o0 hp.1 (by omega) (by omega)
    omega
  have sw : 0 ≤ over * b ^ L * most ∧ over * b ^ L * most ≤ 625 := by
    have : over * b ^ L * most ≤ 125 * 5 := Int.mul_le_mul st.2 (by omega) (by omega) (by omega)
    have : 0 ≤ over * b ^ L * most := Int.mul_nonneg (by omega) (by omega)
    omega
  have tp : ((gmAt b over most ys L).top).natAbs ≤ 31 := hy.bd _ (top_mem (g := gmAt b over most ys L) hy.ne)
  have gr : (gmAt b over most ys L).gr ≤ 656 := by
    have := fdiv_bd (x := over * b ^ L * most - (gmAt b over most ys L).top) (k := b - 1) (B := 656) (by omega) (by omega) (by omega) (by omega)
    exact this.2
  refine ⟨⟨b0, by show b ≤ 16; omega, by show 0 ≤ most; omega, by show most ≤ 1000; omega, by show 0 < over * b ^ L; omega, by show over * b ^ L < 2 ^ 40; omega, hy.ne, by show ys.length ≤ 2000; have := hy.len; omega, fun s hs => by have := hy.bd s hs; omega, by omega⟩, ?_⟩
  have hr : (gmAt b over most ys L).rests.length ≤ 1313 := by
    unfold Gm.rests
    rw [irg_len]; omega
  have := Nat.mul_le_mul hr (show ys.length ≤ 63 by have := hy.len; omega)
  omega
/-- a game in order -/
structure Fit (b over most : Int) (ws ms ys : List Int) (L : Nat) : Prop where
  ok : SumOk ws ms
  srt : Srt (sumsR (ws.zip ms)) ys
  gm : GmOk (gmAt b over most ys L)
  few : (gmAt b over most ys L).rests.length * ys.length ≤ 99999
  o0 : 0 < over
  o1 : over < 2 ^ 60
  lag : L ≤ 900
end Lb

namespace Lb
open PySem PySem.Spec PyProof.Rows L2 DL
local macro_rules | `(tactic| walk_at "dgo") => `(tactic| try simp only [dSeq, dSet, dPar, dOp, dUn, dVar, dC, dCB, dCons, dNil, dTup, dLst, dLstM, dIfS, dIf, dTest, dNot, dAnd, dOr, dAndV, dOrV, dNotV, dRet, dRetN, dEnd, dNext, dAdd, dSub, dMul, dFdiv, dMod, dPow, dNeg, dLt, dLe, dGt, dGe, dEq, dNe, eqB_ii, eqB_bb, eqB_ss, eqB_nn, eqB_ni, eqB_in, eqB_ns, eqB_sn, eqB_is, eqB_si, eqB_nb, eqB_bn, dIx, dIn, dIsN, dNotN, DL.isNon, cAbs, cMax2, cMin2, cInt, cLen, cList, cTuple, dIsB, dNotB, dPar3, ForN, LcN, pinOf, pin2, dEnum2, dAppend, supd_same0, isi_non_int, isi_non_bool, isi_non_str, isi_non_list, isi_non_tuple, isi_non_lt, isi_bl_int, isi_bl_bool, isi_bl_str, isi_bl_list, isi_bl_tuple, isi_bl_lt, isi_int_int, isi_int_bool, isi_int_str, isi_int_list, isi_int_tuple, isi_int_lt, isi_str_int, isi_str_bool, isi_str_str, isi_str_list, isi_str_tuple, isi_str_lt, isi_lst_int, isi_lst_bool, isi_lst_str, isi_lst_list, isi_lst_tuple, isi_lst_lt, isi_tup_int, isi_tup_bool, isi_tup_str, isi_tup_list, isi_tup_tuple, isi_tup_lt, dAug, dIAdd, dIMul, dDrop, dSl, dPart, dNoPart, dRevL, dCallK, dChainR, dAsg, put_nm, put_tp, put_tl, putL_nil, putL_cons, Option.bind, seqOf, lstOf, dFor, dLc, dLcM, dItSeq, dZip, dZipS, dEnum, dRng1, dRng2, dYes, dwipe, Tgt.slots, Tgt.slotsL,
  atI_0, atI_1, atI_2, atI_3, List.getElem?_cons_zero, List.getElem?_cons_succ, List.set_cons_zero, List.set_cons_succ, decide_eq_true_eq, List.length_cons, List.length_nil, List.cons_append, List.nil_append, List.append_nil, ofString_inj, String.reduceEq, decide_true, decide_false, reduceIte, Bool.false_eq_true, Bool.not_true, Bool.not_false, eqFlat, isFlat, List.any_cons, List.any_nil, List.all_cons, List.all_nil, Bool.or_false, Bool.or_true, Bool.false_or, Bool.true_or, Bool.and_true, Bool.true_and, true_and, and_true, Nat.reduceAdd, Nat.reduceLeDiff, Int.reduceLT, Int.reduceLE, Int.reduceNeg])
theorem BoxAt.other {S : Store} {p q : Addr} {n : Nat} {m : MO} (h : BoxAt S p n) (hq : p ≠ q) : BoxAt (supd S q m) p n := by
  obtain ⟨a, s, t, e, h⟩ := h
  exact ⟨a, s, t, by rw [supd_ne hq]; exact e, h⟩
theorem BoxAt.ne {S : Store} {p q : Addr} {n : Nat} (h : BoxAt S p n) (hq : S q = none) : p ≠ q := by
  obtain ⟨a, s, t, e, h⟩ := h
  intro z; rw [z, hq] at e; cases e
/-! ### what is a row -/
def isNumB : D → Bool
  | .int _ => true
  | _ => false
def sp_is_number : DSp := fun ds S P => ∃ (n : Nat) (x : D), ds = [x] ∧ Plain n x ∧ P (.bl (isNumB x)) S
def rd_is_number : DS :=
  (dRet (dAndV (dCB cIsi (dCons (dVar 0) (dCons (dC (.ty "int")) dNil))) (dNotV (dCB cIsi (dCons (dVar 0) (dCons (dC (.ty "bool")) dNil))))))
def goal_is_number : Prop := ∀ (x0 : D) (S : Store) (P : D → Store → Prop), sp_is_number [x0] S P → rd_is_number (dEnd P) [some x0] S
theorem len_is_number : ∀ ds S P, sp_is_number ds S P → ds.length = 1 := by
  rintro ds S P ⟨a, b, rfl, _⟩; rfl
theorem vc_is_number : goal_is_number := by
  rintro x0 S P ⟨n, x, e, hp, h⟩
  cases e
  unfold rd_is_number
  cases hp <;> (walk_at "dgo"; exact h)
theorem all_bools {t : Tgt} {de : DE} {P : D → Store → Prop} {ds : List D} (F : D → Bool) {ρ : DSt} {S : Store} (hl : ds.length ≤ 100000)
    (h : ∀ d, d ∈ ds → ∃ ρ', t.put d (dwipe ρ t.slots) = some ρ' ∧ ∀ Q : D → Store → Prop, Q (.bl (F d)) S → de ρ' S Q) (q : P (.bl (ds.all F)) S) : LcB t dYes de (fun x S1 => cAll [x] S1 P) ds ρ S := by
  have e0 : ds = ds.map id := (List.map_id ds).symm
  rw [e0]
  refine lc_mapA id (fun d => .bl (F d)) hl h ?_
  unfold cAll
  simp only [lstOf, Option.bind]
  rw [dBools_mapF]
  have e2 : (ds.map F).all id = ds.all F := by rw [List.all_map]; rfl
  simp only [e2]
  exact q
/-! ### the law's own, other names, other ways -/
def sp_Lsum : DSp := sp_plus
def rd_Lsum : DS :=
  (dRet (dCB sp_Lfrac (dCons (dOp dAdd (dOp dMul (dOp dIx (dVar 0) (dC (.int 0))) (dOp dIx (dVar 1) (dC (.int 1)))) (dOp dMul (dOp dIx (dVar 1) (dC (.int 0))) (dOp dIx (dVar 0) (dC (.int 1))))) (dCons (dOp dMul (dOp dIx (dVar 0) (dC (.int 1))) (dOp dIx (dVar 1) (dC (.int 1)))) dNil))))
def goal_Lsum : Prop := ∀ (x0 x1 : D) (S : Store) (P : D → Store → Prop), sp_Lsum [x0, x1] S P → rd_Lsum (dEnd P) [some x0, some x1] S
theorem len_Lsum : ∀ ds S P, sp_Lsum ds S P → ds.length = 2 := len_plus
theorem vc_Lsum : goal_Lsum := vc_plus
/-! ### what rows may come to -/
def whole (b : Int) (fs : List Int) : Int := fs.foldl (fun a f => a * b + f) 0
def Rw.pw (b : Int) (r : Rw) : Rat := (b : Rat) ^ (r.e - (r.fs.length : Int))
def Rw.worth (b : Int) (r : Rw) : Rat := ((whole b r.fs : Int) : Rat) * r.pw b
def Rw.tail (b : Int) (r : Rw) : Rat := (r.m : Rat) / ((b - 1 : Int) : Rat) * r.pw b
def Rw.lo (b : Int) (r : Rw) : Rat := r.worth b - r.tail b
def Rw.hi (b : Int) (r : Rw) : Rat := r.worth b + r.tail b
def Rw.cut (r : Rw) (k : Int) : Rw := ⟨r.e, r.m, r.fs.take (k + r.e).toNat⟩
structure Rw.Ok (b : Int) (r : Rw) : Prop where
  b0 : 2 ≤ b
  b1 : b ≤ 16
  e0 : -40 ≤ r.e
  e1 : r.e ≤ 40
  m0 : 0 ≤ r.m
  m1 : r.m ≤ 1000
  l : r.fs.length ≤ 80
  f : ∀ f, f ∈ r.fs → f.natAbs ≤ 1000
theorem Rw.Drawn.ok {b : Int} {r : Rw} (h : r.Drawn b) (b0 : 2 ≤ b) (b1 : b ≤ 16) : r.Ok b :=
  ⟨b0, b1, by have := h.e0; omega, by have := h.e1; omega, by have := h.m0; omega, by have := h.m1; omega, by have := h.l; omega, fun f hf => by have := h.f f hf; have := h.m1; omega⟩
theorem fold_bound {b : Int} (b0 : 2 ≤ b) (b1 : b ≤ 16) : ∀ (fs : List Int) (a : Int), (∀ f, f ∈ fs → f.natAbs ≤ 1000) → (fs.foldl (fun a f => a * b + f) a).natAbs + 1000 ≤ (a.natAbs + 1000) * 16 ^ fs.length
  | [], a, _ => by simp
  | f :: fs, a, h => by
    have ih := fold_bound b0 b1 fs (a * b + f) (fun z hz => h z (by simp [hz]))
    have h1 := h f (by simp)
    have h2 : (a * b).natAbs ≤ a.natAbs * 16 := by
      rw [Int.natAbs_mul]
      exact Nat.mul_le_mul_left _ (by omega)
    have h3 : (a * b + f).natAbs + 1000 ≤ (a.natAbs + 1000) * 16 := by
      have := Int.natAbs_add_le (a * b) f
      omega
    rw [List.foldl_cons, List.length_cons, Nat.pow_succ]
    refine Nat.le_trans ih (Nat.le_trans (Nat.mul_le_mul_right _ h3) ?_)
    rw [Nat.mul_assoc, Nat.mul_comm 16]
    exact Nat.le_refl _
section
variable {b : Int} {r : Rw}
theorem Rw.Ok.whole (h : r.Ok b) : (whole b r.fs).natAbs < 2 ^ 331 := by
  have h1 := fold_bound h.b0 h.b1 r.fs 0 h.f
  have h2 : (16 : Nat) ^ r.fs.length ≤ 16 ^ 80 := Nat.pow_le_pow_right (by decide) h.l
  have h3 : (1000 : Nat) * 16 ^ 80 < 2 ^ 331 := by decide
  unfold Lb.whole
  have h4 := Nat.mul_le_mul_left 1000 h2
  simp only [Int.natAbs_zero, Nat.zero_add] at h1
  generalize (16 : Nat) ^ r.fs.length = x at *
  generalize (16 : Nat) ^ 80 = y at *
  generalize (2 : Nat) ^ 331 = z at *
  omega
theorem Rw.Ok.pw (h : r.Ok b) : Sz 481 (r.pw b) := (sz_zpow (k := r.e - (r.fs.length : Int)) (by have := h.b0; omega) (by have := h.b1; omega)).mono (by
  have := h.e0; have := h.e1; have := h.l; omega)
theorem Rw.Ok.bp (h : r.Ok b) : (0 : Rat) < (b : Rat) := ratpos (by have := h.b0; omega)
theorem Rw.Ok.pwp (h : r.Ok b) : 0 < r.pw b := Rat.zpow_pos h.bp
theorem Rw.Ok.cne (h : r.Ok b) : (b - 1 : Int) ≠ 0 := by have := h.b0; omega
theorem Rw.Ok.cp (h : r.Ok b) : (0 : Rat) < ((b - 1 : Int) : Rat) := ratpos (by have := h.b0; omega)
theorem Rw.Ok.worth (h : r.Ok b) : Sz 820 (r.worth b) := (sz_mul (sz_int h.whole) h.pw).mono (by decide)
theorem Rw.Ok.fr (h : r.Ok b) : Sz 11 ((r.m : Rat) / ((b - 1 : Int) : Rat)) := sz_frac h.cne (by have := h.m0; have := h.m1; omega) (by have := h.b0; have := h.b1; omega)
theorem Rw.Ok.tail (h : r.Ok b) : Sz 500 (r.tail b) := (sz_mul h.fr h.pw).mono (by decide)
theorem Rw.Ok.lo (h : r.Ok b) : Sz 1330 (r.lo b) := (sz_sub h.worth h.tail).mono (by decide)
theorem Rw.Ok.hi (h : r.Ok b) : Sz 1330 (r.hi b) := (sz_add h.worth h.tail).mono (by decide)
theorem Rw.Ok.cut (h : r.Ok b) (k : Int) : (r.cut k).Ok b := ⟨h.b0, h.b1, h.e0, h.e1, h.m0, h.m1, by
  have := h.l
  show (r.fs.take _).length ≤ 80
  rw [List.length_take]; omega, fun f hf => h.f f (List.mem_of_mem_take hf)⟩
end
def spanD (b : Int) (r : Rw) : D := .tup [encR (r.lo b), encR (r.hi b)]
/-! ### one figure more -/
def Rw.snoc (r : Rw) (f : Int) : Rw := ⟨r.e, r.m, r.fs ++ [f]⟩
theorem whole_snoc (b : Int) (fs : List Int) (f : Int) : whole b (fs ++ [f]) = whole b fs * b + f := by unfold whole; simp
/-- the next place's power -/
def Rw.nx (b : Int) (r : Rw) : Rat := (b : Rat) ^ (r.e - (r.fs.length : Int) - 1)
section
variable {b : Int} {r : Rw}
theorem Rw.snoc_pw (r : Rw) (f : Int) : (r.snoc f).pw b = r.nx b := by
  unfold Rw.pw Rw.nx Rw.snoc
  simp only [List.length_append, List.length_cons, List.length_nil]
  congr 1; omega
theorem Rw.pw_nx (h : b ≠ 0) : r.pw b = r.nx b * (b : Rat) := by
  unfold Rw.pw Rw.nx
  have hb : (b : Rat) ≠ 0 := by exact_mod_cast h
  rw [← Rat.zpow_add_one hb]
  congr 1; omega
theorem Rw.snoc_worth (h : b ≠ 0) (f : Int) : (r.snoc f).worth b = r.worth b + (f : Rat) * r.nx b := by
  unfold Rw.worth
  rw [Rw.snoc_pw, Rw.pw_nx h]
  show ((whole b (r.fs ++ [f]) : Int) : Rat) * _ = _
  rw [whole_snoc, Rat.intCast_add, Rat.intCast_mul]
  grind
theorem Rw.snoc_tail (f : Int) : (r.snoc f).tail b = (r.m : Rat) / ((b - 1 : Int) : Rat) * r.nx b := by
  unfold Rw.tail
  rw [Rw.snoc_pw]; rfl
theorem cast_sub1 (b : Int) : ((b - 1 : Int) : Rat) = (b : Rat) - 1 := by
  rw [Rat.intCast_sub]; rfl
/-- the tail is what the next figure at its greatest and its tail are -/
theorem Rw.tail_nx (h : 2 ≤ b) : r.tail b = (r.m : Rat) * r.nx b + (r.m : Rat) / ((b - 1 : Int) : Rat) * r.nx b := by
  unfold Rw.tail
  rw [Rw.pw_nx (by omega), cast_sub1]
  have hb : (b : Rat) - 1 ≠ 0 := by
    have := ratpos (b := b - 1) (by omega)
    rw [cast_sub1] at this
    grind
  generalize r.nx b = u
  generalize (r.m : Rat) = m
  generalize (b : Rat) = c at *
  grind
theorem Rw.Ok.snoc (h : r.Ok b) (hl : r.fs.length ≤ 79) {f : Int} (hf : f.natAbs ≤ 1000) : (r.snoc f).Ok b :=
  ⟨h.b0, h.b1, h.e0, h.e1, h.m0, h.m1, by show (r.fs ++ [f]).length ≤ 80; simp; omega, fun z hz => by
    rcases List.mem_append.mp hz with hz | hz
    · exact h.f z hz
    · simp only [List.mem_singleton] at hz
      subst hz; exact hf⟩
/-- the ends of the next figure f's span -/
theorem Rw.snoc_lo (h : 2 ≤ b) (f : Int) : (r.snoc f).lo b = r.worth b + (f : Rat) * r.nx b - (r.m : Rat) / ((b - 1 : Int) : Rat) * r.nx b := by
  unfold Rw.lo; rw [Rw.snoc_worth (by omega), Rw.snoc_tail]
theorem Rw.snoc_hi (h : 2 ≤ b) (f : Int) : (r.snoc f).hi b = r.worth b + (f : Rat) * r.nx b + (r.m : Rat) / ((b - 1 : Int) : Rat) * r.nx b := by
  unfold Rw.hi; rw [Rw.snoc_worth (by omega), Rw.snoc_tail]
end
/-! ### items and lengths of what is known, one rule each -/
theorem g_ix_tup {ds : List D} {i : Int} {S : Store} {P : D → Store → Prop} : dIx (.tup ds) (.int i) S P = (match atI ds i with | some d => P d S | none => False) := rfl
theorem g_ix_lst {ds : List D} {i : Int} {S : Store} {P : D → Store → Prop} : dIx (.lst ds) (.int i) S P = (match atI ds i with | some d => P d S | none => False) := rfl
theorem g_ix_ext {ds : List D} {i : Int} {S : Store} {P : D → Store → Prop} : dIx (.ext ds) (.int i) S P = (match atI ds i with | some d => P d S | none => False) := rfl
theorem g_ln_tup {ds : List D} {S : Store} {P : D → Store → Prop} : cLen [.tup ds] S P = P (.int ds.length) S := rfl
theorem g_ln_lst {ds : List D} {S : Store} {P : D → Store → Prop} : cLen [.lst ds] S P = P (.int ds.length) S := rfl
theorem g_ln_ext {ds : List D} {S : Store} {P : D → Store → Prop} : cLen [.ext ds] S P = P (.int ds.length) S := rfl
theorem g_nn_non {S : Store} {P : D → Store → Prop} : dNotN .non .non S P = P (.bl false) S := rfl
theorem g_nn_int {i : Int} {S : Store} {P : D → Store → Prop} : dNotN (.int i) .non S P = P (.bl true) S := rfl
theorem g_nn_tup {ds : List D} {S : Store} {P : D → Store → Prop} : dNotN (.tup ds) .non S P = P (.bl true) S := rfl
theorem g_in_non {S : Store} {P : D → Store → Prop} : dIsN .non .non S P = P (.bl true) S := rfl
theorem g_in_int {i : Int} {S : Store} {P : D → Store → Prop} : dIsN (.int i) .non S P = P (.bl false) S := rfl
theorem g_in_tup {ds : List D} {S : Store} {P : D → Store → Prop} : dIsN (.tup ds) .non S P = P (.bl false) S := rfl
theorem g_ix_row0 {r : Rw} {S : Store} {P : D → Store → Prop} : dIx r.d (.int 0) S P = P (.int r.e) S := rfl
theorem g_ix_row1 {r : Rw} {S : Store} {P : D → Store → Prop} : dIx r.d (.int 1) S P = P (.int r.m) S := rfl
theorem g_ix_row2 {r : Rw} {S : Store} {P : D → Store → Prop} : dIx r.d (.int 2) S P = P (.tup (r.fs.map .int)) S := rfl
theorem g_ix_span0 {b : Int} {r : Rw} {S : Store} {P : D → Store → Prop} : dIx (spanD b r) (.int 0) S P = P (encR (r.lo b)) S := rfl
theorem g_ix_span1 {b : Int} {r : Rw} {S : Store} {P : D → Store → Prop} : dIx (spanD b r) (.int 1) S P = P (encR (r.hi b)) S := rfl
theorem g_nn_span {b : Int} {r : Rw} {S : Store} {P : D → Store → Prop} : dNotN (spanD b r) .non S P = P (.bl true) S := rfl
theorem g_nn_encR {q : Rat} {S : Store} {P : D → Store → Prop} : dNotN (encR q) .non S P = P (.bl true) S := rfl
theorem g_in_span {b : Int} {r : Rw} {S : Store} {P : D → Store → Prop} : dIsN (spanD b r) .non S P = P (.bl false) S := rfl
theorem g_put_row {ts : List Tgt} {r : Rw} {ρ : DSt} : Tgt.put (.tp ts) r.d ρ = Tgt.putL ts [.int r.e, .int r.m, .tup (r.fs.map .int)] ρ := by unfold Rw.d; exact put_tp
theorem g_put_span {ts : List Tgt} {b : Int} {r : Rw} {ρ : DSt} : Tgt.put (.tp ts) (spanD b r) ρ = Tgt.putL ts [encR (r.lo b), encR (r.hi b)] ρ := by unfold spanD; exact put_tp
local macro_rules | `(tactic| walk_at "dg2") => `(tactic| try simp only [dSeq, dSet, dPar, dOp, dUn, dVar, dC, dCB, dCons, dNil, dTup, dLst, dLstM, dIfS, dIf, dTest, dNot, dAnd, dOr, dAndV, dOrV, dNotV, dRet, dRetN, dEnd, dNext, dAdd, dSub, dMul, dFdiv, dMod, dPow, dNeg, dLt, dLe, dGt, dGe, dEq, dNe, eqB_ii, eqB_bb, eqB_ss, eqB_nn, eqB_ni, eqB_in, eqB_ns, eqB_sn, eqB_is, eqB_si, eqB_nb, eqB_bn, dIn, g_ix_tup, g_ix_lst, g_ix_ext, g_ln_tup, g_ln_lst, g_ln_ext, g_nn_non, g_nn_int, g_nn_tup, g_in_non, g_in_int, g_in_tup, g_ix_row0, g_ix_row1, g_ix_row2, g_ix_span0, g_ix_span1, g_nn_span, g_nn_encR, g_in_span, cAbs, cMax2, cMin2, cInt, cList, cTuple, dIsB, dNotB, dPar3, ForN, LcN, pinOf, pin2, dEnum2, dAppend, supd_same0, isi_non_int, isi_non_bool, isi_non_str, isi_non_list, isi_non_tuple, isi_non_lt, isi_bl_int, isi_bl_bool, isi_bl_str, isi_bl_list, isi_bl_tuple, isi_bl_lt, isi_int_int, isi_int_bool, isi_int_str, isi_int_list, isi_int_tuple, isi_int_lt, isi_str_int, isi_str_bool, isi_str_str, isi_str_list, isi_str_tuple, isi_str_lt, isi_lst_int, isi_lst_bool, isi_lst_str, isi_lst_list, isi_lst_tuple, isi_lst_lt, isi_tup_int, isi_tup_bool, isi_tup_str, isi_tup_list, isi_tup_tuple, isi_tup_lt, dAug, dIAdd, dIMul, dDrop, dSl, dPart, dNoPart, dRevL, dCallK, dChainR, dAsg, put_nm, put_tp, put_tl, g_put_row, g_put_span, putL_nil, putL_cons, Option.bind, seqOf, lstOf, dFor, dLc, dLcM, dItSeq, dZip, dZipS, dEnum, dRng1, dRng2, dYes, dwipe, Tgt.slots, Tgt.slotsL,
  atI_0, atI_1, atI_2, atI_3, List.getElem?_cons_zero, List.getElem?_cons_succ, List.set_cons_zero, List.set_cons_succ, decide_eq_true_eq, List.length_cons, List.length_nil, List.cons_append, List.nil_append, List.append_nil, ofString_inj, String.reduceEq, decide_true, decide_false, reduceIte, Bool.false_eq_true, Bool.not_true, Bool.not_false, eqFlat, isFlat, List.any_cons, List.any_nil, List.all_cons, List.all_nil, Bool.or_false, Bool.or_true, Bool.false_or, Bool.true_or, Bool.and_true, Bool.true_and, true_and, and_true, Nat.reduceAdd, Nat.reduceLeDiff, Int.reduceLT, Int.reduceLE, Int.reduceNeg])
/-! ### standing for a number, order, being told apart -/
def Rw.Has (b : Int) (r : Rw) (q : Rat) : Prop := r.lo b ≤ q ∧ q ≤ r.hi b
instance (b : Int) (r : Rw) (q : Rat) : Decidable (r.Has b q) := inferInstanceAs (Decidable (_ ∧ _))
/-- their spans touch -/
def Meet (b : Int) (r s : Rw) : Prop := r.lo b ≤ s.hi b ∧ s.lo b ≤ r.hi b
/-! ### == of plain data without texts -/
inductive Pi : Nat → D → Prop
  | non {n} : Pi n .non
  | bl {n b} : Pi n (.bl b)
  | int {n i} : Pi n (.int i)
  | lst {n ds} (h : ∀ y, y ∈ ds → Pi n y) : Pi (n + 1) (.lst ds)
  | tup {n ds} (h : ∀ y, y ∈ ds → Pi n y) : Pi (n + 1) (.tup ds)
theorem Pi.mono {n : Nat} {x : D} (h : Pi n x) : ∀ {m : Nat}, n ≤ m → Pi m x := by
  induction h with
  | non => intro m _; exact .non
  | bl => intro m _; exact .bl
  | int => intro m _; exact .int
  | lst h ih => intro m hm; cases m with
    | zero => omega
    | succ m => exact .lst fun y hy => ih y hy (by omega)
  | tup h ih => intro m hm; cases m with
    | zero => omega
    | succ m => exact .tup fun y hy => ih y hy (by omega)
/-- its Python data -/
structure PyI (n : Nat) (x : D) (p : PyData) : Prop where
  e : x.py = some p
  l : p.canLay0 = true
  d : p.depth ≤ n
  r : PyData.eqv p p = true
theorem py_all {n : Nat} : ∀ {ds : List D}, (∀ y, y ∈ ds → ∃ p, PyI n y p) → ∃ ps, D.pyL ds = some ps ∧ PyData.canLayAll0 ps = true ∧ PyData.depthAll ps ≤ n ∧ PyData.eqvAll ps ps = true ∧ ps.length = ds.length
  | [], _ => ⟨[], by simp [D.pyL], by simp [PyData.canLayAll0], by simp [PyData.depthAll], by simp [PyData.eqvAll], rfl⟩
  | y :: ds, h => by
    obtain ⟨p, h1⟩ := h y (by simp)
    obtain ⟨ps, e1, e2, e3, e4, e5⟩ := py_all (ds := ds) (fun z hz => h z (by simp [hz]))
    refine ⟨p :: ps, by simp [D.pyL, h1.e, e1], by simp [PyData.canLayAll0, h1.l, e2], ?_, by simp [PyData.eqvAll, h1.r, e4], by simp [e5]⟩
    have := h1.d
    simp only [PyData.depthAll]
    omega
theorem Pi.py {n : Nat} {x : D} (h : Pi n x) : ∃ p, PyI n x p := by
  induction h with
  | non => exact ⟨.none, by simp [D.py], by simp [PyData.canLay0], by simp [PyData.depth], by simp [PyData.eqv]⟩
  | @bl n b => exact ⟨.bool b, by simp [D.py], by simp [PyData.canLay0], by simp [PyData.depth], by simp [PyData.eqv]⟩
  | @int n i => exact ⟨.int i, by simp [D.py], by simp [PyData.canLay0], by simp [PyData.depth], by simp [PyData.eqv]⟩
  | lst h ih =>
    obtain ⟨ps, e1, e2, e3, e4, e5⟩ := py_all ih
    exact ⟨.list ps, by simp [D.py, e1], by simp [PyData.canLay0, e2], by simp only [PyData.depth]; omega, by simp [PyData.eqv, e4]⟩
  | tup h ih =>
    obtain ⟨ps, e1, e2, e3, e4, e5⟩ := py_all ih
    exact ⟨.tuple ps, by simp [D.py, e1], by simp [PyData.canLay0, e2], by simp only [PyData.depth]; omega, by simp [PyData.eqv, e4]⟩
theorem PyI.shaped {n : Nat} {x : D} {p : PyData} (h : PyI n x p) (hn : n ≤ 64) : SeqAt.shaped p = true := by
  unfold SeqAt.shaped
  rw [h.l]
  have := h.d
  simp; omega
/-! ### some next figure is right -/
section
variable {b : Int} {r : Rw}
end
/-! ### beginnings lie in one another -/
theorem snoc_in' {b : Int} {r : Rw} (b0 : 2 ≤ b) {f : Int} (h1 : -r.m ≤ f) (h2 : f ≤ r.m) : r.lo b ≤ (r.snoc f).lo b ∧ (r.snoc f).hi b ≤ r.hi b := by
  have up : 0 < r.nx b := Rat.zpow_pos (ratpos (by omega))
  have a1 : (0 : Rat) ≤ ((f + r.m : Int) : Rat) := by
    have : ((0 : Int) : Rat) ≤ ((f + r.m : Int) : Rat) := Rat.intCast_le_intCast.mpr (by omega)
    exact this
  have a2 : (0 : Rat) ≤ ((r.m - f : Int) : Rat) := by
    have : ((0 : Int) : Rat) ≤ ((r.m - f : Int) : Rat) := Rat.intCast_le_intCast.mpr (by omega)
    exact this
  rw [Rat.intCast_add] at a1
  rw [Rat.intCast_sub] at a2
  have p1 := Rat.mul_nonneg a1 (Rat.le_of_lt up)
  have p2 := Rat.mul_nonneg a2 (Rat.le_of_lt up)
  rw [Rw.snoc_lo b0, Rw.snoc_hi b0]
  unfold Rw.lo Rw.hi
  rw [Rw.tail_nx b0]
  generalize (r.m : Rat) / ((b - 1 : Int) : Rat) * r.nx b = q
  generalize r.nx b = u at *
  generalize (r.m : Rat) = m at *
  generalize (f : Rat) = g at *
  generalize r.worth b = w
  constructor <;> grind
theorem Meet.symm {b : Int} {r s : Rw} (h : Meet b r s) : Meet b s r := ⟨h.2, h.1⟩
/-- what stood stands -/
def Kept (S S' : Store) : Prop := ∀ q m, S q = some m → S' q = some m
theorem Kept.refl (S : Store) : Kept S S := fun _ _ h => h
theorem Kept.trans {S S1 S2 : Store} (h : Kept S S1) (h2 : Kept S1 S2) : Kept S S2 := fun q m e => h2 q m (h q m e)
theorem BoxAt.kept {S S' : Store} {p : Addr} {n : Nat} (h : BoxAt S p n) (k : Kept S S') : BoxAt S' p n := by
  obtain ⟨a, s, t, e, h⟩ := h
  exact ⟨a, s, t, k _ _ e, h⟩
theorem lo_le_hi {b : Int} {r : Rw} (hr : r.Ok b) : r.lo b ≤ r.hi b := by
  have h1 : 0 ≤ r.tail b := by
    unfold Rw.tail
    refine Rat.mul_nonneg ?_ (Rat.le_of_lt hr.pwp)
    rw [Rat.div_def]
    exact Rat.mul_nonneg (by exact_mod_cast hr.m0) (Rat.le_of_lt (Rat.inv_pos.mpr hr.cp))
  unfold Rw.lo Rw.hi
  grind
/-! ### kinds -/
inductive Kn where
  | sum (ws : List Int) (v : Int) | loose (ws : List Int) | moved (e : Int) | told (q : Rat) | times | over (k : Int) | least | most | choose
def Kn.d : Kn → D
  | .sum ws v => .tup [.str "sum", .tup (ws.map .int), .int v]
  | .loose ws => .tup [.str "loose", .tup (ws.map .int)]
  | .moved e => .tup [.str "moved", .int e]
  | .told q => .tup [.str "told", encR q]
  | .times => .tup [.str "times"]
  | .over k => .tup [.str "over", .int k]
  | .least => .tup [.str "least"]
  | .most => .tup [.str "most"]
  | .choose => .tup [.str "choose"]
def Kn.word : Kn → Str
  | .sum .. => "sum"
  | .loose .. => "loose"
  | .moved .. => "moved"
  | .told .. => "told"
  | .times => "times"
  | .over .. => "over"
  | .least => "least"
  | .most => "most"
  | .choose => "choose"
def Kn.many : Kn → Nat
  | .sum ws _ => ws.length
  | .loose ws => ws.length
  | .moved _ => 1
  | .told _ => 0
  | .choose => 3
  | _ => 2
def Kn.Ok : Kn → Prop
  | .sum ws v => ws.length ≤ 4 ∧ (∀ w, w ∈ ws → w.natAbs ≤ 100) ∧ 1 ≤ v ∧ v ≤ 1000
  | .loose ws => ws.length ≤ 4 ∧ ∀ w, w ∈ ws → w.natAbs ≤ 100
  | .moved e => e.natAbs ≤ 30
  | .told q => Sz 100 q
  | .over k => k.natAbs ≤ 20
  | _ => True
def wsum : List Int → List Rat → Rat
  | w :: ws, x :: xs => (w : Rat) * x + wsum ws xs
  | _, _ => 0
/-- what comes of numbers -/
def Kn.app (b : Int) : Kn → List Rat → Rat
  | .sum ws v, xs => wsum ws xs / ((v : Int) : Rat)
  | .loose ws, xs => wsum ws xs
  | .moved e, x :: _ => x * (b : Rat) ^ e
  | .told q, _ => q
  | .times, [x, y] => x * y
  | .over k, [x, y] => x / max y ((b : Rat) ^ (-k))
  | .least, [x, y] => min x y
  | .most, [x, y] => max x y
  | .choose, [x, y, z] => if x < 0 then z else y
  | _, _ => 0
/-- corners: which end of each -/
def cor : Nat → List (List Int)
  | 0 => [[]]
  | n + 1 => (cor n).flatMap fun o => [o ++ [0], o ++ [1]]
def spD (s : Rat × Rat) : D := .tup [encR s.1, encR s.2]
def pickAt (ss : List (Rat × Rat)) (o : List Int) : List Rat := (ss.zip o).map fun p => if p.2 = 0 then p.1.1 else p.1.2
def Kn.vals (b : Int) (kn : Kn) (ss : List (Rat × Rat)) : List Rat := (cor ss.length).map fun o => kn.app b (pickAt ss o)
def minL : List Rat → Rat
  | [] => 0
  | x :: xs => xs.foldl min x
def maxL : List Rat → Rat
  | [] => 0
  | x :: xs => xs.foldl max x
/-! ### promises -/
def NumsD (y : D) (xs : List Rat) : Prop := y = .lst (xs.map encR) ∨ y = .tup (xs.map encR)
def spanQ (b : Int) (r : Rw) : Rat × Rat := (r.lo b, r.hi b)
theorem NumsD.seq {y : D} {xs : List Rat} (h : NumsD y xs) (S : Store) : seqOf S y = some (xs.map encR) := by
  rcases h with rfl | rfl <;> rfl
theorem NumsD.pin {y : D} {xs : List Rat} (h : NumsD y xs) (S : Store) : pinOf S y = none := by
  rcases h with rfl | rfl <;> rfl
theorem g_ix_enc0 {q : Rat} {S : Store} {P : D → Store → Prop} : dIx (encR q) (.int 0) S P = P (.int q.num) S := rfl
theorem g_ix_enc1 {q : Rat} {S : Store} {P : D → Store → Prop} : dIx (encR q) (.int 1) S P = P (.int (q.den : Int)) S := rfl
theorem g_ix_sp0 {q : Rat × Rat} {S : Store} {P : D → Store → Prop} : dIx (spD q) (.int 0) S P = P (encR q.1) S := rfl
theorem g_ix_sp1 {q : Rat × Rat} {S : Store} {P : D → Store → Prop} : dIx (spD q) (.int 1) S P = P (encR q.2) S := rfl
/-- an end of each -/
def Ch : List (Rat × Rat) → List Rat → Prop
  | [], [] => True
  | s :: ss, x :: xs => (x = s.1 ∨ x = s.2) ∧ Ch ss xs
  | _, _ => False
/-- a number of each -/
def Ins : List (Rat × Rat) → List Rat → Prop
  | [], [] => True
  | s :: ss, x :: xs => (s.1 ≤ x ∧ x ≤ s.2) ∧ Ins ss xs
  | _, _ => False
theorem Ch.len : ∀ {ss : List (Rat × Rat)} {xs : List Rat}, Ch ss xs → xs.length = ss.length
  | [], [], _ => rfl
  | [], _ :: _, h => h.elim
  | _ :: _, [], h => h.elim
  | s :: ss, x :: xs, ⟨_, h⟩ => by simp [h.len]
/-! ### isinstance of dict, of (bool, str) -/
theorem isi_non_dict {S : Store} {P : D → Store → Prop} : cIsi [.non, .ty "dict"] S P = P (.bl false) S := propext ⟨fun h => h.2, fun h => ⟨by decide, h⟩⟩
theorem isi_bl_dict {k : Bool} {S : Store} {P : D → Store → Prop} : cIsi [(.bl k), .ty "dict"] S P = P (.bl false) S := propext ⟨fun h => h.2, fun h => ⟨by decide, h⟩⟩
theorem isi_int_dict {k : Int} {S : Store} {P : D → Store → Prop} : cIsi [(.int k), .ty "dict"] S P = P (.bl false) S := propext ⟨fun h => h.2, fun h => ⟨by decide, h⟩⟩
theorem isi_str_dict {k : Str} {S : Store} {P : D → Store → Prop} : cIsi [(.str k), .ty "dict"] S P = P (.bl false) S := propext ⟨fun h => h.2, fun h => ⟨by decide, h⟩⟩
theorem isi_lst_dict {k : List D} {S : Store} {P : D → Store → Prop} : cIsi [(.lst k), .ty "dict"] S P = P (.bl false) S := propext ⟨fun h => h.2, fun h => ⟨by decide, h⟩⟩
theorem isi_tup_dict {k : List D} {S : Store} {P : D → Store → Prop} : cIsi [(.tup k), .ty "dict"] S P = P (.bl false) S := propext ⟨fun h => h.2, fun h => ⟨by decide, h⟩⟩
theorem isi_non_bs {S : Store} {P : D → Store → Prop} : cIsi [.non, .tup [.ty "bool", .ty "str"]] S P = P (.bl false) S := rfl
theorem isi_bl_bs {k : Bool} {S : Store} {P : D → Store → Prop} : cIsi [(.bl k), .tup [.ty "bool", .ty "str"]] S P = P (.bl true) S := rfl
theorem isi_int_bs {k : Int} {S : Store} {P : D → Store → Prop} : cIsi [(.int k), .tup [.ty "bool", .ty "str"]] S P = P (.bl false) S := rfl
theorem isi_str_bs {k : Str} {S : Store} {P : D → Store → Prop} : cIsi [(.str k), .tup [.ty "bool", .ty "str"]] S P = P (.bl true) S := rfl
theorem isi_lst_bs {k : List D} {S : Store} {P : D → Store → Prop} : cIsi [(.lst k), .tup [.ty "bool", .ty "str"]] S P = P (.bl false) S := rfl
theorem isi_tup_bs {k : List D} {S : Store} {P : D → Store → Prop} : cIsi [(.tup k), .tup [.ty "bool", .ty "str"]] S P = P (.bl false) S := rfl
theorem g_put_sp {ts : List Tgt} {s : Rat × Rat} {ρ : DSt} : Tgt.put (.tp ts) (spD s) ρ = Tgt.putL ts [encR s.1, encR s.2] ρ := by unfold spD; exact put_tp
local macro_rules | `(tactic| walk_at "dg3") => `(tactic| try simp only [dDispGet, dictAt, isi_non_dict, isi_bl_dict, isi_int_dict, isi_str_dict, isi_lst_dict, isi_tup_dict, isi_non_bs, isi_bl_bs, isi_int_bs, isi_str_bs, isi_lst_bs, isi_tup_bs, g_ix_enc0, g_ix_enc1, g_ix_sp0, g_ix_sp1, g_put_sp, Int.reduceEq, dSeq, dSet, dPar, dOp, dUn, dVar, dC, dCB, dCons, dNil, dTup, dLst, dLstM, dIfS, dIf, dTest, dNot, dAnd, dOr, dAndV, dOrV, dNotV, dRet, dRetN, dEnd, dNext, dAdd, dSub, dMul, dFdiv, dMod, dPow, dNeg, dLt, dLe, dGt, dGe, dEq, dNe, eqB_ii, eqB_bb, eqB_ss, eqB_nn, eqB_ni, eqB_in, eqB_ns, eqB_sn, eqB_is, eqB_si, eqB_nb, eqB_bn, dIn, g_ix_tup, g_ix_lst, g_ix_ext, g_ln_tup, g_ln_lst, g_ln_ext, g_nn_non, g_nn_int, g_nn_tup, g_in_non, g_in_int, g_in_tup, g_ix_row0, g_ix_row1, g_ix_row2, g_ix_span0, g_ix_span1, g_nn_span, g_nn_encR, g_in_span, cAbs, cMax2, cMin2, cInt, cList, cTuple, dIsB, dNotB, dPar3, ForN, LcN, pinOf, pin2, dEnum2, dAppend, supd_same0, isi_non_int, isi_non_bool, isi_non_str, isi_non_list, isi_non_tuple, isi_non_lt, isi_bl_int, isi_bl_bool, isi_bl_str, isi_bl_list, isi_bl_tuple, isi_bl_lt, isi_int_int, isi_int_bool, isi_int_str, isi_int_list, isi_int_tuple, isi_int_lt, isi_str_int, isi_str_bool, isi_str_str, isi_str_list, isi_str_tuple, isi_str_lt, isi_lst_int, isi_lst_bool, isi_lst_str, isi_lst_list, isi_lst_tuple, isi_lst_lt, isi_tup_int, isi_tup_bool, isi_tup_str, isi_tup_list, isi_tup_tuple, isi_tup_lt, dAug, dIAdd, dIMul, dDrop, dSl, dPart, dNoPart, dRevL, dCallK, dChainR, dAsg, put_nm, put_tp, put_tl, g_put_row, g_put_span, putL_nil, putL_cons, Option.bind, seqOf, lstOf, dFor, dLc, dLcM, dItSeq, dZip, dZipS, dEnum, dRng1, dRng2, dYes, dwipe, Tgt.slots, Tgt.slotsL,
  atI_0, atI_1, atI_2, atI_3, List.getElem?_cons_zero, List.getElem?_cons_succ, List.set_cons_zero, List.set_cons_succ, decide_eq_true_eq, List.length_cons, List.length_nil, List.cons_append, List.nil_append, List.append_nil, ofString_inj, String.reduceEq, decide_true, decide_false, reduceIte, Bool.false_eq_true, Bool.not_true, Bool.not_false, eqFlat, isFlat, List.any_cons, List.any_nil, List.all_cons, List.all_nil, Bool.or_false, Bool.or_true, Bool.false_or, Bool.true_or, Bool.and_true, Bool.true_and, true_and, and_true, Nat.reduceAdd, Nat.reduceLeDiff, Int.reduceLT, Int.reduceLE, Int.reduceNeg])
/-! ### draws, what stood stands -/
/-- drawn, what stood stands, something new beside -/
def Dk (S S' : Store) (p : Addr) (n : Nat) : Prop := BoxAt S' p n ∧ ∀ q m, q ≠ p → S q = some m → S' q = some m
theorem Drew.dk {S S' : Store} {p : Addr} {n : Nat} (h : Drew S S' p n) : Dk S S' p n := ⟨h.box, fun q m hq e => by rw [h.other hq]; exact e⟩
theorem Dk.trans {S S1 S2 : Store} {p : Addr} {n m : Nat} (h : Dk S S1 p n) (h2 : Dk S1 S2 p m) : Dk S S2 p m := ⟨h2.1, fun q x hq e => h2.2 q x hq (h.2 q x hq e)⟩
theorem Dk.mono {S S' : Store} {p : Addr} {n m : Nat} (h : Dk S S' p n) (hm : n ≤ m) : Dk S S' p m := ⟨h.1.mono hm, h.2⟩
theorem Dk.refl {S : Store} {p : Addr} {n : Nat} (h : BoxAt S p n) : Dk S S p n := ⟨h, fun _ _ _ e => e⟩
theorem Dk.new {S S1 : Store} {p q : Addr} {n : Nat} {m : MO} (h : Dk S S1 p n) (hq : S1 q = none) : Dk S (supd S1 q m) p n :=
  ⟨h.1.other (h.1.ne hq), fun r x hr e => by
    have := h.2 r x hr e
    rw [supd_ne fun z => by rw [z, hq] at this; cases this]
    exact this⟩
theorem Dk.put {S S1 : Store} {p q : Addr} {n : Nat} {m : MO} (h : Dk S S1 p n) (hp : p ≠ q) (hq : S q = none) : Dk S (supd S1 q m) p n :=
  ⟨h.1.other hp, fun r x hr e => by
    rw [supd_ne fun z => by rw [z, hq] at e; cases e]
    exact h.2 r x hr e⟩
theorem takeK {p : Addr} {n : Nat} {size : Int} {S0 S : Store} {P : D → Store → Prop} (hb : Dk S0 S p n) (h0 : 0 < size) (h1 : size ≤ 2 ^ 40) (hn : n ≤ 1000000000) (h : ∀ x S', 0 ≤ x → x < size → Dk S0 S' p (n + 1) → P (.int x) S') : sp_Ltake [.obj p, .int size] S P :=
  ⟨p, size, n, rfl, h0, h1, hb.1, hn, fun x S' a b d => h x S' a b (hb.trans d.dk)⟩
theorem ofK {p : Addr} {n : Nat} {ns : List Int} {S0 S : Store} {P : D → Store → Prop} (R : Int → Prop) (hb : Dk S0 S p n) (h0 : 0 < ns.length) (h1 : ns.length ≤ 100000) (hn : n ≤ 1000000000) (hr : ∀ z, z ∈ ns → R z) (h : ∀ z S', R z → Dk S0 S' p (n + 1) → P (.int z) S') : sp_Lof [.obj p, .lst (ns.map .int)] S P :=
  ⟨p, _, _, n, rfl, .inl rfl, by simpa using h0, by simpa using h1, hb.1, hn, fun x S' hx d => by
    obtain ⟨z, hz, rfl⟩ := List.mem_map.mp hx
    exact h z S' (hr z hz) (hb.trans d.dk)⟩
/-! ### bases, mosts, figures, rows -/
structure Small (b k : Int) (r : Rw) : Prop where
  e0 : -2 ≤ r.e
  e1 : r.e ≤ 3
  m0 : b ≤ 2 * r.m
  m1 : r.m ≤ 15
  l : (r.fs.length : Int) ≤ k
  f : ∀ f, f ∈ r.fs → -r.m ≤ f ∧ f ≤ r.m
theorem Small.ok {b k : Int} {r : Rw} (h : Small b k r) (b0 : 2 ≤ b) (b1 : b ≤ 16) (hk : k ≤ 60) : r.Ok b :=
  ⟨b0, b1, by have := h.e0; omega, by have := h.e1; omega, by have := h.m0; omega, by have := h.m1; omega, by have := h.l; omega, fun f hf => by have := h.f f hf; have := h.m1; omega⟩
/-! ### kinds by draws -/
def Kn.Dr : Kn → Prop
  | .sum ws v => 1 ≤ ws.length ∧ ws.length ≤ 3 ∧ (∀ w, w ∈ ws → w ≠ 0 ∧ w.natAbs ≤ 9) ∧ 1 ≤ v ∧ v ≤ 1000
  | .loose ws => 1 ≤ ws.length ∧ ws.length ≤ 3 ∧ ∀ w, w ∈ ws → w ≠ 0 ∧ w.natAbs ≤ 1
  | .moved e => e.natAbs ≤ 4
  | .told q => Sz 10 q
  | .over k => 0 ≤ k ∧ k ≤ 3
  | _ => True
theorem Kn.Dr.ok {kn : Kn} (h : kn.Dr) : kn.Ok := by
  cases kn with
  | sum ws v => exact ⟨by have := h.2.1; omega, fun w hw => by have := (h.2.2.1 w hw).2; omega, h.2.2.2.1, h.2.2.2.2⟩
  | loose ws => exact ⟨by have := h.2.1; omega, fun w hw => by have := (h.2.2 w hw).2; omega⟩
  | moved e => exact Nat.le_trans h (by decide)
  | told q => exact Sz.mono (show Sz 10 q from h) (by decide)
  | over k =>
    have h1 : 0 ≤ k ∧ k ≤ 3 := h
    show k.natAbs ≤ 20
    omega
  | _ => trivial
theorem Kn.Dr.many {kn : Kn} (h : kn.Dr) : kn.many ≤ 3 := by
  cases kn with
  | sum ws v => exact h.2.1
  | loose ws => exact h.2.1
  | _ => simp [Kn.many]
/-! ### rows with figures behind -/
def Rw.app (r : Rw) (gs : List Int) : Rw := ⟨r.e, r.m, r.fs ++ gs⟩
theorem Rw.app_nil (r : Rw) : r.app [] = r := by unfold Rw.app; simp
theorem Rw.app_cons (r : Rw) (g : Int) (gs : List Int) : r.app (g :: gs) = (r.snoc g).app gs := by unfold Rw.app Rw.snoc; simp
theorem app_in {b : Int} (b0 : 2 ≤ b) : ∀ (gs : List Int) (r : Rw), (∀ g, g ∈ gs → -r.m ≤ g ∧ g ≤ r.m) → r.lo b ≤ (r.app gs).lo b ∧ (r.app gs).hi b ≤ r.hi b
  | [], r, _ => by rw [Rw.app_nil]; exact ⟨Rat.le_refl, Rat.le_refl⟩
  | g :: gs, r, h => by
    rw [Rw.app_cons]
    have h1 := snoc_in' (r := r) b0 (h g (by simp)).1 (h g (by simp)).2
    have h2 := app_in b0 gs (r.snoc g) fun z hz => h z (by simp [hz])
    exact ⟨Rat.le_trans h1.1 h2.1, Rat.le_trans h2.2 h1.2⟩
theorem Small.app {b k : Int} {r : Rw} {gs : List Int} (h : Small b k r) (hg : ∀ g, g ∈ gs → -r.m ≤ g ∧ g ≤ r.m) {j : Int} (hj : (gs.length : Int) ≤ j) : Small b (k + j) (r.app gs) :=
  ⟨h.e0, h.e1, h.m0, h.m1, by have := h.l; show ((r.fs ++ gs).length : Int) ≤ _; rw [List.length_append]; omega, fun f hf => by
    rcases List.mem_append.mp hf with hf | hf
    · exact h.f f hf
    · exact hg f hf⟩
theorem Small.mono {b k j : Int} {r : Rw} (h : Small b k r) (hj : k ≤ j) : Small b j r := ⟨h.e0, h.e1, h.m0, h.m1, by have := h.l; omega, h.f⟩
/-! ### spans within spans -/
def Sub : List (Rat × Rat) → List (Rat × Rat) → Prop
  | [], [] => True
  | t :: ts, s :: ss => (s.1 ≤ t.1 ∧ t.2 ≤ s.2) ∧ Sub ts ss
  | _, _ => False
theorem Sub.refl : ∀ ss, Sub ss ss
  | [] => trivial
  | _ :: ss => ⟨⟨Rat.le_refl, Rat.le_refl⟩, Sub.refl ss⟩
theorem Sub.len : ∀ {ts ss}, Sub ts ss → ts.length = ss.length
  | [], [], _ => rfl
  | [], _ :: _, h => h.elim
  | _ :: _, [], h => h.elim
  | _ :: ts, _ :: ss, h => by have := Sub.len h.2; simp [this]
theorem Sub.ins : ∀ {ts ss xs}, Sub ts ss → Ins ts xs → Ins ss xs
  | [], [], [], _, _ => trivial
  | [], [], _ :: _, _, h => h.elim
  | [], _ :: _, _, h, _ => h.elim
  | _ :: _, [], _, h, _ => h.elim
  | _ :: _, _ :: _, [], _, h => h.elim
  | _ :: ts, _ :: ss, x :: xs, h, g => ⟨⟨Rat.le_trans h.1.1 g.1.1, Rat.le_trans g.1.2 h.1.2⟩, Sub.ins h.2 g.2⟩
def reachQ (b : Int) (kn : Kn) (ss : List (Rat × Rat)) : Rat × Rat := (minL (kn.vals b ss), maxL (kn.vals b ss))
theorem pk {s : Rat × Rat} {e : Int} : (if e = 0 then s.1 else s.2) = s.1 ∨ (if e = 0 then s.1 else s.2) = s.2 := by
  split
  · exact .inl rfl
  · exact .inr rfl
/-- rows, each with figures behind, by the ways of a corner -/
structure Beh (j : Int) (q : Int × Rw) (y : D) (gs : List Int) : Prop where
  e : y = (q.2.app gs).d
  l : gs.length = 5
  f : ∀ g, g ∈ gs → -q.2.m ≤ g ∧ g ≤ q.2.m
  lo : j / q.1 % 2 = 0 → ∀ g, g ∈ gs → g = -q.2.m
  hi : j / q.1 % 2 = 1 → ∀ g, g ∈ gs → g = q.2.m
theorem den_pos (q : Rat) : (0 : Int) < (q.den : Int) := by have := q.den_pos; omega
structure Own (b : Int) (r : Rw) : Prop where
  e0 : 0 ≤ r.e
  e1 : r.e ≤ 10
  m0 : b ≤ 2 * r.m
  m1 : r.m ≤ 15
  l : r.fs.length ≤ 11
  k : (r.fs.length : Int) - r.e ≤ 8
  f : ∀ f, f ∈ r.fs → -r.m ≤ f ∧ f ≤ r.m
theorem Own.ok {b : Int} {r : Rw} (h : Own b r) (b0 : 2 ≤ b) (b1 : b ≤ 10) : r.Ok b :=
  ⟨b0, by omega, by have := h.e0; omega, by have := h.e1; omega, by have := h.m0; omega, by have := h.m1; omega, by have := h.l; omega, fun f hf => by have := h.f f hf; have := h.m1; omega⟩
def Mg (q : Rat) : Prop := ((-268435456 : Int) : Rat) ≤ q ∧ q ≤ ((268435456 : Int) : Rat)
/-! ### what is drawn is not great -/
theorem zpow_le {b k : Int} (n : Nat) (b0 : 2 ≤ b) (b1 : b ≤ 10) (hk : k ≤ n) : (b : Rat) ^ k ≤ ((10 ^ n : Int) : Rat) := by
  have bp : (0 : Rat) < (b : Rat) := ratpos (by omega)
  obtain ⟨m, hm⟩ : ∃ m : Nat, (n : Int) - k = m := ⟨((n : Int) - k).toNat, by omega⟩
  have e : (b : Rat) ^ k * (b : Rat) ^ ((n : Int) - k) = (b : Rat) ^ (n : Int) := by
    rw [← Rat.zpow_add (by grind)]
    congr 1; omega
  have p1 : (1 : Rat) ≤ (b : Rat) ^ ((n : Int) - k) := by
    rw [hm, Rat.zpow_natCast, ← Rat.intCast_pow]
    have : (1 : Int) ≤ b ^ m := Int.pow_pos (by omega)
    exact_mod_cast this
  have p2 : (b : Rat) ^ (n : Int) ≤ ((10 ^ n : Int) : Rat) := by
    have e9 : (b : Rat) ^ (n : Int) = ((b ^ n : Int) : Rat) := by
      rw [Rat.intCast_pow]
      exact Rat.zpow_natCast (q := (b : Rat)) (n := n)
    rw [e9]
    have key : ∀ n : Nat, b ^ n ≤ 10 ^ n := fun n => by
      induction n with
      | zero => simp
      | succ n ih =>
        rw [Int.pow_succ, Int.pow_succ]
        exact Int.mul_le_mul ih b1 (by omega) (Int.le_of_lt (Int.pow_pos (by decide)))
    exact Rat.intCast_le_intCast.mpr (key n)
  have p0 := Rat.zpow_pos (n := k) bp
  have := Rat.mul_le_mul_of_nonneg_left p1 (Rat.le_of_lt p0)
  grind
def Bd (A q : Rat) : Prop := -A ≤ q ∧ q ≤ A
theorem Bd.mul {A B x y : Rat} (h1 : Bd A x) (h2 : Bd B y) : Bd (A * B) (x * y) := by
  have a1 := Rat.mul_nonneg (show 0 ≤ A - x by have := h1.2; grind) (show 0 ≤ B + y by have := h2.1; grind)
  have a2 := Rat.mul_nonneg (show 0 ≤ A + x by have := h1.1; grind) (show 0 ≤ B - y by have := h2.2; grind)
  have a3 := Rat.mul_nonneg (show 0 ≤ A - x by have := h1.2; grind) (show 0 ≤ B - y by have := h2.2; grind)
  have a4 := Rat.mul_nonneg (show 0 ≤ A + x by have := h1.1; grind) (show 0 ≤ B + y by have := h2.1; grind)
  exact ⟨by grind, by grind⟩
theorem Bd.mono {A B x : Rat} (h : Bd A x) (hB : A ≤ B) : Bd B x := ⟨by have := h.1; grind, by have := h.2; grind⟩
theorem Bd.mg {q : Rat} {A : Rat} (h : Bd A q) (hA : A ≤ ((268435456 : Int) : Rat)) : Mg q := by
  have e : ((-268435456 : Int) : Rat) = -((268435456 : Int) : Rat) := rfl
  unfold Mg
  rw [e]
  exact (h.mono hA)
theorem bd_frac {m b : Int} (h0 : 0 ≤ m) (h1 : m ≤ 15) (b0 : 2 ≤ b) : (0 : Rat) ≤ (m : Rat) / ((b - 1 : Int) : Rat) ∧ (m : Rat) / ((b - 1 : Int) : Rat) ≤ 15 := by
  have cp : (0 : Rat) < ((b - 1 : Int) : Rat) := ratpos (by omega)
  have c1 : ((1 : Int) : Rat) ≤ ((b - 1 : Int) : Rat) := Rat.intCast_le_intCast.mpr (by omega)
  have m0 : ((0 : Int) : Rat) ≤ (m : Rat) := Rat.intCast_le_intCast.mpr h0
  have m15 : (m : Rat) ≤ ((15 : Int) : Rat) := Rat.intCast_le_intCast.mpr h1
  have ip : (0 : Rat) < ((b - 1 : Int) : Rat)⁻¹ := Rat.inv_pos.mpr cp
  have e : (m : Rat) / ((b - 1 : Int) : Rat) * ((b - 1 : Int) : Rat) = (m : Rat) := by
    generalize ((b - 1 : Int) : Rat) = y at *
    rw [Rat.div_def, Rat.mul_assoc, Rat.inv_mul_cancel _ (by grind), Rat.mul_one]
  have c0 : (0 : Rat) ≤ (m : Rat) / ((b - 1 : Int) : Rat) := by
    rw [Rat.div_def]
    exact Rat.mul_nonneg m0 (Rat.le_of_lt ip)
  generalize (m : Rat) / ((b - 1 : Int) : Rat) = c at *
  have := Rat.mul_le_mul_of_nonneg_left c1 c0
  have o1 : ((1 : Int) : Rat) = 1 := rfl
  have o2 : ((15 : Int) : Rat) = 15 := rfl
  exact ⟨by grind, by grind⟩
theorem Small.bd {b k : Int} {r : Rw} (h : Small b k r) (b0 : 2 ≤ b) (b1 : b ≤ 10) (hk : k ≤ 60) : Bd ((15000 : Int) : Rat) (r.lo b) ∧ Bd ((15000 : Int) : Rat) (r.hi b) := by
  have ok := h.ok b0 (by omega) hk
  have hin := app_in b0 r.fs ⟨r.e, r.m, []⟩ h.f
  have er : (⟨r.e, r.m, []⟩ : Rw).app r.fs = r := by unfold Rw.app; simp
  rw [er] at hin
  have lh := lo_le_hi ok
  have m0 := h.m0
  have fr := bd_frac (m := r.m) (b := b) (by omega) h.m1 b0
  have pe := zpow_le (b := b) (k := r.e) 3 b0 b1 (by have := h.e1; omega)
  have pp := Rat.zpow_pos (n := r.e) (ratpos (show 0 < b by omega))
  have w0 : (⟨r.e, r.m, []⟩ : Rw).worth b = 0 := by
    unfold Rw.worth
    show ((0 : Int) : Rat) * _ = 0
    have : ((0 : Int) : Rat) = 0 := rfl
    rw [this, Rat.zero_mul]
  have t0 : (⟨r.e, r.m, []⟩ : Rw).tail b = (r.m : Rat) / ((b - 1 : Int) : Rat) * (b : Rat) ^ r.e := by
    unfold Rw.tail Rw.pw
    simp
  have e3 : ((10 ^ 3 : Int) : Rat) = 1000 := rfl
  have e15 : ((15000 : Int) : Rat) = 15000 := rfl
  unfold Rw.lo Rw.hi at hin lh ⊢
  rw [w0, t0] at hin
  have bm := Bd.mul (A := 15) (B := 1000) (x := (r.m : Rat) / ((b - 1 : Int) : Rat)) (y := (b : Rat) ^ r.e) ⟨by grind, fr.2⟩ ⟨by grind, by grind⟩
  generalize (r.m : Rat) / ((b - 1 : Int) : Rat) * (b : Rat) ^ r.e = z at *
  have b2 := bm.2
  rw [e15]
  exact ⟨⟨by grind, by grind⟩, ⟨by grind, by grind⟩⟩
/-! ### sizes without signs -/
def aQ (q : Rat) : Rat := if q < 0 then -q else q
/-! ### bare rows -/
def bareR (q : Int × Int) : Rw := ⟨q.1, q.2, []⟩
structure Bare (q : Int × Int) : Prop where
  e0 : -40 ≤ q.1
  e1 : q.1 ≤ 40
  m0 : 0 ≤ q.2
  m1 : q.2 ≤ 1000
theorem Bare.ok {b : Int} {q : Int × Int} (h : Bare q) (b0 : 2 ≤ b) (b1 : b ≤ 16) : (bareR q).Ok b :=
  ⟨b0, b1, h.e0, h.e1, h.m0, h.m1, by simp [bareR], by simp [bareR]⟩
/-- as far as a row of a begin and a most comes -/
def rim (b e m : Int) : Rat := (m : Rat) / ((b - 1 : Int) : Rat) * (b : Rat) ^ e
theorem sum_ok {ms : List Int} {S : Store} {P : D → Store → Prop} (q : P (.int ms.sum) S) : cSum [.lst (ms.map .int)] S P := by
  unfold cSum
  simp only [lstOf, Option.bind, dInts_map]
  exact q
/-- the least begin by which a number is within -/
def IsLb (b m : Int) (need : Rat) (d : Int) : Prop := need ≤ rim b d m ∧ rim b (d - 1) m < need
theorem lb_lp {b m d : Int} {need : Rat} (b0 : 2 ≤ b) : rim b d m < need ↔ (b : Rat) ^ d * (m : Rat) < need * ((b - 1 : Int) : Rat) := by
  have hc : (0 : Rat) < ((b - 1 : Int) : Rat) := ratpos (by omega)
  unfold rim
  have e : (m : Rat) / ((b - 1 : Int) : Rat) * (b : Rat) ^ d = ((b : Rat) ^ d * (m : Rat)) / ((b - 1 : Int) : Rat) := by grind
  rw [e, Rat.div_lt_iff hc]
theorem IsLb.uniq {b m : Int} {need : Rat} {d e : Int} (hb : 2 ≤ b) (hr : 1 ≤ m) (h : IsLb b m need d) (h' : IsLb b m need e) : d = e :=
  IsLp.uniq (b := b) (room := m) (need := need * ((b - 1 : Int) : Rat)) (by omega) hr ⟨Rat.not_lt.mp fun z => Rat.not_lt.mpr h.1 ((lb_lp hb).mpr z), (lb_lp hb).mp h.2⟩ ⟨Rat.not_lt.mp fun z => Rat.not_lt.mpr h'.1 ((lb_lp hb).mpr z), (lb_lp hb).mp h'.2⟩
theorem rim_up {b e m : Int} (b0 : 2 ≤ b) : rim b (e + 1) m = (b : Rat) * rim b e m := by
  unfold rim
  rw [Rat.zpow_add_one (by have := ratpos (show 0 < b by omega); grind)]
  grind
theorem IsLb.up {b m d : Int} {need : Rat} (b0 : 2 ≤ b) (h : IsLb b m need d) : IsLb b m ((b : Rat) * need) (d + 1) := by
  have bp := ratpos (show 0 < b by omega)
  refine ⟨?_, ?_⟩
  · rw [rim_up b0]
    exact Rat.mul_le_mul_of_nonneg_left h.1 (Rat.le_of_lt bp)
  · have := Rat.mul_lt_mul_of_pos_left h.2 bp
    rw [← rim_up b0] at this
    rwa [show d + 1 - 1 = d - 1 + 1 by omega]
end Lb

/-! Machines: what a part gives, figure by figure. -/
namespace Lb
open PySem PySem.Spec PyProof.Rows L2 DL
variable [CT]
local macro_rules | `(tactic| walk_at "dg3") => `(tactic| try simp only [dDispGet, dictAt, isi_non_dict, isi_bl_dict, isi_int_dict, isi_str_dict, isi_lst_dict, isi_tup_dict, isi_non_bs, isi_bl_bs, isi_int_bs, isi_str_bs, isi_lst_bs, isi_tup_bs, g_ix_enc0, g_ix_enc1, g_ix_sp0, g_ix_sp1, g_put_sp, Int.reduceEq, dSeq, dSet, dPar, dOp, dUn, dVar, dC, dCB, dCons, dNil, dTup, dLst, dLstM, dIfS, dIf, dTest, dNot, dAnd, dOr, dAndV, dOrV, dNotV, dRet, dRetN, dEnd, dNext, dAdd, dSub, dMul, dFdiv, dMod, dPow, dNeg, dLt, dLe, dGt, dGe, dEq, dNe, eqB_ii, eqB_bb, eqB_ss, eqB_nn, eqB_ni, eqB_in, eqB_ns, eqB_sn, eqB_is, eqB_si, eqB_nb, eqB_bn, dIn, g_ix_tup, g_ix_lst, g_ix_ext, g_ln_tup, g_ln_lst, g_ln_ext, g_nn_non, g_nn_int, g_nn_tup, g_in_non, g_in_int, g_in_tup, g_ix_row0, g_ix_row1, g_ix_row2, g_ix_span0, g_ix_span1, g_nn_span, g_nn_encR, g_in_span, cAbs, cMax2, cMin2, cInt, cList, cTuple, dIsB, dNotB, dPar3, ForN, LcN, pinOf, pin2, dEnum2, dAppend, supd_same0, isi_non_int, isi_non_bool, isi_non_str, isi_non_list, isi_non_tuple, isi_non_lt, isi_bl_int, isi_bl_bool, isi_bl_str, isi_bl_list, isi_bl_tuple, isi_bl_lt, isi_int_int, isi_int_bool, isi_int_str, isi_int_list, isi_int_tuple, isi_int_lt, isi_str_int, isi_str_bool, isi_str_str, isi_str_list, isi_str_tuple, isi_str_lt, isi_lst_int, isi_lst_bool, isi_lst_str, isi_lst_list, isi_lst_tuple, isi_lst_lt, isi_tup_int, isi_tup_bool, isi_tup_str, isi_tup_list, isi_tup_tuple, isi_tup_lt, dAug, dIAdd, dIMul, dDrop, dSl, dPart, dNoPart, dRevL, dCallK, dChainR, dAsg, put_nm, put_tp, put_tl, g_put_row, g_put_span, putL_nil, putL_cons, Option.bind, seqOf, lstOf, dFor, dLc, dLcM, dItSeq, dZip, dZipS, dEnum, dRng1, dRng2, dYes, dwipe, Tgt.slots, Tgt.slotsL,
  atI_0, atI_1, atI_2, atI_3, List.getElem?_cons_zero, List.getElem?_cons_succ, List.set_cons_zero, List.set_cons_succ, decide_eq_true_eq, List.length_cons, List.length_nil, List.cons_append, List.nil_append, List.append_nil, ofString_inj, String.reduceEq, decide_true, decide_false, reduceIte, Bool.false_eq_true, Bool.not_true, Bool.not_false, eqFlat, isFlat, List.any_cons, List.any_nil, List.all_cons, List.all_nil, Bool.or_false, Bool.or_true, Bool.false_or, Bool.true_or, Bool.and_true, Bool.true_and, true_and, and_true, Nat.reduceAdd, Nat.reduceLeDiff, Int.reduceLT, Int.reduceLE, Int.reduceNeg])
/-! ### figures for rows of any begin -/
/-- what may come of rows is not too great for a row -/
structure Fine (b : Int) (kn : Kn) (rs : List Rw) (r : Rw) : Prop where
  b0 : 2 ≤ b
  b1 : b ≤ 16
  k : kn.Ok
  l : rs.length = kn.many
  ok : ∀ r, r ∈ rs → r.Ok b
  own : r.Ok b
  z1 : Sz 2500 (reachQ b kn (rs.map (spanQ b))).1
  z2 : Sz 2500 (reachQ b kn (rs.map (spanQ b))).2
  s1 : Bd ((2 ^ 60 : Int) : Rat) (((reachQ b kn (rs.map (spanQ b))).1 - r.worth b) * (b : Rat) ^ ((r.fs.length : Int) - r.e + 1))
  s2 : Bd ((2 ^ 60 : Int) : Rat) (((reachQ b kn (rs.map (spanQ b))).2 - r.worth b) * (b : Rat) ^ ((r.fs.length : Int) - r.e + 1))
/-! ### the figure least in size -/
/-- the figure least in size -/
def near : List Int → Option Int
  | [] => none
  | x :: xs => some (xs.foldl (fun a y => if y.natAbs < a.natAbs then y else a) x)
local macro_rules | `(tactic| walk_at "dg4") => `(tactic| try simp only [dFld, dSetFld, dFldAdd, dMeth, dMake, dMakeK, dFld2, dMinKey, dDispGet, dictAt, isi_non_dict, isi_bl_dict, isi_int_dict, isi_str_dict, isi_lst_dict, isi_tup_dict, isi_non_bs, isi_bl_bs, isi_int_bs, isi_str_bs, isi_lst_bs, isi_tup_bs, g_ix_enc0, g_ix_enc1, g_ix_sp0, g_ix_sp1, g_put_sp, Int.reduceEq, dSeq, dSet, dPar, dOp, dUn, dVar, dC, dCB, dCons, dNil, dTup, dLst, dLstM, dIfS, dIf, dTest, dNot, dAnd, dOr, dAndV, dOrV, dNotV, dRet, dRetN, dEnd, dNext, dAdd, dSub, dMul, dFdiv, dMod, dPow, dNeg, dLt, dLe, dGt, dGe, dEq, dNe, eqB_ii, eqB_bb, eqB_ss, eqB_nn, eqB_ni, eqB_in, eqB_ns, eqB_sn, eqB_is, eqB_si, eqB_nb, eqB_bn, dIn, g_ix_tup, g_ix_lst, g_ix_ext, g_ln_tup, g_ln_lst, g_ln_ext, g_nn_non, g_nn_int, g_nn_tup, g_in_non, g_in_int, g_in_tup, g_ix_row0, g_ix_row1, g_ix_row2, g_ix_span0, g_ix_span1, g_nn_span, g_nn_encR, g_in_span, cAbs, cMax2, cMin2, cInt, cList, cTuple, dIsB, dNotB, dPar3, ForN, LcN, pinOf, pin2, dEnum2, dAppend, supd_same0, isi_non_int, isi_non_bool, isi_non_str, isi_non_list, isi_non_tuple, isi_non_lt, isi_bl_int, isi_bl_bool, isi_bl_str, isi_bl_list, isi_bl_tuple, isi_bl_lt, isi_int_int, isi_int_bool, isi_int_str, isi_int_list, isi_int_tuple, isi_int_lt, isi_str_int, isi_str_bool, isi_str_str, isi_str_list, isi_str_tuple, isi_str_lt, isi_lst_int, isi_lst_bool, isi_lst_str, isi_lst_list, isi_lst_tuple, isi_lst_lt, isi_tup_int, isi_tup_bool, isi_tup_str, isi_tup_list, isi_tup_tuple, isi_tup_lt, dAug, dIAdd, dIMul, dDrop, dSl, dPart, dNoPart, dRevL, dCallK, dChainR, dAsg, put_nm, put_tp, put_tl, g_put_row, g_put_span, putL_nil, putL_cons, Option.bind, seqOf, lstOf, dFor, dLc, dLcM, dItSeq, dZip, dZipS, dEnum, dRng1, dRng2, dYes, dwipe, Tgt.slots, Tgt.slotsL,
  atI_0, atI_1, atI_2, atI_3, List.getElem?_cons_zero, List.getElem?_cons_succ, List.set_cons_zero, List.set_cons_succ, decide_eq_true_eq, List.length_cons, List.length_nil, List.cons_append, List.nil_append, List.append_nil, ofString_inj, String.reduceEq, decide_true, decide_false, reduceIte, Bool.false_eq_true, Bool.not_true, Bool.not_false, eqFlat, isFlat, List.any_cons, List.any_nil, List.all_cons, List.all_nil, Bool.or_false, Bool.or_true, Bool.false_or, Bool.true_or, Bool.and_true, Bool.true_and, true_and, and_true, Nat.reduceAdd, Nat.reduceLeDiff, Int.reduceLT, Int.reduceLE, Int.reduceNeg])
/-! ### a machine's state -/
structure Mst where
  figs : List Int
  rd : Option Int
def rdD : Option Int → D
  | none => .non
  | some i => .int i
def MF (b : Int) (kn : Kn) (e m : Int) (q : Addr) (rd : Option Int) : List (Str × D) :=
  [("own_base", .int b), ("own_kind", kn.d), ("own_begin", .int e), ("own_most", .int m), ("own_figures", .obj q), ("own_read", rdD rd)]
/-- a machine stands at p, its figures at q -/
structure MAt (S : Store) (p q : Addr) (b : Int) (kn : Kn) (e m : Int) (s : Mst) : Prop where
  o : S p = some (.ins (CT.at_ 0) (MF b kn e m q s.rd))
  f : S q = some (.lst (s.figs.map .int))
  ne : p ≠ q
/-- elsewhere nothing is otherwise -/
def But2 (S S' : Store) (p q : Addr) : Prop := ∀ a, a ≠ p → a ≠ q → S' a = S a
theorem But2.refl {S : Store} {p q : Addr} : But2 S S p q := fun _ _ _ => rfl
theorem But2.trans {S S1 S2 : Store} {p q : Addr} (h : But2 S S1 p q) (h2 : But2 S1 S2 p q) : But2 S S2 p q := fun a h1 h3 => (h2 a h1 h3).trans (h a h1 h3)
def cutR : Option Int → Rw → Rw
  | some k, r => r.cut k
  | none, r => r
def known (r : Rw) : Int := (r.fs.length : Int) - r.e
def ownR (e m : Int) (s : Mst) : Rw := ⟨e, m, s.figs⟩
def signs : Kn → List Int
  | .loose ws => ws
  | _ => [1]
def Ch1 : Kn → Bool
  | .loose _ => false
  | .moved _ => false
  | _ => true
def optD : Option Int → D
  | none => .non
  | some i => .int i
/-- what a step wants -/
structure StepOk (b : Int) (kn : Kn) (rs : List Rw) (e m : Int) (s : Mst) : Prop where
  l : rs.length ≤ 1000
  n : s.figs.length ≤ 900
  r : rs ≠ [] → s.rd ≠ none
  ch : Ch1 kn = true → Fine b kn (rs.map (cutR s.rd)) (ownR e m s)
  pl : Ch1 kn = false → rs.length = kn.many ∧ (∀ w, w ∈ signs kn → w.natAbs ≤ 1000)
theorem put_small {f : Str} {x : D} {fs : List (Str × D)} {n : Nat} (h : fs.length < n) : (putD f x fs).length < n + 1 := Nat.lt_of_le_of_lt (putD_len f x fs) (Nat.succ_lt_succ h)
theorem MAt.put {S : Store} {p q : Addr} {b : Int} {kn : Kn} {e m : Int} {s : Mst} (M : MAt S p q b kn e m s) (rd : Option Int) : MAt (supd S p (.ins (CT.at_ 0) (MF b kn e m q rd))) p q b kn e m ⟨s.figs, rd⟩ ∧ But2 S (supd S p (.ins (CT.at_ 0) (MF b kn e m q rd))) p q :=
  ⟨⟨supd_same, by rw [supd_ne M.ne.symm]; exact M.f, M.ne⟩, fun a h1 h2 => supd_ne h1⟩
local macro_rules | `(tactic| walk_at "dg6") => `(tactic| try simp only [isiG_non_dict, isiG_bl_dict, isiG_int_dict, isiG_str_dict, isiG_lst_dict, isiG_tup_dict, isiG_non_bs, isiG_bl_bs, isiG_int_bs, isiG_str_bs, isiG_lst_bs, isiG_tup_bs, dCall, dNewD, dDisp, dPrs, dkvsOf, dDGet, dDIn, dDGet1, dDGet2, dDPut, dDPop1, dDPop2, dDUpd, cLenD, cListD, cListDM, cDictD, cDictP, cSortDB, cSortL, dBack, dClear, dJoin, dLenO, dSlT, dSortIt, dItKeys, dItItems, dItVals, keyOf_int, keyOf_str, dDc, dDc2, dLstR1, dLstR2, dFld, dSetFld, dFldAdd, dMeth, dMake, dMakeK, dFld2, put_tl, dSeq, dSet, dPar, dOp, dUn, dVar, dC, dCB, dCons, dNil, dTup, dLst, dLstM, dIfS, dIf, dTest, dNot, dAnd, dOr, dAndV, dOrV, dNotV, dRet, dRetN, dEnd, dNext, dAdd, dSub, dMul, dFdiv, dMod, dPow, dNeg, dLt, dLe, dGt, dGe, dEq, dNe, eqB_ii, eqB_bb, eqB_ss, eqB_nn, eqB_ni, eqB_in, eqB_ns, eqB_sn, eqB_is, eqB_si, eqB_nb, eqB_bn, dIx, dIn, dIsN, dNotN, DL.isNon, cAbs, cMax2, cMin2, cInt, cLen, cList, cTuple, dIsB, dNotB, dPar3, ForN, LcN, pinOf, pin2, dEnum2, dAppend, supd_same0, isi_non_int, isi_non_bool, isi_non_str, isi_non_list, isi_non_tuple, isi_non_lt, isi_bl_int, isi_bl_bool, isi_bl_str, isi_bl_list, isi_bl_tuple, isi_bl_lt, isi_int_int, isi_int_bool, isi_int_str, isi_int_list, isi_int_tuple, isi_int_lt, isi_str_int, isi_str_bool, isi_str_str, isi_str_list, isi_str_tuple, isi_str_lt, isi_lst_int, isi_lst_bool, isi_lst_str, isi_lst_list, isi_lst_tuple, isi_lst_lt, isi_tup_int, isi_tup_bool, isi_tup_str, isi_tup_list, isi_tup_tuple, isi_tup_lt, dAug, dIAdd, dIMul, dDrop, dSl, dPart, dNoPart, dRevL, dCallK, dChainR, dAsg, put_nm, put_tp, put_tl, putL_nil, putL_cons, Option.bind, seqOf, lstOf, dFor, dLc, dLcM, dItSeq, dZip, dZipS, dEnum, dRng1, dRng2, dYes, dwipe, Tgt.slots, Tgt.slotsL,
  atI_0, atI_1, atI_2, atI_3, List.getElem?_cons_zero, List.getElem?_cons_succ, List.set_cons_zero, List.set_cons_succ, decide_eq_true_eq, List.length_cons, List.length_nil, List.cons_append, List.nil_append, List.append_nil, ofString_inj, String.reduceEq, decide_true, decide_false, reduceIte, Bool.false_eq_true, Bool.not_true, Bool.not_false, eqFlat, isFlat, List.any_cons, List.any_nil, List.all_cons, List.all_nil, Bool.or_false, Bool.or_true, Bool.false_or, Bool.true_or, Bool.and_true, Bool.true_and, true_and, and_true, Nat.reduceAdd, Nat.reduceLeDiff, Int.reduceLT, Int.reduceLE, Int.reduceNeg])
def LF (M : Mz) (y : D) : List (Str × D) := [("own_base", .int M.b), ("own_over", .int M.v), ("own_most", .int M.m), ("own_wide", .int M.W), ("own_sums", y)]
def LtAt (S : Store) (p : Addr) (M : Mz) : Prop := ∃ y, S p = some (.ins (CT.at_ 2) (LF M y))
theorem lf_base {M : Mz} {y : D} : (LF M y).lookup ("own_base" : Str) = some (D.int M.b) := rfl
theorem lf_over {M : Mz} {y : D} : (LF M y).lookup ("own_over" : Str) = some (D.int M.v) := rfl
theorem lf_most {M : Mz} {y : D} : (LF M y).lookup ("own_most" : Str) = some (D.int M.m) := rfl
theorem lf_wide {M : Mz} {y : D} : (LF M y).lookup ("own_wide" : Str) = some (D.int M.W) := rfl
theorem lf_no {M : Mz} {y : D} : (LF M y).lookup ("step_at" : Str) = none ∧ (LF M y).lookup ("figure" : Str) = none ∧ (LF M y).lookup ("settled" : Str) = none ∧ (LF M y).lookup ("first" : Str) = none ∧ (LF M y).lookup ("behind" : Str) = none := ⟨rfl, rfl, rfl, rfl, rfl⟩
def sp_Late_step_at : DSp := fun ds S P => ∃ (p : Addr) (M : Mz) (r L : Int), ds = [.obj p, .int r, .int L] ∧ LtAt S p M ∧ M.Ok ∧ -8 ≤ L ∧ L ≤ 800 ∧ r.natAbs < 2 ^ 3250 ∧ P (.tup [.int (M.here r L), .int (M.stp L), .int (M.wid L)]) S
def sp_Late_figure : DSp := fun ds S P => ∃ (p : Addr) (M : Mz) (r R L : Int), ds = [.obj p, .int r, .int L] ∧ LtAt S p M ∧ M.Ok ∧ M.Rel r R L ∧ R.natAbs < 2 ^ 3250 ∧ L ≤ 800 ∧ ∀ o, M.Nx R L o → P (optD o) S
def sp_Late_settled : DSp := fun ds S P => ∃ (p : Addr) (M : Mz) (r R L : Int), ds = [.obj p, .int r, .int L] ∧ LtAt S p M ∧ M.Ok ∧ M.Rel r R L ∧ M.Inv R L ∧ L ≤ 800 ∧ ∀ r' R' L', M.Stl R L R' L' → M.Rel r' R' L' → P (.tup [.int r', .int L']) S
def sp_Late_first : DSp := fun ds S P => ∃ (p : Addr) (M : Mz), ds = [.obj p] ∧ LtAt S p M ∧ M.Ok ∧ ∀ r' R' L', M.Stl 0 9 R' L' → M.Rel r' R' L' → P (.tup [.int r', .int L']) S
def sp_Late_behind : DSp := fun ds S P => ∃ (p : Addr) (M : Mz) (r R L c : Int), ds = [.obj p, .tup [.int r, .int L], .int c] ∧ LtAt S p M ∧ M.Ok ∧ M.Rel r R L ∧ M.Inv R L ∧ L ≤ 700 ∧ -M.W ≤ c ∧ c ≤ M.W ∧ ∀ r' R' L', M.Stl (R * M.b + c * M.b ^ 9) (L + 1) R' L' → M.Rel r' R' L' → P (.tup [.int r', .int L']) S
def rd_Late_step_at : DS :=
  (dSeq (dIfS (dTest (dOp dGt (dVar 2) (dC (.int 0)))) (dRet (dTup (dCons (dVar 1) (dCons (dOp dMul (dFld 2 "own_over" (dVar 0)) (dOp dIx (dCB sp_power (dCons (dFld 2 "own_base" (dVar 0)) (dCons (dOp dSub (dVar 2) (dC (.int 1))) dNil))) (dC (.int 0)))) (dCons (dFld 2 "own_wide" (dVar 0)) dNil))))) dNext)
  (dRet (dTup (dCons (dOp dMul (dVar 1) (dFld 2 "own_base" (dVar 0))) (dCons (dFld 2 "own_over" (dVar 0)) (dCons (dOp dMul (dFld 2 "own_wide" (dVar 0)) (dOp dIx (dCB sp_power (dCons (dFld 2 "own_base" (dVar 0)) (dCons (dOp dSub (dC (.int 1)) (dVar 2)) dNil))) (dC (.int 0)))) dNil))))))
def goal_Late_step_at : Prop := ∀ (x0 x1 x2 : D) (S : Store) (P : D → Store → Prop), sp_Late_step_at [x0, x1, x2] S P → rd_Late_step_at (dEnd P) [some x0, some x1, some x2] S
def rd_Late_figure : DS :=
  (dSeq (dAsg (.tp [(.nm 3), (.nm 4), (.nm 5)]) (dMeth 2 "step_at" sp_Late_step_at (dVar 0) (dCons (dVar 1) (dCons (dVar 2) dNil))))
  (dSeq (dIfS (dTest (dOp dLt (dOp dMul (dVar 4) (dFld 2 "own_most" (dVar 0))) (dVar 5))) (dRet (dC .non)) dNext)
  (dSeq (dSet 6 (dOp dFdiv (dOp dSub (dOp dMul (dVar 4) (dFld 2 "own_most" (dVar 0))) (dVar 5)) (dOp dSub (dFld 2 "own_base" (dVar 0)) (dC (.int 1)))))
  (dSeq (dPar 7 8 (dCons (dUn dNeg (dOp dFdiv (dOp dSub (dVar 6) (dVar 3)) (dVar 4))) (dCons (dOp dFdiv (dOp dAdd (dVar 3) (dVar 6)) (dVar 4)) dNil)))
  (dSeq (dIfS (dTest (dOp dGt (dVar 7) (dVar 8))) (dRet (dC .non)) dNext)
  (dRet (dCB cMax2 (dCons (dVar 7) (dCons (dCB cMin2 (dCons (dC (.int 0)) (dCons (dVar 8) dNil))) dNil)))))))))
def goal_Late_figure : Prop := ∀ (x0 x1 x2 : D) (S : Store) (P : D → Store → Prop), sp_Late_figure [x0, x1, x2] S P → rd_Late_figure (dEnd P) [some x0, some x1, some x2, none, none, none, none, none, none] S
def rd_Late_settled : DS :=
  (dSeq (dSet 3 (dMeth 2 "figure" sp_Late_figure (dVar 0) (dCons (dVar 1) (dCons (dVar 2) dNil))))
  (dSeq (dWhile (dTest (dOp dNotN (dVar 3) (dC .non))) (dSeq (dAsg (.tp [(.nm 4), (.nm 5), (.nm 6)]) (dMeth 2 "step_at" sp_Late_step_at (dVar 0) (dCons (dVar 1) (dCons (dVar 2) dNil))))
  (dSeq (dPar 1 2 (dCons (dOp dSub (dVar 4) (dOp dMul (dVar 3) (dVar 5))) (dCons (dOp dSub (dVar 2) (dC (.int 1))) dNil)))
  (dSet 3 (dMeth 2 "figure" sp_Late_figure (dVar 0) (dCons (dVar 1) (dCons (dVar 2) dNil)))))))
  (dRet (dTup (dCons (dVar 1) (dCons (dVar 2) dNil))))))
def goal_Late_settled : Prop := ∀ (x0 x1 x2 : D) (S : Store) (P : D → Store → Prop), sp_Late_settled [x0, x1, x2] S P → rd_Late_settled (dEnd P) [some x0, some x1, some x2, none, none, none, none] S
def rd_Late_first : DS :=
  (dSeq (dSet 1 (dC (.int 0)))
  (dSeq (dWhile (dTest (dOp dIsN (dMeth 2 "figure" sp_Late_figure (dVar 0) (dCons (dC (.int 0)) (dCons (dVar 1) dNil))) (dC .non))) (dAug 1 dIAdd (dC (.int 1))))
  (dRet (dMeth 2 "settled" sp_Late_settled (dVar 0) (dCons (dC (.int 0)) (dCons (dVar 1) dNil))))))
def goal_Late_first : Prop := ∀ (x0 : D) (S : Store) (P : D → Store → Prop), sp_Late_first [x0] S P → rd_Late_first (dEnd P) [some x0, none] S
def rd_Late_behind : DS :=
  (dSeq (dAsg (.tp [(.nm 3), (.nm 4)]) (dVar 1))
  (dSeq (dIfS (dTest (dOp dLt (dVar 4) (dC (.int 0)))) (dRet (dMeth 2 "settled" sp_Late_settled (dVar 0) (dCons (dOp dAdd (dVar 3) (dOp dMul (dVar 2) (dOp dIx (dCB sp_power (dCons (dFld 2 "own_base" (dVar 0)) (dCons (dOp dSub (dUn dNeg (dVar 4)) (dC (.int 1))) dNil))) (dC (.int 0))))) (dCons (dOp dAdd (dVar 4) (dC (.int 1))) dNil)))) dNext)
  (dRet (dMeth 2 "settled" sp_Late_settled (dVar 0) (dCons (dOp dAdd (dOp dMul (dVar 3) (dFld 2 "own_base" (dVar 0))) (dVar 2)) (dCons (dOp dAdd (dVar 4) (dC (.int 1))) dNil))))))
def goal_Late_behind : Prop := ∀ (x0 x1 x2 : D) (S : Store) (P : D → Store → Prop), sp_Late_behind [x0, x1, x2] S P → rd_Late_behind (dEnd P) [some x0, some x1, some x2, none, none] S
theorem len_Late_step_at : ∀ ds S P, sp_Late_step_at ds S P → ds.length = 3 := by rintro ds S P ⟨a, b, c, d, rfl, _⟩; rfl
theorem len_Late_figure : ∀ ds S P, sp_Late_figure ds S P → ds.length = 3 := by rintro ds S P ⟨a, b, c, d, e, rfl, _⟩; rfl
theorem len_Late_settled : ∀ ds S P, sp_Late_settled ds S P → ds.length = 3 := by rintro ds S P ⟨a, b, c, d, e, rfl, _⟩; rfl
theorem len_Late_first : ∀ ds S P, sp_Late_first ds S P → ds.length = 1 := by rintro ds S P ⟨a, b, rfl, _⟩; rfl
theorem len_Late_behind : ∀ ds S P, sp_Late_behind ds S P → ds.length = 3 := by rintro ds S P ⟨a, b, c, d, e, f, rfl, _⟩; rfl
theorem pw_enc {b k : Int} (b0 : 2 ≤ b) (k0 : 0 ≤ k) : encR ((b : Rat) ^ k) = .tup [.int (b ^ k.toNat), .int 1] := encR_zpow_nn b k k0
theorem vc_Late_step_at : goal_Late_step_at := by
  rintro x0 x1 x2 S P ⟨p, M, r, L, er, ⟨y, hp⟩, ho, l0, l1, rb, h⟩
  cases er
  unfold rd_Late_step_at
  have b0 := ho.b0; have b1 := ho.b1; have v1 := ho.v1; have v0 := ho.v0; have W0 := ho.W0; have W1 := ho.W1
  have pwb : ∀ n : Nat, n ≤ 810 → (M.b ^ n).natAbs < 2 ^ 3241 := fun n hn => by
    have h1 : M.b ^ n ≤ 2 ^ 3240 := Int.le_trans (pow16 b0 (by omega) n) (pwR (by decide) (by omega))
    have h0 := ho.pw n
    have k6 : ((2 ^ 3240 : Nat) : Int) = 2 ^ 3240 := Int.natCast_pow 2 3240
    have : ((M.b ^ n).natAbs : Int) ≤ ((2 ^ 3240 : Nat) : Int) := by rw [k6]; omega
    exact Nat.lt_of_le_of_lt (Int.ofNat_le.mp this) (Nat.pow_lt_pow_right (by decide) (by decide))
  have eb : M.b.natAbs < 2 ^ 4 := by omega
  have ev : M.v.natAbs < 2 ^ 6 := by omega
  have eW : M.W.natAbs < 2 ^ 8 := by omega
  walk_at "dg6"
  by_cases q : L > 0
  · simp only [q, decide_true, reduceIte]
    refine ⟨p, _, _, rfl, hp, lf_over, p, _, _, rfl, hp, lf_base, ?_⟩
    refine ⟨M.b, L - 1, rfl, by omega, by omega, by omega, ?_⟩
    rw [pw_enc b0 (by omega)]
    walk_at "dg6"
    refine ⟨mulB ev (pwb _ (by omega)) (by decide), p, _, _, rfl, hp, lf_wide, ?_⟩
    unfold Mz.here Mz.stp Mz.wid at h
    simp only [show (0 : Int) < L from q, reduceIte] at h
    exact h
  · simp only [q, decide_false, Bool.false_eq_true, reduceIte]
    refine ⟨p, _, _, rfl, hp, lf_base, mulB rb eb (by decide), p, _, _, rfl, hp, lf_over, p, _, _, rfl, hp, lf_wide, p, _, _, rfl, hp, lf_base, ?_⟩
    refine ⟨M.b, 1 - L, rfl, by omega, by omega, by omega, ?_⟩
    rw [pw_enc b0 (by omega)]
    walk_at "dg6"
    refine ⟨mulB eW (pwb _ (by omega)) (by decide), ?_⟩
    unfold Mz.here Mz.stp Mz.wid at h
    simp only [show ¬ (0 : Int) < L from q, reduceIte] at h
    exact h
theorem log2_lt {n k : Nat} (h : n < 2 ^ k) (hk : k ≤ 9000) (h0 : 0 < n) : n.log2 < 9000 := Nat.lt_of_lt_of_le ((Nat.log2_lt (by omega)).mpr h) hk
theorem vc_Late_figure : goal_Late_figure := by
  rintro x0 x1 x2 S P ⟨p, M, r, R, L, er, ⟨y, hp⟩, ho, hr, hi, l1, h⟩
  cases er
  unfold rd_Late_figure
  have b0 := ho.b0; have b1 := ho.b1; have m0 := ho.m0; have m1 := ho.m1
  have s0 := Mz.stp0 ho L
  have rb := hr.bd ho hi
  have sb := Mz.stp_bd ho l1
  obtain ⟨f1, f2⟩ := Mz.fig ho hr
  have em : M.m.natAbs < 2 ^ 5 := by omega
  walk_at "dg6"
  refine ⟨p, _, rfl, hp, lf_no.1, ?_⟩
  refine ⟨p, M, r, L, rfl, ⟨y, hp⟩, ho, hr.2, l1, rb, ?_⟩
  walk_at "dg6"
  refine ⟨p, _, _, rfl, hp, lf_most, ?_⟩
  walk_at "dg6"
  refine ⟨mulB sb em (by decide), ?_⟩
  by_cases q : M.stp L * M.m < M.wid L
  · simp only [q, reduceIte]
    exact h none (f1 q)
  · simp only [q, reduceIte]
    obtain ⟨room, hroom⟩ : ∃ room, room = (M.stp L * M.m - M.wid L).fdiv (M.b - 1) := ⟨_, rfl⟩
    obtain ⟨g1, g2⟩ := f2 room hroom q
    refine ⟨p, _, _, rfl, hp, lf_most, mulB sb em (by decide), p, _, _, rfl, hp, lf_base, ⟨by omega, log2_lt (k := 4) (by omega) (by decide) (by omega)⟩, ?_⟩
    have db : DivB (M.stp L) := ⟨by omega, log2_lt sb (by decide) (by omega)⟩
    refine ⟨db, db, ?_⟩
    rw [← hroom]
    generalize (room - M.here r L).fdiv (M.stp L) = lo at *
    generalize (M.here r L + room).fdiv (M.stp L) = hi at *
    by_cases z : hi < -lo
    · simp only [show (-lo > hi) = (hi < -lo) from rfl, z, reduceIte]
      exact h none (g1 z)
    · simp only [show (-lo > hi) = (hi < -lo) from rfl, z, reduceIte]
      have := h _ (g2 z)
      have e : (if (if hi < 0 then hi else 0) > -lo then (if hi < 0 then hi else 0) else -lo) = max (-lo) (min 0 hi) := by
        split <;> split at * <;> omega
      rw [e]
      exact this
theorem vc_Late_settled : goal_Late_settled := by
  rintro x0 x1 x2 S P ⟨p, M, r, R, L, er, ⟨y, hp⟩, ho, hr, hi, l1, h⟩
  cases er
  unfold rd_Late_settled
  have b0 := ho.b0; have b1 := ho.b1
  walk_at "dg6"
  refine ⟨p, _, rfl, hp, lf_no.2.1, ?_⟩
  refine ⟨p, M, r, R, L, rfl, ⟨y, hp⟩, ho, hr, hi.bd ho l1, l1, fun o ho1 => ?_⟩
  unfold dWhile
  refine ⟨fun n ρ S' => ∃ (r1 R1 L1 : Int) (o1 : Option Int) (z4 z5 z6 : Option D), ρ = [some (.obj p), some (.int r1), some (.int L1), some (optD o1), z4, z5, z6] ∧ S' = S ∧ M.Rel r1 R1 L1 ∧ M.Inv R1 L1 ∧ L1 ≤ 800 ∧ M.Nx R1 L1 o1 ∧ (∀ R' L', M.Stl R1 L1 R' L' → M.Stl R L R' L') ∧ n = (L1 + 8).toNat,
    ⟨_, r, R, L, o, none, none, none, rfl, rfl, hr, hi, l1, ho1, fun _ _ z => z, rfl⟩, ?_⟩
  rintro n ρ S' ⟨r1, R1, L1, o1, z4, z5, z6, rfl, rfl, hr1, hi1, l2, hn, hs, rfl⟩
  cases o1 with
  | none =>
    walk_at "dg6"
    exact h r1 R1 L1 (hs _ _ (.stop hn)) hr1
  | some d =>
    simp only [optD]
    walk_at "dg6"
    have rb := hr1.bd ho (hi1.bd ho l2)
    refine ⟨p, _, rfl, hp, lf_no.1, ?_⟩
    refine ⟨p, M, r1, L1, rfl, ⟨y, hp⟩, ho, hr1.2, l2, rb, ?_⟩
    walk_at "dg6"
    have hd := hn.1
    obtain ⟨e, he, e0, e1, _⟩ := Mz.near ho hi1 hd
    have d1 := hn.2 e he
    have m1 := ho.m1
    have hl := Mz.ok_lead ho hd
    refine ⟨mulB (n := 5) (by omega) (Mz.stp_bd ho l2) (by decide), ?_⟩
    refine ⟨p, _, rfl, hp, lf_no.2.1, ?_⟩
    have hr2 := Mz.rel_give ho hr1 hd
    refine ⟨p, M, _, _, _, rfl, ⟨y, hp⟩, ho, hr2, (Mz.Inv.give ho hd).bd ho (by omega), by omega, fun o2 ho2 => ?_⟩
    exact ⟨(L1 - 1 + 8).toNat, by omega, _, _, _, o2, _, _, _, rfl, rfl, hr2, Mz.Inv.give ho hd, by omega, ho2, fun R' L' z => hs _ _ (.go hn z), rfl⟩
theorem vc_Late_first : goal_Late_first := by
  rintro x0 S P ⟨p, M, er, ⟨y, hp⟩, ho, h⟩
  cases er
  unfold rd_Late_first
  have b0 := ho.b0; have b1 := ho.b1
  unfold dWhile
  walk_at "dg6"
  have rel0 : ∀ L : Int, 0 ≤ L → M.Rel 0 0 L := fun L hl => ⟨by rw [Int.zero_mul, Int.zero_mul], by omega⟩
  refine ⟨fun n ρ S' => ∃ L : Int, ρ = [some (.obj p), some (.int L)] ∧ S' = S ∧ 0 ≤ L ∧ L ≤ 9 ∧ n = (9 - L).toNat, ⟨_, 0, rfl, rfl, by omega, by omega, rfl⟩, ?_⟩
  rintro n ρ S' ⟨L, rfl, rfl, l0, l1, rfl⟩
  walk_at "dg6"
  refine ⟨p, _, rfl, hp, lf_no.2.1, ?_⟩
  refine ⟨p, M, 0, 0, L, rfl, ⟨y, hp⟩, ho, rel0 L l0, (show (0 : Nat) < 2 ^ 3250 from Nat.pow_pos (by decide)), by omega, fun o hn => ?_⟩
  by_cases q : 0 ≤ M.room L
  · cases hn.uniq ((Mz.nx0 ho).2 q)
    walk_at "dg6"
    refine ⟨p, _, rfl, hp, lf_no.2.2.1, ?_⟩
    have iv : M.Inv 0 L := by
      have u0 := ho.u0 L; have m0 := ho.m0
      unfold Mz.Inv
      rw [Int.mul_zero]
      unfold Mz.room at q
      have h1 : 0 ≤ M.u L * M.m := Int.mul_nonneg (by omega) (by omega)
      have h2 := Int.mul_le_mul_of_nonneg_right (show 1 ≤ M.b by omega) h1
      omega
    refine ⟨p, M, 0, 0, L, rfl, ⟨y, hp⟩, ho, rel0 L l0, iv, by omega, fun r' R' L' hs hr => h r' R' L' ?_ hr⟩
    have := Mz.stl0 ho (L := L) (9 - L).toNat (fun i h1 h2 => Int.le_trans q (Mz.room_mono ho h1)) hs
    rwa [show L + ((9 - L).toNat : Int) = 9 by omega] at this
  · cases hn.uniq ((Mz.nx0 ho).1 (by omega))
    have l9 : L ≠ 9 := fun z => by subst z; exact q (Mz.room9 ho)
    walk_at "dg6"
    exact ⟨(9 - (L + 1)).toNat, by omega, L + 1, rfl, by omega, by omega, rfl⟩
theorem vc_Late_behind : goal_Late_behind := by
  rintro x0 x1 x2 S P ⟨p, M, r, R, L, c, er, ⟨y, hp⟩, ho, hr, hi, l1, c0, c1, h⟩
  cases er
  unfold rd_Late_behind
  have b0 := ho.b0; have b1 := ho.b1
  have rb := hr.bd ho (hi.bd ho (by omega))
  have iv := Mz.Inv.read ho hr.2 hi c0 c1
  have rl := Mz.rel_read ho (c := c) hr
  have W1 := ho.W1
  have eb : M.b.natAbs < 2 ^ 4 := by omega
  walk_at "dg6"
  by_cases q : L < 0
  · simp only [q, reduceIte]
    rw [if_pos q] at rl
    refine ⟨p, _, rfl, hp, lf_no.2.2.1, p, _, _, rfl, hp, lf_base, ?_⟩
    have := hr.2
    refine ⟨M.b, -L - 1, rfl, by omega, by omega, by omega, ?_⟩
    rw [pw_enc b0 (by omega)]
    walk_at "dg6"
    refine ⟨mulB (n := 8) (m := 60) (by omega) ?_ (by decide), ?_⟩
    · have h1 : M.b ^ (-L - 1).toNat ≤ 2 ^ 32 := Int.le_trans (pow16 b0 (by omega) _) (pwR (by decide) (by omega))
      have h0 := ho.pw (-L - 1).toNat
      rw [show (2 : Int) ^ 32 = 4294967296 by decide] at h1
      rw [show (2 : Nat) ^ 60 = 1152921504606846976 by decide]
      omega
    exact ⟨p, M, _, _, _, rfl, ⟨y, hp⟩, ho, rl, iv, by omega, h⟩
  · simp only [q, reduceIte]
    rw [if_neg q] at rl
    refine ⟨p, _, rfl, hp, lf_no.2.2.1, p, _, _, rfl, hp, lf_base, mulB rb eb (by decide), ?_⟩
    exact ⟨p, M, _, _, _, rfl, ⟨y, hp⟩, ho, rl, iv, by omega, h⟩
abbrev KpS (S S' : Store) : Prop := ∀ a x, S a = some x → S' a = some x
/-! ### things of any make -/
def TameI : D → Prop
  | .non => True | .bl _ => True | .int _ => True | .str _ => True | .tup _ => True | _ => False
def TameR (N : Nat) : D → Prop
  | .tup es => es.length ≤ N ∧ ∀ e, e ∈ es → TameI e
  | .lst es => es.length ≤ N
  | .non => True | .bl _ => True | .int _ => True | .str _ => True | _ => False
def TameN (N : Nat) : D → Prop
  | .lst ds => ds.length ≤ 100 ∧ ∀ d, d ∈ ds → TameR N d
  | .tup _ => True | .non => True | .bl _ => True | .int _ => True | .str _ => True | _ => False
abbrev Tame : D → Prop := TameN 200
def rowsD (rs : List (List Int)) : D := .lst (rs.map fun r => .tup (r.map .int))
structure RowsAt (ms : List Int) (rs : List (List Int)) (n : Nat) : Prop where
  l : rs.length = ms.length
  n : ∀ r, r ∈ rs → r.length = n
  f : ∀ p, p ∈ rs.zip ms → ∀ x, x ∈ p.1 → -p.2 ≤ x ∧ x ≤ p.2
def colS (ws : List Int) (rs : List (List Int)) (j : Nat) : Int := ((ws.zip rs).map fun x => x.1 * x.2.getD j 0).sum
def cols (ws : List Int) (rs : List (List Int)) (n : Nat) : List Int := (List.range n).map (colS ws rs)
def wideS (ws ms : List Int) : Int := ((ws.zip ms).map fun x => (x.1.natAbs : Int) * x.2).sum
/-- sums of weights -/
structure WsOk (ws ms : List Int) : Prop where
  l : ws.length = ms.length
  l0 : 1 ≤ ws.length
  l1 : ws.length ≤ 4
  w : ∀ w, w ∈ ws → w ≠ 0 ∧ w.natAbs ≤ 90
  m : ∀ m, m ∈ ms → 1 ≤ m ∧ m ≤ 7
  W : wideS ws ms ≤ 200
def Shown (M : Mz) (ws ms : List Int) (lag : Int) (thing : D) : Prop := ∃ rs n, thing = rowsD rs ∧ RowsAt ms rs n ∧ ∃ R L, M.Led (cols ws rs n) R L ∧ lag ≤ L
def sp_summed : DSp := fun ds S P => ∃ ws ms : List Int, ds = [.tup (ws.map .int), .tup (ms.map .int)] ∧ WsOk ws ms ∧ ∀ y S', KpS S S' → P y S'
def sp_Late_init : DSp := fun ds S P => ∃ (p : Addr) (b v m : Int) (ws ms : List Int), ds = [.obj p, .int b, .tup (ws.map .int), .int v, .tup (ms.map .int), .int m] ∧ WsOk ws ms ∧ S p = some (.ins (CT.at_ 2) []) ∧ ∀ S', LtAt S' p ⟨b, v, m, wideS ws ms⟩ → (∀ a x, a ≠ p → S a = some x → S' a = some x) → P .non S'
def sp_is_numberS : DSp := fun ds S P => ∃ x : D, ds = [x] ∧ TameI x ∧ P (.bl (match x with | .int _ => true | _ => false)) S
def sp_are_rows : DSp := fun ds S P => ∃ (N : Nat) (ms : List Int) (thing : D), ds = [.tup (ms.map .int), thing] ∧ N ≤ 2000 ∧ TameN N thing ∧ 1 ≤ ms.length ∧ ms.length ≤ 4 ∧ ∀ k : Bool, (k = true ↔ ∃ rs n, thing = rowsD rs ∧ RowsAt ms rs n) → P (.bl k) S
def sp_shows_worst : DSp := fun ds S P => ∃ (b v m lag : Int) (ws ms : List Int) (thing : D), ds = [.int b, .tup (ws.map .int), .int v, .tup (ms.map .int), .int m, .int lag, thing] ∧ Tame thing ∧ WsOk ws ms ∧ (⟨b, v, m, wideS ws ms⟩ : Mz).Ok ∧
  ∀ (k : Bool) S', KpS S S' → (k = true ↔ Shown ⟨b, v, m, wideS ws ms⟩ ws ms lag thing) → P (.bl k) S'
def rd_is_numberS : DS :=
  (dRet (dAndV (dCB cIsi (dCons (dVar 0) (dCons (dC (.ty "int")) dNil))) (dNotV (dCB cIsi (dCons (dVar 0) (dCons (dC (.ty "bool")) dNil))))))
def goal_is_numberS : Prop := ∀ (x0 : D) (S : Store) (P : D → Store → Prop), sp_is_numberS [x0] S P → rd_is_numberS (dEnd P) [some x0] S
def rd_summed_1 : DS :=
  (dSeq (dLock (dSet 5 (dLc2 (dItItems (dVar 2)) (.tp [(.nm 6), (.nm 7)]) dYes (dRng2 (dCons (dUn dNeg (dVar 4)) (dCons (dOp dAdd (dVar 4) (dC (.int 1))) dNil))) (.nm 8) dYes (dTup (dCons (dVar 6) (dCons (dVar 7) (dCons (dVar 8) dNil)))))))
  (dSet 2 (dDc (dItSeq (dVar 5)) (.tp [(.nm 6), (.nm 7), (.nm 8)]) dYes (dOp dAdd (dVar 6) (dOp dMul (dVar 3) (dVar 8))) (dOp dAdd (dVar 7) (dTup (dCons (dVar 8) dNil))))))
def rd_summed : DS :=
  (dSeq (dSet 2 (dDisp [((dC (.int 0)), (dTup dNil))]))
  (dSeq (dFor (dZipS (dCons (dVar 0) (dCons (dVar 1) dNil))) (.tp [(.nm 3), (.nm 4)]) rd_summed_1)
  (dRet (dDc (dItSeq (dCB cSortDB (dCons (dVar 2) dNil))) (.nm 6) dYes (dVar 6) (dOp dDGet (dVar 2) (dVar 6))))))
def goal_summed : Prop := ∀ (x0 x1 : D) (S : Store) (P : D → Store → Prop), sp_summed [x0, x1] S P → rd_summed (dEnd P) [some x0, some x1, none, none, none, none, none, none, none] S
def rd_Late_init : DS :=
  (dSeq (dFld3 2 "own_base" "own_over" "own_most" 0 (dVar 1) (dVar 3) (dVar 5))
  (dSeq (dSetFld 2 "own_wide" (dVar 0) (dCB cSum (dCons (dLc (dZipS (dCons (dVar 2) (dCons (dVar 4) dNil))) (.tp [(.nm 6), (.nm 7)]) dYes (dOp dMul (dCB cAbs (dCons (dVar 6) dNil)) (dVar 7))) dNil)))
  (dSetFld 2 "own_sums" (dVar 0) (dCB sp_summed (dCons (dVar 2) (dCons (dVar 4) dNil))))))
def goal_Late_init : Prop := ∀ (x0 x1 x2 x3 x4 x5 : D) (S : Store) (P : D → Store → Prop), sp_Late_init [x0, x1, x2, x3, x4, x5] S P → rd_Late_init (dEnd P) [some x0, some x1, some x2, some x3, some x4, some x5, none, none] S
def rd_are_rows : DS :=
  (dSeq (dIfS (dOr (dNot (dTest (dCB cIsi (dCons (dVar 1) (dCons (dC (.ty "list")) dNil))))) (dOr (dTest (dOp dNe (dCB cLen (dCons (dVar 1) dNil)) (dCB cLen (dCons (dVar 0) dNil)))) (dNot (dTest (dCB cAll (dCons (dLc (dItSeq (dVar 1)) (.nm 2) dYes (dCB cIsi (dCons (dVar 2) (dCons (dC (.ty "tuple")) dNil)))) dNil)))))) (dRet (dC (.bl false))) dNext)
  (dSeq (dIfS (dTest (dOp dNe (dLenSc (dItSeq (dVar 1)) (.nm 2) dYes (dCB cLen (dCons (dVar 2) dNil))) (dC (.int 1)))) (dRet (dC (.bl false))) dNext)
  (dSeq (dSet 3 (dLc2 (dZipS (dCons (dVar 1) (dCons (dVar 0) dNil))) (.tp [(.nm 2), (.nm 4)]) dYes (dItSeq (dVar 2)) (.nm 5) dYes (dTup (dCons (dVar 5) (dCons (dVar 4) dNil)))))
  (dRet (dCB cAll (dCons (dLc (dItSeq (dVar 3)) (.tp [(.nm 5), (.nm 4)]) dYes (dAndV (dCB sp_is_numberS (dCons (dVar 5) dNil)) (dChainR dLe dLe (dUn dNeg (dVar 4)) (dVar 5) (dVar 4)))) dNil))))))
def goal_are_rows : Prop := ∀ (x0 x1 : D) (S : Store) (P : D → Store → Prop), sp_are_rows [x0, x1] S P → rd_are_rows (dEnd P) [some x0, some x1, none, none, none, none] S
def rd_shows_worst : DS :=
  (dSeq (dIfS (dNot (dTest (dCB sp_are_rows (dCons (dVar 3) (dCons (dVar 6) dNil))))) (dRet (dC (.bl false))) dNext)
  (dSeq (dSet 7 (dMake 2 sp_Late_init (dCons (dVar 0) (dCons (dVar 1) (dCons (dVar 2) (dCons (dVar 3) (dCons (dVar 4) dNil)))))))
  (dSeq (dSet 8 (dMeth 2 "first" sp_Late_first (dVar 7) dNil))
  (dSeq (dFor (dRng1 (dCons (dCB cLen (dCons (dOp dIx (dVar 6) (dC (.int 0))) dNil)) dNil)) (.nm 9) (dSet 8 (dMeth 2 "behind" sp_Late_behind (dVar 7) (dCons (dVar 8) (dCons (dCB cSum (dCons (dLc (dZipS (dCons (dVar 1) (dCons (dVar 6) dNil))) (.tp [(.nm 10), (.nm 11)]) dYes (dOp dMul (dVar 10) (dOp dIx (dVar 11) (dVar 9)))) dNil)) dNil)))))
  (dRet (dOp dGe (dOp dIx (dVar 8) (dC (.int 1))) (dVar 5)))))))
def goal_shows_worst : Prop := ∀ (x0 x1 x2 x3 x4 x5 x6 : D) (S : Store) (P : D → Store → Prop), sp_shows_worst [x0, x1, x2, x3, x4, x5, x6] S P → rd_shows_worst (dEnd P) [some x0, some x1, some x2, some x3, some x4, some x5, some x6, none, none, none, none, none] S
theorem len_is_numberS : ∀ ds S P, sp_is_numberS ds S P → ds.length = 1 := by rintro ds S P ⟨a, rfl, _⟩; rfl
theorem len_summed : ∀ ds S P, sp_summed ds S P → ds.length = 2 := by rintro ds S P ⟨a, b, rfl, _⟩; rfl
theorem len_Late_init : ∀ ds S P, sp_Late_init ds S P → ds.length = 6 := by rintro ds S P ⟨a, b, c, d, e, f, rfl, _⟩; rfl
theorem len_are_rows : ∀ ds S P, sp_are_rows ds S P → ds.length = 2 := by rintro ds S P ⟨n, a, b, rfl, _⟩; rfl
theorem len_shows_worst : ∀ ds S P, sp_shows_worst ds S P → ds.length = 7 := by rintro ds S P ⟨a, b, c, d, e, f, g, rfl, _⟩; rfl
theorem vc_is_numberS : goal_is_numberS := by
  rintro x0 S P ⟨x, er, ht, h⟩
  cases er
  unfold rd_is_numberS
  cases x0 with
  | lst _ => cases ht
  | ext _ => cases ht
  | obj _ => cases ht
  | ty _ => cases ht
  | tq _ => cases ht
  | _ => walk_at "dg6" <;> exact h
theorem vc_Late_init : goal_Late_init := by
  rintro x0 x1 x2 x3 x4 x5 S P ⟨p, b, v, m, ws, ms, er, hw, hp, h⟩
  cases er
  unfold rd_Late_init
  walk_at "dg6"
  simp only [dFld3]
  walk_at "dg6"
  refine ⟨p, [], rfl, hp, by decide, ?_⟩
  have hl := hw.l; have hl1 := hw.l1
  refine ⟨by rw [List.length_map, List.length_map]; exact hl, ?_⟩
  rw [zipD_map]
  refine lc_mapA _ (fun z => .int ((z.1.natAbs : Int) * z.2)) (by simp; omega) (fun z hz => ⟨_, rfl, fun Q kq => ?_⟩) ?_
  · obtain ⟨z1, z2⟩ := List.of_mem_zip hz
    have w1 := hw.w _ z1
    have m1 := hw.m _ z2
    walk_at "dg6"
    have e : (if z.1 < 0 then -z.1 else z.1) = (z.1.natAbs : Int) := by split <;> omega
    rw [e]
    exact ⟨mulS (by omega), kq⟩
  rw [show (ws.zip ms).map (fun z => D.int ((z.1.natAbs : Int) * z.2)) = ((ws.zip ms).map fun z => (z.1.natAbs : Int) * z.2).map D.int by rw [List.map_map]; rfl]
  refine sum_ok ?_
  refine ⟨p, _, rfl, supd_same, Nat.lt_of_lt_of_le (put_small (put_small (put_small (n := 1) (by decide)))) (by decide), ?_⟩
  rw [supd_supd]
  refine ⟨ws, ms, rfl, hw, fun y S' kp => ?_⟩
  refine ⟨p, _, rfl, kp _ _ supd_same, Nat.lt_of_lt_of_le (put_small (put_small (put_small (put_small (n := 1) (by decide))))) (by decide), ?_⟩
  refine h _ ⟨y, supd_same⟩ fun a x ha e => ?_
  rw [supd_ne ha]
  exact kp a x (by rw [supd_ne ha]; exact e)
def SumK (n : Nat) (kvs : List (Key × D)) : Prop := (∀ q, q ∈ kvs → ∃ (z : Int) (s : List Int), q = (Sum.inl z, .tup (s.map .int)) ∧ s.length ≤ n) ∧ (kvs.map (·.1)).Nodup ∧ kvs.length ≤ 15 ^ n
theorem dPut_mem {kvs : List (Key × D)} {k : Key} {v : D} {q : Key × D} (h : q ∈ dPut kvs k v) : q ∈ kvs ∨ q = (k, v) := by
  unfold dPut at h
  split at h
  · obtain ⟨a, ha, e⟩ := List.mem_map.mp h
    split at e
    · rename_i c
      subst c
      exact .inr e.symm
    · subst e; exact .inl ha
  · rcases List.mem_append.mp h with h | h
    · exact .inl h
    · exact .inr (List.mem_singleton.mp h)
theorem dVal_memS {κ α : Type} [DecidableEq κ] {kvs : List (κ × α)} {k : κ} {v : α} (nd : (kvs.map (·.1)).Nodup) (h : (k, v) ∈ kvs) : dVal kvs k = some v := by
  induction kvs with
  | nil => cases h
  | cons p r ih =>
    rw [dVal_cons]
    have n2 := List.nodup_cons.mp nd
    rcases List.mem_cons.mp h with rfl | h
    · rw [if_pos rfl]
    · rw [if_neg, ih n2.2 h]
      intro e
      exact n2.1 (List.mem_map.mpr ⟨_, h, e.symm⟩)
theorem vc_summed : goal_summed := by
  rintro x0 x1 S P ⟨ws, ms, er, hw, h⟩
  cases er
  unfold rd_summed
  have hl := hw.l; have hl1 := hw.l1
  walk_at "dg6"
  refine ⟨by simp, fun F hF => ⟨by rw [List.length_map, List.length_map]; exact hl, ?_⟩⟩
  rw [zipD_map]
  refine ⟨fun i ρ S' => ∃ (kvs : List (Key × D)) (F : Addr) (z3 z4 z5 z6 z7 z8 : Option D), ρ = [some (.tup (ws.map .int)), some (.tup (ms.map .int)), some (.obj F), z3, z4, z5, z6, z7, z8] ∧ S' F = some (.dK kvs) ∧ SumK i kvs ∧ KpS S S', ?_, ?_, ?_⟩
  · refine ⟨_, F, none, none, none, none, none, none, rfl, supd_same, ⟨fun q hq => ?_, by simp, by simp⟩, fun a x e => by rw [supd_ne (fun z => by subst z; rw [hF] at e; cases e)]; exact e⟩
    rw [List.mem_singleton] at hq
    subst hq
    exact ⟨0, [], rfl, Nat.le_refl _⟩
  · rintro i d ρ S' hd ⟨kvs, F1, z3, z4, z5, z6, z7, z8, rfl, hF1, hk, kp⟩
    rw [List.getElem?_map] at hd
    cases e : (ws.zip ms)[i]? with
    | none => rw [e] at hd; cases hd
    | some z =>
      rw [e] at hd
      cases hd
      have hz := List.mem_of_getElem? e
      obtain ⟨z1, z2⟩ := List.of_mem_zip hz
      have w1 := hw.w _ z1
      have m1 := hw.m _ z2
      have hi : i < 4 := by
        have := (List.getElem?_eq_some_iff.mp e).1
        rw [List.length_zip] at this
        omega
      have h15 : 15 ^ i ≤ 15 ^ 3 := Nat.pow_le_pow_right (by decide) (by omega)
      rw [show (15 : Nat) ^ 3 = 3375 by decide] at h15
      obtain ⟨k1, k2, k3⟩ := hk
      refine ⟨_, rfl, ?_⟩
      unfold rd_summed_1
      walk_at "dg6"
      refine .inr ⟨F1, kvs, hF1, fun o vs => ?_⟩
      unfold dLc2
      walk_at "dg6"
      refine ⟨F1, o, vs, kvs, rfl, supd_same, ?_⟩
      refine ⟨fun j acc S2 => S2 = supd S' F1 (.dZ o vs kvs) ∧ (∀ t, t ∈ acc → ∃ (y : Int) (s : List Int) (f : Int), t = .tup [.int y, .tup (s.map .int), .int f] ∧ s.length ≤ i ∧ -z.2 ≤ f ∧ f ≤ z.2) ∧ acc.length ≤ j * 15, ⟨rfl, by simp, by simp⟩, ?_, ?_, ?_⟩
      · rintro j acc S2 ⟨rfl, _⟩
        exact supd_same
      · rintro j d acc S2 hd ⟨rfl, ha, hb⟩
        rw [List.getElem?_map] at hd
        cases e2 : kvs[j]? with
        | none => rw [e2] at hd; cases hd
        | some q =>
          rw [e2] at hd
          cases hd
          have hj := (List.getElem?_eq_some_iff.mp e2).1
          obtain ⟨y, s, rfl, hs⟩ := k1 q (List.mem_of_getElem? e2)
          refine ⟨_, rfl, ?_⟩
          walk_at "dg6"
          refine ⟨by omega, fun n acc1 S3 => S3 = supd S' F1 (.dZ o vs kvs) ∧ (∀ t, t ∈ acc1 → ∃ (y : Int) (s : List Int) (f : Int), t = .tup [.int y, .tup (s.map .int), .int f] ∧ s.length ≤ i ∧ -z.2 ≤ f ∧ f ≤ z.2) ∧ acc1.length ≤ j * 15 + n, ⟨rfl, ha, by omega⟩, fun _ _ _ _ => trivial, ?_, ?_⟩
          · rintro n d acc1 S3 hd ⟨rfl, ha1, hb1⟩
            obtain ⟨hn, rfl⟩ := rng_get hd
            refine ⟨_, rfl, ?_⟩
            dsimp only [List.getElem?_cons_zero, List.getElem?_cons_succ, kD]
            refine ⟨by omega, rfl, fun t ht => ?_, by rw [List.length_append]; simp; omega⟩
            rcases List.mem_append.mp ht with ht | ht
            · exact ha1 t ht
            · rw [List.mem_singleton] at ht
              subst ht
              exact ⟨y, s, _, rfl, hs, by omega, by omega⟩
          · rintro acc1 S3 ⟨rfl, ha1, hb1⟩
            refine ⟨rfl, ha1, ?_⟩
            rw [rng_len] at hb1
            omega
      · rintro acc S2 ⟨rfl, ha, hb⟩
        walk_at "dg6"
        refine ⟨supd_same, ?_⟩
        rw [supd_supd, supd_id hF1]
        rw [List.length_map] at hb
        walk_at "dg6"
        refine ⟨fun j acc2 S2 => S2 = S' ∧ (∀ q, q ∈ acc2 → ∃ (z : Int) (s : List Int), q = (Sum.inl z, .tup (s.map .int)) ∧ s.length ≤ i + 1) ∧ (acc2.map (·.1)).Nodup ∧ acc2.length ≤ j, ⟨rfl, by simp, by simp, by simp⟩, fun _ _ _ _ => trivial, ?_, ?_⟩
        · rintro j d acc2 S2 hd ⟨rfl, a1, a2, a3⟩
          have hj := (List.getElem?_eq_some_iff.mp hd).1
          obtain ⟨y, s, f, rfl, hs, f0, f1⟩ := ha d (List.mem_of_getElem? hd)
          refine ⟨_, rfl, ?_⟩
          walk_at "dg6"
          refine ⟨mulS (by omega), by rw [List.length_map]; omega, _, rfl, by omega, fun q hq => ?_, dPut_nd a2, Nat.le_trans (dPut_len ..) (by omega)⟩
          rcases dPut_mem hq with hq | rfl
          · exact a1 q hq
          · exact ⟨_, s ++ [f], by rw [List.map_append]; rfl, by rw [List.length_append]; simp; omega⟩
        · rintro acc2 S2 ⟨rfl, a1, a2, a3⟩ p hp
          walk_at "dg6"
          refine ⟨acc2, p, _, _, _, _, _, _, rfl, supd_same, ⟨a1, a2, ?_⟩, fun a x e => ?_⟩
          · rw [Nat.pow_succ]; omega
          · rw [supd_ne (fun z => by subst z; rw [kp _ _ e] at hp; cases hp)]
            exact kp a x e
  · rintro ρ S' ⟨kvs, F1, z3, z4, z5, z6, z7, z8, rfl, hF1, hk, kp⟩
    walk_at "dg6"
    rw [dct_dK hF1]
    obtain ⟨k1, k2, k3⟩ := hk
    have hks : ∃ ks : List Int, kvs.map (·.1) = ks.map Sum.inl := by
      refine ⟨kvs.map fun q => match q.1 with | .inl z => z | .inr _ => 0, ?_⟩
      rw [List.map_map]
      refine List.map_congr_left fun q hq => ?_
      obtain ⟨z, s, rfl, _⟩ := k1 q hq
      rfl
    obtain ⟨ks, hks⟩ := hks
    refine ⟨ks, hks, fun ys hp _ => ?_⟩
    have hz4 : (ws.zip ms).length ≤ 4 := by rw [List.length_zip]; omega
    have h15 : 15 ^ (List.map (fun p => D.tup [D.int p.fst, D.int p.snd]) (ws.zip ms)).length ≤ 15 ^ 4 := Nat.pow_le_pow_right (by decide) (by rw [List.length_map]; exact hz4)
    rw [show (15 : Nat) ^ 4 = 50625 by decide] at h15
    have hyl : ys.length = kvs.length := by
      rw [hp.length_eq]
      have := congrArg List.length hks
      rw [List.length_map, List.length_map] at this
      exact this.symm
    refine ⟨fun j acc2 S2 => S2 = S' ∧ acc2.length ≤ j, ⟨rfl, by simp⟩, fun _ _ _ _ => trivial, ?_, ?_⟩
    · rintro j d acc2 S2 hd ⟨rfl, a3⟩
      have hj := (List.getElem?_eq_some_iff.mp hd).1
      rw [List.length_map] at hj
      rw [List.getElem?_map] at hd
      cases e2 : ys[j]? with
      | none => rw [e2] at hd; cases hd
      | some y =>
        rw [e2] at hd
        cases hd
        have hy : (Sum.inl y : Key) ∈ kvs.map (·.1) := by
          rw [hks]
          exact List.mem_map.mpr ⟨y, hp.mem_iff.mp (List.mem_of_getElem? e2), rfl⟩
        obtain ⟨q, hq, eq⟩ := List.mem_map.mp hy
        obtain ⟨z, s, rfl, _⟩ := k1 q hq
        cases eq
        refine ⟨_, rfl, ?_⟩
        walk_at "dg6"
        rw [dct_dK hF1]
        dsimp only
        rw [dVal_memS k2 hq]
        exact ⟨_, rfl, by omega, Nat.le_trans (dPut_len ..) (by omega)⟩
    · rintro acc2 S2 ⟨rfl, a3⟩ p hp
      refine h _ _ fun a x e => ?_
      rw [supd_ne (fun z => by subst z; rw [kp _ _ e] at hp; cases hp)]
      exact kp a x e
theorem dist_one {κ : Type} [DecidableEq κ] {l : List κ} : (distD l).length = 1 ↔ ∃ k, k ∈ l ∧ ∀ x, x ∈ l → x = k := by
  constructor
  · intro h
    obtain ⟨k, hk⟩ := List.length_eq_one_iff.mp h
    refine ⟨k, (distD_mem l).mp (by rw [hk]; exact List.mem_singleton.mpr rfl), fun x hx => ?_⟩
    have := (distD_mem l).mpr hx
    rw [hk] at this
    exact List.mem_singleton.mp this
  · rintro ⟨k, hk, ha⟩
    have fold : ∀ r : List κ, (∀ x, x ∈ r → x = k) → r.foldl addD [k] = [k] := fun r => by
      induction r with
      | nil => intro _; rfl
      | cons y r ih =>
        intro hr
        have : y = k := hr y (List.mem_cons_self ..)
        subst this
        rw [List.foldl_cons, show addD [y] y = [y] by unfold addD; simp]
        exact ih fun x hx => hr x (List.mem_cons_of_mem _ hx)
    cases l with
    | nil => cases hk
    | cons y r =>
      have : y = k := ha y (List.mem_cons_self ..)
      subst this
      unfold distD
      rw [List.foldl_cons, show addD [] y = [y] by unfold addD; simp, fold r fun x hx => ha x (List.mem_cons_of_mem _ hx)]
      rfl
def isTupD : D → Bool
  | .tup _ => true | _ => false
def itemsD : D → List D
  | .tup es => es | _ => []
def okF (m : Int) : D → Bool
  | .int z => decide (-m ≤ z) && decide (z ≤ m) | _ => false
def okPair : D → Bool
  | .tup [x, .int m] => okF m x | _ => false
theorem rows_iff {ms : List Int} {ds : List D} : (∃ rs n, D.lst ds = rowsD rs ∧ RowsAt ms rs n) ↔ ds.length = ms.length ∧ (∀ d, d ∈ ds → isTupD d = true) ∧ (∃ n, ∀ d, d ∈ ds → (itemsD d).length = n) ∧ ∀ p, p ∈ ds.zip ms → ∀ x, x ∈ itemsD p.1 → okF p.2 x = true := by
  constructor
  · rintro ⟨rs, n, e, h⟩
    cases e
    refine ⟨by rw [List.length_map]; exact h.l, fun d hd => ?_, ⟨n, fun d hd => ?_⟩, fun p hp x hx => ?_⟩
    · obtain ⟨r, _, rfl⟩ := List.mem_map.mp hd; rfl
    · obtain ⟨r, hr, rfl⟩ := List.mem_map.mp hd
      show (r.map D.int).length = n
      rw [List.length_map]; exact h.n r hr
    · rw [List.zip_map_left] at hp
      obtain ⟨q, hq, rfl⟩ := List.mem_map.mp hp
      obtain ⟨z, hz, rfl⟩ := List.mem_map.mp (show x ∈ q.1.map D.int from hx)
      have := h.f q hq z hz
      show (decide (-q.2 ≤ z) && decide (z ≤ q.2)) = true
      simp [this]
  · rintro ⟨hl, ht, ⟨n, hn⟩, hf⟩
    obtain ⟨rs, hrs, _⟩ := ex_map (f := fun r : List Int => D.tup (r.map D.int)) (R := fun _ => True) (ys := ds) fun d hd => by
      obtain ⟨i, hi, e⟩ := List.getElem_of_mem hd
      have hp : (d, ms[i]'(by omega)) ∈ ds.zip ms := by
        rw [← e]
        exact List.mem_of_getElem? (i := i) (by rw [List.getElem?_zip_eq_some]; exact ⟨List.getElem?_eq_getElem hi, List.getElem?_eq_getElem (by omega)⟩)
      have h1 := ht d hd
      cases d with
      | tup es =>
        obtain ⟨r, hr, _⟩ := ex_map (f := D.int) (R := fun _ => True) (ys := es) fun x hx => by
          have := hf _ hp x hx
          cases x with
          | int z => exact ⟨z, rfl, trivial⟩
          | _ => cases this
        exact ⟨r, by rw [hr], trivial⟩
      | _ => cases h1
    subst hrs
    refine ⟨rs, n, rfl, by rw [List.length_map] at hl; exact hl, fun r hr => ?_, fun p hp x hx => ?_⟩
    · have := hn _ (List.mem_map.mpr ⟨r, hr, rfl⟩)
      have h2 : (r.map D.int).length = n := this
      rwa [List.length_map] at h2
    · have h1 : (D.tup (p.1.map D.int), p.2) ∈ (rs.map fun r : List Int => D.tup (r.map D.int)).zip ms := by
        rw [List.zip_map_left]; exact List.mem_map.mpr ⟨p, hp, rfl⟩
      have h2 : (decide (-p.2 ≤ x) && decide (x ≤ p.2)) = true := hf _ h1 (.int x) (List.mem_map.mpr ⟨x, hx, rfl⟩)
      simpa using h2
theorem vc_are_rows : goal_are_rows := by
  rintro x0 x1 S P ⟨N, ms, thing, er, hN, ht, l0, l1, h⟩
  cases er
  unfold rd_are_rows
  have bad : (∀ ds, x1 ≠ .lst ds) → P (.bl false) S := fun hn => h false ⟨fun z => (by cases z), fun ⟨rs, n, e, _⟩ => absurd e (hn _)⟩
  cases x1 with
  | ext _ => cases ht
  | obj _ => cases ht
  | ty _ => cases ht
  | tq _ => cases ht
  | lst ds =>
    clear bad
    obtain ⟨hl, hd⟩ := ht
    simp only [rows_iff] at h
    walk_at "dg6"
    rw [List.length_map]
    by_cases c1 : ds.length = ms.length
    · simp only [c1, decide_true, Bool.not_true, Bool.false_eq_true, reduceIte]
      refine all_bools isTupD (by omega) (fun d hm => ⟨_, rfl, fun Q q => ?_⟩) ?_
      · have := hd d hm
        cases d with
        | ext _ => cases this
        | obj _ => cases this
        | ty _ => cases this
        | tq _ => cases this
        | _ => walk_at "dg6" <;> exact q
      walk_at "dg6"
      by_cases c2 : ds.all isTupD = true
      · simp only [c2, Bool.not_true, Bool.false_eq_true, reduceIte]
        have ct := List.all_eq_true.mp c2
        unfold dLenSc
        walk_at "dg6"
        refine ⟨by omega, fun i acc S' => S' = S ∧ acc = (ds.take i).map fun d => (Sum.inl ((itemsD d).length : Int) : Key), ⟨rfl, rfl⟩, fun _ _ _ _ => trivial, ?_, ?_⟩
        · rintro i d acc S' hd2 ⟨rfl, rfl⟩
          refine ⟨_, rfl, ?_⟩
          have := ct d (List.mem_of_getElem? hd2)
          cases d with
          | tup es =>
            walk_at "dg6"
            refine ⟨_, rfl, ?_⟩
            rw [List.take_add_one, hd2, List.map_append]
            rfl
          | _ => cases this
        · rintro acc S' ⟨rfl, rfl⟩
          rw [List.take_length, eqB_ii]
          dsimp only
          have hdist : ((distD (ds.map fun d => (Sum.inl ((itemsD d).length : Int) : Key))).length : Int) = 1 ↔ ∃ n, ∀ d, d ∈ ds → (itemsD d).length = n := by
            constructor
            · intro q
              obtain ⟨k, hk, ha⟩ := dist_one.mp (show (distD (ds.map fun d => (Sum.inl ((itemsD d).length : Int) : Key))).length = 1 by omega)
              obtain ⟨d0, _, rfl⟩ := List.mem_map.mp hk
              refine ⟨(itemsD d0).length, fun d hd => ?_⟩
              have := ha _ (List.mem_map.mpr ⟨d, hd, rfl⟩)
              simp only [Sum.inl.injEq] at this
              omega
            · rintro ⟨n, hn⟩
              have : (distD (ds.map fun d => (Sum.inl ((itemsD d).length : Int) : Key))).length = 1 := dist_one.mpr ⟨Sum.inl (n : Int), by
                cases ds with
                | nil => simp at c1; omega
                | cons d0 r => exact List.mem_map.mpr ⟨d0, List.mem_cons_self .., by rw [hn d0 (List.mem_cons_self ..)]⟩, fun x hx => by
                obtain ⟨d, hd, rfl⟩ := List.mem_map.mp hx
                rw [hn d hd]⟩
              omega
          by_cases c3 : ((distD (ds.map fun d => (Sum.inl ((itemsD d).length : Int) : Key))).length : Int) = 1
          · simp only [c3, decide_true, Bool.not_true, Bool.false_eq_true, reduceIte]
            have c3' := hdist.mp c3
            unfold dLc2
            walk_at "dg6"
            rw [List.length_map]
            refine ⟨c1, ?_⟩
            have hzip : zipD ds (ms.map D.int) = (ds.zip ms).map fun p => .tup [p.1, .int p.2] := by
              have := zipD_map (id : D → D) D.int ds ms
              rwa [List.map_id] at this
            rw [hzip]
            refine ⟨fun i acc S2 => S2 = S' ∧ acc = ((ds.zip ms).take i).flatMap (fun p => (itemsD p.1).map fun x => D.tup [x, .int p.2]) ∧ acc.length ≤ i * 2000, ⟨rfl, rfl, by simp⟩, fun _ _ _ _ => trivial, ?_, ?_⟩
            · rintro i d acc S2 hd2 ⟨rfl, ha, hb⟩
              rw [List.getElem?_map] at hd2
              cases e : (ds.zip ms)[i]? with
              | none => rw [e] at hd2; cases hd2
              | some z =>
                rw [e] at hd2
                cases hd2
                have hi := (List.getElem?_eq_some_iff.mp e).1
                rw [List.length_zip] at hi
                obtain ⟨z1, z2⟩ := List.of_mem_zip (List.mem_of_getElem? e)
                have t1 := ct _ z1
                have t2 := hd _ z1
                obtain ⟨zd, zm⟩ := z
                dsimp only at *
                cases zd with
                | tup es =>
                  obtain ⟨l2, _⟩ := t2
                  refine ⟨_, rfl, ?_⟩
                  walk_at "dg6"
                  refine ⟨fun j acc1 S3 => S3 = S2 ∧ acc1 = acc ++ (es.take j).map (fun x => D.tup [x, .int zm]) ∧ acc1.length ≤ i * 2000 + j, ⟨rfl, by simp, by omega⟩, fun _ _ _ _ => trivial, ?_, ?_⟩
                  · rintro j d1 acc1 S3 hd3 ⟨rfl, hb1, hb2⟩
                    have hj := (List.getElem?_eq_some_iff.mp hd3).1
                    refine ⟨_, rfl, ?_⟩
                    dsimp only [List.getElem?_cons_zero, List.getElem?_cons_succ]
                    refine ⟨by omega, rfl, ?_, by rw [List.length_append]; simp; omega⟩
                    rw [hb1, List.take_add_one, hd3, List.map_append, List.append_assoc]
                    rfl
                  · rintro acc1 S3 ⟨rfl, hb1, hb2⟩
                    refine ⟨rfl, ?_, by omega⟩
                    rw [hb1, List.take_length, List.take_add_one, e, List.flatMap_append, ha]
                    simp [itemsD]
                | _ => cases t1
            · rintro acc S2 ⟨rfl, ha, hb⟩
              rw [List.length_map, List.take_length] at ha
              rw [List.length_map, List.length_zip] at hb
              have mem : ∀ y, y ∈ acc → ∃ p x, p ∈ ds.zip ms ∧ x ∈ itemsD p.1 ∧ TameI x ∧ y = D.tup [x, .int p.2] := fun y hy => by
                rw [ha] at hy
                obtain ⟨p, hp, hy⟩ := List.mem_flatMap.mp hy
                obtain ⟨x, hx, rfl⟩ := List.mem_map.mp hy
                have hp1 := (List.of_mem_zip (show (p.1, p.2) ∈ ds.zip ms from hp)).1
                have t1 := ct _ hp1
                have t2 := hd _ hp1
                refine ⟨p, x, hp, hx, ?_, rfl⟩
                cases e1 : p.1 with
                | tup es => rw [e1] at t2 hx; exact t2.2 x hx
                | _ => rw [e1] at t1; cases t1
              refine all_bools okPair (by omega) (fun y hy => ?_) ?_
              · obtain ⟨p, x, hp, hx, hT, rfl⟩ := mem y hy
                refine ⟨_, rfl, fun Q q => ?_⟩
                walk_at "dg6"
                refine ⟨x, rfl, hT, ?_⟩
                cases x with
                | int z =>
                  walk_at "dg6"
                  by_cases q1 : -p.2 ≤ z
                  · simp only [q1, decide_true, reduceIte]
                    have e1 : okPair (D.tup [.int z, .int p.2]) = decide (z ≤ p.2) := by
                      show (decide (-p.2 ≤ z) && decide (z ≤ p.2)) = decide (z ≤ p.2)
                      simp [q1]
                    rw [e1] at q
                    exact q
                  · simp only [q1, decide_false, Bool.false_eq_true, reduceIte]
                    have e1 : okPair (D.tup [.int z, .int p.2]) = false := by
                      show (decide (-p.2 ≤ z) && decide (z ≤ p.2)) = false
                      simp [q1]
                    rw [e1] at q
                    exact q
                | _ => walk_at "dg6"; exact q
              · refine h _ ⟨fun z => ⟨c1, ct, c3', fun p hp x hx => ?_⟩, fun ⟨_, _, _, z⟩ => List.all_eq_true.mpr fun y hy => ?_⟩
                · have := List.all_eq_true.mp z (D.tup [x, .int p.2]) (by rw [ha]; exact List.mem_flatMap.mpr ⟨p, hp, List.mem_map.mpr ⟨x, hx, rfl⟩⟩)
                  exact this
                · obtain ⟨p, x, hp, hx, _, rfl⟩ := mem y hy
                  exact z p hp x hx
          · simp only [c3, decide_false, Bool.not_false, reduceIte]
            exact h false ⟨fun z => (by cases z), fun ⟨_, _, z, _⟩ => absurd (hdist.mpr z) c3⟩
      · simp only [Bool.not_eq_true] at c2
        simp only [c2, Bool.not_false, reduceIte]
        refine h false ⟨fun z => (by cases z), fun ⟨_, z, _⟩ => ?_⟩
        have : ds.all isTupD = true := List.all_eq_true.mpr z
        rw [c2] at this; cases this
    · have c1' : ¬ (ds.length : Int) = (ms.length : Int) := by omega
      simp only [c1', decide_false, Bool.not_false, reduceIte]
      exact h false ⟨fun z => (by cases z), fun ⟨z, _⟩ => absurd z c1⟩
  | _ =>
    walk_at "dg6"
    first | exact bad fun ds z => by cases z | trace_state
theorem wideS_pos {ws ms : List Int} (h : WsOk ws ms) : 1 ≤ wideS ws ms := by
  obtain ⟨w, ws', rfl⟩ : ∃ w ws', ws = w :: ws' := by
    cases ws with
    | nil => have := h.l0; simp at this
    | cons w ws' => exact ⟨w, ws', rfl⟩
  obtain ⟨m, ms', rfl⟩ : ∃ m ms', ms = m :: ms' := by
    cases ms with
    | nil => have := h.l; simp at this
    | cons m ms' => exact ⟨m, ms', rfl⟩
  have h1 := h.w w (List.mem_cons_self ..)
  have h2 := h.m m (List.mem_cons_self ..)
  have h3 : 0 ≤ ((ws'.zip ms').map fun x => (x.1.natAbs : Int) * x.2).sum := by
    have : ∀ l : List (Int × Int), (∀ p, p ∈ l → 0 ≤ p.2) → 0 ≤ (l.map fun x => (x.1.natAbs : Int) * x.2).sum := fun l => by
      induction l with
      | nil => intro _; simp
      | cons p l ih =>
        intro hp
        rw [List.map_cons, List.sum_cons]
        have := ih fun q hq => hp q (List.mem_cons_of_mem _ hq)
        have h0 := Int.mul_nonneg (show (0 : Int) ≤ (p.1.natAbs : Int) by omega) (hp p (List.mem_cons_self ..))
        omega
    refine this _ fun p hp => ?_
    have := h.m p.2 (List.mem_cons_of_mem _ (List.of_mem_zip (show (p.1, p.2) ∈ ws'.zip ms' from hp)).2)
    omega
  unfold wideS
  rw [List.zip_cons_cons, List.map_cons, List.sum_cons]
  have h4 := Int.mul_le_mul (show (1 : Int) ≤ (w.natAbs : Int) by omega) h2.1 (by omega) (by omega)
  dsimp only
  omega
theorem col_wide : ∀ {ws ms : List Int} {rs : List (List Int)} {n j : Nat}, ws.length = ms.length → RowsAt ms rs n → j < n → -(wideS ws ms) ≤ colS ws rs j ∧ colS ws rs j ≤ wideS ws ms
  | [], ms, rs, n, j, _, _, _ => by unfold colS wideS; simp
  | w :: ws, [], rs, n, j, h, _, _ => by simp at h
  | w :: ws, m :: ms, [], n, j, h, hr, _ => by have := hr.l; simp at this
  | w :: ws, m :: ms, r :: rs, n, j, h, hr, hj => by
    have h1 := hr.f (r, m) (by rw [List.zip_cons_cons]; exact List.mem_cons_self ..)
    have hn := hr.n r (List.mem_cons_self ..)
    have ih := col_wide (ws := ws) (ms := ms) (rs := rs) (n := n) (j := j) (by simpa using h) ⟨by have := hr.l; simpa using this, fun x hx => hr.n x (List.mem_cons_of_mem _ hx), fun p hp => hr.f p (by rw [List.zip_cons_cons]; exact List.mem_cons_of_mem _ hp)⟩ hj
    unfold colS wideS at *
    rw [List.zip_cons_cons, List.map_cons, List.sum_cons, List.zip_cons_cons, List.map_cons, List.sum_cons]
    dsimp only
    have hx : r.getD j 0 ∈ r := by
      rw [List.getD_eq_getElem?_getD, List.getElem?_eq_getElem (by omega)]
      exact List.getElem_mem _
    have h2 := h1 _ hx
    dsimp only at h2
    generalize r.getD j 0 = f at *
    have h3 : (w * f).natAbs ≤ w.natAbs * m.natAbs := by
      rw [Int.natAbs_mul]
      exact Nat.mul_le_mul_left _ (by omega)
    have h4 : ((w.natAbs * m.natAbs : Nat) : Int) = (w.natAbs : Int) * m := by
      rw [Int.natCast_mul]
      congr 1
      omega
    omega
theorem cols_wide {ws ms : List Int} {rs : List (List Int)} {n : Nat} (h : ws.length = ms.length) (hr : RowsAt ms rs n) : ∀ c, c ∈ cols ws rs n → -(wideS ws ms) ≤ c ∧ c ≤ wideS ws ms := fun c hc => by
  obtain ⟨j, hj, rfl⟩ := List.mem_map.mp hc
  exact col_wide h hr (List.mem_range.mp hj)
theorem cols_succ (ws : List Int) (rs : List (List Int)) (n : Nat) : cols ws rs (n + 1) = cols ws rs n ++ [colS ws rs n] := by
  unfold cols
  rw [List.range_succ, List.map_append]
  rfl
theorem vc_shows_worst : goal_shows_worst := by
  rintro x0 x1 x2 x3 x4 x5 x6 S P ⟨b, v, m, lag, ws, ms, thing, er, ht, hw, ho, h⟩
  cases er
  unfold rd_shows_worst
  have hl := hw.l; have hl0 := hw.l0; have hl1 := hw.l1
  walk_at "dg6"
  refine ⟨200, ms, x6, rfl, by decide, ht, by omega, by omega, fun k hk => ?_⟩
  walk_at "dg6"
  cases k with
  | false =>
    walk_at "dg6"
    refine h false S (fun _ _ e => e) ⟨fun z => (by cases z), fun ⟨rs, n, e, hr, _⟩ => ?_⟩
    exact absurd (hk.mpr ⟨rs, n, e, hr⟩) (by simp)
  | true =>
    obtain ⟨rs, n, rfl, hr⟩ := hk.mp rfl
    walk_at "dg6"
    refine fun p hp => ⟨p, b, v, m, ws, ms, rfl, hw, supd_same, fun S1 hL hk1 => ⟨rfl, ?_⟩⟩
    have kp : KpS S S1 := fun a x e => hk1 a x (fun z => by subst z; rw [hp] at e; cases e) (by rw [supd_ne (fun z => by subst z; rw [hp] at e; cases e)]; exact e)
    obtain ⟨y, hL'⟩ := hL
    walk_at "dg6"
    refine ⟨p, _, rfl, hL', lf_no.2.2.2.1, ?_⟩
    refine ⟨p, _, rfl, ⟨y, hL'⟩, ho, fun r0 R0 L0 hs hrel => ?_⟩
    obtain ⟨M, hM⟩ : ∃ M : Mz, M = ⟨b, v, m, wideS ws ms⟩ := ⟨_, rfl⟩
    have hMW : M.W = wideS ws ms := by rw [hM]
    rw [← hM] at hs hrel hL' h ho
    clear hM hk hk1
    obtain ⟨r, rs', rfl⟩ : ∃ r rs', rs = r :: rs' := by
      cases rs with
      | nil => have := hr.l; simp at this; omega
      | cons r rs' => exact ⟨r, rs', rfl⟩
    have hn := hr.n r (List.mem_cons_self ..)
    have hn2 : n ≤ 200 := by
      have := (ht.2 (.tup (r.map .int)) (List.mem_map.mpr ⟨r, List.mem_cons_self .., rfl⟩)).1
      rw [List.length_map] at this
      omega
    unfold rowsD at *
    rw [List.map_cons]
    walk_at "dg6"
    rw [List.length_map, hn]
    have hrl := hr.l
    have hcw := cols_wide hl hr
    refine ⟨by omega, by omega, fun i ρ S' => S' = S1 ∧ ∃ (r1 R1 L1 : Int) (z9 z10 z11 : Option D), ρ = [some (.int b), some (.tup (ws.map .int)), some (.int v), some (.tup (ms.map .int)), some (.int m), some (.int lag), some (.lst (.tup (r.map .int) :: rs'.map fun r => .tup (r.map .int))), some (.obj p), some (.tup [.int r1, .int L1]), z9, z10, z11] ∧ M.Led (cols ws (r :: rs') i) R1 L1 ∧ M.Rel r1 R1 L1,
      ⟨rfl, r0, R0, L0, _, _, _, rfl, .nil hs, hrel⟩, ?_, ?_⟩
    · rintro i d ρ S' hd ⟨rfl, r1, R1, L1, z9, z10, z11, rfl, hled, hrl1⟩
      obtain ⟨hi, rfl⟩ := rng_get hd
      have hi2 : i < n := by omega
      refine ⟨_, rfl, ?_⟩
      walk_at "dg6"
      refine ⟨p, _, rfl, hL', lf_no.2.2.2.2, ?_⟩
      have hmap : D.tup (r.map .int) :: rs'.map (fun r => D.tup (r.map .int)) = (r :: rs').map (fun r => D.tup (r.map .int)) := rfl
      refine ⟨by simp at hrl ⊢; omega, ?_⟩
      rw [hmap, zipD_map]
      refine lc_mapA _ (fun z => .int (z.1 * z.2.getD i 0)) (by simp; omega) (fun z hz => ⟨_, rfl, fun Q kq => ?_⟩) ?_
      · obtain ⟨q1, q2⟩ := List.of_mem_zip hz
        have w1 := hw.w _ q1
        have ln := hr.n _ q2
        walk_at "dg6"
        have hi3 : i < z.2.length := by omega
        rw [atI_at (by omega) (by rw [List.length_map]; omega), List.getElem?_map, show ((0 : Int) + (i : Int)).toNat = i by omega, List.getElem?_eq_getElem hi3]
        dsimp only [Option.map]
        have e1 : z.2.getD i 0 = z.2[i] := by rw [List.getD_eq_getElem?_getD, List.getElem?_eq_getElem hi3]; rfl
        rw [e1] at kq
        refine ⟨mulB (n := 7) (m := 60) (by omega) ?_ (by decide), kq⟩
        obtain ⟨k, hk, ek⟩ := List.getElem_of_mem q2
        have hz2 : (z.2, ms[k]'(by omega)) ∈ (r :: rs').zip ms := List.mem_of_getElem? (i := k) (by rw [List.getElem?_zip_eq_some]; exact ⟨by rw [← ek]; exact List.getElem?_eq_getElem hk, List.getElem?_eq_getElem (by omega)⟩)
        have hf := hr.f _ hz2 _ (List.getElem_mem hi3)
        have hm := hw.m _ (List.getElem_mem (show k < ms.length by omega))
        dsimp only at hf
        rw [show (2 : Nat) ^ 60 = 1152921504606846976 by decide]
        omega
      rw [show (ws.zip (r :: rs')).map (fun z => D.int (z.1 * z.2.getD i 0)) = ((ws.zip (r :: rs')).map fun z => z.1 * z.2.getD i 0).map D.int by rw [List.map_map]; rfl]
      refine sum_ok ?_
      have hcm : ∀ c, c ∈ cols ws (r :: rs') i → -M.W ≤ c ∧ c ≤ M.W := fun c hc => by
        obtain ⟨j, hj, rfl⟩ := List.mem_map.mp hc
        rw [hMW]
        exact col_wide hl hr (by have := List.mem_range.mp hj; omega)
      obtain ⟨iv, l8, lu⟩ := hled.keep ho hcm
      have hlen : (cols ws (r :: rs') i).length = i := by unfold cols; rw [List.length_map, List.length_range]
      have c01 := col_wide (j := i) hl hr hi2
      rw [← hMW] at c01
      refine ⟨p, M, r1, R1, L1, colS ws (r :: rs') i, rfl, ⟨y, hL'⟩, ho, hrl1, iv, by omega, c01.1, c01.2, fun r' R' L' hs' hr' => ?_⟩
      exact ⟨rfl, r', R', L', _, _, _, rfl, by rw [cols_succ]; exact .more hled hs', hr'⟩
    · rintro ρ S' ⟨rfl, r1, R1, L1, z9, z10, z11, rfl, hled, hrl1⟩
      walk_at "dg6"
      refine h _ _ kp ?_
      have hlen : (rng 0 ((n : Int)).toNat).length = n := by rw [rng_len]; omega
      rw [hlen] at hled
      rw [decide_eq_true_iff]
      constructor
      · exact fun q => ⟨r :: rs', n, rfl, hr, R1, L1, hled, q⟩
      · rintro ⟨rs2, n2, e2, hr2, R2, L2, hled2, q⟩
        have e3 : rs2 = r :: rs' := by
          have e4 := D.lst.inj e2
          refine ((List.map_inj_right fun a b e => ?_).mp e4).symm
          have e5 := D.tup.inj e
          exact (List.map_inj_right fun x y z => D.int.inj z).mp e5
        subst e3
        have : n2 = n := by rw [← hr2.n r (List.mem_cons_self ..), hn]
        subst this
        obtain ⟨_, rfl⟩ := hled.uniq hled2
        exact q
/-- states that rows of these sums lead to -/
def Mz.Rc (M : Mz) (T : Int → Prop) (R L : Int) : Prop := ∃ cs, (∀ c, c ∈ cs → T c) ∧ M.Led cs R L
theorem Mz.Rc.start {M : Mz} {T : Int → Prop} {R L : Int} (h : M.Stl 0 9 R L) : M.Rc T R L := ⟨[], fun c h => (by cases h), .nil h⟩
theorem Mz.Rc.more {M : Mz} {T : Int → Prop} {R L c R' L' : Int} (h : M.Rc T R L) (hc : T c) (s : M.Stl (R * M.b + c * M.b ^ 9) (L + 1) R' L') : M.Rc T R' L' := by
  obtain ⟨cs, h1, h2⟩ := h
  refine ⟨cs ++ [c], fun x hx => ?_, .more h2 s⟩
  rcases List.mem_append.mp hx with m | m
  · exact h1 x m
  · rw [List.mem_singleton.mp m]; exact hc
/-- what holds the start and is closed holds all -/
theorem Mz.Rc.all {M : Mz} {T : Int → Prop} {K : Int → Int → Prop} (h0 : ∀ R L, M.Stl 0 9 R L → K R L) (h1 : ∀ R L c R' L', K R L → T c → M.Stl (R * M.b + c * M.b ^ 9) (L + 1) R' L' → K R' L') {R L : Int} (h : M.Rc T R L) : K R L := by
  obtain ⟨cs, hc, hl⟩ := h
  induction hl with
  | nil s => exact h0 _ _ s
  | @more cs c R L R' L' a s ih =>
    exact h1 _ _ _ _ _ (ih fun x hx => hc x (List.mem_append_left _ hx)) (hc c (List.mem_append_right _ (List.mem_singleton.mpr rfl))) s
theorem Mz.Stl.end_ {M : Mz} {R L R' L' : Int} (h : M.Stl R L R' L') : M.Nx R' L' none := by
  induction h with
  | stop n => exact n
  | go _ _ ih => exact ih
/-- where there is room enough a figure is right -/
theorem Mz.ok_near {M : Mz} (ho : M.Ok) {R L : Int} (h : (M.b - 1) * M.u L ≤ 2 * M.room L) : ∃ d, M.ok R L d := by
  have u0 := ho.u0 L
  have b0 := ho.b0
  refine ⟨(2 * R + M.u L).fdiv (2 * M.u L), ?_⟩
  obtain ⟨d, hd⟩ : ∃ d, d = (2 * R + M.u L).fdiv (2 * M.u L) := ⟨_, rfl⟩
  rw [← hd]
  have e := Int.mul_fdiv_add_fmod (2 * R + M.u L) (2 * M.u L)
  have m0 := Int.fmod_nonneg_of_pos (2 * R + M.u L) (show 0 < 2 * M.u L by omega)
  have m1 := Int.fmod_lt_of_pos (2 * R + M.u L) (show 0 < 2 * M.u L by omega)
  rw [← hd] at e
  have e2 : 2 * M.u L * d = 2 * (d * M.u L) := by rw [Int.mul_assoc, Int.mul_comm (M.u L)]
  rw [e2] at e
  unfold Mz.ok
  have a1 : 2 * (R - d * M.u L) ≤ M.u L := by omega
  have a2 : -(M.u L) ≤ 2 * (R - d * M.u L) := by omega
  generalize R - d * M.u L = x at *
  have k1 := Int.mul_le_mul_of_nonneg_left a1 (show 0 ≤ M.b - 1 by omega)
  have k2 := Int.mul_le_mul_of_nonneg_left a2 (show 0 ≤ M.b - 1 by omega)
  rw [show (M.b - 1) * (2 * x) = 2 * ((M.b - 1) * x) by rw [← Int.mul_assoc, Int.mul_comm _ 2, Int.mul_assoc]] at k1 k2
  rw [Int.mul_neg] at k2
  generalize (M.b - 1) * M.u L = y at *
  generalize (M.b - 1) * x = z at *
  omega
/-- behind all that is given the lead is no greater than any told one -/
theorem Mz.lead_le {M : Mz} (ho : M.Ok) (hm : M.b ≤ 2 * M.m) {D : Nat} (hD : 2 * M.W ≤ M.v * M.b ^ D * (2 * M.m - M.b + 1)) {R L : Int} (h : M.Nx R L none) : L ≤ D := by
  apply Decidable.byContradiction
  intro hl
  have b0 := ho.b0; have v0 := ho.v0; have p9 := ho.pw 9
  obtain ⟨d, hd⟩ := Mz.ok_near ho (R := R) (L := L) (by
    have e : M.u L = M.v * M.b ^ (L - 1).toNat * M.b ^ 9 := by
      unfold Mz.u
      rw [Int.mul_assoc, ← Int.pow_add, show (L - 1).toNat + 9 = (L + 8).toNat by omega]
    have k : M.v * M.b ^ D ≤ M.v * M.b ^ (L - 1).toNat := Int.mul_le_mul_of_nonneg_left (pwR (by omega) (by omega)) (by omega)
    have k2 := Int.mul_le_mul_of_nonneg_right k (show 0 ≤ 2 * M.m - M.b + 1 by omega)
    have k3 : 2 * M.W ≤ M.v * M.b ^ (L - 1).toNat * (2 * M.m - M.b + 1) := Int.le_trans hD k2
    have k4 := Int.mul_le_mul_of_nonneg_right k3 (show 0 ≤ M.b ^ 9 by omega)
    unfold Mz.room
    rw [e]
    generalize M.v * M.b ^ (L - 1).toNat = t at *
    generalize M.b ^ 9 = q at *
    have f1 : t * (2 * M.m - M.b + 1) * q = 2 * (t * q * M.m) - (M.b - 1) * (t * q) := by
      rw [show 2 * M.m - M.b + 1 = 2 * M.m - (M.b - 1) by omega, Int.mul_sub, Int.sub_mul]
      congr 1
      · rw [show t * (2 * M.m) = 2 * (t * M.m) by rw [← Int.mul_assoc, Int.mul_comm t 2, Int.mul_assoc], Int.mul_assoc, Int.mul_right_comm]
      · rw [Int.mul_comm t, Int.mul_assoc]
    rw [f1, Int.mul_assoc] at k4
    omega)
  exact h d hd
/-- no lead is greater than 9 -/
theorem Mz.lead9 {M : Mz} (ho : M.Ok) (hm : M.b ≤ 2 * M.m) {R L : Int} (h : M.Nx R L none) : L ≤ 9 := by
  refine Mz.lead_le ho hm (D := 9) ?_ h
  have b0 := ho.b0; have v0 := ho.v0; have W1 := ho.W1
  have h1 : (512 : Int) ≤ M.b ^ 9 := by
    have := pw2 b0 9
    rwa [show (2 : Int) ^ 9 = 512 by decide] at this
  have h2 := Int.mul_le_mul v0 h1 (by decide) (by omega)
  have h3 := Int.mul_le_mul_of_nonneg_left (show 1 ≤ 2 * M.m - M.b + 1 by omega) (show 0 ≤ M.v * M.b ^ 9 by omega)
  omega
theorem Mz.Rc.inv {M : Mz} (ho : M.Ok) (hm : M.b ≤ 2 * M.m) {T : Int → Prop} (hT : ∀ c, T c → -M.W ≤ c ∧ c ≤ M.W) {R L : Int} (h : M.Rc T R L) : M.Inv R L ∧ -8 ≤ L ∧ L ≤ 9 ∧ M.Nx R L none := by
  obtain ⟨cs, h1, h2⟩ := h
  obtain ⟨a, b, _⟩ := h2.keep ho fun c hc => hT c (h1 c hc)
  have n : M.Nx R L none := by
    cases h2 with
    | nil s => exact s.end_
    | more _ s => exact s.end_
  exact ⟨a, b, Mz.lead9 ho hm n, n⟩
theorem Mz.Rc.le {M : Mz} (ho : M.Ok) (hm : M.b ≤ 2 * M.m) {T : Int → Prop} {D : Nat} (hD : 2 * M.W ≤ M.v * M.b ^ D * (2 * M.m - M.b + 1)) {R L : Int} (h : M.Rc T R L) : L ≤ D := by
  obtain ⟨cs, h1, h2⟩ := h
  refine Mz.lead_le ho hm hD (R := R) ?_
  cases h2 with
  | nil s => exact s.end_
  | more _ s => exact s.end_
theorem Mz.Rel.uniqR {M : Mz} (ho : M.Ok) {r R R' L : Int} (h : M.Rel r R L) (h' : M.Rel r R' L) : R = R' := by
  have e : R * M.b ^ (-L).toNat = R' * M.b ^ (-L).toNat := by rw [← h.1, ← h'.1]
  exact Int.eq_of_mul_eq_mul_right (by have := ho.pw (-L).toNat; omega) e
theorem Mz.Rel.uniqr {M : Mz} (ho : M.Ok) {r r' R L : Int} (h : M.Rel r R L) (h' : M.Rel r' R L) : r = r' := by
  have e : r * M.b ^ 9 = r' * M.b ^ 9 := by rw [h.1, h'.1]
  exact Int.eq_of_mul_eq_mul_right (by have := ho.pw 9; omega) e
/-! ### sums of weights times figures -/
def wS (ws fs : List Int) : Int := ((ws.zip fs).map fun p => p.1 * p.2).sum
structure FigW (ws ms fs : List Int) : Prop where
  l : fs.length = ws.length
  f : ∀ p, p ∈ fs.zip ms → -p.2 ≤ p.1 ∧ p.1 ≤ p.2
def Tot (ws ms : List Int) (c : Int) : Prop := ∃ fs, FigW ws ms fs ∧ c = wS ws fs
theorem wS_wide : ∀ {ws ms fs : List Int}, ws.length = ms.length → FigW ws ms fs → -(wideS ws ms) ≤ wS ws fs ∧ wS ws fs ≤ wideS ws ms
  | [], ms, fs, _, h => by
    have : fs = [] := List.length_eq_zero_iff.mp h.l
    subst this
    unfold wideS wS; simp
  | w :: ws, m :: ms, f :: fs, hl, h => by
    have ih := wS_wide (ws := ws) (ms := ms) (fs := fs) (by simpa using hl) ⟨by simpa using h.l, fun p hp => h.f p (by rw [List.zip_cons_cons]; exact List.mem_cons_of_mem _ hp)⟩
    obtain ⟨h1, h2⟩ := h.f (f, m) (by rw [List.zip_cons_cons]; exact List.mem_cons_self ..)
    unfold wideS wS at *
    simp only [List.zip_cons_cons, List.map_cons, List.sum_cons]
    dsimp only at h1 h2
    have k1 : (w * f).natAbs ≤ w.natAbs * m.natAbs := by rw [Int.natAbs_mul]; exact Nat.mul_le_mul_left _ (by omega)
    have k2 : (w.natAbs : Int) * m = ((w.natAbs * m.natAbs : Nat) : Int) := by rw [Int.natCast_mul, show ((m.natAbs : Nat) : Int) = m by omega]
    rw [k2]
    omega
  | _ :: _, [], _, hl, _ => by simp at hl
  | _ :: _, _ :: _, [], _, h => by have := h.l; simp at this
/-- the rows of a path of sums -/
def pathR (g : Int → List Int) (k : Nat) (cs : List Int) : List (List Int) := (List.range k).map fun i => cs.map fun c => (g c).getD i 0
theorem pathR_at {ws ms : List Int} {g : Int → List Int} {cs : List Int} (hl : ws.length = ms.length) (hg : ∀ c, c ∈ cs → FigW ws ms (g c) ∧ c = wS ws (g c)) : RowsAt ms (pathR g ws.length cs) cs.length := by
  refine ⟨by unfold pathR; rw [List.length_map, List.length_range, hl], fun r hr => ?_, fun p hp x hx => ?_⟩
  · obtain ⟨i, _, rfl⟩ := List.mem_map.mp hr
    rw [List.length_map]
  · obtain ⟨i, hi⟩ := List.mem_iff_getElem?.mp hp
    rw [List.getElem?_zip_eq_some] at hi
    obtain ⟨h1, h2⟩ := hi
    unfold pathR at h1
    rw [List.getElem?_map] at h1
    obtain ⟨j, hj, e⟩ := Option.map_eq_some_iff.mp h1
    have hj' := List.getElem?_eq_some_iff.mp hj
    obtain ⟨hlt, ej⟩ := hj'
    rw [List.getElem_range] at ej
    subst ej
    rw [← e] at hx
    obtain ⟨c, hc, rfl⟩ := List.mem_map.mp hx
    obtain ⟨fw, _⟩ := hg c hc
    rw [List.length_range] at hlt
    have il : i < (g c).length := by rw [fw.l]; exact hlt
    have ef : (g c).getD i 0 = (g c)[i] := by rw [List.getD_eq_getElem?_getD, List.getElem?_eq_getElem il]; rfl
    rw [ef]
    exact fw.f ((g c)[i], p.2) (List.mem_of_getElem? (i := i) (by rw [List.getElem?_zip_eq_some]; exact ⟨List.getElem?_eq_getElem il, h2⟩))
theorem sum_range_zip : ∀ (ws fs : List Int), fs.length = ws.length → ((ws.zip ((List.range ws.length).map fun i => fs.getD i 0)).map fun p => p.1 * p.2).sum = wS ws fs := by
  intro ws fs h
  have : (List.range ws.length).map (fun i => fs.getD i 0) = fs := by
    apply List.ext_getElem
    · rw [List.length_map, List.length_range, h]
    · intro i h1 h2
      rw [List.getElem_map, List.getElem_range, List.getD_eq_getElem?_getD, List.getElem?_eq_getElem h2]; rfl
  rw [this]; rfl
theorem cols_path {ws ms : List Int} {g : Int → List Int} {cs : List Int} (hg : ∀ c, c ∈ cs → FigW ws ms (g c) ∧ c = wS ws (g c)) : cols ws (pathR g ws.length cs) cs.length = cs := by
  unfold cols
  apply List.ext_getElem
  · rw [List.length_map, List.length_range]
  · intro j h1 h2
    rw [List.getElem_map, List.getElem_range]
    obtain ⟨fw, e⟩ := hg cs[j] (List.getElem_mem h2)
    have ex : colS ws (pathR g ws.length cs) j = ((ws.zip ((List.range ws.length).map fun i => (g cs[j]).getD i 0)).map fun p => p.1 * p.2).sum := by
      unfold colS pathR
      rw [List.zip_map_right, List.zip_map_right, List.map_map, List.map_map]
      congr 1
      refine List.map_congr_left fun p _ => ?_
      show p.1 * ((cs.map fun c => (g c).getD p.2 0).getD j 0) = p.1 * (g cs[j]).getD p.2 0
      congr 1
      rw [List.getD_eq_getElem?_getD, List.getElem?_map, List.getElem?_eq_getElem h2]; rfl
    rw [ex, sum_range_zip ws (g cs[j]) fw.l, ← e]
local macro_rules | `(tactic| walk_at "dg7") => `(tactic| try simp only [dWk, weakD_tq, weakD_tup, weakD_int, weakD_non, weakD_str, weakD_bl, weakD_obj, weakD_lst, weakL_nil, weakL_cons, weakL_ints, dTupQ, cTupleQ, dTNew, dTOne, dTPut, dTGet, dTIn, dTKeys, dTItems, dTKeysU, dTItemsU, tuD,  dFrzT, cListT, cLenT, isiG_non_dict, isiG_bl_dict, isiG_int_dict, isiG_str_dict, isiG_lst_dict, isiG_tup_dict, isiG_non_bs, isiG_bl_bs, isiG_int_bs, isiG_str_bs, isiG_lst_bs, isiG_tup_bs, dCall, dNewD, dDisp, dPrs, dkvsOf, dDGet, dDIn, dDGet1, dDGet2, dDPut, dDPop1, dDPop2, dDUpd, cLenD, cListD, cListDM, cDictD, cDictP, cSortDB, cSortL, dBack, dClear, dJoin, dLenO, dSlT, dSortIt, dItKeys, dItItems, dItVals, keyOf_int, keyOf_str, dDc, dDc2, dLstR1, dLstR2, dFld, dSetFld, dFldAdd, dMeth, dMake, dMakeK, dFld2, put_tl, dSeq, dSet, dPar, dOp, dUn, dVar, dC, dCB, dCons, dNil, dTup, dLst, dLstM, dIfS, dIf, dTest, dNot, dAnd, dOr, dAndV, dOrV, dNotV, dRet, dRetN, dEnd, dNext, dAdd, dSub, dMul, dFdiv, dMod, dPow, dNeg, dLt, dLe, dGt, dGe, dEq, dNe, eqB_ii, eqB_bb, eqB_ss, eqB_nn, eqB_ni, eqB_in, eqB_ns, eqB_sn, eqB_is, eqB_si, eqB_nb, eqB_bn, dIx, dIn, dIsN, dNotN, DL.isNon, cAbs, cMax2, cMin2, cInt, cLen, cList, cTuple, dIsB, dNotB, dPar3, ForN, LcN, pinOf, pin2, dEnum2, dAppend, supd_same0, isi_non_int, isi_non_bool, isi_non_str, isi_non_list, isi_non_tuple, isi_non_lt, isi_bl_int, isi_bl_bool, isi_bl_str, isi_bl_list, isi_bl_tuple, isi_bl_lt, isi_int_int, isi_int_bool, isi_int_str, isi_int_list, isi_int_tuple, isi_int_lt, isi_str_int, isi_str_bool, isi_str_str, isi_str_list, isi_str_tuple, isi_str_lt, isi_lst_int, isi_lst_bool, isi_lst_str, isi_lst_list, isi_lst_tuple, isi_lst_lt, isi_tup_int, isi_tup_bool, isi_tup_str, isi_tup_list, isi_tup_tuple, isi_tup_lt, dAug, dIAdd, dIMul, dDrop, dSl, dPart, dNoPart, dRevL, dCallK, dChainR, dAsg, put_nm, put_tp, put_tl, putL_nil, putL_cons, Option.bind, seqOf, lstOf, dFor, dLc, dLcM, dItSeq, dZip, dZipS, dEnum, dRng1, dRng2, dYes, dwipe, Tgt.slots, Tgt.slotsL,
  atI_0, atI_1, atI_2, atI_3, List.getElem?_cons_zero, List.getElem?_cons_succ, List.set_cons_zero, List.set_cons_succ, decide_eq_true_eq, List.length_cons, List.length_nil, List.cons_append, List.nil_append, List.append_nil, ofString_inj, String.reduceEq, decide_true, decide_false, reduceIte, Bool.false_eq_true, Bool.not_true, Bool.not_false, eqFlat, isFlat, List.any_cons, List.any_nil, List.all_cons, List.all_nil, Bool.or_false, Bool.or_true, Bool.false_or, Bool.true_or, Bool.and_true, Bool.true_and, true_and, and_true, Nat.reduceAdd, Nat.reduceLeDiff, Int.reduceLT, Int.reduceLE, Int.reduceNeg])
/-- sums, each with figures that come to it -/
structure SumD (ws ms ts : List Int) (g : Int → List Int) : Prop where
  it : ∀ c, c ∈ ts → FigW ws ms (g c) ∧ c = wS ws (g c)
  all : ∀ c, Tot ws ms c → c ∈ ts
  nd : ts.Nodup
  l : ts.length ≤ 60000
def sumsD (ts : List Int) (g : Int → List Int) : List (Key × D) := ts.map fun c => (Sum.inl c, .tup ((g c).map .int))
def sp_Late_settledT : DSp := fun ds S P => ∃ (p : Addr) (M : Mz) (r R L : Int), ds = [.obj p, .int r, .int L] ∧ LtAt S p M ∧ M.Ok ∧ M.Rel r R L ∧ M.Inv R L ∧ L ≤ 800 ∧ ∀ r' R' L', M.Stl R L R' L' → M.Rel r' R' L' → P (.tq [.int r', .int L']) S
def sp_Late_firstT : DSp := fun ds S P => ∃ (p : Addr) (M : Mz), ds = [.obj p] ∧ LtAt S p M ∧ M.Ok ∧ ∀ r' R' L', M.Stl 0 9 R' L' → M.Rel r' R' L' → P (.tq [.int r', .int L']) S
def sp_Late_behindT : DSp := fun ds S P => ∃ (p : Addr) (M : Mz) (x : D) (r R L c : Int), ds = [.obj p, x, .int c] ∧ weakD x = .tup [.int r, .int L] ∧ LtAt S p M ∧ M.Ok ∧ M.Rel r R L ∧ M.Inv R L ∧ L ≤ 700 ∧ -M.W ≤ c ∧ c ≤ M.W ∧ ∀ r' R' L', M.Stl (R * M.b + c * M.b ^ 9) (L + 1) R' L' → M.Rel r' R' L' → P (.tq [.int r', .int L']) S
def sp_summedT : DSp := fun ds S P => ∃ ws ms : List Int, ds = [.tup (ws.map .int), .tup (ms.map .int)] ∧ WsOk ws ms ∧ ∀ Q ts g S', SumD ws ms ts g → S Q = none → S' Q = some (.dK (sumsD ts g)) → KpS S S' → P (.obj Q) S'
/-- a machine stands at p, its sums at Q -/
structure LtQ (S : Store) (p Q : Addr) (M : Mz) (ws ms ts : List Int) (g : Int → List Int) : Prop where
  o : S p = some (.ins (CT.at_ 2) (LF M (.obj Q)))
  q : S Q = some (.dK (sumsD ts g))
  d : SumD ws ms ts g
  W : M.W = wideS ws ms
def sp_Late_initT : DSp := fun ds S P => ∃ (p : Addr) (b v m : Int) (ws ms : List Int), ds = [.obj p, .int b, .tup (ws.map .int), .int v, .tup (ms.map .int), .int m] ∧ WsOk ws ms ∧ S p = some (.ins (CT.at_ 2) []) ∧ ∀ Q ts g S', LtQ S' p Q ⟨b, v, m, wideS ws ms⟩ ws ms ts g → p ≠ Q → (∀ a x, a ≠ p → S a = some x → S' a = some x) → P .non S'
def sp_shows_worstT : DSp := fun ds S P => ∃ (b v m lag : Int) (ws ms : List Int) (thing : D), ds = [.int b, .tup (ws.map .int), .int v, .tup (ms.map .int), .int m, .int lag, thing] ∧ TameN 2000 thing ∧ WsOk ws ms ∧ (⟨b, v, m, wideS ws ms⟩ : Mz).Ok ∧ b ≤ 2 * m ∧
  ∀ (k : Bool) S', KpS S S' → (k = true ↔ Shown ⟨b, v, m, wideS ws ms⟩ ws ms lag thing) → P (.bl k) S'
theorem Mz.Led.end_ {M : Mz} {cs : List Int} {R L : Int} (h : M.Led cs R L) : M.Nx R L none := by
  cases h with
  | nil s => exact s.end_
  | more _ s => exact s.end_
/-- a state that was found: as the program has it, in one scale, by which sums -/
structure Fd where
  r : Int
  L : Int
  R : Int
  cs : List Int
def Fd.key (f : Fd) : List Key := [.inl f.r, .inl f.L]
def foundD (fs : List Fd) : List (List Key × D) := fs.map fun f => (f.key, .tup (f.cs.map .int))
structure FdOk (M : Mz) (T : Int → Prop) (f : Fd) : Prop where
  rel : M.Rel f.r f.R f.L
  led : M.Led f.cs f.R f.L
  t : ∀ c, c ∈ f.cs → T c
/-- all states, each once -/
structure AllF (M : Mz) (T : Int → Prop) (fs : List Fd) : Prop where
  ok : ∀ f, f ∈ fs → FdOk M T f
  nd : (fs.map Fd.key).Nodup
  all : ∀ R L, M.Rc T R L → ∃ f, f ∈ fs ∧ f.R = R ∧ f.L = L
  l : ∀ (i : Nat) f, fs[i]? = some f → f.cs.length ≤ i
  ne : fs ≠ []
structure Few (M : Mz) (T : Int → Prop) (n : Nat) : Prop where
  ex : ∃ KS : List (Int × Int), (∀ R L, M.Rc T R L → (R, L) ∈ KS) ∧ KS.length ≤ n
def sp_Late_statesT : DSp := fun ds S P => ∃ (p Q : Addr) (M : Mz) (ws ms ts : List Int) (g : Int → List Int), ds = [.obj p] ∧ LtQ S p Q M ws ms ts g ∧ WsOk ws ms ∧ M.Ok ∧ M.b ≤ 2 * M.m ∧ Few M (Tot ws ms) 2000 ∧
  ∀ F fs S', AllF M (Tot ws ms) fs → S F = none → S' F = some (.dT (foundD fs)) → KpS S S' → P (.obj F) S'
def sp_worst_lagT : DSp := fun ds S P => ∃ (b v m : Int) (ws ms : List Int), ds = [.int b, .tup (ws.map .int), .int v, .tup (ms.map .int), .int m] ∧ WsOk ws ms ∧ (⟨b, v, m, wideS ws ms⟩ : Mz).Ok ∧ b ≤ 2 * m ∧ Few ⟨b, v, m, wideS ws ms⟩ (Tot ws ms) 2000 ∧
  ∀ L S', (∃ R, (⟨b, v, m, wideS ws ms⟩ : Mz).Rc (Tot ws ms) R L) → (∀ R' L', (⟨b, v, m, wideS ws ms⟩ : Mz).Rc (Tot ws ms) R' L' → L' ≤ L) → KpS S S' → P (.int L) S'
def sp_worst_rowsT : DSp := fun ds S P => ∃ (b v m : Int) (ws ms : List Int) (k : Nat), ds = [.int b, .tup (ws.map .int), .int v, .tup (ms.map .int), .int m] ∧ WsOk ws ms ∧ (⟨b, v, m, wideS ws ms⟩ : Mz).Ok ∧ b ≤ 2 * m ∧ Few ⟨b, v, m, wideS ws ms⟩ (Tot ws ms) k ∧ k ≤ 2000 ∧
  ∀ rs n R L S', RowsAt ms rs n → n ≤ k → (∀ c, c ∈ cols ws rs n → Tot ws ms c) → (⟨b, v, m, wideS ws ms⟩ : Mz).Led (cols ws rs n) R L → (∀ R' L', (⟨b, v, m, wideS ws ms⟩ : Mz).Rc (Tot ws ms) R' L' → L' ≤ L) → KpS S S' → P (rowsD rs) S'
def rd_Late_settledT : DS :=
  (dSeq (dSet 3 (dMeth 2 "figure" sp_Late_figure (dVar 0) (dCons (dVar 1) (dCons (dVar 2) dNil))))
  (dSeq (dWhile (dTest (dOp dNotN (dVar 3) (dC .non))) (dSeq (dAsg (.tp [(.nm 4), (.nm 5), (.nm 6)]) (dMeth 2 "step_at" sp_Late_step_at (dVar 0) (dCons (dVar 1) (dCons (dVar 2) dNil))))
  (dSeq (dPar 1 2 (dCons (dOp dSub (dVar 4) (dOp dMul (dVar 3) (dVar 5))) (dCons (dOp dSub (dVar 2) (dC (.int 1))) dNil)))
  (dSet 3 (dMeth 2 "figure" sp_Late_figure (dVar 0) (dCons (dVar 1) (dCons (dVar 2) dNil)))))))
  (dRet (dTupQ (dCons (dVar 1) (dCons (dVar 2) dNil))))))
def goal_Late_settledT : Prop := ∀ (x0 x1 x2 : D) (S : Store) (P : D → Store → Prop), sp_Late_settledT [x0, x1, x2] S P → rd_Late_settledT (dEnd P) [some x0, some x1, some x2, none, none, none, none] S
def rd_Late_firstT : DS :=
  (dSeq (dSet 1 (dC (.int 0)))
  (dSeq (dWhile (dTest (dOp dIsN (dMeth 2 "figure" sp_Late_figure (dVar 0) (dCons (dC (.int 0)) (dCons (dVar 1) dNil))) (dC .non))) (dAug 1 dIAdd (dC (.int 1))))
  (dRet (dMeth 2 "settled" sp_Late_settledT (dVar 0) (dCons (dC (.int 0)) (dCons (dVar 1) dNil))))))
def goal_Late_firstT : Prop := ∀ (x0 : D) (S : Store) (P : D → Store → Prop), sp_Late_firstT [x0] S P → rd_Late_firstT (dEnd P) [some x0, none] S
def rd_Late_behindT : DS :=
  (dSeq (dAsg (.tp [(.nm 3), (.nm 4)]) (dWk (dVar 1)))
  (dSeq (dIfS (dTest (dOp dLt (dVar 4) (dC (.int 0)))) (dRet (dMeth 2 "settled" sp_Late_settledT (dVar 0) (dCons (dOp dAdd (dVar 3) (dOp dMul (dVar 2) (dOp dIx (dCB sp_power (dCons (dFld 2 "own_base" (dVar 0)) (dCons (dOp dSub (dUn dNeg (dVar 4)) (dC (.int 1))) dNil))) (dC (.int 0))))) (dCons (dOp dAdd (dVar 4) (dC (.int 1))) dNil)))) dNext)
  (dRet (dMeth 2 "settled" sp_Late_settledT (dVar 0) (dCons (dOp dAdd (dOp dMul (dVar 3) (dFld 2 "own_base" (dVar 0))) (dVar 2)) (dCons (dOp dAdd (dVar 4) (dC (.int 1))) dNil))))))
def goal_Late_behindT : Prop := ∀ (x0 x1 x2 : D) (S : Store) (P : D → Store → Prop), sp_Late_behindT [x0, x1, x2] S P → rd_Late_behindT (dEnd P) [some x0, some x1, some x2, none, none] S
def rd_summedT_1 : DS :=
  (dSeq (dLock (dSet 5 (dLc2 (dItItems (dVar 2)) (.tp [(.nm 6), (.nm 7)]) dYes (dRng2 (dCons (dUn dNeg (dVar 4)) (dCons (dOp dAdd (dVar 4) (dC (.int 1))) dNil))) (.nm 8) dYes (dTup (dCons (dVar 6) (dCons (dVar 7) (dCons (dVar 8) dNil)))))))
  (dSet 2 (dDc (dItSeq (dVar 5)) (.tp [(.nm 6), (.nm 7), (.nm 8)]) dYes (dOp dAdd (dVar 6) (dOp dMul (dVar 3) (dVar 8))) (dOp dAdd (dVar 7) (dTup (dCons (dVar 8) dNil))))))
def rd_summedT : DS :=
  (dSeq (dSet 2 (dDisp [((dC (.int 0)), (dTup dNil))]))
  (dSeq (dFor (dZipS (dCons (dVar 0) (dCons (dVar 1) dNil))) (.tp [(.nm 3), (.nm 4)]) rd_summedT_1)
  (dRet (dDc (dItSeq (dCB cSortDB (dCons (dVar 2) dNil))) (.nm 6) dYes (dVar 6) (dOp dDGet (dVar 2) (dVar 6))))))
def goal_summedT : Prop := ∀ (x0 x1 : D) (S : Store) (P : D → Store → Prop), sp_summedT [x0, x1] S P → rd_summedT (dEnd P) [some x0, some x1, none, none, none, none, none, none, none] S
def rd_Late_initT : DS :=
  (dSeq (dFld3 2 "own_base" "own_over" "own_most" 0 (dVar 1) (dVar 3) (dVar 5))
  (dSeq (dSetFld 2 "own_wide" (dVar 0) (dCB cSum (dCons (dLc (dZipS (dCons (dVar 2) (dCons (dVar 4) dNil))) (.tp [(.nm 6), (.nm 7)]) dYes (dOp dMul (dCB cAbs (dCons (dVar 6) dNil)) (dVar 7))) dNil)))
  (dSetFld 2 "own_sums" (dVar 0) (dCB sp_summedT (dCons (dVar 2) (dCons (dVar 4) dNil))))))
def goal_Late_initT : Prop := ∀ (x0 x1 x2 x3 x4 x5 : D) (S : Store) (P : D → Store → Prop), sp_Late_initT [x0, x1, x2, x3, x4, x5] S P → rd_Late_initT (dEnd P) [some x0, some x1, some x2, some x3, some x4, some x5, none, none] S
def rd_Late_statesT_1 : DS :=
  (dSeq (dSet 3 (dPopAt (dVar 2) (dC (.int 0))))
  (dSeq (dLock (dFor (dItKeys (dFld 2 "own_sums" (dVar 0))) (.nm 4) (dSeq (dSet 5 (dMeth 2 "behind" sp_Late_behindT (dVar 0) (dCons (dVar 3) (dCons (dVar 4) dNil))))
  (dIfS (dTest (dOp (dTIn true) (dVar 5) (dVar 1))) (dSeq (dTPut (dVar 1) (dVar 5) (dOp dAdd (dOp dTGet (dVar 1) (dVar 3)) (dTup (dCons (dVar 4) dNil))))
  (dDrop (dAppend (dVar 2) (dVar 5)))) dNext))))
  (dIfS (dTest (dOp dGt (dCB cLenT (dCons (dVar 1) dNil)) (dC (.int 2000)))) dNever dNext)))
def rd_Late_statesT : DS :=
  (dSeq (dPar 1 2 (dCons (dTOne (dMeth 2 "first" sp_Late_firstT (dVar 0) dNil) (dTup dNil)) (dCons (dLstM (dCons (dMeth 2 "first" sp_Late_firstT (dVar 0) dNil) dNil)) dNil)))
  (dSeq (dWhile (dTest (dOp dGt (dCB cLen (dCons (dVar 2) dNil)) (dC (.int 0)))) rd_Late_statesT_1)
  (dRet (dVar 1))))
def goal_Late_statesT : Prop := ∀ (x0 : D) (S : Store) (P : D → Store → Prop), sp_Late_statesT [x0] S P → rd_Late_statesT (dEnd P) [some x0, none, none, none, none, none] S
def rd_worst_lagT : DS :=
  (dRet (dCB cMaxL (dCons (dLc (dTKeysU (dFrzT (dMeth 2 "states" sp_Late_statesT (dMake 2 sp_Late_initT (dCons (dVar 0) (dCons (dVar 1) (dCons (dVar 2) (dCons (dVar 3) (dCons (dVar 4) dNil)))))) dNil))) (.tp [(.nm 5), (.nm 6)]) dYes (dVar 6)) dNil)))
def goal_worst_lagT : Prop := ∀ (x0 x1 x2 x3 x4 : D) (S : Store) (P : D → Store → Prop), sp_worst_lagT [x0, x1, x2, x3, x4] S P → rd_worst_lagT (dEnd P) [some x0, some x1, some x2, some x3, some x4, none, none] S
def rd_worst_rowsT : DS :=
  (dSeq (dSet 5 (dMake 2 sp_Late_initT (dCons (dVar 0) (dCons (dVar 1) (dCons (dVar 2) (dCons (dVar 3) (dCons (dVar 4) dNil)))))))
  (dSeq (dSet 6 (dMeth 2 "states" sp_Late_statesT (dVar 5) dNil))
  (dSeq (dSet 7 (dCB cMaxL (dCons (dLc (dTKeysU (dFrzT (dVar 6))) (.tp [(.nm 8), (.nm 9)]) dYes (dVar 9)) dNil)))
  (dSeq (dSet 10 (dOp dIx (dLc (dTItemsU (dFrzT (dVar 6))) (.tp [(.tp [(.nm 8), (.nm 9)]), (.nm 11)]) (dTest (dOp dEq (dVar 9) (dVar 7))) (dVar 11)) (dC (.int 0))))
  (dRet (dLc (dRng1 (dCons (dCB cLen (dCons (dVar 1) dNil)) dNil)) (.nm 12) dYes (dCB cTuple (dCons (dLc (dItSeq (dVar 10)) (.nm 13) dYes (dOp dIx (dOp dDGet (dFld 2 "own_sums" (dVar 5)) (dVar 13)) (dVar 12))) dNil))))))))
def goal_worst_rowsT : Prop := ∀ (x0 x1 x2 x3 x4 : D) (S : Store) (P : D → Store → Prop), sp_worst_rowsT [x0, x1, x2, x3, x4] S P → rd_worst_rowsT (dEnd P) [some x0, some x1, some x2, some x3, some x4, none, none, none, none, none, none, none, none, none] S
def rd_shows_worstT : DS :=
  (dSeq (dIfS (dNot (dTest (dCB sp_are_rows (dCons (dVar 3) (dCons (dVar 6) dNil))))) (dRet (dC (.bl false))) dNext)
  (dSeq (dSet 7 (dMake 2 sp_Late_initT (dCons (dVar 0) (dCons (dVar 1) (dCons (dVar 2) (dCons (dVar 3) (dCons (dVar 4) dNil)))))))
  (dSeq (dSet 8 (dWk (dMeth 2 "first" sp_Late_firstT (dVar 7) dNil)))
  (dSeq (dFor (dRng1 (dCons (dCB cLen (dCons (dOp dIx (dVar 6) (dC (.int 0))) dNil)) dNil)) (.nm 9) (dSet 8 (dWk (dMeth 2 "behind" sp_Late_behindT (dVar 7) (dCons (dVar 8) (dCons (dCB cSum (dCons (dLc (dZipS (dCons (dVar 1) (dCons (dVar 6) dNil))) (.tp [(.nm 10), (.nm 11)]) dYes (dOp dMul (dVar 10) (dOp dIx (dVar 11) (dVar 9)))) dNil)) dNil))))))
  (dRet (dOp dGe (dOp dIx (dVar 8) (dC (.int 1))) (dVar 5)))))))
def goal_shows_worstT : Prop := ∀ (x0 x1 x2 x3 x4 x5 x6 : D) (S : Store) (P : D → Store → Prop), sp_shows_worstT [x0, x1, x2, x3, x4, x5, x6] S P → rd_shows_worstT (dEnd P) [some x0, some x1, some x2, some x3, some x4, some x5, some x6, none, none, none, none, none] S
theorem len_Late_settledT : ∀ ds S P, sp_Late_settledT ds S P → ds.length = 3 := by rintro ds S P ⟨a, b, c, d, e, rfl, _⟩; rfl
theorem len_Late_firstT : ∀ ds S P, sp_Late_firstT ds S P → ds.length = 1 := by rintro ds S P ⟨a, b, rfl, _⟩; rfl
theorem len_Late_behindT : ∀ ds S P, sp_Late_behindT ds S P → ds.length = 3 := by rintro ds S P ⟨a, b, c, d, e, f, g, rfl, _⟩; rfl
theorem len_summedT : ∀ ds S P, sp_summedT ds S P → ds.length = 2 := by rintro ds S P ⟨a, b, rfl, _⟩; rfl
theorem len_Late_initT : ∀ ds S P, sp_Late_initT ds S P → ds.length = 6 := by rintro ds S P ⟨a, b, c, d, e, f, rfl, _⟩; rfl
theorem len_Late_statesT : ∀ ds S P, sp_Late_statesT ds S P → ds.length = 1 := by rintro ds S P ⟨a, b, c, d, e, f, g, rfl, _⟩; rfl
theorem len_worst_lagT : ∀ ds S P, sp_worst_lagT ds S P → ds.length = 5 := by rintro ds S P ⟨a, b, c, d, e, rfl, _⟩; rfl
theorem len_worst_rowsT : ∀ ds S P, sp_worst_rowsT ds S P → ds.length = 5 := by rintro ds S P ⟨a, b, c, d, e, f, rfl, _⟩; rfl
theorem len_shows_worstT : ∀ ds S P, sp_shows_worstT ds S P → ds.length = 7 := by rintro ds S P ⟨a, b, c, d, e, f, g, rfl, _⟩; rfl
theorem vc_Late_settledT : goal_Late_settledT := by
  rintro x0 x1 x2 S P ⟨p, M, r, R, L, er, ⟨y, hp⟩, ho, hr, hi, l1, h⟩
  cases er
  unfold rd_Late_settledT
  have b0 := ho.b0; have b1 := ho.b1
  walk_at "dg7"
  refine ⟨p, _, rfl, hp, lf_no.2.1, ?_⟩
  refine ⟨p, M, r, R, L, rfl, ⟨y, hp⟩, ho, hr, hi.bd ho l1, l1, fun o ho1 => ?_⟩
  unfold dWhile
  refine ⟨fun n ρ S' => ∃ (r1 R1 L1 : Int) (o1 : Option Int) (z4 z5 z6 : Option D), ρ = [some (.obj p), some (.int r1), some (.int L1), some (optD o1), z4, z5, z6] ∧ S' = S ∧ M.Rel r1 R1 L1 ∧ M.Inv R1 L1 ∧ L1 ≤ 800 ∧ M.Nx R1 L1 o1 ∧ (∀ R' L', M.Stl R1 L1 R' L' → M.Stl R L R' L') ∧ n = (L1 + 8).toNat,
    ⟨_, r, R, L, o, none, none, none, rfl, rfl, hr, hi, l1, ho1, fun _ _ z => z, rfl⟩, ?_⟩
  rintro n ρ S' ⟨r1, R1, L1, o1, z4, z5, z6, rfl, rfl, hr1, hi1, l2, hn, hs, rfl⟩
  cases o1 with
  | none =>
    walk_at "dg7"
    exact h r1 R1 L1 (hs _ _ (.stop hn)) hr1
  | some d =>
    simp only [optD]
    walk_at "dg7"
    have rb := hr1.bd ho (hi1.bd ho l2)
    refine ⟨p, _, rfl, hp, lf_no.1, ?_⟩
    refine ⟨p, M, r1, L1, rfl, ⟨y, hp⟩, ho, hr1.2, l2, rb, ?_⟩
    walk_at "dg7"
    have hd := hn.1
    obtain ⟨e, he, e0, e1, _⟩ := Mz.near ho hi1 hd
    have d1 := hn.2 e he
    have m1 := ho.m1
    have hl := Mz.ok_lead ho hd
    refine ⟨mulB (n := 5) (by omega) (Mz.stp_bd ho l2) (by decide), ?_⟩
    refine ⟨p, _, rfl, hp, lf_no.2.1, ?_⟩
    have hr2 := Mz.rel_give ho hr1 hd
    refine ⟨p, M, _, _, _, rfl, ⟨y, hp⟩, ho, hr2, (Mz.Inv.give ho hd).bd ho (by omega), by omega, fun o2 ho2 => ?_⟩
    exact ⟨(L1 - 1 + 8).toNat, by omega, _, _, _, o2, _, _, _, rfl, rfl, hr2, Mz.Inv.give ho hd, by omega, ho2, fun R' L' z => hs _ _ (.go hn z), rfl⟩
theorem vc_Late_firstT : goal_Late_firstT := by
  rintro x0 S P ⟨p, M, er, ⟨y, hp⟩, ho, h⟩
  cases er
  unfold rd_Late_firstT
  have b0 := ho.b0; have b1 := ho.b1
  unfold dWhile
  walk_at "dg7"
  have rel0 : ∀ L : Int, 0 ≤ L → M.Rel 0 0 L := fun L hl => ⟨by rw [Int.zero_mul, Int.zero_mul], by omega⟩
  refine ⟨fun n ρ S' => ∃ L : Int, ρ = [some (.obj p), some (.int L)] ∧ S' = S ∧ 0 ≤ L ∧ L ≤ 9 ∧ n = (9 - L).toNat, ⟨_, 0, rfl, rfl, by omega, by omega, rfl⟩, ?_⟩
  rintro n ρ S' ⟨L, rfl, rfl, l0, l1, rfl⟩
  walk_at "dg7"
  refine ⟨p, _, rfl, hp, lf_no.2.1, ?_⟩
  refine ⟨p, M, 0, 0, L, rfl, ⟨y, hp⟩, ho, rel0 L l0, (show (0 : Nat) < 2 ^ 3250 from Nat.pow_pos (by decide)), by omega, fun o hn => ?_⟩
  by_cases q : 0 ≤ M.room L
  · cases hn.uniq ((Mz.nx0 ho).2 q)
    walk_at "dg7"
    refine ⟨p, _, rfl, hp, lf_no.2.2.1, ?_⟩
    have iv : M.Inv 0 L := by
      have u0 := ho.u0 L; have m0 := ho.m0
      unfold Mz.Inv
      rw [Int.mul_zero]
      unfold Mz.room at q
      have h1 : 0 ≤ M.u L * M.m := Int.mul_nonneg (by omega) (by omega)
      have h2 := Int.mul_le_mul_of_nonneg_right (show 1 ≤ M.b by omega) h1
      omega
    refine ⟨p, M, 0, 0, L, rfl, ⟨y, hp⟩, ho, rel0 L l0, iv, by omega, fun r' R' L' hs hr => h r' R' L' ?_ hr⟩
    have := Mz.stl0 ho (L := L) (9 - L).toNat (fun i h1 h2 => Int.le_trans q (Mz.room_mono ho h1)) hs
    rwa [show L + ((9 - L).toNat : Int) = 9 by omega] at this
  · cases hn.uniq ((Mz.nx0 ho).1 (by omega))
    have l9 : L ≠ 9 := fun z => by subst z; exact q (Mz.room9 ho)
    walk_at "dg7"
    exact ⟨(9 - (L + 1)).toNat, by omega, L + 1, rfl, by omega, by omega, rfl⟩
theorem vc_Late_behindT : goal_Late_behindT := by
  rintro x0 x1 x2 S P ⟨p, M, x, r, R, L, c, er, ew, ⟨y, hp⟩, ho, hr, hi, l1, c0, c1, h⟩
  cases er
  unfold rd_Late_behindT
  have b0 := ho.b0; have b1 := ho.b1
  have rb := hr.bd ho (hi.bd ho (by omega))
  have iv := Mz.Inv.read ho hr.2 hi c0 c1
  have rl := Mz.rel_read ho (c := c) hr
  have W1 := ho.W1
  have eb : M.b.natAbs < 2 ^ 4 := by omega
  walk_at "dg7"
  rw [ew]
  walk_at "dg7"
  by_cases q : L < 0
  · simp only [q, reduceIte]
    rw [if_pos q] at rl
    refine ⟨p, _, rfl, hp, lf_no.2.2.1, p, _, _, rfl, hp, lf_base, ?_⟩
    have := hr.2
    refine ⟨M.b, -L - 1, rfl, by omega, by omega, by omega, ?_⟩
    rw [pw_enc b0 (by omega)]
    walk_at "dg7"
    refine ⟨mulB (n := 8) (m := 60) (by omega) ?_ (by decide), ?_⟩
    · have h1 : M.b ^ (-L - 1).toNat ≤ 2 ^ 32 := Int.le_trans (pow16 b0 (by omega) _) (pwR (by decide) (by omega))
      have h0 := ho.pw (-L - 1).toNat
      rw [show (2 : Int) ^ 32 = 4294967296 by decide] at h1
      rw [show (2 : Nat) ^ 60 = 1152921504606846976 by decide]
      omega
    exact ⟨p, M, _, _, _, rfl, ⟨y, hp⟩, ho, rl, iv, by omega, h⟩
  · simp only [q, reduceIte]
    rw [if_neg q] at rl
    refine ⟨p, _, rfl, hp, lf_no.2.2.1, p, _, _, rfl, hp, lf_base, mulB rb eb (by decide), ?_⟩
    exact ⟨p, M, _, _, _, rfl, ⟨y, hp⟩, ho, rl, iv, by omega, h⟩
theorem vc_shows_worstT : goal_shows_worstT := by
  rintro x0 x1 x2 x3 x4 x5 x6 S P ⟨b, v, m, lag, ws, ms, thing, er, ht, hw, ho, hm2, h⟩
  cases er
  unfold rd_shows_worstT
  have hl := hw.l; have hl0 := hw.l0; have hl1 := hw.l1
  walk_at "dg7"
  refine ⟨2000, ms, x6, rfl, by decide, ht, by omega, by omega, fun k hk => ?_⟩
  walk_at "dg7"
  cases k with
  | false =>
    walk_at "dg7"
    refine h false S (fun _ _ e => e) ⟨fun z => (by cases z), fun ⟨rs, n, e, hr, _⟩ => ?_⟩
    exact absurd (hk.mpr ⟨rs, n, e, hr⟩) (by simp)
  | true =>
    obtain ⟨rs, n, rfl, hr⟩ := hk.mp rfl
    walk_at "dg7"
    refine fun p hp => ⟨p, b, v, m, ws, ms, rfl, hw, supd_same, fun Qs ts g S1 hL0 pQ hk1 => ⟨rfl, ?_⟩⟩
    have hL : LtAt S1 p ⟨b, v, m, wideS ws ms⟩ := ⟨_, hL0.o⟩
    have kp : KpS S S1 := fun a x e => hk1 a x (fun z => by subst z; rw [hp] at e; cases e) (by rw [supd_ne (fun z => by subst z; rw [hp] at e; cases e)]; exact e)
    obtain ⟨y, hL'⟩ := hL
    walk_at "dg7"
    refine ⟨p, _, rfl, hL', lf_no.2.2.2.1, ?_⟩
    refine ⟨p, _, rfl, ⟨y, hL'⟩, ho, fun r0 R0 L0 hs hrel => ?_⟩
    obtain ⟨M, hM⟩ : ∃ M : Mz, M = ⟨b, v, m, wideS ws ms⟩ := ⟨_, rfl⟩
    have hMW : M.W = wideS ws ms := by rw [hM]
    have hm3 : M.b ≤ 2 * M.m := by rw [hM]; exact hm2
    rw [← hM] at hs hrel hL' h ho
    clear hM hk hk1
    obtain ⟨r, rs', rfl⟩ : ∃ r rs', rs = r :: rs' := by
      cases rs with
      | nil => have := hr.l; simp at this; omega
      | cons r rs' => exact ⟨r, rs', rfl⟩
    have hn := hr.n r (List.mem_cons_self ..)
    have hn2 : n ≤ 2000 := by
      have := (ht.2 (.tup (r.map .int)) (List.mem_map.mpr ⟨r, List.mem_cons_self .., rfl⟩)).1
      rw [List.length_map] at this
      omega
    unfold rowsD at *
    rw [List.map_cons]
    walk_at "dg7"
    rw [List.length_map, hn]
    have hrl := hr.l
    have hcw := cols_wide hl hr
    refine ⟨by omega, by omega, fun i ρ S' => S' = S1 ∧ ∃ (r1 R1 L1 : Int) (z9 z10 z11 : Option D), ρ = [some (.int b), some (.tup (ws.map .int)), some (.int v), some (.tup (ms.map .int)), some (.int m), some (.int lag), some (.lst (.tup (r.map .int) :: rs'.map fun r => .tup (r.map .int))), some (.obj p), some (.tup [.int r1, .int L1]), z9, z10, z11] ∧ M.Led (cols ws (r :: rs') i) R1 L1 ∧ M.Rel r1 R1 L1,
      ⟨rfl, r0, R0, L0, _, _, _, rfl, .nil hs, hrel⟩, ?_, ?_⟩
    · rintro i d ρ S' hd ⟨rfl, r1, R1, L1, z9, z10, z11, rfl, hled, hrl1⟩
      obtain ⟨hi, rfl⟩ := rng_get hd
      have hi2 : i < n := by omega
      refine ⟨_, rfl, ?_⟩
      walk_at "dg7"
      refine ⟨p, _, rfl, hL', lf_no.2.2.2.2, ?_⟩
      have hmap : D.tup (r.map .int) :: rs'.map (fun r => D.tup (r.map .int)) = (r :: rs').map (fun r => D.tup (r.map .int)) := rfl
      refine ⟨by simp at hrl ⊢; omega, ?_⟩
      rw [hmap, zipD_map]
      refine lc_mapA _ (fun z => .int (z.1 * z.2.getD i 0)) (by simp; omega) (fun z hz => ⟨_, rfl, fun Q kq => ?_⟩) ?_
      · obtain ⟨q1, q2⟩ := List.of_mem_zip hz
        have w1 := hw.w _ q1
        have ln := hr.n _ q2
        walk_at "dg7"
        have hi3 : i < z.2.length := by omega
        rw [atI_at (by omega) (by rw [List.length_map]; omega), List.getElem?_map, show ((0 : Int) + (i : Int)).toNat = i by omega, List.getElem?_eq_getElem hi3]
        dsimp only [Option.map]
        have e1 : z.2.getD i 0 = z.2[i] := by rw [List.getD_eq_getElem?_getD, List.getElem?_eq_getElem hi3]; rfl
        rw [e1] at kq
        refine ⟨mulB (n := 7) (m := 60) (by omega) ?_ (by decide), kq⟩
        obtain ⟨k, hk, ek⟩ := List.getElem_of_mem q2
        have hz2 : (z.2, ms[k]'(by omega)) ∈ (r :: rs').zip ms := List.mem_of_getElem? (i := k) (by rw [List.getElem?_zip_eq_some]; exact ⟨by rw [← ek]; exact List.getElem?_eq_getElem hk, List.getElem?_eq_getElem (by omega)⟩)
        have hf := hr.f _ hz2 _ (List.getElem_mem hi3)
        have hm := hw.m _ (List.getElem_mem (show k < ms.length by omega))
        dsimp only at hf
        rw [show (2 : Nat) ^ 60 = 1152921504606846976 by decide]
        omega
      rw [show (ws.zip (r :: rs')).map (fun z => D.int (z.1 * z.2.getD i 0)) = ((ws.zip (r :: rs')).map fun z => z.1 * z.2.getD i 0).map D.int by rw [List.map_map]; rfl]
      refine sum_ok ?_
      have hcm : ∀ c, c ∈ cols ws (r :: rs') i → -M.W ≤ c ∧ c ≤ M.W := fun c hc => by
        obtain ⟨j, hj, rfl⟩ := List.mem_map.mp hc
        rw [hMW]
        exact col_wide hl hr (by have := List.mem_range.mp hj; omega)
      obtain ⟨iv, l8, _⟩ := hled.keep ho hcm
      have lu := Mz.lead9 ho hm3 hled.end_
      have hlen : (cols ws (r :: rs') i).length = i := by unfold cols; rw [List.length_map, List.length_range]
      have c01 := col_wide (j := i) hl hr hi2
      rw [← hMW] at c01
      refine ⟨p, M, _, r1, R1, L1, colS ws (r :: rs') i, rfl, (by walk_at "dg7"), ⟨y, hL'⟩, ho, hrl1, iv, by omega, c01.1, c01.2, fun r' R' L' hs' hr' => ?_⟩
      walk_at "dg7"
      exact ⟨r', R', L', _, _, _, rfl, by rw [cols_succ]; exact .more hled hs', hr'⟩
    · rintro ρ S' ⟨rfl, r1, R1, L1, z9, z10, z11, rfl, hled, hrl1⟩
      walk_at "dg7"
      refine h _ _ kp ?_
      have hlen : (rng 0 ((n : Int)).toNat).length = n := by rw [rng_len]; omega
      rw [hlen] at hled
      rw [decide_eq_true_iff]
      constructor
      · exact fun q => ⟨r :: rs', n, rfl, hr, R1, L1, hled, q⟩
      · rintro ⟨rs2, n2, e2, hr2, R2, L2, hled2, q⟩
        have e3 : rs2 = r :: rs' := by
          have e4 := D.lst.inj e2
          refine ((List.map_inj_right fun a b e => ?_).mp e4).symm
          have e5 := D.tup.inj e
          exact (List.map_inj_right fun x y z => D.int.inj z).mp e5
        subst e3
        have : n2 = n := by rw [← hr2.n r (List.mem_cons_self ..), hn]
        subst this
        obtain ⟨_, rfl⟩ := hled.uniq hled2
        exact q
/-! ### sums -/
/-- what is found of the first weights -/
structure SumP (ws ms : List Int) (kvs : List (Key × D)) : Prop where
  it : ∀ q, q ∈ kvs → ∃ (c : Int) (fs : List Int), q = (Sum.inl c, .tup (fs.map .int)) ∧ FigW ws ms fs ∧ c = wS ws fs
  all : ∀ c, Tot ws ms c → (Sum.inl c : Key) ∈ kvs.map (·.1)
  nd : (kvs.map (·.1)).Nodup
theorem figW_snoc {ws ms fs : List Int} {w m f : Int} (hl : ws.length = ms.length) (h : FigW ws ms fs) (h0 : -m ≤ f) (h1 : f ≤ m) : FigW (ws ++ [w]) (ms ++ [m]) (fs ++ [f]) ∧ wS (ws ++ [w]) (fs ++ [f]) = wS ws fs + w * f := by
  have l := h.l
  refine ⟨⟨by rw [List.length_append, List.length_append, l]; rfl, fun p hp => ?_⟩, ?_⟩
  · rw [List.zip_append (by omega)] at hp
    rcases List.mem_append.mp hp with hp | hp
    · exact h.f p hp
    · have : p = (f, m) := by simpa using hp
      subst this
      exact ⟨h0, h1⟩
  · unfold wS
    rw [List.zip_append (by omega), List.map_append, List.sum_append]
    simp
theorem figW_unsnoc {ws ms gs : List Int} {w m : Int} (hl : ws.length = ms.length) (h : FigW (ws ++ [w]) (ms ++ [m]) gs) : ∃ fs f, gs = fs ++ [f] ∧ FigW ws ms fs ∧ -m ≤ f ∧ f ≤ m := by
  have l := h.l
  rw [List.length_append] at l
  simp only [List.length_cons, List.length_nil] at l
  have ne : gs ≠ [] := fun z => by rw [z] at l; simp at l
  refine ⟨gs.dropLast, gs.getLast ne, (List.dropLast_concat_getLast ne).symm, ?_⟩
  have e := (List.dropLast_concat_getLast ne).symm
  have ld : gs.dropLast.length = ws.length := by rw [List.length_dropLast]; omega
  have hf := h.f
  rw [e, List.zip_append (by omega)] at hf
  refine ⟨⟨ld, fun p hp => hf p (List.mem_append_left _ hp)⟩, ?_⟩
  exact hf (gs.getLast ne, m) (List.mem_append_right _ (by simp))
def intD : D → Int
  | .int i => i
  | _ => 0
def tupI : Option D → List Int
  | some (.tup ds) => ds.map intD
  | _ => []
theorem vc_summedT : goal_summedT := by
  rintro x0 x1 S P ⟨ws, ms, er, hw, h⟩
  cases er
  unfold rd_summedT
  have hl := hw.l; have hl1 := hw.l1
  walk_at "dg7"
  refine ⟨by simp, fun F hF => ⟨by rw [List.length_map, List.length_map]; exact hl, ?_⟩⟩
  rw [zipD_map]
  refine ⟨fun i ρ S' => ∃ (kvs : List (Key × D)) (F : Addr) (z3 z4 z5 z6 z7 z8 : Option D), ρ = [some (.tup (ws.map .int)), some (.tup (ms.map .int)), some (.obj F), z3, z4, z5, z6, z7, z8] ∧ S' F = some (.dK kvs) ∧ SumP (ws.take i) (ms.take i) kvs ∧ kvs.length ≤ 15 ^ i ∧ KpS S S', ?_, ?_, ?_⟩
  · refine ⟨_, F, none, none, none, none, none, none, rfl, supd_same, ⟨fun q hq => ?_, fun c hc => ?_, by simp⟩, by simp, fun a x e => by rw [supd_ne (fun z => by subst z; rw [hF] at e; cases e)]; exact e⟩
    · rw [List.mem_singleton] at hq
      subst hq
      exact ⟨0, [], rfl, ⟨by simp, by simp⟩, by simp [wS]⟩
    · obtain ⟨fs, h1, rfl⟩ := hc
      have : wS (ws.take 0) fs = 0 := by simp [wS]
      rw [this]; simp
  · rintro i d ρ S' hd ⟨kvs, F1, z3, z4, z5, z6, z7, z8, rfl, hF1, hk, k3, kp⟩
    rw [List.getElem?_map] at hd
    cases e : (ws.zip ms)[i]? with
    | none => rw [e] at hd; cases hd
    | some z =>
      rw [e] at hd
      cases hd
      have hz := List.mem_of_getElem? e
      obtain ⟨z1, z2⟩ := List.of_mem_zip hz
      have w1 := hw.w _ z1
      have m1 := hw.m _ z2
      have ez := e
      rw [List.getElem?_zip_eq_some] at ez
      have hi : i < 4 := by
        have := (List.getElem?_eq_some_iff.mp e).1
        rw [List.length_zip] at this
        omega
      have lt : (ws.take i).length = (ms.take i).length := by rw [List.length_take, List.length_take]; omega
      have tw : ws.take (i + 1) = ws.take i ++ [z.1] := by rw [List.take_add_one, ez.1]; rfl
      have tm : ms.take (i + 1) = ms.take i ++ [z.2] := by rw [List.take_add_one, ez.2]; rfl
      have ti : (ws.take i).length ≤ 4 := by rw [List.length_take]; omega
      have h15 : 15 ^ i ≤ 15 ^ 3 := Nat.pow_le_pow_right (by decide) (by omega)
      rw [show (15 : Nat) ^ 3 = 3375 by decide] at h15
      obtain ⟨k1, kall, k2⟩ := hk
      refine ⟨_, rfl, ?_⟩
      unfold rd_summedT_1
      walk_at "dg7"
      refine .inr ⟨F1, kvs, hF1, fun o vs => ?_⟩
      unfold dLc2
      walk_at "dg7"
      refine ⟨F1, o, vs, kvs, rfl, supd_same, ?_⟩
      refine ⟨fun j acc S2 => S2 = supd S' F1 (.dZ o vs kvs) ∧ (∀ t, t ∈ acc → ∃ (y : Int) (s : List Int) (f : Int), t = .tup [.int y, .tup (s.map .int), .int f] ∧ (FigW (ws.take i) (ms.take i) s ∧ y = wS (ws.take i) s) ∧ -z.2 ≤ f ∧ f ≤ z.2) ∧ (∀ (k : Nat) (y : Int) (s : D), k < j → kvs[k]? = some (Sum.inl y, s) → ∀ f : Int, -z.2 ≤ f → f ≤ z.2 → D.tup [.int y, s, .int f] ∈ acc) ∧ acc.length ≤ j * 15, ⟨rfl, by simp, by simp, by simp⟩, ?_, ?_, ?_⟩
      · rintro j acc S2 ⟨rfl, _⟩
        exact supd_same
      · rintro j d acc S2 hd ⟨rfl, ha, hc, hb⟩
        rw [List.getElem?_map] at hd
        cases e2 : kvs[j]? with
        | none => rw [e2] at hd; cases hd
        | some q =>
          rw [e2] at hd
          cases hd
          have hj := (List.getElem?_eq_some_iff.mp e2).1
          obtain ⟨y, s, rfl, hs⟩ := k1 q (List.mem_of_getElem? e2)
          have sl := hs.1.l
          refine ⟨_, rfl, ?_⟩
          walk_at "dg7"
          refine ⟨by omega, fun n acc1 S3 => S3 = supd S' F1 (.dZ o vs kvs) ∧ (∀ t, t ∈ acc1 → ∃ (y : Int) (s : List Int) (f : Int), t = .tup [.int y, .tup (s.map .int), .int f] ∧ (FigW (ws.take i) (ms.take i) s ∧ y = wS (ws.take i) s) ∧ -z.2 ≤ f ∧ f ≤ z.2) ∧ ((∀ (k : Nat) (y : Int) (s : D), k < j → kvs[k]? = some (Sum.inl y, s) → ∀ f : Int, -z.2 ≤ f → f ≤ z.2 → D.tup [.int y, s, .int f] ∈ acc1) ∧ ∀ f : Int, -z.2 ≤ f → f < -z.2 + n → D.tup [.int y, .tup (s.map .int), .int f] ∈ acc1) ∧ acc1.length ≤ j * 15 + n, ⟨rfl, ha, ⟨hc, fun f f0 f1 => absurd f1 (by omega)⟩, by omega⟩, fun _ _ _ _ => trivial, ?_, ?_⟩
          · rintro n d acc1 S3 hd ⟨rfl, ha1, hc1, hb1⟩
            obtain ⟨hn, rfl⟩ := rng_get hd
            refine ⟨_, rfl, ?_⟩
            dsimp only [List.getElem?_cons_zero, List.getElem?_cons_succ, kD]
            refine ⟨by omega, rfl, fun t ht => ?_, ⟨fun k y s hk e f f0 f1 => List.mem_append_left _ (hc1.1 k y s hk e f f0 f1), fun f f0 f1 => ?_⟩, by rw [List.length_append]; simp; omega⟩
            · rcases List.mem_append.mp ht with ht | ht
              · exact ha1 t ht
              · rw [List.mem_singleton] at ht
                subst ht
                exact ⟨y, s, _, rfl, hs, by omega, by omega⟩
            · by_cases c : f < -z.2 + n
              · exact List.mem_append_left _ (hc1.2 f f0 c)
              · have : f = -z.2 + (n : Int) := by omega
                subst this
                exact List.mem_append_right _ (List.mem_singleton.mpr rfl)
          · rintro acc1 S3 ⟨rfl, ha1, hc1, hb1⟩
            rw [rng_len] at hb1 hc1
            refine ⟨rfl, ha1, fun k y' s' hk e f f0 f1 => ?_, ?_⟩
            · by_cases c : k < j
              · exact hc1.1 k y' s' c e f f0 f1
              · have : k = j := by omega
                subst this
                rw [e2] at e
                cases e
                exact hc1.2 f f0 (by omega)
            · omega
      · rintro acc S2 ⟨rfl, ha, hc, hb⟩
        walk_at "dg7"
        refine ⟨supd_same, ?_⟩
        rw [supd_supd, supd_id hF1]
        rw [List.length_map] at hb hc
        walk_at "dg7"
        refine ⟨fun j acc2 S2 => S2 = S' ∧ (∀ q, q ∈ acc2 → ∃ (c : Int) (fs : List Int), q = (Sum.inl c, .tup (fs.map .int)) ∧ FigW (ws.take (i + 1)) (ms.take (i + 1)) fs ∧ c = wS (ws.take (i + 1)) fs) ∧ (∀ (k : Nat) (y : Int) (s : D) (f : Int), k < j → acc[k]? = some (.tup [.int y, s, .int f]) → (Sum.inl (y + z.1 * f) : Key) ∈ acc2.map (·.1)) ∧ (acc2.map (·.1)).Nodup ∧ acc2.length ≤ j, ⟨rfl, by simp, by simp, by simp, by simp⟩, fun _ _ _ _ => trivial, ?_, ?_⟩
        · rintro j d acc2 S2 hd ⟨rfl, a1, ac, a2, a3⟩
          have hj := (List.getElem?_eq_some_iff.mp hd).1
          obtain ⟨y, s, f, rfl, hs, f0, f1⟩ := ha d (List.mem_of_getElem? hd)
          have sl := hs.1.l
          obtain ⟨sn1, sn2⟩ := figW_snoc (w := z.1) lt hs.1 f0 f1
          rw [← tw, ← tm] at sn1
          rw [← tw] at sn2
          refine ⟨_, rfl, ?_⟩
          walk_at "dg7"
          refine ⟨mulS (by omega), by rw [List.length_map]; omega, _, rfl, by omega, fun q hq => ?_, fun k y' s' f' hk e => ?_, dPut_nd a2, Nat.le_trans (dPut_len ..) (by omega)⟩
          · rcases dPut_mem hq with hq | rfl
            · exact a1 q hq
            · exact ⟨_, s ++ [f], by rw [List.map_append]; rfl, sn1, by rw [sn2, hs.2]⟩
          · rw [dPut_keys]
            by_cases c : k < j
            · have := ac k y' s' f' c e
              split
              · exact this
              · exact List.mem_append_left _ this
            · have : k = j := by omega
              subst this
              rw [hd] at e
              cases e
              split
              · assumption
              · exact List.mem_append_right _ (List.mem_singleton.mpr rfl)
        · rintro acc2 S2 ⟨rfl, a1, ac, a2, a3⟩ p hp
          walk_at "dg7"
          refine ⟨acc2, p, _, _, _, _, _, _, rfl, supd_same, ⟨a1, fun c hc' => ?_, a2⟩, ?_, fun a x e => ?_⟩
          · obtain ⟨gs, hg, rfl⟩ := hc'
            rw [tw, tm] at hg
            obtain ⟨fs, f, rfl, hfs, f0, f1⟩ := figW_unsnoc lt hg
            have sn2 := (figW_snoc (w := z.1) lt hfs f0 f1).2
            rw [tw, sn2]
            have := kall _ ⟨fs, hfs, rfl⟩
            obtain ⟨q, hq, eq⟩ := List.mem_map.mp this
            obtain ⟨k, hk⟩ := List.mem_iff_getElem?.mp hq
            obtain ⟨q1, q2⟩ := q
            have eq : q1 = Sum.inl (wS (ws.take i) fs) := eq
            subst eq
            have kl := (List.getElem?_eq_some_iff.mp hk).1
            obtain ⟨n, hn⟩ := List.mem_iff_getElem?.mp (hc k _ q2 kl hk f f0 f1)
            have nl := (List.getElem?_eq_some_iff.mp hn).1
            exact ac n _ q2 f nl hn
          · rw [Nat.pow_succ]; omega
          · rw [supd_ne (fun z => by subst z; rw [kp _ _ e] at hp; cases hp)]
            exact kp a x e
  · rintro ρ S' ⟨kvs, F1, z3, z4, z5, z6, z7, z8, rfl, hF1, hk, k3, kp⟩
    walk_at "dg7"
    rw [dct_dK hF1]
    have zl : (List.map (fun p => D.tup [D.int p.fst, D.int p.snd]) (ws.zip ms)).length = ws.length := by rw [List.length_map, List.length_zip]; omega
    rw [zl] at hk k3
    rw [List.take_length, show ms.take ws.length = ms by rw [hl, List.take_length]] at hk
    obtain ⟨k1, kall, k2⟩ := hk
    obtain ⟨ks, hks⟩ : ∃ ks : List Int, kvs.map (·.1) = ks.map Sum.inl := by
      refine ⟨kvs.map fun q => match q.1 with | .inl z => z | .inr _ => 0, ?_⟩
      rw [List.map_map]
      refine List.map_congr_left fun q hq => ?_
      obtain ⟨z, s, rfl, _⟩ := k1 q hq
      rfl
    refine ⟨ks, hks, fun ys hp _ => ?_⟩
    have h15 : 15 ^ ws.length ≤ 15 ^ 4 := Nat.pow_le_pow_right (by decide) hl1
    rw [show (15 : Nat) ^ 4 = 50625 by decide] at h15
    have hyl : ys.length = kvs.length := by
      rw [hp.length_eq]
      have := congrArg List.length hks
      rw [List.length_map, List.length_map] at this
      exact this.symm
    obtain ⟨g, hg⟩ : ∃ g : Int → List Int, ∀ c, (Sum.inl c : Key) ∈ kvs.map (·.1) → dVal kvs (Sum.inl c) = some (.tup ((g c).map .int)) ∧ FigW ws ms (g c) ∧ c = wS ws (g c) := by
      refine ⟨fun c => tupI (dVal kvs (Sum.inl c)), fun c hc => ?_⟩
      obtain ⟨q, hq, e⟩ := List.mem_map.mp hc
      obtain ⟨c', fs, rfl, hf, ec⟩ := k1 q hq
      cases e
      have v := dVal_memS k2 hq
      have eg : tupI (dVal kvs (Sum.inl c)) = fs := by
        rw [v]; show (fs.map D.int).map intD = fs; rw [List.map_map]; exact List.map_id' fs
      show dVal kvs (Sum.inl c) = some (.tup ((tupI (dVal kvs (Sum.inl c))).map .int)) ∧ FigW ws ms (tupI (dVal kvs (Sum.inl c))) ∧ c = wS ws (tupI (dVal kvs (Sum.inl c)))
      rw [eg]
      exact ⟨v, hf, ec⟩
    have ynd : ys.Nodup := hp.nodup_iff.mpr (by
      rw [hks] at k2
      exact (List.pairwise_map.mp k2).imp fun h e => h (by rw [e]))
    have inK : ∀ c, c ∈ ys ↔ (Sum.inl c : Key) ∈ kvs.map (·.1) := fun c => by
      rw [hp.mem_iff, hks]
      constructor
      · exact fun m => List.mem_map_of_mem m
      · intro m
        obtain ⟨x, hx, e⟩ := List.mem_map.mp m
        cases e; exact hx
    refine ⟨fun j acc2 S2 => S2 = S' ∧ acc2 = sumsD (ys.take j) g, ⟨rfl, rfl⟩, fun _ _ _ _ => trivial, ?_, ?_⟩
    · rintro j d acc2 S2 hd ⟨rfl, rfl⟩
      have hj := (List.getElem?_eq_some_iff.mp hd).1
      rw [List.length_map] at hj
      rw [List.getElem?_map] at hd
      cases e2 : ys[j]? with
      | none => rw [e2] at hd; cases hd
      | some y =>
        rw [e2] at hd
        cases hd
        have ym := List.mem_of_getElem? e2
        obtain ⟨v1, v2, v3⟩ := hg y ((inK y).mp ym)
        refine ⟨_, rfl, ?_⟩
        walk_at "dg7"
        rw [dct_dK hF1]
        simp only [v1]
        refine ⟨_, rfl, ?_, ?_⟩
        · unfold sumsD; rw [List.length_map, List.length_take]; omega
        · unfold sumsD
          rw [dPut_new]
          · rw [List.take_add_one, e2, List.map_append]; rfl
          · rw [List.map_map]
            intro m
            obtain ⟨x, hx, ex⟩ := List.mem_map.mp m
            have ex : (Sum.inl x : Key) = Sum.inl y := ex
            cases ex
            obtain ⟨i, hi⟩ := List.mem_iff_getElem?.mp hx
            have il := (List.getElem?_eq_some_iff.mp hi).1
            rw [List.length_take] at il
            rw [List.getElem?_take, if_pos (by omega), ← e2] at hi
            have := (List.getElem?_inj (by omega) ynd).mp hi
            omega
    · rintro acc2 S2 ⟨rfl, rfl⟩ p hp
      walk_at "dg7"
      rw [List.length_map, List.take_length]
      have np : S p = none := by
        cases e : S p with
        | none => rfl
        | some x => rw [kp _ _ e] at hp; cases hp
      refine h p ys g _ ⟨fun c hc => (hg c ((inK c).mp hc)).2, fun c hc => (inK c).mpr (kall c hc), ynd, by omega⟩ np supd_same fun a x e => ?_
      rw [supd_ne (fun z => by subst z; rw [np] at e; cases e)]
      exact kp a x e
theorem vc_Late_initT : goal_Late_initT := by
  rintro x0 x1 x2 x3 x4 x5 S P ⟨p, b, v, m, ws, ms, er, hw, hp, h⟩
  cases er
  unfold rd_Late_initT
  walk_at "dg7"
  simp only [dFld3]
  walk_at "dg7"
  refine ⟨p, [], rfl, hp, by decide, ?_⟩
  have hl := hw.l; have hl1 := hw.l1
  refine ⟨by rw [List.length_map, List.length_map]; exact hl, ?_⟩
  rw [zipD_map]
  refine lc_mapA _ (fun z => .int ((z.1.natAbs : Int) * z.2)) (by simp; omega) (fun z hz => ⟨_, rfl, fun Q kq => ?_⟩) ?_
  · obtain ⟨z1, z2⟩ := List.of_mem_zip hz
    have w1 := hw.w _ z1
    have m1 := hw.m _ z2
    walk_at "dg7"
    have e : (if z.1 < 0 then -z.1 else z.1) = (z.1.natAbs : Int) := by split <;> omega
    rw [e]
    exact ⟨mulS (by omega), kq⟩
  rw [show (ws.zip ms).map (fun z => D.int ((z.1.natAbs : Int) * z.2)) = ((ws.zip ms).map fun z => (z.1.natAbs : Int) * z.2).map D.int by rw [List.map_map]; rfl]
  refine sum_ok ?_
  refine ⟨p, _, rfl, supd_same, Nat.lt_of_lt_of_le (put_small (put_small (put_small (n := 1) (by decide)))) (by decide), ?_⟩
  rw [supd_supd]
  refine ⟨ws, ms, rfl, hw, fun Q ts g S' sd nQ hQ kp => ?_⟩
  have pQ : p ≠ Q := fun z => by subst z; rw [supd_same] at nQ; cases nQ
  refine ⟨p, _, rfl, kp _ _ supd_same, Nat.lt_of_lt_of_le (put_small (put_small (put_small (put_small (n := 1) (by decide))))) (by decide), ?_⟩
  refine h Q ts g _ ⟨supd_same, by rw [supd_ne (Ne.symm pQ)]; exact hQ, sd, rfl⟩ pQ fun a x ha e => ?_
  rw [supd_ne ha]
  exact kp a x (by rw [supd_ne ha]; exact e)
theorem nd_le {α : Type} [DecidableEq α] : ∀ {l k : List α}, l.Nodup → (∀ x, x ∈ l → x ∈ k) → l.length ≤ k.length
  | [], _, _, _ => Nat.zero_le _
  | a :: l, k, nd, h => by
    obtain ⟨n1, n2⟩ := List.nodup_cons.mp nd
    have ih := nd_le (k := k.erase a) n2 fun x hx => (List.mem_erase_of_ne (fun e => n1 (by rw [← e]; exact hx))).mpr (h x (List.mem_cons_of_mem _ hx))
    have ha := h a (List.mem_cons_self ..)
    rw [List.length_erase_of_mem ha] at ih
    have := List.length_pos_of_mem ha
    rw [List.length_cons]; omega
def Fd.tqD (f : Fd) : D := .tq [.int f.r, .int f.L]
theorem found_keys (fs : List Fd) : (foundD fs).map (·.1) = fs.map Fd.key := by unfold foundD; rw [List.map_map]; rfl
theorem found_get {fs : List Fd} {f : Fd} (nd : (fs.map Fd.key).Nodup) (h : f ∈ fs) : dVal (foundD fs) f.key = some (.tup (f.cs.map .int)) := dVal_memS (by rw [found_keys]; exact nd) (List.mem_map.mpr ⟨f, h, rfl⟩)
structure StI (M : Mz) (T : Int → Prop) (fs : List Fd) (k : Nat) : Prop where
  ok : ∀ f, f ∈ fs → FdOk M T f
  nd : (fs.map Fd.key).Nodup
  l : ∀ (i : Nat) f, fs[i]? = some f → f.cs.length ≤ i
  st : ∀ R L, M.Stl 0 9 R L → ∃ f, f ∈ fs ∧ f.R = R ∧ f.L = L
  cl : ∀ (i : Nat) f, i < k → fs[i]? = some f → ∀ c, T c → ∀ R L, M.Stl (f.R * M.b + c * M.b ^ 9) (f.L + 1) R L → ∃ f', f' ∈ fs ∧ f'.R = R ∧ f'.L = L
  kl : k ≤ fs.length
theorem FdOk.rc {M : Mz} {T : Int → Prop} {f : Fd} (h : FdOk M T f) : M.Rc T f.R f.L := ⟨f.cs, h.t, h.led⟩
theorem StI.few {M : Mz} {T : Int → Prop} {fs : List Fd} {k n : Nat} (h : StI M T fs k) (ho : M.Ok) (hf : Few M T n) : fs.length ≤ n := by
  obtain ⟨KS, h1, h2⟩ := hf.ex
  have hn : (fs.map fun f => (f.R, f.L)).Nodup := by
    have nd := h.nd
    unfold List.Nodup at *
    rw [List.pairwise_map] at *
    refine nd.imp_of_mem fun {a b} ha hb ne e => ne ?_
    obtain ⟨e1, e2⟩ := Prod.mk.inj e
    have ra := (h.ok a ha).rel
    have rb := (h.ok b hb).rel
    rw [← e1, ← e2] at rb
    unfold Fd.key
    rw [Mz.Rel.uniqr ho ra rb, e2]
  have := nd_le hn (k := KS) fun x hx => by
    obtain ⟨f, hf, rfl⟩ := List.mem_map.mp hx
    exact h1 _ _ (h.ok f hf).rc
  rw [List.length_map] at this; omega
theorem StI.push {M : Mz} {T : Int → Prop} {fs : List Fd} {k : Nat} {f : Fd} (h : StI M T fs k) (hf : FdOk M T f) (hk : f.key ∉ fs.map Fd.key) (hl : f.cs.length ≤ fs.length) : StI M T (fs ++ [f]) k where
  ok := fun x hx => (List.mem_append.mp hx).elim (h.ok x) fun m => by rw [List.mem_singleton.mp m]; exact hf
  nd := by
    rw [List.map_append]
    refine List.nodup_append.mpr ⟨h.nd, by simp, fun a ha b hb e => hk ?_⟩
    rw [List.map_cons, List.map_nil, List.mem_singleton] at hb
    rw [← hb, ← e]; exact ha
  l := fun i x e => by
    by_cases c : i < fs.length
    · rw [List.getElem?_append_left c] at e; exact h.l i x e
    · rw [List.getElem?_append_right (by omega)] at e
      have := (List.getElem?_eq_some_iff.mp e).1
      simp at this
      have e0 : i = fs.length := by omega
      subst e0
      rw [Nat.sub_self] at e
      cases e; exact hl
  st := fun R L s => let ⟨x, hx, e⟩ := h.st R L s; ⟨x, List.mem_append_left _ hx, e⟩
  cl := fun i x hi e c hc R L s => by
    have : i < fs.length := by have := h.kl; omega
    rw [List.getElem?_append_left this] at e
    obtain ⟨y, hy, e⟩ := h.cl i x hi e c hc R L s
    exact ⟨y, List.mem_append_left _ hy, e⟩
  kl := by rw [List.length_append]; have := h.kl; omega
theorem vc_Late_statesT : goal_Late_statesT := by
  rintro x0 S P ⟨p, Q, M, ws, ms, ts, g, er, hL, hw, ho, hm, hf, h⟩
  cases er
  unfold rd_Late_statesT
  obtain ⟨hp, hq, sd, hW⟩ := hL
  have hT : ∀ c, Tot ws ms c → -M.W ≤ c ∧ c ≤ M.W := fun c ⟨fs, h1, e⟩ => by rw [hW, e]; exact wS_wide hw.l h1
  walk_at "dg7"
  refine ⟨p, _, rfl, hp, lf_no.2.2.2.1, ?_⟩
  refine ⟨p, M, rfl, ⟨_, hp⟩, ho, fun r1 R1 L1 s1 e1 => ?_⟩
  walk_at "dg7"
  refine ⟨_, rfl, fun F hF => ?_⟩
  have pF : p ≠ F := fun z => by subst z; rw [hF] at hp; cases hp
  have qF : Q ≠ F := fun z => by subst z; rw [hF] at hq; cases hq
  refine ⟨p, _, rfl, (by rw [supd_ne pF]; exact hp), lf_no.2.2.2.1, ?_⟩
  refine ⟨p, M, rfl, ⟨_, by rw [supd_ne pF]; exact hp⟩, ho, fun r2 R2 L2 s2 e2 l hl => ?_⟩
  obtain ⟨rfl, rfl⟩ := s1.uniq s2
  cases Mz.Rel.uniqr ho e1 e2
  have lF : l ≠ F := fun z => by subst z; rw [supd_same] at hl; cases hl
  rw [supd_ne lF] at hl
  have pl : p ≠ l := fun z => by subst z; rw [hl] at hp; cases hp
  have ql : Q ≠ l := fun z => by subst z; rw [hl] at hq; cases hq
  have pQ : p ≠ Q := fun z => by subst z; rw [hp] at hq; cases hq
  unfold dWhile
  refine ⟨fun n ρ S' => ∃ (k : Nat) (fs : List Fd) (z3 z4 z5 : Option D), ρ = [some (.obj p), some (.obj F), some (.obj l), z3, z4, z5] ∧ S' F = some (.dT (foundD fs)) ∧ S' l = some (.lst ((fs.drop k).map Fd.tqD)) ∧ StI M (Tot ws ms) fs k ∧ KpS S S' ∧ n = 2001 - k,
    ⟨_, 0, [⟨r1, L1, R1, []⟩], none, none, none, rfl, by rw [supd_ne (Ne.symm lF), supd_same]; rfl, supd_same, ⟨fun f hf => ?_, by simp, fun i f e => ?_, fun R L s => ⟨_, List.mem_singleton.mpr rfl, s1.uniq s⟩, fun i f hi => absurd hi (Nat.not_lt_zero _), Nat.zero_le _⟩, fun a x e => ?_, rfl⟩, ?_⟩
  · rw [List.mem_singleton.mp hf]
    exact ⟨e1, .nil s1, fun c hc => by cases hc⟩
  · have := (List.getElem?_eq_some_iff.mp e).1
    simp at this
    subst this
    cases e
    exact Nat.zero_le _
  · rw [supd_ne (fun z => by subst z; rw [hl] at e; cases e), supd_ne (fun z => by subst z; rw [hF] at e; cases e)]; exact e
  rintro n ρ S' ⟨k, fs, z3, z4, z5, rfl, hF1, hl1, hI, kp, rfl⟩
  have hlen := hI.few ho hf
  walk_at "dg7"
  simp only [cLen, lstOf, seqOf, hl1]
  walk_at "dg7"
  rw [List.length_map, List.length_drop]
  have hkl := hI.kl
  by_cases c : k < fs.length
  · have c1 : ((fs.length - k : Nat) : Int) > 0 := by omega
    simp only [c1, decide_true, reduceIte]
    unfold rd_Late_statesT_1
    obtain ⟨f0, hf0⟩ : ∃ f0, fs[k]? = some f0 := ⟨_, List.getElem?_eq_getElem c⟩
    have hdr : fs.drop k = f0 :: fs.drop (k + 1) := by
      rw [List.drop_eq_getElem_cons c]
      rw [List.getElem?_eq_getElem c] at hf0
      cases hf0; rfl
    walk_at "dg7"
    unfold dPopAt
    walk_at "dg7"
    simp only [hl1, hdr, List.map_cons]
    refine ⟨⟨_, rfl⟩, by decide, by decide, 0, f0.tqD, ?_, rfl, ?_⟩
    · rw [List.length_cons]; unfold seqIndex?; simp
    have hp1 : S' p = _ := kp _ _ hp
    have hq1 : S' Q = _ := kp _ _ hq
    walk_at "dg7"
    refine .inr ⟨Q, sumsD ts g, by rw [supd_ne ql]; exact hq1, fun o vs => ?_⟩
    walk_at "dg7"
    refine ⟨p, _, _, rfl, (by rw [supd_ne pQ, supd_ne pl]; exact hp1), rfl, ?_⟩
    refine ⟨Q, o, vs, sumsD ts g, rfl, supd_same, ?_⟩
    refine ⟨fun j ρ S2 => ∃ (fs' : List Fd) (z4 z5 : Option D), ρ = [some (.obj p), some (.obj F), some (.obj l), some f0.tqD, z4, z5] ∧ S2 Q = some (.dZ o vs (sumsD ts g)) ∧ S2 F = some (.dT (foundD fs')) ∧ S2 l = some (.lst ((fs'.drop (k + 1)).map Fd.tqD)) ∧ StI M (Tot ws ms) fs' k ∧ fs'[k]? = some f0 ∧ KpS S (supd S2 Q (.dK (sumsD ts g))) ∧ (∀ c, c ∈ ts.take j → ∀ R L, M.Stl (f0.R * M.b + c * M.b ^ 9) (f0.L + 1) R L → ∃ f', f' ∈ fs' ∧ f'.R = R ∧ f'.L = L),
      ⟨fs, _, _, rfl, supd_same, by rw [supd_ne (Ne.symm qF), supd_ne (Ne.symm lF)]; exact hF1, by rw [supd_ne (Ne.symm ql), supd_same]; rfl, hI, hf0, fun a x e => ?_, fun c hc => by simp at hc⟩, fun j ρ S2 ⟨fs', z4, z5, _, h1, _⟩ => h1, ?_, ?_⟩
    · rw [supd_supd, supd_id (by rw [supd_ne ql]; exact hq1)]
      rw [supd_ne (fun z => by subst z; rw [hl] at e; cases e)]
      exact kp a x e
    · rintro j d ρ S2 hd ⟨fs', z4, z5, rfl, hQ2, hF2, hl2, hI2, hf2, kp2, hs2⟩
      have hd' := hd
      unfold sumsD at hd'
      rw [List.map_map, List.getElem?_map] at hd'
      cases ej : ts[j]? with
      | none => rw [ej] at hd'; cases hd'
      | some c =>
        rw [ej] at hd'
        cases hd'
        have cm := List.mem_of_getElem? ej
        obtain ⟨fw, ce⟩ := sd.it c cm
        have tc : Tot ws ms c := ⟨g c, fw, ce⟩
        obtain ⟨c0, c1⟩ := hT c tc
        have hok := hI2.ok f0 (List.mem_of_getElem? hf2)
        obtain ⟨iv, l0, l9, _⟩ := Mz.Rc.inv ho hm hT hok.rc
        refine ⟨_, rfl, ?_⟩
        have hp2 : S2 p = some (.ins (CT.at_ 2) (LF M (.obj Q))) := by have := kp2 _ _ hp; rwa [supd_ne pQ] at this
        walk_at "dg7"
        refine ⟨p, _, rfl, hp2, lf_no.2.2.2.2, ?_⟩
        refine ⟨p, M, _, f0.r, f0.R, f0.L, c, rfl, by unfold Fd.tqD; walk_at "dg7", ⟨_, hp2⟩, ho, hok.rel, iv, by omega, c0, c1, fun r' R' L' hs hr => ?_⟩
        walk_at "dg7"
        have f0m := List.mem_of_getElem? hf2
        simp only [tct_dT hF2, show tkOf (D.tq [.int r', .int L']) = some [Sum.inl r', Sum.inl L'] from rfl, show tkOf f0.tqD = some f0.key from rfl, found_get hI2.nd f0m]
        have key : ∀ fs2 : List Fd, (∀ f, f ∈ fs' → f ∈ fs2) → (∃ f', f' ∈ fs2 ∧ f'.R = R' ∧ f'.L = L') → ∀ c', c' ∈ ts.take (j + 1) → ∀ R L, M.Stl (f0.R * M.b + c' * M.b ^ 9) (f0.L + 1) R L → ∃ f', f' ∈ fs2 ∧ f'.R = R ∧ f'.L = L := fun fs2 hsub hnew c' hc' R L s => by
          rw [List.take_add_one, ej] at hc'
          rcases List.mem_append.mp hc' with m | m
          · obtain ⟨f', hf', e⟩ := hs2 c' m R L s
            exact ⟨f', hsub _ hf', e⟩
          · have : c' = c := by simpa using m
            subst this
            obtain ⟨rfl, rfl⟩ := hs.uniq s
            exact hnew
        cases ev : dVal (foundD fs') [Sum.inl r', Sum.inl L'] with
        | some y =>
          simp only [Option.isSome, Bool.not_true, Bool.false_eq_true, reduceIte]
          walk_at "dg7"
          have : [Sum.inl r', Sum.inl L'] ∈ (foundD fs').map (·.1) := by
            apply Classical.byContradiction
            intro q
            rw [dVal_none.mpr q] at ev; cases ev
          rw [found_keys] at this
          obtain ⟨f', hf', ek⟩ := List.mem_map.mp this
          unfold Fd.key at ek
          simp only [List.cons.injEq, Sum.inl.injEq, and_true] at ek
          obtain ⟨rfl, rfl⟩ := ek
          have eR := Mz.Rel.uniqR ho (hI2.ok f' hf').rel hr
          exact ⟨fs', _, _, rfl, hQ2, hF2, hl2, hI2, hf2, kp2, key fs' (fun f h => h) ⟨f', hf', eR, rfl⟩⟩
        | none =>
          have nk : [Sum.inl r', Sum.inl L'] ∉ (foundD fs').map (·.1) := dVal_none.mp ev
          simp only [Option.isSome, Bool.not_false, reduceIte]
          walk_at "dg7"
          have kl2 := (List.getElem?_eq_some_iff.mp hf2).1
          have cl := hI2.l k f0 hf2
          have hlen2 := hI2.few ho hf
          have fl : (foundD fs').length = fs'.length := List.length_map ..
          have nf : StI M (Tot ws ms) (fs' ++ [⟨r', L', R', f0.cs ++ [c]⟩]) k := hI2.push ⟨hr, .more hok.led hs, fun x hx => by
            rcases List.mem_append.mp hx with m | m
            · exact hok.t x m
            · rw [List.mem_singleton.mp m]; exact tc⟩ (by rw [← found_keys]; exact nk) (by rw [List.length_append]; simp only [List.length_cons, List.length_nil]; omega)
          refine ⟨by rw [List.length_map]; omega, F, foundD fs', _, rfl, hF2, rfl, by omega, _, by rw [supd_ne lF]; exact hl2, _, by rw [supd_ne lF]; exact hl2, by rw [List.length_map, List.length_drop]; omega, fs' ++ [⟨r', L', R', f0.cs ++ [c]⟩], _, _, rfl, by rw [supd_ne ql, supd_ne qF]; exact hQ2, ?_, ?_, nf, by rw [List.getElem?_append_left kl2]; exact hf2, fun a x e => ?_, key _ (fun f h => List.mem_append_left _ h) ⟨_, List.mem_append_right _ (List.mem_singleton.mpr rfl), rfl, rfl⟩⟩
          · rw [supd_ne (Ne.symm lF), supd_same, dPut_new _ nk]
            unfold foundD
            rw [List.map_append]
            congr 3
            show [(_, _)] = [(_, _)]
            rw [List.map_append]
            rfl
          · rw [List.drop_append_of_le_length (by omega), List.map_append]; rfl
          · by_cases aQ : a = Q
            · subst aQ
              rw [hq] at e
              cases e
              exact supd_same
            · have e2 := kp2 a x e
              rw [supd_ne aQ] at e2
              rw [supd_ne aQ, supd_ne (fun z => by subst z; rw [hl] at e; cases e), supd_ne (fun z => by subst z; rw [hF] at e; cases e)]
              exact e2
    · rintro ρ S2 ⟨fs', z4, z5, rfl, hQ2, hF2, hl2, hI2, hf2, kp2, hs2⟩
      refine ⟨hQ2, ?_⟩
      have hlen2 := hI2.few ho hf
      have hF3 : supd S2 Q (.dK (sumsD ts g)) F = some (.dT (foundD fs')) := by rw [supd_ne (Ne.symm qF)]; exact hF2
      walk_at "dg7"
      simp only [hF3]
      have fl : (foundD fs').length = fs'.length := List.length_map ..
      rw [fl]
      have c2 : ¬ (fs'.length : Int) > 2000 := by omega
      simp only [c2, decide_false, Bool.false_eq_true, reduceIte]
      walk_at "dg7"
      have kl2 := (List.getElem?_eq_some_iff.mp hf2).1
      refine ⟨2001 - (k + 1), by omega, k + 1, fs', _, _, _, rfl, by first | exact hF3 | rfl, by rw [supd_ne (Ne.symm ql)]; exact hl2, ⟨hI2.ok, hI2.nd, hI2.l, hI2.st, fun i f hi hf c hc R L s => ?_, kl2⟩, kp2, rfl⟩
      by_cases ci : i < k
      · exact hI2.cl i f ci hf c hc R L s
      · have : i = k := by omega
        subst this
        rw [hf2] at hf
        cases hf
        refine hs2 _ ?_ R L s
        have sl : (List.map (fun kv => kD kv.1) (sumsD ts g)).length = ts.length := by unfold sumsD; rw [List.length_map, List.length_map]
        rw [sl, List.take_length]
        exact sd.all _ hc
  · have c1 : ¬ ((fs.length - k : Nat) : Int) > 0 := by omega
    simp only [c1, decide_false, Bool.false_eq_true, reduceIte]
    walk_at "dg7"
    have hk : k = fs.length := by omega
    refine h F fs S' ⟨hI.ok, hI.nd, fun R L hR => ?_, hI.l, fun z => (by obtain ⟨f, hf, _⟩ := hI.st _ _ s1; rw [z] at hf; cases hf)⟩ hF hF1 kp
    refine Mz.Rc.all (K := fun R L => ∃ f, f ∈ fs ∧ f.R = R ∧ f.L = L) hI.st (fun R L c R' L' ⟨f, hf, eR, eL⟩ hc s => ?_) hR
    subst eR; subst eL
    obtain ⟨i, hi⟩ := List.mem_iff_getElem?.mp hf
    exact hI.cl i f (by have := (List.getElem?_eq_some_iff.mp hi).1; omega) hi c hc _ _ s
theorem lc_filP {α : Type} {t : Tgt} {tt : DT} {de : DE} {P : D → Store → Prop} {xs : List α} {pin : Store → Prop} {ρ : DSt} {S : Store} (f g : α → D) (b : α → Bool) (hl : xs.length ≤ 100000) (hp : pin S)
    (h : ∀ x, x ∈ xs → ∃ ρ', t.put (f x) (dwipe ρ t.slots) = some ρ' ∧ (∀ Q : Bool → Store → Prop, Q (b x) S → tt ρ' S Q) ∧ (b x = true → ∀ Q : D → Store → Prop, Q (g x) S → de ρ' S Q)) (q : P (.lst ((xs.filter b).map g)) S) : LcP t tt de P (xs.map f) pin ρ S := by
  refine ⟨by rw [List.length_map]; exact hl, fun i acc S' => acc = ((xs.take i).filter b).map g ∧ S' = S, ⟨rfl, rfl⟩, ?_, ?_, ?_⟩
  · rintro i acc S' ⟨_, rfl⟩; exact hp
  · rintro i d acc S' hd ⟨rfl, rfl⟩
    rw [List.getElem?_map] at hd
    cases e : xs[i]? with
    | none => rw [e] at hd; cases hd
    | some x =>
      rw [e] at hd
      cases hd
      obtain ⟨ρ', h1, h2, h3⟩ := h x (List.mem_of_getElem? e)
      refine ⟨ρ', h1, h2 _ ?_⟩
      have ee : (xs.take (i + 1)).filter b = (xs.take i).filter b ++ [x].filter b := by rw [List.take_add_one, e, List.filter_append]; rfl
      cases c : b x with
      | true =>
        simp only [reduceIte]
        refine h3 c _ ⟨?_, by trivial⟩
        rw [ee, List.map_append, List.filter_cons_of_pos c]; rfl
      | false =>
        simp only [Bool.false_eq_true, reduceIte]
        refine ⟨?_, by trivial⟩
        rw [ee, List.map_append, List.filter_cons_of_neg (by rw [c]; simp), List.filter_nil, List.map_nil, List.append_nil]
  · rintro acc S' ⟨rfl, rfl⟩
    rw [List.length_map, List.take_length]; exact q
theorem max_led {fs : List Fd} {S : Store} {P : D → Store → Prop} (hne : fs ≠ []) (q : ∀ f, f ∈ fs → (∀ f', f' ∈ fs → f'.L ≤ f.L) → P (.int f.L) S) : cMaxL [.lst (fs.map fun f => .int f.L)] S P := by
  unfold cMaxL
  have e : (fs.map fun f => D.int f.L) = (fs.map fun f => f.L).map D.int := by rw [List.map_map]; rfl
  simp only [lstOf, Option.bind, e, dInts_map]
  refine ⟨by rw [List.length_map]; exact List.length_pos_iff.mpr hne, fun m hm hge => ?_⟩
  obtain ⟨f, hf, rfl⟩ := List.mem_map.mp hm
  exact q f hf fun f' hf' => hge _ (List.mem_map.mpr ⟨f', hf', rfl⟩)
theorem found_keysU (fs : List Fd) : (foundD fs).map (fun kv => D.tup (kv.1.map kD)) = fs.map fun f => D.tup [.int f.r, .int f.L] := by unfold foundD; rw [List.map_map]; rfl
theorem found_itemsU (fs : List Fd) : (foundD fs).map (fun kv => D.tup [.tup (kv.1.map kD), kv.2]) = fs.map fun f => D.tup [.tup [.int f.r, .int f.L], .tup (f.cs.map .int)] := by unfold foundD; rw [List.map_map]; rfl
theorem filt_all {α : Type} (l : List α) : l.filter (fun _ => true) = l := List.filter_eq_self.mpr fun _ _ => rfl
theorem vc_worst_lagT : goal_worst_lagT := by
  rintro x0 x1 x2 x3 x4 S P ⟨b, v, m, ws, ms, er, hw, ho, hm, hf, h⟩
  cases er
  unfold rd_worst_lagT
  walk_at "dg7"
  refine fun p hp => ⟨p, b, v, m, ws, ms, rfl, hw, supd_same, fun Q ts g S1 hL pQ hk1 => ⟨rfl, ?_⟩⟩
  have kp : KpS S S1 := fun a x e => hk1 a x (fun z => by subst z; rw [hp] at e; cases e) (by rw [supd_ne (fun z => by subst z; rw [hp] at e; cases e)]; exact e)
  refine ⟨p, _, rfl, hL.o, rfl, ?_⟩
  refine ⟨p, Q, _, ws, ms, ts, g, rfl, hL, hw, ho, hm, hf, fun F fs S2 hA nF hF kp2 => ?_⟩
  have hlen : fs.length ≤ 2000 := StI.few (k := 0) ⟨hA.ok, hA.nd, hA.l, fun R L s => hA.all R L (.start s), fun i f hi => absurd hi (Nat.not_lt_zero _), Nat.zero_le _⟩ ho hf
  walk_at "dg7"
  refine ⟨F, _, rfl, .inl ⟨hF, fun o vs => ⟨F, o, vs, _, rfl, supd_same, ?_⟩⟩⟩
  rw [found_keysU]
  refine lc_filP _ (fun f => .int f.L) (fun _ => true) (by omega) supd_same (fun f hf => ⟨_, rfl, fun Q q => q, fun _ Q q => ?_⟩) ?_
  · walk_at "dg7"; exact q
  rw [filt_all]
  refine max_led hA.ne fun f hf hge => ?_
  refine h f.L _ ⟨f.R, (hA.ok f hf).rc⟩ (fun R' L' hR => ?_) fun a x e => ?_
  · obtain ⟨f', hf', _, rfl⟩ := hA.all R' L' hR
    exact hge f' hf'
  · have := kp a x e
    rw [supd_ne (fun z => by subst z; rw [nF] at this; cases this)]
    exact kp2 a x this
theorem vc_worst_rowsT : goal_worst_rowsT := by
  rintro x0 x1 x2 x3 x4 S P ⟨b, v, m, ws, ms, n, er, hw, ho, hm, hf, hn, h⟩
  cases er
  unfold rd_worst_rowsT
  walk_at "dg7"
  refine fun p hp => ⟨p, b, v, m, ws, ms, rfl, hw, supd_same, fun Q ts g S1 hL pQ hk1 => ⟨rfl, ?_⟩⟩
  have kp : KpS S S1 := fun a x e => hk1 a x (fun z => by subst z; rw [hp] at e; cases e) (by rw [supd_ne (fun z => by subst z; rw [hp] at e; cases e)]; exact e)
  walk_at "dg7"
  refine ⟨p, _, rfl, hL.o, rfl, ?_⟩
  refine ⟨p, Q, _, ws, ms, ts, g, rfl, hL, hw, ho, hm, ⟨hf.ex.imp fun _ z => ⟨z.1, Nat.le_trans z.2 hn⟩⟩, fun F fs S2 hA nF hF kp2 => ?_⟩
  have hlen : fs.length ≤ n := StI.few (k := 0) ⟨hA.ok, hA.nd, hA.l, fun R L s => hA.all R L (.start s), fun i f hi => absurd hi (Nat.not_lt_zero _), Nat.zero_le _⟩ ho hf
  have hl1 := hw.l1
  walk_at "dg7"
  refine ⟨F, _, rfl, .inl ⟨hF, fun o vs => ⟨F, o, vs, _, rfl, supd_same, ?_⟩⟩⟩
  rw [found_keysU]
  refine lc_filP _ (fun f => .int f.L) (fun _ => true) (by omega) supd_same (fun f hf => ⟨_, rfl, fun Q q => q, fun _ Q q => ?_⟩) ?_
  · walk_at "dg7"; exact q
  rw [filt_all]
  refine max_led hA.ne fun f hf hge => ?_
  have nF0 : S F = none := by
    cases e : S F with
    | none => rfl
    | some x => rw [kp _ _ e] at nF; cases nF
  have kp3 : KpS S (supd S2 F (.dU o vs (foundD fs))) := fun a x e => by
    rw [supd_ne (fun z => by subst z; rw [nF0] at e; cases e)]
    exact kp2 a x (kp a x e)
  have hp3 : supd S2 F (.dU o vs (foundD fs)) p = some (.ins (CT.at_ 2) (LF ⟨b, v, m, wideS ws ms⟩ (.obj Q))) := by
    rw [supd_ne (fun z => by subst z; rw [hL.o] at nF; cases nF)]
    exact kp2 _ _ hL.o
  have hq3 : supd S2 F (.dU o vs (foundD fs)) Q = some (.dK (sumsD ts g)) := by
    rw [supd_ne (fun z => by subst z; rw [hL.q] at nF; cases nF)]
    exact kp2 _ _ hL.q
  walk_at "dg7"
  refine ⟨F, _, rfl, .inr ⟨⟨o, vs, supd_same⟩, F, o, vs, _, rfl, supd_same, ?_⟩⟩
  have hU3 : supd S2 F (.dU o vs (foundD fs)) F = some (.dU o vs (foundD fs)) := supd_same
  generalize supd S2 F (.dU o vs (foundD fs)) = S3 at *
  rw [found_itemsU]
  refine lc_filP _ (fun f => .tup (f.cs.map .int)) (fun f' => decide (f'.L = f.L)) (by omega) hU3 (fun f' hf' => ⟨_, rfl, fun Q q => ?_, fun _ Q q => ?_⟩) ?_
  · walk_at "dg7"; exact q
  · walk_at "dg7"; exact q
  have fmem : f ∈ fs.filter (fun f' => decide (f'.L = f.L)) := List.mem_filter.mpr ⟨hf, by simp⟩
  cases ef : fs.filter (fun f' => decide (f'.L = f.L)) with
  | nil => rw [ef] at fmem; cases fmem
  | cons f0 fr =>
  have f0m : f0 ∈ fs.filter (fun f' => decide (f'.L = f.L)) := by rw [ef]; exact List.mem_cons_self ..
  obtain ⟨f0s, f0L⟩ := List.mem_filter.mp f0m
  have f0L : f0.L = f.L := by simpa using f0L
  have hok := hA.ok f0 f0s
  obtain ⟨i0, hi0⟩ := List.mem_iff_getElem?.mp f0s
  have il := hA.l i0 f0 hi0
  have il2 := (List.getElem?_eq_some_iff.mp hi0).1
  have hg : ∀ c, c ∈ f0.cs → FigW ws ms (g c) ∧ c = wS ws (g c) := fun c hc => hL.d.it c (hL.d.all c (hok.t c hc))
  simp only [List.map_cons]
  walk_at "dg7"
  rw [List.length_map]
  refine ⟨by omega, by omega, ?_⟩
  have er : rng 0 ((ws.length : Int)).toNat = (List.range ws.length).map fun i : Nat => D.int (0 + (i : Int)) := rfl
  rw [er]
  refine lc_mapA _ (fun i => .tup ((f0.cs.map fun c => (g c).getD i 0).map .int)) (by rw [List.length_range]; omega) (fun i hi => ⟨_, rfl, fun P2 q => ?_⟩) ?_
  · have hi := List.mem_range.mp hi
    walk_at "dg7"
    refine lc_mapA D.int (fun c => .int ((g c).getD i 0)) (by omega) (fun c hc => ⟨_, rfl, fun P3 q3 => ?_⟩) ?_
    · walk_at "dg7"
      refine ⟨p, _, _, rfl, hp3, rfl, ?_⟩
      have dv : dVal (sumsD ts g) (Sum.inl c) = some (.tup ((g c).map .int)) := by
        have nd : ((sumsD ts g).map (·.1)).Nodup := by
          unfold sumsD
          rw [List.map_map]
          refine List.pairwise_map.mpr (hL.d.nd.imp fun h e => h ?_)
          exact Sum.inl.inj e
        exact dVal_memS nd (List.mem_map.mpr ⟨c, hL.d.all c (hok.t c hc), rfl⟩)
      have fw := (hg c hc).1.l
      rw [dct_dK hq3]
      simp only [dv]
      walk_at "dg7"
      have gi : (g c)[i]? = some ((g c).getD i 0) := by
        rw [List.getD_eq_getElem?_getD, List.getElem?_eq_getElem (by omega)]; rfl
      rw [atI_at (by omega) (by rw [List.length_map]; omega), List.getElem?_map, show ((0 : Int) + (i : Int)).toNat = i by omega, gi]
      exact q3
    · rw [show (f0.cs.map fun c => D.int ((g c).getD i 0)) = (f0.cs.map fun c => (g c).getD i 0).map D.int by rw [List.map_map]; rfl]
      walk_at "dg7"
      exact q
  have hc := cols_path (ws := ws) (ms := ms) hg
  have er2 : (List.range ws.length).map (fun i => D.tup ((f0.cs.map fun c => (g c).getD i 0).map .int)) = (pathR g ws.length f0.cs).map fun r => D.tup (r.map .int) := by unfold pathR; rw [List.map_map]; rfl
  rw [er2]
  refine h (pathR g ws.length f0.cs) f0.cs.length f0.R f0.L _ (pathR_at hw.l hg) (by omega) (fun c hc' => ?_) (by rw [hc]; exact hok.led) (fun R' L' hR => ?_) kp3
  · rw [hc] at hc'
    exact hok.t c hc'
  · obtain ⟨f', hf', _, rfl⟩ := hA.all R' L' hR
    rw [f0L]
    exact hge f' hf'
theorem Mz.Stl.rel {M : Mz} (ho : M.Ok) {R L R' L' : Int} (h : M.Stl R L R' L') : ∀ r, M.Rel r R L → ∃ r', M.Rel r' R' L' := by
  induction h with
  | stop n => exact fun r hr => ⟨r, hr⟩
  | go n _ ih => exact fun r hr => ih _ (Mz.rel_give ho hr n.1)
theorem Mz.Led.rel {M : Mz} (ho : M.Ok) {cs : List Int} {R L : Int} (h : M.Led cs R L) : ∃ r, M.Rel r R L := by
  induction h with
  | nil s => exact s.rel ho 0 ⟨by rw [Int.zero_mul, Int.zero_mul], by omega⟩
  | more a s ih =>
    obtain ⟨r, hr⟩ := ih
    exact s.rel ho _ (Mz.rel_read ho hr)
def Mz.q (M : Mz) (L : Int) : Int := M.v * M.m * M.b ^ L.toNat - M.W * M.b ^ (-L).toNat
theorem Mz.Rel.q {M : Mz} (ho : M.Ok) {r R L : Int} (h : M.Rel r R L) (I : M.Inv R L) : (M.b - 1) * r ≤ M.q L ∧ -((M.b - 1) * r) ≤ M.q L := by
  have b0 := ho.b0
  have p9 := ho.pw 9
  have pk := ho.pw (-L).toNat
  obtain ⟨i1, i2⟩ := I
  have e1 : (M.b - 1) * R * M.b ^ (-L).toNat = (M.b - 1) * r * M.b ^ 9 := by rw [Int.mul_assoc, ← h.1, Int.mul_assoc]
  have e2 : M.b * (M.u L * M.m) * M.b ^ (-L).toNat = M.v * M.m * M.b ^ L.toNat * M.b ^ 9 := by
    have hl := h.2
    have e : M.b * M.b ^ (L + 8).toNat * M.b ^ (-L).toNat = M.b ^ L.toNat * M.b ^ 9 := by
      rw [← Int.pow_succ', ← Int.pow_add, ← Int.pow_add]
      congr 1; omega
    unfold Mz.u
    calc M.b * (M.v * M.b ^ (L + 8).toNat * M.m) * M.b ^ (-L).toNat = M.v * M.m * (M.b * M.b ^ (L + 8).toNat * M.b ^ (-L).toNat) := by
          ac_rfl
      _ = _ := by rw [e, Int.mul_assoc]; simp only [Int.mul_assoc]
  have e3 : M.W * M.b ^ 9 * M.b ^ (-L).toNat = M.W * M.b ^ (-L).toNat * M.b ^ 9 := Int.mul_right_comm ..
  have k1 := Int.mul_le_mul_of_nonneg_right i1 (show 0 ≤ M.b ^ (-L).toNat by omega)
  have k2 := Int.mul_le_mul_of_nonneg_right i2 (show 0 ≤ M.b ^ (-L).toNat by omega)
  rw [Int.add_mul, e2, e3] at k1 k2
  rw [Int.neg_mul] at k2
  rw [e1] at k1 k2
  unfold Mz.q
  constructor
  · refine Int.le_of_mul_le_mul_right (a := M.b ^ 9) ?_ (by omega)
    rw [Int.sub_mul (M.v * M.m * M.b ^ L.toNat)]; omega
  · refine Int.le_of_mul_le_mul_right (a := M.b ^ 9) ?_ (by omega)
    rw [Int.sub_mul (M.v * M.m * M.b ^ L.toNat), Int.neg_mul]; omega
/-- rests at a lead -/
def Mz.nr (M : Mz) (L : Int) : Nat := (2 * (M.q L / (M.b - 1)) + 1).toNat
def Mz.KS (M : Mz) (D : Nat) : List (Int × Int) := (List.range (D + 9)).flatMap fun (j : Nat) => (List.range (M.nr ((j : Int) - 8))).map fun (i : Nat) => (((i : Int) - M.q ((j : Int) - 8) / (M.b - 1)) * M.b ^ 9 / M.b ^ (-((j : Int) - 8)).toNat, (j : Int) - 8)
theorem Mz.KS_mem {M : Mz} (ho : M.Ok) {D : Nat} {r R L : Int} (h : M.Rel r R L) (I : M.Inv R L) (hL : L ≤ D) : (R, L) ∈ M.KS D := by
  have b0 := ho.b0
  obtain ⟨q1, q2⟩ := h.q ho I
  have hl := h.2
  have pk := ho.pw (-L).toNat
  refine List.mem_flatMap.mpr ⟨(L + 8).toNat, List.mem_range.mpr (by omega), ?_⟩
  rw [show (((L + 8).toNat : Nat) : Int) - 8 = L by omega]
  obtain ⟨B, hB⟩ : ∃ B, B = M.q L / (M.b - 1) := ⟨_, rfl⟩
  have b1 : r ≤ B := by
    rw [hB]
    exact (Int.le_ediv_iff_mul_le (by omega)).mpr (by rw [Int.mul_comm]; exact q1)
  have b2 : -r ≤ B := by
    rw [hB]
    exact (Int.le_ediv_iff_mul_le (by omega)).mpr (by rw [Int.mul_comm, Int.mul_neg]; exact q2)
  refine List.mem_map.mpr ⟨(r + B).toNat, List.mem_range.mpr (by unfold Mz.nr; rw [← hB]; omega), ?_⟩
  rw [← hB, show (((r + B).toNat : Nat) : Int) - B = r by omega, h.1, Int.mul_ediv_cancel _ (by omega)]
theorem Mz.few {M : Mz} (ho : M.Ok) (hm : M.b ≤ 2 * M.m) {T : Int → Prop} (hT : ∀ c, T c → -M.W ≤ c ∧ c ≤ M.W) {D n : Nat} (hD : ∀ R L, M.Rc T R L → L ≤ D) (hn : (M.KS D).length ≤ n) : Few M T n := by
  refine ⟨M.KS D, fun R L h => ?_, hn⟩
  obtain ⟨iv, _⟩ := Mz.Rc.inv ho hm hT h
  have hl := hD R L h
  obtain ⟨cs, _, hled⟩ := h
  obtain ⟨r, hr⟩ := hled.rel ho
  exact Mz.KS_mem ho hr iv hl
/-- a bound of the rests at a lead -/
def Mz.h (M : Mz) (n : Nat) : Int := 2 * (M.v * M.m) * M.b ^ n / (M.b - 1)
theorem Mz.h0 {M : Mz} (ho : M.Ok) (n : Nat) : 0 ≤ M.h n := by
  have b0 := ho.b0; have v0 := ho.v0; have m0 := ho.m0; have := ho.pw n
  exact Int.ediv_nonneg (Int.mul_nonneg (Int.mul_nonneg (by decide) (Int.mul_nonneg (by omega) (by omega))) (by omega)) (by omega)
theorem Mz.h_up {M : Mz} (ho : M.Ok) (n : Nat) : 2 * M.h n ≤ M.h (n + 1) := by
  have b0 := ho.b0
  have h0 := Mz.h0 ho n
  have h1 : M.b * M.h n ≤ M.h (n + 1) := by
    unfold Mz.h
    rw [Int.pow_succ, show 2 * (M.v * M.m) * (M.b ^ n * M.b) = 2 * (M.v * M.m) * M.b ^ n * M.b from (Int.mul_assoc ..).symm]
    generalize 2 * (M.v * M.m) * M.b ^ n = X
    refine (Int.le_ediv_iff_mul_le (by omega)).mpr ?_
    have := Int.ediv_mul_le X (show M.b - 1 ≠ 0 by omega)
    rw [show M.b * (X / (M.b - 1)) * (M.b - 1) = X / (M.b - 1) * (M.b - 1) * M.b by ac_rfl]
    exact Int.mul_le_mul_of_nonneg_right this (by omega)
  have := Int.mul_le_mul_of_nonneg_right b0 h0
  omega
theorem Mz.nr_le {M : Mz} (ho : M.Ok) (L : Int) : (M.nr L : Int) ≤ M.h L.toNat + 1 := by
  have b0 := ho.b0; have W0 := ho.W0; have pk := ho.pw (-L).toNat
  have h0 := Mz.h0 ho L.toNat
  unfold Mz.nr
  have h1 : 2 * (M.q L / (M.b - 1)) ≤ M.h L.toNat := by
    unfold Mz.h
    refine (Int.le_ediv_iff_mul_le (by omega)).mpr ?_
    have h2 := Int.ediv_mul_le (M.q L) (show M.b - 1 ≠ 0 by omega)
    have h3 : M.q L ≤ M.v * M.m * M.b ^ L.toNat := by
      unfold Mz.q
      have := Int.mul_nonneg (show 0 ≤ M.W by omega) (show 0 ≤ M.b ^ (-L).toNat by omega)
      omega
    rw [Int.mul_assoc, Int.mul_assoc]
    omega
  omega
theorem KS_len (M : Mz) (D : Nat) : (M.KS D).length = ((List.range (D + 9)).map fun (j : Nat) => M.nr ((j : Int) - 8)).sum := by
  unfold Mz.KS
  rw [List.length_flatMap]
  congr 1
  refine List.map_congr_left fun j _ => ?_
  rw [List.length_map, List.length_range]
theorem Mz.KS_le {M : Mz} (ho : M.Ok) : ∀ D : Nat, ((M.KS D).length : Int) ≤ 2 * M.h D + D + 1 + 8 * (M.h 0 + 1)
  | 0 => by
    rw [KS_len]
    simp only [List.range_succ, List.range_zero, List.map_append, List.map_cons, List.map_nil, List.sum_append, List.sum_cons, List.sum_nil, List.nil_append]
    have n0 := Mz.nr_le ho (((0 : Nat) : Int) - 8)
    have n1 := Mz.nr_le ho (((1 : Nat) : Int) - 8)
    have n2 := Mz.nr_le ho (((2 : Nat) : Int) - 8)
    have n3 := Mz.nr_le ho (((3 : Nat) : Int) - 8)
    have n4 := Mz.nr_le ho (((4 : Nat) : Int) - 8)
    have n5 := Mz.nr_le ho (((5 : Nat) : Int) - 8)
    have n6 := Mz.nr_le ho (((6 : Nat) : Int) - 8)
    have n7 := Mz.nr_le ho (((7 : Nat) : Int) - 8)
    have n8 := Mz.nr_le ho (((8 : Nat) : Int) - 8)
    have h0 := Mz.h0 ho 0
    rw [show (((0 : Nat) : Int) - 8).toNat = 0 by rfl] at n0
    rw [show (((1 : Nat) : Int) - 8).toNat = 0 by rfl] at n1
    rw [show (((2 : Nat) : Int) - 8).toNat = 0 by rfl] at n2
    rw [show (((3 : Nat) : Int) - 8).toNat = 0 by rfl] at n3
    rw [show (((4 : Nat) : Int) - 8).toNat = 0 by rfl] at n4
    rw [show (((5 : Nat) : Int) - 8).toNat = 0 by rfl] at n5
    rw [show (((6 : Nat) : Int) - 8).toNat = 0 by rfl] at n6
    rw [show (((7 : Nat) : Int) - 8).toNat = 0 by rfl] at n7
    rw [show (((8 : Nat) : Int) - 8).toNat = 0 by rfl] at n8
    omega
  | D + 1 => by
    have ih := Mz.KS_le ho D
    rw [KS_len] at ih ⊢
    rw [show D + 1 + 9 = (D + 9) + 1 by omega, List.range_succ, List.map_append, List.sum_append]
    have n := Mz.nr_le ho (((D + 9 : Nat) : Int) - 8)
    rw [show (((D + 9 : Nat) : Int) - 8).toNat = D + 1 by omega] at n
    have up := Mz.h_up ho D
    simp only [List.map_cons, List.map_nil, List.sum_cons, List.sum_nil]
    omega
/-- as many as told -/
theorem Mz.few_of {M : Mz} (ho : M.Ok) (hm : M.b ≤ 2 * M.m) {T : Int → Prop} (hT : ∀ c, T c → -M.W ≤ c ∧ c ≤ M.W) {D n : Nat} (hD : ∀ R L, M.Rc T R L → L ≤ D) (hn : 2 * M.h D + D + 1 + 8 * (M.h 0 + 1) ≤ n) : Few M T n :=
  Mz.few ho hm hT hD (by have := Mz.KS_le ho D; omega)
theorem Mz.h_pow {M : Mz} (ho : M.Ok) (hm : M.b ≤ 2 * M.m) : ∀ D : Nat, (2 : Int) ^ D ≤ M.h D
  | 0 => by
    have b0 := ho.b0; have v0 := ho.v0; have m0 := ho.m0
    unfold Mz.h
    refine (Int.le_ediv_iff_mul_le (by omega)).mpr ?_
    have := Int.mul_le_mul_of_nonneg_right v0 (show 0 ≤ M.m by omega)
    rw [Int.pow_zero, Int.pow_zero]
    omega
  | D + 1 => by
    have ih := Mz.h_pow ho hm D
    have := Mz.h_up ho D
    rw [Int.pow_succ]
    omega
/-! ### one scale -/
def Mz.by (M : Mz) (k : Int) : Mz := ⟨M.b, M.v * k, M.m, M.W * k⟩
theorem Mz.by_u (M : Mz) (k L : Int) : (M.by k).u L = M.u L * k := by
  unfold Mz.u Mz.by; dsimp only; rw [Int.mul_right_comm]
theorem Mz.by_ok {M : Mz} {k R L d : Int} (k0 : 1 ≤ k) : (M.by k).ok (R * k) L d ↔ M.ok R L d := by
  unfold Mz.ok Mz.room
  rw [Mz.by_u]
  show (M.b - 1) * (R * k - d * (M.u L * k)) ≤ M.u L * k * M.m - M.W * k * M.b ^ 9 ∧ -(M.u L * k * M.m - M.W * k * M.b ^ 9) ≤ (M.b - 1) * (R * k - d * (M.u L * k)) ↔ _
  have e1 : (M.b - 1) * (R * k - d * (M.u L * k)) = (M.b - 1) * (R - d * M.u L) * k := by
    rw [← Int.mul_assoc d, ← Int.sub_mul, Int.mul_assoc]
  have e2 : M.u L * k * M.m - M.W * k * M.b ^ 9 = (M.u L * M.m - M.W * M.b ^ 9) * k := by
    rw [Int.mul_right_comm, Int.mul_right_comm M.W, ← Int.sub_mul]
  rw [e1, e2, ← Int.neg_mul]
  constructor
  · rintro ⟨a, b⟩
    exact ⟨Int.le_of_mul_le_mul_right a (by omega), Int.le_of_mul_le_mul_right b (by omega)⟩
  · rintro ⟨a, b⟩
    exact ⟨Int.mul_le_mul_of_nonneg_right a (by omega), Int.mul_le_mul_of_nonneg_right b (by omega)⟩
theorem Mz.by_nx {M : Mz} {k R L : Int} {o : Option Int} (k0 : 1 ≤ k) : (M.by k).Nx (R * k) L o ↔ M.Nx R L o := by
  cases o with
  | none => exact forall_congr' fun d => not_congr (Mz.by_ok k0)
  | some d => exact and_congr (Mz.by_ok k0) (forall_congr' fun e => imp_congr (Mz.by_ok k0) Iff.rfl)
theorem Mz.by_stl {M : Mz} {k R L R' L' : Int} (k0 : 1 ≤ k) (h : M.Stl R L R' L') : (M.by k).Stl (R * k) L (R' * k) L' := by
  induction h with
  | stop n => exact .stop ((Mz.by_nx k0).mpr n)
  | @go R L d R' L' n _ ih =>
    refine .go ((Mz.by_nx k0).mpr n) ?_
    rw [Mz.by_u, ← Int.mul_assoc, ← Int.sub_mul]
    exact ih
theorem Mz.by_stl_inv {M : Mz} {k A L R2 L' : Int} (k0 : 1 ≤ k) (h : (M.by k).Stl A L R2 L') : ∀ R, A = R * k → ∃ R', R2 = R' * k ∧ M.Stl R L R' L' := by
  induction h with
  | stop n =>
    rintro R rfl
    exact ⟨R, rfl, .stop ((Mz.by_nx k0).mp n)⟩
  | @go A L d R' L' n _ ih =>
    rintro R rfl
    obtain ⟨R1, e, s⟩ := ih (R - d * M.u L) (by rw [Mz.by_u, ← Int.mul_assoc, ← Int.sub_mul])
    exact ⟨R1, e, .go ((Mz.by_nx k0).mp n) s⟩
theorem Mz.by_read (M : Mz) (k R c : Int) : R * k * (M.by k).b + c * k * (M.by k).b ^ 9 = (R * M.b + c * M.b ^ 9) * k := by
  show R * k * M.b + c * k * M.b ^ 9 = _
  rw [Int.add_mul, Int.mul_right_comm R, Int.mul_right_comm c]
theorem Mz.by_led {M : Mz} {k R L : Int} {cs : List Int} (k0 : 1 ≤ k) (h : M.Led cs R L) : (M.by k).Led (cs.map (· * k)) (R * k) L := by
  induction h with
  | nil s => exact .nil (by have := Mz.by_stl k0 s; rwa [Int.zero_mul] at this)
  | more a s ih =>
    rw [List.map_append]
    refine .more ih ?_
    rw [Mz.by_read]
    exact Mz.by_stl k0 s
theorem Mz.by_rc {M : Mz} {k R2 L : Int} {T T' : Int → Prop} (k0 : 1 ≤ k) (hT : ∀ c', T' c' ↔ ∃ c, T c ∧ c' = c * k) : (M.by k).Rc T' R2 L ↔ ∃ R, M.Rc T R L ∧ R2 = R * k := by
  constructor
  · intro h
    refine Mz.Rc.all (K := fun R2 L => ∃ R, M.Rc T R L ∧ R2 = R * k) (fun R L s => ?_) (fun R L c R' L' ⟨R1, h1, e⟩ hc s => ?_) h
    · obtain ⟨R1, e, s1⟩ := Mz.by_stl_inv k0 s 0 (by rw [Int.zero_mul])
      exact ⟨R1, .start s1, e⟩
    · obtain ⟨c1, t1, rfl⟩ := (hT c).mp hc
      subst e
      rw [Mz.by_read] at s
      obtain ⟨R3, e, s1⟩ := Mz.by_stl_inv k0 s _ rfl
      exact ⟨R3, h1.more t1 s1, e⟩
  · rintro ⟨R, ⟨cs, h1, h2⟩, rfl⟩
    refine ⟨cs.map (· * k), fun c hc => ?_, Mz.by_led k0 h2⟩
    obtain ⟨x, hx, rfl⟩ := List.mem_map.mp hc
    exact (hT _).mpr ⟨x, h1 x hx, rfl⟩
theorem Few.by {M : Mz} {k : Int} {T T' : Int → Prop} {n : Nat} (k0 : 1 ≤ k) (hT : ∀ c', T' c' ↔ ∃ c, T c ∧ c' = c * k) (h : Few M T n) : Few (M.by k) T' n := by
  obtain ⟨KS, h1, h2⟩ := h.ex
  refine ⟨KS.map fun p => (p.1 * k, p.2), fun R L hR => ?_, by rw [List.length_map]; exact h2⟩
  obtain ⟨R1, h3, rfl⟩ := (Mz.by_rc k0 hT).mp hR
  exact List.mem_map.mpr ⟨_, h1 _ _ h3, rfl⟩
/-! ### one place further -/
def Mz.up (M : Mz) : Mz := ⟨M.b, M.v * M.b, M.m, M.W⟩
theorem Mz.up_u {M : Mz} {L : Int} (l0 : -8 ≤ L) : M.up.u L = M.u (L + 1) := by
  show M.v * M.b * M.b ^ (L + 8).toNat = M.v * M.b ^ (L + 1 + 8).toNat
  rw [Int.mul_assoc, ← Int.pow_succ']
  congr 2; omega
theorem Mz.up_ok {M : Mz} {R L d : Int} (l0 : -8 ≤ L) : M.up.ok R L d ↔ M.ok R (L + 1) d := by
  unfold Mz.ok Mz.room
  rw [Mz.up_u l0]
  rfl
theorem Mz.up_nx {M : Mz} {R L : Int} {o : Option Int} (l0 : -8 ≤ L) : M.up.Nx R L o ↔ M.Nx R (L + 1) o := by
  cases o with
  | none => exact forall_congr' fun d => not_congr (Mz.up_ok l0)
  | some d => exact and_congr (Mz.up_ok l0) (forall_congr' fun e => imp_congr (Mz.up_ok l0) Iff.rfl)
theorem Mz.up_stl_inv {M : Mz} (ho : M.up.Ok) {R L R' L' : Int} (h : M.up.Stl R L R' L') : -8 ≤ L → M.Stl R (L + 1) R' (L' + 1) := by
  induction h with
  | stop n => exact fun l => .stop ((Mz.up_nx l).mp n)
  | @go R L d R' L' n _ ih =>
    intro l
    have hl := Mz.ok_lead ho n.1
    refine .go ((Mz.up_nx l).mp n) ?_
    rw [← Mz.up_u l]
    have := ih (by omega)
    rwa [show L - 1 + 1 = L + 1 - 1 by omega] at this
theorem Mz.up_stl {M : Mz} (ho : M.up.Ok) {R L R' L' : Int} (h : M.Stl R L R' L') : -7 ≤ L → M.up.Stl R (L - 1) R' (L' - 1) := by
  induction h with
  | @stop R L n => exact fun l => .stop ((Mz.up_nx (by omega)).mpr (by rwa [show L - 1 + 1 = L by omega]))
  | @go R L d R' L' n _ ih =>
    intro l
    have n' : M.up.Nx R (L - 1) (some d) := (Mz.up_nx (by omega)).mpr (by rwa [show L - 1 + 1 = L by omega])
    have hl := Mz.ok_lead ho n'.1
    refine .go n' ?_
    rw [Mz.up_u (by omega), show L - 1 + 1 = L by omega]
    exact ih (by omega)
theorem Mz.up_start {M : Mz} (ho : M.up.Ok) {R L : Int} : M.up.Stl 0 9 R L ↔ M.Stl 0 9 R (L + 1) := by
  have n9 := (Mz.nx0 ho).2 (Mz.room9 ho)
  constructor
  · intro h
    cases h with
    | stop n => cases n.uniq n9
    | go n s =>
      cases n.uniq n9
      rw [Int.zero_mul, Int.sub_zero] at s
      exact Mz.up_stl_inv ho s (by omega)
  · intro h
    refine .go n9 ?_
    rw [Int.zero_mul, Int.sub_zero]
    have := Mz.up_stl ho h (by omega)
    rwa [show L + 1 - 1 = L by omega] at this
theorem Mz.up_rc {M : Mz} (ho : M.Ok) (ho' : M.up.Ok) {R L : Int} {T : Int → Prop} (hT : ∀ c, T c → -M.W ≤ c ∧ c ≤ M.W) : M.up.Rc T R L ↔ M.Rc T R (L + 1) := by
  have hT' : ∀ c, T c → -M.up.W ≤ c ∧ c ≤ M.up.W := hT
  constructor
  · intro h
    refine (Mz.Rc.all (K := fun R L => M.up.Rc T R L ∧ M.Rc T R (L + 1)) (fun R L s => ?_) (fun R L c R' L' ⟨h1, h2⟩ hc s => ?_) h).2
    · exact ⟨.start s, .start ((Mz.up_start ho').mp s)⟩
    · obtain ⟨cs, a, b⟩ := h1
      obtain ⟨_, k, _⟩ := b.keep ho' fun c hc => hT' c (a c hc)
      exact ⟨Mz.Rc.more ⟨cs, a, b⟩ hc s, h2.more hc (Mz.up_stl_inv ho' s (by omega))⟩
  · intro h
    have := (Mz.Rc.all (K := fun R L => M.Rc T R L ∧ M.up.Rc T R (L - 1)) (fun R L s => ?_) (fun R L c R' L' ⟨h1, h2⟩ hc s => ?_) h).2
    · rwa [show L + 1 - 1 = L by omega] at this
    · exact ⟨.start s, .start ((Mz.up_start ho').mpr (by rwa [show L - 1 + 1 = L by omega]))⟩
    · obtain ⟨cs, a, b⟩ := h1
      obtain ⟨_, k, _⟩ := b.keep ho fun c hc => hT c (a c hc)
      have s' := Mz.up_stl ho' s (by omega)
      rw [show L + 1 - 1 = L - 1 + 1 by omega] at s'
      exact ⟨Mz.Rc.more ⟨cs, a, b⟩ hc s, h2.more hc s'⟩
theorem Few.up {M : Mz} (ho : M.Ok) (ho' : M.up.Ok) {T : Int → Prop} {n : Nat} (hT : ∀ c, T c → -M.W ≤ c ∧ c ≤ M.W) (h : Few M T n) : Few M.up T n := by
  obtain ⟨KS, h1, h2⟩ := h.ex
  refine ⟨KS.map fun p => (p.1, p.2 - 1), fun R L hR => ?_, by rw [List.length_map]; exact h2⟩
  exact List.mem_map.mpr ⟨_, h1 _ _ ((Mz.up_rc ho ho' hT).mp hR), by rw [show L + 1 - 1 = L by omega]⟩
/-! ### other orders, other signs -/
def totL : List (Int × Int) → Int → Prop
  | [], c => c = 0
  | p :: l, c => ∃ f, -p.2 ≤ f ∧ f ≤ p.2 ∧ totL l (c - p.1 * f)
theorem tot_iff : ∀ {ws ms : List Int} {c : Int}, ws.length = ms.length → (Tot ws ms c ↔ totL (ws.zip ms) c)
  | [], ms, c, h => by
    have : ms = [] := List.length_eq_zero_iff.mp h.symm
    subst this
    constructor
    · rintro ⟨fs, h1, rfl⟩
      have := h1.l
      simp at this
      subst this
      rfl
    · intro h
      have h : c = 0 := h
      subst h
      exact ⟨[], ⟨rfl, by simp⟩, rfl⟩
  | w :: ws, [], c, h => by simp at h
  | w :: ws, m :: ms, c, h => by
    have ih := fun c => tot_iff (ws := ws) (ms := ms) (c := c) (by simpa using h)
    rw [List.zip_cons_cons]
    constructor
    · rintro ⟨gs, h1, rfl⟩
      obtain ⟨f, fs, rfl⟩ : ∃ f fs, gs = f :: fs := by
        cases gs with
        | nil => have := h1.l; simp at this
        | cons f fs => exact ⟨f, fs, rfl⟩
      obtain ⟨f0, f1⟩ := h1.f (f, m) (by rw [List.zip_cons_cons]; exact List.mem_cons_self ..)
      refine ⟨f, f0, f1, (ih _).mp ⟨fs, ⟨by have := h1.l; simpa using this, fun p hp => h1.f p (by rw [List.zip_cons_cons]; exact List.mem_cons_of_mem _ hp)⟩, ?_⟩⟩
      unfold wS
      rw [List.zip_cons_cons, List.map_cons, List.sum_cons]
      dsimp only
      omega
    · rintro ⟨f, f0, f1, h1⟩
      obtain ⟨fs, h2, e⟩ := (ih _).mpr h1
      refine ⟨f :: fs, ⟨by rw [List.length_cons, List.length_cons, h2.l], fun p hp => ?_⟩, ?_⟩
      · rw [List.zip_cons_cons] at hp
        rcases List.mem_cons.mp hp with rfl | hp
        · exact ⟨f0, f1⟩
        · exact h2.f p hp
      · have e2 : wS (w :: ws) (f :: fs) = w * f + wS ws fs := by unfold wS; rw [List.zip_cons_cons, List.map_cons, List.sum_cons]
        rw [e2, ← e]
        dsimp only
        omega
theorem totL_perm {l l' : List (Int × Int)} (h : l.Perm l') : ∀ c, totL l c ↔ totL l' c := by
  induction h with
  | nil => exact fun c => Iff.rfl
  | cons p _ ih => exact fun c => exists_congr fun f => and_congr_right fun _ => and_congr_right fun _ => ih _
  | swap p q l =>
    intro c
    have key : ∀ p q : Int × Int, totL (p :: q :: l) c → totL (q :: p :: l) c := fun p q => by
      rintro ⟨f, f0, f1, g, g0, g1, h⟩
      refine ⟨g, g0, g1, f, f0, f1, ?_⟩
      rwa [show c - q.1 * g - p.1 * f = c - p.1 * f - q.1 * g by omega]
    exact ⟨key _ _, key _ _⟩
  | trans _ _ a b => exact fun c => (a c).trans (b c)
theorem totL_by {α : Type} {k : Int} (g g' : α → Int × Int) : ∀ (l : List α) (c' : Int), (∀ i, i ∈ l → ∃ s : Int, (s = 1 ∨ s = -1) ∧ (g' i).1 = (g i).1 * s * k ∧ (g' i).2 = (g i).2) → (totL (l.map g') c' ↔ ∃ c, totL (l.map g) c ∧ c' = c * k)
  | [], c', _ => ⟨fun h => ⟨0, rfl, by rw [Int.zero_mul]; exact h⟩, fun ⟨c, h, e⟩ => by
    have h : c = 0 := h
    subst h
    rw [Int.zero_mul] at e
    exact e⟩
  | i :: l, c', h => by
    have ih := fun c' => totL_by g g' l c' fun j hj => h j (List.mem_cons_of_mem _ hj)
    obtain ⟨s, hs, e1, e2⟩ := h i (List.mem_cons_self ..)
    rw [List.map_cons, List.map_cons]
    have ss : s * s = 1 := by rcases hs with rfl | rfl <;> rfl
    constructor
    · rintro ⟨f, f0, f1, ht⟩
      obtain ⟨c, hc, e⟩ := (ih _).mp ht
      refine ⟨c + (g i).1 * (s * f), ⟨s * f, ?_, ?_, by rwa [show c + (g i).1 * (s * f) - (g i).1 * (s * f) = c by omega]⟩, ?_⟩
      · rcases hs with rfl | rfl <;> omega
      · rcases hs with rfl | rfl <;> omega
      · rw [e1] at e
        rw [Int.add_mul, ← e, show (g i).1 * (s * f) * k = (g i).1 * s * k * f by ac_rfl]
        omega
    · rintro ⟨c, ⟨f, f0, f1, ht⟩, rfl⟩
      refine ⟨s * f, ?_, ?_, (ih _).mpr ⟨_, ht, ?_⟩⟩
      · rcases hs with rfl | rfl <;> omega
      · rcases hs with rfl | rfl <;> omega
      · rw [e1, Int.sub_mul, show (g i).1 * s * k * (s * f) = (g i).1 * f * k * (s * s) by ac_rfl, ss, Int.mul_one]
theorem sum_perm {l l' : List Int} (h : l.Perm l') : l.sum = l'.sum := by
  induction h with
  | nil => rfl
  | cons p _ ih => rw [List.sum_cons, List.sum_cons, ih]
  | swap p q l => rw [List.sum_cons, List.sum_cons, List.sum_cons, List.sum_cons]; omega
  | trans _ _ a b => exact a.trans b
theorem zip_range {α β : Type} {xs : List α} {ys : List β} {n : Nat} (h1 : xs.length = n) (h2 : ys.length = n) (d : α) (e : β) : xs.zip ys = (List.range n).map fun i => (xs.getD i d, ys.getD i e) := by
  apply List.ext_getElem
  · rw [List.length_zip, List.length_map, List.length_range]; omega
  · intro i h3 h4
    rw [List.getElem_zip, List.getElem_map, List.getElem_range]
    rw [List.length_zip] at h3
    rw [List.getD_eq_getElem?_getD, List.getD_eq_getElem?_getD, List.getElem?_eq_getElem (by omega), List.getElem?_eq_getElem (by omega)]
    rfl
structure Tu (n : Nat) (od : List Nat) (sg : List Int) : Prop where
  p : od.Perm (List.range n)
  s : ∀ i, i < n → sg.getD i 0 = 1 ∨ sg.getD i 0 = -1
def tuW (ws : List Int) (od : List Nat) (sg : List Int) (k : Int) : List Int := od.map fun i => ws.getD i 0 * sg.getD i 0 * k
def tuM (ms : List Int) (od : List Nat) : List Int := od.map fun i => ms.getD i 0
def tuR (rs : List (List Int)) (od : List Nat) (sg : List Int) : List (List Int) := od.map fun i => (rs.getD i []).map fun f => sg.getD i 0 * f
theorem zip_maps {ι α β : Type} (f : ι → α) (g : ι → β) : ∀ l : List ι, (l.map f).zip (l.map g) = l.map fun i => (f i, g i)
  | [] => rfl
  | i :: l => by rw [List.map_cons, List.map_cons, List.zip_cons_cons, List.map_cons, zip_maps f g l]
theorem Tu.mem {n : Nat} {od : List Nat} {sg : List Int} (h : Tu n od sg) {i : Nat} (hi : i ∈ od) : i < n := List.mem_range.mp (h.p.mem_iff.mp hi)
theorem tu_tot {ws ms : List Int} {od : List Nat} {sg : List Int} {k c' : Int} (hl : ws.length = ms.length) (h : Tu ws.length od sg) : Tot (tuW ws od sg k) (tuM ms od) c' ↔ ∃ c, Tot ws ms c ∧ c' = c * k := by
  rw [tot_iff (by unfold tuW tuM; rw [List.length_map, List.length_map])]
  unfold tuW tuM
  rw [zip_maps, totL_perm (h.p.map _) c', totL_by (fun i => (ws.getD i 0, ms.getD i 0)) (fun i => (ws.getD i 0 * sg.getD i 0 * k, ms.getD i 0)) (List.range ws.length) c' (k := k) fun i hi => ⟨sg.getD i 0, h.s i (List.mem_range.mp hi), rfl, rfl⟩]
  refine exists_congr fun c => and_congr_left fun _ => ?_
  rw [tot_iff hl, zip_range rfl hl.symm 0 0]
theorem tu_wide {ws ms : List Int} {od : List Nat} {sg : List Int} {k : Int} (hl : ws.length = ms.length) (h : Tu ws.length od sg) (k0 : 0 ≤ k) : wideS (tuW ws od sg k) (tuM ms od) = wideS ws ms * k := by
  unfold wideS tuW tuM
  rw [zip_maps, List.map_map, sum_perm (h.p.map _), zip_range (xs := ws) (ys := ms) rfl hl.symm 0 0, List.map_map]
  have : ∀ l : List Nat, (∀ i, i ∈ l → i < ws.length) → (l.map ((fun x : Int × Int => (x.1.natAbs : Int) * x.2) ∘ fun i => (ws.getD i 0 * sg.getD i 0 * k, ms.getD i 0))).sum = (l.map ((fun x : Int × Int => (x.1.natAbs : Int) * x.2) ∘ fun i => (ws.getD i 0, ms.getD i 0))).sum * k := fun l => by
    induction l with
    | nil => intro _; simp
    | cons i l ih =>
      intro hi
      rw [List.map_cons, List.sum_cons, List.map_cons, List.sum_cons, ih fun j hj => hi j (List.mem_cons_of_mem _ hj), Int.add_mul]
      congr 1
      show ((ws.getD i 0 * sg.getD i 0 * k).natAbs : Int) * ms.getD i 0 = ((ws.getD i 0).natAbs : Int) * ms.getD i 0 * k
      have hs : (sg.getD i 0).natAbs = 1 := by rcases h.s i (hi i (List.mem_cons_self ..)) with e | e <;> rw [e] <;> rfl
      rw [Int.natAbs_mul, Int.natAbs_mul, hs, Nat.mul_one, Int.natCast_mul, show ((k.natAbs : Nat) : Int) = k by omega, Int.mul_right_comm]
  exact this _ fun i hi => List.mem_range.mp hi
theorem getD_maps (s : Int) (l : List Int) (j : Nat) : (l.map fun f => s * f).getD j 0 = s * l.getD j 0 := by
  rw [List.getD_eq_getElem?_getD, List.getD_eq_getElem?_getD, List.getElem?_map]
  cases l[j]? with
  | none => simp
  | some x => rfl
theorem tu_col {ws : List Int} {rs : List (List Int)} {od : List Nat} {sg : List Int} {k : Int} (hl : ws.length = rs.length) (h : Tu ws.length od sg) (j : Nat) : colS (tuW ws od sg k) (tuR rs od sg) j = colS ws rs j * k := by
  unfold colS tuW tuR
  rw [zip_maps, List.map_map, sum_perm (h.p.map _), zip_range (xs := ws) (ys := rs) rfl hl.symm 0 [], List.map_map]
  have : ∀ l : List Nat, (∀ i, i ∈ l → i < ws.length) → (l.map ((fun x : Int × List Int => x.1 * x.2.getD j 0) ∘ fun i => (ws.getD i 0 * sg.getD i 0 * k, (rs.getD i []).map fun f => sg.getD i 0 * f))).sum = (l.map ((fun x : Int × List Int => x.1 * x.2.getD j 0) ∘ fun i => (ws.getD i 0, rs.getD i []))).sum * k := fun l => by
    induction l with
    | nil => intro _; simp
    | cons i l ih =>
      intro hi
      rw [List.map_cons, List.sum_cons, List.map_cons, List.sum_cons, ih fun j hj => hi j (List.mem_cons_of_mem _ hj), Int.add_mul]
      congr 1
      show ws.getD i 0 * sg.getD i 0 * k * ((rs.getD i []).map fun f => sg.getD i 0 * f).getD j 0 = ws.getD i 0 * (rs.getD i []).getD j 0 * k
      rw [getD_maps]
      have hs : sg.getD i 0 * sg.getD i 0 = 1 := by rcases h.s i (hi i (List.mem_cons_self ..)) with e | e <;> rw [e] <;> rfl
      generalize sg.getD i 0 = s at *
      rw [show ws.getD i 0 * s * k * (s * (rs.getD i []).getD j 0) = ws.getD i 0 * (rs.getD i []).getD j 0 * k * (s * s) by ac_rfl, hs, Int.mul_one]
  exact this _ fun i hi => List.mem_range.mp hi
theorem tu_cols {ws : List Int} {rs : List (List Int)} {od : List Nat} {sg : List Int} {k : Int} (hl : ws.length = rs.length) (h : Tu ws.length od sg) (n : Nat) : cols (tuW ws od sg k) (tuR rs od sg) n = (cols ws rs n).map (· * k) := by
  unfold cols
  rw [List.map_map]
  exact List.map_congr_left fun j _ => tu_col hl h j
theorem tu_rows {ms : List Int} {rs : List (List Int)} {od : List Nat} {sg : List Int} {n : Nat} (h : Tu ms.length od sg) (hr : RowsAt ms rs n) : RowsAt (tuM ms od) (tuR rs od sg) n := by
  have hl := hr.l
  refine ⟨by unfold tuM tuR; rw [List.length_map, List.length_map], fun r hr2 => ?_, fun p hp x hx => ?_⟩
  · obtain ⟨i, hi, rfl⟩ := List.mem_map.mp hr2
    have il := h.mem hi
    rw [List.length_map]
    refine hr.n _ ?_
    rw [List.getD_eq_getElem?_getD, List.getElem?_eq_getElem (by omega)]
    exact List.getElem_mem _
  · unfold tuM tuR at hp
    rw [zip_maps] at hp
    obtain ⟨i, hi, rfl⟩ := List.mem_map.mp hp
    have il := h.mem hi
    obtain ⟨f, hf, rfl⟩ := List.mem_map.mp hx
    have hz : (rs.getD i [], ms.getD i 0) ∈ rs.zip ms := by
      rw [zip_range (xs := rs) (ys := ms) hl rfl [] 0]
      exact List.mem_map.mpr ⟨i, List.mem_range.mpr il, rfl⟩
    obtain ⟨f0, f1⟩ := hr.f _ hz f hf
    dsimp only at f0 f1 ⊢
    rcases h.s i il with e | e <;> rw [e] <;> omega
end Lb

namespace K31
open PySem PySem.Spec PyProof.Rows L2 DL Lb
variable [CT]
local macro_rules | `(tactic| walk_at "dg7") => `(tactic| try simp only [dWk, weakD_tq, weakD_tup, weakD_int, weakD_non, weakD_str, weakD_bl, weakD_obj, weakD_lst, weakL_nil, weakL_cons, weakL_ints, dTupQ, cTupleQ, dTNew, dTOne, dTPut, dTGet, dTIn, dTKeys, dTItems, dTKeysU, dTItemsU, tuD,  dFrzT, cListT, cLenT, isiG_non_dict, isiG_bl_dict, isiG_int_dict, isiG_str_dict, isiG_lst_dict, isiG_tup_dict, isiG_non_bs, isiG_bl_bs, isiG_int_bs, isiG_str_bs, isiG_lst_bs, isiG_tup_bs, dCall, dNewD, dDisp, dPrs, dkvsOf, dDGet, dDIn, dDGet1, dDGet2, dDPut, dDPop1, dDPop2, dDUpd, cLenD, cListD, cListDM, cDictD, cDictP, cSortDB, cSortL, dBack, dClear, dJoin, dLenO, dSlT, dSortIt, dItKeys, dItItems, dItVals, keyOf_int, keyOf_str, dDc, dDc2, dLstR1, dLstR2, dFld, dSetFld, dFldAdd, dMeth, dMake, dMakeK, dFld2, put_tl, dSeq, dSet, dPar, dOp, dUn, dVar, dC, dCB, dCons, dNil, dTup, dLst, dLstM, dIfS, dIf, dTest, dNot, dAnd, dOr, dAndV, dOrV, dNotV, dRet, dRetN, dEnd, dNext, dAdd, dSub, dMul, dFdiv, dMod, dPow, dNeg, dLt, dLe, dGt, dGe, dEq, dNe, eqB_ii, eqB_bb, eqB_ss, eqB_nn, eqB_ni, eqB_in, eqB_ns, eqB_sn, eqB_is, eqB_si, eqB_nb, eqB_bn, dIx, dIn, dIsN, dNotN, DL.isNon, cAbs, cMax2, cMin2, cInt, cLen, cList, cTuple, dIsB, dNotB, dPar3, ForN, LcN, pinOf, pin2, dEnum2, dAppend, supd_same0, isi_non_int, isi_non_bool, isi_non_str, isi_non_list, isi_non_tuple, isi_non_lt, isi_bl_int, isi_bl_bool, isi_bl_str, isi_bl_list, isi_bl_tuple, isi_bl_lt, isi_int_int, isi_int_bool, isi_int_str, isi_int_list, isi_int_tuple, isi_int_lt, isi_str_int, isi_str_bool, isi_str_str, isi_str_list, isi_str_tuple, isi_str_lt, isi_lst_int, isi_lst_bool, isi_lst_str, isi_lst_list, isi_lst_tuple, isi_lst_lt, isi_tup_int, isi_tup_bool, isi_tup_str, isi_tup_list, isi_tup_tuple, isi_tup_lt, dAug, dIAdd, dIMul, dDrop, dSl, dPart, dNoPart, dRevL, dCallK, dChainR, dAsg, put_nm, put_tp, put_tl, putL_nil, putL_cons, Option.bind, seqOf, lstOf, dFor, dLc, dLcM, dItSeq, dZip, dZipS, dEnum, dRng1, dRng2, dYes, dwipe, Tgt.slots, Tgt.slotsL,
  atI_0, atI_1, atI_2, atI_3, List.getElem?_cons_zero, List.getElem?_cons_succ, List.set_cons_zero, List.set_cons_succ, decide_eq_true_eq, List.length_cons, List.length_nil, List.cons_append, List.nil_append, List.append_nil, ofString_inj, String.reduceEq, decide_true, decide_false, reduceIte, Bool.false_eq_true, Bool.not_true, Bool.not_false, eqFlat, isFlat, List.any_cons, List.any_nil, List.all_cons, List.all_nil, Bool.or_false, Bool.or_true, Bool.false_or, Bool.true_or, Bool.and_true, Bool.true_and, true_and, and_true, Nat.reduceAdd, Nat.reduceLeDiff, Int.reduceLT, Int.reduceLE, Int.reduceNeg])
def sp_is_number : DSp := sp_is_numberS
def sp_summed : DSp := sp_summedT
def sp_Late_init : DSp := sp_Late_initT
def sp_Late_settled : DSp := sp_Late_settledT
def sp_Late_first : DSp := sp_Late_firstT
def sp_Late_behind : DSp := sp_Late_behindT
def sp_Late_states : DSp := sp_Late_statesT
def sp_worst_lag : DSp := sp_worst_lagT
def sp_worst_rows : DSp := sp_worst_rowsT
def sp_shows_worst : DSp := sp_shows_worstT
structure SumOk (b v m : Int) (ws ms : List Int) : Prop where
  b0 : 2 ≤ b
  b1 : b ≤ 10
  w : WsOk ws ms
  W : wideS ws ms ≤ 28
  w9 : ∀ w, w ∈ ws → w.natAbs ≤ 9
  v0 : 1 ≤ v
  v1 : v ≤ 6
  m0 : b ≤ 2 * m
  m1 : m ≤ 20
  m2 : m ≤ 3 * (b - 1)
theorem SumOk.ok {b v m : Int} {ws ms : List Int} (h : SumOk b v m ws ms) : (⟨b, v, m, wideS ws ms⟩ : Mz).Ok :=
  have b0 := h.b0; have m0 := h.m0; have v1 := h.v1; have W := h.W
  ⟨h.b0, h.b1, h.v0, by show v ≤ 60; omega, .inl (by show v ≤ 25; omega), by show 1 ≤ m; omega, h.m1, wideS_pos h.w, by show wideS ws ms ≤ 200; omega⟩
def someD (b v m : Int) (ws ms : List Int) : D := .tup [.int b, .lst (ws.map .int), .int v, .lst (ms.map .int), .int m]
def Lagd (b v m : Int) (ws ms : List Int) (d : Int) : Prop := IsLp b (2 * m - b + 1) (((2 : Int) : Rat) * (((wideS ws ms : Int) : Rat) / ((v : Int) : Rat))) d
def smallB (b v m : Int) (ws ms : List Int) (d : Int) : Bool := decide (0 ≤ d) && decide ((⟨b, v, m, wideS ws ms⟩ : Mz).h d.toNat * (2 * wideS ws ms + 1) < 2000)
def sp_Lpow : DSp := fun ds S P => ∃ b k : Int, ds = [.int b, .int k] ∧ 2 ≤ b ∧ b ≤ 10 ∧ 0 ≤ k ∧ k ≤ 830 ∧ P (.int (b ^ k.toNat)) S
def sp_Lsum : DSp := fun ds S P => ∃ (p : Addr) (n : Nat) (b : Int), ds = [.obj p, .int b] ∧ BoxAt S p n ∧ n ≤ 100000 ∧ 2 ≤ b ∧ b ≤ 10 ∧ ∀ (v m : Int) (ws ms : List Int) S', SumOk b v m ws ms → Dk S S' p (n + 40) → P (someD b v m ws ms) S'
def sp_Ltold : DSp := fun ds S P => ∃ (b v m : Int) (ws ms : List Int), ds = [someD b v m ws ms] ∧ SumOk b v m ws ms ∧ ∀ d, Lagd b v m ws ms d → d ≤ 830 → P (.int d) S
def sp_Lis_small : DSp := fun ds S P => ∃ (b v m : Int) (ws ms : List Int) (d : Int), ds = [someD b v m ws ms, .int d] ∧ SumOk b v m ws ms ∧ d ≤ 830 ∧ P (.bl (smallB b v m ws ms d)) S
def sp_Lworst : DSp := fun ds S P => ∃ (b v m : Int) (ws ms : List Int), ds = [someD b v m ws ms] ∧ WsOk ws ms ∧ (⟨b, v, m, wideS ws ms⟩ : Mz).Ok ∧ b ≤ 2 * m ∧ Few ⟨b, v, m, wideS ws ms⟩ (Tot ws ms) 2000 ∧
  ∀ L S', (∃ R, (⟨b, v, m, wideS ws ms⟩ : Mz).Rc (Tot ws ms) R L) → (∀ R' L', (⟨b, v, m, wideS ws ms⟩ : Mz).Rc (Tot ws ms) R' L' → L' ≤ L) → KpS S S' → P (.int L) S'
def sp_Lright : DSp := fun ds S P => ∃ (p : Addr) (n : Nat) (b v m : Int) (ws ms : List Int) (d : Int), ds = [.obj p, someD b v m ws ms, .int d] ∧ BoxAt S p n ∧ n ≤ 50000 ∧ SumOk b v m ws ms ∧ Lagd b v m ws ms d ∧ smallB b v m ws ms d = true ∧ ∀ S', Dk S S' p (n + 1000) → P (.bl true) S'
/-- is_number(thing): slots 0 thing -/
def rd_is_number : DS :=
  (dRet (dAndV (dCB cIsi (dCons (dVar 0) (dCons (dC (.ty "int")) dNil))) (dNotV (dCB cIsi (dCons (dVar 0) (dCons (dC (.ty "bool")) dNil))))))
def goal_is_number : Prop := ∀ (x0 : D) (S : Store) (P : D → Store → Prop), sp_is_number [x0] S P → rd_is_number (dEnd P) [some x0] S

/-- common(one, other): slots 0 one, 1 other -/
def rd_common : DS :=
  (dSeq (dWhile (dTest (dOp dGt (dVar 1) (dC (.int 0)))) (dPar 0 1 (dCons (dVar 1) (dCons (dOp dMod (dVar 0) (dVar 1)) dNil))))
  (dRet (dVar 0)))
def goal_common : Prop := ∀ (x0 x1 : D) (S : Store) (P : D → Store → Prop), sp_common [x0, x1] S P → rd_common (dEnd P) [some x0, some x1] S

/-- frac(top, bottom): slots 0 top, 1 bottom, 2 by -/
def rd_frac : DS :=
  (dSeq (dSet 2 (dCB sp_common (dCons (dCB cAbs (dCons (dVar 0) dNil)) (dCons (dCB cAbs (dCons (dVar 1) dNil)) dNil))))
  (dSeq (dSet 2 (dIf (dTest (dOp dGt (dVar 1) (dC (.int 0)))) (dVar 2) (dUn dNeg (dVar 2))))
  (dRet (dTup (dCons (dOp dFdiv (dVar 0) (dVar 2)) (dCons (dOp dFdiv (dVar 1) (dVar 2)) dNil))))))
def goal_frac : Prop := ∀ (x0 x1 : D) (S : Store) (P : D → Store → Prop), sp_frac [x0, x1] S P → rd_frac (dEnd P) [some x0, some x1, none] S

/-- plus(one, other): slots 0 one, 1 other -/
def rd_plus : DS :=
  (dRet (dCB sp_frac (dCons (dOp dAdd (dOp dMul (dOp dIx (dVar 0) (dC (.int 0))) (dOp dIx (dVar 1) (dC (.int 1)))) (dOp dMul (dOp dIx (dVar 1) (dC (.int 0))) (dOp dIx (dVar 0) (dC (.int 1))))) (dCons (dOp dMul (dOp dIx (dVar 0) (dC (.int 1))) (dOp dIx (dVar 1) (dC (.int 1)))) dNil))))
def goal_plus : Prop := ∀ (x0 x1 : D) (S : Store) (P : D → Store → Prop), sp_plus [x0, x1] S P → rd_plus (dEnd P) [some x0, some x1] S

/-- times(one, other): slots 0 one, 1 other -/
def rd_times : DS :=
  (dRet (dCB sp_frac (dCons (dOp dMul (dOp dIx (dVar 0) (dC (.int 0))) (dOp dIx (dVar 1) (dC (.int 0)))) (dCons (dOp dMul (dOp dIx (dVar 0) (dC (.int 1))) (dOp dIx (dVar 1) (dC (.int 1)))) dNil))))
def goal_times : Prop := ∀ (x0 x1 : D) (S : Store) (P : D → Store → Prop), sp_times [x0, x1] S P → rd_times (dEnd P) [some x0, some x1] S

/-- is_below(one, other): slots 0 one, 1 other -/
def rd_is_below : DS :=
  (dRet (dOp dLt (dOp dMul (dOp dIx (dVar 0) (dC (.int 0))) (dOp dIx (dVar 1) (dC (.int 1)))) (dOp dMul (dOp dIx (dVar 1) (dC (.int 0))) (dOp dIx (dVar 0) (dC (.int 1))))))
def goal_is_below : Prop := ∀ (x0 x1 : D) (S : Store) (P : D → Store → Prop), sp_is_below [x0, x1] S P → rd_is_below (dEnd P) [some x0, some x1] S

/-- power(base, many): slots 0 base, 1 many, 2 found, 3 turn -/
def rd_power : DS :=
  (dSeq (dSet 2 (dC (.int 1)))
  (dSeq (dFor (dRng1 (dCons (dCB cAbs (dCons (dVar 1) dNil)) dNil)) (.nm 3) (dAug 2 dIMul (dVar 0)))
  (dRet (dIf (dTest (dOp dGe (dVar 1) (dC (.int 0)))) (dTup (dCons (dVar 2) (dCons (dC (.int 1)) dNil))) (dTup (dCons (dC (.int 1)) (dCons (dVar 2) dNil)))))))
def goal_power : Prop := ∀ (x0 x1 : D) (S : Store) (P : D → Store → Prop), sp_power [x0, x1] S P → rd_power (dEnd P) [some x0, some x1, none, none] S

/-- width_of(base, kind, sources): slots 0 base, 1 kind, 2 sources, 3 word, 4 mosts, 5 begin, 6 most, 7 weight, 8 begins, 9 by -/
def rd_width_of : DS :=
  (dSeq (dPar 3 4 (dCons (dOp dIx (dVar 1) (dC (.int 0))) (dCons (dLc (dItSeq (dVar 2)) (.tp [(.nm 5), (.nm 6)]) dYes (dVar 6)) dNil)))
  (dSeq (dIfS (dTest (dOp dEq (dVar 3) (dC (.str "sum")))) (dRet (dCB sp_frac (dCons (dCB cSum (dCons (dLc (dZipS (dCons (dOp dIx (dVar 1) (dC (.int 1))) (dCons (dVar 4) dNil))) (.tp [(.nm 7), (.nm 6)]) dYes (dOp dMul (dCB cAbs (dCons (dVar 7) dNil)) (dVar 6))) dNil)) (dCons (dOp dIx (dVar 1) (dC (.int 2))) dNil)))) dNext)
  (dSeq (dIfS (dTest (dOp (dIn false) (dVar 3) (dTup (dCons (dC (.str "least")) (dCons (dC (.str "most")) dNil))))) (dRet (dTup (dCons (dCB cMaxL (dCons (dVar 4) dNil)) (dCons (dC (.int 1)) dNil)))) dNext)
  (dSeq (dSet 8 (dLc (dItSeq (dVar 2)) (.tp [(.nm 5), (.nm 6)]) dYes (dCB sp_power (dCons (dVar 0) (dCons (dVar 5) dNil)))))
  (dSeq (dIfS (dTest (dOp dEq (dVar 3) (dC (.str "times")))) (dRet (dCB sp_times (dCons (dCB sp_frac (dCons (dOp dMul (dOp dIx (dVar 4) (dC (.int 0))) (dOp dIx (dVar 4) (dC (.int 1)))) (dCons (dOp dSub (dVar 0) (dC (.int 1))) dNil))) (dCons (dCB sp_plus (dCons (dOp dIx (dVar 8) (dC (.int 0))) (dCons (dOp dIx (dVar 8) (dC (.int 1))) dNil))) dNil)))) dNext)
  (dSeq (dSet 9 (dCB sp_power (dCons (dVar 0) (dCons (dOp dIx (dVar 1) (dC (.int 1))) dNil))))
  (dRet (dCB sp_times (dCons (dCB sp_times (dCons (dTup (dCons (dOp dIx (dVar 4) (dC (.int 0))) (dCons (dC (.int 1)) dNil))) (dCons (dVar 9) dNil))) (dCons (dCB sp_plus (dCons (dTup (dCons (dC (.int 1)) (dCons (dC (.int 1)) dNil))) (dCons (dCB sp_times (dCons (dCB sp_times (dCons (dCB sp_frac (dCons (dOp dIx (dVar 4) (dC (.int 1))) (dCons (dOp dSub (dVar 0) (dC (.int 1))) dNil))) (dCons (dVar 9) dNil))) (dCons (dOp dIx (dVar 8) (dC (.int 0))) dNil))) dNil))) dNil))))))))))
def goal_width_of : Prop := ∀ (x0 x1 x2 : D) (S : Store) (P : D → Store → Prop), sp_width_of [x0, x1, x2] S P → rd_width_of (dEnd P) [some x0, some x1, some x2, none, none, none, none, none, none, none] S

/-- least_power(base, room, need): slots 0 base, 1 room, 2 need, 3 lag -/
def rd_least_power : DS :=
  (dSeq (dSet 3 (dC (.int 0)))
  (dSeq (dWhile (dTest (dCB sp_is_below (dCons (dCB sp_times (dCons (dCB sp_power (dCons (dVar 0) (dCons (dVar 3) dNil))) (dCons (dTup (dCons (dVar 1) (dCons (dC (.int 1)) dNil))) dNil))) (dCons (dVar 2) dNil)))) (dAug 3 dIAdd (dC (.int 1))))
  (dSeq (dWhile (dNot (dTest (dCB sp_is_below (dCons (dCB sp_times (dCons (dCB sp_power (dCons (dVar 0) (dCons (dOp dSub (dVar 3) (dC (.int 1))) dNil))) (dCons (dTup (dCons (dVar 1) (dCons (dC (.int 1)) dNil))) dNil))) (dCons (dVar 2) dNil))))) (dAug 3 dSub (dC (.int 1))))
  (dRet (dVar 3)))))
def goal_least_power : Prop := ∀ (x0 x1 x2 : D) (S : Store) (P : D → Store → Prop), sp_least_power [x0, x1, x2] S P → rd_least_power (dEnd P) [some x0, some x1, some x2, none] S

/-- told_lag(base, kind, sources, begin, most): slots 0 base, 1 kind, 2 sources, 3 begin, 4 most -/
def rd_told_lag : DS :=
  (dSeq (dIfS (dTest (dOp dEq (dOp dIx (dVar 1) (dC (.int 0))) (dC (.str "moved")))) (dRet (dOp dIx (dVar 1) (dC (.int 1)))) dNext)
  (dSeq (dIfS (dTest (dOp (dIn false) (dOp dIx (dVar 1) (dC (.int 0))) (dTup (dCons (dC (.str "loose")) (dCons (dC (.str "told")) (dCons (dC (.str "choose")) dNil)))))) (dRet (dIf (dTest (dOp dEq (dOp dIx (dVar 1) (dC (.int 0))) (dC (.str "loose")))) (dC (.int 0)) (dC .non))) dNext)
  (dRet (dCB sp_least_power (dCons (dVar 0) (dCons (dOp dAdd (dOp dSub (dOp dMul (dC (.int 2)) (dVar 4)) (dVar 0)) (dC (.int 1))) (dCons (dCB sp_times (dCons (dTup (dCons (dC (.int 2)) (dCons (dC (.int 1)) dNil))) (dCons (dCB sp_width_of (dCons (dVar 0) (dCons (dVar 1) (dCons (dVar 2) dNil)))) dNil))) dNil)))))))
def goal_told_lag : Prop := ∀ (x0 x1 x2 x3 x4 : D) (S : Store) (P : D → Store → Prop), sp_told_lag [x0, x1, x2, x3, x4] S P → rd_told_lag (dEnd P) [some x0, some x1, some x2, some x3, some x4] S

/-- summed(weights, mosts): slots 0 weights, 1 mosts, 2 found, 3 weight, 4 most, 5 every, 6 one, 7 some, 8 figure -/
def rd_summed_1 : DS :=
  (dSeq (dLock (dSet 5 (dLc2 (dItItems (dVar 2)) (.tp [(.nm 6), (.nm 7)]) dYes (dRng2 (dCons (dUn dNeg (dVar 4)) (dCons (dOp dAdd (dVar 4) (dC (.int 1))) dNil))) (.nm 8) dYes (dTup (dCons (dVar 6) (dCons (dVar 7) (dCons (dVar 8) dNil)))))))
  (dSet 2 (dDc (dItSeq (dVar 5)) (.tp [(.nm 6), (.nm 7), (.nm 8)]) dYes (dOp dAdd (dVar 6) (dOp dMul (dVar 3) (dVar 8))) (dOp dAdd (dVar 7) (dTup (dCons (dVar 8) dNil))))))
def rd_summed : DS :=
  (dSeq (dSet 2 (dDisp [((dC (.int 0)), (dTup dNil))]))
  (dSeq (dFor (dZipS (dCons (dVar 0) (dCons (dVar 1) dNil))) (.tp [(.nm 3), (.nm 4)]) rd_summed_1)
  (dRet (dDc (dItSeq (dCB cSortDB (dCons (dVar 2) dNil))) (.nm 6) dYes (dVar 6) (dOp dDGet (dVar 2) (dVar 6))))))
def goal_summed : Prop := ∀ (x0 x1 : D) (S : Store) (P : D → Store → Prop), sp_summed [x0, x1] S P → rd_summed (dEnd P) [some x0, some x1, none, none, none, none, none, none, none] S

/-- Late.__init__(self, base, weights, over, mosts, most): slots 0 self, 1 base, 2 weights, 3 over, 4 mosts, 5 most, 6 weight, 7 one -/
def rd_Late_init : DS :=
  (dSeq (dFld3 2 "own_base" "own_over" "own_most" 0 (dVar 1) (dVar 3) (dVar 5))
  (dSeq (dSetFld 2 "own_wide" (dVar 0) (dCB cSum (dCons (dLc (dZipS (dCons (dVar 2) (dCons (dVar 4) dNil))) (.tp [(.nm 6), (.nm 7)]) dYes (dOp dMul (dCB cAbs (dCons (dVar 6) dNil)) (dVar 7))) dNil)))
  (dSetFld 2 "own_sums" (dVar 0) (dCB sp_summed (dCons (dVar 2) (dCons (dVar 4) dNil))))))
def goal_Late_init : Prop := ∀ (x0 x1 x2 x3 x4 x5 : D) (S : Store) (P : D → Store → Prop), sp_Late_init [x0, x1, x2, x3, x4, x5] S P → rd_Late_init (dEnd P) [some x0, some x1, some x2, some x3, some x4, some x5, none, none] S

/-- Late.step_at(self, rest, lead): slots 0 self, 1 rest, 2 lead -/
def rd_Late_step_at : DS :=
  (dSeq (dIfS (dTest (dOp dGt (dVar 2) (dC (.int 0)))) (dRet (dTup (dCons (dVar 1) (dCons (dOp dMul (dFld 2 "own_over" (dVar 0)) (dOp dIx (dCB sp_power (dCons (dFld 2 "own_base" (dVar 0)) (dCons (dOp dSub (dVar 2) (dC (.int 1))) dNil))) (dC (.int 0)))) (dCons (dFld 2 "own_wide" (dVar 0)) dNil))))) dNext)
  (dRet (dTup (dCons (dOp dMul (dVar 1) (dFld 2 "own_base" (dVar 0))) (dCons (dFld 2 "own_over" (dVar 0)) (dCons (dOp dMul (dFld 2 "own_wide" (dVar 0)) (dOp dIx (dCB sp_power (dCons (dFld 2 "own_base" (dVar 0)) (dCons (dOp dSub (dC (.int 1)) (dVar 2)) dNil))) (dC (.int 0)))) dNil))))))
def goal_Late_step_at : Prop := ∀ (x0 x1 x2 : D) (S : Store) (P : D → Store → Prop), sp_Late_step_at [x0, x1, x2] S P → rd_Late_step_at (dEnd P) [some x0, some x1, some x2] S

/-- Late.figure(self, rest, lead): slots 0 self, 1 rest, 2 lead, 3 here, 4 step, 5 wide, 6 room, 7 least, 8 most -/
def rd_Late_figure : DS :=
  (dSeq (dAsg (.tp [(.nm 3), (.nm 4), (.nm 5)]) (dMeth 2 "step_at" sp_Late_step_at (dVar 0) (dCons (dVar 1) (dCons (dVar 2) dNil))))
  (dSeq (dIfS (dTest (dOp dLt (dOp dMul (dVar 4) (dFld 2 "own_most" (dVar 0))) (dVar 5))) (dRet (dC .non)) dNext)
  (dSeq (dSet 6 (dOp dFdiv (dOp dSub (dOp dMul (dVar 4) (dFld 2 "own_most" (dVar 0))) (dVar 5)) (dOp dSub (dFld 2 "own_base" (dVar 0)) (dC (.int 1)))))
  (dSeq (dPar 7 8 (dCons (dUn dNeg (dOp dFdiv (dOp dSub (dVar 6) (dVar 3)) (dVar 4))) (dCons (dOp dFdiv (dOp dAdd (dVar 3) (dVar 6)) (dVar 4)) dNil)))
  (dSeq (dIfS (dTest (dOp dGt (dVar 7) (dVar 8))) (dRet (dC .non)) dNext)
  (dRet (dCB cMax2 (dCons (dVar 7) (dCons (dCB cMin2 (dCons (dC (.int 0)) (dCons (dVar 8) dNil))) dNil)))))))))
def goal_Late_figure : Prop := ∀ (x0 x1 x2 : D) (S : Store) (P : D → Store → Prop), sp_Late_figure [x0, x1, x2] S P → rd_Late_figure (dEnd P) [some x0, some x1, some x2, none, none, none, none, none, none] S

/-- Late.settled(self, rest, lead): slots 0 self, 1 rest, 2 lead, 3 figure, 4 here, 5 step, 6 wide -/
def rd_Late_settled : DS :=
  (dSeq (dSet 3 (dMeth 2 "figure" sp_Late_figure (dVar 0) (dCons (dVar 1) (dCons (dVar 2) dNil))))
  (dSeq (dWhile (dTest (dOp dNotN (dVar 3) (dC .non))) (dSeq (dAsg (.tp [(.nm 4), (.nm 5), (.nm 6)]) (dMeth 2 "step_at" sp_Late_step_at (dVar 0) (dCons (dVar 1) (dCons (dVar 2) dNil))))
  (dSeq (dPar 1 2 (dCons (dOp dSub (dVar 4) (dOp dMul (dVar 3) (dVar 5))) (dCons (dOp dSub (dVar 2) (dC (.int 1))) dNil)))
  (dSet 3 (dMeth 2 "figure" sp_Late_figure (dVar 0) (dCons (dVar 1) (dCons (dVar 2) dNil)))))))
  (dRet (dTupQ (dCons (dVar 1) (dCons (dVar 2) dNil))))))
def goal_Late_settled : Prop := ∀ (x0 x1 x2 : D) (S : Store) (P : D → Store → Prop), sp_Late_settled [x0, x1, x2] S P → rd_Late_settled (dEnd P) [some x0, some x1, some x2, none, none, none, none] S

/-- Late.first(self): slots 0 self, 1 lead -/
def rd_Late_first : DS :=
  (dSeq (dSet 1 (dC (.int 0)))
  (dSeq (dWhile (dTest (dOp dIsN (dMeth 2 "figure" sp_Late_figure (dVar 0) (dCons (dC (.int 0)) (dCons (dVar 1) dNil))) (dC .non))) (dAug 1 dIAdd (dC (.int 1))))
  (dRet (dMeth 2 "settled" sp_Late_settled (dVar 0) (dCons (dC (.int 0)) (dCons (dVar 1) dNil))))))
def goal_Late_first : Prop := ∀ (x0 : D) (S : Store) (P : D → Store → Prop), sp_Late_first [x0] S P → rd_Late_first (dEnd P) [some x0, none] S

/-- Late.behind(self, state, value): slots 0 self, 1 state, 2 value, 3 rest, 4 lead -/
def rd_Late_behind : DS :=
  (dSeq (dAsg (.tp [(.nm 3), (.nm 4)]) (dWk (dVar 1)))
  (dSeq (dIfS (dTest (dOp dLt (dVar 4) (dC (.int 0)))) (dRet (dMeth 2 "settled" sp_Late_settled (dVar 0) (dCons (dOp dAdd (dVar 3) (dOp dMul (dVar 2) (dOp dIx (dCB sp_power (dCons (dFld 2 "own_base" (dVar 0)) (dCons (dOp dSub (dUn dNeg (dVar 4)) (dC (.int 1))) dNil))) (dC (.int 0))))) (dCons (dOp dAdd (dVar 4) (dC (.int 1))) dNil)))) dNext)
  (dRet (dMeth 2 "settled" sp_Late_settled (dVar 0) (dCons (dOp dAdd (dOp dMul (dVar 3) (dFld 2 "own_base" (dVar 0))) (dVar 2)) (dCons (dOp dAdd (dVar 4) (dC (.int 1))) dNil))))))
def goal_Late_behind : Prop := ∀ (x0 x1 x2 : D) (S : Store) (P : D → Store → Prop), sp_Late_behind [x0, x1, x2] S P → rd_Late_behind (dEnd P) [some x0, some x1, some x2, none, none] S

/-- Late.states(self): slots 0 self, 1 found, 2 waiting, 3 state, 4 value, 5 other -/
def rd_Late_states_1 : DS :=
  (dSeq (dSet 3 (dPopAt (dVar 2) (dC (.int 0))))
  (dSeq (dLock (dFor (dItKeys (dFld 2 "own_sums" (dVar 0))) (.nm 4) (dSeq (dSet 5 (dMeth 2 "behind" sp_Late_behind (dVar 0) (dCons (dVar 3) (dCons (dVar 4) dNil))))
  (dIfS (dTest (dOp (dTIn true) (dVar 5) (dVar 1))) (dSeq (dTPut (dVar 1) (dVar 5) (dOp dAdd (dOp dTGet (dVar 1) (dVar 3)) (dTup (dCons (dVar 4) dNil))))
  (dDrop (dAppend (dVar 2) (dVar 5)))) dNext))))
  (dIfS (dTest (dOp dGt (dCB cLenT (dCons (dVar 1) dNil)) (dC (.int 2000)))) dNever dNext)))
def rd_Late_states : DS :=
  (dSeq (dPar 1 2 (dCons (dTOne (dMeth 2 "first" sp_Late_first (dVar 0) dNil) (dTup dNil)) (dCons (dLstM (dCons (dMeth 2 "first" sp_Late_first (dVar 0) dNil) dNil)) dNil)))
  (dSeq (dWhile (dTest (dOp dGt (dCB cLen (dCons (dVar 2) dNil)) (dC (.int 0)))) rd_Late_states_1)
  (dRet (dVar 1))))
def goal_Late_states : Prop := ∀ (x0 : D) (S : Store) (P : D → Store → Prop), sp_Late_states [x0] S P → rd_Late_states (dEnd P) [some x0, none, none, none, none, none] S

/-- worst_lag(base, weights, over, mosts, most): slots 0 base, 1 weights, 2 over, 3 mosts, 4 most, 5 rest, 6 lead -/
def rd_worst_lag : DS :=
  (dRet (dCB cMaxL (dCons (dLc (dTKeysU (dFrzT (dMeth 2 "states" sp_Late_states (dMake 2 sp_Late_init (dCons (dVar 0) (dCons (dVar 1) (dCons (dVar 2) (dCons (dVar 3) (dCons (dVar 4) dNil)))))) dNil))) (.tp [(.nm 5), (.nm 6)]) dYes (dVar 6)) dNil)))
def goal_worst_lag : Prop := ∀ (x0 x1 x2 x3 x4 : D) (S : Store) (P : D → Store → Prop), sp_worst_lag [x0, x1, x2, x3, x4] S P → rd_worst_lag (dEnd P) [some x0, some x1, some x2, some x3, some x4, none, none] S

/-- worst_rows(base, weights, over, mosts, most): slots 0 base, 1 weights, 2 over, 3 mosts, 4 most, 5 late, 6 found, 7 most_lead, 8 rest, 9 lead, 10 path, 11 sums, 12 at, 13 value -/
def rd_worst_rows : DS :=
  (dSeq (dSet 5 (dMake 2 sp_Late_init (dCons (dVar 0) (dCons (dVar 1) (dCons (dVar 2) (dCons (dVar 3) (dCons (dVar 4) dNil)))))))
  (dSeq (dSet 6 (dMeth 2 "states" sp_Late_states (dVar 5) dNil))
  (dSeq (dSet 7 (dCB cMaxL (dCons (dLc (dTKeysU (dFrzT (dVar 6))) (.tp [(.nm 8), (.nm 9)]) dYes (dVar 9)) dNil)))
  (dSeq (dSet 10 (dOp dIx (dLc (dTItemsU (dFrzT (dVar 6))) (.tp [(.tp [(.nm 8), (.nm 9)]), (.nm 11)]) (dTest (dOp dEq (dVar 9) (dVar 7))) (dVar 11)) (dC (.int 0))))
  (dRet (dLc (dRng1 (dCons (dCB cLen (dCons (dVar 1) dNil)) dNil)) (.nm 12) dYes (dCB cTuple (dCons (dLc (dItSeq (dVar 10)) (.nm 13) dYes (dOp dIx (dOp dDGet (dFld 2 "own_sums" (dVar 5)) (dVar 13)) (dVar 12))) dNil))))))))
def goal_worst_rows : Prop := ∀ (x0 x1 x2 x3 x4 : D) (S : Store) (P : D → Store → Prop), sp_worst_rows [x0, x1, x2, x3, x4] S P → rd_worst_rows (dEnd P) [some x0, some x1, some x2, some x3, some x4, none, none, none, none, none, none, none, none, none] S

/-- are_rows(mosts, thing): slots 0 mosts, 1 thing, 2 row, 3 pairs, 4 most, 5 figure -/
def rd_are_rows : DS :=
  (dSeq (dIfS (dOr (dNot (dTest (dCB cIsi (dCons (dVar 1) (dCons (dC (.ty "list")) dNil))))) (dOr (dTest (dOp dNe (dCB cLen (dCons (dVar 1) dNil)) (dCB cLen (dCons (dVar 0) dNil)))) (dNot (dTest (dCB cAll (dCons (dLc (dItSeq (dVar 1)) (.nm 2) dYes (dCB cIsi (dCons (dVar 2) (dCons (dC (.ty "tuple")) dNil)))) dNil)))))) (dRet (dC (.bl false))) dNext)
  (dSeq (dIfS (dTest (dOp dNe (dLenSc (dItSeq (dVar 1)) (.nm 2) dYes (dCB cLen (dCons (dVar 2) dNil))) (dC (.int 1)))) (dRet (dC (.bl false))) dNext)
  (dSeq (dSet 3 (dLc2 (dZipS (dCons (dVar 1) (dCons (dVar 0) dNil))) (.tp [(.nm 2), (.nm 4)]) dYes (dItSeq (dVar 2)) (.nm 5) dYes (dTup (dCons (dVar 5) (dCons (dVar 4) dNil)))))
  (dRet (dCB cAll (dCons (dLc (dItSeq (dVar 3)) (.tp [(.nm 5), (.nm 4)]) dYes (dAndV (dCB sp_is_number (dCons (dVar 5) dNil)) (dChainR dLe dLe (dUn dNeg (dVar 4)) (dVar 5) (dVar 4)))) dNil))))))
def goal_are_rows : Prop := ∀ (x0 x1 : D) (S : Store) (P : D → Store → Prop), sp_are_rows [x0, x1] S P → rd_are_rows (dEnd P) [some x0, some x1, none, none, none, none] S

/-- shows_worst(base, weights, over, mosts, most, lag, thing): slots 0 base, 1 weights, 2 over, 3 mosts, 4 most, 5 lag, 6 thing, 7 late, 8 state, 9 at, 10 weight, 11 row -/
def rd_shows_worst : DS :=
  (dSeq (dIfS (dNot (dTest (dCB sp_are_rows (dCons (dVar 3) (dCons (dVar 6) dNil))))) (dRet (dC (.bl false))) dNext)
  (dSeq (dSet 7 (dMake 2 sp_Late_init (dCons (dVar 0) (dCons (dVar 1) (dCons (dVar 2) (dCons (dVar 3) (dCons (dVar 4) dNil)))))))
  (dSeq (dSet 8 (dWk (dMeth 2 "first" sp_Late_first (dVar 7) dNil)))
  (dSeq (dFor (dRng1 (dCons (dCB cLen (dCons (dOp dIx (dVar 6) (dC (.int 0))) dNil)) dNil)) (.nm 9) (dSet 8 (dWk (dMeth 2 "behind" sp_Late_behind (dVar 7) (dCons (dVar 8) (dCons (dCB cSum (dCons (dLc (dZipS (dCons (dVar 1) (dCons (dVar 6) dNil))) (.tp [(.nm 10), (.nm 11)]) dYes (dOp dMul (dVar 10) (dOp dIx (dVar 11) (dVar 9)))) dNil)) dNil))))))
  (dRet (dOp dGe (dOp dIx (dVar 8) (dC (.int 1))) (dVar 5)))))))
def goal_shows_worst : Prop := ∀ (x0 x1 x2 x3 x4 x5 x6 : D) (S : Store) (P : D → Store → Prop), sp_shows_worst [x0, x1, x2, x3, x4, x5, x6] S P → rd_shows_worst (dEnd P) [some x0, some x1, some x2, some x3, some x4, some x5, some x6, none, none, none, none, none] S

/-- _law_cell_at(_law_script, _law_k): slots 0 _law_script, 1 _law_k -/
def rd_Lcell_at : DS :=
  (dSeq (dIfS (dTest (dOp dLt (dVar 1) (dCB cLen (dCons (dVar 0) dNil)))) (dRet (dOp dIx (dVar 0) (dVar 1))) dNext)
  (dRet (dC (.int 0))))
def goal_Lcell_at : Prop := ∀ (x0 x1 : D) (S : Store) (P : D → Store → Prop), sp_Lcell_at [x0, x1] S P → rd_Lcell_at (dEnd P) [some x0, some x1] S

/-- _law_box(_law_script, _law_k): slots 0 _law_script, 1 _law_k, 2 _law_core -/
def rd_Lbox : DS :=
  (dSeq (dSet 2 (dCB sp_Lcell_at (dCons (dVar 0) (dCons (dVar 1) dNil))))
  (dRet (dLstM (dCons (dOp dMul (dCB cAbs (dCons (dVar 2) dNil)) (dCB cInt (dCons (dOp dGe (dCB cAbs (dCons (dVar 2) dNil)) (dOp dPow (dC (.int 10)) (dC (.int 18)))) dNil))) (dCons (dOp dAdd (dOp dAdd (dOp dMod (dVar 2) (dC (.int 2305843009213693951))) (dOp dMul (dC (.int 39373)) (dVar 1))) (dC (.int 17))) (dCons (dC (.int 0)) dNil))))))
def goal_Lbox : Prop := ∀ (x0 x1 : D) (S : Store) (P : D → Store → Prop), sp_Lbox [x0, x1] S P → rd_Lbox (dEnd P) [some x0, some x1, none] S

/-- _law_take(_law_box_here, _law_size): slots 0 _law_box_here, 1 _law_size, 2 _law_found, 3 _law_once, 4 _law_twice -/
def rd_Ltake : DS :=
  (dSeq (dIfS (dTest (dOp dGt (dOp dIx (dVar 0) (dC (.int 0))) (dC (.int 0)))) (dSeq (dSet 2 (dOp dMod (dOp dIx (dVar 0) (dC (.int 0))) (dVar 1)))
  (dSeq (dSetIx (dOp dFdiv (dOp dIx (dVar 0) (dC (.int 0))) (dVar 1)) (dVar 0) (dC (.int 0)))
  (dRet (dVar 2)))) dNext)
  (dSeq (dSetIx (dOp dAdd (dOp dIx (dVar 0) (dC (.int 2))) (dC (.int 1))) (dVar 0) (dC (.int 2)))
  (dSeq (dSet 3 (dOp dMod (dOp dMul (dOp dAdd (dOp dIx (dVar 0) (dC (.int 1))) (dOp dMul (dC (.int 48271)) (dOp dIx (dVar 0) (dC (.int 2))))) (dOp dAdd (dC (.int 39373)) (dOp dIx (dVar 0) (dC (.int 2))))) (dC (.int 2147483647))))
  (dSeq (dSet 4 (dOp dMod (dOp dMul (dOp dAdd (dOp dAdd (dVar 3) (dOp dIx (dVar 0) (dC (.int 2)))) (dOp dFdiv (dOp dIx (dVar 0) (dC (.int 1))) (dC (.int 1000003)))) (dOp dAdd (dOp dMod (dVar 3) (dC (.int 40009))) (dC (.int 7)))) (dC (.int 2147483629))))
  (dRet (dOp dMod (dOp dFdiv (dOp dMod (dOp dAdd (dOp dMul (dVar 4) (dC (.int 48271))) (dVar 3)) (dC (.int 2147483587))) (dC (.int 64))) (dVar 1)))))))
def goal_Ltake : Prop := ∀ (x0 x1 : D) (S : Store) (P : D → Store → Prop), sp_Ltake [x0, x1] S P → rd_Ltake (dEnd P) [some x0, some x1, none, none, none] S

/-- _law_of(_law_box_here, _law_some): slots 0 _law_box_here, 1 _law_some -/
def rd_Lof : DS :=
  (dRet (dOp dIx (dVar 1) (dCB sp_Ltake (dCons (dVar 0) (dCons (dCB cLen (dCons (dVar 1) dNil)) dNil)))))
def goal_Lof : Prop := ∀ (x0 x1 : D) (S : Store) (P : D → Store → Prop), sp_Lof [x0, x1] S P → rd_Lof (dEnd P) [some x0, some x1] S

/-- _law_pow(_law_base, _law_size): slots 0 _law_base, 1 _law_size, 2 _law_found, 3 _law_turn -/
def rd_Lpow : DS :=
  (dSeq (dSet 2 (dC (.int 1)))
  (dSeq (dFor (dRng1 (dCons (dVar 1) dNil)) (.nm 3) (dSet 2 (dOp dMul (dVar 2) (dVar 0))))
  (dRet (dVar 2))))
def goal_Lpow : Prop := ∀ (x0 x1 : D) (S : Store) (P : D → Store → Prop), sp_Lpow [x0, x1] S P → rd_Lpow (dEnd P) [some x0, some x1, none, none] S

/-- _law_sum(_law_box_here, _law_base): slots 0 _law_box_here, 1 _law_base, 2 _law_least, 3 _law_many, 4 _law_weights, 5 _law_k, 6 _law_sizes, 7 _law_weight, 8 _law_size -/
def rd_Lsum : DS :=
  (dSeq (dAsg (.tp [(.nm 2), (.nm 3)]) (dTup (dCons (dOp dFdiv (dOp dAdd (dVar 1) (dC (.int 1))) (dC (.int 2))) (dCons (dOp dAdd (dC (.int 1)) (dCB sp_Ltake (dCons (dVar 0) (dCons (dC (.int 4)) dNil)))) dNil))))
  (dSeq (dSet 4 (dLc (dRng1 (dCons (dVar 3) dNil)) (.nm 5) dYes (dOp dMul (dOp dAdd (dC (.int 1)) (dCB sp_Ltake (dCons (dVar 0) (dCons (dOp dIx (dLst (dCons (dC (.int 3)) (dCons (dC (.int 9)) dNil))) (dCB sp_Ltake (dCons (dVar 0) (dCons (dC (.int 2)) dNil)))) dNil)))) (dOp dIx (dLst (dCons (dC (.int 1)) (dCons (dUn dNeg (dC (.int 1))) dNil))) (dCB sp_Ltake (dCons (dVar 0) (dCons (dC (.int 2)) dNil)))))))
  (dSeq (dSet 6 (dLc (dRng1 (dCons (dVar 3) dNil)) (.nm 5) dYes (dOp dAdd (dVar 2) (dCB sp_Ltake (dCons (dVar 0) (dCons (dC (.int 3)) dNil))))))
  (dSeq (dIfS (dTest (dOp dGt (dCB cSum (dCons (dLc (dZip (dCons (dVar 4) (dCons (dVar 6) dNil))) (.tp [(.nm 7), (.nm 8)]) dYes (dOp dMul (dCB cAbs (dCons (dVar 7) dNil)) (dVar 8))) dNil)) (dC (.int 20)))) (dSet 4 (dLc (dItSeq (dVar 4)) (.nm 7) dYes (dOp dFdiv (dVar 7) (dCB cAbs (dCons (dVar 7) dNil))))) dNext)
  (dRet (dTup (dCons (dVar 1) (dCons (dVar 4) (dCons (dOp dAdd (dC (.int 1)) (dCB sp_Ltake (dCons (dVar 0) (dCons (dC (.int 6)) dNil)))) (dCons (dVar 6) (dCons (dOp dAdd (dVar 2) (dCB sp_Ltake (dCons (dVar 0) (dCons (dOp dAdd (dVar 1) (dC (.int 1))) dNil)))) dNil)))))))))))
def goal_Lsum : Prop := ∀ (x0 x1 : D) (S : Store) (P : D → Store → Prop), sp_Lsum [x0, x1] S P → rd_Lsum (dEnd P) [some x0, some x1, none, none, none, none, none, none, none] S

/-- _law_told(_law_some): slots 0 _law_some, 1 _law_base, 2 _law_weights, 3 _law_under, 4 _law_sizes, 5 _law_top, 6 _law_size -/
def rd_Ltold : DS :=
  (dSeq (dAsg (.tp [(.nm 1), (.nm 2), (.nm 3), (.nm 4), (.nm 5)]) (dVar 0))
  (dRet (dCB sp_told_lag (dCons (dVar 1) (dCons (dTup (dCons (dC (.str "sum")) (dCons (dCB cTuple (dCons (dVar 2) dNil)) (dCons (dVar 3) dNil)))) (dCons (dLc (dItSeq (dVar 4)) (.nm 6) dYes (dTup (dCons (dC (.int 0)) (dCons (dVar 6) dNil)))) (dCons (dC (.int 0)) (dCons (dVar 5) dNil))))))))
def goal_Ltold : Prop := ∀ (x0 : D) (S : Store) (P : D → Store → Prop), sp_Ltold [x0] S P → rd_Ltold (dEnd P) [some x0, none, none, none, none, none, none] S

/-- _law_is_small(_law_some, _law_told_here): slots 0 _law_some, 1 _law_told_here, 2 _law_base, 3 _law_weights, 4 _law_under, 5 _law_sizes, 6 _law_top, 7 _law_wide, 8 _law_weight, 9 _law_size, 10 _law_rests -/
def rd_Lis_small : DS :=
  (dSeq (dAsg (.tp [(.nm 2), (.nm 3), (.nm 4), (.nm 5), (.nm 6)]) (dVar 0))
  (dSeq (dSet 7 (dCB cSum (dCons (dLc (dZip (dCons (dVar 3) (dCons (dVar 5) dNil))) (.tp [(.nm 8), (.nm 9)]) dYes (dOp dMul (dCB cAbs (dCons (dVar 8) dNil)) (dVar 9))) dNil)))
  (dSeq (dIfS (dTest (dOp dLt (dVar 1) (dC (.int 0)))) (dRet (dC (.bl false))) dNext)
  (dSeq (dSet 10 (dOp dFdiv (dOp dMul (dOp dMul (dOp dMul (dC (.int 2)) (dVar 4)) (dCB sp_Lpow (dCons (dVar 2) (dCons (dVar 1) dNil)))) (dVar 6)) (dOp dSub (dVar 2) (dC (.int 1)))))
  (dRet (dOp dLt (dOp dMul (dVar 10) (dOp dAdd (dOp dMul (dC (.int 2)) (dVar 7)) (dC (.int 1)))) (dC (.int 2000))))))))
def goal_Lis_small : Prop := ∀ (x0 x1 : D) (S : Store) (P : D → Store → Prop), sp_Lis_small [x0, x1] S P → rd_Lis_small (dEnd P) [some x0, some x1, none, none, none, none, none, none, none, none, none] S

/-- _law_worst(_law_some): slots 0 _law_some, 1 _law_base, 2 _law_weights, 3 _law_under, 4 _law_sizes, 5 _law_top -/
def rd_Lworst : DS :=
  (dSeq (dAsg (.tp [(.nm 1), (.nm 2), (.nm 3), (.nm 4), (.nm 5)]) (dVar 0))
  (dRet (dCB sp_worst_lag (dCons (dVar 1) (dCons (dCB cTuple (dCons (dVar 2) dNil)) (dCons (dVar 3) (dCons (dCB cTuple (dCons (dVar 4) dNil)) (dCons (dVar 5) dNil))))))))
def goal_Lworst : Prop := ∀ (x0 : D) (S : Store) (P : D → Store → Prop), sp_Lworst [x0] S P → rd_Lworst (dEnd P) [some x0, none, none, none, none, none] S

/-- _law_right(_law_box_here, _law_some, _law_told_here): slots 0 _law_box_here, 1 _law_some, 2 _law_told_here, 3 _law_base, 4 _law_weights, 5 _law_under, 6 _law_sizes, 7 _law_top, 8 _law_order, 9 _law_left, 10 _law_found, 11 _law_signs, 12 _law_many, 13 _law_weight, 14 _law_others, 15 _law_at, 16 _law_turned_sum, 17 _law_rows, 18 _law_others_rows, 19 _law_lag, 20 _law_figure, 21 _law_one, 22 _law_other -/
def rd_Lright_1 : DS :=
  (dSeq (dAsg (.tp [(.nm 11), (.nm 12)]) (dTup (dCons (dLc (dItSeq (dVar 4)) (.nm 13) dYes (dOp dIx (dLst (dCons (dC (.int 1)) (dCons (dUn dNeg (dC (.int 1))) dNil))) (dCB sp_Ltake (dCons (dVar 0) (dCons (dC (.int 2)) dNil))))) (dCons (dOp dAdd (dC (.int 1)) (dCB sp_Ltake (dCons (dVar 0) (dCons (dC (.int 3)) dNil)))) dNil))))
  (dSeq (dSet 12 (dIf (dTest (dOp dLt (dOp dMul (dCB cMaxL (dCons (dLc (dItSeq (dVar 4)) (.nm 13) dYes (dCB cAbs (dCons (dVar 13) dNil))) dNil)) (dVar 12)) (dC (.int 10)))) (dVar 12) (dC (.int 1))))
  (dSeq (dSet 14 (dLc (dItSeq (dVar 8)) (.nm 15) dYes (dOp dMul (dOp dMul (dOp dIx (dVar 4) (dVar 15)) (dOp dIx (dVar 11) (dVar 15))) (dVar 12))))
  (dSeq (dSet 16 (dTup (dCons (dVar 3) (dCons (dVar 14) (dCons (dOp dMul (dVar 5) (dVar 12)) (dCons (dLc (dItSeq (dVar 8)) (.nm 15) dYes (dOp dIx (dVar 6) (dVar 15))) (dCons (dVar 7) dNil)))))))
  (dSeq (dIfS (dOr (dTest (dCB cIsi (dCons (dVar 10) (dCons (dC (.ty "bool")) dNil)))) (dOr (dTest (dOp dGt (dVar 10) (dVar 2))) (dTest (dOp dNe (dCB sp_Lworst (dCons (dVar 16) dNil)) (dVar 10))))) (dRet (dC (.bl false))) dNext)
  (dSeq (dIfS (dAnd (dTest (dOp dGt (dVar 2) (dC (.int 0)))) (dTest (dOp dNe (dCB sp_Lworst (dCons (dTup (dCons (dVar 3) (dCons (dVar 4) (dCons (dOp dMul (dVar 5) (dVar 3)) (dCons (dVar 6) (dCons (dVar 7) dNil)))))) dNil)) (dOp dSub (dVar 10) (dC (.int 1)))))) (dRet (dC (.bl false))) dNext)
  (dSeq (dSet 17 (dCB sp_worst_rows (dCons (dVar 3) (dCons (dCB cTuple (dCons (dVar 4) dNil)) (dCons (dVar 5) (dCons (dCB cTuple (dCons (dVar 6) dNil)) (dCons (dVar 7) dNil)))))))
  (dSeq (dPar 18 19 (dCons (dLc (dItSeq (dVar 8)) (.nm 15) dYes (dCB cTuple (dCons (dLc (dItSeq (dOp dIx (dVar 17) (dVar 15))) (.nm 20) dYes (dOp dMul (dOp dIx (dVar 11) (dVar 15)) (dVar 20))) dNil))) (dCons (dCB cMax2 (dCons (dC (.int 0)) (dCons (dVar 10) dNil))) dNil)))
  (dSeq (dSet 21 (dCB sp_shows_worst (dCons (dVar 3) (dCons (dCB cTuple (dCons (dVar 4) dNil)) (dCons (dVar 5) (dCons (dCB cTuple (dCons (dVar 6) dNil)) (dCons (dVar 7) (dCons (dVar 19) (dCons (dVar 17) dNil)))))))))
  (dSeq (dSet 22 (dCB sp_shows_worst (dCons (dVar 3) (dCons (dCB cTuple (dCons (dVar 14) dNil)) (dCons (dOp dMul (dVar 5) (dVar 12)) (dCons (dCB cTuple (dCons (dLc (dItSeq (dVar 8)) (.nm 15) dYes (dOp dIx (dVar 6) (dVar 15))) dNil)) (dCons (dVar 7) (dCons (dVar 19) (dCons (dVar 18) dNil)))))))))
  (dRet (dAndV (dCB cIsi (dCons (dVar 21) (dCons (dC (.ty "bool")) dNil))) (dAndV (dOp dEq (dVar 21) (dVar 22)) (dOp dEq (dVar 21) (dOp dGe (dVar 10) (dC (.int 0)))))))))))))))))
def rd_Lright : DS :=
  (dSeq (dAsg (.tp [(.nm 3), (.nm 4), (.nm 5), (.nm 6), (.nm 7)]) (dVar 1))
  (dSeq (dPar3 8 9 10 (dCons (dLstM dNil) (dCons (dLstR1M (dCB cLen (dCons (dVar 4) dNil))) (dCons (dCB sp_Lworst (dCons (dVar 1) dNil)) dNil))))
  (dSeq (dWhile (dTest (dOp (dEqL true) (dVar 9) (dLst dNil))) (dDrop (dAppend (dVar 8) (dPopAt (dVar 9) (dCB sp_Ltake (dCons (dVar 0) (dCons (dCB cLen (dCons (dVar 9) dNil)) dNil)))))))
  rd_Lright_1)))
def goal_Lright : Prop := ∀ (x0 x1 x2 : D) (S : Store) (P : D → Store → Prop), sp_Lright [x0, x1, x2] S P → rd_Lright (dEnd P) [some x0, some x1, some x2, none, none, none, none, none, none, none, none, none, none, none, none, none, none, none, none, none, none, none, none] S

/-- law(_law_script): slots 0 _law_script, 1 _law_k, 2 _law_box_here, 3 _law_turn, 4 _law_some, 5 _law_told_here -/
def rd_law_1 : DS :=
  (dSeq (dSet 4 (dCB sp_Lsum (dCons (dVar 2) (dCons (dCB sp_Lof (dCons (dVar 2) (dCons (dLst (dCons (dC (.int 2)) (dCons (dC (.int 2)) (dCons (dC (.int 3)) (dCons (dC (.int 4)) (dCons (dC (.int 10)) dNil)))))) dNil))) dNil))))
  (dSeq (dSet 5 (dCB sp_Ltold (dCons (dVar 4) dNil)))
  (dIfS (dAnd (dTest (dCB sp_Lis_small (dCons (dVar 4) (dCons (dVar 5) dNil)))) (dNot (dTest (dCB sp_Lright (dCons (dVar 2) (dCons (dVar 4) (dCons (dVar 5) dNil))))))) (dRet (dC (.bl false))) dNext)))
def rd_law : DS :=
  (dSeq (dFor (dRng1 (dCons (dCB cMax2 (dCons (dC (.int 1)) (dCons (dCB cMin2 (dCons (dCB cLen (dCons (dVar 0) dNil)) (dCons (dC (.int 2)) dNil))) dNil))) dNil)) (.nm 1) (dSeq (dSet 2 (dCB sp_Lbox (dCons (dVar 0) (dCons (dVar 1) dNil))))
  (dFor (dRng1 (dCons (dC (.int 2)) dNil)) (.nm 3) rd_law_1)))
  (dRet (dC (.bl true))))
def goal_law : Prop := ∀ (x0 : D) (S : Store) (P : D → Store → Prop), sp_law [x0] S P → rd_law (dEnd P) [some x0, none, none, none, none, none] S

theorem len_is_number : ∀ ds S P, sp_is_number ds S P → ds.length = 1 := len_is_numberS
theorem vc_is_number : goal_is_number := vc_is_numberS
theorem len_summed : ∀ ds S P, sp_summed ds S P → ds.length = 2 := len_summedT
theorem vc_summed : goal_summed := vc_summedT
theorem len_Late_init : ∀ ds S P, sp_Late_init ds S P → ds.length = 6 := len_Late_initT
theorem vc_Late_init : goal_Late_init := vc_Late_initT
theorem len_Late_settled : ∀ ds S P, sp_Late_settled ds S P → ds.length = 3 := len_Late_settledT
theorem vc_Late_settled : goal_Late_settled := vc_Late_settledT
theorem len_Late_first : ∀ ds S P, sp_Late_first ds S P → ds.length = 1 := len_Late_firstT
theorem vc_Late_first : goal_Late_first := vc_Late_firstT
theorem len_Late_behind : ∀ ds S P, sp_Late_behind ds S P → ds.length = 3 := len_Late_behindT
theorem vc_Late_behind : goal_Late_behind := vc_Late_behindT
theorem len_Late_states : ∀ ds S P, sp_Late_states ds S P → ds.length = 1 := len_Late_statesT
theorem vc_Late_states : goal_Late_states := vc_Late_statesT
theorem len_worst_lag : ∀ ds S P, sp_worst_lag ds S P → ds.length = 5 := len_worst_lagT
theorem vc_worst_lag : goal_worst_lag := vc_worst_lagT
theorem len_worst_rows : ∀ ds S P, sp_worst_rows ds S P → ds.length = 5 := len_worst_rowsT
theorem vc_worst_rows : goal_worst_rows := vc_worst_rowsT
theorem len_shows_worst : ∀ ds S P, sp_shows_worst ds S P → ds.length = 7 := len_shows_worstT
theorem vc_shows_worst : goal_shows_worst := vc_shows_worstT
theorem len_Lpow : ∀ ds S P, sp_Lpow ds S P → ds.length = 2 := by rintro ds S P ⟨a, b, rfl, _⟩; rfl
theorem len_Lsum : ∀ ds S P, sp_Lsum ds S P → ds.length = 2 := by rintro ds S P ⟨a, b, c, rfl, _⟩; rfl
theorem len_Ltold : ∀ ds S P, sp_Ltold ds S P → ds.length = 1 := by rintro ds S P ⟨a, b, c, d, e, rfl, _⟩; rfl
theorem len_Lis_small : ∀ ds S P, sp_Lis_small ds S P → ds.length = 2 := by rintro ds S P ⟨a, b, c, d, e, f, rfl, _⟩; rfl
theorem len_Lworst : ∀ ds S P, sp_Lworst ds S P → ds.length = 1 := by rintro ds S P ⟨a, b, c, d, e, rfl, _⟩; rfl
theorem len_Lright : ∀ ds S P, sp_Lright ds S P → ds.length = 3 := by rintro ds S P ⟨a, b, c, d, e, f, g, i, rfl, _⟩; rfl
theorem vc_Lpow : goal_Lpow := by
  rintro x0 x1 S P ⟨b, k, er, b0, b1, k0, k1, h⟩
  cases er
  unfold rd_Lpow
  walk_at "dg7"
  refine ⟨by omega, by omega, fun i ρ S' => S' = S ∧ ∃ z3, ρ = [some (.int b), some (.int k), some (.int (b ^ i)), z3], ⟨rfl, none, by simp⟩, ?_, ?_⟩
  · rintro i d ρ S' hd ⟨rfl, z3, rfl⟩
    obtain ⟨hi, rfl⟩ := rng_get hd
    refine ⟨_, rfl, ?_⟩
    walk_at "dg7"
    refine ⟨mulB (n := 3321) (m := 4) ?_ (by omega) (by decide), some (.int (0 + (i : Int))), ?_⟩
    · have h1 : b ^ i ≤ 2 ^ 3320 := Int.le_trans (pow16 b0 (by omega) i) (pwR (by decide) (by omega))
      have h0 : 0 < b ^ i := Int.pow_pos (by omega)
      have k6 : ((2 ^ 3320 : Nat) : Int) = 2 ^ 3320 := Int.natCast_pow 2 3320
      have : ((b ^ i).natAbs : Int) ≤ ((2 ^ 3320 : Nat) : Int) := by rw [k6]; omega
      exact Nat.lt_of_le_of_lt (Int.ofNat_le.mp this) (Nat.pow_lt_pow_right (by decide) (by decide))
    · rw [Int.pow_succ]
  · rintro ρ S' ⟨rfl, z3, rfl⟩
    walk_at "dg7"
    rw [rng_len]
    exact h
theorem wideS_le {c d : Int} (c0 : 0 ≤ c) (d0 : 0 ≤ d) : ∀ (ws ms : List Int), (∀ w, w ∈ ws → (w.natAbs : Int) ≤ c) → (∀ m, m ∈ ms → 0 ≤ m ∧ m ≤ d) → wideS ws ms ≤ c * d * ws.length
  | [], ms, _, _ => by unfold wideS; simp
  | w :: ws, [], _, _ => by
    unfold wideS
    have := Int.mul_nonneg (Int.mul_nonneg c0 d0) (show (0 : Int) ≤ ((w :: ws).length : Int) by omega)
    simpa using this
  | w :: ws, m :: ms, hw, hm => by
    have ih := wideS_le c0 d0 ws ms (fun x hx => hw x (List.mem_cons_of_mem _ hx)) fun x hx => hm x (List.mem_cons_of_mem _ hx)
    unfold wideS at *
    rw [List.zip_cons_cons, List.map_cons, List.sum_cons, List.length_cons]
    have h1 := hw w (List.mem_cons_self ..)
    have h2 := hm m (List.mem_cons_self ..)
    have h3 := Int.mul_le_mul h1 h2.2 h2.1 c0
    dsimp only
    rw [show c * d * ((ws.length + 1 : Nat) : Int) = c * d * (ws.length : Int) + c * d by rw [Int.natCast_add, Int.mul_add]; simp]
    omega
theorem shown_iff {M : Mz} {ws ms : List Int} {rs : List (List Int)} {n : Nat} {R L lag : Int} (l0 : 1 ≤ ms.length) (hr : RowsAt ms rs n) (h : M.Led (cols ws rs n) R L) : Shown M ws ms lag (rowsD rs) ↔ lag ≤ L := by
  constructor
  · rintro ⟨rs2, n2, e2, hr2, R2, L2, hled2, q⟩
    have e3 : rs = rs2 := by
      have e4 := D.lst.inj e2
      refine (List.map_inj_right fun a b e => ?_).mp e4
      have e5 := D.tup.inj e
      exact (List.map_inj_right fun x y z => D.int.inj z).mp e5
    subst e3
    obtain ⟨r, rs', rfl⟩ : ∃ r rs', rs = r :: rs' := by
      cases rs with
      | nil => have := hr.l; simp at this; omega
      | cons r rs' => exact ⟨r, rs', rfl⟩
    have : n2 = n := by rw [← hr2.n r (List.mem_cons_self ..), hr.n r (List.mem_cons_self ..)]
    subst this
    obtain ⟨_, rfl⟩ := h.uniq hled2
    exact q
  · exact fun q => ⟨rs, n, rfl, hr, R, L, h, q⟩
theorem kps_dk {S S' : Store} {p : Addr} {n : Nat} (hb : BoxAt S p n) (h : KpS S S') : Dk S S' p n := by
  refine ⟨?_, fun q m _ e => h q m e⟩
  obtain ⟨a, s, t, h1, h2⟩ := hb
  exact ⟨a, s, t, h p _ h1, h2⟩
/-- what is told holds all leads -/
theorem told_le {M : Mz} (ho : M.Ok) {d : Int} (d0 : 0 ≤ d) (h : IsLp M.b (2 * M.m - M.b + 1) (((2 : Int) : Rat) * (((M.W : Int) : Rat) / ((M.v : Int) : Rat))) d) : 2 * M.W ≤ M.v * M.b ^ d.toNat * (2 * M.m - M.b + 1) := by
  have v0 := ho.v0
  have h1 := h.1
  have e : (M.b : Rat) ^ d = ((M.b ^ d.toNat : Int) : Rat) := by
    rw [show d = ((d.toNat : Nat) : Int) by omega, Rat.zpow_natCast, Rat.intCast_pow]
    rfl
  rw [e] at h1
  have vp : (0 : Rat) < ((M.v : Int) : Rat) := ratpos (by omega)
  have h2 := Rat.mul_le_mul_of_nonneg_right h1 (Rat.le_of_lt vp)
  have h3 : ((2 : Int) : Rat) * (((M.W : Int) : Rat) / ((M.v : Int) : Rat)) * ((M.v : Int) : Rat) = ((2 * M.W : Int) : Rat) := by
    rw [Rat.mul_assoc, Rat.div_mul_cancel (by grind), Rat.intCast_mul]
  rw [h3, ← Rat.intCast_mul, ← Rat.intCast_mul] at h2
  have h4 := Rat.intCast_le_intCast.mp h2
  rw [Int.mul_comm M.v, Int.mul_right_comm]
  exact h4
theorem sumW_wide : ∀ ws ms : List Int, sumW ws ms = wideS ws ms
  | [], ms => by unfold sumW wideS; simp
  | w :: ws, [] => by unfold sumW wideS; simp
  | w :: ws, m :: ms => by
    have ih := sumW_wide ws ms
    unfold sumW wideS at *
    rw [List.zipWith_cons_cons, List.zip_cons_cons, List.map_cons, List.sum_cons, List.sum_cons, ih]
    have : abI w = (w.natAbs : Int) := by unfold abI; split <;> omega
    rw [this]
theorem vc_Lsum : goal_Lsum := by
  rintro x0 x1 S P ⟨p, n, b, er, hb, hn, b0, b1, h⟩
  cases er
  unfold rd_Lsum
  obtain ⟨lo, hlo⟩ : ∃ lo : Int, lo = (b + 1).fdiv 2 := ⟨_, rfl⟩
  have lo1 : 2 * lo ≤ b + 1 ∧ b ≤ 2 * lo := by rw [Int.fdiv_eq_ediv_of_nonneg _ (by decide)] at hlo; omega
  walk_at "dg7"
  rw [← hlo]
  refine ⟨⟨by decide, by decide⟩, ?_⟩
  refine takeK (.refl hb) (by decide) (by decide) (by omega) fun y S1 y0 y1 hb1 => ?_
  obtain ⟨many, hmany⟩ : ∃ many : Int, many = 1 + y := ⟨_, rfl⟩
  dsimp only
  rw [← hmany]
  refine ⟨by omega, by omega, ?_⟩
  refine lc_st (fun _ y => ∃ w : Int, y = .int w ∧ w ≠ 0 ∧ w.natAbs ≤ 9) (fun i S' => Dk S S' p (n + 1 + 3 * i)) (by rw [rng_len]; omega) hb1 (fun i d S' hd hs => ⟨_, rfl, fun Q q => ?_⟩) (fun ys S2 hlen hR hS => ?_)
  · obtain ⟨hi, _⟩ := rng_get hd
    walk_at "dg7"
    refine takeK hs (by decide) (by decide) (by omega) fun u S3 u0 u1 hb3 => ?_
    walk_at "dg7"
    obtain ⟨g, hg, g0, g1⟩ : ∃ g : Int, atI [D.int 3, D.int 9] u = some (.int g) ∧ 3 ≤ g ∧ g ≤ 9 := by
      rcases (show u = 0 ∨ u = 1 by omega) with rfl | rfl
      · exact ⟨3, rfl, by omega, by omega⟩
      · exact ⟨9, rfl, by omega, by omega⟩
    rw [hg]
    dsimp only
    refine takeK hb3 (by omega) (by omega) (by omega) fun u1 S4 u1a u1b hb4 => ?_
    walk_at "dg7"
    refine takeK hb4 (by decide) (by decide) (by omega) fun u2 S5 u2a u2b hb5 => ?_
    rcases (show u2 = 0 ∨ u2 = 1 by omega) with rfl | rfl
    · walk_at "dg7"
      exact ⟨mulS (by omega), q _ _ ⟨_, rfl, by omega, by omega⟩ (hb5.mono (by omega))⟩
    · walk_at "dg7"
      exact ⟨mulS (by omega), q _ _ ⟨_, rfl, by omega, by omega⟩ (hb5.mono (by omega))⟩
  obtain ⟨ws, rfl, hws⟩ := ex_map (f := D.int) (R := fun w => w ≠ 0 ∧ w.natAbs ≤ 9) (ys := ys) fun z hz => by
    obtain ⟨k, hk, ek⟩ := List.getElem_of_mem hz
    exact hR k z (by rw [List.getElem?_eq_getElem hk, ek])
  rw [List.length_map, rng_len] at hlen
  walk_at "dg7"
  rw [rng_len] at hS
  refine ⟨by omega, by omega, ?_⟩
  refine lc_st (fun _ y => ∃ w : Int, y = .int w ∧ 1 ≤ w ∧ w ≤ 7) (fun i S' => Dk S S' p (n + 14 + i)) (by rw [rng_len]; omega) (hS.mono (by omega)) (fun i d S' hd hs => ⟨_, rfl, fun Q q => ?_⟩) (fun ys S3 hlen2 hR2 hS2 => ?_)
  · obtain ⟨hi, _⟩ := rng_get hd
    walk_at "dg7"
    refine takeK hs (by decide) (by decide) (by omega) fun u S3 u0 u1 hb3 => ?_
    walk_at "dg7"
    exact q _ _ ⟨_, rfl, by omega, by omega⟩ hb3
  obtain ⟨ms, rfl, hms⟩ := ex_map (f := D.int) (R := fun w => 1 ≤ w ∧ w ≤ 7) (ys := ys) fun z hz => by
    obtain ⟨k, hk, ek⟩ := List.getElem_of_mem hz
    exact hR2 k z (by rw [List.getElem?_eq_getElem hk, ek])
  rw [List.length_map, rng_len] at hlen2
  rw [rng_len] at hS2
  walk_at "dg7"
  rw [zipD_map]
  refine lc_mapA _ (fun z => .int ((z.1.natAbs : Int) * z.2)) (by simp; omega) (fun z hz => ⟨_, rfl, fun Q kq => ?_⟩) ?_
  · obtain ⟨z1, z2⟩ := List.of_mem_zip hz
    have w1 := hws _ z1
    have m1 := hms _ z2
    walk_at "dg7"
    have e : (if z.1 < 0 then -z.1 else z.1) = (z.1.natAbs : Int) := by split <;> omega
    rw [e]
    exact ⟨mulS (by omega), kq⟩
  rw [show (ws.zip ms).map (fun z => D.int ((z.1.natAbs : Int) * z.2)) = ((ws.zip ms).map fun z => (z.1.natAbs : Int) * z.2).map D.int by rw [List.map_map]; rfl]
  refine sum_ok ?_
  walk_at "dg7"
  split
  rotate_left
  · rename_i hc
    have wok : WsOk ws ms := ⟨by omega, by omega, by omega, fun w hw => ⟨(hws w hw).1, by have := (hws w hw).2; omega⟩, hms, by unfold wideS; omega⟩
    walk_at "dg7"
    refine takeK (hS2.mono (m := n + 30) (by omega)) (by decide) (by decide) (by omega) fun y S7 y0 y1 hD7 => ?_
    dsimp only
    refine takeK hD7 (by omega) (by omega) (by omega) fun y2 S8 y2a y2b hD8 => ?_
    exact h _ _ ws ms S8 ⟨b0, b1, wok, by unfold wideS; omega, fun w hw => (hws w hw).2, by omega, by omega, by omega, by omega, by omega⟩ (hD8.mono (by omega))
  · refine lc_mapA _ (fun w : Int => .int w.sign) (by omega) (fun w hw => ⟨_, rfl, fun Q kq => ?_⟩) ?_
    · have w1 := hws _ hw
      walk_at "dg7"
      refine ⟨⟨by split <;> omega, log2_lt (k := 4) (by split <;> omega) (by decide) (by split <;> omega)⟩, ?_⟩
      have e : w.fdiv (if w < 0 then -w else w) = w.sign := by
        rw [Int.fdiv_eq_ediv_of_nonneg _ (by split <;> omega)]
        split
        · rename_i c
          rw [Int.ediv_neg, Int.ediv_self (by omega), Int.sign_eq_neg_one_of_neg c]
        · rw [Int.ediv_self (by omega), Int.sign_eq_one_of_pos (by omega)]
      rw [e]
      exact kq
    rw [show ws.map (fun w => D.int w.sign) = (ws.map Int.sign).map D.int by rw [List.map_map]; rfl]
    have hsg : ∀ w, w ∈ ws.map Int.sign → w ≠ 0 ∧ w.natAbs ≤ 1 := fun w hw => by
      obtain ⟨x, hx, rfl⟩ := List.mem_map.mp hw
      have := (hws x hx).1
      rcases Int.lt_or_lt_of_ne this with q | q
      · rw [Int.sign_eq_neg_one_of_neg q]; decide
      · rw [Int.sign_eq_one_of_pos q]; decide
    have hwide2 := wideS_le (c := 1) (d := 7) (by decide) (by decide) (ws.map Int.sign) ms (fun w hw => by have := (hsg w hw).2; omega) (fun m hm => by have := hms m hm; omega)
    rw [List.length_map] at hwide2
    walk_at "dg7"
    refine takeK (hS2.mono (m := n + 30) (by omega)) (by decide) (by decide) (by omega) fun y S7 y0 y1 hD7 => ?_
    dsimp only
    refine takeK hD7 (by omega) (by omega) (by omega) fun y2 S8 y2a y2b hD8 => ?_
    exact h _ _ (ws.map Int.sign) ms S8 ⟨b0, b1, ⟨by rw [List.length_map]; omega, by rw [List.length_map]; omega, by rw [List.length_map]; omega, fun w hw => ⟨(hsg w hw).1, by have := (hsg w hw).2; omega⟩, hms, by omega⟩, by omega, fun w hw => by have := (hsg w hw).2; omega, by omega, by omega, by omega, by omega, by omega⟩ (hD8.mono (by omega))
theorem vc_Ltold : goal_Ltold := by
  rintro x0 S P ⟨b, v, m, ws, ms, er, hok, h⟩
  cases er
  unfold rd_Ltold someD
  have hw := hok.w
  have hl := hw.l; have hl0 := hw.l0; have hl1 := hw.l1
  have b0 := hok.b0; have b1 := hok.b1
  walk_at "dg7"
  refine lc_mapA D.int (fun c : Int => D.tup [.int 0, .int c]) (by omega) (fun c hc => ⟨_, rfl, fun Q q => ?_⟩) ?_
  · walk_at "dg7"
    exact q
  refine ⟨b, 0, m, ms.map fun c => (0, c), false, .kd (.sum ws v), ?_, ⟨⟨b0, by omega, by rw [List.length_map]; omega, by rw [List.length_map]; omega, fun q hq => ?_⟩, ⟨by rw [List.length_map]; omega, by have := hok.v0; omega, by have := hok.v1; omega, fun w hw' => ⟨(hw.w w hw').1, by have := (hw.w w hw').2; omega⟩⟩, hok.m0, by have := hok.m1; omega⟩, fun x hx => ?_⟩
  · unfold srcsD
    rw [List.map_map]
    rfl
  · obtain ⟨c, hc, rfl⟩ := List.mem_map.mp hq
    have := hw.m c hc
    exact ⟨⟨by show (-30 : Int) ≤ 0; decide, by show (0 : Int) ≤ 30; decide⟩, this.1, by show c ≤ 60; omega⟩
  obtain ⟨d, rfl, hlp, _, d1⟩ := hx
  have hS : (ms.map fun c => ((0 : Int), c)).map (·.2) = ms := by rw [List.map_map]; exact List.map_id' ms
  have hn : (Kd.sum ws v).need b (ms.map fun c => (0, c)) = ((2 : Int) : Rat) * (((wideS ws ms : Int) : Rat) / ((v : Int) : Rat)) := by
    unfold Kd.need Kd.wide
    dsimp only
    rw [hS, sumW_wide]
  rw [hn] at hlp
  exact h d hlp d1
theorem vc_Lis_small : goal_Lis_small := by
  rintro x0 x1 S P ⟨b, v, m, ws, ms, d, er, hok, d1, h⟩
  cases er
  unfold rd_Lis_small someD
  have hw := hok.w
  have hl := hw.l; have hl0 := hw.l0; have hl1 := hw.l1
  have b0 := hok.b0; have b1 := hok.b1; have v0 := hok.v0; have v1 := hok.v1; have m1 := hok.m1; have m0 := hok.m0
  have hWp := wideS_pos hw; have hW := hok.W
  walk_at "dg7"
  rw [zipD_map]
  refine lc_mapA _ (fun z => .int ((z.1.natAbs : Int) * z.2)) (by simp; omega) (fun z hz => ⟨_, rfl, fun Q kq => ?_⟩) ?_
  · obtain ⟨z1, z2⟩ := List.of_mem_zip hz
    have w1 := hw.w _ z1
    have m1 := hw.m _ z2
    walk_at "dg7"
    have e : (if z.1 < 0 then -z.1 else z.1) = (z.1.natAbs : Int) := by split <;> omega
    rw [e]
    exact ⟨mulS (by omega), kq⟩
  rw [show (ws.zip ms).map (fun z => D.int ((z.1.natAbs : Int) * z.2)) = ((ws.zip ms).map fun z => (z.1.natAbs : Int) * z.2).map D.int by rw [List.map_map]; rfl]
  refine sum_ok ?_
  walk_at "dg7"
  by_cases c : d < 0
  · simp only [c, reduceIte]
    have : smallB b v m ws ms d = false := by unfold smallB; rw [decide_eq_false (by omega)]; rfl
    rw [this] at h
    exact h
  · simp only [c, reduceIte]
    refine ⟨mulS (by omega), b, d, rfl, b0, b1, by omega, d1, ?_⟩
    walk_at "dg7"
    rw [show ((ws.zip ms).map fun z => (z.1.natAbs : Int) * z.2).sum = wideS ws ms from rfl]
    have pb : (b ^ d.toNat).natAbs < 2 ^ 3321 := by
      have h1 : b ^ d.toNat ≤ 2 ^ 3320 := Int.le_trans (pow16 b0 (by omega) d.toNat) (pwR (by decide) (by omega))
      have h0 : 0 < b ^ d.toNat := Int.pow_pos (by omega)
      have k6 : ((2 ^ 3320 : Nat) : Int) = 2 ^ 3320 := Int.natCast_pow 2 3320
      have : ((b ^ d.toNat).natAbs : Int) ≤ ((2 ^ 3320 : Nat) : Int) := by rw [k6]; omega
      exact Nat.lt_of_le_of_lt (Int.ofNat_le.mp this) (Nat.pow_lt_pow_right (by decide) (by decide))
    have p2 : (2 * v * b ^ d.toNat).natAbs < 2 ^ 3325 := by
      rw [Int.natAbs_mul, show (2 : Nat) ^ 3325 = 2 ^ 4 * 2 ^ 3321 by rw [← Nat.pow_add]]
      exact Nat.lt_of_le_of_lt (Nat.mul_le_mul_left _ (Nat.le_of_lt pb)) (Nat.mul_lt_mul_of_pos_right (by omega) (Nat.pow_pos (by decide)))
    have p3 : (2 * v * b ^ d.toNat * m).natAbs < 2 ^ 3330 := by
      rw [Int.natAbs_mul, show (2 : Nat) ^ 3330 = 2 ^ 3325 * 2 ^ 5 by rw [← Nat.pow_add]]
      exact Nat.lt_of_le_of_lt (Nat.mul_le_mul_right _ (Nat.le_of_lt p2)) (Nat.mul_lt_mul_of_pos_left (by omega) (Nat.pow_pos (by decide)))
    have eh : (2 * v * b ^ d.toNat * m).fdiv (b - 1) = (⟨b, v, m, wideS ws ms⟩ : Mz).h d.toNat := by
      rw [Int.fdiv_eq_ediv_of_nonneg _ (by omega)]
      show 2 * v * b ^ d.toNat * m / (b - 1) = 2 * (v * m) * b ^ d.toNat / (b - 1)
      congr 1
      ac_rfl
    have p4 : ((2 * v * b ^ d.toNat * m).fdiv (b - 1)).natAbs < 2 ^ 3330 := by
      have hp : 0 ≤ 2 * v * b ^ d.toNat * m := Int.mul_nonneg (Int.mul_nonneg (by omega) (Int.le_of_lt (Int.pow_pos (by omega)))) (by omega)
      have h1 : (2 * v * b ^ d.toNat * m) / (b - 1) ≤ 2 * v * b ^ d.toNat * m := Int.ediv_le_self _ hp
      have h2 : 0 ≤ (2 * v * b ^ d.toNat * m) / (b - 1) := Int.ediv_nonneg hp (by omega)
      rw [Int.fdiv_eq_ediv_of_nonneg _ (by omega)]
      omega
    refine ⟨mulB (n := 4) (by omega) pb (by decide), mulB (m := 5) p2 (by omega) (by decide), ⟨by omega, log2_lt (k := 4) (by omega) (by decide) (by omega)⟩, mulS (by omega), mulB (m := 8) p4 (by omega) (by decide), ?_⟩
    rw [eh]
    have : smallB b v m ws ms d = decide ((⟨b, v, m, wideS ws ms⟩ : Mz).h d.toNat * (2 * wideS ws ms + 1) < 2000) := by
      unfold smallB
      rw [decide_eq_true (show 0 ≤ d by omega), Bool.true_and]
    rw [← this]
    exact h
theorem vc_Lworst : goal_Lworst := by
  rintro x0 S P ⟨b, v, m, ws, ms, er, hw, ho, hm, hf, h⟩
  cases er
  unfold rd_Lworst someD
  walk_at "dg7"
  exact ⟨b, v, m, ws, ms, rfl, hw, ho, hm, hf, h⟩
/-! ### the law -/
theorem sumok_h0 {b v m : Int} {ws ms : List Int} (h : SumOk b v m ws ms) : (⟨b, v, m, wideS ws ms⟩ : Mz).h 0 ≤ 36 := by
  have b0 := h.b0; have v1 := h.v1; have m2 := h.m2; have m0 := h.m0
  unfold Mz.h
  refine Int.le_of_lt_add_one ((Int.ediv_lt_iff_lt_mul (by show 0 < b - 1; omega)).mpr ?_)
  show 2 * (v * m) * b ^ 0 < (36 + 1) * (b - 1)
  rw [Int.pow_zero, Int.mul_one]
  have : v * m ≤ 6 * m := Int.mul_le_mul_of_nonneg_right v1 (by omega)
  omega
theorem sumok_few {b v m : Int} {ws ms : List Int} {d : Int} (h : SumOk b v m ws ms) (hlp : Lagd b v m ws ms d) (hs : smallB b v m ws ms d = true) : Few ⟨b, v, m, wideS ws ms⟩ (Tot ws ms) 2000 ∧ ∀ R L, (⟨b, v, m, wideS ws ms⟩ : Mz).Rc (Tot ws ms) R L → L ≤ d := by
  have ho := h.ok
  unfold smallB at hs
  rw [Bool.and_eq_true, decide_eq_true_iff, decide_eq_true_iff] at hs
  obtain ⟨d0, hs⟩ := hs
  have hD : ∀ R L, (⟨b, v, m, wideS ws ms⟩ : Mz).Rc (Tot ws ms) R L → L ≤ (d.toNat : Int) := fun R L hR => Mz.Rc.le ho h.m0 (D := d.toNat) (told_le ho d0 hlp) hR
  refine ⟨Mz.few_of ho h.m0 (fun c ⟨fs, h1, e⟩ => by rw [e]; exact wS_wide h.w.l h1) hD ?_, fun R L hR => by have := hD R L hR; omega⟩
  have hh := Mz.h0 ho d.toNat
  have hp := Mz.h_pow ho h.m0 d.toNat
  have h36 := sumok_h0 h
  have hW := wideS_pos h.w
  generalize (⟨b, v, m, wideS ws ms⟩ : Mz).h d.toNat = H at *
  generalize (⟨b, v, m, wideS ws ms⟩ : Mz).h 0 = H0 at *
  have h3 : H * 3 ≤ H * (2 * wideS ws ms + 1) := Int.mul_le_mul_of_nonneg_left (by omega) hh
  have hd9 : d.toNat ≤ 9 := by
    apply Decidable.byContradiction
    intro q
    have := pwR (b := 2) (by decide) (show 10 ≤ d.toNat by omega)
    rw [show (2 : Int) ^ 10 = 1024 by decide] at this
    omega
  show 2 * H + (d.toNat : Int) + 1 + 8 * (H0 + 1) ≤ ((2000 : Nat) : Int)
  omega
theorem pyL_int : ∀ l : List Int, ∃ ps, D.pyL (l.map .int) = some ps ∧ ps.isEmpty = l.isEmpty ∧ PyData.canLayAll0 ps = true ∧ PyData.depthAll ps ≤ 1
  | [] => ⟨[], rfl, rfl, rfl, by decide⟩
  | f :: l => by
    obtain ⟨ps, h1, h2, h3, h4⟩ := pyL_int l
    refine ⟨.int f :: ps, ?_, rfl, ?_, ?_⟩
    · rw [List.map_cons]
      unfold D.pyL
      rw [h1]
      unfold D.py
      rfl
    · rw [PyData.canLayAll0, h3]; rfl
    · rw [PyData.depthAll]
      have : PyData.depth (.int f) = 0 := by simp [PyData.depth]
      omega
theorem neL_int {l : Addr} {xs : List Int} {S : Store} {P : D → Store → Prop} (h : S l = some (.lst (xs.map .int))) (q : P (.bl (!xs.isEmpty)) S) : dEqL true (.obj l) (.lst []) S P := by
  obtain ⟨ps, h1, h2, h3, h4⟩ := pyL_int xs
  unfold dEqL
  simp only [lstOf, h, Option.bind, h1]
  refine ⟨?_, by decide, ?_⟩
  · unfold SeqAt.shaped
    rw [PyData.canLay0, h3, PyData.depth]
    simp; omega
  · have : PyData.eqv (.list ps) (.list []) = xs.isEmpty := by
      rw [← h2]
      cases ps with
      | nil => rfl
      | cons p ps => rfl
    simp only [reduceIte, this]
    exact q
theorem perm_pop {α : Type} : ∀ (l : List α) (i : Nat) (h : i < l.length), (l[i] :: l.eraseIdx i).Perm l
  | a :: l, 0, _ => List.Perm.refl _
  | a :: l, i + 1, h => by
    have ih := perm_pop l i (by simpa using h)
    rw [List.getElem_cons_succ, List.eraseIdx_cons_succ]
    exact (List.Perm.swap _ _ _).trans (ih.cons a)
theorem map_erase {α β : Type} (f : α → β) : ∀ (l : List α) (i : Nat), (l.map f).eraseIdx i = (l.eraseIdx i).map f
  | [], _ => by simp
  | a :: l, 0 => rfl
  | a :: l, i + 1 => by rw [List.map_cons, List.eraseIdx_cons_succ, List.eraseIdx_cons_succ, List.map_cons, map_erase f l i]
def natsI (l : List Nat) : List Int := l.map fun (i : Nat) => (i : Int)
theorem atI_nat {l : List Int} {i : Nat} (h : i < l.length) : atI (l.map D.int) (i : Int) = some (.int (l.getD i 0)) := by
  rw [atI_at (by omega) (by rw [List.length_map]; omega), List.getElem?_map, show ((i : Int)).toNat = i by omega, List.getElem?_eq_getElem h, List.getD_eq_getElem?_getD, List.getElem?_eq_getElem h]
  rfl
theorem natsD (xs : List Nat) : (natsI xs).map D.int = xs.map fun (i : Nat) => D.int (i : Int) := by unfold natsI; rw [List.map_map]; rfl
/-- over an order that stands in the heap -/
theorem lc_ord {t : Tgt} {de : DE} {P : D → Store → Prop} {xs : List Nat} {pin : Store → Prop} {ρ : DSt} {S : Store} (g : Nat → D) (hl : xs.length ≤ 100000) (hp : pin S)
    (h : ∀ x, x ∈ xs → ∃ ρ', t.put (.int (x : Int)) (dwipe ρ t.slots) = some ρ' ∧ ∀ Q : D → Store → Prop, Q (g x) S → de ρ' S Q) (q : P (.lst (xs.map g)) S) : LcP t dYes de P ((natsI xs).map .int) pin ρ S := by
  rw [natsD]
  refine lc_filP _ g (fun _ => true) hl hp (fun x hx => ?_) (by rw [filt_all]; exact q)
  obtain ⟨ρ', h1, h2⟩ := h x hx
  exact ⟨ρ', h1, fun Q q => q, fun _ Q q => h2 Q q⟩
theorem gen3 {a c r : DS} {DD : DEnds} {ρ : DSt} {S : Store} (h : ∀ r', r' = r → dSeq a (dSeq c r') DD ρ S) : dSeq a (dSeq c r) DD ρ S := h r rfl
theorem gen5 {a c e f r : DS} {DD : DEnds} {ρ : DSt} {S : Store} (h : ∀ r', r' = r → dSeq a (dSeq c (dSeq e (dSeq f r'))) DD ρ S) : dSeq a (dSeq c (dSeq e (dSeq f r))) DD ρ S := h r rfl
/-- a sum turned about is a sum -/
theorem tu_ok {b v m k : Int} {ws ms : List Int} {xs : List Nat} {sg : List Int} (h : SumOk b v m ws ms) (tu : Tu ws.length xs sg) (k0 : 1 ≤ k) (k1 : k ≤ 3) (k2 : ∀ w, w ∈ ws → (w.natAbs : Int) * k ≤ 9) : WsOk (tuW ws xs sg k) (tuM ms xs) := by
  have hw := h.w
  have hl := hw.l; have hl0 := hw.l0; have hl1 := hw.l1
  have xl : xs.length = ws.length := by have := tu.p.length_eq; rwa [List.length_range] at this
  refine ⟨by unfold tuW tuM; rw [List.length_map, List.length_map], by unfold tuW; rw [List.length_map]; omega, by unfold tuW; rw [List.length_map]; omega, fun w hw' => ?_, fun m hm => ?_, ?_⟩
  · obtain ⟨i, hi, rfl⟩ := List.mem_map.mp hw'
    have il := tu.mem hi
    have wm : ws.getD i 0 ∈ ws := by rw [List.getD_eq_getElem?_getD, List.getElem?_eq_getElem il]; exact List.getElem_mem _
    have w0 := (hw.w _ wm).1
    have w9 := k2 _ wm
    have hs := tu.s i il
    have hn : (ws.getD i 0 * sg.getD i 0 * k).natAbs = (ws.getD i 0).natAbs * k.natAbs := by
      rw [Int.natAbs_mul, Int.natAbs_mul]
      rcases hs with e | e <;> rw [e] <;> simp
    have h9 : (((ws.getD i 0).natAbs * k.natAbs : Nat) : Int) ≤ 9 := by rw [Int.natCast_mul, show ((k.natAbs : Nat) : Int) = k by omega]; exact w9
    refine ⟨fun z => ?_, by rw [hn]; omega⟩
    have := congrArg Int.natAbs z
    rw [hn] at this
    rcases Nat.mul_eq_zero.mp this with q | q <;> omega
  · obtain ⟨i, hi, rfl⟩ := List.mem_map.mp hm
    have il := tu.mem hi
    exact hw.m _ (by rw [List.getD_eq_getElem?_getD, List.getElem?_eq_getElem (by omega)]; exact List.getElem_mem _)
  · rw [tu_wide hl tu (by omega)]
    have hW := h.W
    have := wideS_pos hw
    have h1 : wideS ws ms * k ≤ 28 * 3 := Int.mul_le_mul hW k1 (by omega) (by decide)
    omega
theorem vc_Lright : goal_Lright := by
  rintro x0 x1 x2 S P ⟨p, n, b, v, m, ws, ms, d, er, hb, hn, hok, hlp, hsm, h⟩
  cases er
  unfold rd_Lright someD
  have hw := hok.w
  have hl := hw.l; have hl0 := hw.l0; have hl1 := hw.l1
  have b0 := hok.b0; have b1 := hok.b1; have v0 := hok.v0; have v1 := hok.v1; have m1 := hok.m1; have m0 := hok.m0
  have hWp := wideS_pos hw; have hW := hok.W
  have ho := hok.ok
  obtain ⟨few, hled⟩ := sumok_few hok hlp hsm
  walk_at "dg7"
  intro a ha
  have pa : p ≠ a := fun z => by
    obtain ⟨a', s, t, h1, _⟩ := hb
    rw [z, ha] at h1; cases h1
  refine ⟨by rw [List.length_map]; exact ⟨by omega, by omega⟩, fun l hl0 => ?_⟩
  have la : l ≠ a := fun z => by subst z; rw [supd_same] at hl0; cases hl0
  rw [supd_ne la] at hl0
  have pl : p ≠ l := fun z => by
    obtain ⟨a', s, t, h1, _⟩ := hb
    rw [z, hl0] at h1; cases h1
  rw [List.length_map]
  refine ⟨b, v, m, ws, ms, rfl, hw, ho, hok.m0, few, fun L S1 ⟨R, hR⟩ hmax kp => ?_⟩
  have hLd := hled R L hR
  have hD1 : Dk S S1 p n := by
    have h1 : Dk S (supd (supd S a (.lst [])) l (.lst (rng 0 (ws.length : Int).toNat))) p n := ((Dk.refl hb).put pa ha).put pl hl0
    exact h1.trans (kps_dk h1.1 kp)
  have ha1 : S1 a = some (.lst ((natsI []).map .int)) := kp _ _ (by rw [supd_ne (Ne.symm la), supd_same]; rfl)
  have hl1' : S1 l = some (.lst ((natsI (List.range ws.length)).map .int)) := kp _ _ (by rw [supd_same]; unfold rng natsI; rw [List.map_map]; congr 2; refine List.map_congr_left fun i _ => ?_; show D.int (0 + (i : Int)) = D.int i; rw [Int.zero_add])
  walk_at "dg7"
  unfold dWhile
  refine ⟨fun k ρ S' => ∃ (xs ys : List Nat), ρ = [some (.obj p), some (.tup [.int b, .lst (ws.map .int), .int v, .lst (ms.map .int), .int m]), some (.int d), some (.int b), some (.lst (ws.map .int)), some (.int v), some (.lst (ms.map .int)), some (.int m), some (.obj a), some (.obj l), some (.int L), none, none, none, none, none, none, none, none, none, none, none, none] ∧ S' a = some (.lst ((natsI xs).map .int)) ∧ S' l = some (.lst ((natsI ys).map .int)) ∧ (xs ++ ys).Perm (List.range ws.length) ∧ Dk S S' p (n + xs.length) ∧ k = ys.length,
    ⟨_, [], List.range ws.length, rfl, ha1, hl1', by simp, hD1, rfl⟩, ?_⟩
  rintro k ρ S2 ⟨xs, ys, rfl, ha2, hl2, hpm, hD2, rfl⟩
  have hxy : xs.length + ys.length = ws.length := by
    have := hpm.length_eq
    rwa [List.length_append, List.length_range] at this
  walk_at "dg7"
  refine neL_int hl2 ?_
  walk_at "dg7"
  cases ys with
  | cons y0 yr =>
    have ie : (natsI (y0 :: yr)).isEmpty = false := rfl
    simp only [ie, Bool.not_false, reduceIte]
    refine ⟨_, ha2, ?_⟩
    unfold dPopAt
    walk_at "dg7"
    simp only [cLen, lstOf, seqOf, hl2]
    refine ⟨⟨_, rfl⟩, ?_⟩
    walk_at "dg7"
    have yl : ((natsI (y0 :: yr)).map D.int).length = (y0 :: yr).length := by unfold natsI; rw [List.length_map, List.length_map]
    rw [yl]
    obtain ⟨ys, hys⟩ : ∃ ys, ys = y0 :: yr := ⟨_, rfl⟩
    have yn : ys.length = yr.length + 1 := by rw [hys]; rfl
    rw [← hys] at hpm hl2 yl hxy ⊢
    refine takeK (.refl hD2.1) (by omega) (by omega) (by omega) fun t S3 t0 t1 hD3 => ?_
    have hl3 : S3 l = some (.lst ((natsI ys).map .int)) := hD3.2 l _ (Ne.symm pl) hl2
    have ha3 : S3 a = some (.lst ((natsI xs).map .int)) := hD3.2 a _ (Ne.symm pa) ha2
    simp only [hl3]
    have tl : t.toNat < ys.length := by omega
    have hD4 := hD2.trans hD3
    refine ⟨by omega, by omega, t.toNat, .int (ys[t.toNat] : Nat), ?_, ?_, (natsI xs).map .int, ?_, ?_, (ys.eraseIdx t.toNat).length, ?_, xs ++ [ys[t.toNat]], ys.eraseIdx t.toNat, ?_, ?_, ?_, ?_, rfl⟩
    · rw [yl]
      unfold seqIndex?
      simp only [show ¬ t < 0 by omega, if_false]
      rw [if_pos (by simp; omega)]
    · unfold natsI
      rw [List.map_map, List.getElem?_map, List.getElem?_eq_getElem tl]
      rfl
    · rw [supd_ne (Ne.symm la)]; exact ha3
    · unfold natsI; rw [List.length_map, List.length_map]; omega
    · rw [List.length_eraseIdx_of_lt tl]; omega
    · unfold natsI; rw [List.map_append, List.map_append]; rfl
    · rw [supd_ne la, supd_same]
      unfold natsI
      rw [map_erase, map_erase]
    · rw [List.append_assoc]
      exact (List.Perm.append_left xs (perm_pop ys t.toNat tl)).trans hpm
    · rw [List.length_append]
      exact ((hD4.put (m := .lst ((natsI ys).map D.int |>.eraseIdx t.toNat)) pl hl0).put pa ha).mono (by simp; omega)
  | nil =>
    have ie : (natsI []).isEmpty = true := rfl
    simp only [ie, Bool.not_true, Bool.false_eq_true, reduceIte]
    rw [List.append_nil] at hpm
    have xl : xs.length = ws.length := by simpa using hxy
    unfold rd_Lright_1
    refine gen3 fun r' hr' => ?_
    walk_at "dg7"
    refine lc_st (fun _ y => ∃ w : Int, y = .int w ∧ (w = 1 ∨ w = -1)) (fun i S' => Dk S2 S' p (n + 4 + i)) (by rw [List.length_map]; omega) ((Dk.refl hD2.1).mono (by omega)) (fun i d S' hd hs => ⟨_, rfl, fun Q q => ?_⟩) (fun ys S3 hlen hRs hS => ?_)
    · have hi := (List.getElem?_eq_some_iff.mp hd).1
      rw [List.length_map] at hi
      walk_at "dg7"
      refine takeK hs (by decide) (by decide) (by omega) fun u S3 u0 u1 hb3 => ?_
      rcases (show u = 0 ∨ u = 1 by omega) with rfl | rfl
      · walk_at "dg7"
        exact q _ _ ⟨_, rfl, .inl rfl⟩ hb3
      · walk_at "dg7"
        exact q _ _ ⟨_, rfl, .inr rfl⟩ hb3
    obtain ⟨sg, rfl, hsg⟩ := ex_map (f := D.int) (R := fun w => w = 1 ∨ w = -1) (ys := ys) fun z hz => by
      obtain ⟨k, hk, ek⟩ := List.getElem_of_mem hz
      exact hRs k z (by rw [List.getElem?_eq_getElem hk, ek])
    rw [List.length_map, List.length_map] at hlen
    rw [List.length_map] at hS
    have tu : Tu ws.length xs sg := ⟨hpm, fun i hi => hsg _ (by rw [List.getD_eq_getElem?_getD, List.getElem?_eq_getElem (by omega)]; exact List.getElem_mem _)⟩
    walk_at "dg7"
    refine takeK hS (by decide) (by decide) (by omega) fun y S4 k0 k1 hD4 => ?_
    obtain ⟨many, hmany⟩ : ∃ many : Int, many = 1 + y := ⟨_, rfl⟩
    walk_at "dg7"
    rw [← hmany]
    refine lc_mapA _ (fun w : Int => .int (w.natAbs : Int)) (by omega) (fun w hw => ⟨_, rfl, fun Q q => ?_⟩) ?_
    · walk_at "dg7"
      have e : (if w < 0 then -w else w) = (w.natAbs : Int) := by split <;> omega
      rw [e]; exact q
    rw [show ws.map (fun w => D.int (w.natAbs : Int)) = (ws.map fun w => (w.natAbs : Int)).map D.int by rw [List.map_map]; rfl]
    unfold cMaxL
    simp only [lstOf, Option.bind, dInts_map]
    refine ⟨by rw [List.length_map]; omega, fun mx hmx hge => ?_⟩
    have mx9 : 0 ≤ mx ∧ mx ≤ 9 := by
      obtain ⟨w, hw', rfl⟩ := List.mem_map.mp hmx
      have := hok.w9 w hw'
      omega
    walk_at "dg7"
    refine ⟨mulS (by omega), ?_⟩
    have hmw : ∀ w, w ∈ ws → (w.natAbs : Int) ≤ mx := fun w hw' => hge _ (List.mem_map.mpr ⟨w, hw', rfl⟩)
    suffices hk : ∀ k : Int, 1 ≤ k → k ≤ 3 → (∀ w, w ∈ ws → (w.natAbs : Int) * k ≤ 9) → r' (dEnd P) [some (.obj p), some (.tup [.int b, .lst (ws.map .int), .int v, .lst (ms.map .int), .int m]), some (.int d), some (.int b), some (.lst (ws.map .int)), some (.int v), some (.lst (ms.map .int)), some (.int m), some (.obj a), some (.obj l), some (.int L), some (.lst (sg.map .int)), some (.int k), none, none, none, none, none, none, none, none, none, none] S4 by
      split
      · rename_i c
        exact hk many (by omega) (by omega) fun w hw' => by
          have := Int.mul_le_mul_of_nonneg_right (hmw w hw') (show 0 ≤ many by omega)
          omega
      · exact hk 1 (by omega) (by omega) fun w hw' => by
          have := hok.w9 w hw'
          omega
    intro k kk0 kk1 kk2
    subst hr'
    have ha4 : S4 a = some (.lst ((natsI xs).map .int)) := hD4.2 a _ (Ne.symm pa) ha2
    have hxi : ∀ i, i ∈ xs → i < ws.length := fun i hi => tu.mem hi
    obtain ⟨M, hM⟩ : ∃ M : Mz, M = ⟨b, v, m, wideS ws ms⟩ := ⟨_, rfl⟩
    have tok := tu_ok hok tu kk0 kk1 kk2
    have eM : (⟨b, v * k, m, wideS (tuW ws xs sg k) (tuM ms xs)⟩ : Mz) = M.by k := by rw [hM, tu_wide hl tu (by omega)]; rfl
    have vk : 1 ≤ v * k ∧ v * k ≤ 6 * 3 := ⟨by have := Int.mul_le_mul v0 kk0 (by decide) (by omega); omega, Int.mul_le_mul v1 kk1 (by omega) (by decide)⟩
    have ho' : (⟨b, v * k, m, wideS (tuW ws xs sg k) (tuM ms xs)⟩ : Mz).Ok := ⟨b0, b1, vk.1, by show v * k ≤ 60; omega, .inl (by show v * k ≤ 25; omega), by show 1 ≤ m; omega, m1, wideS_pos tok, tok.W⟩
    have hT : ∀ c', Tot (tuW ws xs sg k) (tuM ms xs) c' ↔ ∃ c, Tot ws ms c ∧ c' = c * k := fun c' => tu_tot hl tu
    have hTW : ∀ c, Tot ws ms c → -M.W ≤ c ∧ c ≤ M.W := fun c ⟨fs, h1, e⟩ => by rw [hM, e]; exact wS_wide hl h1
    have ho1 : M.Ok := by rw [hM]; exact ho
    have few1 : Few M (Tot ws ms) 2000 := by rw [hM]; exact few
    have hR1 : M.Rc (Tot ws ms) R L := by rw [hM]; exact hR
    have hmax1 : ∀ R' L', M.Rc (Tot ws ms) R' L' → L' ≤ L := by rw [hM]; exact hmax
    have fewk : Few (M.by k) (Tot (tuW ws xs sg k) (tuM ms xs)) 2000 := few1.by kk0 hT
    have ew : xs.map (fun i => D.int (ws.getD i 0 * sg.getD i 0 * k)) = (tuW ws xs sg k).map D.int := by unfold tuW; rw [List.map_map]; rfl
    have em : xs.map (fun i => D.int (ms.getD i 0)) = (tuM ms xs).map D.int := by unfold tuM; rw [List.map_map]; rfl
    refine gen5 fun r2 hr2 => ?_
    walk_at "dg7"
    simp only [ha4]
    refine lc_ord (fun i => .int (ws.getD i 0 * sg.getD i 0 * k)) (by omega) (by first | exact ha4 | rfl) (fun i hi => ⟨_, rfl, fun Q q => ?_⟩) ?_
    · have il := hxi i hi
      walk_at "dg7"
      rw [atI_nat il, atI_nat (l := sg) (by omega)]
      dsimp only
      have wm : ws.getD i 0 ∈ ws := by rw [List.getD_eq_getElem?_getD, List.getElem?_eq_getElem il]; exact List.getElem_mem _
      have w9 := hok.w9 _ wm
      have hs := tu.s i il
      exact ⟨mulS (by omega), mulS2 (by omega), q⟩
    refine ⟨mulS (by omega), ?_⟩
    simp only [ha4]
    refine lc_ord (fun i => .int (ms.getD i 0)) (by omega) (by first | exact ha4 | rfl) (fun i hi => ⟨_, rfl, fun Q q => ?_⟩) ?_
    · have il := hxi i hi
      walk_at "dg7"
      rw [atI_nat (l := ms) (by omega)]
      exact q
    rw [ew, em]
    have c1 : ¬ d < L := by omega
    simp only [c1, reduceIte]
    refine ⟨b, v * k, m, _, _, rfl, tok, ho', hok.m0, by rw [eM]; exact fewk, fun L2 S5 ⟨R2, hR2⟩ hmax2 kp5 => ?_⟩
    rw [eM] at hR2 hmax2
    have e2 : L2 = L := by
      obtain ⟨R3, h3, _⟩ := (Mz.by_rc kk0 hT).mp hR2
      have q1 := hmax1 R3 L2 h3
      have q2 := hmax2 (R * k) L ((Mz.by_rc kk0 hT).mpr ⟨R, hR1, rfl⟩)
      omega
    subst e2
    walk_at "dg7"
    have vb : v * b ≤ 6 * b := Int.mul_le_mul_of_nonneg_right v1 (by omega)
    have vb1 : 1 * b ≤ v * b := Int.mul_le_mul_of_nonneg_right v0 (by omega)
    have eU : (⟨b, v * b, m, wideS ws ms⟩ : Mz) = M.up := by rw [hM]; rfl
    have hoU : (⟨b, v * b, m, wideS ws ms⟩ : Mz).Ok := ⟨b0, b1, by show 1 ≤ v * b; omega, by show v * b ≤ 60; omega, (by show v * b ≤ 25 ∨ 3 ≤ b; omega), by show 1 ≤ m; omega, m1, hWp, by show wideS ws ms ≤ 200; omega⟩
    have hoU' : M.up.Ok := by rw [← eU]; exact hoU
    suffices hrest : ∀ S7, KpS S5 S7 → r2 (dEnd P) [some (.obj p), some (.tup [.int b, .lst (ws.map .int), .int v, .lst (ms.map .int), .int m]), some (.int d), some (.int b), some (.lst (ws.map .int)), some (.int v), some (.lst (ms.map .int)), some (.int m), some (.obj a), some (.obj l), some (.int L2), some (.lst (sg.map .int)), some (.int k), none, some (.lst ((tuW ws xs sg k).map .int)), none, some (.tup [.int b, .lst ((tuW ws xs sg k).map .int), .int (v * k), .lst ((tuM ms xs).map .int), .int m]), none, none, none, none, none, none] S7 by
      by_cases c : 0 < d
      · simp only [c, reduceIte]
        refine ⟨mulS (by omega), b, v * b, m, ws, ms, rfl, hw, hoU, hok.m0, by rw [eU]; exact few1.up ho1 hoU' hTW, fun L3 S6 ⟨R3, hR3⟩ hmax3 kp6 => ?_⟩
        rw [eU] at hR3 hmax3
        have e3 : L3 = L2 - 1 := by
          have q1 := hmax1 R3 (L3 + 1) ((Mz.up_rc ho1 hoU' hTW).mp hR3)
          have q2 := hmax3 R (L2 - 1) ((Mz.up_rc ho1 hoU' hTW).mpr (by rwa [show L2 - 1 + 1 = L2 by omega]))
          omega
        subst e3
        walk_at "dg7"
        exact hrest S6 kp6
      · simp only [c, reduceIte]
        exact hrest S5 fun _ _ e => e
    intro S7 kp7
    subst hr2
    have ha7 : S7 a = some (.lst ((natsI xs).map .int)) := kp7 _ _ (kp5 _ _ ha4)
    walk_at "dg7"
    refine ⟨b, v, m, ws, ms, 2000, rfl, hw, ho, hok.m0, few, by decide, fun rs n3 R4 L4 S8 hrow hn3 hcT hledr hmax4 kp8 => ?_⟩
    rw [← hM] at hledr hmax4
    have e4 : L4 = L2 := by
      have q1 := hmax1 R4 L4 ⟨_, hcT, hledr⟩
      have q2 := hmax4 R L2 hR1
      omega
    subst e4
    have ha8 : S8 a = some (.lst ((natsI xs).map .int)) := kp8 _ _ ha7
    have hrl := hrow.l
    simp only [ha8]
    refine lc_ord (fun i => .tup (((rs.getD i []).map fun f => sg.getD i 0 * f).map .int)) (by omega) (by first | exact ha8 | rfl) (fun i hi => ⟨_, rfl, fun Q q => ?_⟩) ?_
    · have il := hxi i hi
      unfold rowsD
      walk_at "dg7"
      have il2 : i < rs.length := by omega
      have ri : atI (rs.map fun r => D.tup (r.map .int)) (i : Int) = some (.tup ((rs.getD i []).map .int)) := by
        rw [atI_at (by omega) (by rw [List.length_map]; omega), List.getElem?_map, show ((i : Int)).toNat = i by omega, List.getElem?_eq_getElem il2, List.getD_eq_getElem?_getD, List.getElem?_eq_getElem il2]
        rfl
      have rn : (rs.getD i []).length = n3 := by
        rw [List.getD_eq_getElem?_getD, List.getElem?_eq_getElem il2]
        exact hrow.n _ (List.getElem_mem _)
      rw [ri]
      dsimp only
      refine lc_mapA D.int (fun f => .int (sg.getD i 0 * f)) (by omega) (fun f hf => ⟨_, rfl, fun Q2 q2 => ?_⟩) ?_
      · have hs := tu.s i il
        walk_at "dg7"
        rw [atI_nat (l := sg) (by omega)]
        exact ⟨mulS (by omega), q2⟩
      rw [show ((rs.getD i []).map fun f => D.int (sg.getD i 0 * f)) = ((rs.getD i []).map fun f => sg.getD i 0 * f).map D.int by rw [List.map_map]; rfl]
      walk_at "dg7"
      exact q
    have er : xs.map (fun i => D.tup (((rs.getD i []).map fun f => sg.getD i 0 * f).map .int)) = (tuR rs xs sg).map fun r => D.tup (r.map .int) := by unfold tuR; rw [List.map_map]; rfl
    rw [er]
    walk_at "dg7"
    have ml : 1 ≤ ms.length := by omega
    have hrow' : RowsAt (tuM ms xs) (tuR rs xs sg) n3 := tu_rows (by rw [← hl]; exact tu) hrow
    have tame : ∀ (ms' : List Int) (rs' : List (List Int)), ms'.length ≤ 4 → RowsAt ms' rs' n3 → TameN 2000 (rowsD rs') := fun ms' rs' h4 hr => ⟨by rw [List.length_map, hr.l]; omega, fun d hd => by
      obtain ⟨r, hr2, rfl⟩ := List.mem_map.mp hd
      refine ⟨by rw [List.length_map, hr.n r hr2]; omega, fun e he => ?_⟩
      obtain ⟨x, _, rfl⟩ := List.mem_map.mp he
      trivial⟩
    refine ⟨b, v, m, _, ws, ms, _, rfl, tame ms rs (by omega) hrow, hw, ho, hok.m0, fun k1 S9 kp9 hk1 => ?_⟩
    rw [← hM] at hk1
    rw [shown_iff ml hrow hledr] at hk1
    have ha9 : S9 a = some (.lst ((natsI xs).map .int)) := kp9 _ _ ha8
    refine ⟨mulS (by omega), ?_⟩
    simp only [ha9]
    refine lc_ord (fun i => .int (ms.getD i 0)) (by omega) (by first | exact ha9 | rfl) (fun i hi => ⟨_, rfl, fun Q q => ?_⟩) ?_
    · have il := hxi i hi
      walk_at "dg7"
      rw [atI_nat (l := ms) (by omega)]
      exact q
    rw [em]
    dsimp only
    have tml : (tuM ms xs).length = ws.length := by unfold tuM; rw [List.length_map]; exact xl
    refine ⟨b, v * k, m, _, _, tuM ms xs, _, rfl, tame _ _ (by omega) hrow', tok, ho', hok.m0, fun k2 S10 kp10 hk2 => ?_⟩
    rw [eM] at hk2
    have hled2 : (M.by k).Led (cols (tuW ws xs sg k) (tuR rs xs sg) n3) (R4 * k) L4 := by
      rw [tu_cols (by omega) tu]
      exact Mz.by_led kk0 hledr
    have hk2 : k2 = true ↔ Shown (M.by k) (tuW ws xs sg k) (tuM ms xs) (if L4 > 0 then L4 else 0) (rowsD (tuR rs xs sg)) := hk2
    rw [shown_iff (by omega) hrow' hled2] at hk2
    have e12 : k1 = k2 := by rw [Bool.eq_iff_iff, hk1, hk2]
    subst e12
    have e13 : k1 = decide (0 ≤ L4) := by
      rw [Bool.eq_iff_iff, hk1, decide_eq_true_iff]
      split <;> omega
    walk_at "dg7"
    rw [← e13]
    simp only [decide_true, reduceIte]
    have hfin : Dk S S10 p (n + 1000) := by
      have h1 := hD2.trans hD4
      exact (h1.trans (kps_dk h1.1 fun c x e => kp10 c x (kp9 c x (kp8 c x (kp7 c x (kp5 c x e)))))).mono (by omega)
    exact h S10 hfin
theorem len_law : ∀ ds S P, sp_law ds S P → ds.length = 1 := law_len
theorem vc_law : goal_law := by
  rintro x0 S P ⟨ns, e, hn, h⟩
  cases e
  unfold rd_law
  walk_at "dg7"
  rw [List.length_map]
  have e1 : 1 ≤ (if (if (2 : Int) < (ns.length : Int) then (2 : Int) else (ns.length : Int)) > 1 then (if (2 : Int) < (ns.length : Int) then (2 : Int) else (ns.length : Int)) else 1) ∧ (if (if (2 : Int) < (ns.length : Int) then (2 : Int) else (ns.length : Int)) > 1 then (if (2 : Int) < (ns.length : Int) then (2 : Int) else (ns.length : Int)) else 1) ≤ 2 := by split <;> split <;> omega
  generalize (if (if (2 : Int) < (ns.length : Int) then (2 : Int) else (ns.length : Int)) > 1 then (if (2 : Int) < (ns.length : Int) then (2 : Int) else (ns.length : Int)) else 1) = c at *
  refine ⟨by omega, by omega, fun i ρ S' => ∃ z1 z2 z3 z4 z5, ρ = [some (.ext (ns.map .int)), z1, z2, z3, z4, z5], ⟨none, none, none, none, none, rfl⟩, ?_, ?_⟩
  · rintro i d ρ S2 hd ⟨z1, z2, z3, z4, z5, rfl⟩
    obtain ⟨hi, rfl⟩ := rng_get hd
    refine ⟨_, rfl, ?_⟩
    walk_at "dg7"
    refine ⟨ns, _, rfl, by omega, by omega, fun p S3 hp hd3 => ?_⟩
    have hbx := hd3.box
    walk_at "dg7"
    refine ⟨by decide, by decide, fun j ρ S' => BoxAt S' p (2000 * j) ∧ ∃ z3 z4 z5, ρ = [some (.ext (ns.map .int)), some (.int (0 + (i : Int))), some (.obj p), z3, z4, z5], ⟨hbx, _, _, _, rfl⟩, ?_, ?_⟩
    · rintro j d ρ S4 hd2 ⟨hb4, y3, y4, y5, rfl⟩
      obtain ⟨hj, rfl⟩ := rng_get hd2
      have hj2 : j < 2 := hj
      refine ⟨_, rfl, ?_⟩
      unfold rd_law_1
      walk_at "dg7"
      refine ofK (ns := [2, 2, 3, 4, 10]) (fun z => 2 ≤ z ∧ z ≤ 10) (.refl hb4) (by decide) (by decide) (by omega) (fun z hz => ?_) fun b S5 hbb hD5 => ?_
      · simp only [List.mem_cons, List.not_mem_nil, or_false] at hz; omega
      refine ⟨p, _, b, rfl, hD5.1, by omega, hbb.1, hbb.2, fun v m ws ms S6 hok hD6 => ?_⟩
      walk_at "dg7"
      refine ⟨b, v, m, ws, ms, rfl, hok, fun d hlp hd8 => ?_⟩
      refine ⟨b, v, m, ws, ms, d, rfl, hok, hd8, ?_⟩
      walk_at "dg7"
      cases hs : smallB b v m ws ms d with
      | false =>
        simp only [Bool.false_eq_true, reduceIte]
        exact ⟨hD6.1.mono (by omega), _, _, _, rfl⟩
      | true =>
        simp only [reduceIte]
        refine ⟨p, _, b, v, m, ws, ms, d, rfl, hD6.1, by omega, hok, hlp, hs, fun S7 hD7 => ?_⟩
        walk_at "dg7"
        exact ⟨hD7.1.mono (by omega), _, _, _, rfl⟩
    · rintro ρ S4 ⟨hb4, y3, y4, y5, rfl⟩
      exact ⟨_, _, _, _, _, rfl⟩
  · rintro ρ S2 ⟨z1, z2, z3, z4, z5, rfl⟩
    walk_at "dg7"
    exact h S2
end K31

namespace K31
@[elab_as_elim] theorem us_1 {α : Type} {p : List α → Prop} (us : List α) (hl : us.length = 1) (h : ∀ a0, p [a0]) : p us := by
  match us, hl with
  | [a0], _ => exact h a0
@[elab_as_elim] theorem us_2 {α : Type} {p : List α → Prop} (us : List α) (hl : us.length = 2) (h : ∀ a0 a1, p [a0, a1]) : p us := by
  match us, hl with
  | [a0, a1], _ => exact h a0 a1
@[elab_as_elim] theorem us_3 {α : Type} {p : List α → Prop} (us : List α) (hl : us.length = 3) (h : ∀ a0 a1 a2, p [a0, a1, a2]) : p us := by
  match us, hl with
  | [a0, a1, a2], _ => exact h a0 a1 a2
@[elab_as_elim] theorem us_4 {α : Type} {p : List α → Prop} (us : List α) (hl : us.length = 4) (h : ∀ a0 a1 a2 a3, p [a0, a1, a2, a3]) : p us := by
  match us, hl with
  | [a0, a1, a2, a3], _ => exact h a0 a1 a2 a3
@[elab_as_elim] theorem us_5 {α : Type} {p : List α → Prop} (us : List α) (hl : us.length = 5) (h : ∀ a0 a1 a2 a3 a4, p [a0, a1, a2, a3, a4]) : p us := by
  match us, hl with
  | [a0, a1, a2, a3, a4], _ => exact h a0 a1 a2 a3 a4
@[elab_as_elim] theorem us_6 {α : Type} {p : List α → Prop} (us : List α) (hl : us.length = 6) (h : ∀ a0 a1 a2 a3 a4 a5, p [a0, a1, a2, a3, a4, a5]) : p us := by
  match us, hl with
  | [a0, a1, a2, a3, a4, a5], _ => exact h a0 a1 a2 a3 a4 a5
@[elab_as_elim] theorem us_7 {α : Type} {p : List α → Prop} (us : List α) (hl : us.length = 7) (h : ∀ a0 a1 a2 a3 a4 a5 a6, p [a0, a1, a2, a3, a4, a5, a6]) : p us := by
  match us, hl with
  | [a0, a1, a2, a3, a4, a5, a6], _ => exact h a0 a1 a2 a3 a4 a5 a6
@[elab_as_elim] theorem us_8 {α : Type} {p : List α → Prop} (us : List α) (hl : us.length = 8) (h : ∀ a0 a1 a2 a3 a4 a5 a6 a7, p [a0, a1, a2, a3, a4, a5, a6, a7]) : p us := by
  match us, hl with
  | [a0, a1, a2, a3, a4, a5, a6, a7], _ => exact h a0 a1 a2 a3 a4 a5 a6 a7
open PySem PySem.Spec PyProof.Rows L2 DL Lb
def topS (i : Nat) : Stmt := PySem.Challenge.pw_firstfigures_k31_worst_lags_that_are_one.main.body.getD i (.Pass ⟨0, 0, 0, 0⟩)
abbrev s_is_number : Stmt := topS 3
theorem sc_is_number : FnScope ["thing"] ["thing"] (defScope s_is_number) := ⟨rfl, rfl, rfl, by decide +kernel, rfl, by decide +kernel, by decide +kernel⟩
abbrev s_common : Stmt := topS 4
theorem sc_common : FnScope ["one", "other"] ["one", "other"] (defScope s_common) := ⟨rfl, rfl, rfl, by decide +kernel, rfl, by decide +kernel, by decide +kernel⟩
abbrev s_frac : Stmt := topS 5
theorem sc_frac : FnScope ["top", "bottom", "by"] ["top", "bottom"] (defScope s_frac) := ⟨rfl, rfl, rfl, by decide +kernel, rfl, by decide +kernel, by decide +kernel⟩
abbrev s_plus : Stmt := topS 6
theorem sc_plus : FnScope ["one", "other"] ["one", "other"] (defScope s_plus) := ⟨rfl, rfl, rfl, by decide +kernel, rfl, by decide +kernel, by decide +kernel⟩
abbrev s_times : Stmt := topS 7
theorem sc_times : FnScope ["one", "other"] ["one", "other"] (defScope s_times) := ⟨rfl, rfl, rfl, by decide +kernel, rfl, by decide +kernel, by decide +kernel⟩
abbrev s_is_below : Stmt := topS 8
theorem sc_is_below : FnScope ["one", "other"] ["one", "other"] (defScope s_is_below) := ⟨rfl, rfl, rfl, by decide +kernel, rfl, by decide +kernel, by decide +kernel⟩
abbrev s_power : Stmt := topS 9
theorem sc_power : FnScope ["base", "many", "found", "turn"] ["base", "many"] (defScope s_power) := ⟨rfl, rfl, rfl, by decide +kernel, rfl, by decide +kernel, by decide +kernel⟩
abbrev s_width_of : Stmt := topS 12
theorem sc_width_of : FnScope ["base", "kind", "sources", "word", "mosts", "begin", "most", "weight", "begins", "by"] ["base", "kind", "sources"] (defScope s_width_of) := ⟨rfl, rfl, rfl, by decide +kernel, rfl, by decide +kernel, by decide +kernel⟩
abbrev s_least_power : Stmt := topS 13
theorem sc_least_power : FnScope ["base", "room", "need", "lag"] ["base", "room", "need"] (defScope s_least_power) := ⟨rfl, rfl, rfl, by decide +kernel, rfl, by decide +kernel, by decide +kernel⟩
abbrev s_told_lag : Stmt := topS 14
theorem sc_told_lag : FnScope ["base", "kind", "sources", "begin", "most"] ["base", "kind", "sources", "begin", "most"] (defScope s_told_lag) := ⟨rfl, rfl, rfl, by decide +kernel, rfl, by decide +kernel, by decide +kernel⟩
abbrev s_summed : Stmt := topS 15
theorem sc_summed : FnScope ["weights", "mosts", "found", "weight", "most", "every", "one", "some", "figure"] ["weights", "mosts"] (defScope s_summed) := ⟨rfl, rfl, rfl, by decide +kernel, rfl, by decide +kernel, by decide +kernel⟩
abbrev s_Late_init : Stmt := inClass (topS 16) 0
theorem sc_Late_init : FnScope ["self", "base", "weights", "over", "mosts", "most", "weight", "one"] ["self", "base", "weights", "over", "mosts", "most"] (defScope s_Late_init) := ⟨rfl, rfl, rfl, by decide +kernel, rfl, by decide +kernel, by decide +kernel⟩
abbrev s_Late_step_at : Stmt := inClass (topS 16) 1
theorem sc_Late_step_at : FnScope ["self", "rest", "lead"] ["self", "rest", "lead"] (defScope s_Late_step_at) := ⟨rfl, rfl, rfl, by decide +kernel, rfl, by decide +kernel, by decide +kernel⟩
abbrev s_Late_figure : Stmt := inClass (topS 16) 2
theorem sc_Late_figure : FnScope ["self", "rest", "lead", "here", "step", "wide", "room", "least", "most"] ["self", "rest", "lead"] (defScope s_Late_figure) := ⟨rfl, rfl, rfl, by decide +kernel, rfl, by decide +kernel, by decide +kernel⟩
abbrev s_Late_settled : Stmt := inClass (topS 16) 3
theorem sc_Late_settled : FnScope ["self", "rest", "lead", "figure", "here", "step", "wide"] ["self", "rest", "lead"] (defScope s_Late_settled) := ⟨rfl, rfl, rfl, by decide +kernel, rfl, by decide +kernel, by decide +kernel⟩
abbrev s_Late_first : Stmt := inClass (topS 16) 4
theorem sc_Late_first : FnScope ["self", "lead"] ["self"] (defScope s_Late_first) := ⟨rfl, rfl, rfl, by decide +kernel, rfl, by decide +kernel, by decide +kernel⟩
abbrev s_Late_behind : Stmt := inClass (topS 16) 5
theorem sc_Late_behind : FnScope ["self", "state", "value", "rest", "lead"] ["self", "state", "value"] (defScope s_Late_behind) := ⟨rfl, rfl, rfl, by decide +kernel, rfl, by decide +kernel, by decide +kernel⟩
abbrev s_Late_states : Stmt := inClass (topS 16) 6
theorem sc_Late_states : FnScope ["self", "found", "waiting", "state", "value", "other"] ["self"] (defScope s_Late_states) := ⟨rfl, rfl, rfl, by decide +kernel, rfl, by decide +kernel, by decide +kernel⟩
abbrev s_worst_lag : Stmt := topS 17
theorem sc_worst_lag : FnScope ["base", "weights", "over", "mosts", "most", "rest", "lead"] ["base", "weights", "over", "mosts", "most"] (defScope s_worst_lag) := ⟨rfl, rfl, rfl, by decide +kernel, rfl, by decide +kernel, by decide +kernel⟩
abbrev s_worst_rows : Stmt := topS 18
theorem sc_worst_rows : FnScope ["base", "weights", "over", "mosts", "most", "late", "found", "most_lead", "rest", "lead", "path", "sums", "at", "value"] ["base", "weights", "over", "mosts", "most"] (defScope s_worst_rows) := ⟨rfl, rfl, rfl, by decide +kernel, rfl, by decide +kernel, by decide +kernel⟩
abbrev s_are_rows : Stmt := topS 19
theorem sc_are_rows : FnScope ["mosts", "thing", "row", "pairs", "most", "figure"] ["mosts", "thing"] (defScope s_are_rows) := ⟨rfl, rfl, rfl, by decide +kernel, rfl, by decide +kernel, by decide +kernel⟩
abbrev s_shows_worst : Stmt := topS 20
theorem sc_shows_worst : FnScope ["base", "weights", "over", "mosts", "most", "lag", "thing", "late", "state", "at", "weight", "row"] ["base", "weights", "over", "mosts", "most", "lag", "thing"] (defScope s_shows_worst) := ⟨rfl, rfl, rfl, by decide +kernel, rfl, by decide +kernel, by decide +kernel⟩
abbrev s_Lcell_at : Stmt := topS 22
theorem sc_Lcell_at : FnScope ["_law_script", "_law_k"] ["_law_script", "_law_k"] (defScope s_Lcell_at) := ⟨rfl, rfl, rfl, by decide +kernel, rfl, by decide +kernel, by decide +kernel⟩
abbrev s_Lbox : Stmt := topS 23
theorem sc_Lbox : FnScope ["_law_script", "_law_k", "_law_core"] ["_law_script", "_law_k"] (defScope s_Lbox) := ⟨rfl, rfl, rfl, by decide +kernel, rfl, by decide +kernel, by decide +kernel⟩
abbrev s_Ltake : Stmt := topS 24
theorem sc_Ltake : FnScope ["_law_box_here", "_law_size", "_law_found", "_law_once", "_law_twice"] ["_law_box_here", "_law_size"] (defScope s_Ltake) := ⟨rfl, rfl, rfl, by decide +kernel, rfl, by decide +kernel, by decide +kernel⟩
abbrev s_Lof : Stmt := topS 25
theorem sc_Lof : FnScope ["_law_box_here", "_law_some"] ["_law_box_here", "_law_some"] (defScope s_Lof) := ⟨rfl, rfl, rfl, by decide +kernel, rfl, by decide +kernel, by decide +kernel⟩
abbrev s_Lpow : Stmt := topS 26
theorem sc_Lpow : FnScope ["_law_base", "_law_size", "_law_found", "_law_turn"] ["_law_base", "_law_size"] (defScope s_Lpow) := ⟨rfl, rfl, rfl, by decide +kernel, rfl, by decide +kernel, by decide +kernel⟩
abbrev s_Lsum : Stmt := topS 27
theorem sc_Lsum : FnScope ["_law_box_here", "_law_base", "_law_least", "_law_many", "_law_weights", "_law_k", "_law_sizes", "_law_weight", "_law_size"] ["_law_box_here", "_law_base"] (defScope s_Lsum) := ⟨rfl, rfl, rfl, by decide +kernel, rfl, by decide +kernel, by decide +kernel⟩
abbrev s_Ltold : Stmt := topS 28
theorem sc_Ltold : FnScope ["_law_some", "_law_base", "_law_weights", "_law_under", "_law_sizes", "_law_top", "_law_size"] ["_law_some"] (defScope s_Ltold) := ⟨rfl, rfl, rfl, by decide +kernel, rfl, by decide +kernel, by decide +kernel⟩
abbrev s_Lis_small : Stmt := topS 29
theorem sc_Lis_small : FnScope ["_law_some", "_law_told_here", "_law_base", "_law_weights", "_law_under", "_law_sizes", "_law_top", "_law_wide", "_law_weight", "_law_size", "_law_rests"] ["_law_some", "_law_told_here"] (defScope s_Lis_small) := ⟨rfl, rfl, rfl, by decide +kernel, rfl, by decide +kernel, by decide +kernel⟩
abbrev s_Lworst : Stmt := topS 30
theorem sc_Lworst : FnScope ["_law_some", "_law_base", "_law_weights", "_law_under", "_law_sizes", "_law_top"] ["_law_some"] (defScope s_Lworst) := ⟨rfl, rfl, rfl, by decide +kernel, rfl, by decide +kernel, by decide +kernel⟩
abbrev s_Lright : Stmt := topS 31
theorem sc_Lright : FnScope ["_law_box_here", "_law_some", "_law_told_here", "_law_base", "_law_weights", "_law_under", "_law_sizes", "_law_top", "_law_order", "_law_left", "_law_found", "_law_signs", "_law_many", "_law_weight", "_law_others", "_law_at", "_law_turned_sum", "_law_rows", "_law_others_rows", "_law_lag", "_law_figure", "_law_one", "_law_other"] ["_law_box_here", "_law_some", "_law_told_here"] (defScope s_Lright) := ⟨rfl, rfl, rfl, by decide +kernel, rfl, by decide +kernel, by decide +kernel⟩
abbrev s_law : Stmt := topS 32
theorem sc_law : FnScope ["_law_script", "_law_k", "_law_box_here", "_law_turn", "_law_some", "_law_told_here"] ["_law_script"] (defScope s_law) := ⟨rfl, rfl, rfl, by decide +kernel, rfl, by decide +kernel, by decide +kernel⟩
/-- the built-in names that the top leaves as they are -/
structure Tx [CT] (K : PySem.W.Frag) (mg : Str → Option Value) : Prop where
  k_Late : Cls K (CT.at_ 2)
  a_Late_own_base : NoAttr K (CT.at_ 2) "own_base"
  a_Late_own_most : NoAttr K (CT.at_ 2) "own_most"
  a_Late_own_over : NoAttr K (CT.at_ 2) "own_over"
  a_Late_own_sums : NoAttr K (CT.at_ 2) "own_sums"
  a_Late_own_wide : NoAttr K (CT.at_ 2) "own_wide"
  n_abs : mg "abs" = none
  n_all : mg "all" = none
  n_bool : mg "bool" = none
  n_int : mg "int" = none
  n_isinstance : mg "isinstance" = none
  n_len : mg "len" = none
  n_list : mg "list" = none
  n_max : mg "max" = none
  n_min : mg "min" = none
  n_range : mg "range" = none
  n_sorted : mg "sorted" = none
  n_sum : mg "sum" = none
  n_tuple : mg "tuple" = none
  n_zip : mg "zip" = none
  c_MOST_STATES : ∃ t, mg "MOST_STATES" = some (.int 2000 t)
section
variable [CT]
variable {P : Program} {w : World} {K : PySem.W.Frag} {mg : Str → Option Value} {base : Heap}
theorem ok_is_number {f : Addr} {fd : FuncData} (F : Fun K "is_number" "is_number" s_is_number f fd) (T : Tx K mg) (vc : goal_is_number) (len : ∀ ds S P, sp_is_number ds S P → ds.length = 1)
     : FnD P w K mg base 1 f fd ["thing"] sp_is_number :=
  fn_d F sc_is_number len fun cdv A outer s H E hr => ⟨rd_is_number, (have nd := sc_is_number.nd
  (jss_one
  (js_ret (je_and (je_isi T.n_isinstance (ja_cons (je_var 0) (ja_cons (je_tyInt T.n_int) ja_nil))) (je_one (je_not (je_isi T.n_isinstance (ja_cons (je_var 0) (ja_cons (je_tyBool T.n_bool) ja_nil))))))))), Vs1 len vc⟩
theorem ok_common {f : Addr} {fd : FuncData} (F : Fun K "common" "common" s_common f fd) (T : Tx K mg) (vc : goal_common) (len : ∀ ds S P, sp_common ds S P → ds.length = 2)
     : FnD P w K mg base 1 f fd ["one", "other"] sp_common :=
  fn_d F sc_common len fun cdv A outer s H E hr => ⟨rd_common, (have nd := sc_common.nd
  (jss_cons
  (js_while PassesOwn.never (jt_gt (je_var 1) je_int) (jss_one
  (js_par 0 1 rfl nd rfl rfl (by decide) rfl rfl (ja_cons (je_var 1) (ja_cons (je_mod (je_var 0) (je_var 1)) ja_nil)) (by rfl)))) (jss_one
  (js_ret (je_var 0))))), Vs2 len vc⟩
theorem ok_frac {f : Addr} {fd : FuncData} {dvs : List V} {kws : List (Str × V)} (F : FunD K "frac" "frac" (defArgs s_frac) (defBody s_frac) (defScope s_frac) dvs kws f fd) (T : Tx K mg) (vc : goal_frac) (len : ∀ ds S P, sp_frac ds S P → ds.length = 2)
    {f_common : Addr} {fd_common : FuncData} (G_common : Does P w K mg base 1 "common" ["one", "other"] f_common fd_common sp_common) : FnD P w K mg base 2 f fd ["top", "bottom"] sp_frac :=
  fn_dD F sc_frac len fun cdv A outer s H E hr => ⟨rd_frac, (have nd := sc_frac.nd
  (jss_cons
  (js_set 2 nd rfl (by first | exact Or.inl rfl | exact Or.inr rfl) (je_f G_common hr (ja_cons (je_abs T.n_abs (ja_cons (je_var 0) ja_nil)) (ja_cons (je_abs T.n_abs (ja_cons (je_var 1) ja_nil)) ja_nil)))) (jss_cons
  (js_set 2 nd rfl (by first | exact Or.inl rfl | exact Or.inr rfl) (je_ifE (jt_gt (je_var 1) je_int) (je_var 2) (je_neg (je_var 2)))) (jss_one
  (js_ret (je_tup (ja_cons (je_fdiv (je_var 0) (je_var 2)) (ja_cons (je_fdiv (je_var 1) (je_var 2)) ja_nil)))))))), Vs2 len vc⟩
theorem ok_plus {f : Addr} {fd : FuncData} (F : Fun K "plus" "plus" s_plus f fd) (T : Tx K mg) (vc : goal_plus) (len : ∀ ds S P, sp_plus ds S P → ds.length = 2)
    {f_frac : Addr} {fd_frac : FuncData} (G_frac : Does P w K mg base 2 "frac" ["top", "bottom"] f_frac fd_frac sp_frac) : FnD P w K mg base 3 f fd ["one", "other"] sp_plus :=
  fn_d F sc_plus len fun cdv A outer s H E hr => ⟨rd_plus, (have nd := sc_plus.nd
  (jss_one
  (js_ret (je_f G_frac hr (ja_cons (je_add (je_mul (je_ix (je_var 0) je_int) (je_ix (je_var 1) je_int)) (je_mul (je_ix (je_var 1) je_int) (je_ix (je_var 0) je_int))) (ja_cons (je_mul (je_ix (je_var 0) je_int) (je_ix (je_var 1) je_int)) ja_nil)))))), Vs2 len vc⟩
theorem ok_times {f : Addr} {fd : FuncData} (F : Fun K "times" "times" s_times f fd) (T : Tx K mg) (vc : goal_times) (len : ∀ ds S P, sp_times ds S P → ds.length = 2)
    {f_frac : Addr} {fd_frac : FuncData} (G_frac : Does P w K mg base 2 "frac" ["top", "bottom"] f_frac fd_frac sp_frac) : FnD P w K mg base 3 f fd ["one", "other"] sp_times :=
  fn_d F sc_times len fun cdv A outer s H E hr => ⟨rd_times, (have nd := sc_times.nd
  (jss_one
  (js_ret (je_f G_frac hr (ja_cons (je_mul (je_ix (je_var 0) je_int) (je_ix (je_var 1) je_int)) (ja_cons (je_mul (je_ix (je_var 0) je_int) (je_ix (je_var 1) je_int)) ja_nil)))))), Vs2 len vc⟩
theorem ok_is_below {f : Addr} {fd : FuncData} (F : Fun K "is_below" "is_below" s_is_below f fd) (T : Tx K mg) (vc : goal_is_below) (len : ∀ ds S P, sp_is_below ds S P → ds.length = 2)
     : FnD P w K mg base 1 f fd ["one", "other"] sp_is_below :=
  fn_d F sc_is_below len fun cdv A outer s H E hr => ⟨rd_is_below, (have nd := sc_is_below.nd
  (jss_one
  (js_ret (je_lt (je_mul (je_ix (je_var 0) je_int) (je_ix (je_var 1) je_int)) (je_mul (je_ix (je_var 1) je_int) (je_ix (je_var 0) je_int)))))), Vs2 len vc⟩
theorem ok_power {f : Addr} {fd : FuncData} (F : Fun K "power" "power" s_power f fd) (T : Tx K mg) (vc : goal_power) (len : ∀ ds S P, sp_power ds S P → ds.length = 2)
     : FnD P w K mg base 1 f fd ["base", "many"] sp_power :=
  fn_d F sc_power len fun cdv A outer s H E hr => ⟨rd_power, (have nd := sc_power.nd
  (jss_cons
  (js_set 2 nd rfl (by first | exact Or.inl rfl | exact Or.inr rfl) je_int) (jss_cons
  (js_for PassesOwn.never rfl (ji_range1 T.n_range (ja_cons (je_abs T.n_abs (ja_cons (je_var 1) ja_nil)) ja_nil)) (jg_name 3 nd rfl (by first | exact Or.inl rfl | exact Or.inr rfl)) (jss_one
  (js_imul 2 nd rfl (by first | exact Or.inl rfl | exact Or.inr rfl) (je_var 0)))) (jss_one
  (js_ret (je_ifE (jt_ge (je_var 1) je_int) (je_tup (ja_cons (je_var 2) (ja_cons je_int ja_nil))) (je_tup (ja_cons je_int (ja_cons (je_var 2) ja_nil))))))))), Vs2 len vc⟩
theorem ok_width_of {f : Addr} {fd : FuncData} (F : Fun K "width_of" "width_of" s_width_of f fd) (T : Tx K mg) (vc : goal_width_of) (len : ∀ ds S P, sp_width_of ds S P → ds.length = 3)
    {f_frac : Addr} {fd_frac : FuncData} (G_frac : Does P w K mg base 2 "frac" ["top", "bottom"] f_frac fd_frac sp_frac)
    {f_power : Addr} {fd_power : FuncData} (G_power : Does P w K mg base 1 "power" ["base", "many"] f_power fd_power sp_power)
    {f_times : Addr} {fd_times : FuncData} (G_times : Does P w K mg base 3 "times" ["one", "other"] f_times fd_times sp_times)
    {f_plus : Addr} {fd_plus : FuncData} (G_plus : Does P w K mg base 3 "plus" ["one", "other"] f_plus fd_plus sp_plus) : FnD P w K mg base 4 f fd ["base", "kind", "sources"] sp_width_of :=
  fn_d F sc_width_of len fun cdv A outer s H E hr => ⟨rd_width_of, (have nd := sc_width_of.nd
  (jss_cons
  (js_par 3 4 rfl nd rfl rfl (by decide) rfl rfl (ja_cons (je_ix (je_var 1) je_int) (ja_cons (je_lc [("begin", 5), ("most", 6)] rfl nd (ji_seq (je_var 2)) (blkOk_by (N := ["base", "kind", "sources", "word", "mosts", "begin", "most", "weight", "begins", "by"]) (sc := defScope s_width_of) (by decide +kernel)) (by decide) (fun _ _ _ _ _ => (jg_tup rfl (jgs_cons (jg_name 5 nd rfl (by first | exact Or.inl rfl | exact Or.inr rfl)) (jgs_cons (jg_name 6 nd rfl (by first | exact Or.inl rfl | exact Or.inr rfl)) jgs_nil)))) (fun _ _ _ _ _ => jts_nil) (fun _ _ _ _ _ => (je_var 6))) ja_nil)) (by rfl)) (jss_cons
  (js_if (jt_eq hr (je_var 3) je_str) (jss_one
  (js_ret (je_f G_frac hr (ja_cons (je_sum T.n_sum (ja_cons (je_lc [("weight", 7), ("most", 6)] rfl nd (ji_zipS T.n_zip (ja_cons (je_ix (je_var 1) je_int) (ja_cons (je_var 4) ja_nil))) (blkOk_by (N := ["base", "kind", "sources", "word", "mosts", "begin", "most", "weight", "begins", "by"]) (sc := defScope s_width_of) (by decide +kernel)) (by decide) (fun _ _ _ _ _ => (jg_tup rfl (jgs_cons (jg_name 7 nd rfl (by first | exact Or.inl rfl | exact Or.inr rfl)) (jgs_cons (jg_name 6 nd rfl (by first | exact Or.inl rfl | exact Or.inr rfl)) jgs_nil)))) (fun _ _ _ _ _ => jts_nil) (fun _ _ _ _ _ => (je_mul (je_abs T.n_abs (ja_cons (je_var 7) ja_nil)) (je_var 6)))) ja_nil)) (ja_cons (je_ix (je_var 1) je_int) ja_nil))))) jss_nil) (jss_cons
  (js_if (jt_in (je_var 3) (je_tup (ja_cons je_str (ja_cons je_str ja_nil)))) (jss_one
  (js_ret (je_tup (ja_cons (je_maxL T.n_max (ja_cons (je_var 4) ja_nil)) (ja_cons je_int ja_nil))))) jss_nil) (jss_cons
  (js_setLc 8 [("begin", 5), ("most", 6)] rfl nd rfl rfl (sw_true rfl rfl rfl (by decide +kernel)) (ji_seq (je_var 2)) (blkOk_by (N := ["base", "kind", "sources", "word", "mosts", "begin", "most", "weight", "begins", "by"]) (sc := defScope s_width_of) (by decide +kernel)) (by decide) (fun _ _ _ _ _ => (jg_tup rfl (jgs_cons (jg_name 5 nd rfl (by first | exact Or.inl rfl | exact Or.inr rfl)) (jgs_cons (jg_name 6 nd rfl (by first | exact Or.inl rfl | exact Or.inr rfl)) jgs_nil)))) (fun _ _ _ _ _ => jts_nil) (fun _ _ _ _ _ => (je_f G_power hr (ja_cons (je_var 0) (ja_cons (je_var 5) ja_nil))))) (jss_cons
  (js_if (jt_eq hr (je_var 3) je_str) (jss_one
  (js_ret (je_f G_times hr (ja_cons (je_f G_frac hr (ja_cons (je_mul (je_ix (je_var 4) je_int) (je_ix (je_var 4) je_int)) (ja_cons (je_sub (je_var 0) je_int) ja_nil))) (ja_cons (je_f G_plus hr (ja_cons (je_ix (je_var 8) je_int) (ja_cons (je_ix (je_var 8) je_int) ja_nil))) ja_nil))))) jss_nil) (jss_cons
  (js_set 9 nd rfl (by first | exact Or.inl rfl | exact Or.inr rfl) (je_f G_power hr (ja_cons (je_var 0) (ja_cons (je_ix (je_var 1) je_int) ja_nil)))) (jss_one
  (js_ret (je_f G_times hr (ja_cons (je_f G_times hr (ja_cons (je_tup (ja_cons (je_ix (je_var 4) je_int) (ja_cons je_int ja_nil))) (ja_cons (je_var 9) ja_nil))) (ja_cons (je_f G_plus hr (ja_cons (je_tup (ja_cons je_int (ja_cons je_int ja_nil))) (ja_cons (je_f G_times hr (ja_cons (je_f G_times hr (ja_cons (je_f G_frac hr (ja_cons (je_ix (je_var 4) je_int) (ja_cons (je_sub (je_var 0) je_int) ja_nil))) (ja_cons (je_var 9) ja_nil))) (ja_cons (je_ix (je_var 8) je_int) ja_nil))) ja_nil))) ja_nil)))))))))))), Vs3 len vc⟩
theorem ok_least_power {f : Addr} {fd : FuncData} (F : Fun K "least_power" "least_power" s_least_power f fd) (T : Tx K mg) (vc : goal_least_power) (len : ∀ ds S P, sp_least_power ds S P → ds.length = 3)
    {f_is_below : Addr} {fd_is_below : FuncData} (G_is_below : Does P w K mg base 1 "is_below" ["one", "other"] f_is_below fd_is_below sp_is_below)
    {f_times : Addr} {fd_times : FuncData} (G_times : Does P w K mg base 3 "times" ["one", "other"] f_times fd_times sp_times)
    {f_power : Addr} {fd_power : FuncData} (G_power : Does P w K mg base 1 "power" ["base", "many"] f_power fd_power sp_power) : FnD P w K mg base 4 f fd ["base", "room", "need"] sp_least_power :=
  fn_d F sc_least_power len fun cdv A outer s H E hr => ⟨rd_least_power, (have nd := sc_least_power.nd
  (jss_cons
  (js_set 3 nd rfl (by first | exact Or.inl rfl | exact Or.inr rfl) je_int) (jss_cons
  (js_while PassesOwn.never (jt_val (je_f G_is_below hr (ja_cons (je_f G_times hr (ja_cons (je_f G_power hr (ja_cons (je_var 0) (ja_cons (je_var 3) ja_nil))) (ja_cons (je_tup (ja_cons (je_var 1) (ja_cons je_int ja_nil))) ja_nil))) (ja_cons (je_var 2) ja_nil)))) (jss_one
  (js_iadd 3 nd rfl (by first | exact Or.inl rfl | exact Or.inr rfl) je_int))) (jss_cons
  (js_while PassesOwn.never (jt_not (jt_val (je_f G_is_below hr (ja_cons (je_f G_times hr (ja_cons (je_f G_power hr (ja_cons (je_var 0) (ja_cons (je_sub (je_var 3) je_int) ja_nil))) (ja_cons (je_tup (ja_cons (je_var 1) (ja_cons je_int ja_nil))) ja_nil))) (ja_cons (je_var 2) ja_nil))))) (jss_one
  (js_isub 3 nd rfl (by first | exact Or.inl rfl | exact Or.inr rfl) je_int))) (jss_one
  (js_ret (je_var 3))))))), Vs3 len vc⟩
theorem ok_told_lag {f : Addr} {fd : FuncData} (F : Fun K "told_lag" "told_lag" s_told_lag f fd) (T : Tx K mg) (vc : goal_told_lag) (len : ∀ ds S P, sp_told_lag ds S P → ds.length = 5)
    {f_least_power : Addr} {fd_least_power : FuncData} (G_least_power : Does P w K mg base 4 "least_power" ["base", "room", "need"] f_least_power fd_least_power sp_least_power)
    {f_times : Addr} {fd_times : FuncData} (G_times : Does P w K mg base 3 "times" ["one", "other"] f_times fd_times sp_times)
    {f_width_of : Addr} {fd_width_of : FuncData} (G_width_of : Does P w K mg base 4 "width_of" ["base", "kind", "sources"] f_width_of fd_width_of sp_width_of) : FnD P w K mg base 5 f fd ["base", "kind", "sources", "begin", "most"] sp_told_lag :=
  fn_d F sc_told_lag len fun cdv A outer s H E hr => ⟨rd_told_lag, (have nd := sc_told_lag.nd
  (jss_cons
  (js_if (jt_eq hr (je_ix (je_var 1) je_int) je_str) (jss_one
  (js_ret (je_ix (je_var 1) je_int))) jss_nil) (jss_cons
  (js_if (jt_in (je_ix (je_var 1) je_int) (je_tup (ja_cons je_str (ja_cons je_str (ja_cons je_str ja_nil))))) (jss_one
  (js_ret (je_ifE (jt_eq hr (je_ix (je_var 1) je_int) je_str) je_int je_non))) jss_nil) (jss_one
  (js_ret (je_f G_least_power hr (ja_cons (je_var 0) (ja_cons (je_add (je_sub (je_mul je_int (je_var 4)) (je_var 0)) je_int) (ja_cons (je_f G_times hr (ja_cons (je_tup (ja_cons je_int (ja_cons je_int ja_nil))) (ja_cons (je_f G_width_of hr (ja_cons (je_var 0) (ja_cons (je_var 1) (ja_cons (je_var 2) ja_nil)))) ja_nil))) ja_nil))))))))), Vs5 len vc⟩
theorem ok_summed {f : Addr} {fd : FuncData} (F : Fun K "summed" "summed" s_summed f fd) (T : Tx K mg) (vc : goal_summed) (len : ∀ ds S P, sp_summed ds S P → ds.length = 2)
     : FnD P w K mg base 1 f fd ["weights", "mosts"] sp_summed :=
  fn_d F sc_summed len fun cdv A outer s H E hr => ⟨rd_summed, (have nd := sc_summed.nd
  (jss_cons
  (js_set 2 nd rfl (by first | exact Or.inl rfl | exact Or.inr rfl) (je_disp (jps_cons je_int (je_tup ja_nil) jps_nil))) (jss_cons
  (js_for PassesOwn.never rfl (ji_zipS T.n_zip (ja_cons (je_var 0) (ja_cons (je_var 1) ja_nil))) (jg_tup rfl (jgs_cons (jg_name 3 nd rfl (by first | exact Or.inl rfl | exact Or.inr rfl)) (jgs_cons (jg_name 4 nd rfl (by first | exact Or.inl rfl | exact Or.inr rfl)) jgs_nil))) (jss_cons
  (js_lock (js_setLc2 5 [("one", 6), ("some", 7), ("figure", 8)] (by decide) nd rfl rfl (sw_true rfl rfl rfl (by decide +kernel)) (ji_items (je_var 2)) (blkOk_by (N := ["weights", "mosts", "found", "weight", "most", "every", "one", "some", "figure"]) (sc := defScope s_summed) (by decide +kernel)) rfl (fun _ _ _ _ _ => (jg_tup rfl (jgs_cons (jg_name 6 nd rfl (by first | exact Or.inl rfl | exact Or.inr rfl)) (jgs_cons (jg_name 7 nd rfl (by first | exact Or.inl rfl | exact Or.inr rfl)) jgs_nil)))) (fun _ _ _ _ _ => jts_nil) (fun _ _ _ _ _ => (ji_range2 T.n_range (ja_cons (je_neg (je_var 4)) (ja_cons (je_add (je_var 4) je_int) ja_nil)))) (fun _ _ _ _ _ => (jg_name 8 nd rfl (by first | exact Or.inl rfl | exact Or.inr rfl))) (fun _ _ _ _ _ => jts_nil) (fun _ _ _ _ _ => (je_tup (ja_cons (je_var 6) (ja_cons (je_var 7) (ja_cons (je_var 8) ja_nil))))))) (jss_one
  (js_set 2 nd rfl (by first | exact Or.inl rfl | exact Or.inr rfl) (je_dc [("one", 6), ("some", 7), ("figure", 8)] rfl nd (ji_seq (je_var 5)) (blkOk_by (N := ["weights", "mosts", "found", "weight", "most", "every", "one", "some", "figure"]) (sc := defScope s_summed) (by decide +kernel)) (by decide) (fun _ _ _ _ _ => (jg_tup rfl (jgs_cons (jg_name 6 nd rfl (by first | exact Or.inl rfl | exact Or.inr rfl)) (jgs_cons (jg_name 7 nd rfl (by first | exact Or.inl rfl | exact Or.inr rfl)) (jgs_cons (jg_name 8 nd rfl (by first | exact Or.inl rfl | exact Or.inr rfl)) jgs_nil))))) (fun _ _ _ _ _ => jts_nil) (fun _ _ _ _ _ => (je_add (je_var 6) (je_mul (je_var 3) (je_var 8)))) (fun _ _ _ _ _ => (je_add (je_var 7) (je_tup (ja_cons (je_var 8) ja_nil))))))))) (jss_one
  (js_ret (je_dc [("one", 6)] rfl nd (ji_seq (je_sortDB T.n_sorted rfl (ja_cons (je_var 2) ja_nil))) (blkOk_by (N := ["weights", "mosts", "found", "weight", "most", "every", "one", "some", "figure"]) (sc := defScope s_summed) (by decide +kernel)) (by decide) (fun _ _ _ _ _ => (jg_name 6 nd rfl (by first | exact Or.inl rfl | exact Or.inr rfl))) (fun _ _ _ _ _ => jts_nil) (fun _ _ _ _ _ => (je_var 6)) (fun _ _ _ _ _ => (je_dget hr (je_var 2) (je_var 6))))))))), Vs2 len vc⟩
theorem ok_Late_init {f : Addr} {fd : FuncData} (F : Fun K "__init__" "Late.__init__" s_Late_init f fd) (T : Tx K mg) (vc : goal_Late_init) (len : ∀ ds S P, sp_Late_init ds S P → ds.length = 6)
    {f_summed : Addr} {fd_summed : FuncData} (G_summed : Does P w K mg base 1 "summed" ["weights", "mosts"] f_summed fd_summed sp_summed) : FnD P w K mg base 2 f fd ["self", "base", "weights", "over", "mosts", "most"] sp_Late_init :=
  fn_d F sc_Late_init len fun cdv A outer s H E hr => ⟨rd_Late_init, (have nd := sc_Late_init.nd
  (jss_cons
  (js_fld3 0 T.k_Late T.a_Late_own_base T.a_Late_own_over T.a_Late_own_most (pv 0) (pv 0) (pv 0) rfl (je_var 1) (je_var 3) (je_var 5)) (jss_cons
  (js_fld T.k_Late T.a_Late_own_wide (je_var 0) (je_sum T.n_sum (ja_cons (je_lc [("weight", 6), ("one", 7)] rfl nd (ji_zipS T.n_zip (ja_cons (je_var 2) (ja_cons (je_var 4) ja_nil))) (blkOk_by (N := ["self", "base", "weights", "over", "mosts", "most", "weight", "one"]) (sc := defScope s_Late_init) (by decide +kernel)) (by decide) (fun _ _ _ _ _ => (jg_tup rfl (jgs_cons (jg_name 6 nd rfl (by first | exact Or.inl rfl | exact Or.inr rfl)) (jgs_cons (jg_name 7 nd rfl (by first | exact Or.inl rfl | exact Or.inr rfl)) jgs_nil)))) (fun _ _ _ _ _ => jts_nil) (fun _ _ _ _ _ => (je_mul (je_abs T.n_abs (ja_cons (je_var 6) ja_nil)) (je_var 7)))) ja_nil))) (jss_one
  (js_fld T.k_Late T.a_Late_own_sums (je_var 0) (je_f G_summed hr (ja_cons (je_var 2) (ja_cons (je_var 4) ja_nil)))))))), Vs6 len vc⟩
theorem ok_Late_step_at {f : Addr} {fd : FuncData} (F : Fun K "step_at" "Late.step_at" s_Late_step_at f fd) (T : Tx K mg) (vc : goal_Late_step_at) (len : ∀ ds S P, sp_Late_step_at ds S P → ds.length = 3)
    {f_power : Addr} {fd_power : FuncData} (G_power : Does P w K mg base 1 "power" ["base", "many"] f_power fd_power sp_power) : FnD P w K mg base 2 f fd ["self", "rest", "lead"] sp_Late_step_at :=
  fn_d F sc_Late_step_at len fun cdv A outer s H E hr => ⟨rd_Late_step_at, (have nd := sc_Late_step_at.nd
  (jss_cons
  (js_if (jt_gt (je_var 2) je_int) (jss_one
  (js_ret (je_tup (ja_cons (je_var 1) (ja_cons (je_mul (je_fld T.k_Late T.a_Late_own_over (je_var 0)) (je_ix (je_f G_power hr (ja_cons (je_fld T.k_Late T.a_Late_own_base (je_var 0)) (ja_cons (je_sub (je_var 2) je_int) ja_nil))) je_int)) (ja_cons (je_fld T.k_Late T.a_Late_own_wide (je_var 0)) ja_nil)))))) jss_nil) (jss_one
  (js_ret (je_tup (ja_cons (je_mul (je_var 1) (je_fld T.k_Late T.a_Late_own_base (je_var 0))) (ja_cons (je_fld T.k_Late T.a_Late_own_over (je_var 0)) (ja_cons (je_mul (je_fld T.k_Late T.a_Late_own_wide (je_var 0)) (je_ix (je_f G_power hr (ja_cons (je_fld T.k_Late T.a_Late_own_base (je_var 0)) (ja_cons (je_sub je_int (je_var 2)) ja_nil))) je_int)) ja_nil)))))))), Vs3 len vc⟩
theorem ok_Late_figure {f : Addr} {fd : FuncData} (F : Fun K "figure" "Late.figure" s_Late_figure f fd) (T : Tx K mg) (vc : goal_Late_figure) (len : ∀ ds S P, sp_Late_figure ds S P → ds.length = 3)
    {f_Late_step_at : Addr} {fd_Late_step_at : FuncData} (G_Late_step_at : DoesM P w K mg base 2 2 "step_at" ["self", "rest", "lead"] f_Late_step_at fd_Late_step_at sp_Late_step_at) : FnD P w K mg base 3 f fd ["self", "rest", "lead"] sp_Late_figure :=
  fn_d F sc_Late_figure len fun cdv A outer s H E hr => ⟨rd_Late_figure, (have nd := sc_Late_figure.nd
  (jss_cons
  (js_asg (je_m G_Late_step_at hr (je_var 0) (ja_cons (je_var 1) (ja_cons (je_var 2) ja_nil))) (jg_tup rfl (jgs_cons (jg_name 3 nd rfl (by first | exact Or.inl rfl | exact Or.inr rfl)) (jgs_cons (jg_name 4 nd rfl (by first | exact Or.inl rfl | exact Or.inr rfl)) (jgs_cons (jg_name 5 nd rfl (by first | exact Or.inl rfl | exact Or.inr rfl)) jgs_nil))))) (jss_cons
  (js_if (jt_lt (je_mul (je_var 4) (je_fld T.k_Late T.a_Late_own_most (je_var 0))) (je_var 5)) (jss_one
  (js_ret je_non)) jss_nil) (jss_cons
  (js_set 6 nd rfl (by first | exact Or.inl rfl | exact Or.inr rfl) (je_fdiv (je_sub (je_mul (je_var 4) (je_fld T.k_Late T.a_Late_own_most (je_var 0))) (je_var 5)) (je_sub (je_fld T.k_Late T.a_Late_own_base (je_var 0)) je_int))) (jss_cons
  (js_par 7 8 rfl nd rfl rfl (by decide) rfl rfl (ja_cons (je_neg (je_fdiv (je_sub (je_var 6) (je_var 3)) (je_var 4))) (ja_cons (je_fdiv (je_add (je_var 3) (je_var 6)) (je_var 4)) ja_nil)) (by rfl)) (jss_cons
  (js_if (jt_gt (je_var 7) (je_var 8)) (jss_one
  (js_ret je_non)) jss_nil) (jss_one
  (js_ret (je_max2 T.n_max (ja_cons (je_var 7) (ja_cons (je_min2 T.n_min (ja_cons je_int (ja_cons (je_var 8) ja_nil))) ja_nil))))))))))), Vs3 len vc⟩
theorem ok_Late_settled {f : Addr} {fd : FuncData} (F : Fun K "settled" "Late.settled" s_Late_settled f fd) (T : Tx K mg) (vc : goal_Late_settled) (len : ∀ ds S P, sp_Late_settled ds S P → ds.length = 3)
    {f_Late_figure : Addr} {fd_Late_figure : FuncData} (G_Late_figure : DoesM P w K mg base 3 2 "figure" ["self", "rest", "lead"] f_Late_figure fd_Late_figure sp_Late_figure)
    {f_Late_step_at : Addr} {fd_Late_step_at : FuncData} (G_Late_step_at : DoesM P w K mg base 2 2 "step_at" ["self", "rest", "lead"] f_Late_step_at fd_Late_step_at sp_Late_step_at) : FnD P w K mg base 4 f fd ["self", "rest", "lead"] sp_Late_settled :=
  fn_d F sc_Late_settled len fun cdv A outer s H E hr => ⟨rd_Late_settled, (have nd := sc_Late_settled.nd
  (jss_cons
  (js_set 3 nd rfl (by first | exact Or.inl rfl | exact Or.inr rfl) (je_m G_Late_figure hr (je_var 0) (ja_cons (je_var 1) (ja_cons (je_var 2) ja_nil)))) (jss_cons
  (js_while PassesOwn.never (jt_notN (je_var 3) je_non) (jss_cons
  (js_asg (je_m G_Late_step_at hr (je_var 0) (ja_cons (je_var 1) (ja_cons (je_var 2) ja_nil))) (jg_tup rfl (jgs_cons (jg_name 4 nd rfl (by first | exact Or.inl rfl | exact Or.inr rfl)) (jgs_cons (jg_name 5 nd rfl (by first | exact Or.inl rfl | exact Or.inr rfl)) (jgs_cons (jg_name 6 nd rfl (by first | exact Or.inl rfl | exact Or.inr rfl)) jgs_nil))))) (jss_cons
  (js_par 1 2 rfl nd rfl rfl (by decide) rfl rfl (ja_cons (je_sub (je_var 4) (je_mul (je_var 3) (je_var 5))) (ja_cons (je_sub (je_var 2) je_int) ja_nil)) (by rfl)) (jss_one
  (js_set 3 nd rfl (by first | exact Or.inl rfl | exact Or.inr rfl) (je_m G_Late_figure hr (je_var 0) (ja_cons (je_var 1) (ja_cons (je_var 2) ja_nil)))))))) (jss_one
  (js_ret (je_tupq (ja_cons (je_var 1) (ja_cons (je_var 2) ja_nil)))))))), Vs3 len vc⟩
theorem ok_Late_first {f : Addr} {fd : FuncData} (F : Fun K "first" "Late.first" s_Late_first f fd) (T : Tx K mg) (vc : goal_Late_first) (len : ∀ ds S P, sp_Late_first ds S P → ds.length = 1)
    {f_Late_figure : Addr} {fd_Late_figure : FuncData} (G_Late_figure : DoesM P w K mg base 3 2 "figure" ["self", "rest", "lead"] f_Late_figure fd_Late_figure sp_Late_figure)
    {f_Late_settled : Addr} {fd_Late_settled : FuncData} (G_Late_settled : DoesM P w K mg base 4 2 "settled" ["self", "rest", "lead"] f_Late_settled fd_Late_settled sp_Late_settled) : FnD P w K mg base 5 f fd ["self"] sp_Late_first :=
  fn_d F sc_Late_first len fun cdv A outer s H E hr => ⟨rd_Late_first, (have nd := sc_Late_first.nd
  (jss_cons
  (js_set 1 nd rfl (by first | exact Or.inl rfl | exact Or.inr rfl) je_int) (jss_cons
  (js_while PassesOwn.never (jt_isN (je_m G_Late_figure hr (je_var 0) (ja_cons je_int (ja_cons (je_var 1) ja_nil))) je_non) (jss_one
  (js_iadd 1 nd rfl (by first | exact Or.inl rfl | exact Or.inr rfl) je_int))) (jss_one
  (js_ret (je_m G_Late_settled hr (je_var 0) (ja_cons je_int (ja_cons (je_var 1) ja_nil)))))))), Vs1 len vc⟩
theorem ok_Late_behind {f : Addr} {fd : FuncData} (F : Fun K "behind" "Late.behind" s_Late_behind f fd) (T : Tx K mg) (vc : goal_Late_behind) (len : ∀ ds S P, sp_Late_behind ds S P → ds.length = 3)
    {f_Late_settled : Addr} {fd_Late_settled : FuncData} (G_Late_settled : DoesM P w K mg base 4 2 "settled" ["self", "rest", "lead"] f_Late_settled fd_Late_settled sp_Late_settled)
    {f_power : Addr} {fd_power : FuncData} (G_power : Does P w K mg base 1 "power" ["base", "many"] f_power fd_power sp_power) : FnD P w K mg base 5 f fd ["self", "state", "value"] sp_Late_behind :=
  fn_d F sc_Late_behind len fun cdv A outer s H E hr => ⟨rd_Late_behind, (have nd := sc_Late_behind.nd
  (jss_cons
  (js_asg (je_wk (je_var 1)) (jg_tup rfl (jgs_cons (jg_name 3 nd rfl (by first | exact Or.inl rfl | exact Or.inr rfl)) (jgs_cons (jg_name 4 nd rfl (by first | exact Or.inl rfl | exact Or.inr rfl)) jgs_nil)))) (jss_cons
  (js_if (jt_lt (je_var 4) je_int) (jss_one
  (js_ret (je_m G_Late_settled hr (je_var 0) (ja_cons (je_add (je_var 3) (je_mul (je_var 2) (je_ix (je_f G_power hr (ja_cons (je_fld T.k_Late T.a_Late_own_base (je_var 0)) (ja_cons (je_sub (je_neg (je_var 4)) je_int) ja_nil))) je_int))) (ja_cons (je_add (je_var 4) je_int) ja_nil))))) jss_nil) (jss_one
  (js_ret (je_m G_Late_settled hr (je_var 0) (ja_cons (je_add (je_mul (je_var 3) (je_fld T.k_Late T.a_Late_own_base (je_var 0))) (je_var 2)) (ja_cons (je_add (je_var 4) je_int) ja_nil)))))))), Vs3 len vc⟩
theorem ok_Late_states {f : Addr} {fd : FuncData} (F : Fun K "states" "Late.states" s_Late_states f fd) (T : Tx K mg) (vc : goal_Late_states) (len : ∀ ds S P, sp_Late_states ds S P → ds.length = 1)
    {f_Late_first : Addr} {fd_Late_first : FuncData} (G_Late_first : DoesM P w K mg base 5 2 "first" ["self"] f_Late_first fd_Late_first sp_Late_first)
    {f_Late_behind : Addr} {fd_Late_behind : FuncData} (G_Late_behind : DoesM P w K mg base 5 2 "behind" ["self", "state", "value"] f_Late_behind fd_Late_behind sp_Late_behind) : FnD P w K mg base 6 f fd ["self"] sp_Late_states :=
  fn_d F sc_Late_states len fun cdv A outer s H E hr => ⟨rd_Late_states, (have nd := sc_Late_states.nd
  (jss_cons
  (js_par 1 2 rfl nd rfl rfl (by decide) rfl rfl (ja_cons (je_tone hr (je_m0 G_Late_first hr (je_var 0)) (je_tup ja_nil)) (ja_cons (je_lstM (ja_cons (je_m0 G_Late_first hr (je_var 0)) ja_nil)) ja_nil)) (by rfl)) (jss_cons
  (js_while PassesOwn.never (jt_gt (je_len T.n_len (ja_cons (je_var 2) ja_nil)) je_int) (jss_cons
  (js_set 3 nd rfl (by first | exact Or.inl rfl | exact Or.inr rfl) (je_popAt (je_var 2) je_int)) (jss_cons
  (js_lock (js_for PassesOwn.never rfl (ji_keys (je_fld T.k_Late T.a_Late_own_sums (je_var 0))) (jg_name 4 nd rfl (by first | exact Or.inl rfl | exact Or.inr rfl)) (jss_cons
  (js_set 5 nd rfl (by first | exact Or.inl rfl | exact Or.inr rfl) (je_m G_Late_behind hr (je_var 0) (ja_cons (je_var 3) (ja_cons (je_var 4) ja_nil)))) (jss_one
  (js_if (jt_tnotin hr (je_var 5) (je_var 1)) (jss_cons
  (js_tput hr (je_var 1) (je_var 5) (je_add (je_tget hr (je_var 1) (je_var 3)) (je_tup (ja_cons (je_var 4) ja_nil)))) (jss_one
  (js_expr (je_append (je_var 2) (je_var 5))))) jss_nil))))) (jss_one
  (js_if (jt_gt (je_lenT T.n_len (ja_cons (je_var 1) ja_nil)) (je_cI T.c_MOST_STATES)) (jss_one
  js_never) jss_nil))))) (jss_one
  (js_ret (je_var 1)))))), Vs1 len vc⟩
theorem ok_worst_lag {f : Addr} {fd : FuncData} (F : Fun K "worst_lag" "worst_lag" s_worst_lag f fd) (T : Tx K mg) (vc : goal_worst_lag) (len : ∀ ds S P, sp_worst_lag ds S P → ds.length = 5)
    {f_Late_states : Addr} {fd_Late_states : FuncData} (G_Late_states : DoesM P w K mg base 6 2 "states" ["self"] f_Late_states fd_Late_states sp_Late_states)
    {f_Late_init : Addr} {fd_Late_init : FuncData} (G_Late_init : DoesI P w K mg base 2 2 "Late" ["self", "base", "weights", "over", "mosts", "most"] f_Late_init fd_Late_init sp_Late_init)
    (B_Late_init : Binds K fd_Late_init ["self", "base", "weights", "over", "mosts", "most"] []) : FnD P w K mg base 7 f fd ["base", "weights", "over", "mosts", "most"] sp_worst_lag :=
  fn_d F sc_worst_lag len fun cdv A outer s H E hr => ⟨rd_worst_lag, (have nd := sc_worst_lag.nd
  (jss_one
  (js_ret (je_maxL T.n_max (ja_cons (je_lc [("rest", 5), ("lead", 6)] rfl nd (ji_keysU (je_frzT (je_m0 G_Late_states hr (je_make G_Late_init hr B_Late_init (ja_cons (je_var 0) (ja_cons (je_var 1) (ja_cons (je_var 2) (ja_cons (je_var 3) (ja_cons (je_var 4) ja_nil))))))))) (blkOk_by (N := ["base", "weights", "over", "mosts", "most", "rest", "lead"]) (sc := defScope s_worst_lag) (by decide +kernel)) (by decide) (fun _ _ _ _ _ => (jg_tup rfl (jgs_cons (jg_name 5 nd rfl (by first | exact Or.inl rfl | exact Or.inr rfl)) (jgs_cons (jg_name 6 nd rfl (by first | exact Or.inl rfl | exact Or.inr rfl)) jgs_nil)))) (fun _ _ _ _ _ => jts_nil) (fun _ _ _ _ _ => (je_var 6))) ja_nil))))), Vs5 len vc⟩
theorem ok_worst_rows {f : Addr} {fd : FuncData} (F : Fun K "worst_rows" "worst_rows" s_worst_rows f fd) (T : Tx K mg) (vc : goal_worst_rows) (len : ∀ ds S P, sp_worst_rows ds S P → ds.length = 5)
    {f_Late_init : Addr} {fd_Late_init : FuncData} (G_Late_init : DoesI P w K mg base 2 2 "Late" ["self", "base", "weights", "over", "mosts", "most"] f_Late_init fd_Late_init sp_Late_init)
    (B_Late_init : Binds K fd_Late_init ["self", "base", "weights", "over", "mosts", "most"] [])
    {f_Late_states : Addr} {fd_Late_states : FuncData} (G_Late_states : DoesM P w K mg base 6 2 "states" ["self"] f_Late_states fd_Late_states sp_Late_states) : FnD P w K mg base 7 f fd ["base", "weights", "over", "mosts", "most"] sp_worst_rows :=
  fn_d F sc_worst_rows len fun cdv A outer s H E hr => ⟨rd_worst_rows, (have nd := sc_worst_rows.nd
  (jss_cons
  (js_set 5 nd rfl (by first | exact Or.inl rfl | exact Or.inr rfl) (je_make G_Late_init hr B_Late_init (ja_cons (je_var 0) (ja_cons (je_var 1) (ja_cons (je_var 2) (ja_cons (je_var 3) (ja_cons (je_var 4) ja_nil))))))) (jss_cons
  (js_set 6 nd rfl (by first | exact Or.inl rfl | exact Or.inr rfl) (je_m0 G_Late_states hr (je_var 5))) (jss_cons
  (js_set 7 nd rfl (by first | exact Or.inl rfl | exact Or.inr rfl) (je_maxL T.n_max (ja_cons (je_lc [("rest", 8), ("lead", 9)] rfl nd (ji_keysU (je_frzT (je_var 6))) (blkOk_by (N := ["base", "weights", "over", "mosts", "most", "late", "found", "most_lead", "rest", "lead", "path", "sums", "at", "value"]) (sc := defScope s_worst_rows) (by decide +kernel)) (by decide) (fun _ _ _ _ _ => (jg_tup rfl (jgs_cons (jg_name 8 nd rfl (by first | exact Or.inl rfl | exact Or.inr rfl)) (jgs_cons (jg_name 9 nd rfl (by first | exact Or.inl rfl | exact Or.inr rfl)) jgs_nil)))) (fun _ _ _ _ _ => jts_nil) (fun _ _ _ _ _ => (je_var 9))) ja_nil))) (jss_cons
  (js_set 10 nd rfl (by first | exact Or.inl rfl | exact Or.inr rfl) (je_ix (je_lc [("rest", 8), ("lead", 9), ("sums", 11)] rfl nd (ji_itemsU (je_frzT (je_var 6))) (blkOk_by (N := ["base", "weights", "over", "mosts", "most", "late", "found", "most_lead", "rest", "lead", "path", "sums", "at", "value"]) (sc := defScope s_worst_rows) (by decide +kernel)) (by decide) (fun _ _ _ _ _ => (jg_tup rfl (jgs_cons (jg_tup rfl (jgs_cons (jg_name 8 nd rfl (by first | exact Or.inl rfl | exact Or.inr rfl)) (jgs_cons (jg_name 9 nd rfl (by first | exact Or.inl rfl | exact Or.inr rfl)) jgs_nil))) (jgs_cons (jg_name 11 nd rfl (by first | exact Or.inl rfl | exact Or.inr rfl)) jgs_nil)))) (fun _ _ _ _ _ => (jts_one (jt_eq hr (je_var 9) (je_var 7)))) (fun _ _ _ _ _ => (je_var 11))) je_int)) (jss_one
  (js_ret (je_lc [("at", 12)] rfl nd (ji_range1 T.n_range (ja_cons (je_len T.n_len (ja_cons (je_var 1) ja_nil)) ja_nil)) (blkOk_by (N := ["base", "weights", "over", "mosts", "most", "late", "found", "most_lead", "rest", "lead", "path", "sums", "at", "value"]) (sc := defScope s_worst_rows) (by decide +kernel)) (by decide) (fun _ _ _ _ _ => (jg_name 12 nd rfl (by first | exact Or.inl rfl | exact Or.inr rfl))) (fun _ _ _ _ _ => jts_nil) (fun _ _ _ _ _ => (je_tupC T.n_tuple (ja_cons (je_lc [("value", 13)] rfl nd (ji_seq (je_var 10)) (blkOk_by (N := ["base", "weights", "over", "mosts", "most", "late", "found", "most_lead", "rest", "lead", "path", "sums", "at", "value"]) (by kernel_rfl)) (by decide) (fun _ _ _ _ _ => (jg_name 13 nd rfl (by first | exact Or.inl rfl | exact Or.inr rfl))) (fun _ _ _ _ _ => jts_nil) (fun _ _ _ _ _ => (je_ix (je_dget hr (je_fld T.k_Late T.a_Late_own_sums (je_var 5)) (je_var 13)) (je_var 12)))) ja_nil))))))))))), Vs5 len vc⟩
theorem ok_are_rows {f : Addr} {fd : FuncData} (F : Fun K "are_rows" "are_rows" s_are_rows f fd) (T : Tx K mg) (vc : goal_are_rows) (len : ∀ ds S P, sp_are_rows ds S P → ds.length = 2)
    {f_is_number : Addr} {fd_is_number : FuncData} (G_is_number : Does P w K mg base 1 "is_number" ["thing"] f_is_number fd_is_number sp_is_number) : FnD P w K mg base 2 f fd ["mosts", "thing"] sp_are_rows :=
  fn_d F sc_are_rows len fun cdv A outer s H E hr => ⟨rd_are_rows, (have nd := sc_are_rows.nd
  (jss_cons
  (js_if (jt_w (jw_or (jt_not (jt_val (je_isi T.n_isinstance (ja_cons (je_var 1) (ja_cons (je_tyList T.n_list) ja_nil))))) (jw_or (jt_ne hr (je_len T.n_len (ja_cons (je_var 1) ja_nil)) (je_len T.n_len (ja_cons (je_var 0) ja_nil))) (jw_or1 (jt_not (jt_val (je_all T.n_all (ja_cons (je_lc [("row", 2)] rfl nd (ji_seq (je_var 1)) (blkOk_by (N := ["mosts", "thing", "row", "pairs", "most", "figure"]) (sc := defScope s_are_rows) (by decide +kernel)) (by decide) (fun _ _ _ _ _ => (jg_name 2 nd rfl (by first | exact Or.inl rfl | exact Or.inr rfl))) (fun _ _ _ _ _ => jts_nil) (fun _ _ _ _ _ => (je_isi T.n_isinstance (ja_cons (je_var 2) (ja_cons (je_tyTuple T.n_tuple) ja_nil))))) ja_nil)))))))) (jss_one
  (js_ret je_bl)) jss_nil) (jss_cons
  (js_if (jt_ne hr (je_lenSc [("row", 2)] T.n_len rfl nd (ji_seq (je_var 1)) (blkOk_by (N := ["mosts", "thing", "row", "pairs", "most", "figure"]) (sc := defScope s_are_rows) (by decide +kernel)) (by decide) (fun _ _ _ _ _ => (jg_name 2 nd rfl (by first | exact Or.inl rfl | exact Or.inr rfl))) (fun _ _ _ _ _ => jts_nil) (fun _ _ _ _ _ => (je_len T.n_len (ja_cons (je_var 2) ja_nil)))) je_int) (jss_one
  (js_ret je_bl)) jss_nil) (jss_cons
  (js_setLc2 3 [("row", 2), ("most", 4), ("figure", 5)] (by decide) nd rfl rfl (sw_true rfl rfl rfl (by decide +kernel)) (ji_zipS T.n_zip (ja_cons (je_var 1) (ja_cons (je_var 0) ja_nil))) (blkOk_by (N := ["mosts", "thing", "row", "pairs", "most", "figure"]) (sc := defScope s_are_rows) (by decide +kernel)) rfl (fun _ _ _ _ _ => (jg_tup rfl (jgs_cons (jg_name 2 nd rfl (by first | exact Or.inl rfl | exact Or.inr rfl)) (jgs_cons (jg_name 4 nd rfl (by first | exact Or.inl rfl | exact Or.inr rfl)) jgs_nil)))) (fun _ _ _ _ _ => jts_nil) (fun _ _ _ _ _ => (ji_seq (je_var 2))) (fun _ _ _ _ _ => (jg_name 5 nd rfl (by first | exact Or.inl rfl | exact Or.inr rfl))) (fun _ _ _ _ _ => jts_nil) (fun _ _ _ _ _ => (je_tup (ja_cons (je_var 5) (ja_cons (je_var 4) ja_nil))))) (jss_one
  (js_ret (je_all T.n_all (ja_cons (je_lc [("figure", 5), ("most", 4)] rfl nd (ji_seq (je_var 3)) (blkOk_by (N := ["mosts", "thing", "row", "pairs", "most", "figure"]) (sc := defScope s_are_rows) (by decide +kernel)) (by decide) (fun _ _ _ _ _ => (jg_tup rfl (jgs_cons (jg_name 5 nd rfl (by first | exact Or.inl rfl | exact Or.inr rfl)) (jgs_cons (jg_name 4 nd rfl (by first | exact Or.inl rfl | exact Or.inr rfl)) jgs_nil)))) (fun _ _ _ _ _ => jts_nil) (fun _ _ _ _ _ => (je_and (je_f G_is_number hr (ja_cons (je_var 5) ja_nil)) (je_one (je_chain op_le op_le i_le i_le (je_neg (je_var 4)) (je_var 5) (je_var 4)))))) ja_nil)))))))), Vs2 len vc⟩
theorem ok_shows_worst {f : Addr} {fd : FuncData} (F : Fun K "shows_worst" "shows_worst" s_shows_worst f fd) (T : Tx K mg) (vc : goal_shows_worst) (len : ∀ ds S P, sp_shows_worst ds S P → ds.length = 7)
    {f_are_rows : Addr} {fd_are_rows : FuncData} (G_are_rows : Does P w K mg base 2 "are_rows" ["mosts", "thing"] f_are_rows fd_are_rows sp_are_rows)
    {f_Late_init : Addr} {fd_Late_init : FuncData} (G_Late_init : DoesI P w K mg base 2 2 "Late" ["self", "base", "weights", "over", "mosts", "most"] f_Late_init fd_Late_init sp_Late_init)
    (B_Late_init : Binds K fd_Late_init ["self", "base", "weights", "over", "mosts", "most"] [])
    {f_Late_first : Addr} {fd_Late_first : FuncData} (G_Late_first : DoesM P w K mg base 5 2 "first" ["self"] f_Late_first fd_Late_first sp_Late_first)
    {f_Late_behind : Addr} {fd_Late_behind : FuncData} (G_Late_behind : DoesM P w K mg base 5 2 "behind" ["self", "state", "value"] f_Late_behind fd_Late_behind sp_Late_behind) : FnD P w K mg base 6 f fd ["base", "weights", "over", "mosts", "most", "lag", "thing"] sp_shows_worst :=
  fn_d F sc_shows_worst len fun cdv A outer s H E hr => ⟨rd_shows_worst, (have nd := sc_shows_worst.nd
  (jss_cons
  (js_if (jt_not (jt_val (je_f G_are_rows hr (ja_cons (je_var 3) (ja_cons (je_var 6) ja_nil))))) (jss_one
  (js_ret je_bl)) jss_nil) (jss_cons
  (js_set 7 nd rfl (by first | exact Or.inl rfl | exact Or.inr rfl) (je_make G_Late_init hr B_Late_init (ja_cons (je_var 0) (ja_cons (je_var 1) (ja_cons (je_var 2) (ja_cons (je_var 3) (ja_cons (je_var 4) ja_nil))))))) (jss_cons
  (js_set 8 nd rfl (by first | exact Or.inl rfl | exact Or.inr rfl) (je_wk (je_m0 G_Late_first hr (je_var 7)))) (jss_cons
  (js_for PassesOwn.never rfl (ji_range1 T.n_range (ja_cons (je_len T.n_len (ja_cons (je_ix (je_var 6) je_int) ja_nil)) ja_nil)) (jg_name 9 nd rfl (by first | exact Or.inl rfl | exact Or.inr rfl)) (jss_one
  (js_set 8 nd rfl (by first | exact Or.inl rfl | exact Or.inr rfl) (je_wk (je_m G_Late_behind hr (je_var 7) (ja_cons (je_var 8) (ja_cons (je_sum T.n_sum (ja_cons (je_lc [("weight", 10), ("row", 11)] rfl nd (ji_zipS T.n_zip (ja_cons (je_var 1) (ja_cons (je_var 6) ja_nil))) (blkOk_by (N := ["base", "weights", "over", "mosts", "most", "lag", "thing", "late", "state", "at", "weight", "row"]) (sc := defScope s_shows_worst) (by decide +kernel)) (by decide) (fun _ _ _ _ _ => (jg_tup rfl (jgs_cons (jg_name 10 nd rfl (by first | exact Or.inl rfl | exact Or.inr rfl)) (jgs_cons (jg_name 11 nd rfl (by first | exact Or.inl rfl | exact Or.inr rfl)) jgs_nil)))) (fun _ _ _ _ _ => jts_nil) (fun _ _ _ _ _ => (je_mul (je_var 10) (je_ix (je_var 11) (je_var 9))))) ja_nil)) ja_nil))))))) (jss_one
  (js_ret (je_ge (je_ix (je_var 8) je_int) (je_var 5))))))))), Vs7 len vc⟩
theorem ok_Lcell_at {f : Addr} {fd : FuncData} (F : Fun K "_law_cell_at" "_law_cell_at" s_Lcell_at f fd) (T : Tx K mg) (vc : goal_Lcell_at) (len : ∀ ds S P, sp_Lcell_at ds S P → ds.length = 2)
     : FnD P w K mg base 1 f fd ["_law_script", "_law_k"] sp_Lcell_at :=
  fn_d F sc_Lcell_at len fun cdv A outer s H E hr => ⟨rd_Lcell_at, (have nd := sc_Lcell_at.nd
  (jss_cons
  (js_if (jt_lt (je_var 1) (je_len T.n_len (ja_cons (je_var 0) ja_nil))) (jss_one
  (js_ret (je_ix (je_var 0) (je_var 1)))) jss_nil) (jss_one
  (js_ret je_int)))), Vs2 len vc⟩
theorem ok_Lbox {f : Addr} {fd : FuncData} (F : Fun K "_law_box" "_law_box" s_Lbox f fd) (T : Tx K mg) (vc : goal_Lbox) (len : ∀ ds S P, sp_Lbox ds S P → ds.length = 2)
    {f_Lcell_at : Addr} {fd_Lcell_at : FuncData} (G_Lcell_at : Does P w K mg base 1 "_law_cell_at" ["_law_script", "_law_k"] f_Lcell_at fd_Lcell_at sp_Lcell_at) : FnD P w K mg base 2 f fd ["_law_script", "_law_k"] sp_Lbox :=
  fn_d F sc_Lbox len fun cdv A outer s H E hr => ⟨rd_Lbox, (have nd := sc_Lbox.nd
  (jss_cons
  (js_set 2 nd rfl (by first | exact Or.inl rfl | exact Or.inr rfl) (je_f G_Lcell_at hr (ja_cons (je_var 0) (ja_cons (je_var 1) ja_nil)))) (jss_one
  (js_ret (je_lstM (ja_cons (je_mul (je_abs T.n_abs (ja_cons (je_var 2) ja_nil)) (je_intC T.n_int (ja_cons (je_ge (je_abs T.n_abs (ja_cons (je_var 2) ja_nil)) (je_pow je_int je_int)) ja_nil))) (ja_cons (je_add (je_add (je_mod (je_var 2) je_int) (je_mul je_int (je_var 1))) je_int) (ja_cons je_int ja_nil)))))))), Vs2 len vc⟩
theorem ok_Ltake {f : Addr} {fd : FuncData} (F : Fun K "_law_take" "_law_take" s_Ltake f fd) (T : Tx K mg) (vc : goal_Ltake) (len : ∀ ds S P, sp_Ltake ds S P → ds.length = 2)
     : FnD P w K mg base 1 f fd ["_law_box_here", "_law_size"] sp_Ltake :=
  fn_d F sc_Ltake len fun cdv A outer s H E hr => ⟨rd_Ltake, (have nd := sc_Ltake.nd
  (jss_cons
  (js_if (jt_gt (je_ix (je_var 0) je_int) je_int) (jss_cons
  (js_set 2 nd rfl (by first | exact Or.inl rfl | exact Or.inr rfl) (je_mod (je_ix (je_var 0) je_int) (je_var 1))) (jss_cons
  (js_setIx (je_fdiv (je_ix (je_var 0) je_int) (je_var 1)) (je_var 0) je_int) (jss_one
  (js_ret (je_var 2))))) jss_nil) (jss_cons
  (js_setIx (je_add (je_ix (je_var 0) je_int) je_int) (je_var 0) je_int) (jss_cons
  (js_set 3 nd rfl (by first | exact Or.inl rfl | exact Or.inr rfl) (je_mod (je_mul (je_add (je_ix (je_var 0) je_int) (je_mul je_int (je_ix (je_var 0) je_int))) (je_add je_int (je_ix (je_var 0) je_int))) je_int)) (jss_cons
  (js_set 4 nd rfl (by first | exact Or.inl rfl | exact Or.inr rfl) (je_mod (je_mul (je_add (je_add (je_var 3) (je_ix (je_var 0) je_int)) (je_fdiv (je_ix (je_var 0) je_int) je_int)) (je_add (je_mod (je_var 3) je_int) je_int)) je_int)) (jss_one
  (js_ret (je_mod (je_fdiv (je_mod (je_add (je_mul (je_var 4) je_int) (je_var 3)) je_int) je_int) (je_var 1))))))))), Vs2 len vc⟩
theorem ok_Lof {f : Addr} {fd : FuncData} (F : Fun K "_law_of" "_law_of" s_Lof f fd) (T : Tx K mg) (vc : goal_Lof) (len : ∀ ds S P, sp_Lof ds S P → ds.length = 2)
    {f_Ltake : Addr} {fd_Ltake : FuncData} (G_Ltake : Does P w K mg base 1 "_law_take" ["_law_box_here", "_law_size"] f_Ltake fd_Ltake sp_Ltake) : FnD P w K mg base 2 f fd ["_law_box_here", "_law_some"] sp_Lof :=
  fn_d F sc_Lof len fun cdv A outer s H E hr => ⟨rd_Lof, (have nd := sc_Lof.nd
  (jss_one
  (js_ret (je_ix (je_var 1) (je_f G_Ltake hr (ja_cons (je_var 0) (ja_cons (je_len T.n_len (ja_cons (je_var 1) ja_nil)) ja_nil))))))), Vs2 len vc⟩
theorem ok_Lpow {f : Addr} {fd : FuncData} (F : Fun K "_law_pow" "_law_pow" s_Lpow f fd) (T : Tx K mg) (vc : goal_Lpow) (len : ∀ ds S P, sp_Lpow ds S P → ds.length = 2)
     : FnD P w K mg base 1 f fd ["_law_base", "_law_size"] sp_Lpow :=
  fn_d F sc_Lpow len fun cdv A outer s H E hr => ⟨rd_Lpow, (have nd := sc_Lpow.nd
  (jss_cons
  (js_set 2 nd rfl (by first | exact Or.inl rfl | exact Or.inr rfl) je_int) (jss_cons
  (js_for PassesOwn.never rfl (ji_range1 T.n_range (ja_cons (je_var 1) ja_nil)) (jg_name 3 nd rfl (by first | exact Or.inl rfl | exact Or.inr rfl)) (jss_one
  (js_set 2 nd rfl (by first | exact Or.inl rfl | exact Or.inr rfl) (je_mul (je_var 2) (je_var 0))))) (jss_one
  (js_ret (je_var 2)))))), Vs2 len vc⟩
theorem ok_Lsum {f : Addr} {fd : FuncData} (F : Fun K "_law_sum" "_law_sum" s_Lsum f fd) (T : Tx K mg) (vc : goal_Lsum) (len : ∀ ds S P, sp_Lsum ds S P → ds.length = 2)
    {f_Ltake : Addr} {fd_Ltake : FuncData} (G_Ltake : Does P w K mg base 1 "_law_take" ["_law_box_here", "_law_size"] f_Ltake fd_Ltake sp_Ltake) : FnD P w K mg base 2 f fd ["_law_box_here", "_law_base"] sp_Lsum :=
  fn_d F sc_Lsum len fun cdv A outer s H E hr => ⟨rd_Lsum, (have nd := sc_Lsum.nd
  (jss_cons
  (js_asg (je_tup (ja_cons (je_fdiv (je_add (je_var 1) je_int) je_int) (ja_cons (je_add je_int (je_f G_Ltake hr (ja_cons (je_var 0) (ja_cons je_int ja_nil)))) ja_nil))) (jg_tup rfl (jgs_cons (jg_name 2 nd rfl (by first | exact Or.inl rfl | exact Or.inr rfl)) (jgs_cons (jg_name 3 nd rfl (by first | exact Or.inl rfl | exact Or.inr rfl)) jgs_nil)))) (jss_cons
  (js_setLc 4 [("_law_k", 5)] rfl nd rfl rfl (sw_true rfl rfl rfl (by decide +kernel)) (ji_range1 T.n_range (ja_cons (je_var 3) ja_nil)) (blkOk_by (N := ["_law_box_here", "_law_base", "_law_least", "_law_many", "_law_weights", "_law_k", "_law_sizes", "_law_weight", "_law_size"]) (sc := defScope s_Lsum) (by decide +kernel)) (by decide) (fun _ _ _ _ _ => (jg_name 5 nd rfl (by first | exact Or.inl rfl | exact Or.inr rfl))) (fun _ _ _ _ _ => jts_nil) (fun _ _ _ _ _ => (je_mul (je_add je_int (je_f G_Ltake hr (ja_cons (je_var 0) (ja_cons (je_ix (je_lst (ja_cons je_int (ja_cons je_int ja_nil))) (je_f G_Ltake hr (ja_cons (je_var 0) (ja_cons je_int ja_nil)))) ja_nil)))) (je_ix (je_lst (ja_cons je_int (ja_cons (je_neg je_int) ja_nil))) (je_f G_Ltake hr (ja_cons (je_var 0) (ja_cons je_int ja_nil))))))) (jss_cons
  (js_setLc 6 [("_law_k", 5)] rfl nd rfl rfl (sw_true rfl rfl rfl (by decide +kernel)) (ji_range1 T.n_range (ja_cons (je_var 3) ja_nil)) (blkOk_by (N := ["_law_box_here", "_law_base", "_law_least", "_law_many", "_law_weights", "_law_k", "_law_sizes", "_law_weight", "_law_size"]) (sc := defScope s_Lsum) (by decide +kernel)) (by decide) (fun _ _ _ _ _ => (jg_name 5 nd rfl (by first | exact Or.inl rfl | exact Or.inr rfl))) (fun _ _ _ _ _ => jts_nil) (fun _ _ _ _ _ => (je_add (je_var 2) (je_f G_Ltake hr (ja_cons (je_var 0) (ja_cons je_int ja_nil)))))) (jss_cons
  (js_if (jt_gt (je_sum T.n_sum (ja_cons (je_lc [("_law_weight", 7), ("_law_size", 8)] rfl nd (ji_zip T.n_zip (ja_cons (je_var 4) (ja_cons (je_var 6) ja_nil))) (blkOk_by (N := ["_law_box_here", "_law_base", "_law_least", "_law_many", "_law_weights", "_law_k", "_law_sizes", "_law_weight", "_law_size"]) (sc := defScope s_Lsum) (by decide +kernel)) (by decide) (fun _ _ _ _ _ => (jg_tup rfl (jgs_cons (jg_name 7 nd rfl (by first | exact Or.inl rfl | exact Or.inr rfl)) (jgs_cons (jg_name 8 nd rfl (by first | exact Or.inl rfl | exact Or.inr rfl)) jgs_nil)))) (fun _ _ _ _ _ => jts_nil) (fun _ _ _ _ _ => (je_mul (je_abs T.n_abs (ja_cons (je_var 7) ja_nil)) (je_var 8)))) ja_nil)) je_int) (jss_one
  (js_setLc 4 [("_law_weight", 7)] rfl nd rfl rfl (sw_true rfl rfl rfl (by decide +kernel)) (ji_seq (je_var 4)) (blkOk_by (N := ["_law_box_here", "_law_base", "_law_least", "_law_many", "_law_weights", "_law_k", "_law_sizes", "_law_weight", "_law_size"]) (sc := defScope s_Lsum) (by decide +kernel)) (by decide) (fun _ _ _ _ _ => (jg_name 7 nd rfl (by first | exact Or.inl rfl | exact Or.inr rfl))) (fun _ _ _ _ _ => jts_nil) (fun _ _ _ _ _ => (je_fdiv (je_var 7) (je_abs T.n_abs (ja_cons (je_var 7) ja_nil)))))) jss_nil) (jss_one
  (js_ret (je_tup (ja_cons (je_var 1) (ja_cons (je_var 4) (ja_cons (je_add je_int (je_f G_Ltake hr (ja_cons (je_var 0) (ja_cons je_int ja_nil)))) (ja_cons (je_var 6) (ja_cons (je_add (je_var 2) (je_f G_Ltake hr (ja_cons (je_var 0) (ja_cons (je_add (je_var 1) je_int) ja_nil)))) ja_nil))))))))))))), Vs2 len vc⟩
theorem ok_Ltold {f : Addr} {fd : FuncData} (F : Fun K "_law_told" "_law_told" s_Ltold f fd) (T : Tx K mg) (vc : goal_Ltold) (len : ∀ ds S P, sp_Ltold ds S P → ds.length = 1)
    {f_told_lag : Addr} {fd_told_lag : FuncData} (G_told_lag : Does P w K mg base 5 "told_lag" ["base", "kind", "sources", "begin", "most"] f_told_lag fd_told_lag sp_told_lag) : FnD P w K mg base 6 f fd ["_law_some"] sp_Ltold :=
  fn_d F sc_Ltold len fun cdv A outer s H E hr => ⟨rd_Ltold, (have nd := sc_Ltold.nd
  (jss_cons
  (js_asg (je_var 0) (jg_tup rfl (jgs_cons (jg_name 1 nd rfl (by first | exact Or.inl rfl | exact Or.inr rfl)) (jgs_cons (jg_name 2 nd rfl (by first | exact Or.inl rfl | exact Or.inr rfl)) (jgs_cons (jg_name 3 nd rfl (by first | exact Or.inl rfl | exact Or.inr rfl)) (jgs_cons (jg_name 4 nd rfl (by first | exact Or.inl rfl | exact Or.inr rfl)) (jgs_cons (jg_name 5 nd rfl (by first | exact Or.inl rfl | exact Or.inr rfl)) jgs_nil))))))) (jss_one
  (js_ret (je_f G_told_lag hr (ja_cons (je_var 1) (ja_cons (je_tup (ja_cons je_str (ja_cons (je_tupC T.n_tuple (ja_cons (je_var 2) ja_nil)) (ja_cons (je_var 3) ja_nil)))) (ja_cons (je_lc [("_law_size", 6)] rfl nd (ji_seq (je_var 4)) (blkOk_by (N := ["_law_some", "_law_base", "_law_weights", "_law_under", "_law_sizes", "_law_top", "_law_size"]) (sc := defScope s_Ltold) (by decide +kernel)) (by decide) (fun _ _ _ _ _ => (jg_name 6 nd rfl (by first | exact Or.inl rfl | exact Or.inr rfl))) (fun _ _ _ _ _ => jts_nil) (fun _ _ _ _ _ => (je_tup (ja_cons je_int (ja_cons (je_var 6) ja_nil))))) (ja_cons je_int (ja_cons (je_var 5) ja_nil)))))))))), Vs1 len vc⟩
theorem ok_Lis_small {f : Addr} {fd : FuncData} (F : Fun K "_law_is_small" "_law_is_small" s_Lis_small f fd) (T : Tx K mg) (vc : goal_Lis_small) (len : ∀ ds S P, sp_Lis_small ds S P → ds.length = 2)
    {f_Lpow : Addr} {fd_Lpow : FuncData} (G_Lpow : Does P w K mg base 1 "_law_pow" ["_law_base", "_law_size"] f_Lpow fd_Lpow sp_Lpow) : FnD P w K mg base 2 f fd ["_law_some", "_law_told_here"] sp_Lis_small :=
  fn_d F sc_Lis_small len fun cdv A outer s H E hr => ⟨rd_Lis_small, (have nd := sc_Lis_small.nd
  (jss_cons
  (js_asg (je_var 0) (jg_tup rfl (jgs_cons (jg_name 2 nd rfl (by first | exact Or.inl rfl | exact Or.inr rfl)) (jgs_cons (jg_name 3 nd rfl (by first | exact Or.inl rfl | exact Or.inr rfl)) (jgs_cons (jg_name 4 nd rfl (by first | exact Or.inl rfl | exact Or.inr rfl)) (jgs_cons (jg_name 5 nd rfl (by first | exact Or.inl rfl | exact Or.inr rfl)) (jgs_cons (jg_name 6 nd rfl (by first | exact Or.inl rfl | exact Or.inr rfl)) jgs_nil))))))) (jss_cons
  (js_set 7 nd rfl (by first | exact Or.inl rfl | exact Or.inr rfl) (je_sum T.n_sum (ja_cons (je_lc [("_law_weight", 8), ("_law_size", 9)] rfl nd (ji_zip T.n_zip (ja_cons (je_var 3) (ja_cons (je_var 5) ja_nil))) (blkOk_by (N := ["_law_some", "_law_told_here", "_law_base", "_law_weights", "_law_under", "_law_sizes", "_law_top", "_law_wide", "_law_weight", "_law_size", "_law_rests"]) (sc := defScope s_Lis_small) (by decide +kernel)) (by decide) (fun _ _ _ _ _ => (jg_tup rfl (jgs_cons (jg_name 8 nd rfl (by first | exact Or.inl rfl | exact Or.inr rfl)) (jgs_cons (jg_name 9 nd rfl (by first | exact Or.inl rfl | exact Or.inr rfl)) jgs_nil)))) (fun _ _ _ _ _ => jts_nil) (fun _ _ _ _ _ => (je_mul (je_abs T.n_abs (ja_cons (je_var 8) ja_nil)) (je_var 9)))) ja_nil))) (jss_cons
  (js_if (jt_lt (je_var 1) je_int) (jss_one
  (js_ret je_bl)) jss_nil) (jss_cons
  (js_set 10 nd rfl (by first | exact Or.inl rfl | exact Or.inr rfl) (je_fdiv (je_mul (je_mul (je_mul je_int (je_var 4)) (je_f G_Lpow hr (ja_cons (je_var 2) (ja_cons (je_var 1) ja_nil)))) (je_var 6)) (je_sub (je_var 2) je_int))) (jss_one
  (js_ret (je_lt (je_mul (je_var 10) (je_add (je_mul je_int (je_var 7)) je_int)) je_int)))))))), Vs2 len vc⟩
theorem ok_Lworst {f : Addr} {fd : FuncData} (F : Fun K "_law_worst" "_law_worst" s_Lworst f fd) (T : Tx K mg) (vc : goal_Lworst) (len : ∀ ds S P, sp_Lworst ds S P → ds.length = 1)
    {f_worst_lag : Addr} {fd_worst_lag : FuncData} (G_worst_lag : Does P w K mg base 7 "worst_lag" ["base", "weights", "over", "mosts", "most"] f_worst_lag fd_worst_lag sp_worst_lag) : FnD P w K mg base 8 f fd ["_law_some"] sp_Lworst :=
  fn_d F sc_Lworst len fun cdv A outer s H E hr => ⟨rd_Lworst, (have nd := sc_Lworst.nd
  (jss_cons
  (js_asg (je_var 0) (jg_tup rfl (jgs_cons (jg_name 1 nd rfl (by first | exact Or.inl rfl | exact Or.inr rfl)) (jgs_cons (jg_name 2 nd rfl (by first | exact Or.inl rfl | exact Or.inr rfl)) (jgs_cons (jg_name 3 nd rfl (by first | exact Or.inl rfl | exact Or.inr rfl)) (jgs_cons (jg_name 4 nd rfl (by first | exact Or.inl rfl | exact Or.inr rfl)) (jgs_cons (jg_name 5 nd rfl (by first | exact Or.inl rfl | exact Or.inr rfl)) jgs_nil))))))) (jss_one
  (js_ret (je_f G_worst_lag hr (ja_cons (je_var 1) (ja_cons (je_tupC T.n_tuple (ja_cons (je_var 2) ja_nil)) (ja_cons (je_var 3) (ja_cons (je_tupC T.n_tuple (ja_cons (je_var 4) ja_nil)) (ja_cons (je_var 5) ja_nil)))))))))), Vs1 len vc⟩
theorem ok_Lright {f : Addr} {fd : FuncData} (F : Fun K "_law_right" "_law_right" s_Lright f fd) (T : Tx K mg) (vc : goal_Lright) (len : ∀ ds S P, sp_Lright ds S P → ds.length = 3)
    {f_Lworst : Addr} {fd_Lworst : FuncData} (G_Lworst : Does P w K mg base 8 "_law_worst" ["_law_some"] f_Lworst fd_Lworst sp_Lworst)
    {f_Ltake : Addr} {fd_Ltake : FuncData} (G_Ltake : Does P w K mg base 1 "_law_take" ["_law_box_here", "_law_size"] f_Ltake fd_Ltake sp_Ltake)
    {f_worst_rows : Addr} {fd_worst_rows : FuncData} (G_worst_rows : Does P w K mg base 7 "worst_rows" ["base", "weights", "over", "mosts", "most"] f_worst_rows fd_worst_rows sp_worst_rows)
    {f_shows_worst : Addr} {fd_shows_worst : FuncData} (G_shows_worst : Does P w K mg base 6 "shows_worst" ["base", "weights", "over", "mosts", "most", "lag", "thing"] f_shows_worst fd_shows_worst sp_shows_worst) : FnD P w K mg base 9 f fd ["_law_box_here", "_law_some", "_law_told_here"] sp_Lright :=
  fn_d F sc_Lright len fun cdv A outer s H E hr => ⟨rd_Lright, (have nd := sc_Lright.nd
  (jss_cons
  (js_asg (je_var 1) (jg_tup rfl (jgs_cons (jg_name 3 nd rfl (by first | exact Or.inl rfl | exact Or.inr rfl)) (jgs_cons (jg_name 4 nd rfl (by first | exact Or.inl rfl | exact Or.inr rfl)) (jgs_cons (jg_name 5 nd rfl (by first | exact Or.inl rfl | exact Or.inr rfl)) (jgs_cons (jg_name 6 nd rfl (by first | exact Or.inl rfl | exact Or.inr rfl)) (jgs_cons (jg_name 7 nd rfl (by first | exact Or.inl rfl | exact Or.inr rfl)) jgs_nil))))))) (jss_cons
  (js_par3 8 9 10 rfl nd rfl rfl rfl (by decide) (by decide) (by decide) rfl rfl rfl (ja_cons (je_lstM ja_nil) (ja_cons (je_listR1M T.n_list T.n_range (je_len T.n_len (ja_cons (je_var 4) ja_nil))) (ja_cons (je_f G_Lworst hr (ja_cons (je_var 1) ja_nil)) ja_nil))) (by rfl)) (jss_cons
  (js_while PassesOwn.never (jt_neL hr (je_var 9) (je_lst ja_nil)) (jss_one
  (js_expr (je_append (je_var 8) (je_popAt (je_var 9) (je_f G_Ltake hr (ja_cons (je_var 0) (ja_cons (je_len T.n_len (ja_cons (je_var 9) ja_nil)) ja_nil)))))))) (jss_cons
  (js_asg (je_tup (ja_cons (je_lc [("_law_weight", 13)] rfl nd (ji_seq (je_var 4)) (blkOk_by (N := ["_law_box_here", "_law_some", "_law_told_here", "_law_base", "_law_weights", "_law_under", "_law_sizes", "_law_top", "_law_order", "_law_left", "_law_found", "_law_signs", "_law_many", "_law_weight", "_law_others", "_law_at", "_law_turned_sum", "_law_rows", "_law_others_rows", "_law_lag", "_law_figure", "_law_one", "_law_other"]) (sc := defScope s_Lright) (by decide +kernel)) (by decide) (fun _ _ _ _ _ => (jg_name 13 nd rfl (by first | exact Or.inl rfl | exact Or.inr rfl))) (fun _ _ _ _ _ => jts_nil) (fun _ _ _ _ _ => (je_ix (je_lst (ja_cons je_int (ja_cons (je_neg je_int) ja_nil))) (je_f G_Ltake hr (ja_cons (je_var 0) (ja_cons je_int ja_nil)))))) (ja_cons (je_add je_int (je_f G_Ltake hr (ja_cons (je_var 0) (ja_cons je_int ja_nil)))) ja_nil))) (jg_tup rfl (jgs_cons (jg_name 11 nd rfl (by first | exact Or.inl rfl | exact Or.inr rfl)) (jgs_cons (jg_name 12 nd rfl (by first | exact Or.inl rfl | exact Or.inr rfl)) jgs_nil)))) (jss_cons
  (js_set 12 nd rfl (by first | exact Or.inl rfl | exact Or.inr rfl) (je_ifE (jt_lt (je_mul (je_maxL T.n_max (ja_cons (je_lc [("_law_weight", 13)] rfl nd (ji_seq (je_var 4)) (blkOk_by (N := ["_law_box_here", "_law_some", "_law_told_here", "_law_base", "_law_weights", "_law_under", "_law_sizes", "_law_top", "_law_order", "_law_left", "_law_found", "_law_signs", "_law_many", "_law_weight", "_law_others", "_law_at", "_law_turned_sum", "_law_rows", "_law_others_rows", "_law_lag", "_law_figure", "_law_one", "_law_other"]) (sc := defScope s_Lright) (by decide +kernel)) (by decide) (fun _ _ _ _ _ => (jg_name 13 nd rfl (by first | exact Or.inl rfl | exact Or.inr rfl))) (fun _ _ _ _ _ => jts_nil) (fun _ _ _ _ _ => (je_abs T.n_abs (ja_cons (je_var 13) ja_nil)))) ja_nil)) (je_var 12)) je_int) (je_var 12) je_int)) (jss_cons
  (js_setLc 14 [("_law_at", 15)] rfl nd rfl rfl (sw_true rfl rfl rfl (by decide +kernel)) (ji_seq (je_var 8)) (blkOk_by (N := ["_law_box_here", "_law_some", "_law_told_here", "_law_base", "_law_weights", "_law_under", "_law_sizes", "_law_top", "_law_order", "_law_left", "_law_found", "_law_signs", "_law_many", "_law_weight", "_law_others", "_law_at", "_law_turned_sum", "_law_rows", "_law_others_rows", "_law_lag", "_law_figure", "_law_one", "_law_other"]) (sc := defScope s_Lright) (by decide +kernel)) (by decide) (fun _ _ _ _ _ => (jg_name 15 nd rfl (by first | exact Or.inl rfl | exact Or.inr rfl))) (fun _ _ _ _ _ => jts_nil) (fun _ _ _ _ _ => (je_mul (je_mul (je_ix (je_var 4) (je_var 15)) (je_ix (je_var 11) (je_var 15))) (je_var 12)))) (jss_cons
  (js_set 16 nd rfl (by first | exact Or.inl rfl | exact Or.inr rfl) (je_tup (ja_cons (je_var 3) (ja_cons (je_var 14) (ja_cons (je_mul (je_var 5) (je_var 12)) (ja_cons (je_lc [("_law_at", 15)] rfl nd (ji_seq (je_var 8)) (blkOk_by (N := ["_law_box_here", "_law_some", "_law_told_here", "_law_base", "_law_weights", "_law_under", "_law_sizes", "_law_top", "_law_order", "_law_left", "_law_found", "_law_signs", "_law_many", "_law_weight", "_law_others", "_law_at", "_law_turned_sum", "_law_rows", "_law_others_rows", "_law_lag", "_law_figure", "_law_one", "_law_other"]) (sc := defScope s_Lright) (by decide +kernel)) (by decide) (fun _ _ _ _ _ => (jg_name 15 nd rfl (by first | exact Or.inl rfl | exact Or.inr rfl))) (fun _ _ _ _ _ => jts_nil) (fun _ _ _ _ _ => (je_ix (je_var 6) (je_var 15)))) (ja_cons (je_var 7) ja_nil))))))) (jss_cons
  (js_if (jt_w (jw_or (jt_val (je_isi T.n_isinstance (ja_cons (je_var 10) (ja_cons (je_tyBool T.n_bool) ja_nil)))) (jw_or (jt_gt (je_var 10) (je_var 2)) (jw_or1 (jt_ne hr (je_f G_Lworst hr (ja_cons (je_var 16) ja_nil)) (je_var 10)))))) (jss_one
  (js_ret je_bl)) jss_nil) (jss_cons
  (js_if (jt_w (jw_and (jt_gt (je_var 2) je_int) (jw_and1 (jt_ne hr (je_f G_Lworst hr (ja_cons (je_tup (ja_cons (je_var 3) (ja_cons (je_var 4) (ja_cons (je_mul (je_var 5) (je_var 3)) (ja_cons (je_var 6) (ja_cons (je_var 7) ja_nil)))))) ja_nil)) (je_sub (je_var 10) je_int))))) (jss_one
  (js_ret je_bl)) jss_nil) (jss_cons
  (js_set 17 nd rfl (by first | exact Or.inl rfl | exact Or.inr rfl) (je_f G_worst_rows hr (ja_cons (je_var 3) (ja_cons (je_tupC T.n_tuple (ja_cons (je_var 4) ja_nil)) (ja_cons (je_var 5) (ja_cons (je_tupC T.n_tuple (ja_cons (je_var 6) ja_nil)) (ja_cons (je_var 7) ja_nil))))))) (jss_cons
  (js_par 18 19 rfl nd rfl rfl (by decide) rfl rfl (ja_cons (je_lc [("_law_at", 15)] rfl nd (ji_seq (je_var 8)) (blkOk_by (N := ["_law_box_here", "_law_some", "_law_told_here", "_law_base", "_law_weights", "_law_under", "_law_sizes", "_law_top", "_law_order", "_law_left", "_law_found", "_law_signs", "_law_many", "_law_weight", "_law_others", "_law_at", "_law_turned_sum", "_law_rows", "_law_others_rows", "_law_lag", "_law_figure", "_law_one", "_law_other"]) (sc := defScope s_Lright) (by decide +kernel)) (by decide) (fun _ _ _ _ _ => (jg_name 15 nd rfl (by first | exact Or.inl rfl | exact Or.inr rfl))) (fun _ _ _ _ _ => jts_nil) (fun _ _ _ _ _ => (je_tupC T.n_tuple (ja_cons (je_lc [("_law_figure", 20)] rfl nd (ji_seq (je_ix (je_var 17) (je_var 15))) (blkOk_by (N := ["_law_box_here", "_law_some", "_law_told_here", "_law_base", "_law_weights", "_law_under", "_law_sizes", "_law_top", "_law_order", "_law_left", "_law_found", "_law_signs", "_law_many", "_law_weight", "_law_others", "_law_at", "_law_turned_sum", "_law_rows", "_law_others_rows", "_law_lag", "_law_figure", "_law_one", "_law_other"]) (by kernel_rfl)) (by decide) (fun _ _ _ _ _ => (jg_name 20 nd rfl (by first | exact Or.inl rfl | exact Or.inr rfl))) (fun _ _ _ _ _ => jts_nil) (fun _ _ _ _ _ => (je_mul (je_ix (je_var 11) (je_var 15)) (je_var 20)))) ja_nil)))) (ja_cons (je_max2 T.n_max (ja_cons je_int (ja_cons (je_var 10) ja_nil))) ja_nil)) (by rfl)) (jss_cons
  (js_set 21 nd rfl (by first | exact Or.inl rfl | exact Or.inr rfl) (je_f G_shows_worst hr (ja_cons (je_var 3) (ja_cons (je_tupC T.n_tuple (ja_cons (je_var 4) ja_nil)) (ja_cons (je_var 5) (ja_cons (je_tupC T.n_tuple (ja_cons (je_var 6) ja_nil)) (ja_cons (je_var 7) (ja_cons (je_var 19) (ja_cons (je_var 17) ja_nil))))))))) (jss_cons
  (js_set 22 nd rfl (by first | exact Or.inl rfl | exact Or.inr rfl) (je_f G_shows_worst hr (ja_cons (je_var 3) (ja_cons (je_tupC T.n_tuple (ja_cons (je_var 14) ja_nil)) (ja_cons (je_mul (je_var 5) (je_var 12)) (ja_cons (je_tupC T.n_tuple (ja_cons (je_lc [("_law_at", 15)] rfl nd (ji_seq (je_var 8)) (blkOk_by (N := ["_law_box_here", "_law_some", "_law_told_here", "_law_base", "_law_weights", "_law_under", "_law_sizes", "_law_top", "_law_order", "_law_left", "_law_found", "_law_signs", "_law_many", "_law_weight", "_law_others", "_law_at", "_law_turned_sum", "_law_rows", "_law_others_rows", "_law_lag", "_law_figure", "_law_one", "_law_other"]) (sc := defScope s_Lright) (by decide +kernel)) (by decide) (fun _ _ _ _ _ => (jg_name 15 nd rfl (by first | exact Or.inl rfl | exact Or.inr rfl))) (fun _ _ _ _ _ => jts_nil) (fun _ _ _ _ _ => (je_ix (je_var 6) (je_var 15)))) ja_nil)) (ja_cons (je_var 7) (ja_cons (je_var 19) (ja_cons (je_var 18) ja_nil))))))))) (jss_one
  (js_ret (je_and (je_isi T.n_isinstance (ja_cons (je_var 21) (ja_cons (je_tyBool T.n_bool) ja_nil))) (je_and (je_eq hr (je_var 21) (je_var 22)) (je_one (je_eq hr (je_var 21) (je_ge (je_var 10) je_int))))))))))))))))))))), Vs3 len vc⟩
theorem ok_law {f : Addr} {fd : FuncData} (F : Fun K "law" "law" s_law f fd) (T : Tx K mg) (vc : goal_law) (len : ∀ ds S P, sp_law ds S P → ds.length = 1)
    {f_Lbox : Addr} {fd_Lbox : FuncData} (G_Lbox : Does P w K mg base 2 "_law_box" ["_law_script", "_law_k"] f_Lbox fd_Lbox sp_Lbox)
    {f_Lsum : Addr} {fd_Lsum : FuncData} (G_Lsum : Does P w K mg base 2 "_law_sum" ["_law_box_here", "_law_base"] f_Lsum fd_Lsum sp_Lsum)
    {f_Lof : Addr} {fd_Lof : FuncData} (G_Lof : Does P w K mg base 2 "_law_of" ["_law_box_here", "_law_some"] f_Lof fd_Lof sp_Lof)
    {f_Ltold : Addr} {fd_Ltold : FuncData} (G_Ltold : Does P w K mg base 6 "_law_told" ["_law_some"] f_Ltold fd_Ltold sp_Ltold)
    {f_Lright : Addr} {fd_Lright : FuncData} (G_Lright : Does P w K mg base 9 "_law_right" ["_law_box_here", "_law_some", "_law_told_here"] f_Lright fd_Lright sp_Lright)
    {f_Lis_small : Addr} {fd_Lis_small : FuncData} (G_Lis_small : Does P w K mg base 2 "_law_is_small" ["_law_some", "_law_told_here"] f_Lis_small fd_Lis_small sp_Lis_small) : FnD P w K mg base 10 f fd ["_law_script"] sp_law :=
  fn_d F sc_law len fun cdv A outer s H E hr => ⟨rd_law, (have nd := sc_law.nd
  (jss_cons
  (js_for PassesOwn.never rfl (ji_range1 T.n_range (ja_cons (je_max2 T.n_max (ja_cons je_int (ja_cons (je_min2 T.n_min (ja_cons (je_len T.n_len (ja_cons (je_var 0) ja_nil)) (ja_cons je_int ja_nil))) ja_nil))) ja_nil)) (jg_name 1 nd rfl (by first | exact Or.inl rfl | exact Or.inr rfl)) (jss_cons
  (js_set 2 nd rfl (by first | exact Or.inl rfl | exact Or.inr rfl) (je_f G_Lbox hr (ja_cons (je_var 0) (ja_cons (je_var 1) ja_nil)))) (jss_one
  (js_for PassesOwn.never rfl (ji_range1 T.n_range (ja_cons je_int ja_nil)) (jg_name 3 nd rfl (by first | exact Or.inl rfl | exact Or.inr rfl)) (jss_cons
  (js_set 4 nd rfl (by first | exact Or.inl rfl | exact Or.inr rfl) (je_f G_Lsum hr (ja_cons (je_var 2) (ja_cons (je_f G_Lof hr (ja_cons (je_var 2) (ja_cons (je_lst (ja_cons je_int (ja_cons je_int (ja_cons je_int (ja_cons je_int (ja_cons je_int ja_nil)))))) ja_nil))) ja_nil)))) (jss_cons
  (js_set 5 nd rfl (by first | exact Or.inl rfl | exact Or.inr rfl) (je_f G_Ltold hr (ja_cons (je_var 4) ja_nil))) (jss_one
  (js_if (jt_w (jw_and (jt_val (je_f G_Lis_small hr (ja_cons (je_var 4) (ja_cons (je_var 5) ja_nil)))) (jw_and1 (jt_not (jt_val (je_f G_Lright hr (ja_cons (je_var 2) (ja_cons (je_var 4) (ja_cons (je_var 5) ja_nil))))))))) (jss_one
  (js_ret je_bl)) jss_nil)))))))) (jss_one
  (js_ret je_bl)))), Vs1 len vc⟩
end
theorem all_mk {l : PySem.W.OpenLaw} {w : World} {K : PySem.W.Frag} {h : Heap} {mg : Str → Option Value} {fa : Addr} (X : K.In h) (G : h.Ns mainGlobals mg) (hfa : mg "law" = some (.ref fa)) (c : HD.Says HDR.hdP HDR.hdF HDR.hdT w K)
    : ∃ fd : FuncData, (∀ (s : Shared) (v : Value), BindsTo s fd ⟨[v], []⟩ [("_law_script", v)]) ∧ ∀ base : Heap, K.In base → base.Ns mainGlobals mg → DG.FnG l.prog w K mg base CX0 10 fa fd ["_law_script"] (spLaw K) := by
  have aC_Late : PySem.W.nsIn K mainGlobals "Late" = some (some (.ref (He.ga K "Late"))) := of_decide_eq_true (c.p 0 0 rfl)
  have pg_Late : PySem.W.plainGet K (He.ga K "Late") Str.empty = true := c.p 0 1 rfl
  have hd_Late : PySem.W.hasDictIn K (He.ga K "Late") = true := c.p 0 2 rfl
  have po_Late : PySem.W.plainOver K (He.ga K "Late") = true := c.p 0 3 rfl
  have sa_Late : PySem.W.findIn K (.ref (He.ga K "Late")) "__setattr__" = some (some (.builtin "object.__setattr__")) := of_decide_eq_true (c.p 0 4 rfl)
  have mk_Late : PySem.W.makesIn K (He.ga K "Late") = true := c.p 0 5 rfl
  have kc_Late : PySem.W.keepIn K (.ref (He.ga K "Late")) = true := c.p 0 6 rfl
  have nA_Late_own_base : PySem.W.findIn K (.ref (He.ga K "Late")) "own_base" = some none := of_decide_eq_true (c.p 0 7 rfl)
  have nA_Late_own_most : PySem.W.findIn K (.ref (He.ga K "Late")) "own_most" = some none := of_decide_eq_true (c.p 0 8 rfl)
  have nA_Late_own_over : PySem.W.findIn K (.ref (He.ga K "Late")) "own_over" = some none := of_decide_eq_true (c.p 0 9 rfl)
  have nA_Late_own_sums : PySem.W.findIn K (.ref (He.ga K "Late")) "own_sums" = some none := of_decide_eq_true (c.p 0 10 rfl)
  have nA_Late_own_wide : PySem.W.findIn K (.ref (He.ga K "Late")) "own_wide" = some none := of_decide_eq_true (c.p 0 11 rfl)
  have a_is_number : PySem.W.nsIn K mainGlobals "is_number" = some (some (.ref (He.fAd K ("is_number", none)))) := of_decide_eq_true (c.p 0 12 rfl)
  have a_common : PySem.W.nsIn K mainGlobals "common" = some (some (.ref (He.fAd K ("common", none)))) := of_decide_eq_true (c.p 0 13 rfl)
  have a_frac : PySem.W.nsIn K mainGlobals "frac" = some (some (.ref (He.fAd K ("frac", none)))) := of_decide_eq_true (c.p 0 14 rfl)
  have a_plus : PySem.W.nsIn K mainGlobals "plus" = some (some (.ref (He.fAd K ("plus", none)))) := of_decide_eq_true (c.p 0 15 rfl)
  have a_times : PySem.W.nsIn K mainGlobals "times" = some (some (.ref (He.fAd K ("times", none)))) := of_decide_eq_true (c.p 0 16 rfl)
  have a_is_below : PySem.W.nsIn K mainGlobals "is_below" = some (some (.ref (He.fAd K ("is_below", none)))) := of_decide_eq_true (c.p 0 17 rfl)
  have a_power : PySem.W.nsIn K mainGlobals "power" = some (some (.ref (He.fAd K ("power", none)))) := of_decide_eq_true (c.p 0 18 rfl)
  have a_width_of : PySem.W.nsIn K mainGlobals "width_of" = some (some (.ref (He.fAd K ("width_of", none)))) := of_decide_eq_true (c.p 0 19 rfl)
  have a_least_power : PySem.W.nsIn K mainGlobals "least_power" = some (some (.ref (He.fAd K ("least_power", none)))) := of_decide_eq_true (c.p 0 20 rfl)
  have a_told_lag : PySem.W.nsIn K mainGlobals "told_lag" = some (some (.ref (He.fAd K ("told_lag", none)))) := of_decide_eq_true (c.p 0 21 rfl)
  have a_summed : PySem.W.nsIn K mainGlobals "summed" = some (some (.ref (He.fAd K ("summed", none)))) := of_decide_eq_true (c.p 0 22 rfl)
  have a_Late_init : PySem.W.findIn K (.ref (He.ga K "Late")) "__init__" = some (some (.ref (He.fAd K ("Late", some "__init__")))) := of_decide_eq_true (c.p 0 23 rfl)
  have i_Late_init : PySem.W.isFn K (.ref (He.fAd K ("Late", some "__init__"))) = true := c.p 0 24 rfl
  have a_Late_step_at : PySem.W.findIn K (.ref (He.ga K "Late")) "step_at" = some (some (.ref (He.fAd K ("Late", some "step_at")))) := of_decide_eq_true (c.p 1 0 rfl)
  have i_Late_step_at : PySem.W.isFn K (.ref (He.fAd K ("Late", some "step_at"))) = true := c.p 1 1 rfl
  have a_Late_figure : PySem.W.findIn K (.ref (He.ga K "Late")) "figure" = some (some (.ref (He.fAd K ("Late", some "figure")))) := of_decide_eq_true (c.p 1 2 rfl)
  have i_Late_figure : PySem.W.isFn K (.ref (He.fAd K ("Late", some "figure"))) = true := c.p 1 3 rfl
  have a_Late_settled : PySem.W.findIn K (.ref (He.ga K "Late")) "settled" = some (some (.ref (He.fAd K ("Late", some "settled")))) := of_decide_eq_true (c.p 1 4 rfl)
  have i_Late_settled : PySem.W.isFn K (.ref (He.fAd K ("Late", some "settled"))) = true := c.p 1 5 rfl
  have a_Late_first : PySem.W.findIn K (.ref (He.ga K "Late")) "first" = some (some (.ref (He.fAd K ("Late", some "first")))) := of_decide_eq_true (c.p 1 6 rfl)
  have i_Late_first : PySem.W.isFn K (.ref (He.fAd K ("Late", some "first"))) = true := c.p 1 7 rfl
  have a_Late_behind : PySem.W.findIn K (.ref (He.ga K "Late")) "behind" = some (some (.ref (He.fAd K ("Late", some "behind")))) := of_decide_eq_true (c.p 1 8 rfl)
  have i_Late_behind : PySem.W.isFn K (.ref (He.fAd K ("Late", some "behind"))) = true := c.p 1 9 rfl
  have a_Late_states : PySem.W.findIn K (.ref (He.ga K "Late")) "states" = some (some (.ref (He.fAd K ("Late", some "states")))) := of_decide_eq_true (c.p 1 10 rfl)
  have i_Late_states : PySem.W.isFn K (.ref (He.fAd K ("Late", some "states"))) = true := c.p 1 11 rfl
  have a_worst_lag : PySem.W.nsIn K mainGlobals "worst_lag" = some (some (.ref (He.fAd K ("worst_lag", none)))) := of_decide_eq_true (c.p 1 12 rfl)
  have a_worst_rows : PySem.W.nsIn K mainGlobals "worst_rows" = some (some (.ref (He.fAd K ("worst_rows", none)))) := of_decide_eq_true (c.p 1 13 rfl)
  have a_are_rows : PySem.W.nsIn K mainGlobals "are_rows" = some (some (.ref (He.fAd K ("are_rows", none)))) := of_decide_eq_true (c.p 1 14 rfl)
  have a_shows_worst : PySem.W.nsIn K mainGlobals "shows_worst" = some (some (.ref (He.fAd K ("shows_worst", none)))) := of_decide_eq_true (c.p 1 15 rfl)
  have a_Lcell_at : PySem.W.nsIn K mainGlobals "_law_cell_at" = some (some (.ref (He.fAd K ("_law_cell_at", none)))) := of_decide_eq_true (c.p 1 16 rfl)
  have a_Lbox : PySem.W.nsIn K mainGlobals "_law_box" = some (some (.ref (He.fAd K ("_law_box", none)))) := of_decide_eq_true (c.p 1 17 rfl)
  have a_Ltake : PySem.W.nsIn K mainGlobals "_law_take" = some (some (.ref (He.fAd K ("_law_take", none)))) := of_decide_eq_true (c.p 1 18 rfl)
  have a_Lof : PySem.W.nsIn K mainGlobals "_law_of" = some (some (.ref (He.fAd K ("_law_of", none)))) := of_decide_eq_true (c.p 1 19 rfl)
  have a_Lpow : PySem.W.nsIn K mainGlobals "_law_pow" = some (some (.ref (He.fAd K ("_law_pow", none)))) := of_decide_eq_true (c.p 1 20 rfl)
  have a_Lsum : PySem.W.nsIn K mainGlobals "_law_sum" = some (some (.ref (He.fAd K ("_law_sum", none)))) := of_decide_eq_true (c.p 1 21 rfl)
  have a_Ltold : PySem.W.nsIn K mainGlobals "_law_told" = some (some (.ref (He.fAd K ("_law_told", none)))) := of_decide_eq_true (c.p 1 22 rfl)
  have a_Lis_small : PySem.W.nsIn K mainGlobals "_law_is_small" = some (some (.ref (He.fAd K ("_law_is_small", none)))) := of_decide_eq_true (c.p 1 23 rfl)
  have a_Lworst : PySem.W.nsIn K mainGlobals "_law_worst" = some (some (.ref (He.fAd K ("_law_worst", none)))) := of_decide_eq_true (c.p 1 24 rfl)
  have a_Lright : PySem.W.nsIn K mainGlobals "_law_right" = some (some (.ref (He.fAd K ("_law_right", none)))) := of_decide_eq_true (c.p 2 0 rfl)
  have a_law : PySem.W.nsIn K mainGlobals "law" = some (some (.ref (He.fAd K ("law", none)))) := of_decide_eq_true (c.p 2 1 rfl)
  have z_abs : PySem.W.nsIn K mainGlobals "abs" = some none := of_decide_eq_true (c.p 2 2 rfl)
  have z_all : PySem.W.nsIn K mainGlobals "all" = some none := of_decide_eq_true (c.p 2 3 rfl)
  have z_bool : PySem.W.nsIn K mainGlobals "bool" = some none := of_decide_eq_true (c.p 2 4 rfl)
  have z_int : PySem.W.nsIn K mainGlobals "int" = some none := of_decide_eq_true (c.p 2 5 rfl)
  have z_isinstance : PySem.W.nsIn K mainGlobals "isinstance" = some none := of_decide_eq_true (c.p 2 6 rfl)
  have z_len : PySem.W.nsIn K mainGlobals "len" = some none := of_decide_eq_true (c.p 2 7 rfl)
  have z_list : PySem.W.nsIn K mainGlobals "list" = some none := of_decide_eq_true (c.p 2 8 rfl)
  have z_max : PySem.W.nsIn K mainGlobals "max" = some none := of_decide_eq_true (c.p 2 9 rfl)
  have z_min : PySem.W.nsIn K mainGlobals "min" = some none := of_decide_eq_true (c.p 2 10 rfl)
  have z_range : PySem.W.nsIn K mainGlobals "range" = some none := of_decide_eq_true (c.p 2 11 rfl)
  have z_sorted : PySem.W.nsIn K mainGlobals "sorted" = some none := of_decide_eq_true (c.p 2 12 rfl)
  have z_sum : PySem.W.nsIn K mainGlobals "sum" = some none := of_decide_eq_true (c.p 2 13 rfl)
  have z_tuple : PySem.W.nsIn K mainGlobals "tuple" = some none := of_decide_eq_true (c.p 2 14 rfl)
  have z_zip : PySem.W.nsIn K mainGlobals "zip" = some none := of_decide_eq_true (c.p 2 15 rfl)
  obtain ⟨q_MOST_STATES, g_MOST_STATES⟩ : ∃ q : Tok, PySem.W.nsIn K mainGlobals "MOST_STATES" = some (some (.int 2000 q)) := HD.lit_int (c.p 2 16 rfl)
  have e := hfa.symm.trans (PySem.W.mg_of X G a_law)
  cases e
  letI : CT := ⟨fun n => match n with | 2 => (He.ga K "Late") | _ => 0⟩
  have T : Tx K mg := ⟨⟨pg_Late, hd_Late, po_Late, sa_Late⟩, nA_Late_own_base, nA_Late_own_most, nA_Late_own_over, nA_Late_own_sums, nA_Late_own_wide, PySem.W.mg_none_of X G z_abs, PySem.W.mg_none_of X G z_all, PySem.W.mg_none_of X G z_bool, PySem.W.mg_none_of X G z_int, PySem.W.mg_none_of X G z_isinstance, PySem.W.mg_none_of X G z_len, PySem.W.mg_none_of X G z_list, PySem.W.mg_none_of X G z_max, PySem.W.mg_none_of X G z_min, PySem.W.mg_none_of X G z_range, PySem.W.mg_none_of X G z_sorted, PySem.W.mg_none_of X G z_sum, PySem.W.mg_none_of X G z_tuple, PySem.W.mg_none_of X G z_zip, ⟨_, PySem.W.mg_of X G g_MOST_STATES⟩⟩
  have F_is_number : Fun K "is_number" "is_number" s_is_number (He.fAd K ("is_number", none)) (HD.fdo K (He.fAd K ("is_number", none))) := c.f0 0 0 rfl
  have k_is_number := F_is_number.kp
  have B_is_number := F_is_number.binds (ps := ["thing"]) fun _ _ _ _ _ _ us hl => us_1 us hl fun _ => rfl
  have F_common : Fun K "common" "common" s_common (He.fAd K ("common", none)) (HD.fdo K (He.fAd K ("common", none))) := c.f0 0 1 rfl
  have k_common := F_common.kp
  have B_common := F_common.binds (ps := ["one", "other"]) fun _ _ _ _ _ _ us hl => us_2 us hl fun _ _ => rfl
  have F_frac : FunD K "frac" "frac" (defArgs s_frac) (defBody s_frac) (defScope s_frac) [.int 1] [] (He.fAd K ("frac", none)) (HD.fdo K (He.fAd K ("frac", none))) := c.f1 0 2 rfl
  have k_frac := F_frac.kp
  have B_frac := bindsAll (ps := ["top", "bottom"]) F_frac 2 (by simp) rfl fun T kV doc pm an cdv ct us its hl h2 => match us, its, hl, h2 with | [_, _], [_], _, _ => ⟨_, rfl, rfl⟩
  have F_plus : Fun K "plus" "plus" s_plus (He.fAd K ("plus", none)) (HD.fdo K (He.fAd K ("plus", none))) := c.f0 0 3 rfl
  have k_plus := F_plus.kp
  have B_plus := F_plus.binds (ps := ["one", "other"]) fun _ _ _ _ _ _ us hl => us_2 us hl fun _ _ => rfl
  have F_times : Fun K "times" "times" s_times (He.fAd K ("times", none)) (HD.fdo K (He.fAd K ("times", none))) := c.f0 0 4 rfl
  have k_times := F_times.kp
  have B_times := F_times.binds (ps := ["one", "other"]) fun _ _ _ _ _ _ us hl => us_2 us hl fun _ _ => rfl
  have F_is_below : Fun K "is_below" "is_below" s_is_below (He.fAd K ("is_below", none)) (HD.fdo K (He.fAd K ("is_below", none))) := c.f0 0 5 rfl
  have k_is_below := F_is_below.kp
  have B_is_below := F_is_below.binds (ps := ["one", "other"]) fun _ _ _ _ _ _ us hl => us_2 us hl fun _ _ => rfl
  have F_power : Fun K "power" "power" s_power (He.fAd K ("power", none)) (HD.fdo K (He.fAd K ("power", none))) := c.f0 0 6 rfl
  have k_power := F_power.kp
  have B_power := F_power.binds (ps := ["base", "many"]) fun _ _ _ _ _ _ us hl => us_2 us hl fun _ _ => rfl
  have F_width_of : Fun K "width_of" "width_of" s_width_of (He.fAd K ("width_of", none)) (HD.fdo K (He.fAd K ("width_of", none))) := c.f0 0 7 rfl
  have k_width_of := F_width_of.kp
  have B_width_of := F_width_of.binds (ps := ["base", "kind", "sources"]) fun _ _ _ _ _ _ us hl => us_3 us hl fun _ _ _ => rfl
  have F_least_power : Fun K "least_power" "least_power" s_least_power (He.fAd K ("least_power", none)) (HD.fdo K (He.fAd K ("least_power", none))) := c.f0 0 8 rfl
  have k_least_power := F_least_power.kp
  have B_least_power := F_least_power.binds (ps := ["base", "room", "need"]) fun _ _ _ _ _ _ us hl => us_3 us hl fun _ _ _ => rfl
  have F_told_lag : Fun K "told_lag" "told_lag" s_told_lag (He.fAd K ("told_lag", none)) (HD.fdo K (He.fAd K ("told_lag", none))) := c.f0 0 9 rfl
  have k_told_lag := F_told_lag.kp
  have B_told_lag := F_told_lag.binds (ps := ["base", "kind", "sources", "begin", "most"]) fun _ _ _ _ _ _ us hl => us_5 us hl fun _ _ _ _ _ => rfl
  have F_summed : Fun K "summed" "summed" s_summed (He.fAd K ("summed", none)) (HD.fdo K (He.fAd K ("summed", none))) := c.f0 0 10 rfl
  have k_summed := F_summed.kp
  have B_summed := F_summed.binds (ps := ["weights", "mosts"]) fun _ _ _ _ _ _ us hl => us_2 us hl fun _ _ => rfl
  have F_Late_init : Fun K "__init__" "Late.__init__" s_Late_init (He.fAd K ("Late", some "__init__")) (HD.fdo K (He.fAd K ("Late", some "__init__"))) := c.f0 0 11 rfl
  have k_Late_init := F_Late_init.kp
  have B_Late_init := F_Late_init.binds (ps := ["self", "base", "weights", "over", "mosts", "most"]) fun _ _ _ _ _ _ us hl => us_6 us hl fun _ _ _ _ _ _ => rfl
  have F_Late_step_at : Fun K "step_at" "Late.step_at" s_Late_step_at (He.fAd K ("Late", some "step_at")) (HD.fdo K (He.fAd K ("Late", some "step_at"))) := c.f0 0 12 rfl
  have k_Late_step_at := F_Late_step_at.kp
  have B_Late_step_at := F_Late_step_at.binds (ps := ["self", "rest", "lead"]) fun _ _ _ _ _ _ us hl => us_3 us hl fun _ _ _ => rfl
  have F_Late_figure : Fun K "figure" "Late.figure" s_Late_figure (He.fAd K ("Late", some "figure")) (HD.fdo K (He.fAd K ("Late", some "figure"))) := c.f0 0 13 rfl
  have k_Late_figure := F_Late_figure.kp
  have B_Late_figure := F_Late_figure.binds (ps := ["self", "rest", "lead"]) fun _ _ _ _ _ _ us hl => us_3 us hl fun _ _ _ => rfl
  have F_Late_settled : Fun K "settled" "Late.settled" s_Late_settled (He.fAd K ("Late", some "settled")) (HD.fdo K (He.fAd K ("Late", some "settled"))) := c.f0 0 14 rfl
  have k_Late_settled := F_Late_settled.kp
  have B_Late_settled := F_Late_settled.binds (ps := ["self", "rest", "lead"]) fun _ _ _ _ _ _ us hl => us_3 us hl fun _ _ _ => rfl
  have F_Late_first : Fun K "first" "Late.first" s_Late_first (He.fAd K ("Late", some "first")) (HD.fdo K (He.fAd K ("Late", some "first"))) := c.f0 0 15 rfl
  have k_Late_first := F_Late_first.kp
  have B_Late_first := F_Late_first.binds (ps := ["self"]) fun _ _ _ _ _ _ us hl => us_1 us hl fun _ => rfl
  have F_Late_behind : Fun K "behind" "Late.behind" s_Late_behind (He.fAd K ("Late", some "behind")) (HD.fdo K (He.fAd K ("Late", some "behind"))) := c.f0 0 16 rfl
  have k_Late_behind := F_Late_behind.kp
  have B_Late_behind := F_Late_behind.binds (ps := ["self", "state", "value"]) fun _ _ _ _ _ _ us hl => us_3 us hl fun _ _ _ => rfl
  have F_Late_states : Fun K "states" "Late.states" s_Late_states (He.fAd K ("Late", some "states")) (HD.fdo K (He.fAd K ("Late", some "states"))) := c.f0 0 17 rfl
  have k_Late_states := F_Late_states.kp
  have B_Late_states := F_Late_states.binds (ps := ["self"]) fun _ _ _ _ _ _ us hl => us_1 us hl fun _ => rfl
  have F_worst_lag : Fun K "worst_lag" "worst_lag" s_worst_lag (He.fAd K ("worst_lag", none)) (HD.fdo K (He.fAd K ("worst_lag", none))) := c.f0 0 18 rfl
  have k_worst_lag := F_worst_lag.kp
  have B_worst_lag := F_worst_lag.binds (ps := ["base", "weights", "over", "mosts", "most"]) fun _ _ _ _ _ _ us hl => us_5 us hl fun _ _ _ _ _ => rfl
  have F_worst_rows : Fun K "worst_rows" "worst_rows" s_worst_rows (He.fAd K ("worst_rows", none)) (HD.fdo K (He.fAd K ("worst_rows", none))) := c.f0 0 19 rfl
  have k_worst_rows := F_worst_rows.kp
  have B_worst_rows := F_worst_rows.binds (ps := ["base", "weights", "over", "mosts", "most"]) fun _ _ _ _ _ _ us hl => us_5 us hl fun _ _ _ _ _ => rfl
  have F_are_rows : Fun K "are_rows" "are_rows" s_are_rows (He.fAd K ("are_rows", none)) (HD.fdo K (He.fAd K ("are_rows", none))) := c.f0 0 20 rfl
  have k_are_rows := F_are_rows.kp
  have B_are_rows := F_are_rows.binds (ps := ["mosts", "thing"]) fun _ _ _ _ _ _ us hl => us_2 us hl fun _ _ => rfl
  have F_shows_worst : Fun K "shows_worst" "shows_worst" s_shows_worst (He.fAd K ("shows_worst", none)) (HD.fdo K (He.fAd K ("shows_worst", none))) := c.f0 0 21 rfl
  have k_shows_worst := F_shows_worst.kp
  have B_shows_worst := F_shows_worst.binds (ps := ["base", "weights", "over", "mosts", "most", "lag", "thing"]) fun _ _ _ _ _ _ us hl => us_7 us hl fun _ _ _ _ _ _ _ => rfl
  have F_Lcell_at : Fun K "_law_cell_at" "_law_cell_at" s_Lcell_at (He.fAd K ("_law_cell_at", none)) (HD.fdo K (He.fAd K ("_law_cell_at", none))) := c.f0 0 22 rfl
  have k_Lcell_at := F_Lcell_at.kp
  have B_Lcell_at := F_Lcell_at.binds (ps := ["_law_script", "_law_k"]) fun _ _ _ _ _ _ us hl => us_2 us hl fun _ _ => rfl
  have F_Lbox : Fun K "_law_box" "_law_box" s_Lbox (He.fAd K ("_law_box", none)) (HD.fdo K (He.fAd K ("_law_box", none))) := c.f0 0 23 rfl
  have k_Lbox := F_Lbox.kp
  have B_Lbox := F_Lbox.binds (ps := ["_law_script", "_law_k"]) fun _ _ _ _ _ _ us hl => us_2 us hl fun _ _ => rfl
  have F_Ltake : Fun K "_law_take" "_law_take" s_Ltake (He.fAd K ("_law_take", none)) (HD.fdo K (He.fAd K ("_law_take", none))) := c.f0 0 24 rfl
  have k_Ltake := F_Ltake.kp
  have B_Ltake := F_Ltake.binds (ps := ["_law_box_here", "_law_size"]) fun _ _ _ _ _ _ us hl => us_2 us hl fun _ _ => rfl
  have F_Lof : Fun K "_law_of" "_law_of" s_Lof (He.fAd K ("_law_of", none)) (HD.fdo K (He.fAd K ("_law_of", none))) := c.f0 1 0 rfl
  have k_Lof := F_Lof.kp
  have B_Lof := F_Lof.binds (ps := ["_law_box_here", "_law_some"]) fun _ _ _ _ _ _ us hl => us_2 us hl fun _ _ => rfl
  have F_Lpow : Fun K "_law_pow" "_law_pow" s_Lpow (He.fAd K ("_law_pow", none)) (HD.fdo K (He.fAd K ("_law_pow", none))) := c.f0 1 1 rfl
  have k_Lpow := F_Lpow.kp
  have B_Lpow := F_Lpow.binds (ps := ["_law_base", "_law_size"]) fun _ _ _ _ _ _ us hl => us_2 us hl fun _ _ => rfl
  have F_Lsum : Fun K "_law_sum" "_law_sum" s_Lsum (He.fAd K ("_law_sum", none)) (HD.fdo K (He.fAd K ("_law_sum", none))) := c.f0 1 2 rfl
  have k_Lsum := F_Lsum.kp
  have B_Lsum := F_Lsum.binds (ps := ["_law_box_here", "_law_base"]) fun _ _ _ _ _ _ us hl => us_2 us hl fun _ _ => rfl
  have F_Ltold : Fun K "_law_told" "_law_told" s_Ltold (He.fAd K ("_law_told", none)) (HD.fdo K (He.fAd K ("_law_told", none))) := c.f0 1 3 rfl
  have k_Ltold := F_Ltold.kp
  have B_Ltold := F_Ltold.binds (ps := ["_law_some"]) fun _ _ _ _ _ _ us hl => us_1 us hl fun _ => rfl
  have F_Lis_small : Fun K "_law_is_small" "_law_is_small" s_Lis_small (He.fAd K ("_law_is_small", none)) (HD.fdo K (He.fAd K ("_law_is_small", none))) := c.f0 1 4 rfl
  have k_Lis_small := F_Lis_small.kp
  have B_Lis_small := F_Lis_small.binds (ps := ["_law_some", "_law_told_here"]) fun _ _ _ _ _ _ us hl => us_2 us hl fun _ _ => rfl
  have F_Lworst : Fun K "_law_worst" "_law_worst" s_Lworst (He.fAd K ("_law_worst", none)) (HD.fdo K (He.fAd K ("_law_worst", none))) := c.f0 1 5 rfl
  have k_Lworst := F_Lworst.kp
  have B_Lworst := F_Lworst.binds (ps := ["_law_some"]) fun _ _ _ _ _ _ us hl => us_1 us hl fun _ => rfl
  have F_Lright : Fun K "_law_right" "_law_right" s_Lright (He.fAd K ("_law_right", none)) (HD.fdo K (He.fAd K ("_law_right", none))) := c.f0 1 6 rfl
  have k_Lright := F_Lright.kp
  have B_Lright := F_Lright.binds (ps := ["_law_box_here", "_law_some", "_law_told_here"]) fun _ _ _ _ _ _ us hl => us_3 us hl fun _ _ _ => rfl
  have F_law : Fun K "law" "law" s_law (He.fAd K ("law", none)) (HD.fdo K (He.fAd K ("law", none))) := c.f0 1 7 rfl
  have k_law := F_law.kp
  have B_law := F_law.binds (ps := ["_law_script"]) fun _ _ _ _ _ _ us hl => us_1 us hl fun _ => rfl
  refine ⟨_, HD.law_binds F_law fun _ _ _ _ _ _ s v => .of_eq rfl, fun base _ _ => ?_⟩
  have G_is_number : Does l.prog w K mg base 1 "is_number" ["thing"] _ _ sp_is_number := ⟨PySem.W.mg_of X G a_is_number, k_is_number, B_is_number, ok_is_number F_is_number T vc_is_number len_is_number  ⟩
  have G_common : Does l.prog w K mg base 1 "common" ["one", "other"] _ _ sp_common := ⟨PySem.W.mg_of X G a_common, k_common, B_common, ok_common F_common T vc_common len_common  ⟩
  have G_frac : Does l.prog w K mg base 2 "frac" ["top", "bottom"] _ _ sp_frac := ⟨PySem.W.mg_of X G a_frac, k_frac, B_frac, ok_frac F_frac T vc_frac len_frac G_common ⟩
  have G_plus : Does l.prog w K mg base 3 "plus" ["one", "other"] _ _ sp_plus := ⟨PySem.W.mg_of X G a_plus, k_plus, B_plus, ok_plus F_plus T vc_plus len_plus G_frac ⟩
  have G_times : Does l.prog w K mg base 3 "times" ["one", "other"] _ _ sp_times := ⟨PySem.W.mg_of X G a_times, k_times, B_times, ok_times F_times T vc_times len_times G_frac ⟩
  have G_is_below : Does l.prog w K mg base 1 "is_below" ["one", "other"] _ _ sp_is_below := ⟨PySem.W.mg_of X G a_is_below, k_is_below, B_is_below, ok_is_below F_is_below T vc_is_below len_is_below  ⟩
  have G_power : Does l.prog w K mg base 1 "power" ["base", "many"] _ _ sp_power := ⟨PySem.W.mg_of X G a_power, k_power, B_power, ok_power F_power T vc_power len_power  ⟩
  have G_width_of : Does l.prog w K mg base 4 "width_of" ["base", "kind", "sources"] _ _ sp_width_of := ⟨PySem.W.mg_of X G a_width_of, k_width_of, B_width_of, ok_width_of F_width_of T vc_width_of len_width_of G_frac G_power G_times G_plus ⟩
  have G_least_power : Does l.prog w K mg base 4 "least_power" ["base", "room", "need"] _ _ sp_least_power := ⟨PySem.W.mg_of X G a_least_power, k_least_power, B_least_power, ok_least_power F_least_power T vc_least_power len_least_power G_is_below G_times G_power ⟩
  have G_told_lag : Does l.prog w K mg base 5 "told_lag" ["base", "kind", "sources", "begin", "most"] _ _ sp_told_lag := ⟨PySem.W.mg_of X G a_told_lag, k_told_lag, B_told_lag, ok_told_lag F_told_lag T vc_told_lag len_told_lag G_least_power G_times G_width_of ⟩
  have G_summed : Does l.prog w K mg base 1 "summed" ["weights", "mosts"] _ _ sp_summed := ⟨PySem.W.mg_of X G a_summed, k_summed, B_summed, ok_summed F_summed T vc_summed len_summed  ⟩
  have G_Late_init : DoesI l.prog w K mg base 2 2 "Late" ["self", "base", "weights", "over", "mosts", "most"] _ _ sp_Late_init := ⟨PySem.W.mg_of X G aC_Late, ⟨mk_Late, a_Late_init, i_Late_init, kc_Late⟩, ok_Late_init F_Late_init T vc_Late_init len_Late_init G_summed ⟩
  have G_Late_step_at : DoesM l.prog w K mg base 2 2 "step_at" ["self", "rest", "lead"] _ _ sp_Late_step_at := ⟨T.k_Late, ⟨a_Late_step_at, i_Late_step_at, k_Late_step_at⟩, B_Late_step_at, ok_Late_step_at F_Late_step_at T vc_Late_step_at len_Late_step_at G_power ⟩
  have G_Late_figure : DoesM l.prog w K mg base 3 2 "figure" ["self", "rest", "lead"] _ _ sp_Late_figure := ⟨T.k_Late, ⟨a_Late_figure, i_Late_figure, k_Late_figure⟩, B_Late_figure, ok_Late_figure F_Late_figure T vc_Late_figure len_Late_figure G_Late_step_at ⟩
  have G_Late_settled : DoesM l.prog w K mg base 4 2 "settled" ["self", "rest", "lead"] _ _ sp_Late_settled := ⟨T.k_Late, ⟨a_Late_settled, i_Late_settled, k_Late_settled⟩, B_Late_settled, ok_Late_settled F_Late_settled T vc_Late_settled len_Late_settled G_Late_figure G_Late_step_at ⟩
  have G_Late_first : DoesM l.prog w K mg base 5 2 "first" ["self"] _ _ sp_Late_first := ⟨T.k_Late, ⟨a_Late_first, i_Late_first, k_Late_first⟩, B_Late_first, ok_Late_first F_Late_first T vc_Late_first len_Late_first G_Late_figure G_Late_settled ⟩
  have G_Late_behind : DoesM l.prog w K mg base 5 2 "behind" ["self", "state", "value"] _ _ sp_Late_behind := ⟨T.k_Late, ⟨a_Late_behind, i_Late_behind, k_Late_behind⟩, B_Late_behind, ok_Late_behind F_Late_behind T vc_Late_behind len_Late_behind G_Late_settled G_power ⟩
  have G_Late_states : DoesM l.prog w K mg base 6 2 "states" ["self"] _ _ sp_Late_states := ⟨T.k_Late, ⟨a_Late_states, i_Late_states, k_Late_states⟩, B_Late_states, ok_Late_states F_Late_states T vc_Late_states len_Late_states G_Late_first G_Late_behind ⟩
  have G_worst_lag : Does l.prog w K mg base 7 "worst_lag" ["base", "weights", "over", "mosts", "most"] _ _ sp_worst_lag := ⟨PySem.W.mg_of X G a_worst_lag, k_worst_lag, B_worst_lag, ok_worst_lag F_worst_lag T vc_worst_lag len_worst_lag G_Late_states G_Late_init B_Late_init ⟩
  have G_worst_rows : Does l.prog w K mg base 7 "worst_rows" ["base", "weights", "over", "mosts", "most"] _ _ sp_worst_rows := ⟨PySem.W.mg_of X G a_worst_rows, k_worst_rows, B_worst_rows, ok_worst_rows F_worst_rows T vc_worst_rows len_worst_rows G_Late_init B_Late_init G_Late_states ⟩
  have G_are_rows : Does l.prog w K mg base 2 "are_rows" ["mosts", "thing"] _ _ sp_are_rows := ⟨PySem.W.mg_of X G a_are_rows, k_are_rows, B_are_rows, ok_are_rows F_are_rows T vc_are_rows len_are_rows G_is_number ⟩
  have G_shows_worst : Does l.prog w K mg base 6 "shows_worst" ["base", "weights", "over", "mosts", "most", "lag", "thing"] _ _ sp_shows_worst := ⟨PySem.W.mg_of X G a_shows_worst, k_shows_worst, B_shows_worst, ok_shows_worst F_shows_worst T vc_shows_worst len_shows_worst G_are_rows G_Late_init B_Late_init G_Late_first G_Late_behind ⟩
  have G_Lcell_at : Does l.prog w K mg base 1 "_law_cell_at" ["_law_script", "_law_k"] _ _ sp_Lcell_at := ⟨PySem.W.mg_of X G a_Lcell_at, k_Lcell_at, B_Lcell_at, ok_Lcell_at F_Lcell_at T vc_Lcell_at len_Lcell_at  ⟩
  have G_Lbox : Does l.prog w K mg base 2 "_law_box" ["_law_script", "_law_k"] _ _ sp_Lbox := ⟨PySem.W.mg_of X G a_Lbox, k_Lbox, B_Lbox, ok_Lbox F_Lbox T vc_Lbox len_Lbox G_Lcell_at ⟩
  have G_Ltake : Does l.prog w K mg base 1 "_law_take" ["_law_box_here", "_law_size"] _ _ sp_Ltake := ⟨PySem.W.mg_of X G a_Ltake, k_Ltake, B_Ltake, ok_Ltake F_Ltake T vc_Ltake len_Ltake  ⟩
  have G_Lof : Does l.prog w K mg base 2 "_law_of" ["_law_box_here", "_law_some"] _ _ sp_Lof := ⟨PySem.W.mg_of X G a_Lof, k_Lof, B_Lof, ok_Lof F_Lof T vc_Lof len_Lof G_Ltake ⟩
  have G_Lpow : Does l.prog w K mg base 1 "_law_pow" ["_law_base", "_law_size"] _ _ sp_Lpow := ⟨PySem.W.mg_of X G a_Lpow, k_Lpow, B_Lpow, ok_Lpow F_Lpow T vc_Lpow len_Lpow  ⟩
  have G_Lsum : Does l.prog w K mg base 2 "_law_sum" ["_law_box_here", "_law_base"] _ _ sp_Lsum := ⟨PySem.W.mg_of X G a_Lsum, k_Lsum, B_Lsum, ok_Lsum F_Lsum T vc_Lsum len_Lsum G_Ltake ⟩
  have G_Ltold : Does l.prog w K mg base 6 "_law_told" ["_law_some"] _ _ sp_Ltold := ⟨PySem.W.mg_of X G a_Ltold, k_Ltold, B_Ltold, ok_Ltold F_Ltold T vc_Ltold len_Ltold G_told_lag ⟩
  have G_Lis_small : Does l.prog w K mg base 2 "_law_is_small" ["_law_some", "_law_told_here"] _ _ sp_Lis_small := ⟨PySem.W.mg_of X G a_Lis_small, k_Lis_small, B_Lis_small, ok_Lis_small F_Lis_small T vc_Lis_small len_Lis_small G_Lpow ⟩
  have G_Lworst : Does l.prog w K mg base 8 "_law_worst" ["_law_some"] _ _ sp_Lworst := ⟨PySem.W.mg_of X G a_Lworst, k_Lworst, B_Lworst, ok_Lworst F_Lworst T vc_Lworst len_Lworst G_worst_lag ⟩
  have G_Lright : Does l.prog w K mg base 9 "_law_right" ["_law_box_here", "_law_some", "_law_told_here"] _ _ sp_Lright := ⟨PySem.W.mg_of X G a_Lright, k_Lright, B_Lright, ok_Lright F_Lright T vc_Lright len_Lright G_Lworst G_Ltake G_worst_rows G_shows_worst ⟩
  have G_law : Does l.prog w K mg base 10 "law" ["_law_script"] _ _ sp_law := ⟨PySem.W.mg_of X G a_law, k_law, B_law, ok_law F_law T vc_law len_law G_Lbox G_Lsum G_Lof G_Ltold G_Lright G_Lis_small ⟩
  exact G_law.ok.imp law_up
end K31
open PySem PySem.W PyProof.Rows
set_option maxHeartbeats 0 in
theorem PySem.Challenge.cw_firstfigures_k31_worst_lags_that_are_one_holds : PySem.Challenge.rw_firstfigures_k31_worst_lags_that_are_one.Holds := by
  w_on; o_law
  refine HandSHeadRun.head_any (r := HDR.hdR) (q := HDR.hdV) (H := HDR.hdK) (ob := HDR.hdO) (M := 20000) (loose := HDR.hdN) (d := HandSHeadRun.topDef HDR.hdR.prog 32) (kwd := []) HDR.hdO_eq (by kernel_rfl) (fun s => by kernel_rfl) HDR.hdE (by kernel_rfl) (by kernel_rfl) (by kernel_rfl) (by rfl) (by first | assumption | decide +kernel) (by decide +kernel) ⟨rfl, rfl, rfl, rfl, rfl, by decide +kernel⟩ ?hw ?hc
  case hw => w_witness2
  case hc =>
    refine HD.walk_of (l := PySem.Challenge.rw_firstfigures_k31_worst_lags_that_are_one) (n := 63) (k := 10) (x := "_law_script") (CX := fun _ => L2.CX0) (sp := fun _ K => DL.spLaw K) rfl (by decide) (by kernel_rfl) ⟨⟨rfl, by decide, by decide⟩, rfl⟩ ?F (fun _ _ _ a ns hl _ hS => ⟨a, ns, rfl, hS, hl, fun _ => rfl⟩) (fun _ _ _ _ _ h => h)
    intro w mg fa h Y G hmg0
    obtain ⟨K, KX, c⟩ := Y
    have hmg : mg "law" = some (.ref fa) := by
      have e : (HandSHeadRun.topDef HDR.hdR.prog 32).name = ("law" : PySem.Str) := by kernel_rfl
      rw [← e]
      exact hmg0
    exact ⟨K, KX, K31.all_mk KX G hmg c⟩
