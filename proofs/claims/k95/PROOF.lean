import PyProof.Rows.All
import Wide.All
import OpenK.AllK
import Wide.FinOn
import HandS.ForMost
import HandS.Wide
import HandS.Zip
import HandS.TupAny
import HandS.IsInst
import HandS.Style
import HandS.Defaults
import HandS.EndTab
import HandS.NoneIn
import OpenK.KMore
import KE.GoesMore
import KE.GoesEnumKw
import PyProof.Rows.NestShow
import PyProof.ReprLen
import HandS.Conv
import HandS.TupMul
import HandS.Deep
import HandS.More
import HandS.MakeKwOnly
import KE.DataMinKey
import KE.KMinKey
import HandS.SortKw
import PyProof.SeqI3
import HandS.Nested
import KE.KNestM
import KE.DatumOrd
import PySem.Challenge.RW_firstfigures_k95_whole_there_and_back
set_option Elab.async false
set_option linter.all false
set_option maxRecDepth 100000
set_option maxHeartbeats 4000000
/-! Promises of defs where nothing is shown (repr) further up the stack. -/
namespace DG
open PySem PySem.Spec PyProof.Rows L2
local macro_rules | `(tactic| omega) => `(tactic| first | assumption | lia)
theorem _root_.El54 {A B C D E : Sort _} {p q r s : A → B → C → D → E → Prop} {G : Prop} (h : ∃ a b c d e, p a b c d e ∧ q a b c d e ∧ r a b c d e ∧ s a b c d e) (f : ∀ a b c d e, p a b c d e → q a b c d e → r a b c d e → s a b c d e → G) : G := by
  obtain ⟨a, b, c, d, e, h1, h2, h3, h4⟩ := h
  exact f a b c d e h1 h2 h3 h4
theorem _root_.El55 {A B C D E : Sort _} {p q r s t : A → B → C → D → E → Prop} {G : Prop} (h : ∃ a b c d e, p a b c d e ∧ q a b c d e ∧ r a b c d e ∧ s a b c d e ∧ t a b c d e) (f : ∀ a b c d e, p a b c d e → q a b c d e → r a b c d e → s a b c d e → t a b c d e → G) : G := by
  obtain ⟨a, b, c, d, e, h1, h2, h3, h4, h5⟩ := h
  exact f a b c d e h1 h2 h3 h4 h5
theorem _root_.Vs1 {α : Type _} {β γ : Sort _} {sp C : List α → β → γ → Prop} (len : ∀ ds S P, sp ds S P → ds.length = 1) (vc : ∀ x0 S P, sp [x0] S P → C [x0] S P) : ∀ ds S P, sp ds S P → C ds S P := fun ds S P h => by
  have l := len ds S P h
  match ds, l, h with
  | [x0], _, h => exact vc x0 S P h
theorem _root_.Vs2 {α : Type _} {β γ : Sort _} {sp C : List α → β → γ → Prop} (len : ∀ ds S P, sp ds S P → ds.length = 2) (vc : ∀ x0 x1 S P, sp [x0, x1] S P → C [x0, x1] S P) : ∀ ds S P, sp ds S P → C ds S P := fun ds S P h => by
  have l := len ds S P h
  match ds, l, h with
  | [x0, x1], _, h => exact vc x0 x1 S P h
theorem _root_.Vs3 {α : Type _} {β γ : Sort _} {sp C : List α → β → γ → Prop} (len : ∀ ds S P, sp ds S P → ds.length = 3) (vc : ∀ x0 x1 x2 S P, sp [x0, x1, x2] S P → C [x0, x1, x2] S P) : ∀ ds S P, sp ds S P → C ds S P := fun ds S P h => by
  have l := len ds S P h
  match ds, l, h with
  | [x0, x1, x2], _, h => exact vc x0 x1 x2 S P h
theorem _root_.Vs4 {α : Type _} {β γ : Sort _} {sp C : List α → β → γ → Prop} (len : ∀ ds S P, sp ds S P → ds.length = 4) (vc : ∀ x0 x1 x2 x3 S P, sp [x0, x1, x2, x3] S P → C [x0, x1, x2, x3] S P) : ∀ ds S P, sp ds S P → C ds S P := fun ds S P h => by
  have l := len ds S P h
  match ds, l, h with
  | [x0, x1, x2, x3], _, h => exact vc x0 x1 x2 x3 S P h
theorem _root_.Vs5 {α : Type _} {β γ : Sort _} {sp C : List α → β → γ → Prop} (len : ∀ ds S P, sp ds S P → ds.length = 5) (vc : ∀ x0 x1 x2 x3 x4 S P, sp [x0, x1, x2, x3, x4] S P → C [x0, x1, x2, x3, x4] S P) : ∀ ds S P, sp ds S P → C ds S P := fun ds S P h => by
  have l := len ds S P h
  match ds, l, h with
  | [x0, x1, x2, x3, x4], _, h => exact vc x0 x1 x2 x3 x4 S P h
theorem _root_.Vs6 {α : Type _} {β γ : Sort _} {sp C : List α → β → γ → Prop} (len : ∀ ds S P, sp ds S P → ds.length = 6) (vc : ∀ x0 x1 x2 x3 x4 x5 S P, sp [x0, x1, x2, x3, x4, x5] S P → C [x0, x1, x2, x3, x4, x5] S P) : ∀ ds S P, sp ds S P → C ds S P := fun ds S P h => by
  have l := len ds S P h
  match ds, l, h with
  | [x0, x1, x2, x3, x4, x5], _, h => exact vc x0 x1 x2 x3 x4 x5 S P h
theorem _root_.Vs7 {α : Type _} {β γ : Sort _} {sp C : List α → β → γ → Prop} (len : ∀ ds S P, sp ds S P → ds.length = 7) (vc : ∀ x0 x1 x2 x3 x4 x5 x6 S P, sp [x0, x1, x2, x3, x4, x5, x6] S P → C [x0, x1, x2, x3, x4, x5, x6] S P) : ∀ ds S P, sp ds S P → C ds S P := fun ds S P h => by
  have l := len ds S P h
  match ds, l, h with
  | [x0, x1, x2, x3, x4, x5, x6], _, h => exact vc x0 x1 x2 x3 x4 x5 x6 S P h
theorem _root_.Vs8 {α : Type _} {β γ : Sort _} {sp C : List α → β → γ → Prop} (len : ∀ ds S P, sp ds S P → ds.length = 8) (vc : ∀ x0 x1 x2 x3 x4 x5 x6 x7 S P, sp [x0, x1, x2, x3, x4, x5, x6, x7] S P → C [x0, x1, x2, x3, x4, x5, x6, x7] S P) : ∀ ds S P, sp ds S P → C ds S P := fun ds S P h => by
  have l := len ds S P h
  match ds, l, h with
  | [x0, x1, x2, x3, x4, x5, x6, x7], _, h => exact vc x0 x1 x2 x3 x4 x5 x6 x7 S P h
theorem _root_.Vs9 {α : Type _} {β γ : Sort _} {sp C : List α → β → γ → Prop} (len : ∀ ds S P, sp ds S P → ds.length = 9) (vc : ∀ x0 x1 x2 x3 x4 x5 x6 x7 x8 S P, sp [x0, x1, x2, x3, x4, x5, x6, x7, x8] S P → C [x0, x1, x2, x3, x4, x5, x6, x7, x8] S P) : ∀ ds S P, sp ds S P → C ds S P := fun ds S P h => by
  have l := len ds S P h
  match ds, l, h with
  | [x0, x1, x2, x3, x4, x5, x6, x7, x8], _, h => exact vc x0 x1 x2 x3 x4 x5 x6 x7 x8 S P h
theorem _root_.Vs10 {α : Type _} {β γ : Sort _} {sp C : List α → β → γ → Prop} (len : ∀ ds S P, sp ds S P → ds.length = 10) (vc : ∀ x0 x1 x2 x3 x4 x5 x6 x7 x8 x9 S P, sp [x0, x1, x2, x3, x4, x5, x6, x7, x8, x9] S P → C [x0, x1, x2, x3, x4, x5, x6, x7, x8, x9] S P) : ∀ ds S P, sp ds S P → C ds S P := fun ds S P h => by
  have l := len ds S P h
  match ds, l, h with
  | [x0, x1, x2, x3, x4, x5, x6, x7, x8, x9], _, h => exact vc x0 x1 x2 x3 x4 x5 x6 x7 x8 x9 S P h
theorem _root_.Vs11 {α : Type _} {β γ : Sort _} {sp C : List α → β → γ → Prop} (len : ∀ ds S P, sp ds S P → ds.length = 11) (vc : ∀ x0 x1 x2 x3 x4 x5 x6 x7 x8 x9 x10 S P, sp [x0, x1, x2, x3, x4, x5, x6, x7, x8, x9, x10] S P → C [x0, x1, x2, x3, x4, x5, x6, x7, x8, x9, x10] S P) : ∀ ds S P, sp ds S P → C ds S P := fun ds S P h => by
  have l := len ds S P h
  match ds, l, h with
  | [x0, x1, x2, x3, x4, x5, x6, x7, x8, x9, x10], _, h => exact vc x0 x1 x2 x3 x4 x5 x6 x7 x8 x9 x10 S P h
/-- room, and no repr further up -/
structure RoomG (k : Nat) (A : Around) : Prop where
  r : Room k A
  g : A.guards = some []
theorem RoomG.mono {j k : Nat} {A : Around} (h : RoomG k A) (l : j ≤ k) : RoomG j A := ⟨h.r.mono l, h.g⟩
theorem RoomG.deeper {k : Nat} {A : Around} (h : RoomG (k + 1) A) (env : Env) : RoomG k (A.deeper env) := ⟨h.r.deeper env, h.g⟩
structure FnG (P : Program) (w : World) (K : PySem.W.Frag) (mg : Str → Option Value) (base : Heap) (CX : CXT) (k : Nat) (f : Addr) (fd : FuncData) (ps : List Str) (sp : Sp) : Prop where
  len : ∀ vs H Q E, sp vs H Q E → vs.length = ps.length
  run : ∀ (A : Around) (outer : List Env) (s : Shared) (H : Hp) (args : Args) (us : List Value) (vs : List V) (Q : VK) (E : XK), RoomG k A → Env0 P w K mg base A outer s H → BindsTo s fd args (ps.zip us) → Vals vs us → sp vs H Q E →
    codeAny (model P w) A (.call (.ref f) args) (CR CX outer P w H s Q E) s
theorem FnG.imp {P : Program} {w : World} {K : PySem.W.Frag} {mg : Str → Option Value} {base : Heap} {CX : CXT} {k : Nat} {f : Addr} {fd : FuncData} {ps : List Str} {sp sp' : Sp} (F : FnG P w K mg base CX k f fd ps sp)
    (h : ∀ vs H Q E, sp' vs H Q E → sp vs H Q E) : FnG P w K mg base CX k f fd ps sp' :=
  ⟨fun vs H Q E q => F.len vs H Q E (h _ _ _ _ q), fun A outer s H args us vs Q E hr he hb hv hs => F.run A outer s H args us vs Q E hr he hb hv (h _ _ _ _ hs)⟩
section
variable {X : Cx} {CX : CXT} {k n : Nat} {f C : Addr} {fd : FuncData} {ps ks : List Str} {sp : Sp} {dvs : List V} {ds : List Value} {E : XK} {x m : Str} {p pos apos : Pos} {e o : Expr} {es : List Expr} {ta : TE} {t tk : TA} {kws : List Keyword} {g : List Value → List Value → List Value} {gV : List V → List V → List V}
theorem run_fn {pins : List (Addr × Obj)} {σ : L2.St} {H : Hp} {s : Shared} {Q : VK} {us : List Value} {vs : List V} (F : FnG X.prog X.w X.K X.mg X.base CX k f fd ps sp) (hr : RoomG k X.A) (hb : Binds X.K fd ps ds) (hd : Vals dvs ds) (hx : Passes CX X E)
    (I : Inv X pins σ H s) (r : Vals vs us) (h : sp (vs ++ dvs) H Q E) : wpAny (model X.prog X.w) X.A (call (.ref f) us) (EP X pins σ Q) X.xe s := by
  have r2 : Vals (vs ++ dvs) (us ++ ds) := r.append hd
  have hl : (us ++ ds).length = ps.length := by rw [← r2.length]; exact F.len _ _ _ _ h
  refine wpAny_call (codeAny_mono (F.run X.A X.stack s H ⟨us, []⟩ (us ++ ds) (vs ++ dvs) Q E hr I.env0 (hb s us I.kIn hl) r2 h) fun r s' hq => ?_)
  cases r with
  | error e => exact hx pins σ H s e s' I hq
  | ok fl =>
    cases fl with
    | ret u => exact I.after hq
    | next => exact False.elim hq
    | brk => exact False.elim hq
    | cont => exact False.elim hq

theorem pe_call (F : FnG X.prog X.w X.K X.mg X.base CX k f fd ps sp) (hr : RoomG k X.A) (hg : Gl X x) (hm : X.mg x = some (.ref f)) (hk : PySem.W.keepIn X.K (.ref f) = true) (hb : Binds X.K fd ps ds) (hd : Vals dvs ds) (hx : Passes CX X E)
    (ha : PA X (e :: es) t) (hdb : (x == ("__debug__" : Str)) = false := by decide) (he : starEach (e :: es) X.env = (false, eval e X.env) :: starEach es X.env := by rfl) (hpl : (backTo pos (starEach es X.env)).any (·.1) = false := by rfl) :
    PE X (.Call (.Name x p) (e :: es) [] pos) (tCall sp dvs E t) := by
  refine ⟨fun pins s σ H Q I h => ?_⟩
  refine wpAny_Call_Name_kw (ld_glob I hg hm ?_ hdb)
  refine PySem.W.callWith_K (h₀ := X.base) I.ok.mod.kin hk (thn (ha.run pos pins s σ H _ I h) fun us s1 ⟨vs, H1, I1, r, q⟩ => ⟨I1.kIn, ?_⟩) he hpl
  exact run_fn F hr hb hd hx I1 r q
theorem run_fnN {pins : List (Addr × Obj)} {σ : L2.St} {H : Hp} {s : Shared} {Q : VK} {us ws : List Value} {vs zs : List V} (F : FnG X.prog X.w X.K X.mg X.base CX k f fd ps sp) (hr : RoomG k X.A) (hb : KBn X.K fd ps n ks g gV) (hx : Passes CX X E)
    (I : Inv X pins σ H s) (r : Vals vs us) (rz : Vals zs ws) (l1 : vs.length = n) (l2 : zs.length = ks.length) (h : sp (gV vs zs) H Q E) : wpAny (model X.prog X.w) X.A (call (.ref f) us (ks.zip ws)) (EP X pins σ Q) X.xe s := by
  have r2 := hb.rel r rz
  refine wpAny_call (codeAny_mono (F.run X.A X.stack s H ⟨us, ks.zip ws⟩ (g us ws) (gV vs zs) Q E hr I.env0 (hb.to s us ws I.kIn (r.length.symm.trans l1) (rz.length.symm.trans l2)) r2 h) fun r s' hq => ?_)
  cases r with
  | error e => exact hx pins σ H s e s' I hq
  | ok fl =>
    cases fl with
    | ret u => exact I.after hq
    | next => exact False.elim hq
    | brk => exact False.elim hq
    | cont => exact False.elim hq
/-- f(e, .., k = v, ..) -/
theorem pe_callN (F : FnG X.prog X.w X.K X.mg X.base CX k f fd ps sp) (hr : RoomG k X.A) (hg : Gl X x) (hm : X.mg x = some (.ref f)) (hk : PySem.W.keepIn X.K (.ref f) = true) (hb : KBn X.K fd ps n ks g gV) (hx : Passes CX X E)
    (ha : PA X (e :: es) t) (hkw : PK X kws tk) (hall : (backToKw pos (keywordEach kws X.env)).all (·.1.isSome) = true := by rfl) (hks : (backToKw pos (keywordEach kws X.env)).filterMap (·.1) = ks := by rfl)
    (hdb : (x == ("__debug__" : Str)) = false := by decide) (he : starEach (e :: es) X.env = (false, eval e X.env) :: starEach es X.env := by rfl)
    (hpl : ((backTo pos (starEach (e :: es) X.env)).any (·.1) || (backToKw pos (keywordEach kws X.env)).any (·.1.isNone)) = false := by rfl) :
    PE X (.Call (.Name x p) (e :: es) kws pos) (tCallN n ks.length sp gV E t tk) := by
  refine ⟨fun pins s σ H Q I h => ?_⟩
  refine wpAny_Call_Name_kw (ld_glob I hg hm ?_ hdb)
  refine PySem.W.callWith_KW (h₀ := X.base) I.ok.mod.kin hk hall (thn (ha.run pos pins s σ H _ I h) fun us s1 ⟨vs, H1, I1, r, q⟩ => ?_) hpl he
  refine thn (hkw.run pos pins s1 σ H1 _ I1 q) fun ws s2 ⟨zs, H2, I2, rz, l1, l2, q2⟩ => ⟨I2.kIn, ?_⟩
  rw [hks]
  exact run_fnN F hr hb hx I2 r rz l1 l2 q2
end
theorem fn_of {CX : CXT} {P : Program} {w : World} {K : PySem.W.Frag} {mg : Str → Option Value} {base : Heap} {k : Nat} {f : Addr} {name qual : Str} {params : Arguments} {body : List Stmt} {scope : Scope} {dV kV doc pm cdv ct oc : Value} {an od : Option Addr}
    {osl : Array (Option Value)} {N ps : List Str} {sp : Sp} (lk : K.lookup f = some ⟨oc, od, .func (PySem.W.fnOf name qual params body scope dV kV doc pm an cdv ct), osl⟩) (hcd : PySem.W.codeIn K cdv qual = true) (S : FnScope N ps scope)
    (len : ∀ vs H Q E, sp vs H Q E → vs.length = ps.length)
    (hbody : ∀ (A : Around) (outer : List Env) (s : Shared) (H : Hp) (vs : List V) (Q : VK) (E : XK), RoomG k (A.deeper (envOfC qual scope s.heap.objs.size f cdv)) → sp vs H Q E →
      ∃ t, PSs (cxOf CX P w K mg base N qual scope f cdv A outer s H E) body t ∧ t { nx := fun _ H' => Q .non H', rt := Q } (start N vs) H) :
    FnG P w K mg base CX (k + 1) f (PySem.W.fnOf name qual params body scope dV kV doc pm an cdv ct) ps sp := by
  refine ⟨len, fun A outer s H args us vs Q E hr e0 hb r hsp => ?_⟩
  have hl := len _ _ _ _ hsp
  have KX : K.In s.heap := e0.mod.kin.keeps fun b o e => (e0.bs b o e).1
  have lim : s.heap.NoLimit := e0.mod.nolimit.keeps fun b o e => (e0.bs b o e).1
  have hkind : ∀ y ∈ ps.zip us, scope.names.lookup y.1 = some .local ∨ (scope.names.lookup y.1 = some .cell ∧ ((cellsFrom (s.heap.objs.size + 1) scope.names []).lookup y.1).isSome = true) := fun ⟨n, v⟩ hy => by
    rcases S.par n (List.of_mem_zip hy).1 with q | q
    · exact .inl q
    · exact .inr ⟨q, PySem.W.cellsFrom_some _ _ _ (.inl q)⟩
  refine codeAny_call_function hr.r.depth (KX _ _ lk) rfl S.co S.gen rfl (PySem.W.codeRec_of KX hcd) (hb _ _ _ _ ?_)
  refine wpAny_newFunctionEnv_cells S.kind hkind fun env he s1 x => ?_
  subst he
  refine ⟨lim.keeps x.toInCall.keep, codeAny_func ?_⟩
  obtain ⟨t, ht, hq⟩ := hbody A outer s H vs Q E (hr.deeper _) hsp
  have I : Inv (cxOf CX P w K mg base N qual scope f cdv A outer s H E) [] (start N vs) H s1 := inv_start S hr.r.hd e0 hl r x
  refine wpAny_mono (ht.run [] s1 (start N vs) H _ I hq) (fun fl s' hs => ?_) fun e s' hs => hs
  have fin : ∀ {σ' : L2.St} {H' : Hp} {v : V} {u : Value}, Inv (cxOf CX P w K mg base N qual scope f cdv A outer s H E) [] σ' H' s' → RelV v u → Q v H' → CE outer P w H s Q u s' :=
    fun {σ' H' v u} J rv q => ⟨v, H', J.os, J.bare, J.base, J.hok, rv, q⟩
  cases fl with
  | ret u =>
    obtain ⟨v, σ', H', J, rv, q⟩ := hs
    exact fin J rv q
  | next =>
    obtain ⟨σ', H', J, q⟩ := hs
    exact fin (v := V.non) (u := Value.none) J rfl q
  | brk =>
    obtain ⟨_, _, _, q⟩ := hs
    exact False.elim q
  | cont =>
    obtain ⟨_, _, _, q⟩ := hs
    exact False.elim q

section
variable {P : Program} {w : World} {K : PySem.W.Frag} {mg : Str → Option Value} {base : Heap}
theorem fun_ok {x qual : Str} {st : Stmt} {f : Addr} {fd : FuncData} {N ps : List Str} {k : Nat} {sp : Sp} (F : Fun K x qual st f fd) (S : FnScope N ps (defScope st)) (len : ∀ vs H Q E, sp vs H Q E → vs.length = ps.length)
    (hbody : ∀ (cdv : Value) (A : Around) (outer : List Env) (s : Shared) (H : Hp) (vs : List V) (Q : VK) (E : XK), RoomG k (A.deeper (envOfC qual (defScope st) s.heap.objs.size f cdv)) → sp vs H Q E →
      ∃ t, PSs (cxOf CX0 P w K mg base N qual (defScope st) f cdv A outer s H E).nox (defBody st) t ∧ t { nx := fun _ H' => Q .non H', rt := Q } (start N vs) H) : FnG P w K mg base CX0 (k + 1) f fd ps sp := by
  obtain ⟨oc, od, kV, doc, pm, an, cdv, ct, osl, rfl, lk, hcd⟩ := F.ex
  refine fn_of lk hcd S len fun A outer s H vs Q E hr hsp => ?_
  obtain ⟨t, h, q⟩ := hbody cdv A outer s H vs Q E hr hsp
  exact ⟨t, h.nox, q⟩
theorem funD_ok {x qual : Str} {params : Arguments} {body : List Stmt} {scope : Scope} {dvs : List V} {kws : List (Str × V)} {f : Addr} {fd : FuncData} {CX : CXT} {N ps : List Str} {k : Nat} {sp : Sp} (F : FunD K x qual params body scope dvs kws f fd) (S : FnScope N ps scope) (len : ∀ vs H Q E, sp vs H Q E → vs.length = ps.length)
    (hbody : ∀ (cdv : Value) (A : Around) (outer : List Env) (s : Shared) (H : Hp) (vs : List V) (Q : VK) (E : XK), RoomG k (A.deeper (envOfC qual scope s.heap.objs.size f cdv)) → sp vs H Q E →
      ∃ t, PSs (cxOf CX P w K mg base N qual scope f cdv A outer s H E) body t ∧ t { nx := fun _ H' => Q .non H', rt := Q } (start N vs) H) : FnG P w K mg base CX (k + 1) f fd ps sp := by
  obtain ⟨oc, od, dV, kV, doc, pm, an, cdv, ct, osl, rfl, lk, hcd, _, _⟩ := F.ex
  exact fn_of lk hcd S len fun A outer s H vs Q E hr hsp => hbody cdv A outer s H vs Q E hr hsp
end
/-! ### the end -/
theorem law_call {P : Program} {w : World} {K : PySem.W.Frag} {mg mb : Str → Option Value} {CX : CXT} {k : Nat} {fa a : Addr} {fd : FuncData} {x : Str} {sp : Sp} {s₁ : Shared} {vs : List Value} {ns : List Int}
    (KX : K.In s₁.heap) (hns : s₁.heap.Ns mainGlobals mg) (hb : s₁.heap.Ns builtinsNs mb) (hbb : ∀ x : Str, x ≠ "__name__" → mb x = bootBuiltins x) (hlim : s₁.heap.NoLimit) (hg : s₁.gens = #[])
    (ha : s₁.heap.get? a = some { cls := .type "list", data := .seq vs.toArray }) (hi : IntsAre vs ns) (hl : ns.length ≤ sizeLine) (hr : RoomG k callerA)
    (F : ∀ base : Heap, K.In base → base.Ns mainGlobals mg → FnG P w K mg base CX k fa fd [x] sp) (hbind : ∀ (s : Shared) (u : Value), BindsTo s fd ⟨[u], []⟩ [(x, u)])
    (hsp : ∀ H : Hp, Only H → SqL K H a (ns.map V.int) → sp [.ref a] H (fun v _ => v = .bl true) fun _ _ _ => False)
    (hCX : ∀ H e s', CX [] H s₁ (fun _ _ _ => False) e s' → False) :
    codeAny (model P w) callerA (.call (.ref fa) ⟨[.ref a], []⟩) (fun r s' => r = .ok (.ret (.bool true)) ∧ OldK s₁.heap s'.heap ∧ s'.os = s₁.os ∧ AllBare s'.gens) s₁ := by
  have rv := vals_ints hi
  have lenV := hi.length
  -- from an abstract heap in which nothing but the script may be tracked
  have core : ∀ H : Hp, Only H → SqL K H a (ns.map V.int) → HOk P w H s₁.heap → (∀ b, H b ≠ none → b = a) → (H a ≠ none → K.lookup a = none) →
      codeAny (model P w) callerA (.call (.ref fa) ⟨[.ref a], []⟩) (fun r s' => r = .ok (.ret (.bool true)) ∧ OldK s₁.heap s'.heap ∧ s'.os = s₁.os ∧ AllBare s'.gens) s₁ := by
    intro H hO hS hok hA hK
    have base_of : ∀ {b : Addr} {o : Obj}, s₁.heap.get? b = some o → H b = none → (hidT s₁.heap H).get? b = some o := fun e n => hidT_get e n
    have noA : ∀ {b : Addr} {o : Obj} {es : Array DictEntry} {ep : Nat}, s₁.heap.get? b = some o → o.data = .dict es ep → H b = none := fun {b o es ep} e d => by
      cases q : H b with
      | none => rfl
      | some u =>
        have e' : b = a := hA b (by rw [q]; simp)
        subst e'
        rw [ha] at e; cases e
        have d' : Data.seq vs.toArray _ = Data.dict es ep := d
        cases d'
    have nsK : ∀ {b : Addr} {m : Str → Option Value}, s₁.heap.Ns b m → (hidT s₁.heap H).Ns b m := fun {b m} ⟨o, es, ep, e, d, r⟩ => ⟨o, es, ep, base_of e (noA e d), d, r⟩
    have hKb : K.In (hidT s₁.heap H) := fun b o e => base_of (KX b o e) (by
      cases q : H b with
      | none => rfl
      | some u =>
        have e' : b = a := hA b (by rw [q]; simp)
        subst e'
        rw [hK (by rw [q]; simp)] at e; cases e)
    have hM : Mod K mg (hidT s₁.heap H) := ⟨hKb, nsK hns, ⟨mb, nsK hb, hbb⟩, let ⟨mc, h1, h2⟩ := hlim; ⟨mc, nsK h1, h2⟩⟩
    have e0 : Env0 P w K mg (hidT s₁.heap H) callerA [] s₁ H := ⟨rfl, hM, fun b o e => of_hidT e, Nat.le_of_eq (hidT_size _ _), trivial, fun b hb => absurd (show b ∈ ([] : List Addr) from hb) (by simp), hok, .of_eq hg⟩
    refine codeAny_mono ((F _ hKb (nsK hns)).run callerA [] s₁ H ⟨[.ref a], []⟩ [.ref a] [.ref a] _ _ hr e0 (hbind s₁ (.ref a)) (.cons rfl .nil) (hsp H hO hS)) fun r s' h => ?_
    cases r with
    | error e => exact (hCX H e s' h).elim
    | ok fl =>
      cases fl with
      | next => exact False.elim h
      | brk => exact False.elim h
      | cont => exact False.elim h
      | ret u =>
        obtain ⟨v, H', os, bare, un, hok', r', q⟩ := h
        have q' : v = .bl true := q
        subst q'
        obtain rfl : u = Value.bool true := r'
        refine ⟨rfl, OldK.of_keep fun b o e => ?_, os, bare⟩
        cases q : H b with
        | none => exact un.keep b o e q (by intro z; exact absurd (show b ∈ ([] : List Addr) from z) (by simp)) (by simp)
        | some u =>
          rcases hO b with z | ⟨ob, xs, z⟩
          · rw [q] at z; cases z
          · have z2 := un.frzs b ob _ z
            obtain ⟨e1, _⟩ := hok b _ z
            obtain ⟨e2, _⟩ := hok' b _ z2
            rw [e] at e1; cases e1
            exact e2
  cases hk : K.lookup a with
  | some o =>
    -- the script is one of the module's own objects
    have e := KX a o hk
    rw [ha] at e
    cases e
    refine core (fun _ => none) (fun _ => .inl rfl) (.inr ⟨_, vs.toArray, _, hk, rfl, rfl, rfl, by rw [List.size_toArray, lenV]; exact hl, by simpa using rv⟩) (fun b u z => by have z' : (none : Option HO) = some u := z; cases z') (fun b z => absurd rfl z) fun z => absurd rfl z
  | none =>
    refine core (fun b => if b = a then some (.frz { cls := .type "list", data := .seq vs.toArray } (.lst (ns.map V.int))) else none) (fun b => ?_) (.inl (.inr ⟨{ cls := .type "list", data := .seq vs.toArray }, if_pos rfl⟩)) (fun b u z => ?_) (fun b z => ?_) fun _ => hk
    · by_cases hb : b = a
      · exact .inr ⟨_, _, if_pos hb⟩
      · exact .inl (if_neg hb)
    · by_cases hb : b = a
      · have z' := (if_pos hb).symm.trans z
        cases z'
        subst hb
        exact ⟨ha, by rw [List.length_map]; exact hl, vs, _, rv, ha⟩
      · have z' := (if_neg hb).symm.trans z
        cases z'
    · by_cases hb : b = a
      · exact hb
      · exact absurd (if_neg hb) z
end DG

/-! A layer over the hand layer: values as data (no addresses but of what changes), readings as predicates over data. -/
namespace DL
open PySem PySem.Spec PyProof.Rows L2
local macro_rules | `(tactic| omega) => `(tactic| first | assumption | lia)

/-- data: what a value is, all through; obj: a thing that may change, by its place -/
inductive D where
  | non | bl (b : Bool) | int (i : Int) | str (s : Str) | ty (n : String) | lst (xs : List D) | ext (xs : List D) | tup (xs : List D) | obj (a : Addr)

/-- a tuple as data: made in the run, or standing in the written part -/
def TupAt (K : PySem.W.Frag) (I : Hp) (a : Addr) (xs : List V) : Prop := I a = some (.tup xs) ∨
    ∃ (o : Obj) (its : Array Value) (n : Nat), K.lookup a = some o ∧ o.cls = .type "tuple" ∧ o.data = .seq its n ∧ its.size ≤ sizeLine ∧ Vals xs its.toList
mutual
def Rep (K : PySem.W.Frag) (I : Hp) : D → V → Prop
  | .non, v => v = .non
  | .bl b, v => v = .bl b
  | .int i, v => v = .int i
  | .str s, v => v = .str s
  | .ty n, v => v = .ty n
  | .lst ds, v => ∃ a xs, v = .ref a ∧ I a = some (.lst xs) ∧ RepL K I ds xs
  | .ext ds, v => ∃ a xs, v = .ref a ∧ SqL K I a xs ∧ RepL K I ds xs
  | .tup ds, v => ∃ a xs, v = .ref a ∧ TupAt K I a xs ∧ RepL K I ds xs
  | .obj a, v => v = .ref a
def RepL (K : PySem.W.Frag) (I : Hp) : List D → List V → Prop
  | [], vs => vs = []
  | d :: ds, vs => ∃ v r, vs = v :: r ∧ Rep K I d v ∧ RepL K I ds r
end

/-- what a changing thing holds -/
inductive MO where
  | lst (xs : List D)
  | ins (C : Addr) (fs : List (Str × D))
  | dK (kvs : List (Key × D))
  | dZ (o : Obj) (vs : List (Key × V)) (kvs : List (Key × D))
  | dT (kvs : List (List Key × D))
  | dU (o : Obj) (vs : List (List Key × V)) (kvs : List (List Key × D))
  | exc (C : Addr) (d : Option Addr)
  | xdD (fs : List (Str × D))
  /-- a table of code objects: each that it tells bears the name q -/
  | tab (q : Str)
abbrev Store := Addr → Option MO
abbrev DSt := List (Option D)
def supd (S : Store) (a : Addr) (m : MO) : Store := fun b => if b = a then some m else S b
def sdel (S : Store) (a : Addr) : Store := fun b => if b = a then none else S b

def RepF {κ : Type} (K : PySem.W.Frag) (I : Hp) : List (κ × D) → List (κ × V) → Prop
  | [], vs => vs = []
  | d :: ds, vs => ∃ v r, vs = (d.1, v) :: r ∧ Rep K I d.2 v ∧ RepF K I ds r
/-- at a: an exception of the class at C, d its dict -/
def exv (a C : Addr) (d : Option Addr) : HO := .ext fun h => ∃ (oe : Obj) (xs : Array Value), h.get? a = some oe ∧ (oe.cls = .ref C ∧ oe.dict = d) ∧ oe.data = .fields xs
def RepM (K : PySem.W.Frag) (I H : Hp) (a : Addr) : MO → Prop
  | .lst ds => ∃ xs, H a = some (.lst xs) ∧ RepL K I ds xs
  | .ins C fs => ∃ dx vs, H a = some (.ins C dx vs) ∧ H dx = some (.own a) ∧ RepF K I fs vs
  | .dK kvs => ∃ vs, H a = some (.dK vs) ∧ RepF K I kvs vs
  | .dZ o vs kvs => H a = some (.frz o (.dK vs)) ∧ RepF K I kvs vs
  | .dT kvs => ∃ vs, H a = some (.dT vs) ∧ RepF K I kvs vs
  | .dU o vs kvs => H a = some (.frz o (.dT vs)) ∧ RepF K I kvs vs
  | .exc C d => H a = some (exv a C d)
  | .xdD fs => ∃ vs, H a = some (.xd vs) ∧ RepF K I fs vs
  | .tab q => ∃ ps : Array Value, H a = some (.tbl ps) ∧ TriplesOk ps.toList ∧ ∀ (pos : Pos) (cv : Value), codeAmong pos ps.toList = some cv → ∃ c, cv = .ref c ∧ I c = some (LamX.CodeO c q)
/-- what is hidden is no instance's own dict, no tuple -/
def NoHid (o : HO) : Prop := (∀ y, o ≠ .own y) ∧ ∀ ys, o ≠ .tup ys

section
variable {K : PySem.W.Frag} {I I' I'' H H' F : Hp} {S S' : Store}
theorem tupAt_same {H H' : Hp} {a : Addr} {xs : List V} (e : Same H H') (h : TupAt K H a xs) : TupAt K H' a xs := by
  rcases h with h | h
  · exact .inl (e _ _ h)
  · exact .inr h
theorem sqT_same {H H' : Hp} {a : Addr} {xs : List V} (e : Same H H') (h : TupAt K H a xs) : SqT K H' a xs := by
  rcases h with h | h
  · exact .inl (.inl (e _ _ h))
  · exact .inr h
mutual
theorem Rep.mono (e : Same I I') : ∀ (d : D) (v : V), Rep K I d v → Rep K I' d v
  | .non, _, h => by simpa only [Rep] using h
  | .bl _, _, h => by simpa only [Rep] using h
  | .int _, _, h => by simpa only [Rep] using h
  | .str _, _, h => by simpa only [Rep] using h
  | .ty _, _, h => by simpa only [Rep] using h
  | .obj _, _, h => by simpa only [Rep] using h
  | .lst ds, v, h => by
    simp only [Rep] at h ⊢
    obtain ⟨a, xs, rfl, hs, hr⟩ := h
    exact ⟨a, xs, rfl, e _ _ hs, RepL.mono e ds xs hr⟩
  | .ext ds, v, h => by
    simp only [Rep] at h ⊢
    obtain ⟨a, xs, rfl, hs, hr⟩ := h
    exact ⟨a, xs, rfl, e.seq hs, RepL.mono e ds xs hr⟩
  | .tup ds, v, h => by
    simp only [Rep] at h ⊢
    obtain ⟨a, xs, rfl, hs, hr⟩ := h
    exact ⟨a, xs, rfl, tupAt_same e hs, RepL.mono e ds xs hr⟩
theorem RepL.mono (e : Same I I') : ∀ (ds : List D) (vs : List V), RepL K I ds vs → RepL K I' ds vs
  | [], _, h => by simpa only [RepL] using h
  | d :: ds, vs, h => by
    simp only [RepL] at h ⊢
    obtain ⟨v, r, rfl, h1, h2⟩ := h
    exact ⟨v, r, rfl, Rep.mono e d v h1, RepL.mono e ds r h2⟩
end
theorem RepF.mono {κ : Type} (e : Same I I') : ∀ (ds : List (κ × D)) (vs : List (κ × V)), RepF K I ds vs → RepF K I' ds vs
  | [], _, h => by simpa only [RepF] using h
  | d :: ds, vs, h => by
    simp only [RepF] at h ⊢
    obtain ⟨v, r, rfl, h1, h2⟩ := h
    exact ⟨v, r, rfl, Rep.mono e d.2 v h1, RepF.mono e ds r h2⟩
theorem RepL.len : ∀ {ds : List D} {vs : List V}, RepL K I ds vs → vs.length = ds.length
  | [], _, h => by
    simp only [RepL] at h
    subst h; rfl
  | d :: ds, vs, h => by
    simp only [RepL] at h
    obtain ⟨v, r, rfl, h1, h2⟩ := h
    simp [RepL.len h2]
theorem RepL.get : ∀ {ds : List D} {vs : List V} {i : Nat} {d : D}, RepL K I ds vs → ds[i]? = some d → ∃ v, vs[i]? = some v ∧ Rep K I d v
  | [], _, _, _, _, e => by simp at e
  | d :: ds, vs, 0, x, h, e => by
    simp only [RepL] at h
    obtain ⟨v, r, rfl, h1, h2⟩ := h
    simp at e; subst e
    exact ⟨v, rfl, h1⟩
  | d :: ds, vs, i + 1, x, h, e => by
    simp only [RepL] at h
    obtain ⟨v, r, rfl, h1, h2⟩ := h
    obtain ⟨w, e1, e2⟩ := RepL.get (i := i) h2 (by simpa using e)
    exact ⟨w, by simpa using e1, e2⟩
theorem RepL.app : ∀ {ds es : List D} {vs ws : List V}, RepL K I ds vs → RepL K I es ws → RepL K I (ds ++ es) (vs ++ ws)
  | [], _, _, _, h, h' => by
    simp only [RepL] at h
    subst h; simpa using h'
  | d :: ds, es, vs, ws, h, h' => by
    simp only [RepL] at h
    obtain ⟨v, r, rfl, h1, h2⟩ := h
    simp only [List.cons_append, RepL]
    exact ⟨v, r ++ ws, rfl, h1, h2.app h'⟩
theorem RepL.nil : RepL K I [] [] := by simp only [RepL]
theorem RepL.cons {d : D} {v : V} {ds : List D} {vs : List V} (h : Rep K I d v) (h' : RepL K I ds vs) : RepL K I (d :: ds) (v :: vs) := by
  simp only [RepL]
  exact ⟨v, vs, rfl, h, h'⟩
theorem RepL.one {d : D} {v : V} (h : Rep K I d v) : RepL K I [d] [v] := RepL.cons h RepL.nil
theorem RepL.set : ∀ {ds : List D} {vs : List V} {d : D} {v : V} (i : Nat), RepL K I ds vs → Rep K I d v → RepL K I (ds.set i d) (vs.set i v)
  | [], _, _, _, _, h, _ => by
    simp only [RepL] at h
    subst h; simp only [List.set_nil]; exact RepL.nil
  | d :: ds, vs, x, y, 0, h, h' => by
    simp only [RepL] at h
    obtain ⟨v, r, rfl, h1, h2⟩ := h
    exact RepL.cons h' h2
  | d :: ds, vs, x, y, i + 1, h, h' => by
    simp only [RepL] at h
    obtain ⟨v, r, rfl, h1, h2⟩ := h
    exact RepL.cons h1 (h2.set i h')
theorem RepL.drop : ∀ {ds : List D} {vs : List V} (n : Nat), RepL K I ds vs → RepL K I (ds.drop n) (vs.drop n)
  | _, _, 0, h => by simpa using h
  | [], _, n + 1, h => by
    simp only [RepL] at h
    subst h; simp only [List.drop_nil]; exact RepL.nil
  | d :: ds, vs, n + 1, h => by
    simp only [RepL] at h
    obtain ⟨v, r, rfl, h1, h2⟩ := h
    simpa using h2.drop n
theorem RepL.take : ∀ {ds : List D} {vs : List V} (n : Nat), RepL K I ds vs → RepL K I (ds.take n) (vs.take n)
  | _, _, 0, h => by simp only [List.take_zero]; exact RepL.nil
  | [], _, n + 1, h => by
    simp only [RepL] at h
    subst h; simp only [List.take_nil]; exact RepL.nil
  | d :: ds, vs, n + 1, h => by
    simp only [RepL] at h
    obtain ⟨v, r, rfl, h1, h2⟩ := h
    simp only [List.take_succ_cons]
    exact RepL.cons h1 (h2.take n)
theorem RepL.inv1 {d : D} {vs : List V} (h : RepL K I [d] vs) : ∃ v, vs = [v] ∧ Rep K I d v := by
  simp only [RepL] at h
  obtain ⟨v, r, rfl, h1, rfl⟩ := h
  exact ⟨v, rfl, h1⟩
theorem RepL.inv2 {d e : D} {vs : List V} (h : RepL K I [d, e] vs) : ∃ v w, vs = [v, w] ∧ Rep K I d v ∧ Rep K I e w := by
  simp only [RepL] at h
  obtain ⟨v, r, rfl, h1, w, r', rfl, h2, rfl⟩ := h
  exact ⟨v, w, rfl, h1, h2⟩
theorem rep_int {i : Int} : Rep K I (.int i) (.int i) := by simp only [Rep]
theorem rep_bl {b : Bool} : Rep K I (.bl b) (.bl b) := by simp only [Rep]
theorem rep_str {s : Str} : Rep K I (.str s) (.str s) := by simp only [Rep]
theorem rep_non : Rep K I .non .non := by simp only [Rep]
theorem Rep.int_of {i : Int} {v : V} (h : Rep K I (.int i) v) : v = .int i := by simpa only [Rep] using h
theorem Rep.bl_of {i : Bool} {v : V} (h : Rep K I (.bl i) v) : v = .bl i := by simpa only [Rep] using h
theorem Rep.str_of {i : Str} {v : V} (h : Rep K I (.str i) v) : v = .str i := by simpa only [Rep] using h
theorem Rep.non_of {v : V} (h : Rep K I .non v) : v = .non := by simpa only [Rep] using h
theorem Rep.obj_of {a : Addr} {v : V} (h : Rep K I (.obj a) v) : v = .ref a := by simpa only [Rep] using h
theorem Rep.lst_of {ds : List D} {v : V} (h : Rep K I (.lst ds) v) : ∃ a xs, v = .ref a ∧ I a = some (.lst xs) ∧ RepL K I ds xs := by simpa only [Rep] using h
theorem Rep.ext_of {ds : List D} {v : V} (h : Rep K I (.ext ds) v) : ∃ a xs, v = .ref a ∧ SqL K I a xs ∧ RepL K I ds xs := by simpa only [Rep] using h
theorem Rep.tup_of {ds : List D} {v : V} (h : Rep K I (.tup ds) v) : ∃ a xs, v = .ref a ∧ TupAt K I a xs ∧ RepL K I ds xs := by simpa only [Rep] using h

/-! ### the heap behind the data -/
structure Ok (K : PySem.W.Frag) (I : Hp) (S : Store) (F H : Hp) : Prop where
  i : ∀ a o, I a = some o → H a = some o
  s : ∀ a m, S a = some m → I a = none ∧ RepM K I H a m
  f : ∀ a o, F a = some o → H a = some o ∧ I a = none ∧ S a = none ∧ NoHid o

theorem RepM.there {a : Addr} {m : MO} (h : RepM K I H a m) : ∃ o, H a = some o ∧ ∀ y, o ≠ .own y := by
  cases m with
  | lst ds => obtain ⟨xs, e, _⟩ := h; exact ⟨_, e, fun y z => by cases z⟩
  | ins C fs => obtain ⟨dx, vs, e, _⟩ := h; exact ⟨_, e, fun y z => by cases z⟩
  | dK kvs => obtain ⟨vs, e, _⟩ := h; exact ⟨_, e, fun y z => by cases z⟩
  | dZ o vs kvs => exact ⟨_, h.1, fun y z => by cases z⟩
  | dT kvs => obtain ⟨vs, e, _⟩ := h; exact ⟨_, e, fun y z => by cases z⟩
  | dU o vs kvs => exact ⟨_, h.1, fun y z => by cases z⟩
  | exc C d => exact ⟨_, h, fun y z => by unfold exv at z; cases z⟩
  | xdD fs => obtain ⟨vs, e, _⟩ := h; exact ⟨_, e, fun y z => by cases z⟩
  | tab q => obtain ⟨ps, e, _⟩ := h; exact ⟨_, e, fun y z => by cases z⟩
theorem RepM.mono {a : Addr} {m : MO} (h : RepM K I H a m) (e : Same I I') (ha : H' a = H a) (hd : ∀ dx, H dx = some (.own a) → H' dx = some (.own a)) : RepM K I' H' a m := by
  cases m with
  | lst ds => obtain ⟨xs, q, r⟩ := h; exact ⟨xs, ha.trans q, r.mono e⟩
  | ins C fs => obtain ⟨dx, vs, q, q2, r⟩ := h; exact ⟨dx, vs, ha.trans q, hd dx q2, r.mono e⟩
  | dK kvs => obtain ⟨vs, q, r⟩ := h; exact ⟨vs, ha.trans q, r.mono e⟩
  | dZ o vs kvs => exact ⟨ha.trans h.1, h.2.mono e⟩
  | dT kvs => obtain ⟨vs, q, r⟩ := h; exact ⟨vs, ha.trans q, r.mono e⟩
  | dU o vs kvs => exact ⟨ha.trans h.1, h.2.mono e⟩
  | exc C d => exact ha.trans h
  | xdD fs => obtain ⟨vs, q, r⟩ := h; exact ⟨vs, ha.trans q, r.mono e⟩
  | tab q => obtain ⟨ps, q, t, r⟩ := h; exact ⟨ps, ha.trans q, t, fun pos cv hc => let ⟨c, e1, e2⟩ := r pos cv hc; ⟨c, e1, e _ _ e2⟩⟩
theorem Ok.same (h : Ok K I S F H) : Same I H := h.i
theorem Ok.freshI (h : Ok K I S F H) {p : Addr} (n : H p = none) : I p = none := by
  cases e : I p with
  | none => rfl
  | some o => rw [h.i p o e] at n; cases n
theorem Ok.freshS (h : Ok K I S F H) {p : Addr} (n : H p = none) : S p = none := by
  cases e : S p with
  | none => rfl
  | some o =>
    obtain ⟨_, q, _⟩ := (h.s p o e).2.there
    rw [q] at n; cases n
theorem Ok.freshF (h : Ok K I S F H) {p : Addr} (n : H p = none) : F p = none := by
  cases e : F p with
  | none => rfl
  | some o => rw [(h.f p o e).1] at n; cases n
theorem same_new {p : Addr} {o : HO} (n : I p = none) : Same I (upd I p o) := fun b x e => by
  rw [upd_ne (ne_of_none e n)]
  exact e
/-- a new thing that never changes -/
theorem Ok.newI (h : Ok K I S F H) {p : Addr} {o : HO} (n : H p = none) : Ok K (upd I p o) S F (upd H p o) := by
  refine ⟨fun a x e => ?_, fun a m e => ?_, fun a x e => ?_⟩
  · by_cases q : a = p
    · subst q; rw [upd_same] at e ⊢; exact e
    · rw [upd_ne q] at e ⊢; exact h.i a x e
  · obtain ⟨h1, h2⟩ := h.s a m e
    obtain ⟨x, h3, _⟩ := h2.there
    have ne : a ≠ p := ne_of_none h3 n
    refine ⟨by rw [upd_ne ne]; exact h1, h2.mono (same_new (h.freshI n)) (upd_ne ne) fun dx q => ?_⟩
    rw [upd_ne (ne_of_none q n)]; exact q
  · obtain ⟨h1, h2, h3, h4⟩ := h.f a x e
    have ne : a ≠ p := ne_of_none h1 n
    exact ⟨by rw [upd_ne ne]; exact h1, by rw [upd_ne ne]; exact h2, h3, h4⟩
/-- a new list that may change -/
theorem Ok.newM (h : Ok K I S F H) {p : Addr} {xs : List V} {ds : List D} (n : H p = none) (r : RepL K I ds xs) : Ok K I (supd S p (.lst ds)) F (upd H p (.lst xs)) := by
  refine ⟨fun a x e => ?_, fun a m e => ?_, fun a x e => ?_⟩
  · rw [upd_ne (ne_of_none (h.i a x e) n)]; exact h.i a x e
  · unfold supd at e
    by_cases q : a = p
    · subst q
      rw [if_pos rfl] at e; cases e
      exact ⟨h.freshI n, xs, upd_same, r⟩
    · rw [if_neg q] at e
      obtain ⟨h1, h2⟩ := h.s a m e
      refine ⟨h1, h2.mono (Same.refl I) (upd_ne q) fun dx q => ?_⟩
      rw [upd_ne (ne_of_none q n)]; exact q
  · obtain ⟨h1, h2, h3, h4⟩ := h.f a x e
    have ne : a ≠ p := ne_of_none h1 n
    exact ⟨by rw [upd_ne ne]; exact h1, h2, by unfold supd; rw [if_neg ne]; exact h3, h4⟩
/-- a new thing that is hidden -/
theorem Ok.newF (h : Ok K I S F H) {p : Addr} {o : HO} (n : H p = none) (no : NoHid o) : Ok K I S (upd F p o) (upd H p o) := by
  refine ⟨fun a x e => ?_, fun a m e => ?_, fun a x e => ?_⟩
  · rw [upd_ne (ne_of_none (h.i a x e) n)]; exact h.i a x e
  · obtain ⟨h1, h2⟩ := h.s a m e
    obtain ⟨x, h3, _⟩ := h2.there
    have ne : a ≠ p := ne_of_none h3 n
    refine ⟨h1, h2.mono (Same.refl I) (upd_ne ne) fun dx q => ?_⟩
    rw [upd_ne (ne_of_none q n)]; exact q
  · by_cases q : a = p
    · subst q
      rw [upd_same] at e ⊢; cases e
      exact ⟨rfl, h.freshI n, h.freshS n, no⟩
    · rw [upd_ne q] at e
      obtain ⟨h1, h2, h3, h4⟩ := h.f a x e
      exact ⟨by rw [upd_ne q]; exact h1, h2, h3, h4⟩
/-- a changing list changes -/
theorem Ok.write (h : Ok K I S F H) {p : Addr} {m : MO} {o : HO} {m' : MO} (e : S p = some m) (no : ∀ y, H p ≠ some (.own y)) (r : RepM K I (upd H p o) p m') : Ok K I (supd S p m') F (upd H p o) := by
  obtain ⟨i0, m0⟩ := h.s p m e
  refine ⟨fun a x q => ?_, fun a m q => ?_, fun a x q => ?_⟩
  · rw [upd_ne (ne_of_none q i0)]; exact h.i a x q
  · unfold supd at q
    by_cases z : a = p
    · subst z
      rw [if_pos rfl] at q; cases q
      exact ⟨i0, r⟩
    · rw [if_neg z] at q
      obtain ⟨h1, h2⟩ := h.s a m q
      refine ⟨h1, h2.mono (Same.refl I) (upd_ne z) fun dx q => ?_⟩
      by_cases zz : dx = p
      · subst zz; exact absurd q (no _)
      · rw [upd_ne zz]; exact q
  · obtain ⟨h1, h2, h3, h4⟩ := h.f a x q
    have ne : a ≠ p := fun z => by subst z; rw [h3] at e; cases e
    exact ⟨by rw [upd_ne ne]; exact h1, h2, by unfold supd; rw [if_neg ne]; exact h3, h4⟩
theorem Ok.writeL (h : Ok K I S F H) {p : Addr} {m : MO} {xs : List V} {ds : List D} (e : S p = some m) (r : RepL K I ds xs) : Ok K I (supd S p (.lst ds)) F (upd H p (.lst xs)) := by
  refine h.write e (fun y z => ?_) ⟨xs, upd_same, r⟩
  obtain ⟨o, q, no⟩ := (h.s p m e).2.there
  rw [q] at z
  exact no y (Option.some.inj z)
/-- a hidden thing changes -/
theorem Ok.writeF (h : Ok K I S F H) {p : Addr} {o o' : HO} (e : F p = some o) (no : NoHid o') : Ok K I S (upd F p o') (upd H p o') := by
  obtain ⟨f1, f2, f3, f4⟩ := h.f p o e
  refine ⟨fun a x q => ?_, fun a m q => ?_, fun a x q => ?_⟩
  · rw [upd_ne (ne_of_none q f2)]; exact h.i a x q
  · obtain ⟨h1, h2⟩ := h.s a m q
    have ne : a ≠ p := fun z => by subst z; rw [f3] at q; cases q
    refine ⟨h1, h2.mono (Same.refl I) (upd_ne ne) fun dx q => ?_⟩
    by_cases zz : dx = p
    · subst zz
      rw [f1] at q
      exact absurd (Option.some.inj q) (f4.1 _)
    · rw [upd_ne zz]; exact q
  · by_cases z : a = p
    · subst z
      rw [upd_same] at q ⊢; cases q
      exact ⟨rfl, f2, f3, no⟩
    · rw [upd_ne z] at q
      obtain ⟨h1, h2, h3, h4⟩ := h.f a x q
      exact ⟨by rw [upd_ne z]; exact h1, h2, h3, h4⟩
/-- a hidden thing is laid with what never changes -/
theorem Ok.showF (h : Ok K I S F H) {p : Addr} {o : HO} (e : F p = some o) : Ok K (upd I p o) S (fun b => if b = p then none else F b) H := by
  obtain ⟨f1, f2, f3, f4⟩ := h.f p o e
  refine ⟨fun a x q => ?_, fun a m q => ?_, fun a x q => ?_⟩
  · by_cases z : a = p
    · subst z; rw [upd_same] at q; cases q; exact f1
    · rw [upd_ne z] at q; exact h.i a x q
  · obtain ⟨h1, h2⟩ := h.s a m q
    have ne : a ≠ p := fun z => by subst z; rw [f3] at q; cases q
    exact ⟨by rw [upd_ne ne]; exact h1, h2.mono (same_new f2) rfl fun _ q => q⟩
  · by_cases z : a = p
    · rw [if_pos z] at q; cases q
    · rw [if_neg z] at q
      obtain ⟨h1, h2, h3, h4⟩ := h.f a x q
      exact ⟨h1, by rw [upd_ne z]; exact h2, h3, h4⟩
/-- a list that changed is to change no more -/
theorem Ok.freeze (h : Ok K I S F H) {p : Addr} {ds : List D} (e : S p = some (.lst ds)) : ∃ xs, RepL K I ds xs ∧ I p = none ∧ Ok K (upd I p (.lst xs)) (sdel S p) F H := by
  obtain ⟨i0, xs, hp, r⟩ := h.s p _ e
  refine ⟨xs, r, i0, fun a x q => ?_, fun a m q => ?_, fun a x q => ?_⟩
  · by_cases z : a = p
    · subst z; rw [upd_same] at q; cases q; exact hp
    · rw [upd_ne z] at q; exact h.i a x q
  · unfold sdel at q
    by_cases z : a = p
    · rw [if_pos z] at q; cases q
    · rw [if_neg z] at q
      obtain ⟨h1, h2⟩ := h.s a m q
      exact ⟨by rw [upd_ne z]; exact h1, h2.mono (same_new i0) rfl fun _ q => q⟩
  · obtain ⟨h1, h2, h3, h4⟩ := h.f a x q
    have ne : a ≠ p := fun z => by subst z; rw [h3] at e; cases e
    exact ⟨h1, by rw [upd_ne ne]; exact h2, by unfold sdel; rw [if_neg ne]; exact h3, h4⟩
theorem rep_new_lst {p : Addr} {xs : List V} {ds : List D} (n : I p = none) (r : RepL K I ds xs) : Rep K (upd I p (.lst xs)) (.lst ds) (.ref p) := by
  simp only [Rep]
  exact ⟨p, xs, rfl, upd_same, r.mono (same_new n)⟩
theorem rep_new_tup {p : Addr} {xs : List V} {ds : List D} (n : I p = none) (r : RepL K I ds xs) : Rep K (upd I p (.tup xs)) (.tup ds) (.ref p) := by
  simp only [Rep]
  exact ⟨p, xs, rfl, .inl upd_same, r.mono (same_new n)⟩
end

/-! ### slots -/
def RepS (K : PySem.W.Frag) (I : Hp) (ρ : DSt) (σ : L2.St) : Prop := ρ.length = σ.length ∧ ∀ (i : Nat) (d : D), ρ[i]? = some (some d) → ∃ v, σ[i]? = some (some v) ∧ Rep K I d v
section
variable {K : PySem.W.Frag} {I I' : Hp} {ρ : DSt} {σ : L2.St}
theorem RepS.mono (h : RepS K I ρ σ) (e : Same I I') : RepS K I' ρ σ := ⟨h.1, fun i d q => let ⟨v, a, b⟩ := h.2 i d q; ⟨v, a, b.mono e⟩⟩
theorem RepS.set (h : RepS K I ρ σ) {d : D} {v : V} (i : Nat) (r : Rep K I d v) : RepS K I (ρ.set i (some d)) (σ.set i (some v)) := by
  refine ⟨by simp [h.1], fun j x q => ?_⟩
  by_cases hj : i = j
  · subst hj
    by_cases hi : i < ρ.length
    · rw [List.getElem?_set_self hi] at q
      cases q
      exact ⟨v, by rw [List.getElem?_set_self (by rw [← h.1]; exact hi)], r⟩
    · rw [List.getElem?_eq_none (by simpa using hi)] at q; cases q
  · rw [List.getElem?_set_ne hj] at q
    obtain ⟨w, a, b⟩ := h.2 j x q
    exact ⟨w, by rw [List.getElem?_set_ne hj]; exact a, b⟩
theorem RepS.unset (h : RepS K I ρ σ) (i : Nat) : RepS K I (ρ.set i none) (σ.set i none) := by
  refine ⟨by simp [h.1], fun j x q => ?_⟩
  by_cases hj : i = j
  · subst hj
    by_cases hi : i < ρ.length
    · rw [List.getElem?_set_self hi] at q; cases q
    · rw [List.getElem?_eq_none (by simpa using hi)] at q; cases q
  · rw [List.getElem?_set_ne hj] at q
    obtain ⟨w, a, b⟩ := h.2 j x q
    exact ⟨w, by rw [List.getElem?_set_ne hj]; exact a, b⟩
def dwipe (ρ : DSt) : List Nat → DSt
  | [] => ρ
  | v :: vs => (dwipe ρ vs).set v none
theorem RepS.wipe (h : RepS K I ρ σ) : ∀ vs : List Nat, RepS K I (dwipe ρ vs) (L2.wipe σ vs)
  | [] => h
  | v :: vs => (h.wipe vs).unset v
theorem repS_start {N : List Str} {ds : List D} {vs : List V} (r : RepL K I ds vs) : RepS K I (ds.map some ++ List.replicate (N.length - ds.length) none) (L2.start N vs) := by
  have l := r.len
  refine ⟨by simp [L2.start, l], fun i d q => ?_⟩
  by_cases hi : i < ds.length
  · rw [List.getElem?_append_left (by simpa using hi)] at q
    rw [List.getElem?_map] at q
    cases e : ds[i]? with
    | none => rw [e] at q; cases q
    | some x =>
      rw [e] at q
      cases q
      obtain ⟨v, e1, e2⟩ := r.get e
      refine ⟨v, ?_, e2⟩
      unfold L2.start
      rw [List.getElem?_append_left (by simpa [l] using hi), List.getElem?_map, e1]
      rfl
  · rw [List.getElem?_append_right (by simpa using hi)] at q
    rw [List.getElem?_replicate] at q
    split at q <;> cases q
end
end DL

namespace DL
open PySem PySem.Spec PyProof.Rows L2
local macro_rules | `(tactic| omega) => `(tactic| first | assumption | lia)

/-! ### readings over data -/
abbrev DE := DSt → Store → (D → Store → Prop) → Prop
abbrev DT := DSt → Store → (Bool → Store → Prop) → Prop
abbrev DA := DSt → Store → (List D → Store → Prop) → Prop
/-- what is walked: its data, what must stay as it is meanwhile -/
abbrev DI := DSt → Store → (List D → Option (Store → Prop) → Store → Prop) → Prop
structure DEnds where
  nx : DSt → Store → Prop
  rt : D → Store → Prop
  bk : DSt → Store → Prop := fun _ _ => False
  ct : DSt → Store → Prop := fun _ _ => False
  /-- an exception: its class's number, the place of its dict -/
  xc : Nat → Option Addr → DSt → Store → Prop := fun _ _ _ _ => False
abbrev DS := DEnds → DSt → Store → Prop
abbrev DSp := List D → Store → (D → Store → Prop) → Prop

section
variable (K : PySem.W.Frag)
def Sees (I F : Hp) (P : D → Store → Prop) (Q : VK) : Prop := ∀ x S' v I' H', P x S' → Same I I' → Ok K I' S' F H' → Rep K I' x v → Q v H'
def SeesT (I F : Hp) (P : Bool → Store → Prop) (Q : Bool → Hp → Prop) : Prop := ∀ b S' I' H', P b S' → Same I I' → Ok K I' S' F H' → Q b H'
def SeesA (I F : Hp) (P : List D → Store → Prop) (Q : List V → Hp → Prop) : Prop := ∀ xs S' vs I' H', P xs S' → Same I I' → Ok K I' S' F H' → RepL K I' xs vs → Q vs H'
def SeesS (I F : Hp) (P : DSt → Store → Prop) (Q : L2.St → Hp → Prop) : Prop := ∀ ρ S' σ I' H', P ρ S' → Same I I' → Ok K I' S' F H' → RepS K I' ρ σ → Q σ H'
def upE (d : DE) : TE := fun σ H Q => ∃ ρ I S F P, RepS K I ρ σ ∧ Ok K I S F H ∧ d ρ S P ∧ Sees K I F P Q
def upT (d : DT) : TT := fun σ H Q => ∃ ρ I S F P, RepS K I ρ σ ∧ Ok K I S F H ∧ d ρ S P ∧ SeesT K I F P Q
def upA (d : DA) : TA := fun σ H Q => ∃ ρ I S F P, RepS K I ρ σ ∧ Ok K I S F H ∧ d ρ S P ∧ SeesA K I F P Q
structure SeesD (I F : Hp) (DD : DEnds) (E : Ends) : Prop where
  nx : SeesS K I F DD.nx E.nx
  rt : Sees K I F DD.rt E.rt
  bk : SeesS K I F DD.bk E.bk
  ct : SeesS K I F DD.ct E.ct
def upS (d : DS) : TS := fun E σ H => ∃ ρ I S F DD, RepS K I ρ σ ∧ Ok K I S F H ∧ d DD ρ S ∧ SeesD K I F DD E
/-- a def's promise -/
def upSp (d : DSp) : Sp := fun vs H Q _ => ∃ ds I S F P, RepL K I ds vs ∧ Ok K I S F H ∧ d ds S P ∧ Sees K I F P Q
end
section
variable {K : PySem.W.Frag} {I I' F : Hp}
theorem Sees.mono {P : D → Store → Prop} {Q : VK} (h : Sees K I F P Q) (e : Same I I') : Sees K I' F P Q := fun x S' v I2 H' p e2 ok r => h x S' v I2 H' p (e.trans e2) ok r
theorem SeesT.mono {P : Bool → Store → Prop} {Q : Bool → Hp → Prop} (h : SeesT K I F P Q) (e : Same I I') : SeesT K I' F P Q := fun x S' I2 H' p e2 ok => h x S' I2 H' p (e.trans e2) ok
theorem SeesA.mono {P : List D → Store → Prop} {Q : List V → Hp → Prop} (h : SeesA K I F P Q) (e : Same I I') : SeesA K I' F P Q := fun x S' v I2 H' p e2 ok r => h x S' v I2 H' p (e.trans e2) ok r
theorem SeesS.mono {P : DSt → Store → Prop} {Q : L2.St → Hp → Prop} (h : SeesS K I F P Q) (e : Same I I') : SeesS K I' F P Q := fun x S' v I2 H' p e2 ok r => h x S' v I2 H' p (e.trans e2) ok r
theorem SeesD.mono {DD : DEnds} {E : Ends} (h : SeesD K I F DD E) (e : Same I I') : SeesD K I' F DD E := ⟨h.nx.mono e, h.rt.mono e, h.bk.mono e, h.ct.mono e⟩
end

abbrev JE (X : Cx) (e : Expr) (d : DE) : Prop := PE X e (upE X.K d)
abbrev JT (X : Cx) (e : Expr) (d : DT) : Prop := PT X e (upT X.K d)
abbrev JW (X : Cx) (e : Expr) (d : DT) : Prop := PW X e (upT X.K d)
abbrev JA (X : Cx) (es : List Expr) (d : DA) : Prop := PA X es (upA X.K d)
abbrev JS (X : Cx) (st : Stmt) (d : DS) : Prop := PS X st (upS X.K d)
abbrev JSs (X : Cx) (st : List Stmt) (d : DS) : Prop := PSs X st (upS X.K d)

theorem je_of {X : Cx} {e : Expr} {t u : TE} (h : PE X e t) (i : ∀ σ H Q, u σ H Q → t σ H Q) : PE X e u := ⟨fun pins s σ H Q I q => h.run pins s σ H Q I (i _ _ _ q)⟩
theorem jt_of {X : Cx} {e : Expr} {t u : TT} (h : PT X e t) (i : ∀ σ H Q, u σ H Q → t σ H Q) : PT X e u := ⟨fun pins s σ H Q I q => h.run pins s σ H Q I (i _ _ _ q)⟩
theorem jw_of {X : Cx} {e : Expr} {t u : TT} (h : PW X e t) (i : ∀ σ H Q, u σ H Q → t σ H Q) : PW X e u := ⟨fun wh pins s σ H Q I q => h.run wh pins s σ H Q I (i _ _ _ q)⟩
theorem ja_of {X : Cx} {e : List Expr} {t u : TA} (h : PA X e t) (i : ∀ σ H Q, u σ H Q → t σ H Q) : PA X e u := ⟨fun pos pins s σ H Q I q => h.run pos pins s σ H Q I (i _ _ _ q)⟩
theorem js_of {X : Cx} {e : Stmt} {t u : TS} (h : PS X e t) (i : ∀ D σ H, u D σ H → t D σ H) : PS X e u := ⟨fun pins s σ H Q I q => h.run pins s σ H Q I (i _ _ _ q)⟩
theorem jss_of {X : Cx} {e : List Stmt} {t u : TS} (h : PSs X e t) (i : ∀ D σ H, u D σ H → t D σ H) : PSs X e u := ⟨fun pins s σ H Q I q => h.run pins s σ H Q I (i _ _ _ q)⟩

/-! ### names, constants -/
def dVar (i : Nat) : DE := fun ρ S P => match ρ[i]? with
  | some (some x) => P x S
  | _ => False
def dC (x : D) : DE := fun _ S P => P x S
section
variable {X : Cx} {pos : Pos}
theorem je_var (i : Nat) {x : Str} (hN : X.N[i]? = some x := by rfl) (hv : Vis X.env.scope x := by first | exact Or.inl rfl | exact Or.inr (Or.inl rfl) | exact Or.inr (Or.inr rfl)) (hd : (x == ("__debug__" : Str)) = false := by decide)
    (hcd : (x == ("__classdict__" : Str)) = false := by decide) : JE X (.Name x pos) (dVar i) :=
  je_of (pe_var hN hv hd hcd) fun σ H Q h0_ => El54 h0_ fun ρ I S F P rs ok h q => by
    unfold dVar at h
    split at h
    · rename_i x e
      obtain ⟨v, e1, r⟩ := rs.2 i x e
      exact ⟨v, e1, q _ _ _ _ _ h (Same.refl I) ok r⟩
    · exact h.elim
theorem je_c {e : Expr} {x : D} {v : V} (h : PE X e (tC v)) (r : ∀ I, Rep X.K I x v) : JE X e (dC x) :=
  je_of h fun σ H Q h0_ => El54 h0_ fun ρ I S F P rs ok h q => q _ _ _ _ _ h (Same.refl I) ok (r I)
theorem je_int {i : Int} {j} : JE X (.Constant (.int i) j pos) (dC (.int i)) := je_c pe_int fun _ => rep_int
theorem je_bl {b : Bool} {j} : JE X (.Constant (.bool b) j pos) (dC (.bl b)) := je_c pe_bl fun _ => rep_bl
theorem je_non {j} : JE X (.Constant .none j pos) (dC .non) := je_c pe_non fun _ => rep_non
/-! ### operators -/
abbrev D2 := D → D → Store → (D → Store → Prop) → Prop
abbrev D1 := D → Store → (D → Store → Prop) → Prop
def dOp (o : D2) (a b : DE) : DE := fun ρ S P => a ρ S fun x S1 => b ρ S1 fun y S2 => o x y S2 P
def dUn (o : D1) (a : DE) : DE := fun ρ S P => a ρ S fun x S1 => o x S1 P
def Imp2 (K : PySem.W.Frag) (r : R2) (o : D2) : Prop := ∀ x y v w I S F H P Q, Ok K I S F H → Rep K I x v → Rep K I y w → o x y S P → Sees K I F P Q → r v w H Q
def Imp1 (K : PySem.W.Frag) (r : V → Hp → VK → Prop) (o : D1) : Prop := ∀ x v I S F H P Q, Ok K I S F H → Rep K I x v → o x S P → Sees K I F P Q → r v H Q
variable {a b : Expr} {da db : DE}
theorem up_op {K : PySem.W.Frag} {r : R2} {o : D2} (i : Imp2 K r o) : ∀ σ H Q, upE K (dOp o da db) σ H Q → tOp r (upE K da) (upE K db) σ H Q := fun σ H Q h0_ => El54 h0_ fun ρ I S F P rs ok h q =>
  ⟨ρ, I, S, F, _, rs, ok, h, fun x S1 v I1 H1 h1 e1 ok1 r1 => ⟨ρ, I1, S1, F, _, rs.mono e1, ok1, h1, fun y S2 w I2 H2 h2 e2 ok2 r2 =>
    i x y v w I2 S2 F H2 P Q ok2 (r1.mono e2) r2 h2 (q.mono (e1.trans e2))⟩⟩
theorem je_op {op : Operator} {r : R2} {o : D2} (h : OpR X (binaryOp op) r) (i : Imp2 X.K r o) (ha : JE X a da) (hb : JE X b db) : JE X (.BinOp a op b pos) (dOp o da db) := je_of (pe_op h ha hb) (up_op i)
theorem je_un {op : UnaryOp} {r : V → Hp → VK → Prop} {o : D1} (h : UnR X (unaryOp op) r) (i : Imp1 X.K r o) (ha : JE X a da) : JE X (.UnaryOp op a pos) (dUn o da) :=
  je_of (pe_un h ha) fun σ H Q h0_ => El54 h0_ fun ρ I S F P rs ok h q => ⟨ρ, I, S, F, _, rs, ok, h, fun x S1 v I1 H1 h1 e1 ok1 r1 => i x v I1 S1 F H1 P Q ok1 r1 h1 (q.mono e1)⟩
theorem je_cmp {op : CmpOp} {r : R2} {o : D2} (h : OpR X (compareOp op) r) (i : Imp2 X.K r o) (ha : JE X a da) (hb : JE X b db) (hm : behindInMarks op b = false) : JE X (.Compare a [op] [b] pos) (dOp o da db) := je_of (pe_cmpR h ha hb hm) (up_op i)
def dTest (d : DE) : DT := fun ρ S P => d ρ S fun x S1 => match x with
  | .bl k => P k S1
  | _ => False
theorem up_test {K : PySem.W.Frag} {t : TE} {d : DE} (h : ∀ σ H Q, upE K d σ H Q → t σ H Q) : ∀ σ H Q, upT K (dTest d) σ H Q → tTest t σ H Q := fun σ H Q h0_ => El54 h0_ fun ρ I S F P rs ok hh q =>
  h _ _ _ ⟨ρ, I, S, F, _, rs, ok, hh, fun x S1 v I1 H1 h1 e1 ok1 r1 => by
    cases x with
    | bl k => exact ⟨k, r1.bl_of, q k S1 I1 H1 h1 e1 ok1⟩
    | _ => exact h1.elim⟩
theorem jt_cmp {op : CmpOp} {r : R2} {o : D2} (h : OpR X (compareOp op) r) (i : Imp2 X.K r o) (ha : JE X a da) (hb : JE X b db) (hm : behindInMarks op b = false) : JT X (.Compare a [op] [b] pos) (dTest (dOp o da db)) := jt_of (pt_cmpR h ha hb hm) (up_test (up_op i))

/-! ### and, or, not, if -/
def dAnd (t u : DT) : DT := fun ρ S P => t ρ S fun c S1 => if c = true then u ρ S1 P else P false S1
def dOr (t u : DT) : DT := fun ρ S P => t ρ S fun c S1 => if c = true then P true S1 else u ρ S1 P
def dNot (t : DT) : DT := fun ρ S P => t ρ S fun c S1 => P (!c) S1
/-- and, or as values, truths all but the last -/
def dAndV (a b : DE) : DE := fun ρ S P => a ρ S fun x S1 => match x with
  | .bl c => if c = true then b ρ S1 P else P (.bl false) S1
  | _ => False
def dOrV (a b : DE) : DE := fun ρ S P => a ρ S fun x S1 => match x with
  | .bl c => if c = true then P (.bl true) S1 else b ρ S1 P
  | _ => False
def dNotV (a : DE) : DE := fun ρ S P => a ρ S fun x S1 => match x with
  | .bl c => P (.bl (!c)) S1
  | _ => False
def dIf (c : DT) (a b : DE) : DE := fun ρ S P => c ρ S fun k S1 => if k = true then a ρ S1 P else b ρ S1 P
variable {dt du : DT} {rest : List Expr}
theorem jw_and1 (ha : JT X a dt) : JW X (.BoolOp .And [a] pos) dt := pw_and1 ha
theorem jw_and (ha : JT X a dt) (hb : JW X (.BoolOp .And (b :: rest) pos) du) : JW X (.BoolOp .And (a :: b :: rest) pos) (dAnd dt du) :=
  jw_of (pw_and ha hb) fun σ H Q h0_ => El54 h0_ fun ρ I S F P rs ok h q => ⟨ρ, I, S, F, _, rs, ok, h, fun c S1 I1 H1 h1 e1 ok1 => by
    cases c with
    | true => exact ⟨ρ, I1, S1, F, P, rs.mono e1, ok1, h1, q.mono e1⟩
    | false => exact q _ _ _ _ h1 e1 ok1⟩
theorem jt_w (h : JW X a dt) : JT X a dt := h.pt
theorem jt_not (ha : JT X a dt) : JT X (.UnaryOp .Not a pos) (dNot dt) :=
  jt_of (pt_not ha) fun σ H Q h0_ => El54 h0_ fun ρ I S F P rs ok h q => ⟨ρ, I, S, F, _, rs, ok, h, fun c S1 I1 H1 h1 e1 ok1 => q _ _ _ _ h1 e1 ok1⟩
/-- an expression that gives a truth, as a test -/
theorem jt_val (h : JE X a da) (he : ∀ whole, isTrue a X.env whole = (do let v ← whole; standAt a.pos; holding [v] (truthy v)) := by intro _; rfl) : JT X a (dTest da) :=
  jt_of (pt_val h he) fun σ H Q h0_ => El54 h0_ fun ρ I S F P rs ok hh q => ⟨ρ, I, S, F, _, rs, ok, hh, fun x S1 v I1 H1 h1 e1 ok1 r1 => by
    cases x with
    | bl k => exact ⟨k, r1.bl_of, q k S1 I1 H1 h1 e1 ok1⟩
    | _ => exact h1.elim⟩
theorem je_one {op} (h : JE X a da) : JE X (.BoolOp op [a] pos) da := pe_one h
theorem je_and (ha : JE X a da) (hb : JE X (.BoolOp .And (b :: rest) pos) db) : JE X (.BoolOp .And (a :: b :: rest) pos) (dAndV da db) :=
  je_of (pe_and ha hb) fun σ H Q h0_ => El54 h0_ fun ρ I S F P rs ok h q => ⟨ρ, I, S, F, _, rs, ok, h, fun x S1 v I1 H1 h1 e1 ok1 r1 => by
    cases x with
    | bl c =>
      refine ⟨c, r1.bl_of, ?_⟩
      cases c with
      | true => exact ⟨ρ, I1, S1, F, P, rs.mono e1, ok1, h1, q.mono e1⟩
      | false => exact q _ _ _ _ _ h1 e1 ok1 rep_bl
    | _ => exact h1.elim⟩
theorem je_or (ha : JE X a da) (hb : JE X (.BoolOp .Or (b :: rest) pos) db) : JE X (.BoolOp .Or (a :: b :: rest) pos) (dOrV da db) :=
  je_of (pe_or ha hb) fun σ H Q h0_ => El54 h0_ fun ρ I S F P rs ok h q => ⟨ρ, I, S, F, _, rs, ok, h, fun x S1 v I1 H1 h1 e1 ok1 r1 => by
    cases x with
    | bl c =>
      refine ⟨c, r1.bl_of, ?_⟩
      cases c with
      | false => exact ⟨ρ, I1, S1, F, P, rs.mono e1, ok1, h1, q.mono e1⟩
      | true => exact q _ _ _ _ _ h1 e1 ok1 rep_bl
    | _ => exact h1.elim⟩
theorem je_not (ha : JE X a da) : JE X (.UnaryOp .Not a pos) (dNotV da) :=
  je_of (pe_not ha) fun σ H Q h0_ => El54 h0_ fun ρ I S F P rs ok h q => ⟨ρ, I, S, F, _, rs, ok, h, fun x S1 v I1 H1 h1 e1 ok1 r1 => by
    cases x with
    | bl c => exact ⟨c, r1.bl_of, q _ _ _ _ _ h1 e1 ok1 rep_bl⟩
    | _ => exact h1.elim⟩
theorem je_ifE {c : Expr} (hc : JT X c dt) (ha : JE X a da) (hb : JE X b db) : JE X (.IfExp c a b pos) (dIf dt da db) :=
  je_of (pe_ifExp hc ha hb) fun σ H Q h0_ => El54 h0_ fun ρ I S F P rs ok h q => ⟨ρ, I, S, F, _, rs, ok, h, fun c S1 I1 H1 h1 e1 ok1 => by
    cases c with
    | true => exact ⟨ρ, I1, S1, F, P, rs.mono e1, ok1, h1, q.mono e1⟩
    | false => exact ⟨ρ, I1, S1, F, P, rs.mono e1, ok1, h1, q.mono e1⟩⟩

/-! ### arguments, displays -/
def dNil : DA := fun _ S P => P [] S
def dCons (a : DE) (r : DA) : DA := fun ρ S P => a ρ S fun x S1 => r ρ S1 fun xs S2 => P (x :: xs) S2
variable {es : List Expr} {ds : DA}
theorem ja_nil : JA X [] dNil := ja_of pa_nil fun σ H Q h0_ => El54 h0_ fun ρ I S F P rs ok h q => q _ _ _ _ _ h (Same.refl I) ok RepL.nil
theorem ja_cons (ha : JE X a da) (hr : JA X es ds) (hs : starEach (a :: es) X.env = (false, eval a X.env) :: starEach es X.env := by rfl) : JA X (a :: es) (dCons da ds) :=
  ja_of (pa_cons ha hr hs) fun σ H Q h0_ => El54 h0_ fun ρ I S F P rs ok h q => ⟨ρ, I, S, F, _, rs, ok, h, fun x S1 v I1 H1 h1 e1 ok1 r1 => ⟨ρ, I1, S1, F, _, rs.mono e1, ok1, h1, fun xs S2 vs I2 H2 h2 e2 ok2 r2 =>
    q _ _ _ _ _ h2 (e1.trans e2) ok2 (RepL.cons (r1.mono e2) r2)⟩⟩
def dTup (a : DA) : DE := fun ρ S P => a ρ S fun xs S1 => xs.length ≤ 100000 ∧ P (.tup xs) S1
def dLst (a : DA) : DE := fun ρ S P => a ρ S fun xs S1 => xs.length ≤ 100000 ∧ P (.lst xs) S1
/-- a list that is to change -/
def dLstM (a : DA) : DE := fun ρ S P => a ρ S fun xs S1 => xs.length ≤ 100000 ∧ ∀ p, S1 p = none → P (.obj p) (supd S1 p (.lst xs))
theorem line5 {n : Nat} (h : n ≤ 100000) : n ≤ sizeLine := Nat.le_trans h (by decide)
theorem je_tup {x1} (h : JA X es ds) : JE X (.Tuple es x1 pos) (dTup ds) :=
  je_of (pe_tup h) fun σ H Q h0_ => El54 h0_ fun ρ I S F P rs ok hh q => ⟨ρ, I, S, F, _, rs, ok, hh, fun xs S1 vs I1 H1 ⟨hl, h1⟩ e1 ok1 r1 =>
    ⟨line5 (by rw [r1.len]; exact hl), fun p hp => q _ _ _ _ _ h1 (e1.trans (same_new (ok1.freshI hp))) (ok1.newI hp) (rep_new_tup (ok1.freshI hp) r1)⟩⟩
theorem je_lst (h : JA X es ds) : JE X (.List es pos) (dLst ds) :=
  je_of (pe_lst h) fun σ H Q h0_ => El54 h0_ fun ρ I S F P rs ok hh q => ⟨ρ, I, S, F, _, rs, ok, hh, fun xs S1 vs I1 H1 ⟨hl, h1⟩ e1 ok1 r1 =>
    ⟨line5 (by rw [r1.len]; exact hl), fun p hp => q _ _ _ _ _ h1 (e1.trans (same_new (ok1.freshI hp))) (ok1.newI hp) (rep_new_lst (ok1.freshI hp) r1)⟩⟩
theorem je_lstM (h : JA X es ds) : JE X (.List es pos) (dLstM ds) :=
  je_of (pe_lst h) fun σ H Q h0_ => El54 h0_ fun ρ I S F P rs ok hh q => ⟨ρ, I, S, F, _, rs, ok, hh, fun xs S1 vs I1 H1 ⟨hl, h1⟩ e1 ok1 r1 =>
    ⟨line5 (by rw [r1.len]; exact hl), fun p hp => q _ _ _ _ _ (h1 p (ok1.freshS hp)) e1 (ok1.newM hp r1) (by simp only [Rep])⟩⟩

/-! ### calls -/
def dCall (sp : DSp) (dv : List D) (a : DA) : DE := fun ρ S P => a ρ S fun xs S1 => sp (xs ++ dv) S1 P
abbrev FnD (P : Program) (w : World) (K : PySem.W.Frag) (mg : Str → Option Value) (base : Heap) (k : Nat) (f : Addr) (fd : FuncData) (ps : List Str) (sp : DSp) : Prop := DG.FnG P w K mg base CX0 k f fd ps (upSp K sp)
theorem je_call {k : Nat} {f : Addr} {fd : FuncData} {ps : List Str} {sp : DSp} {dv : List D} {dvs : List V} {dd : List Value} {x : Str} {p : Pos} (G : FnD X.prog X.w X.K X.mg X.base k f fd ps sp) (hr : DG.RoomG k X.A) (hg : Gl X x) (hm : X.mg x = some (.ref f)) (hk : PySem.W.keepIn X.K (.ref f) = true)
    (hb : Binds X.K fd ps dd) (hd : Vals dvs dd) (hdv : ∀ I, RepL X.K I dv dvs) (ha : JA X (a :: es) ds) (hdb : (x == ("__debug__" : Str)) = false := by decide) (he : starEach (a :: es) X.env = (false, eval a X.env) :: starEach es X.env := by rfl)
    (hpl : (backTo pos (starEach es X.env)).any (·.1) = false := by rfl) : JE X (.Call (.Name x p) (a :: es) [] pos) (dCall sp dv ds) :=
  je_of (DG.pe_call G hr hg hm hk hb hd pass0 ha hdb he hpl) fun σ H Q h0_ => El54 h0_ fun ρ I S F P rs ok h q => ⟨ρ, I, S, F, _, rs, ok, h, fun xs S1 vs I1 H1 h1 e1 ok1 r1 => ⟨_, I1, S1, F, P, r1.app (hdv I1), ok1, h1, q.mono e1⟩⟩
/-- a built-in's call, by its rule -/
abbrev DC := List D → Store → (D → Store → Prop) → Prop
def ImpC (K : PySem.W.Frag) (r : List V → Hp → VK → Prop) (o : DC) : Prop := ∀ xs vs I S F H P Q, Ok K I S F H → RepL K I xs vs → o xs S P → Sees K I F P Q → r vs H Q
def dCB (o : DC) (a : DA) : DE := fun ρ S P => a ρ S fun xs S1 => o xs S1 P
theorem up_cb {K : PySem.W.Frag} {r : List V → Hp → VK → Prop} {o : DC} (i : ImpC K r o) : ∀ σ H Q, upE K (dCB o ds) σ H Q → tCB r (upA K ds) σ H Q := fun σ H Q h0_ => El54 h0_ fun ρ I S F P rs ok h q =>
  ⟨ρ, I, S, F, _, rs, ok, h, fun xs S1 vs I1 H1 h1 e1 ok1 r1 => i xs vs I1 S1 F H1 P Q ok1 r1 h1 (q.mono e1)⟩
theorem je_callB {r : List V → Hp → VK → Prop} {o : DC} {id : String} {x : Str} {p : Pos} (hc : CallR X (.builtin id) r) (i : ImpC X.K r o) (hg : Gl X x) (hm : X.mg x = none) (hv : bootBuiltins x = some (.builtin id)) (ha : JA X (a :: es) ds) (hn : x ≠ "__name__" := by decide) (hdb : (x == ("__debug__" : Str)) = false := by decide)
    (hs : starEach (a :: es) X.env = (false, eval a X.env) :: starEach es X.env := by rfl) (hpl : (backTo pos (starEach es X.env)).any (·.1) = false := by rfl) : JE X (.Call (.Name x p) (a :: es) [] pos) (dCB o ds) := je_of (pe_callB hc hg hm hv ha hn hdb hs hpl) (up_cb i)
theorem je_callTy {r : List V → Hp → VK → Prop} {o : DC} {T : String} {x : Str} {p : Pos} (hc : CallR X (.type T) r) (i : ImpC X.K r o) (hg : Gl X x) (hm : X.mg x = none) (hv : bootBuiltins x = some (.type T)) (ha : JA X (a :: es) ds) (hn : x ≠ "__name__" := by decide) (hdb : (x == ("__debug__" : Str)) = false := by decide)
    (hs : starEach (a :: es) X.env = (false, eval a X.env) :: starEach es X.env := by rfl) (hpl : (backTo pos (starEach es X.env)).any (·.1) = false := by rfl) : JE X (.Call (.Name x p) (a :: es) [] pos) (dCB o ds) := je_of (pe_callTy hc hg hm hv ha hn hdb hs hpl) (up_cb i)
end
end DL

namespace DL
open PySem PySem.Spec PyProof.Rows L2
local macro_rules | `(tactic| omega) => `(tactic| first | assumption | lia)

/-! ### statements -/
def dNext : DS := fun DD ρ S => DD.nx ρ S
def dSeq (t u : DS) : DS := fun DD ρ S => t { DD with nx := u DD } ρ S
def dDrop (d : DE) : DS := fun DD ρ S => d ρ S fun _ S1 => DD.nx ρ S1
def dRet (d : DE) : DS := fun DD ρ S => d ρ S DD.rt
/-- what is given back is to change no more -/
def dRetZ (d : DE) : DS := fun DD ρ S => d ρ S fun x S1 => match x with
  | .obj p => ∃ ds, S1 p = some (.lst ds) ∧ DD.rt (.lst ds) (sdel S1 p)
  | _ => False
def dRetN : DS := fun DD _ S => DD.rt .non S
def dIfS (c : DT) (t u : DS) : DS := fun DD ρ S => c ρ S fun b S1 => if b = true then t DD ρ S1 else u DD ρ S1
section
variable {X : Cx} {pos : Pos} {st : Stmt} {sts : List Stmt} {t u : DS} {e : Expr} {de : DE} {dc : DT}
theorem jss_nil : JSs X [] dNext := jss_of pss_nil fun D σ H h0_ => El54 h0_ fun ρ I S F DD rs ok h q => q.nx _ _ _ _ _ h (Same.refl I) ok rs
theorem jss_cons (h1 : JS X st t) (h2 : JSs X sts u) : JSs X (st :: sts) (dSeq t u) :=
  jss_of (pss_cons h1 h2) fun D σ H h0_ => El54 h0_ fun ρ I S F DD rs ok h q =>
    ⟨ρ, I, S, F, _, rs, ok, h, ⟨fun ρ1 S1 σ1 I1 H1 h1 e1 ok1 rs1 => ⟨ρ1, I1, S1, F, DD, rs1, ok1, h1, q.mono e1⟩, q.rt, q.bk, q.ct⟩⟩
theorem jss_one (h1 : JS X st t) : JSs X [st] t := pss_one h1
theorem js_pass : JS X (.Pass pos) dNext := js_of ps_pass fun D σ H h0_ => El54 h0_ fun ρ I S F DD rs ok h q => q.nx _ _ _ _ _ h (Same.refl I) ok rs
theorem js_expr (he : JE X e de) (hs : swapsWith e none pos.line X.env = pure false := by rfl) : JS X (.Expr e pos) (dDrop de) :=
  js_of (ps_expr he hs) fun D σ H h0_ => El54 h0_ fun ρ I S F DD rs ok h q => ⟨ρ, I, S, F, _, rs, ok, h, fun x S1 v I1 H1 h1 e1 ok1 r1 => q.nx _ _ _ _ _ h1 e1 ok1 (rs.mono e1)⟩
theorem js_ret (he : JE X e de) : JS X (.Return (some e) pos) (dRet de) :=
  js_of (ps_ret he) fun D σ H h0_ => El54 h0_ fun ρ I S F DD rs ok h q => ⟨ρ, I, S, F, _, rs, ok, h, q.rt⟩
theorem js_retZ (he : JE X e de) : JS X (.Return (some e) pos) (dRetZ de) :=
  js_of (ps_ret he) fun D σ H h0_ => El54 h0_ fun ρ I S F DD rs ok h q => ⟨ρ, I, S, F, _, rs, ok, h, fun x S1 v I1 H1 h1 e1 ok1 r1 => by
    cases x with
    | obj p =>
      obtain ⟨ds, e, h2⟩ := h1
      obtain ⟨xs, rl, i0, ok2⟩ := ok1.freeze e
      cases r1.obj_of
      exact q.rt _ _ _ _ _ h2 (e1.trans (same_new i0)) ok2 (rep_new_lst i0 rl)
    | _ => exact h1.elim⟩
theorem js_if {c : Expr} {a b : List Stmt} (hc : JT X c dc) (ha : JSs X a t) (hb : JSs X b u) : JS X (.If c a b pos) (dIfS dc t u) :=
  js_of (ps_if hc ha hb) fun D σ H h0_ => El54 h0_ fun ρ I S F DD rs ok h q => ⟨ρ, I, S, F, _, rs, ok, h, fun c S1 I1 H1 h1 e1 ok1 => by
    cases c with
    | true => exact ⟨ρ, I1, S1, F, DD, rs.mono e1, ok1, h1, q.mono e1⟩
    | false => exact ⟨ρ, I1, S1, F, DD, rs.mono e1, ok1, h1, q.mono e1⟩⟩
/-! ### targets -/
/-- names, and tuples of such -/
inductive Tgt where
  | nm (i : Nat)
  | tp (ts : List Tgt)
mutual
def Tgt.slots : Tgt → List Nat
  | .nm i => [i]
  | .tp ts => Tgt.slotsL ts
def Tgt.slotsL : List Tgt → List Nat
  | [] => []
  | t :: ts => t.slots ++ Tgt.slotsL ts
end
mutual
def Tgt.put : Tgt → D → DSt → Option DSt
  | .nm i, x, ρ => some (ρ.set i (some x))
  | .tp ts, .tup xs, ρ => Tgt.putL ts xs ρ
  | .tp ts, .lst xs, ρ => Tgt.putL ts xs ρ
  | .tp _, _, _ => none
def Tgt.putL : List Tgt → List D → DSt → Option DSt
  | [], [], ρ => some ρ
  | t :: ts, x :: xs, ρ => (t.put x ρ).bind fun ρ' => Tgt.putL ts xs ρ'
  | _, _, _ => none
end
/-- σ' is σ but at the slots vs -/
def But (vs : List Nat) (σ σ' : L2.St) : Prop := σ'.length = σ.length ∧ ∀ i, i ∉ vs → σ'[i]? = σ[i]?
theorem wipe_get (σ : L2.St) (i : Nat) : ∀ vs : List Nat, (L2.wipe σ vs)[i]? = if i ∈ vs then (if i < σ.length then some none else none) else σ[i]?
  | [] => by simp [L2.wipe]
  | v :: vs => by
    have ih := wipe_get σ i vs
    unfold L2.wipe
    by_cases h : v = i
    · subst h
      by_cases hl : v < σ.length
      · rw [List.getElem?_set_self (by rw [L2.wipe_length]; exact hl), if_pos (by simp), if_pos hl]
      · rw [List.getElem?_eq_none (by rw [List.length_set, L2.wipe_length]; omega), if_pos (by simp), if_neg hl]
    · rw [List.getElem?_set_ne h, ih]
      have : (i ∈ v :: vs) ↔ i ∈ vs := by simp [Ne.symm h]
      simp only [this]
theorem But.wipe {vs : List Nat} {σ σ' : L2.St} (h : But vs σ σ') : L2.wipe σ' vs = L2.wipe σ vs := by
  apply List.ext_getElem?
  intro i
  rw [wipe_get, wipe_get, h.1]
  split
  · rfl
  · rename_i hi; exact h.2 i hi
def upG (K : PySem.W.Frag) (t : Tgt) : TG := fun v σ H Q => ∃ ρ ρ' I S F x, RepS K I ρ σ ∧ Ok K I S F H ∧ Rep K I x v ∧ t.put x ρ = some ρ' ∧ ∀ σ', RepS K I ρ' σ' → But t.slots σ σ' → Q σ' H
def upGs (K : PySem.W.Frag) (ts : List Tgt) : TGs := fun vs σ H Q => ∃ ρ ρ' I S F xs, RepS K I ρ σ ∧ Ok K I S F H ∧ RepL K I xs vs ∧ Tgt.putL ts xs ρ = some ρ' ∧ ∀ σ', RepS K I ρ' σ' → But (Tgt.slotsL ts) σ σ' → Q σ' H
abbrev JG (X : Cx) (e : Expr) (t : Tgt) : Prop := PG X e (upG X.K t)
abbrev JGs (X : Cx) (es : List Expr) (ts : List Tgt) : Prop := PGs X es (upGs X.K ts)
theorem jg_of {X : Cx} {e : Expr} {t u : TG} (h : PG X e t) (i : ∀ v σ H Q, u v σ H Q → t v σ H Q) : PG X e u := ⟨by
  intro pins s σ H v x Q I r q
  exact h.run pins s σ H v x Q I r (i _ _ _ _ q)⟩
theorem jgs_of {X : Cx} {e : List Expr} {t u : TGs} (h : PGs X e t) (i : ∀ v σ H Q, u v σ H Q → t v σ H Q) : PGs X e u := ⟨by
  intro pins s σ H v x Q I r q
  exact h.run pins s σ H v x Q I r (i _ _ _ _ q)⟩
theorem jg_name (i : Nat) {x : Str} (hN : X.N.Nodup) (hi : X.N[i]? = some x) (hx : Loc X.env.scope x) (hf : X.fn x = true ∨ X.env.scope.names.lookup x = some .local := by first | exact .inl rfl | exact .inr rfl | assumption) : JG X (.Name x pos) (.nm i) :=
  jg_of (pg_name hN hi hx hf) fun v σ H Q ⟨ρ, ρ', I, S, F, x, rs, ok, r, hp, q⟩ => by
    simp only [Tgt.put, Option.some.injEq] at hp
    subst hp
    refine q _ (rs.set i r) ⟨by simp, fun j hj => ?_⟩
    rw [List.getElem?_set_ne]
    intro e
    exact hj (by simp [Tgt.slots, e])
theorem jgs_nil : JGs X [] [] := jgs_of pgs_nil fun v σ H Q ⟨ρ, ρ', I, S, F, xs, rs, ok, r, hp, q⟩ => by
  cases xs with
  | nil =>
    simp only [Tgt.putL, Option.some.injEq] at hp
    subst hp
    simp only [RepL] at r
    exact ⟨r, q σ rs ⟨rfl, fun _ _ => rfl⟩⟩
  | cons x xs => simp [Tgt.putL] at hp
theorem jgs_cons {es : List Expr} {t : Tgt} {ts : List Tgt} (h1 : JG X e t) (h2 : JGs X es ts) (hs : (assignEach (e :: es) X.env).map (·.2) = assign e X.env :: (assignEach es X.env).map (·.2) := by rfl) : JGs X (e :: es) (t :: ts) :=
  jgs_of (pgs_cons h1 h2 hs) fun v σ H Q ⟨ρ, ρ', I, S, F, xs, rs, ok, r, hp, q⟩ => by
    cases xs with
    | nil => simp [Tgt.putL] at hp
    | cons x xs =>
      simp only [Tgt.putL] at hp
      cases e1 : t.put x ρ with
      | none => rw [e1] at hp; cases hp
      | some ρ1 =>
        rw [e1] at hp
        have hp : Tgt.putL ts xs ρ1 = some ρ' := hp
        simp only [RepL] at r
        obtain ⟨w, rr, rfl, r1, r2⟩ := r
        refine ⟨w, rr, rfl, ρ, ρ1, I, S, F, x, rs, ok, r1, e1, fun σ1 rs1 b1 => ⟨ρ1, ρ', I, S, F, xs, rs1, ok, r2, hp, fun σ2 rs2 b2 => q σ2 rs2 ⟨b2.1.trans b1.1, fun i hi => ?_⟩⟩⟩
        have hi2 : i ∉ t.slots ∧ i ∉ Tgt.slotsL ts := by
          simp only [Tgt.slotsL, List.mem_append, not_or] at hi
          exact hi
        rw [b2.2 i hi2.2, b1.2 i hi2.1]
theorem pg_or {X : Cx} {e : Expr} {t u : TG} (h : PG X e t) (h' : PG X e u) : PG X e (fun v σ H Q => t v σ H Q ∨ u v σ H Q) := ⟨by
  intro pins s σ H v w Q I r hw
  rcases hw with hw | hw
  · exact h.run pins s σ H v w Q I r hw
  · exact h'.run pins s σ H v w Q I r hw⟩
theorem jg_tup {es : List Expr} {k : Nat} {ts : List Tgt} {n : Nat} (hc : X.calm = true) (h : JGs X es ts) (hl : ts.length = n := by rfl)
    (hn : (assignEach es X.env).length = n := by rfl) (hst : (assignEach es X.env).findIdx? (·.1) = none := by rfl) : JG X (.Tuple es k pos) (.tp ts) :=
  jg_of (pg_or (pg_tup hc h hn hst) (pg_unl hc h hn hst)) fun v σ H Q ⟨ρ, ρ', I, S, F, x, rs, ok, r, hp, q⟩ => by
    have key : ∀ (ts : List Tgt) (xs : List D) (ρ : DSt), Tgt.putL ts xs ρ = some ρ' → xs.length = ts.length := by
      intro ts
      induction ts with
      | nil => intro xs ρ h; cases xs with
        | nil => rfl
        | cons _ _ => simp [Tgt.putL] at h
      | cons t ts ih => intro xs ρ h; cases xs with
        | nil => simp [Tgt.putL] at h
        | cons y ys =>
          simp only [Tgt.putL] at h
          cases e1 : t.put y ρ with
          | none => rw [e1] at h; cases h
          | some ρ1 => rw [e1] at h; simp [ih ys ρ1 h]
    cases x with
    | tup xs =>
      simp only [Tgt.put] at hp
      obtain ⟨a, vs, rfl, hs, rl⟩ := r.tup_of
      have hle := key ts xs ρ hp
      refine .inl ⟨a, vs, rfl, sqT_same ok.same hs, by rw [rl.len, hle, hl], ρ, ρ', I, S, F, xs, rs, ok, rl, hp, fun σ' rs' b => q σ' rs' b⟩
    | lst xs =>
      simp only [Tgt.put] at hp
      obtain ⟨a, vs, rfl, hs, rl⟩ := r.lst_of
      have hle := key ts xs ρ hp
      refine .inr ⟨a, vs, rfl, .of (ok.i _ _ hs), by rw [rl.len, hle, hl], ρ, ρ', I, S, F, xs, rs, ok, rl, hp, fun σ' rs' b => q σ' rs' b⟩
    | _ => simp [Tgt.put] at hp

/-! ### assignments -/
def dSet (i : Nat) (d : DE) : DS := fun DD ρ S => d ρ S fun x S1 => DD.nx (ρ.set i (some x)) S1
def dAsg (t : Tgt) (d : DE) : DS := fun DD ρ S => d ρ S fun x S1 => match t.put x ρ with
  | some ρ' => DD.nx ρ' S1
  | none => False
theorem js_set (i : Nat) {x : Str} {pos' : Pos} (hN : X.N.Nodup) (hi : X.N[i]? = some x) (hx : Loc X.env.scope x) (he : JE X e de) (hs : swapsWith e (some (.Name x pos')) pos.line X.env = pure false := by rfl) (hf : X.fn x = true ∨ X.env.scope.names.lookup x = some .local := by first | exact .inl rfl | exact .inr rfl | assumption) :
    JS X (.Assign [.Name x pos'] e pos) (dSet i de) :=
  js_of (ps_set (i := i) hN hi hx he hs hf) fun D σ H h0_ => El54 h0_ fun ρ I S F DD rs ok h q => ⟨ρ, I, S, F, _, rs, ok, h, fun x S1 v I1 H1 h1 e1 ok1 r1 => q.nx _ _ _ _ _ h1 e1 ok1 ((rs.mono e1).set i r1)⟩
theorem js_asg {tg : Expr} {t : Tgt} (he : JE X e de) (hg : JG X tg t) (hs : swapsWithSole [tg] e pos.line X.env = pure false := by rfl) (hw : swappedStores [tg] e X.env = pure none := by rfl)
    (h1 : (assignEach [tg] X.env).map (·.2) = [assign tg X.env] := by rfl) : JS X (.Assign [tg] e pos) (dAsg t de) :=
  js_of (ps_asg he hg hs hw h1) fun D σ H h0_ => El54 h0_ fun ρ I S F DD rs ok h q => ⟨ρ, I, S, F, _, rs, ok, h, fun x S1 v I1 H1 h1 e1 ok1 r1 => by
    cases e2 : t.put x ρ with
    | none => rw [e2] at h1; exact h1.elim
    | some ρ' =>
      rw [e2] at h1
      exact ⟨ρ, ρ', I1, S1, F, x, rs.mono e1, ok1, r1, e2, fun σ' rs' _ => q.nx _ _ _ _ _ h1 e1 ok1 rs'⟩⟩
def dPar (i j : Nat) (a : DA) : DS := fun DD ρ S => a ρ S fun xs S1 => match xs with
  | [x, y] => DD.nx ((ρ.set i (some x)).set j (some y)) S1
  | _ => False
theorem js_par (i j : Nat) {x y : Str} {a b : Expr} {da : DA} {px py pt : Pos} {kt k2 pt2} (hc : X.calm = true) (hN : X.N.Nodup) (hi : X.N[i]? = some x) (hj : X.N[j]? = some y) (hij : i ≠ j)
    (hx : X.env.scope.names.lookup x = some .local) (hy : X.env.scope.names.lookup y = some .local) (ha : JA X [a, b] da)
    (hw : swappedStores [.Tuple [.Name x px, .Name y py] kt pt] (.Tuple [a, b] k2 pt2) X.env = pure (some [x, y]))
    (hs : swapsWithSole [.Tuple [.Name x px, .Name y py] kt pt] (.Tuple [a, b] k2 pt2) pos.line X.env = pure false := by rfl) :
    JS X (.Assign [.Tuple [.Name x px, .Name y py] kt pt] (.Tuple [a, b] k2 pt2) pos) (dPar i j da) :=
  js_of (ps_par hc hN hi hj hij hx hy ha hw hs) fun D σ H h0_ => El54 h0_ fun ρ I S F DD rs ok h q => ⟨ρ, I, S, F, _, rs, ok, h, fun xs S1 vs I1 H1 h1 e1 ok1 r1 => by
    match xs, h1 with
    | [x, y], h1 =>
      obtain ⟨v, w, rfl, ra, rb⟩ := r1.inv2
      exact ⟨v, w, rfl, q.nx _ _ _ _ _ h1 e1 ok1 (((rs.mono e1).set i ra).set j rb)⟩⟩
/-- x op= e -/
def ImpIp (K : PySem.W.Frag) (r : TIp) (o : D2) : Prop := ∀ x y v w I S F H P Q, Ok K I S F H → Rep K I x v → Rep K I y w → o x y S P → Sees K I F P Q → r v w H Q
def dAug (i : Nat) (o : D2) (d : DE) : DS := fun DD ρ S => match ρ[i]? with
  | some (some x) => d ρ S fun y S1 => o x y S1 fun z S2 => DD.nx (ρ.set i (some z)) S2
  | _ => False
theorem js_aug (i : Nat) {x : Str} {op : Operator} {ti : TIp} {o : D2} {pos' : Pos} (hN : X.N.Nodup) (hi : X.N[i]? = some x) (hx : Loc X.env.scope x) (he : JE X e de) (ho : PIp X op ti) (im : ImpIp X.K ti o) (hf : X.fn x = true ∨ X.env.scope.names.lookup x = some .local := by first | exact .inl rfl | exact .inr rfl | assumption) :
    JS X (.AugAssign (.Name x pos') op e pos) (dAug i o de) :=
  js_of (ps_aug (i := i) hN hi hx he ho hf) fun D σ H h0_ => El54 h0_ fun ρ I S F DD rs ok h q => by
    unfold dAug at h
    split at h
    · rename_i x ex
      obtain ⟨v, e1, r⟩ := rs.2 i x ex
      refine ⟨v, e1, ρ, I, S, F, _, rs, ok, h, fun y S1 w I1 H1 h1 e1 ok1 r1 => ?_⟩
      exact im x y v w I1 S1 F H1 _ _ ok1 (r.mono e1) r1 h1 fun z S2 u I2 H2 h2 e2 ok2 r2 => q.nx _ _ _ _ _ h2 (e1.trans e2) ok2 ((rs.mono (e1.trans e2)).set i r2)
    · exact h.elim

/-! ### while -/
def dWhile (c : DT) (b : DS) : DS := fun DD ρ S => ∃ W : Nat → DSt → Store → Prop, (∃ m, W m ρ S) ∧ ∀ m ρ S, W m ρ S →
  c ρ S fun k S1 => if k = true then b { DD with nx := fun ρ' S' => ∃ m', m' < m ∧ W m' ρ' S', ct := fun ρ' S' => ∃ m', m' < m ∧ W m' ρ' S', bk := DD.nx } ρ S1 else DD.nx ρ S1
theorem js_while {c : Expr} {body : List Stmt} (hp : PassesOwn (model X.prog X.w) X.A X.env X.xe) (hc : JT X c dc) (hb : JSs X body t) : JS X (.While c body [] pos) (dWhile dc t) :=
  js_of (ps_while hp hc hb) fun D σ H ⟨ρ, I, S, F, DD, rs, ok, ⟨W, ⟨m0, w0⟩, turn⟩, q⟩ => by
    refine ⟨fun m σ H => ∃ ρ I' S, Same I I' ∧ RepS X.K I' ρ σ ∧ Ok X.K I' S F H ∧ W m ρ S, ⟨m0, ρ, I, S, Same.refl I, rs, ok, w0⟩, ?_⟩
    rintro m σ1 H1 ⟨ρ1, I1, S1, e1, rs1, ok1, w1⟩
    refine ⟨ρ1, I1, S1, F, _, rs1, ok1, turn m ρ1 S1 w1, fun k S2 I2 H2 h2 e2 ok2 => ?_⟩
    cases k with
    | true =>
      rw [if_pos rfl] at h2 ⊢
      refine ⟨fun σ' H' => ∃ m', m' < m ∧ ∃ ρ I' S, Same I I' ∧ RepS X.K I' ρ σ' ∧ Ok X.K I' S F H' ∧ W m' ρ S, fun σ' H' h => h, ρ1, I2, S2, F, _, rs1.mono e2, ok2, h2, ⟨?_, ?_, ?_, ?_⟩⟩
      · intro ρ3 S3 σ3 I3 H3 ⟨m', hm, w3⟩ e3 ok3 rs3
        exact ⟨m', hm, ρ3, I3, S3, (e1.trans e2).trans e3, rs3, ok3, w3⟩
      · exact q.rt.mono (e1.trans e2)
      · exact q.nx.mono (e1.trans e2)
      · intro ρ3 S3 σ3 I3 H3 ⟨m', hm, w3⟩ e3 ok3 rs3
        exact ⟨m', hm, ρ3, I3, S3, (e1.trans e2).trans e3, rs3, ok3, w3⟩
    | false =>
      rw [if_neg Bool.false_ne_true] at h2 ⊢
      exact q.nx _ _ _ _ _ h2 (e1.trans e2) ok2 (rs1.mono e2)

/-! ### what is walked -/
/-- a list that may change is walked: it stays meanwhile -/
def PinOk : Option (Store → Prop) → Store → Prop
  | none, _ => True
  | some p, S => p S
/-- J walks the data ds -/
structure ItOk (K : PySem.W.Frag) (I : Hp) (J : It) (ds : List D) (pin : Option (Store → Prop)) : Prop where
  go : ∀ I2 S F H, Same I I2 → Ok K I2 S F H → PinOk pin S → ∀ i d, ds[i]? = some d → J.go i H ∧ ∀ x H', J.yld i H x H' → ∃ I3, Same I2 I3 ∧ Ok K I3 S F H' ∧ Rep K I3 d x
  stop : ∀ I2 S F H, Same I I2 → Ok K I2 S F H → PinOk pin S → ∀ i, i = ds.length → J.stop i H
theorem ItOk.mono {K : PySem.W.Frag} {I I' : Hp} {J : It} {ds : List D} {pin : Option (Store → Prop)} (h : ItOk K I J ds pin) (e : Same I I') : ItOk K I' J ds pin :=
  ⟨fun I2 S F H e2 => h.go I2 S F H (e.trans e2), fun I2 S F H e2 => h.stop I2 S F H (e.trans e2)⟩
def SeesI (K : PySem.W.Frag) (I F : Hp) (P : List D → Option (Store → Prop) → Store → Prop) (R : It → Hp → Prop) : Prop := ∀ ds pin S' I' H' J, P ds pin S' → Same I I' → Ok K I' S' F H' → ItOk K I' J ds pin → R J H'
theorem SeesI.mono {K : PySem.W.Frag} {I I' F : Hp} {P : List D → Option (Store → Prop) → Store → Prop} {R : It → Hp → Prop} (h : SeesI K I F P R) (e : Same I I') : SeesI K I' F P R := fun ds pin S' I2 H' J p e2 => h ds pin S' I2 H' J p (e.trans e2)
def upI (K : PySem.W.Frag) (d : DI) : TI := fun σ H R => ∃ ρ I S F P, RepS K I ρ σ ∧ Ok K I S F H ∧ d ρ S P ∧ SeesI K I F P R
abbrev JI (X : Cx) (tg iter : Expr) (d : DI) : Prop := PI X tg iter (upI X.K d)
theorem ji_of {X : Cx} {tg e : Expr} {t u : TI} (h : PI X tg e t) (i : ∀ σ H R, u σ H R → t σ H R) : PI X tg e u := ⟨fun pins s σ H R I q => h.run pins s σ H R I (i _ _ _ q)⟩

/-! ### for -/
/-- a loop over the data ds: W by the turn -/
def ForB (t : Tgt) (b : DS) (DD : DEnds) (ds : List D) (ρ : DSt) (S1 : Store) : Prop := ∃ W : Nat → DSt → Store → Prop, W 0 ρ S1 ∧
  (∀ i d ρ S, ds[i]? = some d → W i ρ S → ∃ ρ', t.put d ρ = some ρ' ∧ b { DD with nx := W (i + 1), ct := W (i + 1), bk := DD.nx } ρ' S) ∧ ∀ ρ S, W ds.length ρ S → DD.nx ρ S
/-- the same, of a list that may change: p, that it stays -/
def ForP (t : Tgt) (b : DS) (DD : DEnds) (ds : List D) (p : Store → Prop) (ρ : DSt) (S1 : Store) : Prop := ∃ W : Nat → DSt → Store → Prop, W 0 ρ S1 ∧ (∀ i ρ S, W i ρ S → p S) ∧
  (∀ i d ρ S, ds[i]? = some d → W i ρ S → ∃ ρ', t.put d ρ = some ρ' ∧ b { DD with nx := W (i + 1), ct := W (i + 1), bk := DD.nx } ρ' S) ∧ ∀ ρ S, W ds.length ρ S → DD.nx ρ S
def ForN (t : Tgt) (b : DS) (DD : DEnds) (ds : List D) (pin : Option (Store → Prop)) (ρ : DSt) (S1 : Store) : Prop := match pin with
  | none => ForB t b DD ds ρ S1
  | some p => ForP t b DD ds p ρ S1
theorem ForN.all {t : Tgt} {b : DS} {DD : DEnds} {ds : List D} {pin : Option (Store → Prop)} {ρ : DSt} {S1 : Store} (h : ForN t b DD ds pin ρ S1) : ∃ W : Nat → DSt → Store → Prop, W 0 ρ S1 ∧ (∀ i ρ S, W i ρ S → PinOk pin S) ∧
    (∀ i d ρ S, ds[i]? = some d → W i ρ S → ∃ ρ', t.put d ρ = some ρ' ∧ b { DD with nx := W (i + 1), ct := W (i + 1), bk := DD.nx } ρ' S) ∧ ∀ ρ S, W ds.length ρ S → DD.nx ρ S := by
  cases pin with
  | none => obtain ⟨W, w0, w1, w2⟩ := h; exact ⟨W, w0, fun _ _ _ _ => trivial, w1, w2⟩
  | some p => exact h
def dFor (di : DI) (t : Tgt) (b : DS) : DS := fun DD ρ S => di ρ S fun ds pin S1 => ForN t b DD ds pin ρ S1
theorem js_for {tg iter : Expr} {body : List Stmt} {di : DI} {tt : Tgt} (hp : PassesOwn (model X.prog X.w) X.A X.env X.xe) (hc : X.calm = true) (hi : JI X tg iter di) (hg : JG X tg tt) (hb : JSs X body t)
    (hs : ∀ x, foldedSetIterable iter X.env x = pure x := by intro _; rfl) : JS X (.For tg iter body [] pos) (dFor di tt t) :=
  js_of (ps_for hp hc hi hg hb hs) fun D σ H h0_ => El54 h0_ fun ρ I S F DD rs ok h q => by
    refine ⟨ρ, I, S, F, _, rs, ok, h, fun ds pin S1 I1 H1 J hB e1 ok1 it => ?_⟩
    obtain ⟨W, w0, hpin, turn, fin⟩ := ForN.all hB
    refine ⟨fun i m σ H => m + i = ds.length ∧ ∃ ρ I' S, Same I1 I' ∧ RepS X.K I' ρ σ ∧ Ok X.K I' S F H ∧ W i ρ S, ⟨ds.length, by simp, ρ, I1, S1, Same.refl I1, rs.mono e1, ok1, w0⟩, ?_⟩
    rintro i m σ2 H2 ⟨em, ρ2, I2, S2, e2, rs2, ok2, w2⟩
    by_cases hi : i < ds.length
    · refine .inr ?_
      obtain ⟨g1, g2⟩ := it.go I2 S2 F H2 e2 ok2 (hpin _ _ _ w2) i ds[i] (List.getElem?_eq_getElem hi)
      obtain ⟨ρ3, hput, hbody⟩ := turn i ds[i] ρ2 S2 (List.getElem?_eq_getElem hi) w2
      refine ⟨g1, fun σ' H' => ∃ ρ I' S, Same I1 I' ∧ RepS X.K I' ρ σ' ∧ Ok X.K I' S F H' ∧ W (i + 1) ρ S, fun σ' H' h => ⟨m - 1, by omega, by omega, h⟩, fun x H3 hy => ?_⟩
      obtain ⟨I3, e3, ok3, r3⟩ := g2 x H3 hy
      refine ⟨ρ2, ρ3, I3, S2, F, ds[i], rs2.mono e3, ok3, r3, hput, fun σ3 rs3 _ => ?_⟩
      refine ⟨ρ3, I3, S2, F, _, rs3, ok3, hbody, ⟨?_, ?_, ?_, ?_⟩⟩
      · intro ρ4 S4 σ4 I4 H4 w4 e4 ok4 rs4
        exact ⟨ρ4, I4, S4, (e2.trans e3).trans e4, rs4, ok4, w4⟩
      · exact q.rt.mono (((e1.trans e2)).trans e3)
      · exact q.nx.mono (((e1.trans e2)).trans e3)
      · intro ρ4 S4 σ4 I4 H4 w4 e4 ok4 rs4
        exact ⟨ρ4, I4, S4, (e2.trans e3).trans e4, rs4, ok4, w4⟩
    · have e : i = ds.length := by omega
      subst e
      exact .inl ⟨it.stop I2 S2 F H2 e2 ok2 (hpin _ _ _ w2) _ rfl, q.nx _ _ _ _ _ (fin ρ2 S2 w2) (e1.trans e2) ok2 rs2⟩

/-! ### comprehensions -/
def dYes : DT := fun _ S P => P true S
abbrev JTs (X : Cx) (ifs : List Expr) (d : DT) : Prop := PTs X ifs (upT X.K d)
theorem jts_of {X : Cx} {e : List Expr} {t u : TT} (h : PTs X e t) (i : ∀ σ H Q, u σ H Q → t σ H Q) : PTs X e u := ⟨fun pins s σ H Q I q => h.run pins s σ H Q I (i _ _ _ q)⟩
theorem jts_nil : JTs X [] dYes := jts_of pts_nil fun σ H Q h0_ => El54 h0_ fun ρ I S F P rs ok h q => q _ _ _ _ h (Same.refl I) ok
/-- the new list is one that changes no more -/
def LcB (t : Tgt) (tt : DT) (de : DE) (P : D → Store → Prop) (ds : List D) (ρ : DSt) (S1 : Store) : Prop := ds.length ≤ 100000 ∧ ∃ W : Nat → List D → Store → Prop, W 0 [] S1 ∧
  (∀ i d acc S, ds[i]? = some d → W i acc S → ∃ ρ', t.put d (dwipe ρ t.slots) = some ρ' ∧ tt ρ' S fun b S2 => if b = true then de ρ' S2 fun y S3 => W (i + 1) (acc ++ [y]) S3 else W (i + 1) acc S2) ∧ ∀ acc S, W ds.length acc S → P (.lst acc) S
def LcP (t : Tgt) (tt : DT) (de : DE) (P : D → Store → Prop) (ds : List D) (p : Store → Prop) (ρ : DSt) (S1 : Store) : Prop := ds.length ≤ 100000 ∧ ∃ W : Nat → List D → Store → Prop, W 0 [] S1 ∧ (∀ i acc S, W i acc S → p S) ∧
  (∀ i d acc S, ds[i]? = some d → W i acc S → ∃ ρ', t.put d (dwipe ρ t.slots) = some ρ' ∧ tt ρ' S fun b S2 => if b = true then de ρ' S2 fun y S3 => W (i + 1) (acc ++ [y]) S3 else W (i + 1) acc S2) ∧ ∀ acc S, W ds.length acc S → P (.lst acc) S
def LcN (t : Tgt) (tt : DT) (de : DE) (P : D → Store → Prop) (ds : List D) (pin : Option (Store → Prop)) (ρ : DSt) (S1 : Store) : Prop := match pin with
  | none => LcB t tt de P ds ρ S1
  | some p => LcP t tt de P ds p ρ S1
theorem LcN.all {t : Tgt} {tt : DT} {de : DE} {P : D → Store → Prop} {ds : List D} {pin : Option (Store → Prop)} {ρ : DSt} {S1 : Store} (h : LcN t tt de P ds pin ρ S1) : ds.length ≤ 100000 ∧ ∃ W : Nat → List D → Store → Prop, W 0 [] S1 ∧ (∀ i acc S, W i acc S → PinOk pin S) ∧
    (∀ i d acc S, ds[i]? = some d → W i acc S → ∃ ρ', t.put d (dwipe ρ t.slots) = some ρ' ∧ tt ρ' S fun b S2 => if b = true then de ρ' S2 fun y S3 => W (i + 1) (acc ++ [y]) S3 else W (i + 1) acc S2) ∧ ∀ acc S, W ds.length acc S → P (.lst acc) S := by
  cases pin with
  | none => obtain ⟨hl, W, w0, w1, w2⟩ := h; exact ⟨hl, W, w0, fun _ _ _ _ => trivial, w1, w2⟩
  | some p => exact h
def dLc (di : DI) (t : Tgt) (tt : DT) (de : DE) : DE := fun ρ S P => di ρ S fun ds pin S1 => LcN t tt de P ds pin ρ S1
theorem up_lc {X : Cx} {di : DI} {t : Tgt} {tt : DT} {de : DE} : ∀ σ H Q, upE X.K (dLc di t tt de) σ H Q → tLc (upI X.K di) (upG X.K t) (upT X.K tt) (upE X.K de) t.slots σ H Q := fun σ H Q h0_ => El54 h0_ fun ρ I S F P rs ok h q => by
  refine ⟨ρ, I, S, F, _, rs, ok, h, fun ds pin S1 I1 H1 J hB e1 ok1 it => fun Dd hD => ?_⟩
  obtain ⟨hlen, W, w0, hpin, turn, fin⟩ := LcN.all hB
  have fI : I1 Dd = none := ok1.freshI hD
  refine ⟨fun i m H => m + i = ds.length ∧ ∃ I' S' acc vs, Same I1 I' ∧ Ok X.K I' S' (upd F Dd (.lst vs)) H ∧ RepL X.K I' acc vs ∧ acc.length ≤ i ∧ W i acc S', ⟨ds.length, by simp, I1, S1, [], [], Same.refl I1, ok1.newF hD ⟨fun y z => (by cases z), fun y z => (by cases z)⟩, RepL.nil, Nat.le_refl _, w0⟩, ?_⟩
  rintro i m H2 ⟨em, I2, S2, acc, vs, e2, ok2, rl, hacc, w2⟩
  by_cases hi : i < ds.length
  · refine .inr ?_
    obtain ⟨g1, g2⟩ := it.go I2 S2 _ H2 e2 ok2 (hpin _ _ _ w2) i ds[i] (List.getElem?_eq_getElem hi)
    obtain ⟨ρ3, hput, hbody⟩ := turn i ds[i] acc S2 (List.getElem?_eq_getElem hi) w2
    refine ⟨g1, fun H' => ∃ I' S' acc vs, Same I1 I' ∧ Ok X.K I' S' (upd F Dd (.lst vs)) H' ∧ RepL X.K I' acc vs ∧ acc.length ≤ i + 1 ∧ W (i + 1) acc S', fun H' h => ⟨m - 1, by omega, by omega, h⟩, fun x H3 hy => ?_⟩
    obtain ⟨I3, e3, ok3, r3⟩ := g2 x H3 hy
    refine ⟨dwipe ρ t.slots, ρ3, I3, S2, _, ds[i], ((rs.mono e1).mono (e2.trans e3)).wipe _, ok3, r3, hput, fun σ3 rs3 b3 => ⟨by
      rw [b3.wipe]
      apply List.ext_getElem?
      intro j
      rw [wipe_get, wipe_get, L2.wipe_length]
      split <;> simp_all, ?_⟩⟩
    refine ⟨ρ3, I3, S2, _, _, rs3, ok3, hbody, fun b S4 I4 H4 h4 e4 ok4 => ?_⟩
    cases b with
    | true =>
      rw [if_pos rfl] at h4 ⊢
      refine ⟨ρ3, I4, S4, _, _, rs3.mono e4, ok4, h4, fun y S5 v I5 H5 h5 e5 ok5 r5 => ?_⟩
      have hF : (upd F Dd (.lst vs)) Dd = some (.lst vs) := upd_same
      refine ⟨vs, (ok5.f Dd _ hF).1, ?_, I5, S5, acc ++ [y], vs ++ [v], (((e2.trans e3).trans e4).trans e5), ?_, (rl.mono ((e3.trans e4).trans e5)).app (RepL.one r5), by simp; omega, h5⟩
      · rw [rl.len]
        have : (100000 : Nat) < sizeLine := by decide
        omega
      · have := ok5.writeF (o' := .lst (vs ++ [v])) hF ⟨fun y z => (by cases z), fun y z => (by cases z)⟩
        rwa [upd_upd] at this
    | false =>
      rw [if_neg Bool.false_ne_true] at h4 ⊢
      exact ⟨I4, S4, acc, vs, ((e2.trans e3).trans e4), ok4, rl.mono (e3.trans e4), by omega, h4⟩
  · have e : i = ds.length := by omega
    subst e
    refine .inl ⟨it.stop I2 S2 _ H2 e2 ok2 (hpin _ _ _ w2) _ rfl, ?_⟩
    have hF : (upd F Dd (.lst vs)) Dd = some (.lst vs) := upd_same
    have i2 : I2 Dd = none := (ok2.f Dd _ hF).2.1
    have ok3 := ok2.showF hF
    have ok4 : Ok X.K (upd I2 Dd (.lst vs)) S2 F H2 := by
      refine ⟨ok3.i, ok3.s, fun a x q => ?_⟩
      have ne : a ≠ Dd := fun z => by
        subst z
        rw [(ok1.freshF hD)] at q; cases q
      exact ok3.f a x (by show (if a = Dd then none else upd F Dd (.lst vs) a) = some x; rw [if_neg ne, upd_ne ne]; exact q)
    exact q _ _ _ _ _ (fin acc S2 w2) ((e1.trans e2).trans (same_new i2)) ok4 (rep_new_lst i2 rl)
theorem je_lc {elt tg iter : Expr} {ifs : List Expr} {scope : Scope} (own : List (Str × Nat)) {di : DI} {t : Tgt} {tt : DT} {de : DE} (hc : X.calm = true) (hN : X.N.Nodup) (hi : JI X tg iter di) (ok : BlkOk X.N X.env.scope scope own) (ho : own.map (·.2) = t.slots)
    (hg : ∀ (s : Shared) (H : Hp) (C : Addr) (cl : List (Str × Addr)) (fp : List Addr), JG (X.blk s H scope (compEnvC scope cl C X.env) fp) tg t) (ht : ∀ (s : Shared) (H : Hp) (C : Addr) (cl : List (Str × Addr)) (fp : List Addr), JTs (X.blk s H scope (compEnvC scope cl C X.env) fp) ifs tt)
    (he : ∀ (s : Shared) (H : Hp) (C : Addr) (cl : List (Str × Addr)) (fp : List Addr), JE (X.blk s H scope (compEnvC scope cl C X.env) fp) elt de) (hs : ∀ x, foldedSetIterable iter X.env x = pure x := by intro _; rfl) :
    JE X (.ListComp elt [⟨tg, iter, ifs, 0⟩] scope pos) (dLc di t tt de) :=
  je_of (pe_lc hc hN hi ok hg ht he hs) fun σ H Q h => by
    rw [ho]
    exact up_lc σ H Q h
theorem js_setLc (i : Nat) {y : Str} {py : Pos} {elt tg iter : Expr} {ifs : List Expr} {scope : Scope} (own : List (Str × Nat)) {spos : Pos} {di : DI} {t : Tgt} {tt : DT} {de : DE} (hc : X.calm = true) (hN : X.N.Nodup) (hy : X.N[i]? = some y) (hyl : X.env.scope.names.lookup y = some .local)
    (hsw : swapsWith (.ListComp elt [⟨tg, iter, ifs, 0⟩] scope pos) (some (.Name y py)) spos.line X.env = pure true) (hi : JI X tg iter di) (ok : BlkOk X.N X.env.scope scope own) (ho : own.map (·.2) = t.slots)
    (hg : ∀ (s : Shared) (H : Hp) (C : Addr) (cl : List (Str × Addr)) (fp : List Addr), JG (X.blk s H scope (compEnvC scope cl C X.env) fp) tg t) (ht : ∀ (s : Shared) (H : Hp) (C : Addr) (cl : List (Str × Addr)) (fp : List Addr), JTs (X.blk s H scope (compEnvC scope cl C X.env) fp) ifs tt)
    (he : ∀ (s : Shared) (H : Hp) (C : Addr) (cl : List (Str × Addr)) (fp : List Addr), JE (X.blk s H scope (compEnvC scope cl C X.env) fp) elt de) (hs : ∀ x, foldedSetIterable iter X.env x = pure x := by intro _; rfl) :
    JS X (.Assign [.Name y py] (.ListComp elt [⟨tg, iter, ifs, 0⟩] scope pos) spos) (dSet i (dLc di t tt de)) :=
  js_of (ps_setLc hc hN hy hyl hsw hi ok hg ht he hs) fun D σ H h0_ => El54 h0_ fun ρ I S F DD rs ok h q => by
    rw [ho]
    exact up_lc (X := X) σ H _ ⟨ρ, I, S, F, _, rs, ok, h, fun x S1 v I1 H1 h1 e1 ok1 r1 => q.nx _ _ _ _ _ h1 e1 ok1 ((rs.mono e1).set i r1)⟩
end

/-! ### a def keeps its promise -/
section
variable {P : Program} {w : World} {K : PySem.W.Frag} {mg : Str → Option Value} {base : Heap}
def dEnd (Q : D → Store → Prop) : DEnds := { nx := fun _ S => Q .non S, rt := Q }
theorem fn_d {x qual : Str} {st : Stmt} {f : Addr} {fd : FuncData} {N ps : List Str} {k : Nat} {sp : DSp} (F : Fun K x qual st f fd) (S : FnScope N ps (defScope st)) (len : ∀ ds S P, sp ds S P → ds.length = ps.length)
    (hbody : ∀ (cdv : Value) (A : Around) (outer : List Env) (s : Shared) (H : Hp) (E : XK), DG.RoomG k (A.deeper (envOfC qual (defScope st) s.heap.objs.size f cdv)) →
      ∃ d : DS, JSs (cxOf CX0 P w K mg base N qual (defScope st) f cdv A outer s H E).nox (defBody st) d ∧ ∀ ds S P, sp ds S P → d (dEnd P) (ds.map some ++ List.replicate (N.length - ds.length) none) S) : FnD P w K mg base (k + 1) f fd ps sp := by
  refine DG.fun_ok F S (fun vs H Q E h => ?_) (fun cdv A outer s H vs Q E hr h => ?_)
  · obtain ⟨ds, I, S, F, P, r, ok, h, q⟩ := h
    rw [r.len]
    exact len _ _ _ h
  · obtain ⟨ds, I, S', F', P', r, ok, h, q⟩ := h
    obtain ⟨d, h1, h2⟩ := hbody cdv A outer s H E hr
    refine ⟨_, h1, _, I, S', F', _, repS_start r, ok, h2 ds S' P' h, ⟨?_, q, ?_, ?_⟩⟩
    · intro ρ S2 σ I2 H2 p e2 ok2 _
      exact q _ _ _ _ _ p e2 ok2 rep_non
    · intro ρ S2 σ I2 H2 p e2 ok2 _
      exact p.elim
    · intro ρ S2 σ I2 H2 p e2 ok2 _
      exact p.elim
end
end DL

namespace DL
open PySem PySem.Spec PyProof.Rows L2
local macro_rules | `(tactic| omega) => `(tactic| first | assumption | lia)

/-! ### lists and tuples as data -/
def lstOf (S : Store) : D → Option (List D)
  | .lst ds => some ds
  | .ext ds => some ds
  | .obj a => match S a with
    | some (.lst ds) => some ds
    | _ => none
  | _ => none
def seqOf (S : Store) : D → Option (List D)
  | .tup ds => some ds
  | x => lstOf S x
section
variable {K : PySem.W.Frag} {I F H : Hp} {S : Store}
theorem lst_sq (ok : Ok K I S F H) {x : D} {v : V} {ds : List D} (r : Rep K I x v) (h : lstOf S x = some ds) : ∃ a xs, v = .ref a ∧ SqL K H a xs ∧ RepL K I ds xs := by
  cases x with
  | lst es =>
    simp only [lstOf, Option.some.injEq] at h; subst h
    obtain ⟨a, xs, rfl, e, rl⟩ := r.lst_of
    exact ⟨a, xs, rfl, .of (ok.i _ _ e), rl⟩
  | ext es =>
    simp only [lstOf, Option.some.injEq] at h; subst h
    obtain ⟨a, xs, rfl, e, rl⟩ := r.ext_of
    exact ⟨a, xs, rfl, ok.same.seq e, rl⟩
  | obj a =>
    unfold lstOf at h
    cases e : S a with
    | none => simp [e] at h
    | some m =>
      cases m with
      | lst es =>
        simp [e] at h; subst h
        obtain ⟨_, xs, q, rl⟩ := ok.s a _ e
        exact ⟨a, xs, r.obj_of, .of q, rl⟩
      | _ => simp [e] at h
  | _ => simp [lstOf] at h
/-- one that can be added to, repeated: tracked by itself -/
theorem lst_hp (ok : Ok K I S F H) {x : D} {v : V} {ds : List D} (r : Rep K I x v) (h : lstOf S x = some ds) (ne : ∀ es, x ≠ .ext es) : ∃ a xs, v = .ref a ∧ H a = some (.lst xs) ∧ RepL K I ds xs := by
  cases x with
  | lst es =>
    simp only [lstOf, Option.some.injEq] at h; subst h
    obtain ⟨a, xs, rfl, e, rl⟩ := r.lst_of
    exact ⟨a, xs, rfl, ok.i _ _ e, rl⟩
  | ext es => exact absurd rfl (ne es)
  | obj a =>
    unfold lstOf at h
    cases e : S a with
    | none => simp [e] at h
    | some m =>
      cases m with
      | lst es =>
        simp [e] at h; subst h
        obtain ⟨_, xs, q, rl⟩ := ok.s a _ e
        exact ⟨a, xs, r.obj_of, q, rl⟩
      | _ => simp [e] at h
  | _ => simp [lstOf] at h
theorem tup_sq (ok : Ok K I S F H) {v : V} {ds : List D} (r : Rep K I (.tup ds) v) : ∃ a xs, v = .ref a ∧ SqT K H a xs ∧ RepL K I ds xs := by
  obtain ⟨a, xs, rfl, e, rl⟩ := r.tup_of
  exact ⟨a, xs, rfl, sqT_same ok.same e, rl⟩
end

/-! ### arithmetic -/
def MulB (i j : Int) : Prop := CMul i j ∨ CMulW i j
def DivB (j : Int) : Prop := j ≠ 0 ∧ j.natAbs.log2 < 9000
def dAdd : D2 := fun x y S P => match x, y with
  | .int i, .int j => P (.int (i + j)) S
  | .str a, .str b => a.length + b.length ≤ 100000 ∧ P (.str (a ++ b)) S
  | .tup xs, .tup ys => xs.length + ys.length ≤ 100000 ∧ P (.tup (xs ++ ys)) S
  | .ext _, _ => False
  | _, .ext _ => False
  | x, y => match lstOf S x, lstOf S y with
    | some xs, some ys => xs.length + ys.length ≤ 100000 ∧ P (.lst (xs ++ ys)) S
    | _, _ => False
def dSub : D2 := fun x y S P => match x, y with
  | .int i, .int j => P (.int (i - j)) S
  | _, _ => False
def dMul : D2 := fun x y S P => match x, y with
  | .int i, .int j => MulB i j ∧ P (.int (i * j)) S
  | .lst xs, .int k => -(2 ^ 63) ≤ k ∧ k < 2 ^ 63 ∧ xs.length * k.toNat ≤ 100000 ∧ P (.lst (List.replicate k.toNat xs).flatten) S
  | _, _ => False
def dFdiv : D2 := fun x y S P => match x, y with
  | .int i, .int j => DivB j ∧ P (.int (i.fdiv j)) S
  | _, _ => False
def dMod : D2 := fun x y S P => match x, y with
  | .int i, .int j => 0 < j ∧ P (.int (i % j)) S
  | _, _ => False
def dPow : D2 := fun x y S P => match x, y with
  | .int i, .int j => CPow i j ∧ P (.int (i ^ j.toNat)) S
  | _, _ => False
def dNeg : D1 := fun x S P => match x with
  | .int i => P (.int (-i)) S
  | _ => False
def dLt : D2 := fun x y S P => match x, y with
  | .int i, .int j => P (.bl (decide (i < j))) S
  | _, _ => False
def dLe : D2 := fun x y S P => match x, y with
  | .int i, .int j => P (.bl (decide (i ≤ j))) S
  | _, _ => False
def dGt : D2 := fun x y S P => match x, y with
  | .int i, .int j => P (.bl (decide (j < i))) S
  | _, _ => False
def dGe : D2 := fun x y S P => match x, y with
  | .int i, .int j => P (.bl (decide (j ≤ i))) S
  | _, _ => False
section
variable {X : Cx} {pos : Pos} {a b : Expr} {da db : DE}
theorem op_mulA : OpR X (binaryOp .Mult) (rI MulB fun i j => .int (i * j)) := opI fun i j _ _ _ _ _ hc q => by
  rcases hc with h | h
  · exact mul_int q h.ok
  · exact mul_int q h.ok
theorem op_fdivA : OpR X (binaryOp .FloorDiv) (rI (fun _ j => DivB j) fun i j => .int (i.fdiv j)) := opI fun i j _ _ _ _ _ hc q => floordiv_int hc.1 q (.inl (PyProof.noPylong_of_log2 hc.2))
theorem i_add {K : PySem.W.Frag} : Imp2 K (fun x y H Q => (rI0 fun i j => .int (i + j)) x y H Q ∨ (∃ i j, x = .str i ∧ y = .str j ∧ i.length + j.length ≤ sizeLine ∧ Q (.str (i ++ j)) H) ∨ rCatA K x y H Q ∨ rCat x y H Q) dAdd := by
  intro x y v w I S F H P Q ok rx ry h q
  have lists : ∀ xs ys, lstOf S x = some xs → lstOf S y = some ys → (∀ es, x ≠ .ext es) → (∀ es, y ≠ .ext es) → xs.length + ys.length ≤ 100000 → P (.lst (xs ++ ys)) S → rCat v w H Q := fun xs ys ex ey nx ny hl p => by
    obtain ⟨l, xs', rfl, h1, r1⟩ := lst_hp ok rx ex nx
    obtain ⟨l', ys', rfl, h2, r2⟩ := lst_hp ok ry ey ny
    exact ⟨l, l', xs', ys', rfl, rfl, h1, h2, line5 (by rw [r1.len, r2.len]; exact hl), fun p' hp => q _ _ _ _ _ p (same_new (ok.freshI hp)) (ok.newI hp) (rep_new_lst (ok.freshI hp) (r1.app r2))⟩
  unfold dAdd at h
  split at h
  · cases rx.int_of; cases ry.int_of
    exact .inl ⟨_, _, rfl, rfl, q _ _ _ _ _ h (Same.refl I) ok rep_int⟩
  · cases rx.str_of; cases ry.str_of
    exact .inr (.inl ⟨_, _, rfl, rfl, line5 h.1, q _ _ _ _ _ h.2 (Same.refl I) ok rep_str⟩)
  · rename_i xs ys
    obtain ⟨l, xs', rfl, h1, r1⟩ := tup_sq ok rx
    obtain ⟨l', ys', rfl, h2, r2⟩ := tup_sq ok ry
    refine .inr (.inr (.inl ⟨l, l', xs', ys', rfl, rfl, h1, h2, line5 (by rw [r1.len, r2.len]; exact h.1), fun e => ?_, fun _ e => ?_, fun _ _ p hp => ?_⟩))
    · have : xs = [] := by
        have := r1.len; rw [e] at this
        exact List.eq_nil_of_length_eq_zero this.symm
      subst this
      exact q _ _ _ _ _ h.2 (Same.refl I) ok (by simpa using ry)
    · have : ys = [] := by
        have := r2.len; rw [e] at this
        exact List.eq_nil_of_length_eq_zero this.symm
      subst this
      exact q _ _ _ _ _ h.2 (Same.refl I) ok (by simpa using rx)
    · exact q _ _ _ _ _ h.2 (same_new (ok.freshI hp)) (ok.newI hp) (rep_new_tup (ok.freshI hp) (r1.app r2))
  · exact h.elim
  · exact h.elim
  · split at h
    · rename_i xs ys e1 e2
      refine .inr (.inr (.inr (lists xs ys e1 e2 (fun es z => ?_) (fun es z => ?_) h.1 h.2)))
      · simp_all
      · simp_all
    · exact h.elim
theorem je_add (ha : JE X a da) (hb : JE X b db) : JE X (.BinOp a .Add b pos) (dOp dAdd da db) := je_op (op_add.or (op_add_str.or (op_catA.or op_cat))) i_add ha hb
theorem i_sub {K : PySem.W.Frag} : Imp2 K (rI0 fun i j => .int (i - j)) dSub := by
  intro x y v w I S F H P Q ok rx ry h q
  unfold dSub at h
  split at h
  · cases rx.int_of; cases ry.int_of
    exact ⟨_, _, rfl, rfl, q _ _ _ _ _ h (Same.refl I) ok rep_int⟩
  · exact h.elim
theorem je_sub (ha : JE X a da) (hb : JE X b db) : JE X (.BinOp a .Sub b pos) (dOp dSub da db) := je_op op_sub i_sub ha hb
theorem repL_rep {K : PySem.W.Frag} {I : Hp} {ds : List D} {vs : List V} (h : RepL K I ds vs) : ∀ k : Nat, RepL K I (List.replicate k ds).flatten (List.replicate k vs).flatten
  | 0 => by simpa using RepL.nil
  | k + 1 => by
    simp only [List.replicate_succ, List.flatten_cons]
    exact h.app (repL_rep h k)
theorem i_mul {K : PySem.W.Frag} : Imp2 K (fun x y H Q => (rI MulB fun i j => .int (i * j)) x y H Q ∨ rRep x y H Q) dMul := by
  intro x y v w I S F H P Q ok rx ry h q
  unfold dMul at h
  split at h
  · cases rx.int_of; cases ry.int_of
    exact .inl ⟨_, _, rfl, rfl, h.1, q _ _ _ _ _ h.2 (Same.refl I) ok rep_int⟩
  · rename_i xs k
    obtain ⟨l, xs', rfl, h1, r1⟩ := rx.lst_of
    cases ry.int_of
    exact .inr ⟨l, k, xs', rfl, rfl, ok.i _ _ h1, h.1, h.2.1, line5 (by rw [r1.len]; exact h.2.2.1), fun p hp => q _ _ _ _ _ h.2.2.2 (same_new (ok.freshI hp)) (ok.newI hp) (rep_new_lst (ok.freshI hp) (repL_rep r1 _))⟩
  · exact h.elim
theorem je_mul (ha : JE X a da) (hb : JE X b db) : JE X (.BinOp a .Mult b pos) (dOp dMul da db) := je_op (op_mulA.or op_rep) i_mul ha hb
theorem i_fdiv {K : PySem.W.Frag} : Imp2 K (rI (fun _ j => DivB j) fun i j => .int (i.fdiv j)) dFdiv := by
  intro x y v w I S F H P Q ok rx ry h q
  unfold dFdiv at h
  split at h
  · cases rx.int_of; cases ry.int_of
    exact ⟨_, _, rfl, rfl, h.1, q _ _ _ _ _ h.2 (Same.refl I) ok rep_int⟩
  · exact h.elim
theorem je_fdiv (ha : JE X a da) (hb : JE X b db) : JE X (.BinOp a .FloorDiv b pos) (dOp dFdiv da db) := je_op op_fdivA i_fdiv ha hb
theorem i_mod {K : PySem.W.Frag} : Imp2 K (rI (fun _ j => 0 < j) fun i j => .int (i % j)) dMod := by
  intro x y v w I S F H P Q ok rx ry h q
  unfold dMod at h
  split at h
  · cases rx.int_of; cases ry.int_of
    exact ⟨_, _, rfl, rfl, h.1, q _ _ _ _ _ h.2 (Same.refl I) ok rep_int⟩
  · exact h.elim
theorem je_mod (ha : JE X a da) (hb : JE X b db) : JE X (.BinOp a .Mod b pos) (dOp dMod da db) := je_op op_mod i_mod ha hb
theorem i_pow {K : PySem.W.Frag} : Imp2 K (rI CPow fun i j => .int (i ^ j.toNat)) dPow := by
  intro x y v w I S F H P Q ok rx ry h q
  unfold dPow at h
  split at h
  · cases rx.int_of; cases ry.int_of
    exact ⟨_, _, rfl, rfl, h.1, q _ _ _ _ _ h.2 (Same.refl I) ok rep_int⟩
  · exact h.elim
theorem je_pow (ha : JE X a da) (hb : JE X b db) : JE X (.BinOp a .Pow b pos) (dOp dPow da db) := je_op op_pow i_pow ha hb
theorem i_neg {K : PySem.W.Frag} : Imp1 K (rU fun i => .int (-i)) dNeg := by
  intro x v I S F H P Q ok rx h q
  unfold dNeg at h
  split at h
  · cases rx.int_of
    exact ⟨_, rfl, q _ _ _ _ _ h (Same.refl I) ok rep_int⟩
  · exact h.elim
theorem je_neg (ha : JE X a da) : JE X (.UnaryOp .USub a pos) (dUn dNeg da) := je_un un_neg i_neg ha
theorem i_lt {K : PySem.W.Frag} : Imp2 K (rI0 fun i j => .bl (decide (i < j))) dLt := by
  intro x y v w I S F H P Q ok rx ry h q
  unfold dLt at h
  split at h
  · cases rx.int_of; cases ry.int_of
    exact ⟨_, _, rfl, rfl, q _ _ _ _ _ h (Same.refl I) ok rep_bl⟩
  · exact h.elim
theorem i_le {K : PySem.W.Frag} : Imp2 K (rI0 fun i j => .bl (decide (i ≤ j))) dLe := by
  intro x y v w I S F H P Q ok rx ry h q
  unfold dLe at h
  split at h
  · cases rx.int_of; cases ry.int_of
    exact ⟨_, _, rfl, rfl, q _ _ _ _ _ h (Same.refl I) ok rep_bl⟩
  · exact h.elim
theorem i_gt {K : PySem.W.Frag} : Imp2 K (rI0 fun i j => .bl (decide (j < i))) dGt := by
  intro x y v w I S F H P Q ok rx ry h q
  unfold dGt at h
  split at h
  · cases rx.int_of; cases ry.int_of
    exact ⟨_, _, rfl, rfl, q _ _ _ _ _ h (Same.refl I) ok rep_bl⟩
  · exact h.elim
theorem i_ge {K : PySem.W.Frag} : Imp2 K (rI0 fun i j => .bl (decide (j ≤ i))) dGe := by
  intro x y v w I S F H P Q ok rx ry h q
  unfold dGe at h
  split at h
  · cases rx.int_of; cases ry.int_of
    exact ⟨_, _, rfl, rfl, q _ _ _ _ _ h (Same.refl I) ok rep_bl⟩
  · exact h.elim
theorem je_lt (ha : JE X a da) (hb : JE X b db) : JE X (.Compare a [.Lt] [b] pos) (dOp dLt da db) := je_cmp op_lt i_lt ha hb (nomark _)
theorem je_gt (ha : JE X a da) (hb : JE X b db) : JE X (.Compare a [.Gt] [b] pos) (dOp dGt da db) := je_cmp op_gt i_gt ha hb (nomark _)
theorem je_ge (ha : JE X a da) (hb : JE X b db) : JE X (.Compare a [.GtE] [b] pos) (dOp dGe da db) := je_cmp op_ge i_ge ha hb (nomark _)
theorem jt_lt (ha : JE X a da) (hb : JE X b db) : JT X (.Compare a [.Lt] [b] pos) (dTest (dOp dLt da db)) := jt_cmp op_lt i_lt ha hb (nomark _)
theorem jt_le (ha : JE X a da) (hb : JE X b db) : JT X (.Compare a [.LtE] [b] pos) (dTest (dOp dLe da db)) := jt_cmp op_le i_le ha hb (nomark _)
theorem jt_gt (ha : JE X a da) (hb : JE X b db) : JT X (.Compare a [.Gt] [b] pos) (dTest (dOp dGt da db)) := jt_cmp op_gt i_gt ha hb (nomark _)
theorem jt_ge (ha : JE X a da) (hb : JE X b db) : JT X (.Compare a [.GtE] [b] pos) (dTest (dOp dGe da db)) := jt_cmp op_ge i_ge ha hb (nomark _)

end

/-! ### == and != -/
mutual
def D.py : D → Option PyData
  | .non => some .none
  | .bl b => some (.bool b)
  | .int i => some (.int i)
  | .str s => some (.str s)
  | .lst ds => (D.pyL ds).map .list
  | .ext ds => (D.pyL ds).map .list
  | .tup ds => (D.pyL ds).map .tuple
  | .ty _ => none
  | .obj _ => none
def D.pyL : List D → Option (List PyData)
  | [] => some []
  | d :: ds => match d.py, D.pyL ds with
    | some p, some ps => some (p :: ps)
    | _, _ => none
end
section
variable {K : PySem.W.Frag} {I H : Hp}
mutual
theorem rep_dp (e : Same I H) : ∀ (d : D) (v : V) (p : PyData), Rep K I d v → d.py = some p → Dp K H v p
  | .non, v, p, h, q => by cases h.non_of; simp only [D.py, Option.some.injEq] at q; subst q; exact .non
  | .bl b, v, p, h, q => by cases h.bl_of; simp only [D.py, Option.some.injEq] at q; subst q; exact .bl b
  | .int b, v, p, h, q => by cases h.int_of; simp only [D.py, Option.some.injEq] at q; subst q; exact .int b
  | .str b, v, p, h, q => by cases h.str_of; simp only [D.py, Option.some.injEq] at q; subst q; exact .str b
  | .lst ds, v, p, h, q => by
    obtain ⟨a, xs, rfl, h1, r⟩ := h.lst_of
    simp only [D.py] at q
    cases z : D.pyL ds with
    | none => rw [z] at q; cases q
    | some ps =>
      rw [z] at q; simp only [Option.map_some, Option.some.injEq] at q; subst q
      exact .lst (.of (e _ _ h1)) (rep_dpL e ds xs ps r z)
  | .ext ds, v, p, h, q => by
    obtain ⟨a, xs, rfl, h1, r⟩ := h.ext_of
    simp only [D.py] at q
    cases z : D.pyL ds with
    | none => rw [z] at q; cases q
    | some ps =>
      rw [z] at q; simp only [Option.map_some, Option.some.injEq] at q; subst q
      exact .lst (e.seq h1) (rep_dpL e ds xs ps r z)
  | .tup ds, v, p, h, q => by
    obtain ⟨a, xs, rfl, h1, r⟩ := h.tup_of
    simp only [D.py] at q
    cases z : D.pyL ds with
    | none => rw [z] at q; cases q
    | some ps =>
      rw [z] at q; simp only [Option.map_some, Option.some.injEq] at q; subst q
      exact .tup (sqT_same e h1) (rep_dpL e ds xs ps r z)
  | .ty _, v, p, h, q => by simp [D.py] at q
  | .obj _, v, p, h, q => by simp [D.py] at q
theorem rep_dpL (e : Same I H) : ∀ (ds : List D) (vs : List V) (ps : List PyData), RepL K I ds vs → D.pyL ds = some ps → DpAll K H vs ps
  | [], vs, ps, h, q => by
    simp only [RepL] at h
    simp only [D.pyL, Option.some.injEq] at q
    subst h q; exact .nil
  | d :: ds, vs, ps, h, q => by
    simp only [RepL] at h
    obtain ⟨v, r, rfl, h1, h2⟩ := h
    simp only [D.pyL] at q
    cases e1 : d.py with
    | none => rw [e1] at q; cases q
    | some p =>
      cases e2 : D.pyL ds with
      | none => rw [e1, e2] at q; cases q
      | some ps' =>
        rw [e1, e2] at q; simp only [Option.some.injEq] at q; subst q
        exact .cons (rep_dp e d v p h1 e1) (rep_dpL e ds r ps' h2 e2)
end
end
/-- what == gives of two data -/
def dEqB : D → D → Option Bool
  | .int i, .int j => some (decide (i = j))
  | .bl i, .bl j => some (decide (i = j))
  | .str i, .str j => some (decide (i = j))
  | .non, .non => some true
  | .non, .int _ => some false
  | .int _, .non => some false
  | .non, .str _ => some false
  | .str _, .non => some false
  | .non, .bl _ => some false
  | .bl _, .non => some false
  | .int _, .str _ => some false
  | .str _, .int _ => some false
  | .bl _, .str _ => some false
  | .str _, .bl _ => some false
  | x, y => match x.py, y.py with
    | some p, some q => if SeqAt.shaped p = true ∧ SeqAt.shaped q = true then some (PyData.eqv p q) else none
    | _, _ => none
def dEq : D2 := fun x y S P => match dEqB x y with
  | some k => P (.bl k) S
  | none => False
def dNe : D2 := fun x y S P => match dEqB x y with
  | some k => P (.bl (!k)) S
  | none => False
section
variable {K : PySem.W.Frag}
theorem eqB_of {I H : Hp} {x y : D} {v w : V} {k : Bool} (e : Same I H) (rx : Rep K I x v) (ry : Rep K I y w) (h : dEqB x y = some k) :
    (scal v w = true ∧ decide (v = w) = k) ∨ ∃ p q, Dp K H v p ∧ Dp K H w q ∧ SeqAt.shaped p = true ∧ SeqAt.shaped q = true ∧ PyData.eqv p q = k := by
  unfold dEqB at h
  split at h
  case h_1 => cases rx.int_of; cases ry.int_of; cases h; exact .inl ⟨rfl, by simp⟩
  case h_2 => cases rx.bl_of; cases ry.bl_of; cases h; exact .inl ⟨rfl, by simp⟩
  case h_3 => cases rx.str_of; cases ry.str_of; cases h; exact .inl ⟨rfl, by simp⟩
  case h_4 => cases rx.non_of; cases ry.non_of; cases h; exact .inl ⟨rfl, by simp⟩
  case h_5 => cases rx.non_of; cases ry.int_of; cases h; exact .inl ⟨rfl, by simp⟩
  case h_6 => cases rx.int_of; cases ry.non_of; cases h; exact .inl ⟨rfl, by simp⟩
  case h_7 => cases rx.non_of; cases ry.str_of; cases h; exact .inl ⟨rfl, by simp⟩
  case h_8 => cases rx.str_of; cases ry.non_of; cases h; exact .inl ⟨rfl, by simp⟩
  case h_9 => cases rx.non_of; cases ry.bl_of; cases h; exact .inl ⟨rfl, by simp⟩
  case h_10 => cases rx.bl_of; cases ry.non_of; cases h; exact .inl ⟨rfl, by simp⟩
  case h_11 => cases rx.int_of; cases ry.str_of; cases h; exact .inl ⟨rfl, by simp⟩
  case h_12 => cases rx.str_of; cases ry.int_of; cases h; exact .inl ⟨rfl, by simp⟩
  case h_13 => cases rx.bl_of; cases ry.str_of; cases h; exact .inl ⟨rfl, by simp⟩
  case h_14 => cases rx.str_of; cases ry.bl_of; cases h; exact .inl ⟨rfl, by simp⟩
  case h_15 =>
    split at h
    · rename_i p q e1 e2
      split at h
      · rename_i hs
        cases h
        exact .inr ⟨p, q, rep_dp e _ _ _ rx e1, rep_dp e _ _ _ ry e2, hs.1, hs.2, rfl⟩
      · cases h
    · cases h
theorem i_eq : Imp2 K (fun x y H Q => rEq x y H Q ∨ rEqD K x y H Q) dEq := by
  intro x y v w I S F H P Q ok rx ry h q
  unfold dEq at h
  split at h
  · rename_i k e
    rcases eqB_of ok.same rx ry e with ⟨h1, h2⟩ | ⟨p, p', h1, h2, h3, h4, h5⟩
    · exact .inl ⟨h1, by rw [h2]; exact q _ _ _ _ _ h (Same.refl I) ok rep_bl⟩
    · exact .inr ⟨p, p', h1, h2, h3, h4, by rw [h5]; exact q _ _ _ _ _ h (Same.refl I) ok rep_bl⟩
  · exact h.elim
theorem i_ne : Imp2 K (fun x y H Q => rNe x y H Q ∨ rNeD K x y H Q) dNe := by
  intro x y v w I S F H P Q ok rx ry h q
  unfold dNe at h
  split at h
  · rename_i k e
    rcases eqB_of ok.same rx ry e with ⟨h1, h2⟩ | ⟨p, p', h1, h2, h3, h4, h5⟩
    · exact .inl ⟨h1, by rw [h2]; exact q _ _ _ _ _ h (Same.refl I) ok rep_bl⟩
    · exact .inr ⟨p, p', h1, h2, h3, h4, by rw [h5]; exact q _ _ _ _ _ h (Same.refl I) ok rep_bl⟩
  · exact h.elim
variable {X : Cx} {pos : Pos} {a b : Expr} {da db : DE}
theorem je_ne {k : Nat} (hr : DG.RoomG k X.A) (ha : JE X a da) (hb : JE X b db) : JE X (.Compare a [.NotEq] [b] pos) (dOp dNe da db) := je_cmp (op_ne.or (op_neD hr.r.units)) i_ne ha hb (nomark _)
theorem jt_eq {k : Nat} (hr : DG.RoomG k X.A) (ha : JE X a da) (hb : JE X b db) : JT X (.Compare a [.Eq] [b] pos) (dTest (dOp dEq da db)) := jt_cmp (op_eq.or (op_eqD hr.r.units)) i_eq ha hb (nomark _)
end

/-! ### is None, in -/
def isNon : D → Bool
  | .non => true
  | _ => false
def dIsN : D2 := fun x y S P => match y with
  | .non => P (.bl (isNon x)) S
  | _ => False
def dNotN : D2 := fun x y S P => match y with
  | .non => P (.bl (!isNon x)) S
  | _ => False
def isFlat : D → Bool
  | .non | .bl _ | .int _ | .str _ => true
  | _ => false
/-- y is in the list, as == has it, of flat things -/
def eqFlat : D → D → Bool
  | .non, .non => true
  | .bl a, .bl b => a == b
  | .bl a, .int j => (if a then 1 else 0) == j
  | .int i, .bl b => i == (if b then 1 else 0)
  | .int i, .int j => decide (i = j)
  | .str x, .str y => decide (x = y)
  | _, _ => false
def dIn (neg : Bool) : D2 := fun x y S P => match seqOf S y with
  | some ys => isFlat x = true ∧ ys.all isFlat = true ∧ P (.bl (if neg then !(ys.any fun z => eqFlat z x) else ys.any fun z => eqFlat z x)) S
  | none => False
section
variable {K : PySem.W.Frag} {I F H : Hp}
theorem flat_rep {x : D} {v : V} (r : Rep K I x v) (h : isFlat x = true) : flatV v = true := by
  cases x with
  | non => cases r.non_of; rfl
  | bl b => cases r.bl_of; rfl
  | int i => cases r.int_of; rfl
  | str s => cases r.str_of; rfl
  | _ => simp [isFlat] at h
theorem eqFlat_rep {x y : D} {v w : V} (rx : Rep K I x v) (ry : Rep K I y w) (hx : isFlat x = true) (hy : isFlat y = true) : eqV v w = eqFlat x y := by
  cases x <;> simp only [isFlat, Bool.false_eq_true] at hx <;> cases y <;> simp only [isFlat, Bool.false_eq_true] at hy <;>
    simp only [Rep] at rx ry <;> subst rx <;> subst ry <;> first | rfl | simp [eqV, eqFlat] | (simp [eqV, eqFlat]; done)
theorem flats_rep : ∀ {xs : List D} {vs : List V}, RepL K I xs vs → xs.all isFlat = true → vs.all flatV = true
  | [], vs, r, _ => by
    simp only [RepL] at r
    subst r; rfl
  | x :: xs, vs, r, h => by
    simp only [RepL] at r
    obtain ⟨v, r', rfl, h1, h2⟩ := r
    simp only [List.all_cons, Bool.and_eq_true] at h ⊢
    exact ⟨flat_rep h1 h.1, flats_rep h2 h.2⟩
theorem anys_rep {x : D} {v : V} (rx : Rep K I x v) (fx : isFlat x = true) : ∀ {xs : List D} {vs : List V}, RepL K I xs vs → xs.all isFlat = true → inV v vs = xs.any fun z => eqFlat z x
  | [], vs, r, _ => by
    simp only [RepL] at r
    subst r; rfl
  | y :: xs, vs, r, h => by
    simp only [RepL] at r
    obtain ⟨w, r', rfl, h1, h2⟩ := r
    simp only [List.all_cons, Bool.and_eq_true] at h
    show (eqV w v || inV v r') = _
    rw [eqFlat_rep h1 rx h.1 fx, anys_rep rx fx h2 h.2]
    rfl
theorem seq_sq (ok : Ok K I S F H) {x : D} {v : V} {ds : List D} (r : Rep K I x v) (h : seqOf S x = some ds) : ∃ a xs, v = .ref a ∧ (SqL K H a xs ∨ SqT K H a xs) ∧ RepL K I ds xs := by
  cases x with
  | tup es =>
    simp only [seqOf, Option.some.injEq] at h; subst h
    obtain ⟨a, xs, e, q, rl⟩ := tup_sq ok r
    exact ⟨a, xs, e, .inr q, rl⟩
  | _ =>
    simp only [seqOf] at h
    obtain ⟨a, xs, e, q, rl⟩ := lst_sq ok r h
    exact ⟨a, xs, e, .inl q, rl⟩
theorem i_in (neg : Bool) : Imp2 K (rIn K neg) (dIn neg) := by
  intro x y v w I S F H P Q ok rx ry h q
  unfold dIn at h
  split at h
  · rename_i ys e
    obtain ⟨a, vs, rfl, hs, rl⟩ := seq_sq ok ry e
    refine ⟨a, vs, rfl, hs, flat_rep rx h.1, flats_rep rl h.2.1, ?_⟩
    rw [anys_rep rx h.1 rl h.2.1]
    exact q _ _ _ _ _ h.2.2 (Same.refl I) ok rep_bl
  · exact h.elim
theorem isNon_rep {I : Hp} {x : D} {v : V} (r : Rep K I x v) : decide (v = .non) = isNon x := by
  cases x with
  | non => cases r.non_of; rfl
  | bl b => cases r.bl_of; rfl
  | int i => cases r.int_of; rfl
  | str s => cases r.str_of; rfl
  | ty n => simp only [Rep] at r; subst r; rfl
  | obj a => cases r.obj_of; rfl
  | lst ds => obtain ⟨a, xs, rfl, _⟩ := r.lst_of; rfl
  | ext ds => obtain ⟨a, xs, rfl, _⟩ := r.ext_of; rfl
  | tup ds => obtain ⟨a, xs, rfl, _⟩ := r.tup_of; rfl
theorem i_notN : Imp2 K (fun x y H Q => y = .non ∧ Q (.bl (!decide (x = .non))) H) dNotN := by
  intro x y v w I S F H P Q ok rx ry h q
  unfold dNotN at h
  split at h
  · refine ⟨ry.non_of, ?_⟩
    rw [isNon_rep rx]
    exact q _ _ _ _ _ h (Same.refl I) ok rep_bl
  · exact h.elim
variable {X : Cx} {pos : Pos} {a b : Expr} {da db : DE}
theorem je_in (ha : JE X a da) (hb : JE X b db) (hm : behindInMarks .In b = false := by rfl) : JE X (.Compare a [.In] [b] pos) (dOp (dIn false) da db) := je_cmp op_in_seq (i_in false) ha hb hm
theorem jt_notN (ha : JE X a da) (hb : JE X b db) : JT X (.Compare a [.IsNot] [b] pos) (dTest (dOp dNotN da db)) := jt_cmp op_notN i_notN ha hb (nomark _)
end

/-! ### subscripts -/
def dIx : D2 := fun x y S P => match y with
  | .int i => match x with
    | .str z => z.length ≤ 100000 ∧ (match atI z.cps.toList i with
      | some c => P (.str ⟨#[c]⟩) S
      | none => False)
    | x => match seqOf S x with
      | some ds => match atI ds i with
        | some d => P d S
        | none => False
      | none => False
  | _ => False
def dcut (xs : List D) (lo hi : Option Int) : List D := (xs.drop (HT.sIx xs.length 0 lo)).take (HT.sIx xs.length xs.length hi - HT.sIx xs.length 0 lo)
abbrev DO := DSt → Store → (Option Int → Store → Prop) → Prop
def dNoPart : DO := fun _ S P => P none S
def dPart (d : DE) : DO := fun ρ S P => d ρ S fun x S1 => match x with
  | .int i => P (some i) S1
  | _ => False
def dSl (d : DE) (lo hi : DO) : DE := fun ρ S P => d ρ S fun x S1 => lo ρ S1 fun l S2 => hi ρ S2 fun u S3 => match x with
  | .tup ds => P (.tup (dcut ds l u)) S3
  | x => match lstOf S3 x with
    | some ds => P (.lst (dcut ds l u)) S3
    | none => False
section
variable {K : PySem.W.Frag} {I F H : Hp} {S : Store}
theorem atI_rep {ds : List D} {vs : List V} {i : Int} {d : D} (r : RepL K I ds vs) (h : atI ds i = some d) : ∃ v, atI vs i = some v ∧ Rep K I d v := by
  unfold atI at h ⊢
  rw [r.len]
  cases e : ixN ds.length i with
  | none => rw [e] at h; cases h
  | some j =>
    rw [e] at h
    exact r.get (i := j) h
theorem i_ix : Imp2 K (rIx K) dIx := by
  intro x y v w I S F H P Q ok rx ry h q
  unfold dIx at h
  split at h
  · rename_i i
    cases ry.int_of
    split at h
    · rename_i z
      cases rx.str_of
      obtain ⟨hl, h⟩ := h
      split at h
      · rename_i c e
        exact .inr (.inr ⟨_, _, c, rfl, rfl, line5 hl, e, q _ _ _ _ _ h (Same.refl I) ok rep_str⟩)
      · exact h.elim
    · split at h
      · rename_i ds e
        split at h
        · rename_i d e2
          obtain ⟨a, xs, rfl, hs, rl⟩ := seq_sq ok rx e
          obtain ⟨u, e3, r3⟩ := atI_rep rl e2
          rcases hs with hs | hs
          · exact .inl ⟨a, xs, i, u, rfl, rfl, hs, e3, q _ _ _ _ _ h (Same.refl I) ok r3⟩
          · exact .inr (.inl ⟨a, xs, i, u, rfl, rfl, hs, e3, q _ _ _ _ _ h (Same.refl I) ok r3⟩)
        · exact h.elim
      · exact h.elim
  · exact h.elim
theorem cut_rep {ds : List D} {vs : List V} (lo hi : Option Int) (r : RepL K I ds vs) : RepL K I (dcut ds lo hi) (cutV vs lo hi) := by
  unfold dcut cutV
  rw [r.len]
  exact (r.drop _).take _
variable {X : Cx} {pos : Pos} {a b : Expr} {da db : DE}
theorem je_ix (ha : JE X a da) (hb : JE X b db) (hs : PlainIx b := by exact fun _ _ => rfl) : JE X (.Subscript a b pos) (dOp dIx da db) := je_of (pe_ix ix_seq ha hb hs) (up_op i_ix)
def upO (K : PySem.W.Frag) (d : DO) : TO := fun σ H Q => ∃ ρ I S F P, RepS K I ρ σ ∧ Ok K I S F H ∧ d ρ S P ∧ ∀ o S' I' H', P o S' → Same I I' → Ok K I' S' F H' → Q o H'
abbrev JO (X : Cx) (e : Option Expr) (d : DO) : Prop := PO X e (upO X.K d)
theorem jo_of {X : Cx} {e : Option Expr} {t u : TO} (h : PO X e t) (i : ∀ σ H Q, u σ H Q → t σ H Q) : PO X e u := ⟨by
  intro pins s σ H Q I q
  exact h.run pins s σ H Q I (i _ _ _ q)⟩
theorem jo_none : JO X none dNoPart := jo_of po_none fun σ H Q h0_ => El54 h0_ fun ρ I S F P rs ok h q => q _ _ _ _ h (Same.refl I) ok
theorem jo_some (h : JE X a da) : JO X (some a) (dPart da) := jo_of (po_some h) fun σ H Q h0_ => El54 h0_ fun ρ I S F P rs ok hh q => ⟨ρ, I, S, F, _, rs, ok, hh, fun x S1 v I1 H1 h1 e1 ok1 r1 => by
  cases x with
  | int i => exact ⟨i, r1.int_of, q _ _ _ _ h1 e1 ok1⟩
  | _ => exact h1.elim⟩
theorem je_sl {lo hi : Option Expr} {dl dh : DO} {p2 : Pos} (he : JE X a da) (hl : JO X lo dl) (hu : JO X hi dh) : JE X (.Subscript a (.Slice lo hi none p2) pos) (dSl da dl dh) :=
  je_of (pe_slice (sl_list.or sl_tupA) he hl hu) fun σ H Q h0_ => El54 h0_ fun ρ I S F P rs ok h q =>
    ⟨ρ, I, S, F, _, rs, ok, h, fun x S1 v I1 H1 h1 e1 ok1 r1 => ⟨ρ, I1, S1, F, _, rs.mono e1, ok1, h1, fun l S2 I2 H2 h2 e2 ok2 => ⟨ρ, I2, S2, F, _, rs.mono (e1.trans e2), ok2, h2, fun u S3 I3 H3 h3 e3 ok3 => by
      have r3 : Rep X.K I3 x v := r1.mono (e2.trans e3)
      have e13 := (e1.trans e2).trans e3
      split at h3
      · rename_i ds
        obtain ⟨a, xs, rfl, hs, rl⟩ := tup_sq ok3 r3
        refine .inr ⟨a, xs, rfl, hs, fun ew => ?_, fun _ p hp => q _ _ _ _ _ h3 (e13.trans (same_new (ok3.freshI hp))) (ok3.newI hp) (rep_new_tup (ok3.freshI hp) (cut_rep _ _ rl))⟩
        have hw : dcut ds l u = ds := by
          unfold dcut
          rw [← rl.len, ew.1, ew.2, rl.len]
          simp
        rw [hw] at h3
        exact q _ _ _ _ _ h3 e13 ok3 r3
      · split at h3
        · rename_i ds e
          obtain ⟨a, xs, rfl, hs, rl⟩ := lst_sq ok3 r3 e
          exact .inl ⟨a, xs, rfl, hs, fun p hp => q _ _ _ _ _ h3 (e13.trans (same_new (ok3.freshI hp))) (ok3.newI hp) (rep_new_lst (ok3.freshI hp) (cut_rep _ _ rl))⟩
        · exact h3.elim⟩⟩⟩
/-- xs[::-1] -/
def dRevL (d : DE) : DE := fun ρ S P => d ρ S fun x S1 => match lstOf S1 x with
  | some ds => P (.lst ds.reverse) S1
  | none => False
end
end DL

namespace DL
open PySem PySem.Spec PyProof.Rows L2
local macro_rules | `(tactic| omega) => `(tactic| first | assumption | lia)

/-! ### keywords -/
def pick {α : Type} (perm : List Nat) (us ws : List α) : List α := perm.filterMap fun i => (us ++ ws)[i]?
theorem pick_rep {K : PySem.W.Frag} {I : Hp} {ds : List D} {vs : List V} (r : RepL K I ds vs) : ∀ perm : List Nat, RepL K I (perm.filterMap fun i => ds[i]?) (perm.filterMap fun i => vs[i]?)
  | [] => RepL.nil
  | i :: p => by
    cases e : ds[i]? with
    | none =>
      have e2 : vs[i]? = none := by
        rw [List.getElem?_eq_none_iff] at e ⊢
        rw [r.len]; exact e
      simp only [List.filterMap_cons, e, e2]
      exact pick_rep r p
    | some d =>
      obtain ⟨v, e2, r2⟩ := r.get e
      simp only [List.filterMap_cons, e, e2]
      exact RepL.cons r2 (pick_rep r p)
theorem pick_vals {vs : List V} {us : List Value} (r : Vals vs us) : ∀ perm : List Nat, Vals (perm.filterMap fun i => vs[i]?) (perm.filterMap fun i => us[i]?)
  | [] => .nil
  | i :: p => by
    cases e : vs[i]? with
    | none =>
      have e2 := r.none_of e
      simp only [List.filterMap_cons, e, e2]
      exact pick_vals r p
    | some v =>
      obtain ⟨u, e2, r2⟩ := r.get e
      simp only [List.filterMap_cons, e, e2]
      exact .cons r2 (pick_vals r p)
/-- a def without defaults called with n values and keywords ks, put in order by perm -/
theorem kbn_mk {K : PySem.W.Frag} {x qual : Str} {st : Stmt} {f : Addr} {fd : FuncData} {ps ks : List Str} {n : Nat} {perm : List Nat} (F : Fun K x qual st f fd)
    (h : ∀ (kV doc pm : Value) (an : Option Addr) (cdv ct : Value) (us ws : List Value), us.length = n → ws.length = ks.length → bindArgs (PySem.W.fnOf x qual (defArgs st) (defBody st) (defScope st) .none kV doc pm an cdv ct) ⟨us, ks.zip ws⟩ = pure (ps.zip (pick perm us ws))) :
    KBn K fd ps n ks (pick perm) (pick perm) := by
  obtain ⟨oc, od, kV, doc, pm, an, cdv, ct, osl, rfl, lk, hcd⟩ := F.ex
  exact ⟨fun s us ws _ h1 h2 => .of_eq (h kV doc pm an cdv ct us ws h1 h2), fun r1 r2 => pick_vals (r1.append r2) perm⟩
abbrev JK (X : Cx) (kws : List Keyword) (d : DA) : Prop := PK X kws (upA X.K d)
theorem jk_of {X : Cx} {e : List Keyword} {t u : TA} (h : PK X e t) (i : ∀ σ H Q, u σ H Q → t σ H Q) : PK X e u := ⟨fun pos pins s σ H Q I q => h.run pos pins s σ H Q I (i _ _ _ q)⟩
def dCallK (sp : DSp) (n m : Nat) (perm : List Nat) (a kw : DA) : DE := fun ρ S P => a ρ S fun xs S1 => kw ρ S1 fun ys S2 => xs.length = n ∧ ys.length = m ∧ sp (pick perm xs ys) S2 P
section
variable {X : Cx} {pos kpos : Pos} {a b : Expr} {da db : DE} {es : List Expr} {ds dk : DA} {kws : List Keyword} {nm : Option Str}
theorem jk_nil : JK X [] dNil := jk_of pk_nil fun σ H Q h0_ => El54 h0_ fun ρ I S F P rs ok h q => q _ _ _ _ _ h (Same.refl I) ok RepL.nil
theorem jk_cons (ha : JE X a da) (hr : JK X kws ds) : JK X (⟨nm, a, kpos⟩ :: kws) (dCons da ds) :=
  jk_of (pk_cons ha hr) fun σ H Q h0_ => El54 h0_ fun ρ I S F P rs ok h q => ⟨ρ, I, S, F, _, rs, ok, h, fun x S1 v I1 H1 h1 e1 ok1 r1 => ⟨ρ, I1, S1, F, _, rs.mono e1, ok1, h1, fun xs S2 vs I2 H2 h2 e2 ok2 r2 =>
    q _ _ _ _ _ h2 (e1.trans e2) ok2 (RepL.cons (r1.mono e2) r2)⟩⟩
variable {k n : Nat} {f : Addr} {fd : FuncData} {ps ks : List Str} {sp : DSp} {x : Str} {p : Pos} {perm : List Nat}
theorem up_callN : ∀ σ H Q, upE X.K (dCallK sp n ks.length perm ds dk) σ H Q → tCallN n ks.length (upSp X.K sp) (pick perm) E0 (upA X.K ds) (upA X.K dk) σ H Q := fun σ H Q h0_ => El54 h0_ fun ρ I S F P rs ok h q =>
  ⟨ρ, I, S, F, _, rs, ok, h, fun xs S1 vs I1 H1 h1 e1 ok1 r1 => ⟨ρ, I1, S1, F, _, rs.mono e1, ok1, h1, fun ys S2 ws I2 H2 ⟨l1, l2, h2⟩ e2 ok2 r2 =>
    ⟨by rw [r1.len]; exact l1, by rw [r2.len]; exact l2, _, I2, S2, F, P, pick_rep ((r1.mono e2).app r2) perm, ok2, h2, q.mono (e1.trans e2)⟩⟩⟩
theorem je_callK (G : FnD X.prog X.w X.K X.mg X.base k f fd ps sp) (hr : DG.RoomG k X.A) (hg : Gl X x) (hm : X.mg x = some (.ref f)) (hk : PySem.W.keepIn X.K (.ref f) = true) (hb : KBn X.K fd ps n ks (pick perm) (pick perm))
    (ha : JA X (a :: es) ds) (hkw : JK X kws dk) (hall : (backToKw pos (keywordEach kws X.env)).all (·.1.isSome) = true := by rfl) (hks : (backToKw pos (keywordEach kws X.env)).filterMap (·.1) = ks := by rfl)
    (hdb : (x == ("__debug__" : Str)) = false := by decide) (he : starEach (a :: es) X.env = (false, eval a X.env) :: starEach es X.env := by rfl)
    (hpl : ((backTo pos (starEach (a :: es) X.env)).any (·.1) || (backToKw pos (keywordEach kws X.env)).any (·.1.isNone)) = false := by rfl) :
    JE X (.Call (.Name x p) (a :: es) kws pos) (dCallK sp n ks.length perm ds dk) := je_of (DG.pe_callN G hr hg hm hk hb pass0 ha hkw hall hks hdb he hpl) up_callN
end

def dBools : List D → Option (List Bool)
  | [] => some []
  | .bl i :: r => (dBools r).map (i :: ·)
  | _ => none
theorem dBools_map : ∀ ns : List Bool, dBools (ns.map .bl) = some ns
  | [] => rfl
  | n :: ns => by simp [dBools, dBools_map ns]
theorem dBools_rep {K : PySem.W.Frag} {I : Hp} : ∀ {ds : List D} {vs : List V} {ns : List Bool}, RepL K I ds vs → dBools ds = some ns → vs = ns.map V.bl
  | [], vs, ns, r, h => by
    simp only [RepL] at r
    simp only [dBools, Option.some.injEq] at h
    subst r h; rfl
  | d :: ds, vs, ns, r, h => by
    simp only [RepL] at r
    obtain ⟨v, r', rfl, h1, h2⟩ := r
    cases d with
    | bl i =>
      simp only [dBools] at h
      cases e : dBools ds with
      | none => rw [e] at h; cases h
      | some ms =>
        rw [e] at h
        simp only [Option.map_some, Option.some.injEq] at h
        subst h
        rw [dBools_rep h2 e, h1.bl_of]; rfl
    | _ => simp [dBools] at h
def cAbs : DC := fun xs S P => match xs with
  | [.int i] => P (.int (if i < 0 then -i else i)) S
  | _ => False
def cMax2 : DC := fun xs S P => match xs with
  | [.int i, .int j] => P (.int (if j > i then j else i)) S
  | _ => False
def cMin2 : DC := fun xs S P => match xs with
  | [.int i, .int j] => P (.int (if j < i then j else i)) S
  | _ => False
def cAny : DC := fun xs S P => match xs with
  | [x] => match (lstOf S x).bind dBools with
    | some ns => P (.bl (ns.any id)) S
    | none => False
  | _ => False
def cAll : DC := fun xs S P => match xs with
  | [x] => match (lstOf S x).bind dBools with
    | some ns => P (.bl (ns.all id)) S
    | none => False
  | _ => False
def cInt : DC := fun xs S P => match xs with
  | [.int i] => P (.int i) S
  | [.bl k] => P (.int (if k then 1 else 0)) S
  | _ => False
def cLen : DC := fun xs S P => match xs with
  | [.str z] => z.length ≤ 100000 ∧ P (.int z.length) S
  | [x] => match seqOf S x with
    | some ds => P (.int ds.length) S
    | none => False
  | _ => False
def cList : DC := fun xs S P => match xs with
  | [x] => match seqOf S x with
    | some ds => P (.lst ds) S
    | none => False
  | _ => False
def cTuple : DC := fun xs S P => match xs with
  | [x] => match seqOf S x with
    | some ds => P (.tup ds) S
    | none => False
  | _ => False
section
variable {K : PySem.W.Frag}
theorem i_abs : ImpC K (fun xs H Q => ∃ i, xs = [.int i] ∧ Q (.int (if i < 0 then -i else i)) H) cAbs := by
  intro xs vs I S F H P Q ok r h q
  unfold cAbs at h
  split at h
  · obtain ⟨v, rfl, rv⟩ := r.inv1
    cases rv.int_of
    exact ⟨_, rfl, q _ _ _ _ _ h (Same.refl I) ok rep_int⟩
  · exact h.elim
theorem i_max2 : ImpC K (fun xs H Q => ∃ i j, xs = [.int i, .int j] ∧ Q (.int (if j > i then j else i)) H) cMax2 := by
  intro xs vs I S F H P Q ok r h q
  unfold cMax2 at h
  split at h
  · obtain ⟨v, w, rfl, rv, rw⟩ := r.inv2
    cases rv.int_of; cases rw.int_of
    exact ⟨_, _, rfl, q _ _ _ _ _ h (Same.refl I) ok rep_int⟩
  · exact h.elim
theorem i_min2 : ImpC K (fun xs H Q => ∃ i j, xs = [.int i, .int j] ∧ Q (.int (if j < i then j else i)) H) cMin2 := by
  intro xs vs I S F H P Q ok r h q
  unfold cMin2 at h
  split at h
  · obtain ⟨v, w, rfl, rv, rw⟩ := r.inv2
    cases rv.int_of; cases rw.int_of
    exact ⟨_, _, rfl, q _ _ _ _ _ h (Same.refl I) ok rep_int⟩
  · exact h.elim
theorem lstBools {I F H : Hp} {S : Store} (ok : Ok K I S F H) {x : D} {v : V} {ns : List Bool} (r : Rep K I x v) (h : (lstOf S x).bind dBools = some ns) : ∃ a, v = .ref a ∧ SqL K H a (ns.map V.bl) := by
  cases e : lstOf S x with
  | none => rw [e] at h; cases h
  | some ds =>
    rw [e] at h
    obtain ⟨a, xs, rfl, hs, rl⟩ := lst_sq ok r e
    exact ⟨a, rfl, by rw [← dBools_rep rl h]; exact hs⟩
theorem i_any : ImpC K (rAny K) cAny := by
  intro xs vs I S F H P Q ok r h q
  unfold cAny at h
  split at h
  · split at h
    · rename_i ns e
      obtain ⟨v, rfl, rv⟩ := r.inv1
      obtain ⟨a, rfl, hs⟩ := lstBools ok rv e
      exact ⟨a, ns, rfl, hs, q _ _ _ _ _ h (Same.refl I) ok rep_bl⟩
    · exact h.elim
  · exact h.elim
theorem i_all : ImpC K (rAll K) cAll := by
  intro xs vs I S F H P Q ok r h q
  unfold cAll at h
  split at h
  · split at h
    · rename_i ns e
      obtain ⟨v, rfl, rv⟩ := r.inv1
      obtain ⟨a, rfl, hs⟩ := lstBools ok rv e
      exact ⟨a, ns, rfl, hs, q _ _ _ _ _ h (Same.refl I) ok rep_bl⟩
    · exact h.elim
  · exact h.elim
theorem i_int : ImpC K (fun xs H Q => (∃ i, xs = [.int i] ∧ Q (.int i) H) ∨ ∃ k, xs = [.bl k] ∧ Q (.int (if k then 1 else 0)) H) cInt := by
  intro xs vs I S F H P Q ok r h q
  unfold cInt at h
  split at h
  · obtain ⟨v, rfl, rv⟩ := r.inv1
    cases rv.int_of
    exact .inl ⟨_, rfl, q _ _ _ _ _ h (Same.refl I) ok rep_int⟩
  · obtain ⟨v, rfl, rv⟩ := r.inv1
    cases rv.bl_of
    exact .inr ⟨_, rfl, q _ _ _ _ _ h (Same.refl I) ok rep_int⟩
  · exact h.elim
theorem i_len : ImpC K (fun xs H Q => (∃ p ys, xs = [.ref p] ∧ (SqL K H p ys ∨ SqT K H p ys) ∧ Q (.int ys.length) H) ∨ ∃ z, xs = [.str z] ∧ z.length ≤ sizeLine ∧ Q (.int z.length) H) cLen := by
  intro xs vs I S F H P Q ok r h q
  unfold cLen at h
  split at h
  · obtain ⟨v, rfl, rv⟩ := r.inv1
    cases rv.str_of
    exact .inr ⟨_, rfl, line5 h.1, q _ _ _ _ _ h.2 (Same.refl I) ok rep_int⟩
  · split at h
    · rename_i ds e
      obtain ⟨v, rfl, rv⟩ := r.inv1
      obtain ⟨a, xs, rfl, hs, rl⟩ := seq_sq ok rv e
      exact .inl ⟨a, xs, rfl, hs, by rw [rl.len]; exact q _ _ _ _ _ h (Same.refl I) ok rep_int⟩
    · exact h.elim
  · exact h.elim
theorem i_tuple : ImpC K (fun xs H Q => ∃ p ys, xs = [.ref p] ∧ ((SqL K H p ys ∧ ∀ l, H l = none → Q (.ref l) (upd H l (.tup ys))) ∨ (SqT K H p ys ∧ Q (.ref p) H))) cTuple := by
  intro xs vs I S F H P Q ok r h q
  unfold cTuple at h
  split at h
  · rename_i x
    split at h
    · rename_i ds e
      obtain ⟨v, rfl, rv⟩ := r.inv1
      cases x with
      | tup es =>
        simp only [seqOf, Option.some.injEq] at e; subst e
        obtain ⟨a, xs, rfl, hs, rl⟩ := tup_sq ok rv
        exact ⟨a, xs, rfl, .inr ⟨hs, q _ _ _ _ _ h (Same.refl I) ok rv⟩⟩
      | _ =>
        simp only [seqOf] at e
        obtain ⟨a, xs, rfl, hs, rl⟩ := lst_sq ok rv e
        exact ⟨a, xs, rfl, .inl ⟨hs, fun l hl => q _ _ _ _ _ h (same_new (ok.freshI hl)) (ok.newI hl) (rep_new_tup (ok.freshI hl) rl)⟩⟩
    · exact h.elim
  · exact h.elim
/-! isinstance -/
def tyName (S : Store) : D → Option String
  | .non => some "NoneType"
  | .bl _ => some "bool"
  | .int _ => some "int"
  | .str _ => some "str"
  | .lst _ => some "list"
  | .tup _ => some "tuple"
  | .obj a => match S a with
    | some (.lst _) => some "list"
    | some (.dK _) => some "dict"
    | _ => none
  | _ => none
def isTy (m n : String) : Bool := m == n || (m == "bool" && n == "int")
def knownTy (n : String) : Bool := n == "bool" || n == "int" || n == "str" || n == "list" || n == "tuple" || n == "dict"
def tys : List D → Option (List String)
  | [] => some []
  | .ty n :: r => if knownTy n = true then (tys r).map (n :: ·) else none
  | _ => none
def cIsi : DC := fun xs S P => match xs with
  | [x, .ty n] => match tyName S x with
    | some m => knownTy n = true ∧ P (.bl (isTy m n)) S
    | none => False
  | [x, .tup cs] => match tyName S x, tys cs with
    | some m, some ns => P (.bl (ns.any fun n => isTy m n)) S
    | _, _ => False
  | _ => False
end
end DL

namespace DL
open PySem PySem.Spec PyProof.Rows L2
local macro_rules | `(tactic| omega) => `(tactic| first | assumption | lia)

/-! ### built-ins by name -/
theorem b_abs : bootBuiltins "abs" = some (.builtin "abs") := by decide +kernel
theorem b_max : bootBuiltins "max" = some (.builtin "max") := by decide +kernel
theorem b_min : bootBuiltins "min" = some (.builtin "min") := by decide +kernel
theorem b_len : bootBuiltins "len" = some (.builtin "len") := by decide +kernel
theorem b_any : bootBuiltins "any" = some (.builtin "any") := by decide +kernel
theorem b_all : bootBuiltins "all" = some (.builtin "all") := by decide +kernel
theorem b_int : bootBuiltins "int" = some (.type "int") := by decide +kernel
theorem b_tuple : bootBuiltins "tuple" = some (.type "tuple") := by decide +kernel
section
variable {X : Cx} {pos p : Pos} {a b : Expr} {da db : DE} {es : List Expr} {ds : DA}
theorem je_abs (hm : X.mg "abs" = none) (ha : JA X [a] ds) (hg : Gl X "abs" := by rfl) (hs : starEach [a] X.env = [(false, eval a X.env)] := by rfl) : JE X (.Call (.Name "abs" p) [a] [] pos) (dCB cAbs ds) := je_callB call_abs i_abs hg hm b_abs ha (hs := hs) (hpl := by rfl)
theorem je_max2 (hm : X.mg "max" = none) (ha : JA X [a, b] ds) (hc : X.calm = true := by rfl) (hg : Gl X "max" := by rfl) (hs : starEach [a, b] X.env = (false, eval a X.env) :: starEach [b] X.env := by rfl) (hpl : (backTo pos (starEach [b] X.env)).any (·.1) = false := by rfl) : JE X (.Call (.Name "max" p) [a, b] [] pos) (dCB cMax2 ds) := je_callB (call_max2 hc) i_max2 hg hm b_max ha (hs := hs) (hpl := hpl)
theorem je_min2 (hm : X.mg "min" = none) (ha : JA X [a, b] ds) (hc : X.calm = true := by rfl) (hg : Gl X "min" := by rfl) (hs : starEach [a, b] X.env = (false, eval a X.env) :: starEach [b] X.env := by rfl) (hpl : (backTo pos (starEach [b] X.env)).any (·.1) = false := by rfl) : JE X (.Call (.Name "min" p) [a, b] [] pos) (dCB cMin2 ds) := je_callB (call_min2 hc) i_min2 hg hm b_min ha (hs := hs) (hpl := hpl)
theorem je_any (hm : X.mg "any" = none) (ha : JA X [a] ds) (hc : X.calm = true := by rfl) (hg : Gl X "any" := by rfl) (hs : starEach [a] X.env = [(false, eval a X.env)] := by rfl) : JE X (.Call (.Name "any" p) [a] [] pos) (dCB cAny ds) := je_callB (cr_any hc) i_any hg hm b_any ha (hs := hs) (hpl := by rfl)
theorem je_all (hm : X.mg "all" = none) (ha : JA X [a] ds) (hc : X.calm = true := by rfl) (hg : Gl X "all" := by rfl) (hs : starEach [a] X.env = [(false, eval a X.env)] := by rfl) : JE X (.Call (.Name "all" p) [a] [] pos) (dCB cAll ds) := je_callB (cr_all hc) i_all hg hm b_all ha (hs := hs) (hpl := by rfl)
theorem je_len (hm : X.mg "len" = none) (ha : JA X [a] ds) (hg : Gl X "len" := by rfl) (hs : starEach [a] X.env = [(false, eval a X.env)] := by rfl) : JE X (.Call (.Name "len" p) [a] [] pos) (dCB cLen ds) := je_callB (call_len_seq.or call_len_str) i_len hg hm b_len ha (hs := hs) (hpl := by rfl)
theorem je_intC (hm : X.mg "int" = none) (ha : JA X [a] ds) (hg : Gl X "int" := by rfl) (hs : starEach [a] X.env = [(false, eval a X.env)] := by rfl) : JE X (.Call (.Name "int" p) [a] [] pos) (dCB cInt ds) := je_callTy call_int1 i_int hg hm b_int ha (hs := hs) (hpl := by rfl)
theorem je_tupC (hm : X.mg "tuple" = none) (ha : JA X [a] ds) (hg : Gl X "tuple" := by rfl) (hs : starEach [a] X.env = [(false, eval a X.env)] := by rfl) : JE X (.Call (.Name "tuple" p) [a] [] pos) (dCB cTuple ds) := je_callTy call_tuple_of i_tuple hg hm b_tuple ha (hs := hs) (hpl := by rfl)
end

/-! ### what is walked -/
/-- a list that may change, walked, is to stay -/
def pinOf (S : Store) : D → Option (Store → Prop)
  | .obj l => some fun S' => S' l = S l
  | _ => none
def dItSeq (d : DE) : DI := fun ρ S P => d ρ S fun x S1 => match seqOf S1 x with
  | some ds => P ds (pinOf S1 x) S1
  | none => False
def rng (lo : Int) (n : Nat) : List D := (List.range n).map fun (i : Nat) => .int (lo + (i : Int))
theorem rng_len (lo : Int) (n : Nat) : (rng lo n).length = n := by simp [rng]
theorem rng_get {lo : Int} {n i : Nat} {d : D} (h : (rng lo n)[i]? = some d) : i < n ∧ d = .int (lo + (i : Int)) := by
  unfold rng at h
  rw [List.getElem?_map] at h
  by_cases hi : i < n
  · rw [List.getElem?_range hi] at h
    cases h
    exact ⟨hi, rfl⟩
  · rw [List.getElem?_eq_none (by simpa using hi)] at h; cases h
def dRng1 (a : DA) : DI := fun ρ S P => a ρ S fun xs S1 => match xs with
  | [.int j] => -(2 ^ 62) ≤ j ∧ j < 2 ^ 62 ∧ P (rng 0 j.toNat) none S1
  | _ => False
def dRng2 (a : DA) : DI := fun ρ S P => a ρ S fun xs S1 => match xs with
  | [.int i, .int j] => (-(2 ^ 62) ≤ i ∧ i < 2 ^ 62 ∧ -(2 ^ 62) ≤ j ∧ j < 2 ^ 62) ∧ P (rng i (j - i).toNat) none S1
  | _ => False
def zipD (as bs : List D) : List D := List.zipWith (fun a b => .tup [a, b]) as bs
section
variable {X : Cx} {pos p : Pos} {tg a b c : Expr} {da db : DE} {es : List Expr} {ds : DA}
/-- a list or a tuple -/
theorem pi_seq {l : Expr} {tl : TE} (hl : PE X l tl) : PI X tg l (fun σ H R => tl σ H fun x H1 => ∃ a, x = .ref a ∧ (((∃ xs, SqL X.K H1 a xs) ∧ R (Itl X.K a) H1) ∨ ((∃ xs, SqT X.K H1 a xs) ∧ R (Itt X.K a) H1))) := by
  refine ⟨fun pins s σ H R I h => ?_⟩
  refine thn (hl.run pins s σ H _ I h) fun v s1 ⟨x, H1, I1, r1, q1⟩ => ?_
  obtain ⟨a, e, q1⟩ := q1
  subst e
  cases r1
  rcases q1 with ⟨⟨xs, hq⟩, q⟩ | ⟨⟨xs, hq⟩, q⟩
  · obtain ⟨its, rv, p, hz⟩ := I1.list hq
    refine wpAny_pyIter_list p.isList ?_
    refine ⟨s1.heap.objs.size, [s1.heap.objs.size], _, _, H1, rfl, I1.kept (t' := s1.toks) fun b o e => Heap.get?_push_of_some _ e, turn_list a _, ⟨_, Heap.get?_push_size _ rfl, rfl, rfl⟩, fun b hb => ?_, q⟩
    have e : b = s1.heap.objs.size := by simpa using hb
    subst e
    exact I1.fpOk (Nat.le_refl _) (I1.hok.fresh (Nat.le_refl _))
  · obtain ⟨its, rv, p, hz⟩ := I1.tuple hq
    refine wpAny_pyIter_tuple (show s1.heap.IsTuple a its.toArray from p) ?_
    refine ⟨s1.heap.objs.size, [s1.heap.objs.size], _, _, H1, rfl, I1.kept (t' := s1.toks) fun b o e => Heap.get?_push_of_some _ e, turn_tuple a _, ⟨_, Heap.get?_push_size _ rfl, rfl, rfl⟩, fun b hb => ?_, q⟩
    have e : b = s1.heap.objs.size := by simpa using hb
    subst e
    exact I1.fpOk (Nat.le_refl _) (I1.hok.fresh (Nat.le_refl _))
theorem itl_ok {K : PySem.W.Frag} {I : Hp} {a : Addr} {ds : List D} {pin : Option (Store → Prop)} (hs : ∀ I2 S F H, Same I I2 → Ok K I2 S F H → PinOk pin S → ∃ xs, SqL K H a xs ∧ RepL K I2 ds xs) : ItOk K I (Itl K a) ds pin where
  go I2 S F H e ok pk i d hd := by
    obtain ⟨xs, h2, rl⟩ := hs I2 S F H e ok pk
    obtain ⟨v, e1, r1⟩ := rl.get hd
    refine ⟨⟨xs, v, h2, e1⟩, fun x H' hy => ?_⟩
    obtain ⟨rfl, hy⟩ := hy
    have := hy xs h2
    rw [e1] at this
    cases this
    exact ⟨I2, Same.refl _, ok, r1⟩
  stop I2 S F H e ok pk i hi := by
    obtain ⟨xs, h2, rl⟩ := hs I2 S F H e ok pk
    exact ⟨xs, h2, by rw [rl.len]; exact Nat.le_of_eq hi.symm⟩
theorem itt_ok {K : PySem.W.Frag} {I : Hp} {a : Addr} {ds : List D} {pin : Option (Store → Prop)} (hs : ∀ I2 S F H, Same I I2 → Ok K I2 S F H → PinOk pin S → ∃ xs, SqT K H a xs ∧ RepL K I2 ds xs) : ItOk K I (Itt K a) ds pin where
  go I2 S F H e ok pk i d hd := by
    obtain ⟨xs, h2, rl⟩ := hs I2 S F H e ok pk
    obtain ⟨v, e1, r1⟩ := rl.get hd
    refine ⟨⟨xs, v, h2, e1⟩, fun x H' hy => ?_⟩
    obtain ⟨rfl, hy⟩ := hy
    have := hy xs h2
    rw [e1] at this
    cases this
    exact ⟨I2, Same.refl _, ok, r1⟩
  stop I2 S F H e ok pk i hi := by
    obtain ⟨xs, h2, rl⟩ := hs I2 S F H e ok pk
    exact ⟨xs, h2, by rw [rl.len]; exact Nat.le_of_eq hi.symm⟩
/-- a list (b false) or a tuple (b true) -/
def Sq (b : Bool) (K : PySem.W.Frag) (H : Hp) (a : Addr) (xs : List V) : Prop := match b with | true => SqT K H a xs | false => SqL K H a xs
theorem src_sq {K : PySem.W.Frag} {I F H : Hp} {S : Store} {x : D} {v : V} {ds : List D} (ok : Ok K I S F H) (r : Rep K I x v) (h : seqOf S x = some ds) :
    ∃ b a, v = .ref a ∧ ∀ I2 S2 F2 H2, Same I I2 → Ok K I2 S2 F2 H2 → PinOk (pinOf S x) S2 → ∃ xs, Sq b K H2 a xs ∧ RepL K I2 ds xs := by
  cases x with
  | tup es =>
    simp only [seqOf, Option.some.injEq] at h; subst h
    obtain ⟨a, xs, rfl, hs, rl⟩ := r.tup_of
    exact ⟨true, a, rfl, fun I2 S2 F2 H2 e ok2 _ => ⟨xs, sqT_same ok2.same (tupAt_same e hs), rl.mono e⟩⟩
  | lst es =>
    simp only [seqOf, lstOf, Option.some.injEq] at h; subst h
    obtain ⟨a, xs, rfl, hs, rl⟩ := r.lst_of
    exact ⟨false, a, rfl, fun I2 S2 F2 H2 e ok2 _ => ⟨xs, ok2.same.seq (e.seq (.of hs)), rl.mono e⟩⟩
  | ext es =>
    simp only [seqOf, lstOf, Option.some.injEq] at h; subst h
    obtain ⟨a, xs, rfl, hs, rl⟩ := r.ext_of
    exact ⟨false, a, rfl, fun I2 S2 F2 H2 e ok2 _ => ⟨xs, ok2.same.seq (e.seq hs), rl.mono e⟩⟩
  | obj l =>
    simp only [seqOf, lstOf] at h
    cases e : S l with
    | none => simp [e] at h
    | some m =>
      cases m with
      | lst es =>
        simp [e] at h; subst h
        refine ⟨false, l, r.obj_of, fun I2 S2 F2 H2 e2 ok2 pk => ?_⟩
        have pk' : S2 l = S l := pk
        rw [e] at pk'
        obtain ⟨_, ys, q2, rl⟩ := ok2.s l _ pk'
        exact ⟨ys, .of q2, rl⟩
      | _ => simp [e] at h
  | _ => simp [seqOf, lstOf] at h
theorem pin_self (S : Store) (x : D) : PinOk (pinOf S x) S := by
  cases x <;> first | trivial | rfl
theorem ji_seq (h : JE X a da) : JI X tg a (dItSeq da) :=
  ji_of (pi_seq h) fun σ H R h0_ => El54 h0_ fun ρ I S F P rs ok hh q => ⟨ρ, I, S, F, _, rs, ok, hh, fun x S1 v I1 H1 h1 e1 ok1 r1 => by
    split at h1
    · rename_i ds hds
      obtain ⟨b, a, rfl, hs⟩ := src_sq ok1 r1 hds
      obtain ⟨xs, q1, _⟩ := hs _ _ _ _ (Same.refl _) ok1 (pin_self _ _)
      cases b
      · exact ⟨a, rfl, .inl ⟨⟨xs, q1⟩, q _ _ _ _ _ _ h1 e1 ok1 (itl_ok hs)⟩⟩
      · exact ⟨a, rfl, .inr ⟨⟨xs, q1⟩, q _ _ _ _ _ _ h1 e1 ok1 (itt_ok hs)⟩⟩
    · exact h1.elim⟩
theorem itr_ok {K : PySem.W.Frag} {I : Hp} (lo : Int) (n : Nat) : ItOk K I (Itr lo n) (rng lo n) none where
  go I2 S F H e ok _ i d hd := by
    obtain ⟨hi, rfl⟩ := rng_get hd
    exact ⟨hi, fun x H' ⟨e1, e2⟩ => ⟨I2, Same.refl _, by rw [e1]; exact ok, by rw [e2]; exact rep_int⟩⟩
  stop I2 S F H e ok _ i hi := by rw [rng_len] at hi; exact Nat.le_of_eq hi.symm
theorem ji_range1 (hm : X.mg "range" = none) (ha : JA X [a] ds) (hg : Gl X "range" := by rfl) (hs : starEach [a] X.env = [(false, eval a X.env)] := by rfl) : JI X tg (.Call (.Name "range" p) [a] [] pos) (dRng1 ds) :=
  ji_of (pi_range1 hg hm ha hs) fun σ H R h0_ => El54 h0_ fun ρ I S F P rs ok hh q => ⟨ρ, I, S, F, _, rs, ok, hh, fun xs S1 v I1 H1 h1 e1 ok1 r1 => by
    split at h1
    · obtain ⟨v, rfl, rv⟩ := r1.inv1
      cases rv.int_of
      exact ⟨_, rfl, h1.1, h1.2.1, q _ _ _ _ _ _ h1.2.2 e1 ok1 (itr_ok _ _)⟩
    · exact h1.elim⟩
theorem ji_range2 (hm : X.mg "range" = none) (ha : JA X [a, b] ds) (hg : Gl X "range" := by rfl) (hs : starEach [a, b] X.env = [(false, eval a X.env), (false, eval b X.env)] := by rfl) (hs2 : starEach [b] X.env = [(false, eval b X.env)] := by rfl) : JI X tg (.Call (.Name "range" p) [a, b] [] pos) (dRng2 ds) :=
  ji_of (pi_range2 hg hm ha hs hs2) fun σ H R h0_ => El54 h0_ fun ρ I S F P rs ok hh q => ⟨ρ, I, S, F, _, rs, ok, hh, fun xs S1 v I1 H1 h1 e1 ok1 r1 => by
    split at h1
    · obtain ⟨v, w, rfl, rv, rw⟩ := r1.inv2
      cases rv.int_of; cases rw.int_of
      exact ⟨_, _, rfl, h1.1, q _ _ _ _ _ _ h1.2 e1 ok1 (itr_ok _ _)⟩
    · exact h1.elim⟩
theorem rep_tup2 {K : PySem.W.Frag} {I : Hp} {T : Addr} {x y : V} {d e : D} (n : I T = none) (h1 : Rep K I d x) (h2 : Rep K I e y) : Rep K (upd I T (.tup [x, y])) (.tup [d, e]) (.ref T) := rep_new_tup n (RepL.cons h1 (RepL.one h2))
end

/-! ### changes -/
section
variable {X : Cx} {pos p apos : Pos} {tg a b c o i : Expr} {da db d1 d2 : DE} {es : List Expr} {ds : DA}
def dAppend (a b : DE) : DE := fun ρ S P => a ρ S fun x S1 => match x with
  | .obj l => ∃ es, S1 l = some (.lst es) ∧ b ρ S1 fun y S2 => ∃ ds, S2 l = some (.lst ds) ∧ ds.length < 100000 ∧ P .non (supd S2 l (.lst (ds ++ [y])))
  | _ => False
theorem je_append (ha : JE X o da) (hb : JE X a db) (hbase : attributeBase o "append" X.env (eval o X.env) = eval o X.env := by rfl) (hs0 : starEach [a] X.env = [(false, eval a X.env)] := by rfl)
    (hfew : ((backTo pos (starEach [a] X.env)).all (fun x => !x.1) && (backToKw pos (keywordEach [] X.env)).all (fun x => x.1.isSome)
      && decide ([a].length + ([] : List Keyword).length + (if ([] : List Keyword).isEmpty then 0 else 1) < 30)) = true := by rfl)
    (hline : (apos.endLine == pos.line) = true := by rfl) : JE X (.Call (.Attribute o "append" apos) [a] [] pos) (dAppend da db) :=
  je_of (pe_bm PySem.F.plainAttrs_list PySem.F.slot_list_append PySem.F.type_list_append mt_append ha (pa_cons hb pa_nil hs0) hbase hfew hline (hs := hs0) (hplain := by rfl)) fun σ H Q h0_ => El54 h0_ fun ρ I S F P rs ok hh q =>
    ⟨ρ, I, S, F, _, rs, ok, hh, fun x S1 v I1 H1 h1 e1 ok1 r1 => by
      cases x with
      | obj l =>
        obtain ⟨es, e2, h2⟩ := h1
        obtain ⟨_, ys, q2, _⟩ := ok1.s l _ e2
        cases r1.obj_of
        refine ⟨.inl ⟨rfl, ys, .of q2⟩, ρ, I1, S1, F, _, rs.mono e1, ok1, h2, fun y S2 w I2 H2 h3 e3 ok2 r2 => ?_⟩
        obtain ⟨ds, e4, hl, h4⟩ := h3
        obtain ⟨_, zs, q4, rl⟩ := ok2.s l _ e4
        refine ⟨l, zs, w, rfl, rfl, q4, ?_, q _ _ _ _ _ h4 (e1.trans e3) (ok2.writeL e4 (rl.app (RepL.one r2))) rep_non⟩
        rw [rl.len]
        exact Nat.lt_of_lt_of_le hl (by decide)
      | _ => exact h1.elim⟩
/-- o[i] = e -/
def dSetIx (de d1 d2 : DE) : DS := fun DD ρ S => de ρ S fun x S1 => d1 ρ S1 fun o S2 => d2 ρ S2 fun i S3 => match o, i with
  | .obj l, .int k => match S3 l with
    | some (.lst ds) => match ixN ds.length k with
      | some j => DD.nx ρ (supd S3 l (.lst (ds.set j x)))
      | none => False
    | _ => False
  | _, _ => False
theorem js_setIx {e : Expr} {de : DE} (he : JE X e de) (ho : JE X o d1) (hi : JE X i d2)
    (ha : ∀ v, assign (.Subscript o i p) X.env v = (do
      let ov ← holding [v] (eval o X.env)
      let iv ← holding [v, ov] (eval i X.env)
      standAt p
      holding [v, ov, iv] (setItem ov iv v)
      release [v, ov, iv] []) := by intro _; rfl)
    (hs : swapsWithSole [.Subscript o i p] e pos.line X.env = pure false := by rfl) (hw : swappedStores [.Subscript o i p] e X.env = pure none := by rfl)
    (h1 : (assignEach [.Subscript o i p] X.env).map (·.2) = [assign (.Subscript o i p) X.env] := by rfl) : JS X (.Assign [.Subscript o i p] e pos) (dSetIx de d1 d2) :=
  js_of (ps_asg he (pg_sub ho hi set_list ha) hs hw h1) fun D σ H h0_ => El54 h0_ fun ρ I S F DD rs ok h q => ⟨ρ, I, S, F, _, rs, ok, h, fun x S1 v I1 H1 h1 e1 ok1 r1 =>
    ⟨ρ, I1, S1, F, _, rs.mono e1, ok1, h1, fun o S2 w I2 H2 h2 e2 ok2 r2 => ⟨ρ, I2, S2, F, _, rs.mono (e1.trans e2), ok2, h2, fun i S3 u I3 H3 h3 e3 ok3 r3 => by
      have rx := r1.mono (e2.trans e3)
      have ro := r2.mono e3
      split at h3
      · rename_i l k
        split at h3
        · rename_i ds eS
          split at h3
          · rename_i j ej
            obtain ⟨_, zs, q4, rl⟩ := ok3.s l _ eS
            cases ro.obj_of
            cases r3.int_of
            refine ⟨l, zs, k, j, rfl, rfl, q4, by rw [rl.len]; exact ej, q.nx _ _ _ _ _ h3 ((e1.trans e2).trans e3) (ok3.writeL eS (rl.set j rx)) (rs.mono ((e1.trans e2).trans e3))⟩
          · exact h3.elim
        · exact h3.elim
      · exact h3.elim⟩⟩⟩
/-! in-place operators on a name -/
theorem i_iadd {K : PySem.W.Frag} : ImpIp K (rI0 fun i j => .int (i + j)) (fun x y S P => match x, y with
  | .int i, .int j => P (.int (i + j)) S
  | _, _ => False) := by
  intro x y v w I S F H P Q ok rx ry h q
  split at h
  · cases rx.int_of; cases ry.int_of
    exact ⟨_, _, rfl, rfl, q _ _ _ _ _ h (Same.refl I) ok rep_int⟩
  · exact h.elim
theorem iop_mulA : OpR X (inplaceOp .Mult) (rI MulB fun i j => .int (i * j)) := opI fun i j _ _ _ _ _ hc q => by
  rcases hc with h | h
  · exact imul_int q h.ok
  · exact imul_int q h.ok
def dIAdd : D2 := fun x y S P => match x, y with
  | .int i, .int j => P (.int (i + j)) S
  | _, _ => False
def dIMul : D2 := fun x y S P => match x, y with
  | .int i, .int j => MulB i j ∧ P (.int (i * j)) S
  | _, _ => False
theorem i_imul {K : PySem.W.Frag} : ImpIp K (rI MulB fun i j => .int (i * j)) dIMul := by
  intro x y v w I S F H P Q ok rx ry h q
  unfold dIMul at h
  split at h
  · cases rx.int_of; cases ry.int_of
    exact ⟨_, _, rfl, rfl, h.1, q _ _ _ _ _ h.2 (Same.refl I) ok rep_int⟩
  · exact h.elim
variable {e : Expr} {de : DE} {x : Str} {pos' : Pos}
theorem js_iadd (i : Nat) (hN : X.N.Nodup) (hi : X.N[i]? = some x) (hx : Loc X.env.scope x) (he : JE X e de) (hf : X.fn x = true ∨ X.env.scope.names.lookup x = some .local := by first | exact .inl rfl | exact .inr rfl | assumption) : JS X (.AugAssign (.Name x pos') .Add e pos) (dAug i dIAdd de) := js_aug i hN hi hx he (ti := rI0 fun i j => .int (i + j)) iop_add i_iadd hf
theorem js_isub (i : Nat) (hN : X.N.Nodup) (hi : X.N[i]? = some x) (hx : Loc X.env.scope x) (he : JE X e de) (hf : X.fn x = true ∨ X.env.scope.names.lookup x = some .local := by first | exact .inl rfl | exact .inr rfl | assumption) : JS X (.AugAssign (.Name x pos') .Sub e pos) (dAug i dSub de) := js_aug i hN hi hx he (ti := rI0 fun i j => .int (i - j)) iop_sub i_sub hf
theorem js_imul (i : Nat) (hN : X.N.Nodup) (hi : X.N[i]? = some x) (hx : Loc X.env.scope x) (he : JE X e de) (hf : X.fn x = true ∨ X.env.scope.names.lookup x = some .local := by first | exact .inl rfl | exact .inr rfl | assumption) : JS X (.AugAssign (.Name x pos') .Mult e pos) (dAug i dIMul de) := js_aug i hN hi hx he (ti := rI MulB fun i j => .int (i * j)) iop_mulA i_imul hf
end
end DL

namespace DL
open PySem PySem.Spec PyProof.Rows L2
local macro_rules | `(tactic| omega) => `(tactic| first | assumption | lia)

/-- the def called x keeps its promise sp, called with every argument by its place -/
structure Does (P : Program) (w : World) (K : PySem.W.Frag) (mg : Str → Option Value) (base : Heap) (k : Nat) (x : Str) (ps : List Str) (f : Addr) (fd : FuncData) (sp : DSp) : Prop where
  g : mg x = some (.ref f)
  kp : PySem.W.keepIn K (.ref f) = true
  b : Binds K fd ps []
  ok : FnD P w K mg base k f fd ps sp
section
variable {X : Cx} {pos p : Pos} {a : Expr} {es : List Expr} {ds : DA} {k j : Nat} {x : Str} {ps : List Str} {f : Addr} {fd : FuncData} {sp : DSp}
theorem je_f (G : Does X.prog X.w X.K X.mg X.base k x ps f fd sp) (hr : DG.RoomG j X.A) (ha : JA X (a :: es) ds) (hk : k ≤ j := by decide) (hg : Gl X x := by rfl) (hdb : (x == ("__debug__" : Str)) = false := by decide) (he : starEach (a :: es) X.env = (false, eval a X.env) :: starEach es X.env := by rfl)
    (hpl : (backTo pos (starEach es X.env)).any (·.1) = false := by rfl) : JE X (.Call (.Name x p) (a :: es) [] pos) (dCB sp ds) :=
  je_of (je_call G.ok (hr.mono hk) hg G.g G.kp G.b .nil (fun _ => RepL.nil) ha hdb he hpl) fun σ H Q h0_ => El54 h0_ fun ρ I S F P rs ok h q => ⟨ρ, I, S, F, P, rs, ok, by simpa only [dCall, dCB, List.append_nil] using h, q⟩
variable {ks : List Str} {n m : Nat} {perm : List Nat} {kws : List Keyword} {dk : DA}
end
/-- a def with positional defaults: its body's promise -/
theorem fn_dD {P : Program} {w : World} {K : PySem.W.Frag} {mg : Str → Option Value} {base : Heap} {x qual : Str} {st : Stmt} {f : Addr} {fd : FuncData} {N ps : List Str} {k : Nat} {sp : DSp} {dvs : List V} {kws : List (Str × V)}
    (F : FunD K x qual (defArgs st) (defBody st) (defScope st) dvs kws f fd) (S : FnScope N ps (defScope st)) (len : ∀ ds S P, sp ds S P → ds.length = ps.length)
    (hbody : ∀ (cdv : Value) (A : Around) (outer : List Env) (s : Shared) (H : Hp) (E : XK), DG.RoomG k (A.deeper (envOfC qual (defScope st) s.heap.objs.size f cdv)) →
      ∃ d : DS, JSs (cxOf CX0 P w K mg base N qual (defScope st) f cdv A outer s H E).nox (defBody st) d ∧ ∀ ds S P, sp ds S P → d (dEnd P) (ds.map some ++ List.replicate (N.length - ds.length) none) S) : FnD P w K mg base (k + 1) f fd ps sp := by
  refine DG.funD_ok F S (fun vs H Q E h => ?_) (fun cdv A outer s H vs Q E hr h => ?_)
  · obtain ⟨ds, I, S, F, P, r, ok, h, q⟩ := h
    rw [r.len]
    exact len _ _ _ h
  · obtain ⟨ds, I, S', F', P', r, ok, h, q⟩ := h
    obtain ⟨d, h1, h2⟩ := hbody cdv A outer s H E hr
    refine ⟨_, h1.nox, _, I, S', F', _, repS_start r, ok, h2 ds S' P' h, ⟨?_, q, ?_, ?_⟩⟩
    · intro ρ S2 σ I2 H2 p e2 ok2 _
      exact q _ _ _ _ _ p e2 ok2 rep_non
    · intro ρ S2 σ I2 H2 p e2 ok2 _
      exact p.elim
    · intro ρ S2 σ I2 H2 p e2 ok2 _
      exact p.elim

/-! ### chains -/
section
variable {X : Cx} {pos : Pos} {a b c : Expr} {da db dc : DE} {op op' : CmpOp} {r r' : R2} {o o' : D2}
def dChainR (o o' : D2) (da db dc : DE) : DE := fun ρ S P => da ρ S fun x S1 => db ρ S1 fun y S2 => o x y S2 fun z S3 => match z with
  | .bl k => if k = true then dc ρ S3 fun u S4 => o' y u S4 P else P (.bl false) S3
  | _ => False
end
end DL

namespace DL
open PySem PySem.Spec PyProof.Rows L2
local macro_rules | `(tactic| omega) => `(tactic| first | assumption | lia)

/-! ### the law's own promise -/
def sp_law : DSp := fun ds S P => ∃ ns : List Int, ds = [.ext (ns.map .int)] ∧ ns.length ≤ 63 ∧ ∀ S', P (.bl true) S'
theorem repL_ints {K : PySem.W.Frag} {I : Hp} : ∀ ns : List Int, RepL K I (ns.map .int) (ns.map V.int)
  | [] => RepL.nil
  | n :: ns => RepL.cons rep_int (repL_ints ns)
/-- a def of one positional default or more: the whole is given -/
theorem funD_mk {K : PySem.W.Frag} {x qual : Str} {st : Stmt} {f : Addr} {oc : Value} {od an : Option Addr} {osl : Array (Option Value)} {dV kV doc pm cdv ct : Value} {dvs : List V} (l : K.lookup f = some ⟨oc, od, .func (PySem.W.fnOf x qual (defArgs st) (defBody st) (defScope st) dV kV doc pm an cdv ct), osl⟩)
    (c : PySem.W.codeIn K cdv qual = true) (k : PySem.W.keepIn K (.ref f) = true) (d : DflV K dV dvs) : FunD K x qual (defArgs st) (defBody st) (defScope st) dvs [] f (PySem.W.fnOf x qual (defArgs st) (defBody st) (defScope st) dV kV doc pm an cdv ct) :=
  ⟨⟨oc, od, dV, kV, doc, pm, an, cdv, ct, osl, rfl, l, c, d, .inl rfl⟩, k⟩
theorem bindsAll {K : PySem.W.Frag} {x qual : Str} {st : Stmt} {f : Addr} {fd : FuncData} {dvs : List V} {ps : List Str} (F : FunD K x qual (defArgs st) (defBody st) (defScope st) dvs [] f fd) (n : Nat) (hd : dvs ≠ []) (hn : n = ps.length)
    (h : ∀ (T : Addr) (kV doc pm : Value) (an : Option Addr) (cdv ct : Value) (us its : List Value), us.length = n → its.length = dvs.length →
      ∃ k, bindArgs (PySem.W.fnOf x qual (defArgs st) (defBody st) (defScope st) (.ref T) kV doc pm an cdv ct) ⟨us, []⟩ = seqItems? (.ref T) >>= k ∧ k (some its.toArray) = pure (ps.zip us)) : Binds K fd ps [] := by
  obtain ⟨ds, v, b⟩ := F.binds1 (ps := ps) n dvs.length hd (by omega) fun T kV doc pm an cdv ct us its h1 h2 => by
    obtain ⟨k, e1, e2⟩ := h T kV doc pm an cdv ct us its h1 h2
    refine ⟨k, e1, ?_⟩
    rw [e2, ← h2, List.drop_length, List.append_nil]
  rw [List.drop_length] at v
  cases v
  exact b
end DL

namespace DZ
open PySem PySem.Spec PyProof.Rows L2
local macro_rules | `(tactic| omega) => `(tactic| first | assumption | lia)
open Sem (wp)
/-! zip(a, b, strict=True) -/
abbrev IsZipS (h : Heap) (z TI TO : Addr) (f0 : Value) : Prop :=
  h.get? z = some { cls := .type "zip", dict := none, data := .fields #[f0, .bool false, .bool true, .ref TI, .ref TO], slots := #[] }
section
variable {prog : Program} {w : World} {A : Around} {E : Value → Shared → Prop} {s : Shared}
theorem orEnd_item {it : Addr} {fp : List Addr} {n i : Nat} {P : Nat → Value → Prop} {St : Nat → Heap → Prop} {Q : Option Value → Shared → Prop} (D : Draws prog w A it fp n P St) (hi : i < n) (st : St i s.heap)
    (hQ : ∀ x h' tk, P i x → St (i + 1) h' → Heap.SameBut it s.heap h' → Q (some x) { s with heap := h', toks := tk }) : wpAny (model prog w) A (Builtin.SmallTypes.nextOrEnd (.ref it)) Q E s := by
  unfold Builtin.SmallTypes.nextOrEnd
  exact wpAny_bind (wpAny_attempt (D.item i _ _ _ hi st fun x h' tk a b c => wpAny_pure (hQ x h' tk a b c)))
theorem orEnd_done {it : Addr} {fp : List Addr} {n : Nat} {P : Nat → Value → Prop} {St : Nat → Heap → Prop} {Q : Option Value → Shared → Prop} (D : Draws prog w A it fp n P St) (st : St n s.heap)
    (hQ : ∀ h', Heap.ExtBut it s.heap h' → Q none { s with heap := h' }) : wpAny (model prog w) A (Builtin.SmallTypes.nextOrEnd (.ref it)) Q E s := by
  unfold Builtin.SmallTypes.nextOrEnd
  refine wpAny_bind (wpAny_attempt (D.done s _ _ st fun h' e hk he => ?_))
  obtain ⟨o, ho, hc⟩ := he
  exact wpAny_bind (wpAny_isInstance (T := "StopIteration") (b := true) ⟨o, ho, hc⟩ isSubtype_stop (wpAny_pure (hQ _ hk)))
theorem stop_raises {α : Type} {Q : α → Shared → Prop} (hh : A.handled = none)
    (hE : ∀ h' e, (∀ c o, s.heap.get? c = some o → h'.get? c = some o) → (∃ o, h'.get? e = some o ∧ o.cls = .type "StopIteration") → E (.ref e) { s with heap := h' }) : wpAny (model prog w) A (Builtin.SmallTypes.stopIteration : Sem α) Q E s := by
  unfold Builtin.SmallTypes.stopIteration
  refine wpAny_bind ?_
  simp only [newExc, newTuple]
  refine wpAny_bind (wpAny_newObj_type ?_ (by size_fits))
  refine wpAny_bind (m := firstArgMember _ _) (wpAny_of_eq (a := Value.none) (by first | rfl | (simp only [firstArgMember]; rfl)) ?_)
  refine wpAny_newObj_type ?_ (by size_fits)
  simp only [raiseNew]
  refine wpAny_bind (wpAny_handled ?_)
  rw [hh]
  refine wpAny_bind (wpAny_pure (wpAny_throw ?_))
  exact hE _ _ (fun c o e => Heap.get?_push_of_some _ (Heap.get?_push_of_some _ e)) ⟨_, Heap.get?_push_size _ rfl, rfl⟩
end
section
variable {prog : Program} {w : World} {A : Around} {E : Value → Shared → Prop} {s : Shared} {z TI TO i1 i2 : Addr} {fp1 fp2 : List Addr} {n1 n2 i : Nat} {P1 P2 : Nat → Value → Prop} {St1 St2 : Nat → Heap → Prop} {a1 a2 : Value}
theorem zS_next_item {Q : Value → Shared → Prop} (S : ZipSep2 z TI TO i1 i2 fp1 fp2) (D1 : Draws prog w A i1 fp1 n1 P1 St1) (D2 : Draws prog w A i2 fp2 n2 P2 St2)
    (hz : IsZipS s.heap z TI TO .none) (hTI : IsTupOf2 s.heap TI (.ref i1) (.ref i2)) (hTO : IsTupOf2 s.heap TO a1 a2) (st1 : St1 i s.heap) (st2 : St2 i s.heap) (hlt1 : i < n1) (hlt2 : i < n2)
    (hQ : ∀ x1 x2 h' tk, P1 i x1 → P2 i x2 → IsZipS h' z TI TO (rawInt s.heap.objs.size) → IsTupOf2 h' TO x1 x2 → St1 (i + 1) h' → St2 (i + 1) h' → IsTupOf2 h' s.heap.objs.size x1 x2 → h'.objs.size = s.heap.objs.size + 1 →
      (∀ c o, c ≠ z → c ≠ TO → c ≠ i1 → c ≠ i2 → s.heap.get? c = some o → h'.get? c = some o) → Q (.ref s.heap.objs.size) { s with heap := h', toks := tk }) :
    wpAny (model prog w) A (Builtin.«zip.__next__» ⟨[.ref z], []⟩) (fun fin s' => ∃ v, fin = .done (.ret v) ∧ Q v s') E s := by
  obtain ⟨hp, g, d, tk0, os⟩ := s
  show wpAny _ _ (field (.ref z) 2 >>= _) _ _ _
  refine wpAny_bind (wpAny_field hz rfl (x := .bool true) rfl ?_)
  show wpAny _ _ (field (.ref z) 3 >>= _) _ _ _
  refine wpAny_bind (wpAny_field hz rfl (x := .ref TI) rfl ?_)
  refine wpAny_bind (wpAny_seqItems hTI rfl ?_)
  show wpAny _ _ (Builtin.SmallTypes.ownedTupleIsFree (.ref z) >>= _) _ _ _
  refine wpAny_bind ?_
  unfold Builtin.SmallTypes.ownedTupleIsFree
  refine wpAny_bind (wpAny_field hz rfl (x := .none) rfl (wpAny_pure ?_))
  simp only [if_true]
  refine wpAny_bind (wpAny_rule ?_)
  refine wpAny_bind (wpAny_field hz rfl (x := .ref TO) rfl ?_)
  refine wpAny_bind (wpAny_setField_rec hz (by simp) fun g0 hz0 hs0 => ?_)
  replace hz0 : IsZipS g0 z TI TO .ellipsis := hz0
  replace hs0 : Heap.SameBut z hp g0 := hs0
  refine wpAny_bind ?_
  simp only [List.zipIdx_cons, List.zipIdx_nil, List.forIn_cons, List.forIn_nil]
  refine wpAny_bind (wpAny_bind (wpAny_onRaise ?_))
  show wpAny _ _ (Builtin.SmallTypes.nextOrEnd (.ref i1)) _ _ ⟨g0, g, d, tk0, os⟩
  refine orEnd_item (s := ⟨g0, g, d, tk0, os⟩) D1 hlt1 (D1.over st1 hs0 S.zf1) fun x1 p1 tk1 hx1 sn1 hp1 => ?_
  replace hp1 : Heap.SameBut i1 g0 p1 := hp1
  have hU1 : IsTupOf2 p1 TO a1 a2 := hp1.extBut _ _ S.Ti1 (hs0.extBut _ _ S.TOz hTO)
  refine wpAny_bind (wpAny_seqItems (s := ⟨p1, g, d, tk1, os⟩) hU1 rfl ?_)
  refine wpAny_bind (updateSeq_IsTupOf2 (s := ⟨p1, g, d, tk1, os⟩) hU1 fun g1 hT1 hs1 => ?_)
  replace hT1 : IsTupOf2 g1 TO x1 a2 := hT1
  replace hs1 : Heap.SameBut TO p1 g1 := hs1
  refine wpAny_bind (wpAny_letGo (wpAny_pure ?_))
  refine wpAny_bind (wpAny_bind (wpAny_onRaise ?_))
  show wpAny _ _ (Builtin.SmallTypes.nextOrEnd (.ref i2)) _ _ ⟨g1, g, d, tk1, os⟩
  refine orEnd_item (s := ⟨g1, g, d, tk1, os⟩) D2 hlt2 (D2.over (D2.over (D2.over st2 hs0 S.zf2) hp1 S.sep1_2) hs1 S.Tf2) fun x2 p2 tk2 hx2 sn2 hp2 => ?_
  replace hp2 : Heap.SameBut i2 g1 p2 := hp2
  have hU2 : IsTupOf2 p2 TO x1 a2 := hp2.extBut _ _ S.Ti2 hT1
  refine wpAny_bind (wpAny_seqItems (s := ⟨p2, g, d, tk2, os⟩) hU2 rfl ?_)
  refine wpAny_bind (updateSeq_IsTupOf2 (s := ⟨p2, g, d, tk2, os⟩) hU2 fun g2 hT2 hs2 => ?_)
  replace hT2 : IsTupOf2 g2 TO x1 x2 := hT2
  replace hs2 : Heap.SameBut TO p2 g2 := hs2
  refine wpAny_bind (wpAny_letGo (wpAny_pure (wpAny_pure ?_)))
  refine wpAny_bind (wpAny_seqItems (s := ⟨g2, g, d, tk2, os⟩) hT2 rfl ?_)
  refine wpAny_bind (wpAny_newTuple ?_)
  have hsz : g2.objs.size = hp.objs.size := by rw [hs2.1, hp2.1, hs1.1, hp1.1, hs0.1]
  have hzz : IsZipS g2 z TI TO .ellipsis := (hs2.extBut _ _ S.TOz.symm (hp2.extBut _ _ S.zi2 (hs1.extBut _ _ S.TOz.symm (hp1.extBut _ _ S.zi1 hz0))))
  have hkk : ∀ c o, c ≠ z → c ≠ TO → c ≠ i1 → c ≠ i2 → hp.get? c = some o → g2.get? c = some o := fun c o cz cT c1 c2 e =>
    (hs2.extBut _ _ cT (hp2.extBut _ _ c2 (hs1.extBut _ _ cT (hp1.extBut _ _ c1 (hs0.extBut _ _ cz e)))))
  have hj1 : St1 (i + 1) g2 := (D1.over (D1.over (D1.over sn1 hs1 S.Tf1) hp2 S.sep2_1) hs2 S.Tf1)
  have hj2 : St2 (i + 1) g2 := (D2.over sn2 hs2 S.Tf2)
  have hzlt : z < g2.objs.size := Heap.lt_size hzz
  show wpAny _ _ (Builtin.SmallTypes.ownedTupleHandOut (.ref z) (.ref g2.objs.size) >>= _) _ _ ⟨g2.push { cls := .type "tuple", data := .seq #[x1, x2] }, g, d, tk2, os⟩
  refine wpAny_bind ?_
  unfold Builtin.SmallTypes.ownedTupleHandOut
  have hz₆ : IsZipS (g2.push { cls := .type "tuple", data := .seq #[x1, x2] }) z TI TO .ellipsis := Heap.get?_push_of_some _ hzz
  refine wpAny_bind (wpAny_setField_rec hz₆ (by simp) fun h₇ hz₇ hs₇ => ?_)
  replace hz₇ : IsZipS h₇ z TI TO (rawInt g2.objs.size) := hz₇
  refine wpAny_setField_rec hz₇ (by simp) fun h₈ hz₈ hs₈ => ?_
  replace hz₈ : IsZipS h₈ z TI TO (rawInt g2.objs.size) := hz₈
  replace hs₇ : Heap.SameBut z (g2.push { cls := .type "tuple", data := .seq #[x1, x2] }) h₇ := hs₇
  replace hs₈ : Heap.SameBut z h₇ h₈ := hs₈
  have up : ∀ c o, c ≠ z → g2.get? c = some o → h₈.get? c = some o := fun c o c1 e => hs₈.extBut _ _ c1 (hs₇.extBut _ _ c1 (Heap.get?_push_of_some _ e))
  have hT₈ : IsTupOf2 h₈ g2.objs.size x1 x2 := hs₈.extBut _ _ (Nat.ne_of_gt hzlt) (hs₇.extBut _ _ (Nat.ne_of_gt hzlt) (Heap.get?_push_size _ rfl))
  have hz8 : h₈.objs.size = g2.objs.size + 1 := by rw [hs₈.1, hs₇.1, Heap.size_push]
  rw [hsz] at hz₈ hT₈ hz8
  refine wpAny_pure ⟨_, rfl, ?_⟩
  show Q (.ref g2.objs.size) ⟨h₈, g, d, tk2, os⟩
  rw [hsz]
  exact hQ x1 x2 h₈ tk2 hx1 hx2 hz₈ (up _ _ S.TOz hT2) (D1.frame _ _ _ hj1 fun b hb o e => up b o (fun q => S.zf1 (q ▸ hb)) e) (D2.frame _ _ _ hj2 fun b hb o e => up b o (fun q => S.zf2 (q ▸ hb)) e) hT₈ hz8 fun c o cz cT c1 c2 e => up c o cz (hkk c o cz cT c1 c2 e)

theorem zS_next_end {Q : Fin → Shared → Prop} (hh : A.handled = none) (S : ZipSep2 z TI TO i1 i2 fp1 fp2) (D1 : Draws prog w A i1 fp1 n1 P1 St1) (D2 : Draws prog w A i2 fp2 n2 P2 St2)
    (hz : IsZipS s.heap z TI TO .none) (hTI : IsTupOf2 s.heap TI (.ref i1) (.ref i2)) (hTO : IsTupOf2 s.heap TO a1 a2) (st1 : St1 n1 s.heap) (st2 : St2 n2 s.heap)
    (hE : ∀ h' tk e, (∀ c o, c ≠ z → c ≠ TO → c ≠ i1 → c ≠ i2 → s.heap.get? c = some o → h'.get? c = some o) → (∃ o, h'.get? e = some o ∧ o.cls = .type "StopIteration") → E (.ref e) { s with heap := h', toks := tk }) :
    wpAny (model prog w) A (Builtin.«zip.__next__» ⟨[.ref z], []⟩) Q E s := by
  obtain ⟨hp, g, d, tk0, os⟩ := s
  show wpAny _ _ (field (.ref z) 2 >>= _) _ _ _
  refine wpAny_bind (wpAny_field hz rfl (x := .bool true) rfl ?_)
  show wpAny _ _ (field (.ref z) 3 >>= _) _ _ _
  refine wpAny_bind (wpAny_field hz rfl (x := .ref TI) rfl ?_)
  refine wpAny_bind (wpAny_seqItems hTI rfl ?_)
  show wpAny _ _ (Builtin.SmallTypes.ownedTupleIsFree (.ref z) >>= _) _ _ _
  refine wpAny_bind ?_
  unfold Builtin.SmallTypes.ownedTupleIsFree
  refine wpAny_bind (wpAny_field hz rfl (x := .none) rfl (wpAny_pure ?_))
  simp only [if_true]
  refine wpAny_bind (wpAny_rule ?_)
  refine wpAny_bind (wpAny_field hz rfl (x := .ref TO) rfl ?_)
  refine wpAny_bind (wpAny_setField_rec hz (by simp) fun g0 hz0 hs0 => ?_)
  replace hz0 : IsZipS g0 z TI TO .ellipsis := hz0
  replace hs0 : Heap.SameBut z hp g0 := hs0
  refine wpAny_bind ?_
  simp only [List.zipIdx_cons, List.zipIdx_nil, List.forIn_cons, List.forIn_nil]
  refine wpAny_bind (wpAny_bind (wpAny_onRaise ?_))
  show wpAny _ _ (Builtin.SmallTypes.nextOrEnd (.ref i1)) _ _ ⟨g0, g, d, tk0, os⟩
  refine orEnd_done (s := ⟨g0, g, d, tk0, os⟩) D1 (D1.over st1 hs0 S.zf1) fun p1 hp1 => ?_
  replace hp1 : Heap.ExtBut i1 g0 p1 := hp1
  have hz1 : IsZipS p1 z TI TO .ellipsis := hp1 _ _ S.zi1 hz0
  refine wpAny_bind (wpAny_setField_rec (s := ⟨p1, g, d, tk0, os⟩) hz1 (by simp) fun g1 hz1' hs1 => ?_)
  replace hs1 : Heap.SameBut z p1 g1 := hs1
  refine wpAny_bind ?_
  show wpAny _ _ (((Builtin.SmallTypes.nextOrEnd (.ref i2) >>= _) >>= _) >>= _) _ _ ⟨g1, g, d, tk0, os⟩
  have st2' : St2 n2 g1 := D2.over (D2.frame _ _ _ (D2.over st2 hs0 S.zf2) fun b hb o e => hp1 b o (fun q => S.sep1_2 (q ▸ hb)) e) hs1 S.zf2
  refine wpAny_bind (wpAny_bind (wpAny_bind (orEnd_done (s := ⟨g1, g, d, tk0, os⟩) D2 st2' fun p2 hp2 => ?_)))
  replace hp2 : Heap.ExtBut i2 g1 p2 := hp2
  simp only [Option.isSome_none, Bool.false_eq_true, if_false]
  refine wpAny_pure (wpAny_pure (wpAny_bind (wpAny_rule ?_)))
  refine stop_raises hh fun h' e hk he => ?_
  exact hE h' tk0 e (fun c o cz cT c1 c2 x => hk _ _ (hp2 _ _ c2 (hs1.extBut _ _ cz (hp1 _ _ c1 (hs0.extBut _ _ cz x))))) he

theorem pyNext_zS_item {Q : Option Value → Shared → Prop} (S : ZipSep2 z TI TO i1 i2 fp1 fp2) (D1 : Draws prog w A.in1 i1 fp1 n1 P1 St1) (D2 : Draws prog w A.in1 i2 fp2 n2 P2 St2)
    (hz : IsZipS s.heap z TI TO .none) (hTI : IsTupOf2 s.heap TI (.ref i1) (.ref i2)) (hTO : IsTupOf2 s.heap TO a1 a2) (st1 : St1 i s.heap) (st2 : St2 i s.heap) (hlt1 : i < n1) (hlt2 : i < n2)
    (hQ : ∀ x1 x2 h' tk, P1 i x1 → P2 i x2 → IsZipS h' z TI TO (rawInt s.heap.objs.size) → IsTupOf2 h' TO x1 x2 → St1 (i + 1) h' → St2 (i + 1) h' → IsTupOf2 h' s.heap.objs.size x1 x2 → h'.objs.size = s.heap.objs.size + 1 →
      (∀ c o, c ≠ z → c ≠ TO → c ≠ i1 → c ≠ i2 → s.heap.get? c = some o → h'.get? c = some o) → Q (some (.ref s.heap.objs.size)) { s with heap := h', toks := tk }) :
    wpAny (model prog w) A (pyNext (.ref z)) Q E s := by
  have hT : s.TypeIs (.ref z) "zip" := ⟨_, hz, rfl⟩
  unfold pyNext
  exact wpAny_bind (wpAny_attempt (wpAny_callSpecial?_slot (name := Str.ofString "__next__") hT F.slot_zip_next
    (wpAny_call_entry F.slot_zip_next hT F.entry_zip_next
      (zS_next_item S D1 D2 hz hTI hTO st1 st2 hlt1 hlt2 fun x1 x2 h' tk y1 y2 b1 b2 d1 d2 b5 b6 b7 => wpAny_pure (hQ x1 x2 h' tk y1 y2 b1 b2 d1 d2 b5 b6 b7)) (F.args_zip_next_1 _))))
theorem pyNext_zS_end {Q : Option Value → Shared → Prop} (hh : A.in1.handled = none) (S : ZipSep2 z TI TO i1 i2 fp1 fp2) (D1 : Draws prog w A.in1 i1 fp1 n1 P1 St1) (D2 : Draws prog w A.in1 i2 fp2 n2 P2 St2)
    (hz : IsZipS s.heap z TI TO .none) (hTI : IsTupOf2 s.heap TI (.ref i1) (.ref i2)) (hTO : IsTupOf2 s.heap TO a1 a2) (st1 : St1 n1 s.heap) (st2 : St2 n2 s.heap)
    (hQ : ∀ h' tk, (∀ c o, c ≠ z → c ≠ TO → c ≠ i1 → c ≠ i2 → s.heap.get? c = some o → h'.get? c = some o) → Q none { s with heap := h', toks := tk }) : wpAny (model prog w) A (pyNext (.ref z)) Q E s := by
  have hT : s.TypeIs (.ref z) "zip" := ⟨_, hz, rfl⟩
  unfold pyNext
  refine wpAny_bind (wpAny_attempt (wpAny_callSpecial?_slot (name := Str.ofString "__next__") hT F.slot_zip_next
    (wpAny_call_entry F.slot_zip_next hT F.entry_zip_next (zS_next_end hh S D1 D2 hz hTI hTO st1 st2 fun h' tk e hk he => ?_) (F.args_zip_next_1 _))))
  obtain ⟨o, ho, hc⟩ := he
  refine wpAny_bind (wpAny_isInstance (T := "StopIteration") (b := true) ⟨o, ho, hc⟩ isSubtype_stop ?_)
  exact wpAny_pure (hQ _ _ hk)
theorem letGo_zS {elts : List Expr} {x1} {pos : Pos} {z TI TO T : Addr} {Q : Unit → Shared → Prop} (hz : IsZipS s.heap z TI TO (rawInt T))
    (hQ : ∀ h', IsZipS h' z TI TO .none → Heap.SameBut z s.heap h' → Q () { s with heap := h' }) :
    wpAny (model prog w) A (letOwnedTupleGo (.Tuple elts x1 pos) (.ref z) (.ref T)) Q E s := by
  unfold letOwnedTupleGo
  refine wpAny_bind (wpAny_load hz ?_)
  show wpAny _ _ (if (["enumerate", "zip", "dict_itemiterator", "dict_reverseitemiterator", "odict_iterator", "itertools.zip_longest", "itertools.pairwise"].contains "zip" &&
      (#[rawInt T, .bool false, .bool true, .ref TI, .ref TO] : Array Value)[0]? == some (rawInt T)) = true then _ else _) Q E s
  rw [if_pos (by simp)]
  refine wpAny_bind (wpAny_rule ?_)
  show wpAny _ _ (setField (.ref z) 0 .none) Q E s
  exact wpAny_setField_rec hz (by simp) fun h' hz' hs' => hQ h' hz' hs'
theorem pyIter_zS {z TI TO : Addr} {f0 : Value} {Q : Value → Shared → Prop} (hz : IsZipS s.heap z TI TO f0) (h : Q (.ref z) s) : wpAny (model prog w) A (pyIter (.ref z)) Q E s := by
  have hT : s.TypeIs (.ref z) "zip" := ⟨_, hz, rfl⟩
  refine wpAny_pyIter_slot hT F.slot_zip_iter (wpAny_call_entry F.slot_zip_iter hT F.entry_zip_iter ?_ (F.args_zip_iter_1 _))
  show wpAny _ _ (ret (.ref z)) _ _ s
  exact wpAny_pure ⟨_, rfl, "zip", _, hT, F.slot_zip_next.lookup, h⟩
end

end DZ
namespace DL
open PySem PySem.Spec PyProof.Rows L2 DZ
local macro_rules | `(tactic| omega) => `(tactic| first | assumption | lia)
/-! ### zip of lists and tuples, in any mix, strict or not -/
def IterAt (b : Bool) (h : Heap) (it a : Addr) (i : Nat) : Prop := match b with | true => h.IsTupleIter it a i | false => h.IsListIter it a i
def SrcAt (b : Bool) (h : Heap) (a : Addr) (items : Array Value) : Prop := match b with | true => h.IsTuple a items | false => h.IsList a items
def iterOf (b : Bool) (a : Addr) : Obj := match b with | true => { cls := .type "tuple_iterator", data := .fields #[.ref a, .int 0 0] } | false => { cls := .type "list_iterator", data := .fields #[.ref a, .int 0 0] }
abbrev ZipAt (st : Bool) (h : Heap) (z TI TO : Addr) (f0 : Value) : Prop :=
  h.get? z = some { cls := .type "zip", dict := none, data := .fields #[f0, .bool false, .bool st, .ref TI, .ref TO], slots := #[] }
theorem draws_src {prog : Program} {w : World} {A : Around} (hh : A.handled = none) (b : Bool) (it a : Addr) (hne : a ≠ it) (items : Array Value) :
    Draws prog w A it [it, a] items.size (fun i v => items[i]? = some v) (fun i h => IterAt b h it a i ∧ SrcAt b h a items) := by
  cases b
  · exact .list hh it a hne items
  · exact .tuple hh it a hne items
theorem begins_src (b : Bool) (a : Addr) (items : Array Value) : Begins (.ref a) (iterOf b a) fun h => SrcAt b h a items := by
  cases b
  · exact begins_list a items
  · exact begins_tuple a items
theorem iterAt_new {b : Bool} {h : Heap} {it a : Addr} (e : h.get? it = some (iterOf b a)) : IterAt b h it a 0 := by
  cases b
  · exact ⟨_, e, rfl, rfl⟩
  · exact ⟨_, e, rfl, rfl⟩
theorem IterAt.live {b : Bool} {h : Heap} {it a : Addr} {i : Nat} (e : IterAt b h it a i) : ∃ o, h.get? it = some o := by
  cases b
  · obtain ⟨o, e, _⟩ := e; exact ⟨o, e⟩
  · obtain ⟨o, e, _⟩ := e; exact ⟨o, e⟩
theorem IterAt.noseq {b : Bool} {h : Heap} {it a : Addr} {i : Nat} (e : IterAt b h it a i) : ∃ o, h.get? it = some o ∧ ∀ v, o.data ≠ .cell v := by
  cases b
  · obtain ⟨o, e, _, d⟩ := e; exact ⟨o, e, fun v q => by rw [d] at q; cases q⟩
  · obtain ⟨o, e, _, d⟩ := e; exact ⟨o, e, fun v q => by rw [d] at q; cases q⟩
theorem IterAt.at {b : Bool} {h h' : Heap} {it a : Addr} {i : Nat} (e : IterAt b h it a i) (k : ∀ o, h.get? it = some o → h'.get? it = some o) : IterAt b h' it a i := by
  cases b
  · exact Heap.IsListIter.at e k
  · exact Heap.IsTupleIter.at e k
theorem inv_src {X : Cx} {pins : List (Addr × Obj)} {σ : L2.St} {H : Hp} {s : Shared} {b : Bool} {a : Addr} {xs : List V} (I : Inv X pins σ H s) (h : Sq b X.K H a xs) : ∃ its : List Value, Vals xs its ∧ SrcAt b s.heap a its.toArray := by
  cases b
  · obtain ⟨its, rv, p, _⟩ := I.list h
    exact ⟨its, rv, p.isList⟩
  · obtain ⟨its, rv, p, _⟩ := I.tuple h
    exact ⟨its, rv, p⟩
theorem inv_src_inj {X : Cx} {pins : List (Addr × Obj)} {σ : L2.St} {H : Hp} {s : Shared} {b : Bool} {a : Addr} {xs ys : List V} (I : Inv X pins σ H s) (h : Sq b X.K H a xs) (h' : Sq b X.K H a ys) : xs = ys := by
  cases b
  · exact I.list_inj h h'
  · exact I.tuple_inj h h'
theorem SrcAt.lt {b : Bool} {h : Heap} {a : Addr} {its : Array Value} (p : SrcAt b h a its) : a < h.objs.size := by
  cases b
  · obtain ⟨o, e, _⟩ := p; exact Heap.lt_size e
  · obtain ⟨o, e, _⟩ := p; exact Heap.lt_size e
theorem zipSep {z TI TO i1 i2 a b : Addr} (D : ZipApart z TI TO i1 i2 a b) : ZipSep2 z TI TO i1 i2 [i1, a] [i2, b] where
  TIz := D.TIz
  TOz := D.TOz
  TITO := D.TITO
  TIi1 := D.TIi1
  mem1 := by simp
  zf1 := by simp [D.i1z.symm, D.l1z.symm]
  Tf1 := by simp [D.TOi1, D.l1TO.symm]
  TIi2 := D.TIi2
  mem2 := by simp
  zf2 := by simp [D.i2z.symm, D.l2z.symm]
  Tf2 := by simp [D.TOi2, D.l2TO.symm]
  sep1_2 := by simp [D.i12, D.l2i1.symm]
  sep2_1 := by simp [D.i12.symm, D.l1i2.symm]
section
variable {prog : Program} {w : World} {A : Around} {E : Value → Shared → Prop} {s : Shared} {z TI TO i1 i2 : Addr} {fp1 fp2 : List Addr} {n1 n2 i : Nat} {P1 P2 : Nat → Value → Prop} {St1 St2 : Nat → Heap → Prop} {a1 a2 : Value}
theorem pyNext_zA_item (st : Bool) {Q : Option Value → Shared → Prop} (S : ZipSep2 z TI TO i1 i2 fp1 fp2) (D1 : Draws prog w A.in1 i1 fp1 n1 P1 St1) (D2 : Draws prog w A.in1 i2 fp2 n2 P2 St2)
    (hz : ZipAt st s.heap z TI TO .none) (hTI : IsTupOf2 s.heap TI (.ref i1) (.ref i2)) (hTO : IsTupOf2 s.heap TO a1 a2) (st1 : St1 i s.heap) (st2 : St2 i s.heap) (hlt1 : i < n1) (hlt2 : i < n2)
    (hQ : ∀ x1 x2 h' tk, P1 i x1 → P2 i x2 → ZipAt st h' z TI TO (rawInt s.heap.objs.size) → IsTupOf2 h' TO x1 x2 → St1 (i + 1) h' → St2 (i + 1) h' → IsTupOf2 h' s.heap.objs.size x1 x2 → h'.objs.size = s.heap.objs.size + 1 →
      (∀ c o, c ≠ z → c ≠ TO → c ≠ i1 → c ≠ i2 → s.heap.get? c = some o → h'.get? c = some o) → Q (some (.ref s.heap.objs.size)) { s with heap := h', toks := tk }) :
    wpAny (model prog w) A (pyNext (.ref z)) Q E s := by
  cases st
  · exact wpAny_pyNext_zipD2_item S D1 D2 hz hTI hTO st1 st2 hlt1 hlt2 hQ
  · exact pyNext_zS_item S D1 D2 hz hTI hTO st1 st2 hlt1 hlt2 hQ
theorem pyNext_zA_end (st : Bool) {Q : Option Value → Shared → Prop} (hh : A.in1.handled = none) (S : ZipSep2 z TI TO i1 i2 fp1 fp2) (D1 : Draws prog w A.in1 i1 fp1 n1 P1 St1) (D2 : Draws prog w A.in1 i2 fp2 n2 P2 St2)
    (hz : ZipAt st s.heap z TI TO .none) (hTI : IsTupOf2 s.heap TI (.ref i1) (.ref i2)) (hTO : IsTupOf2 s.heap TO a1 a2) (st1 : St1 i s.heap) (st2 : St2 i s.heap) (hle1 : i ≤ n1) (hle2 : i ≤ n2) (hend : i = n1 ∨ i = n2) (hst : st = true → i = n1 ∧ i = n2)
    (hQ : ∀ h' tk, (∀ c o, c ≠ z → c ≠ TO → c ≠ i1 → c ≠ i2 → s.heap.get? c = some o → h'.get? c = some o) → Q none { s with heap := h', toks := tk }) : wpAny (model prog w) A (pyNext (.ref z)) Q E s := by
  cases st
  · exact wpAny_pyNext_zipD2_end S D1 D2 hz hTI hTO st1 st2 hle1 hle2 hend hQ
  · obtain ⟨e1, e2⟩ := hst rfl
    exact pyNext_zS_end hh S D1 D2 hz hTI hTO (e1 ▸ st1) (e2 ▸ st2) hQ
theorem letGo_zA (st : Bool) {elts : List Expr} {x1} {pos : Pos} {z TI TO T : Addr} {Q : Unit → Shared → Prop} (hz : ZipAt st s.heap z TI TO (rawInt T))
    (hQ : ∀ h', ZipAt st h' z TI TO .none → Heap.SameBut z s.heap h' → Q () { s with heap := h' }) :
    wpAny (model prog w) A (letOwnedTupleGo (.Tuple elts x1 pos) (.ref z) (.ref T)) Q E s := by
  cases st
  · exact wpAny_letOwnedTupleGo_zip hz hQ
  · exact letGo_zS hz hQ
theorem pyIter_zA (st : Bool) {z TI TO : Addr} {f0 : Value} {Q : Value → Shared → Prop} (hz : ZipAt st s.heap z TI TO f0) (h : Q (.ref z) s) : wpAny (model prog w) A (pyIter (.ref z)) Q E s := by
  cases st
  · exact wpAny_pyIter_zip hz h
  · exact pyIter_zS hz h
end
/-- the lists and tuples at a and b as they stand at each turn, the items in new pairs -/
def ItZ (st b1 b2 : Bool) (K : PySem.W.Frag) (a b : Addr) : It :=
  ⟨fun i H => ∃ (xs ys : List V) (x y : V), Sq b1 K H a xs ∧ Sq b2 K H b ys ∧ xs[i]? = some x ∧ ys[i]? = some y,
    fun i H v H' => ∃ T x y, v = .ref T ∧ H T = none ∧ H' = upd H T (.tup [x, y]) ∧ (∀ xs, Sq b1 K H a xs → xs[i]? = some x) ∧ ∀ ys, Sq b2 K H b ys → ys[i]? = some y,
    fun i H => ∃ xs ys : List V, Sq b1 K H a xs ∧ Sq b2 K H b ys ∧ i ≤ xs.length ∧ i ≤ ys.length ∧ (i = xs.length ∨ i = ys.length) ∧ (st = true → i = xs.length ∧ i = ys.length)⟩
theorem turn_zA {st b1 b2 : Bool} {P : Program} {w : World} {K : PySem.W.Frag} {elts : List Expr} {kk : Nat} {tpos : Pos} {a b z TI TO i1 i2 : Addr} (D : ZipApart z TI TO i1 i2 a b) :
    Turn P w K (.Tuple elts kk tpos) (ItZ st b1 b2 K a b) [z, TI, TO, i1, i2] z (fun i h => ZipAt st h z TI TO .none ∧ IsPair h TI (.ref i1) (.ref i2) ∧ (∃ x y, IsPair h TO x y) ∧ IterAt b1 h i1 a i ∧ IterAt b2 h i2 b i) where
  mem := by simp
  obj := fun i h st c hc => by
    obtain ⟨hz, hTI, ⟨x, y, hTO⟩, h1, h2⟩ := st
    have e' : c = z ∨ c = TI ∨ c = TO ∨ c = i1 ∨ c = i2 := by simpa using hc
    rcases e' with q | q | q | q | q
    · rw [q]; exact ⟨_, hz, fun v q => nomatch q⟩
    · rw [q]; exact ⟨_, hTI, fun v q => nomatch q⟩
    · rw [q]; exact ⟨_, hTO, fun v q => nomatch q⟩
    · rw [q]
      cases b1
      · obtain ⟨o1, e1, _, d1⟩ := h1
        exact ⟨o1, e1, fun v q => by rw [d1] at q; cases q⟩
      · obtain ⟨o1, e1, _, d1⟩ := h1
        exact ⟨o1, e1, fun v q => by rw [d1] at q; cases q⟩
    · rw [q]
      cases b2
      · obtain ⟨o1, e1, _, d1⟩ := h2
        exact ⟨o1, e1, fun v q => by rw [d1] at q; cases q⟩
      · obtain ⟨o1, e1, _, d1⟩ := h2
        exact ⟨o1, e1, fun v q => by rw [d1] at q; cases q⟩
  keep := fun i h h' st k => by
    obtain ⟨hz, hTI, ⟨x, y, hTO⟩, h1, h2⟩ := st
    exact ⟨k z (by simp) _ hz, k TI (by simp) _ hTI, ⟨x, y, k TO (by simp) _ hTO⟩, h1.at fun o q => k i1 (by simp) o q, h2.at fun o q => k i2 (by simp) o q⟩
  item := by
    intro X hP hw hK hc i pins s σ H E I hf hst hg
    subst hP hw hK
    have hh1 : X.A.in1.handled = none := I.ok.hd hc
    obtain ⟨hz, hTI, ⟨x0, y0, hTO⟩, h1, h2⟩ := hst
    obtain ⟨xs, ys, x, y, hqx, hqy, hx, hy⟩ := hg
    obtain ⟨its, rv, p⟩ := inv_src I hqx
    obtain ⟨its2, rv2, p2⟩ := inv_src I hqy
    obtain ⟨u, hu, ru⟩ := rv.get hx
    obtain ⟨u2, hu2, ru2⟩ := rv2.get hy
    have hzl : z < s.heap.objs.size := Heap.lt_size hz
    have l1 : i < its.toArray.size := by
      have := (List.getElem?_eq_some_iff.mp hu).1
      simpa using this
    have l2 : i < its2.toArray.size := by
      have := (List.getElem?_eq_some_iff.mp hu2).1
      simpa using this
    refine pyNext_zA_item st (zipSep D) (draws_src hh1 b1 i1 a D.l1i1 its.toArray) (draws_src hh1 b2 i2 b D.l2i2 its2.toArray) hz hTI hTO ⟨h1, p⟩ ⟨h2, p2⟩ l1 l2 fun w1 w2 h' tk q1 q2 z' TO' h1' h2' hT hsz hk => ?_
    have ew1 : u = w1 := by rw [List.getElem?_toArray, hu] at q1; exact Option.some.inj q1
    have ew2 : u2 = w2 := by rw [List.getElem?_toArray, hu2] at q2; exact Option.some.inj q2
    subst ew1 ew2
    refine ⟨_, rfl, letGo_zA st (s := { s with heap := h', toks := tk }) z' fun h'' z'' sb => ?_⟩
    have hT2 : h''.get? s.heap.objs.size = some { cls := .type "tuple", data := .seq #[u, u2] } := (sb.2 _ (Nat.ne_of_gt hzl)).trans hT
    have new : ObjOk X.prog X.w (upd H s.heap.objs.size (.tup [x, y])) h'' s.heap.objs.size (.tup [x, y]) :=
      ⟨by show 2 ≤ sizeLine; decide, [u, u2], .cons ru (.cons ru2 .nil), ⟨_, hT2, rfl, _, rfl⟩⟩
    have I1 : Inv X pins σ (upd H s.heap.objs.size (.tup [x, y])) { s with heap := h'', toks := tk } :=
      I.turnedNew (t' := tk) (ch := [z, TI, TO, i1, i2]) (fun c o hb q => (sb.2 c (fun q' => hb (by simp [q']))).trans (hk c o (fun q' => hb (by simp [q'])) (fun q' => hb (by simp [q'])) (fun q' => hb (by simp [q'])) (fun q' => hb (by simp [q'])) q)) hf (Nat.le_refl _) new
    refine ⟨.ref s.heap.objs.size, _, I1, rfl, ⟨_, x, y, rfl, I.hok.fresh (Nat.le_refl _), rfl, fun l hl => by rw [inv_src_inj I hl hqx]; exact hx, fun l hl => by rw [inv_src_inj I hl hqy]; exact hy⟩, ⟨z'', ?_, ⟨u, u2, ?_⟩, ?_, ?_⟩, fun c hcm => ?_⟩
    · exact (sb.2 _ D.TIz).trans (hk _ _ D.TIz D.TITO D.TIi1 D.TIi2 hTI)
    · exact (sb.2 _ D.TOz).trans TO'
    · exact h1'.1.at fun o q => (sb.2 _ D.i1z).trans q
    · exact h2'.1.at fun o q => (sb.2 _ D.i2z).trans q
    · have hlt : c < s.heap.objs.size := by
        have e' : c = z ∨ c = TI ∨ c = TO ∨ c = i1 ∨ c = i2 := by simpa using hcm
        rcases e' with q | q | q | q | q
        · rw [q]; exact hzl
        · rw [q]; exact Heap.lt_size hTI
        · rw [q]; exact Heap.lt_size hTO
        · rw [q]; obtain ⟨_, e1⟩ := h1.live; exact Heap.lt_size e1
        · rw [q]; obtain ⟨_, e2⟩ := h2.live; exact Heap.lt_size e2
      rw [upd_ne (Nat.ne_of_lt hlt)]
      exact (hf c hcm).1
  done := by
    intro X hP hw hK hc i pins s σ H E I hf hst hg
    subst hP hw hK
    have hh1 : X.A.in1.handled = none := I.ok.hd hc
    obtain ⟨hz, hTI, ⟨x0, y0, hTO⟩, h1, h2⟩ := hst
    obtain ⟨xs, ys, hqx, hqy, hle1, hle2, hend, hs⟩ := hg
    obtain ⟨its, rv, p⟩ := inv_src I hqx
    obtain ⟨its2, rv2, p2⟩ := inv_src I hqy
    have l1 := rv.length
    have l2 := rv2.length
    refine pyNext_zA_end st hh1 (zipSep D) (draws_src hh1 b1 i1 a D.l1i1 its.toArray) (draws_src hh1 b2 i2 b D.l2i2 its2.toArray) hz hTI hTO ⟨h1, p⟩ ⟨h2, p2⟩ (by simp; omega) (by simp; omega) (by simp; omega) (fun e => by have := hs e; simp; omega) fun h' tk hk => ⟨rfl, I.turnedL (t' := tk) (ch := [z, TI, TO, i1, i2]) (fun c o hb q =>
      hk c o (fun q' => hb (by simp [q'])) (fun q' => hb (by simp [q'])) (fun q' => hb (by simp [q'])) (fun q' => hb (by simp [q'])) q) hf⟩
  self := fun A i s Q E st' h => pyIter_zA st st'.1 h
end DL
namespace DZ
open PySem PySem.Spec PyProof.Rows L2
local macro_rules | `(tactic| omega) => `(tactic| first | assumption | lia)
section
variable {prog : Program} {w : World} {A : Around} {E : Value → Shared → Prop} {s : Shared}
end
section
variable {M : Model} {A : Around} {E : Value → Shared → Prop} {s : Shared} {env : Env}
end
end DZ
namespace DL
open PySem PySem.Spec PyProof.Rows L2 DZ
local macro_rules | `(tactic| omega) => `(tactic| first | assumption | lia)
def iZA (st : Bool) (K : PySem.W.Frag) (ta : TA) : TI := fun σ H R => ta σ H fun vs H1 => ∃ b1 b2 a b xs ys, vs = [.ref a, .ref b] ∧ Sq b1 K H1 a xs ∧ Sq b2 K H1 b ys ∧ R (ItZ st b1 b2 K a b) H1
section
variable {X : Cx} {e e2 k : Expr} {ta : TA} {p pos tpos kpos : Pos} {elts : List Expr} {kk : Nat}
theorem zA_of {st b1 b2 : Bool} {pins : List (Addr × Obj)} {σ : L2.St} {H1 : Hp} {s1 : Shared} {a b : Addr} {R : It → Hp → Prop} {h' : Heap} {its its2 : Array Value} (I1 : Inv X pins σ H1 s1) (p1 : SrcAt b1 s1.heap a its) (p2 : SrcAt b2 s1.heap b its2) (q : R (ItZ st b1 b2 X.K a b) H1)
    (hz : ZipAt st h' (s1.heap.objs.size + 4) (s1.heap.objs.size + 2) (s1.heap.objs.size + 3) .none) (hTI : IsTupOf2 h' (s1.heap.objs.size + 2) (.ref s1.heap.objs.size) (.ref (s1.heap.objs.size + 1))) (hTO : IsTupOf2 h' (s1.heap.objs.size + 3) .none .none)
    (g1 : h'.get? s1.heap.objs.size = some (iterOf b1 a)) (g2 : h'.get? (s1.heap.objs.size + 1) = some (iterOf b2 b)) (hk : ∀ c o, s1.heap.get? c = some o → h'.get? c = some o) :
    PIE X pins σ (.Tuple elts kk tpos) R (.ref (s1.heap.objs.size + 4)) { s1 with heap := h' } := by
  have I2 : Inv X pins σ H1 { s1 with heap := h' } := I1.kept (t' := s1.toks) hk
  have fresh5 : ∀ c, c ∈ [s1.heap.objs.size + 4, s1.heap.objs.size + 2, s1.heap.objs.size + 3, s1.heap.objs.size, s1.heap.objs.size + 1] → FpOk X pins H1 c := fun c hcm => by
    have e' : c = s1.heap.objs.size + 4 ∨ c = s1.heap.objs.size + 2 ∨ c = s1.heap.objs.size + 3 ∨ c = s1.heap.objs.size ∨ c = s1.heap.objs.size + 1 := by simpa using hcm
    have hle : s1.heap.objs.size ≤ c := by
      rcases e' with z | z | z | z | z
      · rw [z]; exact Nat.le_add_right _ _
      · rw [z]; exact Nat.le_add_right _ _
      · rw [z]; exact Nat.le_add_right _ _
      · rw [z]; exact Nat.le_refl _
      · rw [z]; exact Nat.le_add_right _ _
    exact I1.fpOk hle (I1.hok.fresh hle)
  exact ⟨s1.heap.objs.size + 4, [s1.heap.objs.size + 4, s1.heap.objs.size + 2, s1.heap.objs.size + 3, s1.heap.objs.size, s1.heap.objs.size + 1], _, _, H1, rfl, I2, turn_zA (PySem.W.ktu_apart s1.heap.objs.size a b p1.lt p2.lt), ⟨hz, hTI, ⟨_, _, hTO⟩, iterAt_new g1, iterAt_new g2⟩, fresh5, q⟩
theorem pi_zA0 (hg : Gl X "zip") (hm : X.mg "zip" = none) (ha : PA X [e, e2] ta)
    (hs : starEach [e, e2] X.env = (false, eval e X.env) :: starEach [e2] X.env := by rfl) (hpl : (backTo pos (starEach [e2] X.env)).any (·.1) = false := by rfl) :
    PI X (.Tuple elts kk tpos) (.Call (.Name "zip" p) [e, e2] [] pos) (iZA false X.K ta) := by
  refine ⟨fun pins s σ H R I h => ?_⟩
  refine Call_ (ld_blt I hg hm PyProof.Rows.boot_zip (PyProof.Rows.callWith_type1 (thn (ha.run pos pins s σ H _ I h) fun us s1 ⟨vs, H1, I1, r1, q1⟩ => ?_) hs hpl))
  obtain ⟨b1, b2, a, b, xs, ys, ex, hqx, hqy, q⟩ := q1
  subst ex
  cases r1 with
  | cons r rr =>
    cases rr with
    | cons r' rr =>
      cases rr
      cases r
      cases r'
      obtain ⟨its, rv, p1⟩ := inv_src I1 hqx
      obtain ⟨its2, rv2, p2⟩ := inv_src I1 hqy
      exact zip_begins2 (begins_src b1 a its.toArray) (begins_src b2 b its2.toArray) p1 p2 fun h' hz hTI hTO g1 g2 hsz hk => pyIter_zA false hz (zA_of I1 p1 p2 q hz hTI hTO g1 g2 hk)
end
/-! ### enumerate -/
theorem meets_enum1 {v : Value} {o : Obj} {H : Heap → Prop} (B : Begins v o H) :
    Meets (Builtin.«enumerate.__new__» ⟨[.type "enumerate", v], []⟩) (fun _ R s => H s.heap ∧
      R (.ok (.ret (.ref (s.heap.push o).objs.size))) { s with heap := (s.heap.push o).push { cls := .type "enumerate", data := .fields #[.none, .bool false, .ref s.heap.objs.size, rawInt 0, .none, .none] } }) :=
  .of_wp fun prog w A R s h => by
    obtain ⟨hp, g, d, tk, os⟩ := s; obtain ⟨h1, h⟩ := h
    have hsub := sub_enumerate
    have q1 : ∀ {A' : Around} {E : Value → Shared → Prop} {Q : Value → Shared → Prop}, Q (.ref hp.objs.size) ⟨hp.push o, g, d, tk, os⟩ → wpAny (model prog w) A' (pyIter v) Q E ⟨hp, g, d, tk, os⟩ :=
      fun q => B.iter prog w _ _ ⟨hp, g, d, tk, os⟩ _ h1 q
    wp_walk using q1
    refine wpAny_stack_any fun st => wpAny_pure ?_
    split
    · rename_i c _ _ _ _ _
      cases (c == Value.type "enumerate")
      · wp_walk using q1
        exact ⟨_, rfl, h⟩
      · wp_walk using q1
        exact ⟨_, rfl, h⟩
    · wp_walk using q1
      exact ⟨_, rfl, h⟩
theorem enum_begins1 {prog : Program} {w : World} {A : Around} {E : Value → Shared → Prop} {s : Shared} {v : Value} {o : Obj} {H : Heap → Prop} {Q : Value → Shared → Prop} (B : Begins v o H) (h1 : H s.heap)
    (h : ∀ h', IsEnum h' (s.heap.objs.size + 1) s.heap.objs.size 0 .none → h'.get? s.heap.objs.size = some o → h'.objs.size = s.heap.objs.size + 2 →
      (∀ b o, s.heap.get? b = some o → h'.get? b = some o) → Q (.ref (s.heap.objs.size + 1)) { s with heap := h' }) :
    wpAny (model prog w) A (call (.type "enumerate") [v]) Q E s := by
  refine callType_new F.called_enumerate (by decide) (F.typeCall_enumerate_1 _) (F.newCall_enumerate_1 _) (fun obj => F.args_object_init_2 obj _) F.entry_enumerate_new
    (meets_enum1 B) ⟨h1, ?_⟩
  have hz : (s.heap.push o).objs.size = s.heap.objs.size + 1 := Heap.size_push ..
  show _ ∧ _
  rw [hz]
  have he : IsEnum ((s.heap.push o).push { cls := .type "enumerate", data := .fields #[.none, .bool false, .ref s.heap.objs.size, rawInt 0, .none, .none] }) (s.heap.objs.size + 1) s.heap.objs.size 0 .none := by
    have := Heap.get?_push_size (s.heap.push o) (o := { cls := .type "enumerate", data := .fields #[.none, .bool false, .ref s.heap.objs.size, rawInt 0, .none, .none] }) rfl
    rw [hz] at this; exact this
  refine ⟨⟨_, he, rfl⟩, h _ he (Heap.get?_push_of_some _ (Heap.get?_push_size _ B.free)) (by rw [Heap.size_push, hz]) fun b o x => Heap.get?_push_of_some _ (Heap.get?_push_of_some _ x)⟩
/-- the list or tuple at a as it stands at each turn, counted from k -/
def ItE (b : Bool) (K : PySem.W.Frag) (k : Int) (a : Addr) : It :=
  ⟨fun i H => ∃ (xs : List V) (x : V), Sq b K H a xs ∧ xs[i]? = some x,
    fun i H v H' => ∃ T x, v = .ref T ∧ H T = none ∧ H' = upd H T (.tup [.int (k + (i : Int)), x]) ∧ ∀ xs, Sq b K H a xs → xs[i]? = some x,
    fun i H => ∃ xs : List V, Sq b K H a xs ∧ i = xs.length⟩
theorem turn_enA {b : Bool} {k : Int} {P : Program} {w : World} {K : PySem.W.Frag} {elts : List Expr} {kk : Nat} {tpos : Pos} {a e it : Addr} (hei : e ≠ it) (hae : a ≠ e) (hai : a ≠ it) :
    Turn P w K (.Tuple elts kk tpos) (ItE b K k a) [e, it] e (fun i h => (∃ old, IsEnum h e it (k + (i : Int)) old) ∧ IterAt b h it a i) where
  mem := by simp
  obj := fun i h st c hc => by
    obtain ⟨⟨old, he⟩, h1⟩ := st
    have e' : c = e ∨ c = it := by simpa using hc
    rcases e' with q | q
    · rw [q]; exact ⟨_, he, fun v q => nomatch q⟩
    · rw [q]; exact h1.noseq
  keep := fun i h h' st k => by
    obtain ⟨⟨old, he⟩, h1⟩ := st
    exact ⟨⟨old, k e (by simp) _ he⟩, h1.at fun o q => k it (by simp) o q⟩
  item := by
    intro X hP hw hK hc i pins s σ H E I hf st hg
    subst hP hw hK
    have hh1 : X.A.in1.handled = none := I.ok.hd hc
    obtain ⟨⟨old, he⟩, h1⟩ := st
    obtain ⟨xs, x, hq, hx⟩ := hg
    obtain ⟨its, rv, p⟩ := inv_src I hq
    obtain ⟨u, hu, ru⟩ := rv.get hx
    have hel : e < s.heap.objs.size := Heap.lt_size he
    have l1 : i < its.toArray.size := by
      have := (List.getElem?_eq_some_iff.mp hu).1
      simpa using this
    refine wpAny_pyNext_enum_itemC (draws_src hh1 b it a hai its.toArray) he ⟨h1, p⟩ l1 hei (by simp [hei, hae.symm]) fun w1 h' tk q1 ho h1' hT hsz hk => ?_
    have ew1 : u = w1 := by rw [List.getElem?_toArray, hu] at q1; exact Option.some.inj q1
    subst ew1
    refine ⟨_, rfl, wpAny_letOwnedTupleGo_enum (s := { s with heap := h', toks := tk + 1 }) ho fun h'' he' sb => ?_⟩
    have hT2 : h''.get? s.heap.objs.size = some { cls := .type "tuple", data := .seq #[.int (k + (i : Int)) tk, u] } := (sb.2 _ (Nat.ne_of_gt hel)).trans hT
    have new : ObjOk X.prog X.w (upd H s.heap.objs.size (.tup [.int (k + (i : Int)), x])) h'' s.heap.objs.size (.tup [.int (k + (i : Int)), x]) :=
      ⟨by show 2 ≤ sizeLine; decide, [.int (k + (i : Int)) tk, u], .cons ⟨_, rfl⟩ (.cons ru .nil), ⟨_, hT2, rfl, _, rfl⟩⟩
    have I1 : Inv X pins σ (upd H s.heap.objs.size (.tup [.int (k + (i : Int)), x])) { s with heap := h'', toks := tk + 1 } :=
      I.turnedNew (ch := [e, it]) (fun c o hb q => (sb.2 c (fun z => hb (by simp [z]))).trans (hk c o (fun z => hb (by simp [z])) (fun z => hb (by simp [z])) q)) hf (Nat.le_refl _) new
    refine ⟨.ref s.heap.objs.size, _, I1, rfl, ⟨_, x, rfl, I.hok.fresh (Nat.le_refl _), rfl, fun ys hy => by rw [inv_src_inj I hy hq]; exact hx⟩, ⟨⟨u, ?_⟩, h1'.1.at fun o q => (sb.2 it (Ne.symm hei)).trans q⟩, fun c hb => ?_⟩
    · have e1 : k + ((i + 1 : Nat) : Int) = k + (i : Int) + 1 := by omega
      rw [e1]; exact he'
    · have hb' : c < s.heap.objs.size := by
        have e' : c = e ∨ c = it := by simpa using hb
        rcases e' with z | z
        · rw [z]; exact hel
        · rw [z]; obtain ⟨_, e1⟩ := h1.live; exact Heap.lt_size e1
      rw [upd_ne (Nat.ne_of_lt hb')]
      exact (hf c hb).1
  done := by
    intro X hP hw hK hc i pins s σ H E I hf st hg
    subst hP hw hK
    have hh1 : X.A.in1.handled = none := I.ok.hd hc
    obtain ⟨⟨old, he⟩, h1⟩ := st
    obtain ⟨xs, hq, hx⟩ := hg
    obtain ⟨its, rv, p⟩ := inv_src I hq
    obtain ⟨f0, f1, f2, f3, f4, f5⟩ := hf it (by simp)
    have hl : i = its.toArray.size := by have := rv.length; simp; omega
    subst hl
    exact wpAny_pyNext_enum_endD (draws_src hh1 b it a hai its.toArray) he ⟨h1, p⟩ fun h' eb => ⟨rfl, I.turned (t' := s.toks) (fun c o hb q => eb c o hb q) f0 f1 f3 f4 f5⟩
  self := fun A i s Q E st h => let ⟨⟨_, he⟩, _⟩ := st; wpAny_pyIter_enum he h
def iEA (K : PySem.W.Frag) (ta : TA) : TI := fun σ H R => ta σ H fun vs H1 => ∃ b a xs, vs = [.ref a] ∧ Sq b K H1 a xs ∧ R (ItE b K 0 a) H1
section
variable {X : Cx} {e e2 k : Expr} {ta : TA} {p pos tpos kpos : Pos} {elts : List Expr} {kk : Nat}
theorem eA_of {b : Bool} {k : Int} {pins : List (Addr × Obj)} {σ : L2.St} {H1 : Hp} {s1 : Shared} {a : Addr} {R : It → Hp → Prop} {h' : Heap} {its : Array Value} (I1 : Inv X pins σ H1 s1) (p1 : SrcAt b s1.heap a its) (q : R (ItE b X.K k a) H1)
    (he : IsEnum h' (s1.heap.objs.size + 1) s1.heap.objs.size k .none) (g1 : h'.get? s1.heap.objs.size = some (iterOf b a)) (hk : ∀ c o, s1.heap.get? c = some o → h'.get? c = some o) :
    PIE X pins σ (.Tuple elts kk tpos) R (.ref (s1.heap.objs.size + 1)) { s1 with heap := h' } := by
  have I2 : Inv X pins σ H1 { s1 with heap := h' } := I1.kept (t' := s1.toks) hk
  have lt := p1.lt
  refine ⟨s1.heap.objs.size + 1, [s1.heap.objs.size + 1, s1.heap.objs.size], _, _, H1, rfl, I2, turn_enA (Nat.succ_ne_self _) (Nat.ne_of_lt (Nat.lt_succ_of_lt lt)) (Nat.ne_of_lt lt), ⟨⟨.none, ?_⟩, iterAt_new g1⟩, fun c hb => ?_, q⟩
  · have e1 : k + ((0 : Nat) : Int) = k := by omega
    rw [e1]; exact he
  · have e' : c = s1.heap.objs.size + 1 ∨ c = s1.heap.objs.size := by simpa using hb
    have hle : s1.heap.objs.size ≤ c := by
      rcases e' with z | z
      · rw [z]; exact Nat.le_add_right _ _
      · rw [z]; exact Nat.le_refl _
    exact I1.fpOk hle (I1.hok.fresh hle)
theorem pi_eA (hg : Gl X "enumerate") (hm : X.mg "enumerate" = none) (ha : PA X [e] ta) (hs : starEach [e] X.env = [(false, eval e X.env)] := by rfl) :
    PI X (.Tuple elts kk tpos) (.Call (.Name "enumerate" p) [e] [] pos) (iEA X.K ta) := by
  refine ⟨fun pins s σ H R I h => ?_⟩
  refine Call_ (ld_blt I hg hm boot_enumerate (PyProof.Rows.callWith_type1 (thn (ha.run pos pins s σ H _ I h) fun us s1 ⟨vs, H1, I1, r1, q1⟩ => ?_) hs rfl))
  obtain ⟨b, a, xs, ex, hq, q⟩ := q1
  subst ex
  cases r1 with
  | cons r rr =>
    cases rr
    cases r
    obtain ⟨its, rv, p1⟩ := inv_src I1 hq
    exact enum_begins1 (begins_src b a its.toArray) p1 fun h' he g1 hsz hk => wpAny_pyIter_enum he (eA_of I1 p1 q he g1 hk)
end
/-! ### the same over data -/
def enumD (k : Int) (ds : List D) : List D := ds.mapIdx fun i d => .tup [.int (k + (i : Int)), d]
theorem enumD_len (k : Int) (ds : List D) : (enumD k ds).length = ds.length := by simp [enumD]
theorem enumD_get {k : Int} {ds : List D} {i : Nat} {d : D} (h : (enumD k ds)[i]? = some d) : ∃ x, ds[i]? = some x ∧ d = .tup [.int (k + (i : Int)), x] := by
  unfold enumD at h
  rw [List.getElem?_mapIdx] at h
  cases e : ds[i]? with
  | none => rw [e] at h; cases h
  | some x => rw [e] at h; cases h; exact ⟨x, rfl, rfl⟩
theorem ite_ok {b : Bool} {k : Int} {K : PySem.W.Frag} {I : Hp} {a : Addr} {ds : List D} {pin : Option (Store → Prop)} (hs : ∀ I2 S F H, Same I I2 → Ok K I2 S F H → PinOk pin S → ∃ xs, Sq b K H a xs ∧ RepL K I2 ds xs) : ItOk K I (ItE b K k a) (enumD k ds) pin where
  go I2 S F H e ok pk i d hd := by
    obtain ⟨xs, h2, rl⟩ := hs I2 S F H e ok pk
    obtain ⟨x, ex, rfl⟩ := enumD_get hd
    obtain ⟨v, e1, r1⟩ := rl.get ex
    refine ⟨⟨xs, v, h2, e1⟩, fun z H' hy => ?_⟩
    obtain ⟨T, x0, rfl, nT, rfl, hy⟩ := hy
    have := hy xs h2
    rw [e1] at this
    cases this
    exact ⟨upd I2 T (.tup [.int (k + (i : Int)), v]), same_new (ok.freshI nT), ok.newI nT, rep_tup2 (ok.freshI nT) rep_int r1⟩
  stop I2 S F H e ok pk i hi := by
    obtain ⟨xs, h2, rl⟩ := hs I2 S F H e ok pk
    exact ⟨xs, h2, by rw [rl.len]; rw [enumD_len] at hi; exact hi⟩
def dEnum (a : DA) : DI := fun ρ S P => a ρ S fun xs S1 => match xs with
  | [x] => match seqOf S1 x with
    | some ds => P (enumD 0 ds) (pinOf S1 x) S1
    | none => False
  | _ => False
def dEnum2 (a : DA) : DI := fun ρ S P => a ρ S fun xs S1 => match xs with
  | [x, .int k] => match seqOf S1 x with
    | some ds => (-(2 ^ 63) ≤ k ∧ k < 2 ^ 63) ∧ P (enumD k ds) (pinOf S1 x) S1
    | none => False
  | _ => False
theorem zipD_get {as bs : List D} {i : Nat} {d : D} (h : (zipD as bs)[i]? = some d) : ∃ x y, as[i]? = some x ∧ bs[i]? = some y ∧ d = .tup [x, y] := by
  unfold zipD at h
  rw [List.getElem?_zipWith] at h
  cases e1 : as[i]? with
  | none => simp [e1] at h
  | some x =>
    cases e2 : bs[i]? with
    | none => simp [e1, e2] at h
    | some y =>
      simp only [e1, e2, Option.some.injEq] at h
      exact ⟨x, y, rfl, rfl, h.symm⟩
/-- both stay -/
def pin2 : Option (Store → Prop) → Option (Store → Prop) → Option (Store → Prop)
  | none, q => q
  | p, none => p
  | some p, some q => some fun S => p S ∧ q S
theorem pin2_ok {p q : Option (Store → Prop)} {S : Store} (h : PinOk (pin2 p q) S) : PinOk p S ∧ PinOk q S := by
  cases p with
  | none => exact ⟨trivial, h⟩
  | some p =>
    cases q with
    | none => exact ⟨h, trivial⟩
    | some q => exact h
theorem itz_ok {st : Bool} {K : PySem.W.Frag} {I : Hp} {b1 b2 : Bool} {a b : Addr} {as bs : List D} {p1 p2 : Option (Store → Prop)} (h1 : ∀ I2 S F H, Same I I2 → Ok K I2 S F H → PinOk p1 S → ∃ xs, Sq b1 K H a xs ∧ RepL K I2 as xs) (h2 : ∀ I2 S F H, Same I I2 → Ok K I2 S F H → PinOk p2 S → ∃ ys, Sq b2 K H b ys ∧ RepL K I2 bs ys)
    (hst : st = true → as.length = bs.length) : ItOk K I (ItZ st b1 b2 K a b) (zipD as bs) (pin2 p1 p2) where
  go I2 S F H e ok pk i d hd := by
    obtain ⟨x, y, ex, ey, rfl⟩ := zipD_get hd
    obtain ⟨xs, q1, r1⟩ := h1 I2 S F H e ok (pin2_ok pk).1
    obtain ⟨ys, q2, r2⟩ := h2 I2 S F H e ok (pin2_ok pk).2
    obtain ⟨v, ev, rv⟩ := r1.get ex
    obtain ⟨u, eu, ru⟩ := r2.get ey
    refine ⟨⟨xs, ys, v, u, q1, q2, ev, eu⟩, fun z H' hy => ?_⟩
    obtain ⟨T, x0, y0, rfl, nT, rfl, f1, f2⟩ := hy
    have e1 := f1 xs q1
    have e2 := f2 ys q2
    rw [ev] at e1; rw [eu] at e2
    cases e1; cases e2
    exact ⟨upd I2 T (.tup [v, u]), same_new (ok.freshI nT), ok.newI nT, rep_tup2 (ok.freshI nT) rv ru⟩
  stop I2 S F H e ok pk i hi := by
    obtain ⟨xs, q1, r1⟩ := h1 I2 S F H e ok (pin2_ok pk).1
    obtain ⟨ys, q2, r2⟩ := h2 I2 S F H e ok (pin2_ok pk).2
    have l1 := r1.len
    have l2 := r2.len
    simp only [zipD, List.length_zipWith] at hi
    exact ⟨xs, ys, q1, q2, by omega, by omega, by omega, fun q => by have := hst q; omega⟩
def dZip (a : DA) : DI := fun ρ S P => a ρ S fun xs S1 => match xs with
  | [x, y] => match seqOf S1 x, seqOf S1 y with
    | some as, some bs => P (zipD as bs) (pin2 (pinOf S1 x) (pinOf S1 y)) S1
    | _, _ => False
  | _ => False
def dZipS (a : DA) : DI := fun ρ S P => a ρ S fun xs S1 => match xs with
  | [x, y] => match seqOf S1 x, seqOf S1 y with
    | some as, some bs => as.length = bs.length ∧ P (zipD as bs) (pin2 (pinOf S1 x) (pinOf S1 y)) S1
    | _, _ => False
  | _ => False
section
variable {X : Cx} {e e2 : Expr} {ds : DA} {p pos tpos kpos cpos : Pos} {elts : List Expr} {kk ck : Nat}
theorem ji_zip (hm : X.mg "zip" = none) (ha : JA X [e, e2] ds) (hg : Gl X "zip" := by rfl) (hs : starEach [e, e2] X.env = (false, eval e X.env) :: starEach [e2] X.env := by rfl) (hpl : (backTo pos (starEach [e2] X.env)).any (·.1) = false := by rfl) :
    JI X (.Tuple elts kk tpos) (.Call (.Name "zip" p) [e, e2] [] pos) (dZip ds) :=
  ji_of (pi_zA0 hg hm ha hs hpl) fun σ H R h0_ => El54 h0_ fun ρ I S F P rs ok hh q => ⟨ρ, I, S, F, _, rs, ok, hh, fun xs S1 v I1 H1 h1 e1 ok1 r1 => by
    split at h1
    · rename_i x y
      obtain ⟨v, u, rfl, rv, ru⟩ := r1.inv2
      split at h1
      · rename_i as bs e3 e4
        obtain ⟨b1, a, rfl, hs1⟩ := src_sq ok1 rv e3
        obtain ⟨b2, b, rfl, hs2⟩ := src_sq ok1 ru e4
        obtain ⟨xs, q1, _⟩ := hs1 _ _ _ _ (Same.refl _) ok1 (pin_self _ _)
        obtain ⟨ys, q2, _⟩ := hs2 _ _ _ _ (Same.refl _) ok1 (pin_self _ _)
        exact ⟨b1, b2, a, b, xs, ys, rfl, q1, q2, q _ _ _ _ _ _ h1 e1 ok1 (itz_ok hs1 hs2 (fun e => nomatch e))⟩
      · exact h1.elim
    · exact h1.elim⟩
theorem ji_enum (hm : X.mg "enumerate" = none) (ha : JA X [e] ds) (hg : Gl X "enumerate" := by rfl) (hs : starEach [e] X.env = [(false, eval e X.env)] := by rfl) : JI X (.Tuple elts kk tpos) (.Call (.Name "enumerate" p) [e] [] pos) (dEnum ds) :=
  ji_of (pi_eA hg hm ha hs) fun σ H R h0_ => El54 h0_ fun ρ I S F P rs ok hh q => ⟨ρ, I, S, F, _, rs, ok, hh, fun xs S1 v I1 H1 h1 e1 ok1 r1 => by
    split at h1
    · rename_i x
      obtain ⟨v, rfl, rv⟩ := r1.inv1
      split at h1
      · rename_i ds e3
        obtain ⟨b, a, rfl, hs1⟩ := src_sq ok1 rv e3
        obtain ⟨xs, q1, _⟩ := hs1 _ _ _ _ (Same.refl _) ok1 (pin_self _ _)
        exact ⟨b, a, xs, rfl, q1, q _ _ _ _ _ _ h1 e1 ok1 (ite_ok hs1)⟩
      · exact h1.elim
    · exact h1.elim⟩
end
end DL

namespace DL
open PySem PySem.Spec PyProof.Rows L2
local macro_rules | `(tactic| omega) => `(tactic| first | assumption | lia)

/-! ### is True, is False -/
def dIsB : D2 := fun x y S P => match x, y with
  | .bl a, .bl b => P (.bl (decide (a = b))) S
  | _, _ => False
def dNotB : D2 := fun x y S P => match x, y with
  | .bl a, .bl b => P (.bl (!decide (a = b))) S
  | _, _ => False
theorem i_notB {K : PySem.W.Frag} : Imp2 K rNotB dNotB := by
  intro x y v w I S F H P Q ok rx ry h q
  unfold dNotB at h
  split at h
  · cases rx.bl_of; cases ry.bl_of
    exact ⟨_, _, rfl, rfl, q _ _ _ _ _ h (Same.refl I) ok rep_bl⟩
  · exact h.elim
section
variable {X : Cx} {pos p : Pos} {a b : Expr} {da db : DE} {x : Str}
theorem jt_notB (ha : JE X a da) (hb : JE X b db) : JT X (.Compare a [.IsNot] [b] pos) (dTest (dOp dNotB da db)) := jt_cmp op_notBl i_notB ha hb (nomark _)
/-! ### a module's constants -/
theorem je_globC {v : V} {u : Value} {d : D} (hm : X.mg x = some u) (r : RelV v u) (hd : ∀ I, Rep X.K I d v) (hg : Gl X x := by rfl) (hdb : (x == ("__debug__" : Str)) = false := by decide) : JE X (.Name x p) (dC d) :=
  je_of (pe_glob hg hm r hdb) fun σ H Q h0_ => El54 h0_ fun ρ I S F P rs ok h q => q _ _ _ _ _ h (Same.refl I) ok (hd I)
theorem je_cI {i : Int} (h : ∃ t, X.mg x = some (.int i t)) (hg : Gl X x := by rfl) (hdb : (x == ("__debug__" : Str)) = false := by decide) : JE X (.Name x p) (dC (.int i)) := by
  obtain ⟨t, h⟩ := h
  exact je_globC (v := .int i) h ⟨t, rfl⟩ (fun I => rep_int) hg hdb
end

/-! ### repr -/
mutual
def pyD : D → Option PyData
  | .non => some .none
  | .bl b => some (.bool b)
  | .int i => some (.int i)
  | .str x => some (.str x)
  | .lst ds => (pyDL ds).map .list
  | .ext ds => (pyDL ds).map .list
  | .tup ds => (pyDL ds).map .tuple
  | .ty _ => none
  | .obj _ => none
def pyDL : List D → Option (List PyData)
  | [] => some []
  | d :: ds => (pyD d).bind fun p => (pyDL ds).map (p :: ·)
end
section
variable {X : Cx} {pins : List (Addr × Obj)} {σ : L2.St} {H I F : Hp} {s : Shared} {S : Store}
mutual
theorem reads_of (J : Inv X pins σ H s) (ok : Ok X.K I S F H) : ∀ (x : D) (v : V) (u : Value) (p : PyData), Rep X.K I x v → RelV v u → pyD x = some p → ∃ as, Reads s.heap u p as
  | .non, v, u, p, r, rv, h => by
    simp only [pyD, Option.some.injEq] at h; subst h
    cases r.non_of; cases (show u = Value.none from rv)
    exact ⟨_, .none⟩
  | .bl b, v, u, p, r, rv, h => by
    simp only [pyD, Option.some.injEq] at h; subst h
    cases r.bl_of; cases (show u = Value.bool b from rv)
    exact ⟨_, .bool b⟩
  | .int i, v, u, p, r, rv, h => by
    simp only [pyD, Option.some.injEq] at h; subst h
    cases r.int_of; obtain ⟨t, rfl⟩ := rv
    exact ⟨_, .int i t⟩
  | .str z, v, u, p, r, rv, h => by
    simp only [pyD, Option.some.injEq] at h; subst h
    cases r.str_of; obtain ⟨t, rfl⟩ := rv
    exact ⟨_, .str z t⟩
  | .lst ds, v, u, p, r, rv, h => by
    simp only [pyD, Option.map_eq_some_iff] at h
    obtain ⟨ps, h, rfl⟩ := h
    obtain ⟨a, xs, rfl, e, rl⟩ := r.lst_of
    cases rv
    obtain ⟨its, q, ⟨o, n, e1, e2, _, e3⟩, _⟩ := J.list (.of (ok.i _ _ e))
    obtain ⟨as, ra⟩ := reads_ofL J ok ds xs its ps rl q h
    exact ⟨_, .list e1 e2 e3 (by simpa using ra)⟩
  | .ext ds, v, u, p, r, rv, h => by
    simp only [pyD, Option.map_eq_some_iff] at h
    obtain ⟨ps, h, rfl⟩ := h
    obtain ⟨a, xs, rfl, e, rl⟩ := r.ext_of
    cases rv
    obtain ⟨its, q, ⟨o, n, e1, e2, _, e3⟩, _⟩ := J.list (ok.same.seq e)
    obtain ⟨as, ra⟩ := reads_ofL J ok ds xs its ps rl q h
    exact ⟨_, .list e1 e2 e3 (by simpa using ra)⟩
  | .tup ds, v, u, p, r, rv, h => by
    simp only [pyD, Option.map_eq_some_iff] at h
    obtain ⟨ps, h, rfl⟩ := h
    obtain ⟨a, xs, rfl, e, rl⟩ := r.tup_of
    cases rv
    obtain ⟨its, q, ⟨o, e1, e2, n, e3⟩, _⟩ := J.tuple (sqT_same ok.same e)
    obtain ⟨as, ra⟩ := reads_ofL J ok ds xs its ps rl q h
    exact ⟨_, .tuple e1 e2 e3 (by simpa using ra)⟩
  | .ty _, _, _, _, _, _, h => by simp [pyD] at h
  | .obj _, _, _, _, _, _, h => by simp [pyD] at h
theorem reads_ofL (J : Inv X pins σ H s) (ok : Ok X.K I S F H) : ∀ (ds : List D) (vs : List V) (us : List Value) (ps : List PyData), RepL X.K I ds vs → Vals vs us → pyDL ds = some ps → ∃ as, ReadsAll s.heap us ps as
  | [], vs, us, ps, r, rv, h => by
    simp only [pyDL, Option.some.injEq] at h; subst h
    simp only [RepL] at r; subst r
    cases rv
    exact ⟨_, .nil⟩
  | d :: ds, vs, us, ps, r, rv, h => by
    simp only [pyDL, Option.bind_eq_some_iff, Option.map_eq_some_iff] at h
    obtain ⟨p, h1, ps', h2, rfl⟩ := h
    simp only [RepL] at r
    obtain ⟨v, vs', rfl, r1, r2⟩ := r
    cases rv with
    | cons q qs =>
      obtain ⟨as, ra⟩ := reads_of J ok d v _ p r1 q h1
      obtain ⟨bs, rb⟩ := reads_ofL J ok ds vs' _ ps' r2 qs h2
      exact ⟨_, .cons ra rb⟩
end
mutual
theorem pyD_noDict : ∀ (x : D) (p : PyData), pyD x = some p → p.hasDict = false
  | .non, p, h => by simp only [pyD, Option.some.injEq] at h; subst h; rfl
  | .bl b, p, h => by simp only [pyD, Option.some.injEq] at h; subst h; rfl
  | .int i, p, h => by simp only [pyD, Option.some.injEq] at h; subst h; rfl
  | .str z, p, h => by simp only [pyD, Option.some.injEq] at h; subst h; rfl
  | .lst ds, p, h => by
    simp only [pyD, Option.map_eq_some_iff] at h
    obtain ⟨ps, h, rfl⟩ := h
    simp only [PyData.hasDict]; exact pyDL_noDict ds ps h
  | .ext ds, p, h => by
    simp only [pyD, Option.map_eq_some_iff] at h
    obtain ⟨ps, h, rfl⟩ := h
    simp only [PyData.hasDict]; exact pyDL_noDict ds ps h
  | .tup ds, p, h => by
    simp only [pyD, Option.map_eq_some_iff] at h
    obtain ⟨ps, h, rfl⟩ := h
    simp only [PyData.hasDict]; exact pyDL_noDict ds ps h
  | .ty _, _, h => by simp [pyD] at h
  | .obj _, _, h => by simp [pyD] at h
theorem pyDL_noDict : ∀ (ds : List D) (ps : List PyData), pyDL ds = some ps → PyData.hasDictAll ps = false
  | [], ps, h => by simp only [pyDL, Option.some.injEq] at h; subst h; rfl
  | d :: ds, ps, h => by
    simp only [pyDL, Option.bind_eq_some_iff, Option.map_eq_some_iff] at h
    obtain ⟨p, h1, ps', h2, rfl⟩ := h
    simp only [PyData.hasDictAll, pyD_noDict d p h1, pyDL_noDict ds ps' h2, Bool.or_false]
end
end
/-- what repr tells, with depth and length at most -/
structure Rp (d c : Nat) (x : D) (p : PyData) : Prop where
  e : pyD x = some p
  s : p.showable = true
  d : p.depth ≤ d
  c : p.shown.length ≤ c
def Rpd (d c : Nat) (x : D) : Prop := ∃ p, Rp d c x p
theorem Rpd.mono {d c d' c' : Nat} {x : D} (h : Rpd d c x) (h1 : d ≤ d') (h2 : c ≤ c') : Rpd d' c' x := by
  obtain ⟨p, h⟩ := h
  exact ⟨p, h.e, h.s, Nat.le_trans h.d h1, Nat.le_trans h.c h2⟩
theorem rp_int {i : Int} (h : i.natAbs < 10 ^ 12) : Rpd 1 13 (.int i) := ⟨.int i, by simp [pyD], by
  simp only [PyData.showable, decide_eq_true_eq]
  have : i.natAbs.log2 < 64 := PySem.Flt.log2_lt_of (by decide) (show i.natAbs < 2 ^ 64 by omega +splitDisjunctions)
  omega, by simp [PyData.depth], PyData.shown_int_le h⟩
theorem rp_all {d c : Nat} : ∀ {ds : List D}, (∀ y, y ∈ ds → Rpd d c y) → ∃ ps, pyDL ds = some ps ∧ PyData.showableAll ps = true ∧ PyData.depthAll ps ≤ d ∧ ((PyData.shownAll ps).map (·.length)).sum ≤ ds.length * c ∧ (PyData.shownAll ps).length = ds.length
  | [], _ => ⟨[], by simp [pyDL], by simp [PyData.showableAll], by simp [PyData.depthAll], by simp [PyData.shownAll], by simp [PyData.shownAll]⟩
  | y :: ds, h => by
    obtain ⟨p, h1⟩ := h y (by simp)
    obtain ⟨ps, e1, e2, e3, e4, e5⟩ := rp_all (ds := ds) (fun z hz => h z (by simp [hz]))
    refine ⟨p :: ps, by simp [pyDL, h1.e, e1], by simp [PyData.showableAll, h1.s, e2], ?_, ?_, by simp [PyData.shownAll, e5]⟩
    · have := h1.d
      simp only [PyData.depthAll]
      omega
    · have := h1.c
      simp only [PyData.shownAll, List.map_cons, List.sum_cons, List.length_cons, Nat.succ_mul]
      omega
theorem rp_tup {d c n : Nat} {ds : List D} (h : ∀ y, y ∈ ds → Rpd d c y) (hn : ds.length ≤ n) : Rpd (d + 1) (n * (c + 2) + 3) (.tup ds) := by
  obtain ⟨ps, e1, e2, e3, e4, e5⟩ := rp_all h
  refine ⟨.tuple ps, by simp [pyD, e1], by simp [PyData.showable, e2], by simp only [PyData.depth]; omega, ?_⟩
  have := tupleText_len_le (PyData.shownAll ps)
  simp only [PyData.shown]
  have h2 := Nat.mul_le_mul_right (c + 2) hn
  rw [Nat.mul_add] at h2
  omega
end DL
namespace DL
open PySem PySem.Spec PyProof.Rows L2
local macro_rules | `(tactic| omega) => `(tactic| first | assumption | lia)
section
variable {X : Cx} {pos : Pos} {a b c : Expr} {da db dc : DE} {op op' : CmpOp} {r r' : R2} {o o' : D2}
end
end DL
namespace DL
open PySem PySem.Spec PyProof.Rows L2
local macro_rules | `(tactic| omega) => `(tactic| first | assumption | lia)
def dPar3 (i j l : Nat) (a : DA) : DS := fun DD ρ S => a ρ S fun xs S1 => match xs with
  | [x, y, z] => DD.nx (((ρ.set i (some x)).set j (some y)).set l (some z)) S1
  | _ => False
end DL
namespace DL
open PySem PySem.Spec PyProof.Rows L2
local macro_rules | `(tactic| omega) => `(tactic| first | assumption | lia)
/-! ### isinstance of data -/
theorem isi_non_int  {S : Store} {P : D → Store → Prop} : cIsi [.non, .ty "int"] S P = P (.bl false) S := propext ⟨fun h => h.2, fun h => ⟨by decide, h⟩⟩
theorem isi_non_bool  {S : Store} {P : D → Store → Prop} : cIsi [.non, .ty "bool"] S P = P (.bl false) S := propext ⟨fun h => h.2, fun h => ⟨by decide, h⟩⟩
theorem isi_non_str  {S : Store} {P : D → Store → Prop} : cIsi [.non, .ty "str"] S P = P (.bl false) S := propext ⟨fun h => h.2, fun h => ⟨by decide, h⟩⟩
theorem isi_non_list  {S : Store} {P : D → Store → Prop} : cIsi [.non, .ty "list"] S P = P (.bl false) S := propext ⟨fun h => h.2, fun h => ⟨by decide, h⟩⟩
theorem isi_non_tuple  {S : Store} {P : D → Store → Prop} : cIsi [.non, .ty "tuple"] S P = P (.bl false) S := propext ⟨fun h => h.2, fun h => ⟨by decide, h⟩⟩
theorem isi_non_lt  {S : Store} {P : D → Store → Prop} : cIsi [.non, .tup [.ty "list", .ty "tuple"]] S P = P (.bl false) S := rfl
theorem isi_bl_int {k : Bool} {S : Store} {P : D → Store → Prop} : cIsi [(.bl k), .ty "int"] S P = P (.bl true) S := propext ⟨fun h => h.2, fun h => ⟨by decide, h⟩⟩
theorem isi_bl_bool {k : Bool} {S : Store} {P : D → Store → Prop} : cIsi [(.bl k), .ty "bool"] S P = P (.bl true) S := propext ⟨fun h => h.2, fun h => ⟨by decide, h⟩⟩
theorem isi_bl_str {k : Bool} {S : Store} {P : D → Store → Prop} : cIsi [(.bl k), .ty "str"] S P = P (.bl false) S := propext ⟨fun h => h.2, fun h => ⟨by decide, h⟩⟩
theorem isi_bl_list {k : Bool} {S : Store} {P : D → Store → Prop} : cIsi [(.bl k), .ty "list"] S P = P (.bl false) S := propext ⟨fun h => h.2, fun h => ⟨by decide, h⟩⟩
theorem isi_bl_tuple {k : Bool} {S : Store} {P : D → Store → Prop} : cIsi [(.bl k), .ty "tuple"] S P = P (.bl false) S := propext ⟨fun h => h.2, fun h => ⟨by decide, h⟩⟩
theorem isi_bl_lt {k : Bool} {S : Store} {P : D → Store → Prop} : cIsi [(.bl k), .tup [.ty "list", .ty "tuple"]] S P = P (.bl false) S := rfl
theorem isi_int_int {i : Int} {S : Store} {P : D → Store → Prop} : cIsi [(.int i), .ty "int"] S P = P (.bl true) S := propext ⟨fun h => h.2, fun h => ⟨by decide, h⟩⟩
theorem isi_int_bool {i : Int} {S : Store} {P : D → Store → Prop} : cIsi [(.int i), .ty "bool"] S P = P (.bl false) S := propext ⟨fun h => h.2, fun h => ⟨by decide, h⟩⟩
theorem isi_int_str {i : Int} {S : Store} {P : D → Store → Prop} : cIsi [(.int i), .ty "str"] S P = P (.bl false) S := propext ⟨fun h => h.2, fun h => ⟨by decide, h⟩⟩
theorem isi_int_list {i : Int} {S : Store} {P : D → Store → Prop} : cIsi [(.int i), .ty "list"] S P = P (.bl false) S := propext ⟨fun h => h.2, fun h => ⟨by decide, h⟩⟩
theorem isi_int_tuple {i : Int} {S : Store} {P : D → Store → Prop} : cIsi [(.int i), .ty "tuple"] S P = P (.bl false) S := propext ⟨fun h => h.2, fun h => ⟨by decide, h⟩⟩
theorem isi_int_lt {i : Int} {S : Store} {P : D → Store → Prop} : cIsi [(.int i), .tup [.ty "list", .ty "tuple"]] S P = P (.bl false) S := rfl
theorem isi_str_int {z : Str} {S : Store} {P : D → Store → Prop} : cIsi [(.str z), .ty "int"] S P = P (.bl false) S := propext ⟨fun h => h.2, fun h => ⟨by decide, h⟩⟩
theorem isi_str_bool {z : Str} {S : Store} {P : D → Store → Prop} : cIsi [(.str z), .ty "bool"] S P = P (.bl false) S := propext ⟨fun h => h.2, fun h => ⟨by decide, h⟩⟩
theorem isi_str_str {z : Str} {S : Store} {P : D → Store → Prop} : cIsi [(.str z), .ty "str"] S P = P (.bl true) S := propext ⟨fun h => h.2, fun h => ⟨by decide, h⟩⟩
theorem isi_str_list {z : Str} {S : Store} {P : D → Store → Prop} : cIsi [(.str z), .ty "list"] S P = P (.bl false) S := propext ⟨fun h => h.2, fun h => ⟨by decide, h⟩⟩
theorem isi_str_tuple {z : Str} {S : Store} {P : D → Store → Prop} : cIsi [(.str z), .ty "tuple"] S P = P (.bl false) S := propext ⟨fun h => h.2, fun h => ⟨by decide, h⟩⟩
theorem isi_str_lt {z : Str} {S : Store} {P : D → Store → Prop} : cIsi [(.str z), .tup [.ty "list", .ty "tuple"]] S P = P (.bl false) S := rfl
theorem isi_lst_int {ds : List D} {S : Store} {P : D → Store → Prop} : cIsi [(.lst ds), .ty "int"] S P = P (.bl false) S := propext ⟨fun h => h.2, fun h => ⟨by decide, h⟩⟩
theorem isi_lst_bool {ds : List D} {S : Store} {P : D → Store → Prop} : cIsi [(.lst ds), .ty "bool"] S P = P (.bl false) S := propext ⟨fun h => h.2, fun h => ⟨by decide, h⟩⟩
theorem isi_lst_str {ds : List D} {S : Store} {P : D → Store → Prop} : cIsi [(.lst ds), .ty "str"] S P = P (.bl false) S := propext ⟨fun h => h.2, fun h => ⟨by decide, h⟩⟩
theorem isi_lst_list {ds : List D} {S : Store} {P : D → Store → Prop} : cIsi [(.lst ds), .ty "list"] S P = P (.bl true) S := propext ⟨fun h => h.2, fun h => ⟨by decide, h⟩⟩
theorem isi_lst_tuple {ds : List D} {S : Store} {P : D → Store → Prop} : cIsi [(.lst ds), .ty "tuple"] S P = P (.bl false) S := propext ⟨fun h => h.2, fun h => ⟨by decide, h⟩⟩
theorem isi_lst_lt {ds : List D} {S : Store} {P : D → Store → Prop} : cIsi [(.lst ds), .tup [.ty "list", .ty "tuple"]] S P = P (.bl true) S := rfl
theorem isi_tup_int {ds : List D} {S : Store} {P : D → Store → Prop} : cIsi [(.tup ds), .ty "int"] S P = P (.bl false) S := propext ⟨fun h => h.2, fun h => ⟨by decide, h⟩⟩
theorem isi_tup_bool {ds : List D} {S : Store} {P : D → Store → Prop} : cIsi [(.tup ds), .ty "bool"] S P = P (.bl false) S := propext ⟨fun h => h.2, fun h => ⟨by decide, h⟩⟩
theorem isi_tup_str {ds : List D} {S : Store} {P : D → Store → Prop} : cIsi [(.tup ds), .ty "str"] S P = P (.bl false) S := propext ⟨fun h => h.2, fun h => ⟨by decide, h⟩⟩
theorem isi_tup_list {ds : List D} {S : Store} {P : D → Store → Prop} : cIsi [(.tup ds), .ty "list"] S P = P (.bl false) S := propext ⟨fun h => h.2, fun h => ⟨by decide, h⟩⟩
theorem isi_tup_tuple {ds : List D} {S : Store} {P : D → Store → Prop} : cIsi [(.tup ds), .ty "tuple"] S P = P (.bl true) S := propext ⟨fun h => h.2, fun h => ⟨by decide, h⟩⟩
theorem isi_tup_lt {ds : List D} {S : Store} {P : D → Store → Prop} : cIsi [(.tup ds), .tup [.ty "list", .ty "tuple"]] S P = P (.bl true) S := rfl
end DL
namespace DL
open PySem PySem.Spec PyProof.Rows L2
local macro_rules | `(tactic| omega) => `(tactic| first | assumption | lia)
def dLcM (di : DI) (t : Tgt) (tt : DT) (de : DE) : DE := fun ρ S P => dLc di t tt de ρ S fun x S1 => match x with
  | .lst acc => ∀ p, S1 p = none → P (.obj p) (supd S1 p (.lst acc))
  | _ => False
section
variable {X : Cx} {pos : Pos}
end
end DL

namespace DL
open PySem PySem.Spec PyProof.Rows L2
local macro_rules | `(tactic| omega) => `(tactic| first | assumption | lia)

def dLstR2 (a b : DE) : DE := fun ρ S P => a ρ S fun x S1 => b ρ S1 fun y S2 => match x, y with
  | .int i, .int j => RgOk i j ∧ P (.lst (rng i (j - i).toNat)) S2
  | _, _ => False
def dLstR2M (a b : DE) : DE := fun ρ S P => a ρ S fun x S1 => b ρ S1 fun y S2 => match x, y with
  | .int i, .int j => RgOk i j ∧ ∀ l, S2 l = none → P (.obj l) (supd S2 l (.lst (rng i (j - i).toNat)))
  | _, _ => False
theorem repL_map {K : PySem.W.Frag} {I : Hp} {α : Type} {f : α → D} {g : α → V} (h : ∀ x, Rep K I (f x) (g x)) : ∀ l : List α, RepL K I (l.map f) (l.map g)
  | [] => RepL.nil
  | x :: r => RepL.cons (h x) (repL_map h r)
theorem repL_rng {K : PySem.W.Frag} {I : Hp} (a b : Int) : RepL K I (rng a (b - a).toNat) (rgV a b) := repL_map (fun _ => rep_int) _
section
variable {X : Cx} {pos p p2 pos2 : Pos} {a b : Expr} {da db : DE}
theorem je_listR2 (hm : X.mg "list" = none) (hm2 : X.mg "range" = none) (ha : JE X a da) (hb : JE X b db) (hc : X.calm = true := by rfl) (hg : Gl X "list" := by rfl) (hg2 : Gl X "range" := by rfl)
    (hs : starEach [a, b] X.env = (false, eval a X.env) :: starEach [b] X.env := by rfl) (hs2 : starEach [b] X.env = (false, eval b X.env) :: starEach [] X.env := by rfl) (hpl : (backTo pos2 (starEach [b] X.env)).any (·.1) = false := by rfl) :
    JE X (.Call (.Name "list" p) [.Call (.Name "range" p2) [a, b] [] pos2] [] pos) (dLstR2 da db) :=
  je_of (pe_listRg hc hg hm (prg_2 hg2 hm2 ha hb hs hs2 hpl)) fun σ H Q h0_ => El54 h0_ fun ρ I S F P rs ok h q => ⟨ρ, I, S, F, _, rs, ok, h, fun x S1 v I1 H1 h1 e1 ok1 r1 => ⟨ρ, I1, S1, F, _, rs.mono e1, ok1, h1, fun y S2 w I2 H2 h2 e2 ok2 r2 => by
    split at h2
    · rename_i i j
      cases r1.int_of
      cases r2.int_of
      have rl := repL_rng (K := X.K) (I := I2) i j
      exact ⟨_, _, rfl, rfl, h2.1, fun l hl => q _ _ _ _ _ h2.2 ((e1.trans e2).trans (same_new (ok2.freshI hl))) (ok2.newI hl) (rep_new_lst (ok2.freshI hl) rl)⟩
    · exact h2.elim⟩⟩
end

section
variable {X : Cx} {pos : Pos} {a b : Expr} {da db : DE}
end
end DL

namespace DL
open PySem PySem.Spec PyProof.Rows L2
local macro_rules | `(tactic| omega) => `(tactic| first | assumption | lia)

section
variable {X : Cx} {pos : Pos}
variable {a b : Expr} {da db : DE}
end
end DL

/-! every other item of a tuple -/
namespace L2
open PySem PySem.Spec PyProof.Rows HT
local macro_rules | `(tactic| omega) => `(tactic| first | assumption | lia)
section
variable {prog : Program} {w : World} {A : Around} {E : Value → Shared → Prop} {s : Shared}
end
section
variable {X : Cx}
end
section
end
end L2
namespace DL
open PySem PySem.Spec PyProof.Rows L2
local macro_rules | `(tactic| omega) => `(tactic| first | assumption | lia)
end DL

namespace DL
open PySem PySem.Spec PyProof.Rows L2
local macro_rules | `(tactic| omega) => `(tactic| first | assumption | lia)

/-! ### {'a': 1, ..}.get(x, y) of a written dict -/
def dictAt : List (Str × Int) → Str → Option Int
  | [], _ => none
  | (k, v) :: r, z => if k = z then some v else dictAt r z
theorem Ok.less {K : PySem.W.Frag} {I F F' H : Hp} {S : Store} (h : Ok K I S F' H) (le : ∀ a o, F a = some o → F' a = some o) : Ok K I S F H := ⟨h.i, h.s, fun a o e => h.f a o (le a o e)⟩
def dDispGet (kvs : List (Str × Int)) (dk dd : DE) : DE := fun ρ S P => dk ρ S fun x S1 => dd ρ S1 fun y S2 => match x with
  | .str z => (match dictAt kvs z with
    | some i => P (.int i) S2
    | none => P y S2)
  | _ => False
section
variable {X : Cx} {pos p1 apos cpos : Pos} {e f : Expr} {dk dd : DE}
variable {o a : Expr} {da db : DE} {pos : Pos}
end
end DL

namespace DL
open PySem PySem.Spec PyProof.Rows L2
local macro_rules | `(tactic| omega) => `(tactic| first | assumption | lia)

section
variable {X : Cx} {e f : Expr} {ty tx : TE} {x : Str} {p1 apos cpos : Pos}
end
section
variable {X : Cx} {e f : Expr} {dk dd : DE} {x : Str} {p1 apos cpos : Pos}
end
end DL

namespace DL
open PySem PySem.Spec PyProof.Rows L2
local macro_rules | `(tactic| omega) => `(tactic| first | assumption | lia)
section
variable {X : Cx} {pos : Pos} {a b : Expr} {da db : DE}
end
end DL

/-! Own classes: instances as things that change. -/
namespace DG
open PySem PySem.Spec PyProof.Rows L2
local macro_rules | `(tactic| omega) => `(tactic| first | assumption | lia)
theorem RoomG.make {k : Nat} {A : Around} (h : RoomG (k + 1) A) (C : Addr) (us : List Value) (kw : List (Str × Value)) : RoomG k (A.under (.builtin "type.__call__" ⟨.ref C :: us, kw⟩)) :=
  ⟨h.r.make C us kw, by
    show pushGuards (Code.guards (.builtin "type.__call__" ⟨.ref C :: us, kw⟩)) A.guards = some []
    rw [h.g]; rfl⟩
section
variable {X : Cx} {CX : CXT} {k n : Nat} {f C : Addr} {fd : FuncData} {ps ks : List Str} {sp : Sp} {dvs : List V} {ds : List Value} {E : XK} {x m : Str} {p pos apos : Pos} {e o : Expr} {es : List Expr} {ta : TE} {t tk : TA} {kws : List Keyword} {g : List Value → List Value → List Value} {gV : List V → List V → List V}
/-- o.m(e, ..) -/
theorem pe_meth {pl : Sem Bool} (he : PE X o ta) (c : Cls X.K C) (hm : Meth X.K C m f) (F : FnG X.prog X.w X.K X.mg X.base CX k f fd ps sp) (hr : RoomG k X.A) (hb : Binds X.K fd ps ds) (hd : Vals dvs ds) (hx : Passes CX X E) (ha : PA X (e :: es) t)
    (hst : starEach (e :: es) X.env = (false, eval e X.env) :: starEach es X.env := by rfl) (hpl : (backTo pos (starEach es X.env)).any (·.1) = false := by rfl)
    (ht : eval (.Call (.Attribute o m apos) (e :: es) [] pos) X.env = (do
      let ov ← eval o X.env
      standAt apos.atName
      let (f, first) ← holding [ov] (getMethod ov m pl)
      callWith pos f first (backTo pos (starEach (e :: es) X.env)) (backToKw pos (keywordEach [] X.env))) := by rfl) :
    PE X (.Call (.Attribute o m apos) (e :: es) [] pos) (tMeth C m sp dvs E ta t) := by
  refine ⟨fun pins s σ H Q I h => ?_⟩
  refine PySem.W.methodCall_KW (pl := pl) (thn (he.run pins s σ H _ I h) fun u s1 ⟨x, H1, I1, rx, a, dx, fs, ex, ea, l, q⟩ => ?_) ht
  subst ex
  obtain rfl : u = Value.ref a := rx
  refine getmeth_ok I1 ea c hm l ?_
  refine PySem.W.callWith_K (first := [.ref a]) (h₀ := X.base) I.ok.mod.kin hm.kp (thn (ha.run pos pins s1 σ H1 _ I1 q) fun us s2 ⟨vs, H2, I2, r, q2⟩ => ⟨I2.kIn, ?_⟩) hst hpl
  exact run_fn (us := .ref a :: us) (vs := .ref a :: vs) F hr hb hd hx I2 (.cons rfl r) q2
/-- o.m() -/
theorem pe_meth0 {pl : Sem Bool} (he : PE X o ta) (c : Cls X.K C) (hm : Meth X.K C m f) (F : FnG X.prog X.w X.K X.mg X.base CX k f fd ps sp) (hr : RoomG k X.A) (hb : Binds X.K fd ps ds) (hd : Vals dvs ds) (hx : Passes CX X E)
    (ht : eval (.Call (.Attribute o m apos) [] [] pos) X.env = (do
      let ov ← eval o X.env
      standAt apos.atName
      let (f, first) ← holding [ov] (getMethod ov m pl)
      callWith pos f first (backTo pos (starEach [] X.env)) (backToKw pos (keywordEach [] X.env))) := by rfl) :
    PE X (.Call (.Attribute o m apos) [] [] pos) (tMeth C m sp dvs E ta tNil) := by
  refine ⟨fun pins s σ H Q I h => ?_⟩
  refine PySem.W.methodCall_KW (pl := pl) (thn (he.run pins s σ H _ I h) fun u s1 ⟨x, H1, I1, rx, a, dx, fs, ex, ea, l, q⟩ => ?_) ht
  subst ex
  obtain rfl : u = Value.ref a := rx
  refine getmeth_ok I1 ea c hm l ?_
  exact PySem.W.callWith_K0 (first := [.ref a]) I1.kIn hm.kp (run_fn (us := [.ref a]) (vs := [.ref a]) F hr hb hd hx I1 (.cons rfl .nil) q)
theorem run_makeK {pins : List (Addr × Obj)} {σ : L2.St} {H : Hp} {s : Shared} {Q : VK} {us ws : List Value} {vs zs : List V} (M : Mk X.K C f) (F : FnG X.prog X.w X.K X.mg X.base CX k f fd ps sp) (hr : RoomG (k + 1) X.A) (hb : KBn X.K fd ps (n + 1) ks g gV) (hx : Passes CX X E)
    (I : Inv X pins σ H s) (r : Vals vs us) (rz : Vals zs ws) (l1 : vs.length = n) (l2 : zs.length = ks.length)
    (h : ∀ x dx, H x = none → H dx = none → dx ≠ x → sp (gV (.ref x :: vs) zs) (upd (upd H dx (.own x)) x (.ins C dx [])) (fun v H2 => v = .non ∧ Q (.ref x) H2) E) :
    wpAny (model X.prog X.w) X.A (call (.ref C) us (ks.zip ws)) (EP X pins σ Q) X.xe s := by
  have hq := h (s.heap.objs.size + 1) s.heap.objs.size (I.hok.fresh (Nat.le_succ _)) (I.hok.fresh (Nat.le_refl _)) (Nat.ne_of_lt (Nat.lt_succ_self _))
  have I2 := Inv.made (C := C) I
  have r1 : Vals (V.ref (s.heap.objs.size + 1) :: vs) (Value.ref (s.heap.objs.size + 1) :: us) := .cons rfl r
  have r2 := hb.rel r1 rz
  have n1 : (Value.ref (s.heap.objs.size + 1) :: us).length = n + 1 := by
    rw [List.length_cons, ← r.length, l1]
  refine wpAny_call (make_map (f := f) I.kIn M.makes M.init (beq_iff_eq.mp M.fn) (codeAny_mono (F.run _ X.stack _ _ ⟨Value.ref (s.heap.objs.size + 1) :: us, ks.zip ws⟩ (g (Value.ref (s.heap.objs.size + 1) :: us) ws) _ _ E (hr.make C us (ks.zip ws))
    (I2.env0.make C us (ks.zip ws)) (hb.to _ (Value.ref (s.heap.objs.size + 1) :: us) ws I2.kIn n1 (rz.length.symm.trans l2)) r2 hq) fun r s' hq' => ?_))
  cases r with
  | error e => exact hx pins σ _ _ e s' I2 hq'
  | ok fl =>
    cases fl with
    | ret u =>
      obtain ⟨v, H', I3, rv, ev, q3⟩ := I2.after hq'
      subst ev
      exact ⟨rv, ⟨V.ref (s.heap.objs.size + 1), H', I3, rfl, q3⟩⟩
    | next => exact False.elim hq'
    | brk => exact False.elim hq'
    | cont => exact False.elim hq'
/-- C(e, .., k = v, ..) -/
theorem pe_makeK (M : Mk X.K C f) (F : FnG X.prog X.w X.K X.mg X.base CX k f fd ps sp) (hr : RoomG (k + 1) X.A) (hg : Gl X x) (hm : X.mg x = some (.ref C)) (hb : KBn X.K fd ps (n + 1) ks g gV) (hx : Passes CX X E) (ha : PA X (e :: es) t) (hkw : PK X kws tk)
    (hall : (backToKw pos (keywordEach kws X.env)).all (·.1.isSome) = true := by rfl) (hks : (backToKw pos (keywordEach kws X.env)).filterMap (·.1) = ks := by rfl) (hdb : (x == ("__debug__" : Str)) = false := by decide)
    (he : starEach (e :: es) X.env = (false, eval e X.env) :: starEach es X.env := by rfl) (hpl : ((backTo pos (starEach (e :: es) X.env)).any (·.1) || (backToKw pos (keywordEach kws X.env)).any (·.1.isNone)) = false := by rfl) :
    PE X (.Call (.Name x p) (e :: es) kws pos) (tMakeK C n ks.length sp gV E t tk) := by
  refine ⟨fun pins s σ H Q I h => ?_⟩
  refine wpAny_Call_Name_kw (ld_glob I hg hm ?_ hdb)
  refine PySem.W.callWith_KW (h₀ := X.base) I.ok.mod.kin M.kp hall (thn (ha.run pos pins s σ H _ I h) fun us s1 ⟨vs, H1, I1, r, q⟩ => ?_) hpl he
  refine thn (hkw.run pos pins s1 σ H1 _ I1 q) fun ws s2 ⟨zs, H2, I2, rz, l1, l2, q2⟩ => ⟨I2.kIn, ?_⟩
  rw [hks]
  exact run_makeK M F hr hb hx I2 r rz l1 l2 q2
end
end DG
namespace DL
open PySem PySem.Spec PyProof.Rows L2
local macro_rules | `(tactic| omega) => `(tactic| first | assumption | lia)
/-- where the own classes stand -/
class CT where
  at_ : Nat → Addr
def putD (f : Str) (x : D) : List (Str × D) → List (Str × D)
  | [] => [(f, x)]
  | (g, y) :: r => if g = f then (g, x) :: r else (g, y) :: putD f x r
section
variable {K : PySem.W.Frag} {I F H : Hp} {S : Store}
theorem RepF.look {f : Str} {d : D} : ∀ {fs : List (Str × D)} {vs : List (Str × V)}, RepF K I fs vs → fs.lookup f = some d → ∃ v, vs.lookup f = some v ∧ Rep K I d v
  | [], _, _, e => by simp at e
  | (g, x) :: r, vs, h, e => by
    simp only [RepF] at h
    obtain ⟨v, w, rfl, h1, h2⟩ := h
    rw [List.lookup_cons] at e ⊢
    cases q : (f == g) with
    | true =>
      rw [q] at e
      cases e
      exact ⟨v, rfl, h1⟩
    | false =>
      rw [q] at e
      exact RepF.look h2 e
theorem RepF.no {f : Str} : ∀ {fs : List (Str × D)} {vs : List (Str × V)}, RepF K I fs vs → fs.lookup f = none → vs.lookup f = none
  | [], _, h, _ => by
    simp only [RepF] at h
    subst h; rfl
  | (g, x) :: r, vs, h, e => by
    simp only [RepF] at h
    obtain ⟨v, w, rfl, h1, h2⟩ := h
    rw [List.lookup_cons] at e ⊢
    cases q : (f == g) with
    | true => rw [q] at e; cases e
    | false =>
      rw [q] at e
      exact RepF.no h2 e
theorem RepF.len : ∀ {fs : List (Str × D)} {vs : List (Str × V)}, RepF K I fs vs → vs.length = fs.length
  | [], _, h => by
    simp only [RepF] at h
    subst h; rfl
  | (g, x) :: r, vs, h => by
    simp only [RepF] at h
    obtain ⟨v, w, rfl, h1, h2⟩ := h
    simp [RepF.len h2]
theorem RepF.put {f : Str} {d : D} {v : V} (h' : Rep K I d v) : ∀ {fs : List (Str × D)} {vs : List (Str × V)}, RepF K I fs vs → RepF K I (putD f d fs) (putF f v vs)
  | [], _, h => by
    simp only [RepF] at h
    subst h
    simp only [putD, putF, RepF]
    exact ⟨v, [], rfl, h', rfl⟩
  | (g, x) :: r, vs, h => by
    simp only [RepF] at h
    obtain ⟨w, u, rfl, h1, h2⟩ := h
    show RepF K I (if g = f then (g, d) :: r else (g, x) :: putD f d r) (if g = f then (g, v) :: u else (g, w) :: putF f v u)
    by_cases q : g = f
    · rw [if_pos q, if_pos q]
      simp only [RepF]
      exact ⟨v, u, rfl, h', h2⟩
    · rw [if_neg q, if_neg q]
      simp only [RepF]
      exact ⟨w, _, rfl, h1, RepF.put h' h2⟩
theorem Ok.insAt (ok : Ok K I S F H) {p C : Addr} {fs : List (Str × D)} (e : S p = some (.ins C fs)) : ∃ dx vs, H p = some (.ins C dx vs) ∧ H dx = some (.own p) ∧ RepF K I fs vs := (ok.s p _ e).2
theorem Ok.putIns (ok : Ok K I S F H) {p C dx : Addr} {fs : List (Str × D)} {vs : List (Str × V)} {f : Str} {d : D} {v : V} (e : S p = some (.ins C fs)) (h1 : H p = some (.ins C dx vs)) (h2 : H dx = some (.own p)) (r : RepF K I fs vs) (r' : Rep K I d v) :
    Ok K I (supd S p (.ins C (putD f d fs))) F (upd H p (.ins C dx (putF f v vs))) := by
  have ne : dx ≠ p := fun z => by subst z; rw [h1] at h2; cases h2
  refine ok.write e (fun y z => by rw [h1] at z; cases z) ⟨dx, _, upd_same, by rw [upd_ne ne]; exact h2, r.put r'⟩
/-- a new instance -/
theorem Ok.newIns (h : Ok K I S F H) {p dx C : Addr} (n : H p = none) (n2 : H dx = none) (ne : dx ≠ p) : Ok K I (supd S p (.ins C [])) F (upd (upd H dx (.own p)) p (.ins C dx [])) := by
  have up : ∀ {a o}, H a = some o → (upd (upd H dx (.own p)) p (.ins C dx [])) a = some o := fun {a o} e => by
    rw [upd_ne (ne_of_none e n), upd_ne (ne_of_none e n2)]; exact e
  refine ⟨fun a x e => up (h.i a x e), fun a m e => ?_, fun a x e => ?_⟩
  · unfold supd at e
    by_cases q : a = p
    · subst q
      rw [if_pos rfl] at e; cases e
      exact ⟨h.freshI n, dx, [], upd_same, by rw [upd_ne ne, upd_same], by simp only [RepF]⟩
    · rw [if_neg q] at e
      obtain ⟨h1, h2⟩ := h.s a m e
      obtain ⟨o, h3, _⟩ := h2.there
      exact ⟨h1, h2.mono (Same.refl I) ((up h3).trans h3.symm) fun dy q2 => up q2⟩
  · obtain ⟨h1, h2, h3, h4⟩ := h.f a x e
    have ne2 : a ≠ p := ne_of_none h1 n
    exact ⟨up h1, h2, by unfold supd; rw [if_neg ne2]; exact h3, h4⟩
end
/-! ### o.f, o.f = e, o.f += e -/
def dFld [CT] (c : Nat) (f : Str) (a : DE) : DE := fun ρ S P => a ρ S fun x S1 => ∃ p fs d, x = .obj p ∧ S1 p = some (.ins (CT.at_ c) fs) ∧ fs.lookup f = some d ∧ P d S1
def dSetFld [CT] (c : Nat) (f : Str) (a v : DE) : DS := fun DD ρ S => v ρ S fun y S1 => a ρ S1 fun x S2 => ∃ p fs, x = .obj p ∧ S2 p = some (.ins (CT.at_ c) fs) ∧ fs.length < 900 ∧ DD.nx ρ (supd S2 p (.ins (CT.at_ c) (putD f y fs)))
/-- self.f += e of ints -/
def dFldAdd [CT] (c : Nat) (f : Str) (a v : DE) : DS := fun DD ρ S => a ρ S fun x S1 => ∃ p fs i, x = .obj p ∧ S1 p = some (.ins (CT.at_ c) fs) ∧ fs.lookup f = some (.int i) ∧ v ρ S1 fun y S2 => ∃ j fs', y = .int j ∧ S2 p = some (.ins (CT.at_ c) fs') ∧ fs'.length < 900 ∧
  DD.nx ρ (supd S2 p (.ins (CT.at_ c) (putD f (.int (i + j)) fs')))
section
variable [CT] {X : Cx} {o value : Expr} {c : Nat} {f : Str} {pos pos' tpos : Pos} {da dv : DE}
theorem up_fld (cl : Cls X.K (CT.at_ c)) (n : NoAttr X.K (CT.at_ c) f) : ∀ σ H Q, upE X.K (dFld c f da) σ H Q → tFld X.K (upE X.K da) f σ H Q := fun σ H Q h0_ => El54 h0_ fun ρ I S F P rs ok h q =>
  ⟨ρ, I, S, F, _, rs, ok, h, fun x S1 v I1 H1 ⟨p, fs, d, ex, es, el, h1⟩ e1 ok1 r1 => by
    subst ex
    obtain ⟨dx, vs, hp, _, rf⟩ := ok1.insAt es
    obtain ⟨u, hu, ru⟩ := rf.look el
    exact ⟨p, _, dx, vs, u, r1.obj_of, hp, cl, n, hu, q _ _ _ _ _ h1 e1 ok1 ru⟩⟩
theorem je_fld (cl : Cls X.K (CT.at_ c)) (n : NoAttr X.K (CT.at_ c) f) (he : JE X o da) (hb : attributeBase o f X.env (eval o X.env) = eval o X.env := by rfl) : JE X (.Attribute o f pos) (dFld c f da) :=
  je_of (pe_fld he hb) (up_fld cl n)
theorem js_fld (cl : Cls X.K (CT.at_ c)) (n : NoAttr X.K (CT.at_ c) f) (ha : JE X o da) (hv : JE X value dv) (hs : swapsWith value (some (.Attribute o f pos')) pos.line X.env = pure false := by rfl) :
    JS X (.Assign [.Attribute o f pos'] value pos) (dSetFld c f da dv) :=
  js_of (ps_fld ha hv hs) fun D σ H h0_ => El54 h0_ fun ρ I S F DD rs ok h q => ⟨ρ, I, S, F, _, rs, ok, h, fun y S1 v I1 H1 h1 e1 ok1 r1 => ⟨ρ, I1, S1, F, _, rs.mono e1, ok1, h1, fun x S2 w I2 H2 ⟨p, fs, ex, es, hl, h2⟩ e2 ok2 r2 => by
    subst ex
    obtain ⟨dx, vs, hp, hd, rf⟩ := ok2.insAt es
    refine ⟨p, _, dx, vs, r2.obj_of, hp, cl, n, by rw [rf.len]; omega, ?_⟩
    exact q.nx _ _ _ _ _ h2 (e1.trans e2) (ok2.putIns es hp hd rf (r1.mono e2)) (rs.mono (e1.trans e2))⟩⟩
theorem js_fldAdd (cl : Cls X.K (CT.at_ c)) (n : NoAttr X.K (CT.at_ c) f) (ha : JE X o da) (hv : JE X value dv) : JS X (.AugAssign (.Attribute o f tpos) .Add value pos) (dFldAdd c f da dv) :=
  js_of (ps_fldaug ha hv in_add) fun D σ H h0_ => El54 h0_ fun ρ I S F DD rs ok h q => ⟨ρ, I, S, F, _, rs, ok, h, fun x S1 v I1 H1 ⟨p, fs, i, ex, es, el, h1⟩ e1 ok1 r1 => by
    subst ex
    obtain ⟨dx, vs, hp, hd, rf⟩ := ok1.insAt es
    obtain ⟨u, hu, ru⟩ := rf.look el
    refine ⟨p, _, dx, vs, u, r1.obj_of, hp, cl, n, hu, ρ, I1, S1, F, _, rs.mono e1, ok1, h1, fun y S2 w I2 H2 ⟨j, fs', ey, es2, hl, h2⟩ e2 ok2 r2 => ?_⟩
    subst ey
    obtain ⟨dx2, vs2, hp2, hd2, rf2⟩ := ok2.insAt es2
    refine ⟨i, j, ru.int_of, r2.int_of, dx2, vs2, hp2, by rw [rf2.len]; omega, ?_⟩
    exact q.nx _ _ _ _ _ h2 (e1.trans e2) (ok2.putIns es2 hp2 hd2 rf2 rep_int) (rs.mono (e1.trans e2))⟩
end
/-! ### calls of methods, C(..) -/
def dMeth [CT] (c : Nat) (m : Str) (sp : DSp) (a : DE) (r : DA) : DE := fun ρ S P => a ρ S fun x S1 => ∃ p fs, x = .obj p ∧ S1 p = some (.ins (CT.at_ c) fs) ∧ fs.lookup m = none ∧ r ρ S1 fun xs S2 => sp (x :: xs) S2 P
def dMake [CT] (c : Nat) (sp : DSp) (r : DA) : DE := fun ρ S P => r ρ S fun xs S1 => ∀ p, S1 p = none → sp (.obj p :: xs) (supd S1 p (.ins (CT.at_ c) [])) fun y S2 => y = .non ∧ P (.obj p) S2
def dMakeK [CT] (c : Nat) (sp : DSp) (n m : Nat) (perm : List Nat) (r kw : DA) : DE := fun ρ S P => r ρ S fun xs S1 => kw ρ S1 fun ys S2 => xs.length = n ∧ ys.length = m ∧ ∀ p, S2 p = none →
  sp (pick perm (.obj p :: xs) ys) (supd S2 p (.ins (CT.at_ c) [])) fun y S3 => y = .non ∧ P (.obj p) S3
/-- the method m of the class c keeps its promise -/
structure DoesM [CT] (P : Program) (w : World) (K : PySem.W.Frag) (mg : Str → Option Value) (base : Heap) (k : Nat) (c : Nat) (m : Str) (ps : List Str) (f : Addr) (fd : FuncData) (sp : DSp) : Prop where
  cl : Cls K (CT.at_ c)
  mt : Meth K (CT.at_ c) m f
  b : Binds K fd ps []
  ok : FnD P w K mg base k f fd ps sp
/-- the class c is made by __init__, which keeps its promise -/
structure DoesI [CT] (P : Program) (w : World) (K : PySem.W.Frag) (mg : Str → Option Value) (base : Heap) (k : Nat) (c : Nat) (x : Str) (ps : List Str) (f : Addr) (fd : FuncData) (sp : DSp) : Prop where
  g : mg x = some (.ref (CT.at_ c))
  mks : Mk K (CT.at_ c) f
  ok : FnD P w K mg base k f fd ps sp
section
variable [CT] {X : Cx} {o a : Expr} {es : List Expr} {c : Nat} {m x : Str} {pos apos p : Pos} {da : DE} {ds dk : DA} {k j n l : Nat} {ps ks : List Str} {f : Addr} {fd : FuncData} {sp : DSp} {perm : List Nat} {kws : List Keyword}
theorem up_meth : ∀ σ H Q, upE X.K (dMeth c m sp da ds) σ H Q → tMeth (CT.at_ c) m (upSp X.K sp) [] E0 (upE X.K da) (upA X.K ds) σ H Q := fun σ H Q h0_ => El54 h0_ fun ρ I S F P rs ok h q =>
  ⟨ρ, I, S, F, _, rs, ok, h, fun x S1 v I1 H1 ⟨p, fs, ex, es, el, h1⟩ e1 ok1 r1 => by
    subst ex
    obtain ⟨dx, vs, hp, hd, rf⟩ := ok1.insAt es
    refine ⟨p, dx, vs, r1.obj_of, hp, rf.no el, ρ, I1, S1, F, _, rs.mono e1, ok1, h1, fun xs S2 ws I2 H2 h2 e2 ok2 r2 => ?_⟩
    show upSp X.K sp (v :: (ws ++ [])) H2 Q E0
    rw [List.append_nil]
    exact ⟨_, I2, S2, F, P, .cons (r1.mono e2) r2, ok2, h2, q.mono (e1.trans e2)⟩⟩
theorem je_m {pl : Sem Bool} (G : DoesM X.prog X.w X.K X.mg X.base k c m ps f fd sp) (hr : DG.RoomG j X.A) (he : JE X o da) (ha : JA X (a :: es) ds) (hk : k ≤ j := by decide)
    (hst : starEach (a :: es) X.env = (false, eval a X.env) :: starEach es X.env := by rfl) (hpl : (backTo pos (starEach es X.env)).any (·.1) = false := by rfl)
    (ht : eval (.Call (.Attribute o m apos) (a :: es) [] pos) X.env = (do
      let ov ← eval o X.env
      standAt apos.atName
      let (f, first) ← holding [ov] (getMethod ov m pl)
      callWith pos f first (backTo pos (starEach (a :: es) X.env)) (backToKw pos (keywordEach [] X.env))) := by rfl) :
    JE X (.Call (.Attribute o m apos) (a :: es) [] pos) (dMeth c m sp da ds) :=
  je_of (DG.pe_meth (pl := pl) he G.cl G.mt G.ok (hr.mono hk) G.b .nil pass0 ha hst hpl ht) up_meth
theorem je_m0 {pl : Sem Bool} (G : DoesM X.prog X.w X.K X.mg X.base k c m ps f fd sp) (hr : DG.RoomG j X.A) (he : JE X o da) (hk : k ≤ j := by decide)
    (ht : eval (.Call (.Attribute o m apos) [] [] pos) X.env = (do
      let ov ← eval o X.env
      standAt apos.atName
      let (f, first) ← holding [ov] (getMethod ov m pl)
      callWith pos f first (backTo pos (starEach [] X.env)) (backToKw pos (keywordEach [] X.env))) := by rfl) :
    JE X (.Call (.Attribute o m apos) [] [] pos) (dMeth c m sp da dNil) :=
  je_of (DG.pe_meth0 (pl := pl) he G.cl G.mt G.ok (hr.mono hk) G.b .nil pass0 ht) fun σ H Q h0_ => El54 h0_ fun ρ I S F P rs ok h q => ⟨ρ, I, S, F, _, rs, ok, h, fun x S1 v I1 H1 ⟨p, fs, ex, es, el, h1⟩ e1 ok1 r1 => by
    subst ex
    obtain ⟨dx, vs, hp, hd, rf⟩ := ok1.insAt es
    exact ⟨p, dx, vs, r1.obj_of, hp, rf.no el, _, I1, S1, F, P, .cons r1 RepL.nil, ok1, h1, q.mono e1⟩⟩
theorem sees_make {K : PySem.W.Frag} {I F : Hp} {P : D → Store → Prop} {Q : VK} {p : Addr} (q : Sees K I F P Q) : Sees K I F (fun y S2 => y = .non ∧ P (.obj p) S2) (fun v H2 => v = .non ∧ Q (.ref p) H2) := fun x S v I2 H2 ⟨ex, h⟩ e ok r => by
  subst ex
  exact ⟨r.non_of, q _ _ _ _ _ h e ok (by simp only [Rep])⟩
theorem je_makeK (G : DoesI X.prog X.w X.K X.mg X.base k c x ps f fd sp) (hr : DG.RoomG j X.A) (hb : KBn X.K fd ps (n + 1) ks (pick perm) (pick perm)) (ha : JA X (a :: es) ds) (hkw : JK X kws dk) (hl : ks.length = l := by rfl) (hk : k + 1 ≤ j := by decide) (hg : Gl X x := by rfl)
    (hall : (backToKw pos (keywordEach kws X.env)).all (·.1.isSome) = true := by rfl) (hks : (backToKw pos (keywordEach kws X.env)).filterMap (·.1) = ks := by rfl)
    (hdb : (x == ("__debug__" : Str)) = false := by decide) (he : starEach (a :: es) X.env = (false, eval a X.env) :: starEach es X.env := by rfl)
    (hpl : ((backTo pos (starEach (a :: es) X.env)).any (·.1) || (backToKw pos (keywordEach kws X.env)).any (·.1.isNone)) = false := by rfl) :
    JE X (.Call (.Name x p) (a :: es) kws pos) (dMakeK c sp n l perm ds dk) := hl ▸
  je_of (DG.pe_makeK G.mks G.ok (hr.mono hk) hg G.g hb pass0 ha hkw hall hks hdb he hpl) fun σ H Q h0_ => El54 h0_ fun ρ I S F P rs ok h q => ⟨ρ, I, S, F, _, rs, ok, h, fun xs S1 vs I1 H1 h1 e1 ok1 r1 => ⟨ρ, I1, S1, F, _, rs.mono e1, ok1, h1, fun ys S2 ws I2 H2 ⟨l1, l2, h2⟩ e2 ok2 r2 =>
    ⟨by rw [r1.len]; exact l1, by rw [r2.len]; exact l2, fun x dx nx nd ne =>
      ⟨_, I2, _, F, _, pick_rep (RepL.app (RepL.cons (by simp only [Rep]) (r1.mono e2)) r2) perm, ok2.newIns nx nd ne, h2 x (ok2.freshS nx), sees_make (q.mono (e1.trans e2))⟩⟩⟩⟩
end
/-- the def called x keeps its promise sp, called by keywords -/
structure DoesK (P : Program) (w : World) (K : PySem.W.Frag) (mg : Str → Option Value) (base : Heap) (k : Nat) (x : Str) (ps : List Str) (f : Addr) (fd : FuncData) (sp : DSp) : Prop where
  g : mg x = some (.ref f)
  kp : PySem.W.keepIn K (.ref f) = true
  ok : FnD P w K mg base k f fd ps sp
section
variable {X : Cx} {pos p : Pos} {a : Expr} {es : List Expr} {ds dk : DA} {k j n m : Nat} {x : Str} {ps ks : List Str} {f : Addr} {fd : FuncData} {sp : DSp} {perm : List Nat} {kws : List Keyword}
theorem je_gk (G : DoesK X.prog X.w X.K X.mg X.base k x ps f fd sp) (hr : DG.RoomG j X.A) (hb : KBn X.K fd ps n ks (pick perm) (pick perm)) (ha : JA X (a :: es) ds) (hkw : JK X kws dk) (hl : ks.length = m := by rfl) (hk : k ≤ j := by decide) (hg : Gl X x := by rfl)
    (hall : (backToKw pos (keywordEach kws X.env)).all (·.1.isSome) = true := by rfl) (hks : (backToKw pos (keywordEach kws X.env)).filterMap (·.1) = ks := by rfl)
    (hdb : (x == ("__debug__" : Str)) = false := by decide) (he : starEach (a :: es) X.env = (false, eval a X.env) :: starEach es X.env := by rfl)
    (hpl : ((backTo pos (starEach (a :: es) X.env)).any (·.1) || (backToKw pos (keywordEach kws X.env)).any (·.1.isNone)) = false := by rfl) :
    JE X (.Call (.Name x p) (a :: es) kws pos) (dCallK sp n m perm ds dk) := hl ▸ je_callK G.ok (hr.mono hk) hg G.g G.kp hb ha hkw hall hks hdb he hpl
end
/-! ### a, b = x, y where a, b are fields -/
/-- o.f as a target -/
def gFld (K : PySem.W.Frag) (ta : TE) (f : Str) : TG := fun v σ H Q => ta σ H fun x H2 => ∃ a C dx fs, x = .ref a ∧ H2 a = some (.ins C dx fs) ∧ Cls K C ∧ NoAttr K C f ∧ fs.length < 1000 ∧ Q σ (upd H2 a (.ins C dx (putF f v fs)))
theorem pg_fld {X : Cx} {o : Expr} {f : Str} {pos : Pos} {ta : TE} (ha : PE X o ta) : PG X (.Attribute o f pos) (gFld X.K ta f) := by
  refine ⟨fun pins s σ H v u Q I r h => ?_⟩
  rw [show assign (.Attribute o f pos) X.env u = (do
    let ov ← holding [u] (eval o X.env)
    standAt pos.atName
    holding [u, ov] (setAttr ov f u)
    release [u, ov] []) from rfl]
  refine wpAny_bind (wpAny_holding (thn (ha.run pins s σ H _ I h) fun ov s1 ⟨x, H1, I1, r1, a, C, dx, fs, ex, ea, c, n, l, q1⟩ => ?_))
  subst ex
  obtain rfl : ov = Value.ref a := r1
  refine wpAny_bind (wpAny_standAt (wpAny_bind (wpAny_holding (setattr_ok I1 ea c n l r fun s2 I2 => ?_))))
  exact wpAny_release ⟨σ, _, I2, q1⟩
/-- o.f, o.g = x, y -/
def dFld2 [CT] (c : Nat) (f g : Str) (i : Nat) (da db : DE) : DS := fun DD ρ S => da ρ S fun x S1 => db ρ S1 fun y S2 => ∃ p fs, ρ[i]? = some (some (.obj p)) ∧ S2 p = some (.ins (CT.at_ c) fs) ∧ fs.length < 900 ∧
  DD.nx ρ (supd S2 p (.ins (CT.at_ c) (putD g y (putD f x fs))))
theorem putD_len (f : Str) (x : D) : ∀ fs : List (Str × D), (putD f x fs).length ≤ fs.length + 1
  | [] => by simp [putD]
  | (g, y) :: r => by
    have := putD_len f x r
    show (if g = f then (g, x) :: r else (g, y) :: putD f x r).length ≤ _
    split <;> simp <;> omega
theorem supd_twice {S : Store} {a : Addr} {m m' : MO} : supd (supd S a m) a m' = supd S a m' := by
  funext b
  unfold supd
  split <;> rfl
section
variable [CT] {X : Cx} {a b : Expr} {c : Nat} {f g x y : Str} {pos p1 p2 p3 p4 pt pt2 : Pos} {da db : DE} {kt k2}
theorem js_fld2 (i : Nat) (cl : Cls X.K (CT.at_ c)) (n1 : NoAttr X.K (CT.at_ c) f) (n2 : NoAttr X.K (CT.at_ c) g) (h1 : PE X (.Name x p1) (tVar i)) (h2 : PE X (.Name y p3) (tVar i)) (hc : X.calm = true) (ha : JE X a da) (hb : JE X b db)
    (hst : starEach [a, b] X.env = (false, eval a X.env) :: starEach [b] X.env := by rfl) (hst2 : starEach [b] X.env = (false, eval b X.env) :: starEach [] X.env := by rfl)
    (ha1 : (assignEach [.Attribute (.Name x p1) f p2, .Attribute (.Name y p3) g p4] X.env).map (·.2) = assign (.Attribute (.Name x p1) f p2) X.env :: (assignEach [.Attribute (.Name y p3) g p4] X.env).map (·.2) := by rfl)
    (ha2 : (assignEach [.Attribute (.Name y p3) g p4] X.env).map (·.2) = assign (.Attribute (.Name y p3) g p4) X.env :: (assignEach [] X.env).map (·.2) := by rfl)
    (hn : (assignEach [.Attribute (.Name x p1) f p2, .Attribute (.Name y p3) g p4] X.env).length = 2 := by rfl) (hfi : (assignEach [.Attribute (.Name x p1) f p2, .Attribute (.Name y p3) g p4] X.env).findIdx? (·.1) = none := by rfl)
    (hs : swapsWithSole [.Tuple [.Attribute (.Name x p1) f p2, .Attribute (.Name y p3) g p4] kt pt] (.Tuple [a, b] k2 pt2) pos.line X.env = pure false := by rfl) (hw : swappedStores [.Tuple [.Attribute (.Name x p1) f p2, .Attribute (.Name y p3) g p4] kt pt] (.Tuple [a, b] k2 pt2) X.env = pure none := by rfl)
    (h0 : (assignEach [.Tuple [.Attribute (.Name x p1) f p2, .Attribute (.Name y p3) g p4] kt pt] X.env).map (·.2) = [assign (.Tuple [.Attribute (.Name x p1) f p2, .Attribute (.Name y p3) g p4] kt pt) X.env] := by rfl) :
    JS X (.Assign [.Tuple [.Attribute (.Name x p1) f p2, .Attribute (.Name y p3) g p4] kt pt] (.Tuple [a, b] k2 pt2) pos) (dFld2 c f g i da db) :=
  js_of (ps_asg (pe_tup (pa_cons ha (pa_cons hb pa_nil hst2) hst)) (pg_tup hc (pgs_cons (pg_fld h1) (pgs_cons (pg_fld h2) pgs_nil ha2) ha1) hn hfi) hs hw h0) fun D σ H h0_ => El54 h0_ fun ρ I S F DD rs ok h q =>
    ⟨ρ, I, S, F, _, rs, ok, h, fun x S1 v I1 H1 h1 e1 ok1 r1 => ⟨ρ, I1, S1, F, _, rs.mono e1, ok1, h1, fun y S2 w I2 H2 ⟨p, fs, ei, es, hl, h3⟩ e2 ok2 r2 => ⟨by show 2 ≤ sizeLine; decide, fun t ht => by
      have ok3 := ok2.newI (o := .tup [v, w]) ht
      have e3 : Same I2 (upd I2 t (.tup [v, w])) := same_new (ok2.freshI ht)
      refine ⟨t, [v, w], rfl, .inl (.inl upd_same), rfl, ?_⟩
      obtain ⟨dx, vs, hp, hd, rf⟩ := ok3.insAt es
      have ok4 := ok3.putIns (f := f) es hp hd rf ((r1.mono e2).mono e3)
      have rs3 := rs.mono ((e1.trans e2).trans e3)
      obtain ⟨u, hu, ru⟩ := rs3.2 i _ ei
      have es4 : (supd S2 p (.ins (CT.at_ c) (putD f x fs))) p = some (.ins (CT.at_ c) (putD f x fs)) := by unfold supd; rw [if_pos rfl]
      have l4 := putD_len f x fs
      obtain ⟨dx5, vs5, hp5, hd5, rf5⟩ := ok4.insAt es4
      have ok5 := ok4.putIns (f := g) es4 hp5 hd5 rf5 (r2.mono e3)
      rw [supd_twice] at ok5
      refine ⟨v, [w], rfl, u, hu, p, _, dx, vs, ru.obj_of, hp, cl, n1, by rw [rf.len]; omega, w, [], rfl, u, hu, p, _, dx5, vs5, ru.obj_of, hp5, cl, n2, by rw [rf5.len]; omega, rfl, ?_⟩
      exact q.nx _ _ _ _ _ h3 ((e1.trans e2).trans e3) ok5 rs3⟩⟩⟩
end
end DL

/-! min(xs, key=f) of ints, f a def of the module. -/
namespace DL
open PySem PySem.Spec PyProof.Rows L2
local macro_rules | `(tactic| omega) => `(tactic| first | assumption | lia)
theorem walksX {prog : Program} {w : World} {A : Around} (hh : A.handled = none) (It l : Addr) (ne : l ≠ It) (xs : List V) :
    WalksS prog w A It [It, l] [It] (fun a b => b = a) xs.length (fun i v => ∃ x, xs[i]? = some x ∧ RelV x v) (fun i s' => s'.heap.IsListIter It l i ∧ ∃ vs : List Value, Vals xs vs ∧ s'.heap.IsList l vs.toArray) where
  sub := fun b hb => by simp at hb; simp [hb]
  grefl := fun _ => rfl
  gtrans := fun a b c h1 h2 => h2.trans h1
  frame := fun i s h' tk ⟨h1, vs, h2, h3⟩ _ hk => ⟨h1.at fun o e => hk It (by simp) o e, vs, h2, h3.at fun o e => hk l (by simp) o e⟩
  item := fun i s Q E hi ⟨h1, vs, h2, h3⟩ hQ => by
    refine (Walks.list (prog := prog) (w := w) (A := A) hh It l ne vs.toArray).toS.item i s Q E (by rw [List.size_toArray, ← h2.length]; exact hi) ⟨h1, h3⟩ fun v s' hv hs hm => ?_
    refine hQ v s' ?_ ⟨hs.1, vs, h2, hs.2⟩ hm
    have hv' : vs[i]? = some v := by simpa using hv
    obtain ⟨x, hx⟩ : ∃ x, xs[i]? = some x := ⟨_, List.getElem?_eq_getElem hi⟩
    obtain ⟨u, hu, r⟩ := h2.get hx
    rw [hv'] at hu; cases hu
    exact ⟨x, hx, r⟩
  done := fun s Q E ⟨h1, vs, h2, h3⟩ hQ => by
    refine (Walks.list (prog := prog) (w := w) (A := A) hh It l ne vs.toArray).toS.done s Q E ?_ hQ
    rw [List.size_toArray, ← h2.length]
    exact ⟨h1, h3⟩
  self := fun i s Q E ⟨h1, _⟩ hQ => wpAny_pyIter_listiter h1 hQ
theorem RoomG_in1 {k : Nat} {A : Around} (h : DG.RoomG (k + 1) A) : DG.RoomG k A.in1 :=
  ⟨⟨h.r.hd, by have := h.r.dp; show A.depth + 3 * k + 5 < _; omega, by have := h.r.un; show A.units + 1 + 16 * k + 200 < _; omega⟩, h.g⟩
/-- the list's ints, what f makes of each: any of the least may be told -/
def dMinKey (sp : DSp) (a : DE) : DE := fun ρ S P => a ρ S fun x S1 => ∃ (ns : List Int) (kf : Int → Int), lstOf S1 x = some (ns.map .int) ∧ ns ≠ [] ∧ (∀ i, i ∈ ns → ∀ (S' : Store) (Q : D → Store → Prop), S' = S1 → Q (.int (kf i)) S' → sp [.int i] S' Q) ∧
  ∀ m, m ∈ ns → (∀ i, i ∈ ns → kf m ≤ kf i) → P (.int m) S1
theorem repL_nums {K : PySem.W.Frag} {I : Hp} : ∀ {ns : List Int} {xs : List V}, RepL K I (ns.map .int) xs → xs = ns.map V.int
  | [], xs, h => by simpa only [List.map_nil, RepL] using h
  | n :: ns, xs, h => by
    simp only [List.map_cons, RepL] at h
    obtain ⟨v, r, rfl, h1, h2⟩ := h
    rw [h1.int_of, repL_nums h2]; rfl
end DL

/-! min(xs, key=lambda x: ..): the lambda is made, its code object found in the table or laid there. -/
namespace LamD
open PySem PySem.Spec PyProof.Rows L2 LamX NdefX
/-- a lambda's words, its code object; it captures nothing -/
structure LF where
  qual : Str
  params : Arguments
  body : Expr
  scope : Scope
  c : Addr
/-- the object at f is the lambda F -/
def LamO (f : Addr) (F : LF) : HO := .ext fun h => ∃ (pm ctv : Value), h.get? f = some (PySem.W.kla_obj "<lambda>" F.qual F.params F.body F.scope [] pm F.c ctv)
theorem lamO_at {P : Program} {w : World} {H : Hp} {h : Heap} {f : Addr} {F : LF} (hok : HOk P w H h) (e : H f = some (LamO f F)) : ∃ (pm ctv : Value), h.get? f = some (PySem.W.kla_obj "<lambda>" F.qual F.params F.body F.scope [] pm F.c ctv) := by
  obtain ⟨z, _, _⟩ := hok f _ e
  exact z
/-- what the making of a lambda does to the heap: its code object found in the table, or laid there -/
structure LamStep (P : Addr) (q : Str) (f : Addr) (F : LF) (H H1 : Hp) : Prop where
  nf : H f = none
  ex : (∃ pos ps, H P = some (.tbl ps) ∧ codeAmong pos ps.toList = some (.ref F.c) ∧ H1 = upd H f (LamO f F)) ∨
    (∃ (pos : Pos) (ps : Array Value), H P = some (.tbl ps) ∧ TriplesOk ps.toList ∧ H F.c = none ∧ F.c ≠ f ∧ H1 = upd (upd (upd H P (.tbl (ps ++ #[rawInt pos.line, rawInt pos.col, .ref F.c]))) F.c (CodeO F.c q)) f (LamO f F))
section
variable {X : Cx} {pins : List (Addr × Obj)} {σ : L2.St} {H : Hp} {s : Shared}
theorem inv_lam {F : LF} {o : Obj} {t' : Nat} {pm ctv : Value} (I : Inv X pins σ H s) (ho : o = PySem.W.kla_obj "<lambda>" F.qual F.params F.body F.scope [] pm F.c ctv) :
    Inv X pins σ (upd H s.heap.objs.size (LamO s.heap.objs.size F)) { s with heap := s.heap.push o, toks := t' } := by
  subst ho
  refine I.laid (a := s.heap.objs.size) (fun b u e => Heap.get?_push_of_some _ e) (Nat.le_refl _) ?_
  have e : (s.heap.push (PySem.W.kla_obj "<lambda>" F.qual F.params F.body F.scope [] pm F.c ctv)).get? s.heap.objs.size = some (PySem.W.kla_obj "<lambda>" F.qual F.params F.body F.scope [] pm F.c ctv) := Heap.get?_push_size _ rfl
  exact ⟨⟨pm, ctv, e⟩, ⟨_, e⟩, fun h1 h2 ⟨p, t, z⟩ st => ⟨p, t, st _ z⟩⟩
theorem clo_nil {cells : List (Str × Addr)} : ∀ {names : List (Str × NameKind)}, (∀ y ∈ names, y.2 ≠ .free) → cloFrom cells names [] = [] := fun {names} h => by
  cases e : cloFrom cells names [] with
  | nil => rfl
  | cons z r =>
    obtain ⟨x, a⟩ := z
    have hm : (x, a) ∈ cloFrom cells names [] := by rw [e]; exact List.mem_cons_self ..
    rcases cloFrom_mem hm with k | ⟨k, _⟩
    · cases k
    · exact absurd rfl (h _ k)
/-- the lambda is made -/
theorem lam_make3 {c P : Addr} {params : Arguments} {body : Expr} {scope : Scope} {pos : Pos} {E : Value → Shared → Prop} {Q : Value → Shared → Prop} (I : Inv X pins σ H s) (TB : TabB X.base X.mg c P) (hcode : X.env.code = .ref c)
    (hT : TabS H P (X.env.qual ++ "<lambda>")) (hdef : defaultsOf params X.env = ([], [])) (hfree : ∀ y ∈ scope.names, y.2 ≠ .free)
    (h : ∀ (f c' : Addr) (H1 : Hp) (s' : Shared), Inv X pins σ H1 s' → LamStep P (X.env.qual ++ "<lambda>") f ⟨X.env.qual ++ "<lambda>", params, body, scope, c'⟩ H H1 → Q (.ref f) s') :
    wpAny (model X.prog X.w) X.A (eval (.Lambda params body scope pos) X.env) Q E s := by
  obtain ⟨ps, hP, ht, ha⟩ := hT
  refine PySem.W.kla_eval hdef ?_
  have bP : s.heap.BuiltinsAt X.mg P := TB.bm.keeps I.bk
  have hP' : s.heap.get? P = some { cls := .none, data := .fields ps } := I.hok P _ hP
  have hcl : closureFor scope X.env = pure [] := by
    have z := closure_ok (env := X.env) (scope := scope) fun y hy e => absurd e (hfree y hy)
    rw [clo_nil hfree] at z
    exact z
  cases hc : codeAmong pos ps.toList with
  | none =>
    refine PySem.W.kla_makeFunction (mg := X.mg) (c := c) (P := P) (ps := ps) hcl I.ok.glob (I.mod.glob.keeps I.bk) hcode (TB.code.keeps I.bk) hP' ht hc TB.gP bP fun c' ctv h' tk hx hge hlt hrec htb => ?_
    obtain ⟨c2, oc, vs, t, e2, hoc, hd, hv⟩ := hrec
    cases e2
    have nC : H c' = none := I.hok.fresh hge
    have I1 := inv_table (t' := tk) (more := #[rawInt pos.line, rawInt pos.col, .ref c']) (h' := h') I hP (fun b o hb e => hx b o hb e) htb hge ⟨oc, vs, t, hoc, hd, hv⟩
    have I2 := inv_lam (F := ⟨X.env.qual ++ "<lambda>", params, body, scope, c'⟩) (t' := tk) (pm := (X.mg "__name__").getD .none) (ctv := ctv) I1 rfl
    exact h h'.objs.size c' _ _ I2 ⟨I.hok.fresh (Nat.le_trans hge (Nat.le_of_lt hlt)), .inr ⟨pos, ps, hP, ht, nC, Nat.ne_of_lt hlt, rfl⟩⟩
  | some cv =>
    obtain ⟨c', e, hco⟩ := ha pos cv hc
    subst e
    refine PySem.W.kla_makeFunctionHit (mg := X.mg) (c := c) (P := P) (ps := ps) hcl I.ok.glob (I.mod.glob.keeps I.bk) hcode (TB.code.keeps I.bk) hP' ht hc bP fun ctv h' tk hx hsz => ?_
    have I1 : Inv X pins σ H { s with heap := h', toks := tk } := I.kept fun b o e => hx b o e
    have I2 := inv_lam (F := ⟨X.env.qual ++ "<lambda>", params, body, scope, c'⟩) (t' := tk) (pm := (X.mg "__name__").getD .none) (ctv := ctv) I1 rfl
    exact h h'.objs.size c' _ _ I2 ⟨I.hok.fresh hsz, .inl ⟨pos, ps, hP, hc, rfl⟩⟩
def tLam (P : Addr) (q : Str) (params : Arguments) (body : Expr) (scope : Scope) : TE := fun _ H Q => TabS H P q ∧ ∀ (f c' : Addr) (H1 : Hp), LamStep P q f ⟨q, params, body, scope, c'⟩ H H1 → Q (.ref f) H1
theorem pe_lam {c P : Addr} {params : Arguments} {body : Expr} {scope : Scope} {pos : Pos} {q : Str} (TB : TabB X.base X.mg c P) (hcode : X.env.code = .ref c) (hq : X.env.qual ++ "<lambda>" = q) (hdef : defaultsOf params X.env = ([], [])) (hfree : ∀ y ∈ scope.names, y.2 ≠ .free) :
    PE X (.Lambda params body scope pos) (tLam P q params body scope) := by
  subst hq
  refine ⟨fun pins s σ H Q I h => ?_⟩
  exact lam_make3 I TB hcode h.1 hdef hfree fun f c' H1 s' I1 st => ⟨.ref f, H1, I1, rfl, h.2 f c' H1 st⟩
end
/-- the lambda called with one thing -/
theorem lam_run {P : Program} {w : World} {K : PySem.W.Frag} {mg : Str → Option Value} {base : Heap} {k : Nat} {f : Addr} {F : LF} {N : List Str} {x : Str} {t : TE} {A : Around} {outer : List Env} {s : Shared} {H : Hp} {u : Value} {v : V} {Q : VK}
    (e : H f = some (LamO f F)) (ec : H F.c = some (CodeO F.c F.qual)) (S : FnScope N [x] F.scope) (hr : DG.RoomG (k + 1) A) (e0 : Env0 P w K mg base A outer s H) (rv : RelV v u)
    (hb : ∀ pm ctv, bindArgs (PySem.W.kla_fn "<lambda>" F.qual F.params F.body F.scope [] pm (.ref F.c) ctv) ⟨[u], []⟩ = pure [(x, u)])
    (hbody : ∀ (A : Around) (outer : List Env) (s : Shared) (H : Hp) (E : XK), DG.RoomG k (A.deeper (envOfC F.qual F.scope s.heap.objs.size f (.ref F.c))) → PE (cxOf CX0 P w K mg base N F.qual F.scope f (.ref F.c) A outer s H E) F.body t)
    (h : t (start N [v]) H Q) : codeAny (model P w) A (.call (.ref f) ⟨[u], []⟩) (CR CX0 outer P w H s Q E0) s := by
  obtain ⟨pm, ctv, ho⟩ := lamO_at e0.hok e
  have lim : s.heap.NoLimit := e0.mod.nolimit.keeps fun b o e => (e0.bs b o e).1
  refine PySem.W.kla_callFunE hr.r.depth ho rfl S.co S.gen rfl (codeO_at e0.hok ec) ?_
  rw [hb]
  have hkind : ∀ y ∈ [(x, u)], F.scope.names.lookup y.1 = some .local ∨ (F.scope.names.lookup y.1 = some .cell ∧ ((cellsFrom (s.heap.objs.size + 1) F.scope.names []).lookup y.1).isSome = true) := fun y hy => by
    obtain rfl := List.mem_singleton.mp hy
    rcases S.par x (List.mem_singleton.mpr rfl) with q | q
    · exact .inl q
    · exact .inr ⟨q, PySem.W.cellsFrom_some _ _ _ (.inl q)⟩
  refine wpAny_pure (wpAny_newFunctionEnv_cells S.kind hkind fun env he s1 xx => ?_)
  subst he
  refine ⟨lim.keeps xx.toInCall.keep, ?_⟩
  have I : Inv (cxOf CX0 P w K mg base N F.qual F.scope f (.ref F.c) A outer s H E0) [] (start N [v]) H s1 := inv_start (us := [u]) S hr.r.hd e0 rfl (.cons rv .nil) xx
  refine PySem.W.kla_codeExpr (wpAny_mono ((hbody A outer s H E0 (hr.deeper _)).run [] s1 _ H Q I h) (fun z s' hs => ?_) fun e s' hs => hs)
  obtain ⟨v', H', J, rv', q⟩ := hs
  exact ⟨v', H', J.os, J.bare, J.base, J.hok, rv', q⟩
end LamD
namespace DL
open PySem PySem.Spec PyProof.Rows L2 LamX LamD
local macro_rules | `(tactic| omega) => `(tactic| first | assumption | lia)
theorem upd_comm {H : Hp} {a b : Addr} {o u : HO} (n : a ≠ b) : upd (upd H a o) b u = upd (upd H b u) a o := by
  funext z
  by_cases h1 : z = a
  · subst h1
    rw [upd_ne n, upd_same, upd_same]
  · by_cases h2 : z = b
    · subst h2
      rw [upd_same, upd_ne h1, upd_same]
    · rw [upd_ne h2, upd_ne h1, upd_ne h1, upd_ne h2]
theorem supd_id {S : Store} {p : Addr} {m : MO} (e : S p = some m) : supd S p m = S := by
  funext z
  unfold supd
  split
  · rename_i h; subst h; exact e.symm
  · rfl
theorem Ok.tabS {K : PySem.W.Frag} {I : Hp} {S : Store} {F H : Hp} {P : Addr} {q : Str} (ok : Ok K I S F H) (e : S P = some (.tab q)) : TabS H P q := by
  obtain ⟨_, ps, h1, h2, h3⟩ := ok.s P _ e
  refine ⟨ps, h1, h2, fun pos cv hc => ?_⟩
  obtain ⟨c, e1, e2⟩ := h3 pos cv hc
  exact ⟨c, e1, ok.i _ _ e2⟩
/-- behind the making all data stand as they did -/
theorem Ok.lam {K : PySem.W.Frag} {I : Hp} {S : Store} {F H H1 : Hp} {P f : Addr} {q : Str} {L : LF} (ok : Ok K I S F H) (e : S P = some (.tab q)) (st : LamStep P q f L H H1) :
    ∃ I1, Same I I1 ∧ Ok K I1 S F H1 ∧ I1 f = some (LamO f L) ∧ I1 L.c = some (CodeO L.c q) := by
  obtain ⟨nf, st⟩ := st
  obtain ⟨i0, ps0, t1, t2, t3⟩ := ok.s P _ e
  rcases st with ⟨pos, ps, hP, hc, rfl⟩ | ⟨pos, ps, hP, ht, nC, nf2, rfl⟩
  · rw [hP] at t1; cases t1
    obtain ⟨c, e1, e2⟩ := t3 pos _ hc
    cases e1
    refine ⟨upd I f (LamO f L), same_new (ok.freshI nf), ok.newI nf, upd_same, ?_⟩
    rw [upd_ne (ne_of_none e2 (ok.freshI nf))]; exact e2
  · rw [hP] at t1; cases t1
    have nPc : P ≠ L.c := ne_of_none hP nC
    have nPf : P ≠ f := ne_of_none hP nf
    have ok1 := ok.newI (o := CodeO L.c q) nC
    have ok2 : Ok K (upd I L.c (CodeO L.c q)) S F (upd (upd H L.c (CodeO L.c q)) P (.tbl (ps0 ++ #[rawInt pos.line, rawInt pos.col, .ref L.c]))) := by
      have w := ok1.write (p := P) (m' := .tab q) (o := .tbl (ps0 ++ #[rawInt pos.line, rawInt pos.col, .ref L.c])) e (fun y z => by
        rw [upd_ne nPc, hP] at z; cases z) ⟨_, upd_same, by
          rw [show (ps0 ++ #[rawInt pos.line, rawInt pos.col, .ref L.c]).toList = ps0.toList ++ [rawInt pos.line, rawInt pos.col, .ref L.c] by simp]
          exact PySem.TriplesOk_snoc _ _ _ _ ht, fun p' cv hcv => by
          rw [show (ps0 ++ #[rawInt pos.line, rawInt pos.col, .ref L.c]).toList = ps0.toList ++ [rawInt pos.line, rawInt pos.col, .ref L.c] by simp] at hcv
          rcases among_app _ ht hcv with z | z
          · obtain ⟨c0, e1, e2⟩ := t3 p' cv z
            exact ⟨c0, e1, same_new (ok.freshI nC) _ _ e2⟩
          · exact ⟨L.c, z, upd_same⟩⟩
      rwa [supd_id e] at w
    rw [upd_comm nPc.symm] at ok2
    have nf3 : upd (upd H P (.tbl (ps0 ++ #[rawInt pos.line, rawInt pos.col, .ref L.c]))) L.c (CodeO L.c q) f = none := by
      rw [upd_ne nf2.symm, upd_ne nPf.symm]; exact nf
    have ok3 := ok2.newI (o := LamO f L) nf3
    refine ⟨_, (same_new (ok.freshI nC)).trans (same_new (ok2.freshI nf3)), ok3, upd_same, ?_⟩
    rw [upd_ne nf2, upd_same]
/-- the list's ints, what the lambda's body makes of each: any of the least may be told -/
def dMinLam (P : Addr) (q : Str) (db : DE) (a : DE) : DE := fun ρ S R => a ρ S fun x S1 => S1 P = some (.tab q) ∧ ∃ (ns : List Int) (kf : Int → Int), lstOf S1 x = some (ns.map .int) ∧ ns ≠ [] ∧ (∀ i, i ∈ ns → ∀ (S' : Store) (Q : D → Store → Prop), S' = S1 → Q (.int (kf i)) S' → db [some (.int i)] S' Q) ∧
  ∀ m, m ∈ ns → (∀ i, i ∈ ns → kf m ≤ kf i) → R (.int m) S1
def rMinLam (K : PySem.W.Frag) (q : Str) (params : Arguments) (body : Expr) (scope : Scope) (db : DE) : List V → List V → Hp → VK → Prop := fun vs zs H Q => ∃ (x : D) (v : V) (f c' : Addr) (I : Hp) (S : Store) (F : Hp) (P : D → Store → Prop) (ns : List Int) (kf : Int → Int), vs = [v] ∧ zs = [V.ref f] ∧ Ok K I S F H ∧
  I f = some (LamO f ⟨q, params, body, scope, c'⟩) ∧ I c' = some (CodeO c' q) ∧ Rep K I x v ∧ lstOf S x = some (ns.map .int) ∧ ns ≠ [] ∧
  (∀ i : Int, i ∈ ns → ∀ (S' : Store) (Q : D → Store → Prop), S' = S → Q (.int (kf i)) S' → db [some (.int i)] S' Q) ∧ Sees K I F P Q ∧ ∀ m : Int, m ∈ ns → (∀ i, i ∈ ns → kf m ≤ kf i) → P (.int m) S
theorem cr_minLam {X : Cx} {k : Nat} {N : List Str} {y q : Str} {params : Arguments} {body : Expr} {scope : Scope} {db : DE} (hc : X.calm = true) (S0 : FnScope N [y] scope) (hN : N = [y]) (hr : DG.RoomG (k + 2) X.A)
    (hb : ∀ (u : Value) (pm cv ctv : Value), bindArgs (PySem.W.kla_fn "<lambda>" q params body scope [] pm cv ctv) ⟨[u], []⟩ = pure [(y, u)])
    (hbody : ∀ (f c' : Addr) (A : Around) (outer : List Env) (s : Shared) (H : Hp) (E : XK), DG.RoomG k (A.deeper (envOfC q scope s.heap.objs.size f (.ref c'))) → JE (cxOf CX0 X.prog X.w X.K X.mg X.base N q scope f (.ref c') A outer s H E) body db) :
    CallRK X (.builtin "min") [Str.ofString "key"] (rMinLam X.K q params body scope db) := by
  rintro pins s σ H xs zs us ws Q I r1 r2 ⟨x, v, f, c', I0, S, F, P, ns, kf, rfl, rfl, ok, hf0, hc0, rep, hl, hne, hsp, hq, fin⟩
  obtain ⟨l, xs, rfl, hsq, rl⟩ := lst_sq ok rep hl
  obtain rfl := repL_nums rl
  cases r1 with
  | cons ra rn =>
  cases rn
  cases r2 with
  | cons rb rn =>
  cases rn
  cases ra
  cases rb
  show wpAny (model X.prog X.w) X.A (call (.builtin "min") [.ref l] [(Str.ofString "key", .ref f)]) (EP X pins σ Q) X.xe s
  obtain ⟨its, rv, pl, hz⟩ := I.list hsq
  have hd := I.ok.hd hc
  have hlt : l < s.heap.objs.size := by obtain ⟨_, e, _⟩ := pl.isList; exact Heap.lt_size e
  refine call_min_walkK (wpAny_pyIter_list pl.isList ?_)
  let s2 : Shared := { s with heap := s.heap.push { cls := .type "list_iterator", data := .fields #[.ref l, .int 0 0] } }
  have hs2 : s2 = { s with heap := s.heap.push { cls := .type "list_iterator", data := .fields #[.ref l, .int 0 0] } } := rfl
  have I2 : Inv X pins σ H s2 := I.kept (t' := s.toks) fun b o e => Heap.get?_push_of_some _ e
  have sz2 : s2.heap.objs.size = s.heap.objs.size + 1 := Heap.size_push ..
  have neS : s2.heap.objs.size ≠ s.heap.objs.size := by omega
  refine ⟨s.heap.objs.size, _, _, _, _, _, _, fun s' => ∃ I' H', Same I0 I' ∧ Ok X.K I' S F H' ∧ Inv X pins σ H' s' ∧ (∀ b ∈ [s2.heap.objs.size, s.heap.objs.size], FpOk X pins H' b), fun i u _ => ∃ t, u = Value.int (kf (ns.getD i 0)) t, fun i j => decide (kf (ns.getD i 0) < kf (ns.getD j 0)), rfl,
    walksX (A := X.A.in1) hd s.heap.objs.size l (Nat.ne_of_lt hlt) (ns.map V.int), ⟨⟨_, Heap.get?_push_size _ rfl, rfl, rfl⟩, its, rv, pl.isList.push _⟩, ?_, ?_, ?_, ?_, ?_⟩
  · intro b hb
    refine Nat.lt_of_lt_of_eq ?_ sz2.symm
    rcases List.mem_cons.mp hb with rfl | hb
    · exact Nat.lt_succ_self _
    · rcases List.mem_cons.mp hb with rfl | hb
      · exact Nat.lt_succ_of_lt hlt
      · cases hb
  · rw [List.length_map]; exact List.length_pos_iff.mpr hne
  · refine ⟨?_, fun i u s1 s1' h _ => h, ?_, ?_⟩
    · rintro s1 s1' ⟨I', H', e1, ok1, J1, hf⟩ m
      obtain ⟨h1, g1, d1, t1, o1⟩ := s1
      obtain ⟨h2, g2, d2, t2, o2⟩ := s1'
      obtain rfl : g2 = g1 := m.gens
      obtain rfl : d2 = d1 := m.drawn
      obtain rfl : o2 = o1 := m.os
      exact ⟨I', H', e1, ok1, J1.turnedL (h' := h2) (t' := t2) (fun b o hb e => m.heap b o hb e) hf, hf⟩
    · rintro i u s1 o Q' E hi ⟨z, hz1, rz⟩ ⟨I', H', e1, ok1, J1, hf⟩ ⟨hit, vs, rvs, hlst⟩ hS hQ
      rw [List.length_map] at hi
      rw [List.getElem?_map, List.getElem?_eq_getElem hi] at hz1
      cases hz1
      have eg : ns.getD i 0 = ns[i] := by rw [List.getD_eq_getElem?_getD, List.getElem?_eq_getElem hi]; rfl
      obtain ⟨t, rfl⟩ := (show ∃ t, u = Value.int ns[i] t from rz)
      have fS := hf _ (List.mem_cons_self ..)
      have fI := hf _ (List.mem_cons_of_mem _ (List.mem_cons_self ..))
      have hspi : upE X.K db (start N [V.int ns[i]]) H' (fun w H2 => ∃ I2, Same I' I2 ∧ Ok X.K I2 S F H2 ∧ w = .int (kf ns[i])) := by
        subst hN
        refine ⟨[some (.int ns[i])], I', S, F, fun w S2 => S2 = S ∧ w = .int (kf ns[i]), ?_, ok1, hsp _ (List.getElem_mem hi) S _ rfl ⟨rfl, rfl⟩, ?_⟩
        · refine ⟨rfl, fun j d e => ?_⟩
          match j, e with
          | 0, e => cases e; exact ⟨.int ns[i], rfl, rep_int⟩
        · rintro w S2 v2 I2 H2 ⟨rfl, rfl⟩ e2 ok2 rw2
          exact ⟨I2, e2, ok2, rw2.int_of⟩
      refine wpAny_call (codeAny_mono (lam_run (A := X.A.in1) (outer := X.stack) (F := ⟨q, params, body, scope, c'⟩) (N := N) (x := y) (t := upE X.K db) (ok1.i _ _ (e1 _ _ hf0)) (ok1.i _ _ (e1 _ _ hc0)) S0 (RoomG_in1 hr) J1.env0.in1 rz (fun pm ctv => hb _ _ _ _) (fun A outer s H E hr' => hbody f c' A outer s H E hr') hspi) fun r s' hq' => ?_)
      cases r with
      | error e => exact hq'.elim
      | ok fl =>
        cases fl with
        | ret u' =>
          obtain ⟨w2, H2, os, bare, un, hok, rw2, I2', e2, ok2, ew⟩ := hq'
          subst ew
          obtain ⟨t2, rfl⟩ := (show ∃ t, u' = Value.int (kf ns[i]) t from rw2)
          have nfr : ∀ b, FpOk X pins H' b → b ∉ frs X.stack := fun b h z => (List.mem_cons.mp (J1.stkSub b z)).elim (fun q => h.2.1 q) fun q => h.2.2.1 q
          obtain ⟨oI, hoI, hoc, hod⟩ := hit
          have kS := un.keep _ o hS fS.1 (nfr _ fS) (by simp)
          have kI := un.keep _ oI hoI fI.1 (nfr _ fI) (by simp)
          have J2 : Inv X pins σ H2 s' := by
            obtain ⟨hh, g, d, t, os'⟩ := s'
            obtain rfl : os' = s1.os := os
            exact J1.call (h' := hh) (g' := g) (d' := d) (t' := t) (ch := []) un hok bare (fun b z => absurd z (by simp))
          have hf2 : ∀ b ∈ [s2.heap.objs.size, s.heap.objs.size], FpOk X pins H2 b := fun b hb => by
            have h0 := hf b hb
            rcases List.mem_cons.mp hb with rfl | hb
            · exact ⟨un.free _ o hS h0.1 (by simp), h0.2⟩
            · rcases List.mem_cons.mp hb with rfl | hb
              · exact ⟨un.free _ oI hoI h0.1 (by simp), h0.2⟩
              · cases hb
          have rep2 := (rep.mono (e1.trans e2) : Rep X.K I2' x (.ref l))
          obtain ⟨l', xs', el, hsq', rl'⟩ := lst_sq ok2 rep2 hl
          cases el
          obtain rfl := repL_nums rl'
          obtain ⟨its', rv', pl', _⟩ := J2.list hsq'
          refine hQ (.int (kf ns[i]) t2) s' ⟨I2', H2, e1.trans e2, ok2, J2, hf2⟩ ⟨⟨oI, kI, hoc, hod⟩, its', rv', pl'.isList⟩ kS ⟨t2, by rw [eg]⟩ fun j k' h => h
        | next => exact hq'.elim
        | brk => exact hq'.elim
        | cont => exact hq'.elim
    · rintro i j ki kj s1 Q' E _ hi hj q
      exact CmpOf.ints_lt (prog := X.prog) (w := X.w) (A := X.A.in1) (P := fun i v => ∃ t, v = Value.int (kf (ns.getD i 0)) t) (fun i => kf (ns.getD i 0)) (fun i v h => h) i j ki kj _ _ _ hi hj q
  · refine ⟨I0, H, Same.refl I0, ok, I2, fun b hb => ?_⟩
    rcases List.mem_cons.mp hb with rfl | hb
    · exact I2.fpOk (Nat.le_refl _) (I2.hok.fresh (Nat.le_refl _))
    · rcases List.mem_cons.mp hb with rfl | hb
      · exact I.fpOk (Nat.le_refl _) (I.hok.fresh (Nat.le_refl _))
      · cases hb
  · rintro v s' ⟨z, hz1, rz⟩ ⟨I', H', e1, ok1, J1, hf⟩
    rw [List.length_map] at hz1
    have ab := argBest_lt (fun i => kf (ns.getD i 0)) (ns.length - 1)
    have hpos : 0 < ns.length := List.length_pos_iff.mpr hne
    generalize argBest (fun i j => decide (kf (ns.getD i 0) < kf (ns.getD j 0))) (ns.length - 1) = m at *
    have hm : m < ns.length := by omega
    rw [List.getElem?_map, List.getElem?_eq_getElem hm] at hz1
    cases hz1
    have gd : ∀ j, ∀ h : j < ns.length, ns.getD j 0 = ns[j] := fun j h => by rw [List.getD_eq_getElem?_getD, List.getElem?_eq_getElem h]; rfl
    refine ⟨.int ns[m], H', J1, rz, hq _ _ _ _ _ (fin _ (List.getElem_mem hm) fun i hi => ?_) e1 ok1 rep_int⟩
    obtain ⟨j, hj, rfl⟩ := List.mem_iff_getElem.mp hi
    have := ab.2 j (by omega)
    rwa [gd j hj, gd m hm] at this
theorem je_minLam {X : Cx} {pos p lpos kp : Pos} {a : Expr} {da db : DE} {k j : Nat} {c P : Addr} {y q : Str} {params : Arguments} {body : Expr} {scope : Scope} (hm : X.mg "min" = none) (TB : TabB X.base X.mg c P) (hcode : X.env.code = .ref c) (hq : X.env.qual ++ "<lambda>" = q) (hr : DG.RoomG j X.A) (ha : JE X a da)
    (S0 : FnScope [y] [y] scope) (hbody : ∀ (f c' : Addr) (A : Around) (outer : List Env) (s : Shared) (H : Hp) (E : XK), DG.RoomG k (A.deeper (envOfC q scope s.heap.objs.size f (.ref c'))) → JE (cxOf CX0 X.prog X.w X.K X.mg X.base [y] q scope f (.ref c') A outer s H E) body db)
    (hk : k + 2 ≤ j := by decide) (hc : X.calm = true := by rfl) (hg : Gl X "min" := by rfl) (hdef : defaultsOf params X.env = ([], []) := by rfl) (hfree : ∀ z ∈ scope.names, z.2 ≠ .free := by decide)
    (hb : ∀ (u : Value) (pm cv ctv : Value), bindArgs (PySem.W.kla_fn "<lambda>" q params body scope [] pm cv ctv) ⟨[u], []⟩ = pure [(y, u)] := by intro _ _ _ _; rfl)
    (hst : starEach [a] X.env = (false, eval a X.env) :: starEach [] X.env := by rfl)
    (he : backTo pos (starEach [a] X.env) = (false, eval a X.env) :: backTo pos (starEach [] X.env) := by rfl) (hpl : (backTo pos (starEach [a] X.env)).any (·.1) = false := by rfl)
    (hall : (backToKw pos (keywordEach [⟨some "key", .Lambda params body scope lpos, kp⟩] X.env)).all (·.1.isSome) = true := by rfl) (hnone : (backToKw pos (keywordEach [⟨some "key", .Lambda params body scope lpos, kp⟩] X.env)).any (·.1.isNone) = false := by rfl) (hks : (backToKw pos (keywordEach [⟨some "key", .Lambda params body scope lpos, kp⟩] X.env)).filterMap (·.1) = [Str.ofString "key"] := by rfl) :
    JE X (.Call (.Name "min" p) [a] [⟨some "key", .Lambda params body scope lpos, kp⟩] pos) (dMinLam P q db da) :=
  je_of (pe_callBK (cr_minLam (db := db) hc S0 rfl (hr.mono hk) hb hbody) hg hm (by decide +kernel) (pa_cons ha pa_nil hst) (pk_cons (pe_lam TB hcode hq hdef hfree) pk_nil) (by decide) (by decide) he hpl hall hnone hks) fun σ H Q h0_ => El54 h0_ fun ρ I S F R rs ok h q' =>
    ⟨ρ, I, S, F, _, rs, ok, h, fun x S1 v I1 H1 ⟨ht, ns, kf, h1, h2, h3, h4⟩ e1 ok1 r1 => ⟨ok1.tabS ht, fun f c' H2 st => by
      obtain ⟨I2, e2, ok2, a1, a2⟩ := ok1.lam ht st
      exact ⟨x, v, f, c', I2, S1, F, R, ns, kf, rfl, rfl, ok2, a1, a2, r1.mono e2, h1, h2, h3, q'.mono (e1.trans e2), h4⟩⟩⟩
end DL

/-! The law's end where a lambda's table of code objects may grow; a method that makes a lambda. -/
namespace LamD
open PySem PySem.Spec PyProof.Rows L2 LamX
/-- law_call where tables of code objects may grow (cs), for promises without guards -/
theorem law_callT {P : Program} {w : World} {K : PySem.W.Frag} {mg mb : Str → Option Value} {CX : CXT} {k : Nat} {fa a : Addr} {cs : List (Addr × Addr)} {fd : FuncData} {x : Str} {sp : Sp} {s₁ : Shared} {vs : List Value} {ns : List Int}
    (KX : K.In s₁.heap) (hns : s₁.heap.Ns mainGlobals mg) (hb : s₁.heap.Ns builtinsNs mb) (hbb : ∀ x : Str, x ≠ "__name__" → mb x = bootBuiltins x) (hlim : s₁.heap.NoLimit) (hg : s₁.gens = #[])
    (hT : ∀ p ∈ cs, s₁.heap.get? p.2 = some { cls := .none, data := .fields #[] }) (nT : ∀ p ∈ cs, K.lookup p.2 = none) (C : ∀ p ∈ cs, PySem.W.CodeHd s₁.heap p.1 p.2)
    (hbm : ∃ (bm : Addr) (ob : Obj), mg "__builtins__" = some (.ref bm) ∧ bm ≠ builtinsNs ∧ s₁.heap.get? bm = some ob ∧ ob.cls = .type "module" ∧ ob.dict = some builtinsNs ∧ ob.data = .plain)
    (ha : s₁.heap.get? a = some { cls := .type "list", data := .seq vs.toArray }) (hi : IntsAre vs ns) (hl : ns.length ≤ sizeLine) (hr : DG.RoomG k callerA)
    (F : ∀ base : Heap, K.In base → base.Ns mainGlobals mg → (∀ p ∈ cs, TabB base mg p.1 p.2) → DG.FnG P w K mg base CX k fa fd [x] sp) (hbind : ∀ (s : Shared) (u : Value), BindsTo s fd ⟨[u], []⟩ [(x, u)])
    (hsp : ∀ H : Hp, (∀ p ∈ cs, H p.2 = some (.tbl #[])) → SqL K H a (ns.map V.int) → sp [.ref a] H (fun v _ => v = .bl true) fun _ _ _ => False)
    (hCX : ∀ H e s', CX [] H s₁ (fun _ _ _ => False) e s' → False) :
    codeAny (model P w) callerA (.call (.ref fa) ⟨[.ref a], []⟩) (fun r s' => r = .ok (.ret (.bool true)) ∧ OldK s₁.heap s'.heap ∧ s'.os = s₁.os ∧ AllBare s'.gens) s₁ := by
  have rv := vals_ints hi
  have lenV := hi.length
  have isT : ∀ b : Addr, b ∈ cs.map (·.2) → s₁.heap.get? b = some { cls := .none, data := .fields #[] } := fun b hb => by
    obtain ⟨p, hp, e⟩ := List.mem_map.mp hb
    rw [← e]
    exact hT p hp
  have aT : a ∉ cs.map (·.2) := fun z => by
    have q := isT a z
    rw [ha] at q
    have z' : Data.seq vs.toArray _ = Data.fields #[] := congrArg Obj.data (Option.some.inj q)
    cases z'
  have memT : ∀ p ∈ cs, p.2 ∈ cs.map (·.2) := fun p hp => List.mem_map.mpr ⟨p, hp, rfl⟩
  -- from an abstract heap in which nothing but the script and the tables may be tracked
  have core : ∀ H : Hp, (∀ p ∈ cs, H p.2 = some (.tbl #[])) → (∀ b, H b = none ∨ b ∈ cs.map (·.2) ∨ ∃ o xs, H b = some (.frz o (.lst xs))) → SqL K H a (ns.map V.int) → HOk P w H s₁.heap → (∀ b, H b ≠ none → b = a ∨ b ∈ cs.map (·.2)) → (H a ≠ none → K.lookup a = none) →
      codeAny (model P w) callerA (.call (.ref fa) ⟨[.ref a], []⟩) (fun r s' => r = .ok (.ret (.bool true)) ∧ OldK s₁.heap s'.heap ∧ s'.os = s₁.os ∧ AllBare s'.gens) s₁ := by
    intro H hH hO hS hok hA hK
    have base_of : ∀ {b : Addr} {o : Obj}, s₁.heap.get? b = some o → H b = none → (hidT s₁.heap H).get? b = some o := fun e n => hidT_get e n
    have noD : ∀ {b : Addr} {o : Obj}, s₁.heap.get? b = some o → (∀ vs n, o.data ≠ .seq vs n) → o.data ≠ .fields #[] → H b = none := fun {b o} e h1 h2 => by
      cases q : H b with
      | none => rfl
      | some u =>
        rcases hA b (by rw [q]; simp) with e' | e'
        · rw [e', ha] at e
          cases e
          exact (h1 _ _ rfl).elim
        · rw [isT b e'] at e
          cases e
          exact (h2 rfl).elim
    have noA : ∀ {b : Addr} {o : Obj} {es : Array DictEntry} {ep : Nat}, s₁.heap.get? b = some o → o.data = .dict es ep → H b = none := fun {b o es ep} e d => by
      refine noD e (fun vs n z => ?_) fun z => ?_
      · rw [d] at z
        cases z
      · rw [d] at z
        cases z
    have nsK : ∀ {b : Addr} {m : Str → Option Value}, s₁.heap.Ns b m → (hidT s₁.heap H).Ns b m := fun {b m} ⟨o, es, ep, e, d, r⟩ => ⟨o, es, ep, base_of e (noA e d), d, r⟩
    have hKb : K.In (hidT s₁.heap H) := fun b o e => base_of (KX b o e) (by
      cases q : H b with
      | none => rfl
      | some u =>
        rcases hA b (by rw [q]; simp) with e' | e'
        · rw [e'] at e q
          rw [hK (by rw [q]; simp)] at e
          cases e
        · obtain ⟨p, hp, ep⟩ := List.mem_map.mp e'
          rw [← ep, nT p hp] at e
          cases e)
    have hM : L2.Mod K mg (hidT s₁.heap H) := ⟨hKb, nsK hns, ⟨mb, nsK hb, hbb⟩, let ⟨mc, h1, h2⟩ := hlim; ⟨mc, nsK h1, h2⟩⟩
    have TB : ∀ p ∈ cs, TabB (hidT s₁.heap H) mg p.1 p.2 := fun p hp => by
      have hTp := hT p hp
      refine ⟨?_, ?_, fun z => ?_⟩
      · obtain ⟨o, us, file, tf, flags, tg, inF, text, tt, e1, r1, r2, r3, r4, r5, r6, r7, r8, hne⟩ := C p hp
        refine ⟨o, us, file, tf, flags, tg, inF, text, tt, base_of e1 (noD e1 (fun vs n z => ?_) fun z => ?_), r1, r2, r3, r4, r5, r6, r7, r8, hne⟩
        · rw [r2] at z
          cases z
        · rw [r2] at z
          cases z
          simp at r3
      · obtain ⟨bm, ob, b1, b2, b3, b4, b5, b6⟩ := hbm
        have nG : bm ≠ mainGlobals := fun q => by
          obtain ⟨o, es, ep, e, hd, _⟩ := hns
          rw [q, e] at b3
          cases b3
          rw [hd] at b6
          cases b6
        have nP : bm ≠ p.2 := fun q => by
          rw [q, hTp] at b3
          cases b3
          cases b6
        refine ⟨bm, ob, b1, b2, nG, nP, base_of b3 (noD b3 (fun vs n z => ?_) fun z => ?_), b4, b5, b6⟩
        · rw [b6] at z
          cases z
        · rw [b6] at z
          cases z
      · obtain ⟨o, es, ep, e, hd, _⟩ := hns
        rw [z, hTp] at e
        cases e
        cases hd
    have e0 : Env0 P w K mg (hidT s₁.heap H) callerA [] s₁ H := ⟨rfl, hM, fun b o e => of_hidT e, Nat.le_of_eq (hidT_size _ _), trivial, fun b hb => absurd (show b ∈ ([] : List Addr) from hb) (by simp), hok, .of_eq hg⟩
    refine codeAny_mono ((F _ hKb (nsK hns) TB).run callerA [] s₁ H ⟨[.ref a], []⟩ [.ref a] [.ref a] _ _ hr e0 (hbind s₁ (.ref a)) (.cons rfl .nil) (hsp H hH hS)) fun r s' h => ?_
    cases r with
    | error e => exact (hCX H e s' h).elim
    | ok fl =>
      cases fl with
      | next => exact False.elim h
      | brk => exact False.elim h
      | cont => exact False.elim h
      | ret u =>
        obtain ⟨v, H', os, bare, un, hok', r', q⟩ := h
        have q' : v = .bl true := q
        subst q'
        obtain rfl : u = Value.bool true := r'
        have key : ∀ b o, b ∉ cs.map (·.2) → s₁.heap.get? b = some o → s'.heap.get? b = some o := fun b o nb e => by
          cases q : H b with
          | none => exact un.keep b o e q (by intro z; exact absurd (show b ∈ ([] : List Addr) from z) (by simp)) (by simp)
          | some u =>
            rcases hO b with z | z | ⟨ob, xs, z⟩
            · rw [q] at z; cases z
            · exact absurd z nb
            · have z2 := un.frzs b ob _ z
              obtain ⟨e1, _⟩ := hok b _ z
              obtain ⟨e2, _⟩ := hok' b _ z2
              rw [e] at e1; cases e1
              exact e2
        have grown : ∀ p ∈ cs, ∃ more : Array Value, s'.heap.get? p.2 = some { cls := .none, data := .fields more } := fun p hp => by
          obtain ⟨more, z⟩ := un.tbls p.2 #[] (hH p hp)
          exact ⟨_, hok' p.2 _ z⟩
        refine ⟨rfl, ⟨fun b o e => ?_, fun b o e => ?_⟩, os, bare⟩
        · by_cases hb : b ∈ cs.map (·.2)
          · obtain ⟨p, hp, ep⟩ := List.mem_map.mp hb
            obtain ⟨more, hm⟩ := grown p hp
            rw [← ep] at e ⊢
            rw [hT p hp] at e
            cases e
            exact .inr (.inl ⟨((C p hp).tab (hT p hp)).isCodeTable, rfl, #[], more, rfl, by rw [Array.empty_append]; exact hm⟩)
          · exact .inl (key b o hb e)
        · by_cases hb : b ∈ cs.map (·.2)
          · obtain ⟨p, hp, ep⟩ := List.mem_map.mp hb
            obtain ⟨more, hm⟩ := grown p hp
            rw [← ep]
            exact ⟨_, hm⟩
          · exact ⟨o, key b o hb e⟩
  cases hk : K.lookup a with
  | some o =>
    have e := KX a o hk
    rw [ha] at e
    cases e
    refine core (fun b => if b ∈ cs.map (·.2) then some (.tbl #[]) else none) (fun p hp => if_pos (memT p hp)) (fun b => ?_) (.inr ⟨_, vs.toArray, _, hk, rfl, rfl, rfl, by rw [List.size_toArray, lenV]; exact hl, by simpa using rv⟩) (fun b u z => ?_) (fun b z => ?_) fun z => absurd (show (if a ∈ cs.map (·.2) then some (HO.tbl #[]) else none) = none from if_neg aT) z
    · by_cases hb : b ∈ cs.map (·.2)
      · exact .inr (.inl hb)
      · exact .inl (if_neg hb)
    · by_cases hb : b ∈ cs.map (·.2)
      · have z' := (if_pos hb).symm.trans z
        cases z'
        exact isT b hb
      · have z' := (if_neg hb).symm.trans z
        cases z'
    · by_cases hb : b ∈ cs.map (·.2)
      · exact .inr hb
      · exact absurd (if_neg hb) z
  | none =>
    refine core (fun b => if b = a then some (.frz { cls := .type "list", data := .seq vs.toArray } (.lst (ns.map V.int))) else if b ∈ cs.map (·.2) then some (.tbl #[]) else none) (fun p hp => (if_neg (show ¬ p.2 = a from fun z => aT (by rw [← z]; exact memT p hp))).trans (if_pos (memT p hp))) (fun b => ?_)
      (.inl (.inr ⟨{ cls := .type "list", data := .seq vs.toArray }, if_pos rfl⟩)) (fun b u z => ?_) (fun b z => ?_) fun _ => hk
    · by_cases hb : b = a
      · exact .inr (.inr ⟨_, _, if_pos hb⟩)
      · by_cases hb2 : b ∈ cs.map (·.2)
        · exact .inr (.inl hb2)
        · exact .inl ((if_neg hb).trans (if_neg hb2))
    · by_cases hb : b = a
      · have z' := (if_pos hb).symm.trans z
        cases z'
        rw [hb]
        exact ⟨ha, by rw [List.length_map]; exact hl, vs, _, rv, ha⟩
      · have z1 := (if_neg hb).symm.trans z
        by_cases hb2 : b ∈ cs.map (·.2)
        · have z' := (if_pos hb2).symm.trans z1
          cases z'
          exact isT b hb2
        · have z' := (if_neg hb2).symm.trans z1
          cases z'
    · by_cases hb : b = a
      · exact .inl hb
      · by_cases hb2 : b ∈ cs.map (·.2)
        · exact .inr hb2
        · exact absurd ((if_neg hb).trans (if_neg hb2)) z

theorem walk_ofT {l : PySem.W.OpenLaw} {n k : Nat} {q : Program} {loose : List Str} {XP : (Str → Option Value) → Heap → Prop} {YP : World → Heap → Prop} {d : DefRec} {K : Params → PySem.W.Frag} {CX : World → CXT} {sp : World → Addr → Sp} {x : Str}
    (hn : l.most = some n) (hn2 : n ≤ sizeLine) (hdf : d.params.defaults = []) (hr : DG.RoomG k callerA)
    (hY : ∀ (w : World) (h : Heap), YP w h → (K w.params).In h)
    (F : ∀ (w : World) (mg : Str → Option Value) (fa : Addr) (h : Heap), YP w h → (K w.params).In h → h.Ns mainGlobals mg → mg d.name = some (.ref fa) →
      ∃ (fd : FuncData) (c P : Addr), (∀ (s : Shared) (u : Value), BindsTo s fd ⟨[u], []⟩ [(x, u)]) ∧ h.get? P = some { cls := .none, data := .fields #[] } ∧ (K w.params).lookup P = none ∧ PySem.W.CodeHd h c P ∧
        ∀ base : Heap, (K w.params).In base → base.Ns mainGlobals mg → TabB base mg c P → DG.FnG l.prog w (K w.params) mg base (CX w) k fa fd [x] (sp w P))
    (hsp : ∀ (w : World) (H : Hp) (a P : Addr) (ns : List Int), ns.length ≤ n → H P = some (.tbl #[]) → SqL (K w.params) H a (ns.map V.int) → sp w P [.ref a] H (fun v _ => v = .bl true) fun _ _ _ => False)
    (hCX : ∀ (w : World) (H : Hp) (s : Shared) (e : Value) (s' : Shared), CX w [] H s (fun _ _ _ => False) e s' → False) :
    PySem.W.WalkO q loose XP YP l.row.toRowW d [] (fun f vs => PySem.call f vs) := by
  refine Att.attach_callB hn hdf fun w s₀ s₁ mg mb fa o pm cd doc a vs ns G Y ho hd hcd hmg hobj hints hlen hbits hg => ?_
  have KX := hY w _ Y
  obtain ⟨fd, c, P, hb, hT, nT, C, hF⟩ := F w mg fa _ Y KX G.T.g hmg
  exact law_callT (cs := [(c, P)]) KX G.T.g G.T.b G.T.builtins G.T.nolimit hg (fun p hp => by obtain rfl := List.mem_singleton.mp hp; exact hT) (fun p hp => by obtain rfl := List.mem_singleton.mp hp; exact nT) (fun p hp => by obtain rfl := List.mem_singleton.mp hp; exact C) G.T.bmain hobj hints (Nat.le_trans hlen hn2) hr
    (fun base b1 b2 b3 => hF base b1 b2 (b3 _ (List.mem_singleton.mpr rfl))) hb (fun H hH hS => hsp w H a P ns hlen (hH _ (List.mem_singleton.mpr rfl)) hS) fun H e s' => hCX w H s₁ e s'
/-- what the written part tells of a maker's code object -/
theorem codeHd {K : PySem.W.Frag} {h : Heap} {c P : Addr} (X : K.In h) (e : PySem.W.codeHdIn K c P = true) : PySem.W.CodeHd h c P := PySem.W.codeHd_of_K X e
end LamD
namespace DL
open PySem PySem.Spec PyProof.Rows L2 LamX LamD
local macro_rules | `(tactic| omega) => `(tactic| first | assumption | lia)
section
variable {P : Program} {w : World} {K : PySem.W.Frag} {mg : Str → Option Value} {base : Heap}
theorem fun_okT {x qual : Str} {st : Stmt} {f c : Addr} {fd : FuncData} {N ps : List Str} {k : Nat} {sp : Sp} (F : Fun K x qual st f fd) (hc : fd.code = .ref c) (S : FnScope N ps (defScope st)) (len : ∀ vs H Q E, sp vs H Q E → vs.length = ps.length)
    (hbody : ∀ (A : Around) (outer : List Env) (s : Shared) (H : Hp) (vs : List V) (Q : VK) (E : XK), DG.RoomG k (A.deeper (envOfC qual (defScope st) s.heap.objs.size f (.ref c))) → sp vs H Q E →
      ∃ t, PSs (cxOf CX0 P w K mg base N qual (defScope st) f (.ref c) A outer s H E).nox (defBody st) t ∧ t { nx := fun _ H' => Q .non H', rt := Q } (start N vs) H) : DG.FnG P w K mg base CX0 (k + 1) f fd ps sp := by
  obtain ⟨oc, od, kV, doc, pm, an, cdv, ct, osl, rfl, lk, hcd⟩ := F.ex
  have hc' : cdv = .ref c := hc
  subst hc'
  refine DG.fn_of lk hcd S len fun A outer s H vs Q E hr hsp => ?_
  obtain ⟨t, h, q⟩ := hbody A outer s H vs Q E hr hsp
  exact ⟨t, h.nox, q⟩
/-- a def that makes a lambda: its code object is known -/
theorem fn_dT {x qual : Str} {st : Stmt} {f c : Addr} {fd : FuncData} {N ps : List Str} {k : Nat} {sp : DSp} (F : Fun K x qual st f fd) (hc : fd.code = .ref c) (S : FnScope N ps (defScope st)) (len : ∀ ds S P, sp ds S P → ds.length = ps.length)
    (hbody : ∀ (A : Around) (outer : List Env) (s : Shared) (H : Hp) (E : XK), DG.RoomG k (A.deeper (envOfC qual (defScope st) s.heap.objs.size f (.ref c))) →
      ∃ d : DS, JSs (cxOf CX0 P w K mg base N qual (defScope st) f (.ref c) A outer s H E).nox (defBody st) d ∧ ∀ ds S P, sp ds S P → d (dEnd P) (ds.map some ++ List.replicate (N.length - ds.length) none) S) : FnD P w K mg base (k + 1) f fd ps sp := by
  refine fun_okT F hc S (fun vs H Q E h => ?_) (fun A outer s H vs Q E hr h => ?_)
  · obtain ⟨ds, I, S, F, P, r, ok, h, q⟩ := h
    rw [r.len]
    exact len _ _ _ h
  · obtain ⟨ds, I, S', F', P', r, ok, h, q⟩ := h
    obtain ⟨d, h1, h2⟩ := hbody A outer s H E hr
    refine ⟨_, h1, _, I, S', F', _, repS_start r, ok, h2 ds S' P' h, ⟨?_, q, ?_, ?_⟩⟩
    · intro ρ S2 σ I2 H2 p e2 ok2 _
      exact q _ _ _ _ _ p e2 ok2 rep_non
    · intro ρ S2 σ I2 H2 p e2 ok2 _
      exact p.elim
    · intro ρ S2 σ I2 H2 p e2 ok2 _
      exact p.elim
end
/-! ### the law's own promise, a table beside it -/
def sp_lawT [CT] (q : Str) : DSp := fun ds S R => ∃ ns : List Int, ds = [.ext (ns.map .int)] ∧ ns.length ≤ 63 ∧ S (CT.at_ 40) = some (.tab q) ∧ ∀ S', R (.bl true) S'
def spLawT (K : PySem.W.Frag) (P : Addr) : Sp := fun vs H Q _ => ∃ (a : Addr) (ns : List Int), vs = [.ref a] ∧ H P = some (.tbl #[]) ∧ SqL K H a (ns.map V.int) ∧ ns.length ≤ 63 ∧ ∀ H', Q (.bl true) H'
theorem law_upT [CT] {K : PySem.W.Frag} (q : Str) : ∀ vs H Q E, spLawT K (CT.at_ 40) vs H Q E → upSp K (sp_lawT q) vs H Q E := fun vs H Q E ⟨a, ns, e, hP, hs, hl, hq⟩ => by
  subst e
  refine ⟨[.ext (ns.map .int)], fun b => if b = a ∧ b ≠ CT.at_ 40 then H b else none, fun b => if b = CT.at_ 40 then some (.tab q) else none, fun _ => none, fun x _ => x = .bl true, RepL.one ?_, ⟨fun b o e => ?_, fun b m e => ?_, fun b o e => (nomatch e)⟩, ⟨ns, rfl, hl, if_pos rfl, fun _ => rfl⟩, fun x S' v I' H' p _ _ r => ?_⟩
  · simp only [Rep]
    refine ⟨a, _, rfl, ?_, repL_ints ns⟩
    rcases hs with (h | ⟨o, h⟩) | h
    · have na : a ≠ CT.at_ 40 := fun z => by rw [z, hP] at h; cases h
      exact .inl (.inl (by simpa [na] using h))
    · have na : a ≠ CT.at_ 40 := fun z => by rw [z, hP] at h; cases h
      exact .inl (.inr ⟨o, by simpa [na] using h⟩)
    · exact .inr h
  · by_cases z : b = a ∧ b ≠ CT.at_ 40
    · rw [if_pos z] at e; exact e
    · rw [if_neg z] at e; cases e
  · by_cases z : b = CT.at_ 40
    · subst z
      rw [if_pos rfl] at e; cases e
      exact ⟨if_neg fun z => z.2 rfl, #[], hP, True.intro, fun pos cv hc => by
        have z : codeAmong pos [] = some cv := hc
        simp [codeAmong] at z⟩
    · rw [if_neg z] at e; cases e
  · subst p
    rw [r.bl_of]
    exact hq H'
theorem lawT_len [CT] (q : Str) : ∀ ds S P, sp_lawT q ds S P → ds.length = 1 := fun ds S P ⟨ns, e, _⟩ => by rw [e]; rfl
end DL
namespace DL
open PySem PySem.Spec PyProof.Rows L2
local macro_rules | `(tactic| omega) => `(tactic| first | assumption | lia)
/-- o.f, o.g, o.h = x, y, z -/
def dFld3 [CT] (c : Nat) (f g k : Str) (i : Nat) (da db dc : DE) : DS := fun DD ρ S => da ρ S fun x S1 => db ρ S1 fun y S2 => dc ρ S2 fun z S3 => ∃ p fs, ρ[i]? = some (some (.obj p)) ∧ S3 p = some (.ins (CT.at_ c) fs) ∧ fs.length < 900 ∧
  DD.nx ρ (supd S3 p (.ins (CT.at_ c) (putD k z (putD g y (putD f x fs)))))
section
variable [CT] {X : Cx} {a b e : Expr} {c : Nat} {f g k x y z : Str} {pos p1 p2 p3 p4 p5 p6 pt pt2 : Pos} {da db dc : DE} {kt k2}
theorem js_fld3 (i : Nat) (cl : Cls X.K (CT.at_ c)) (n1 : NoAttr X.K (CT.at_ c) f) (n2 : NoAttr X.K (CT.at_ c) g) (n3 : NoAttr X.K (CT.at_ c) k) (h1 : PE X (.Name x p1) (tVar i)) (h2 : PE X (.Name y p3) (tVar i)) (h3 : PE X (.Name z p5) (tVar i)) (hc : X.calm = true) (ha : JE X a da) (hb : JE X b db) (hd : JE X e dc)
    (hst : starEach [a, b, e] X.env = (false, eval a X.env) :: starEach [b, e] X.env := by rfl) (hst2 : starEach [b, e] X.env = (false, eval b X.env) :: starEach [e] X.env := by rfl) (hst3 : starEach [e] X.env = (false, eval e X.env) :: starEach [] X.env := by rfl)
    (ha1 : (assignEach [.Attribute (.Name x p1) f p2, .Attribute (.Name y p3) g p4, .Attribute (.Name z p5) k p6] X.env).map (·.2) = assign (.Attribute (.Name x p1) f p2) X.env :: (assignEach [.Attribute (.Name y p3) g p4, .Attribute (.Name z p5) k p6] X.env).map (·.2) := by rfl)
    (ha2 : (assignEach [.Attribute (.Name y p3) g p4, .Attribute (.Name z p5) k p6] X.env).map (·.2) = assign (.Attribute (.Name y p3) g p4) X.env :: (assignEach [.Attribute (.Name z p5) k p6] X.env).map (·.2) := by rfl)
    (ha3 : (assignEach [.Attribute (.Name z p5) k p6] X.env).map (·.2) = assign (.Attribute (.Name z p5) k p6) X.env :: (assignEach [] X.env).map (·.2) := by rfl)
    (hn : (assignEach [.Attribute (.Name x p1) f p2, .Attribute (.Name y p3) g p4, .Attribute (.Name z p5) k p6] X.env).length = 3 := by rfl) (hfi : (assignEach [.Attribute (.Name x p1) f p2, .Attribute (.Name y p3) g p4, .Attribute (.Name z p5) k p6] X.env).findIdx? (·.1) = none := by rfl)
    (hs : swapsWithSole [.Tuple [.Attribute (.Name x p1) f p2, .Attribute (.Name y p3) g p4, .Attribute (.Name z p5) k p6] kt pt] (.Tuple [a, b, e] k2 pt2) pos.line X.env = pure false := by rfl) (hw : swappedStores [.Tuple [.Attribute (.Name x p1) f p2, .Attribute (.Name y p3) g p4, .Attribute (.Name z p5) k p6] kt pt] (.Tuple [a, b, e] k2 pt2) X.env = pure none := by rfl)
    (h0 : (assignEach [.Tuple [.Attribute (.Name x p1) f p2, .Attribute (.Name y p3) g p4, .Attribute (.Name z p5) k p6] kt pt] X.env).map (·.2) = [assign (.Tuple [.Attribute (.Name x p1) f p2, .Attribute (.Name y p3) g p4, .Attribute (.Name z p5) k p6] kt pt) X.env] := by rfl) :
    JS X (.Assign [.Tuple [.Attribute (.Name x p1) f p2, .Attribute (.Name y p3) g p4, .Attribute (.Name z p5) k p6] kt pt] (.Tuple [a, b, e] k2 pt2) pos) (dFld3 c f g k i da db dc) :=
  js_of (ps_asg (pe_tup (pa_cons ha (pa_cons hb (pa_cons hd pa_nil hst3) hst2) hst)) (pg_tup hc (pgs_cons (pg_fld h1) (pgs_cons (pg_fld h2) (pgs_cons (pg_fld h3) pgs_nil ha3) ha2) ha1) hn hfi) hs hw h0) fun D σ H h0_ => El54 h0_ fun ρ I S F DD rs ok h q =>
    ⟨ρ, I, S, F, _, rs, ok, h, fun x S1 v I1 H1 h1 e1 ok1 r1 => ⟨ρ, I1, S1, F, _, rs.mono e1, ok1, h1, fun y S2 w I2 H2 h2 e2 ok2 r2 => ⟨ρ, I2, S2, F, _, (rs.mono e1).mono e2, ok2, h2, fun z S3 u I3 H3 ⟨p, fs, ei, es, hl, h4⟩ e3 ok3 r3 => ⟨by show 3 ≤ sizeLine; decide, fun t ht => by
      have ok4 := ok3.newI (o := .tup [v, w, u]) ht
      have e4 : Same I3 (upd I3 t (.tup [v, w, u])) := same_new (ok3.freshI ht)
      refine ⟨t, [v, w, u], rfl, .inl (.inl upd_same), rfl, ?_⟩
      obtain ⟨dx, vs, hp, hd, rf⟩ := ok4.insAt es
      have ok5 := ok4.putIns (f := f) es hp hd rf (((r1.mono e2).mono e3).mono e4)
      have rs4 := rs.mono (((e1.trans e2).trans e3).trans e4)
      obtain ⟨s0, hu, ru⟩ := rs4.2 i _ ei
      have es5 : (supd S3 p (.ins (CT.at_ c) (putD f x fs))) p = some (.ins (CT.at_ c) (putD f x fs)) := by unfold supd; rw [if_pos rfl]
      have l5 := putD_len f x fs
      obtain ⟨dx5, vs5, hp5, hd5, rf5⟩ := ok5.insAt es5
      have ok6 := ok5.putIns (f := g) es5 hp5 hd5 rf5 ((r2.mono e3).mono e4)
      rw [supd_twice] at ok6
      have es6 : (supd S3 p (.ins (CT.at_ c) (putD g y (putD f x fs)))) p = some (.ins (CT.at_ c) (putD g y (putD f x fs))) := by unfold supd; rw [if_pos rfl]
      have l6 := putD_len g y (putD f x fs)
      obtain ⟨dx6, vs6, hp6, hd6, rf6⟩ := ok6.insAt es6
      have ok7 := ok6.putIns (f := k) es6 hp6 hd6 rf6 (r3.mono e4)
      rw [supd_twice] at ok7
      refine ⟨v, [w, u], rfl, s0, hu, p, _, dx, vs, ru.obj_of, hp, cl, n1, by rw [rf.len]; omega, w, [u], rfl, s0, hu, p, _, dx5, vs5, ru.obj_of, hp5, cl, n2, by rw [rf5.len]; omega, u, [], rfl, s0, hu, p, _, dx6, vs6, ru.obj_of, hp6, cl, n3, by rw [rf6.len]; omega, rfl, ?_⟩
      exact q.nx _ _ _ _ _ h4 (((e1.trans e2).trans e3).trans e4) ok7 rs4⟩⟩⟩⟩
end
end DL

namespace DL
open PySem PySem.Spec PyProof.Rows L2
local macro_rules | `(tactic| omega) => `(tactic| first | assumption | lia)
section
variable {X : Cx}
open Classical in
end
section
variable {K : PySem.W.Frag}
end
section
variable {X : Cx} {pos p : Pos} {a : Expr} {ds : DA}
end
end DL

/-! min of a list of pairs of ints. -/
namespace DL
open PySem PySem.Spec PyProof.Rows L2
local macro_rules | `(tactic| omega) => `(tactic| first | assumption | lia)
section
variable {X : Cx}
end
section
variable {K : PySem.W.Frag}
end
section
variable {X : Cx} {pos p : Pos} {a : Expr} {ds : DA}
end
end DL

/-! A list that has changed and changes no more, from a statement on. -/
namespace DL
open PySem PySem.Spec PyProof.Rows L2
local macro_rules | `(tactic| omega) => `(tactic| first | assumption | lia)
/-- from here on the list in slot i changes no more -/
def dFrz (i : Nat) (t : DS) : DS := fun DD ρ S => ∃ p ds, ρ[i]? = some (some (.obj p)) ∧ S p = some (.lst ds) ∧ t DD (ρ.set i (some (.lst ds))) (sdel S p)
theorem jss_frz (i : Nat) {X : Cx} {sts : List Stmt} {t : DS} (h : JSs X sts t) : JSs X sts (dFrz i t) :=
  jss_of h fun D σ H ⟨ρ, I, S, F, DD, rs, ok, ⟨p, ds, e1, e2, h2⟩, q⟩ => by
    obtain ⟨xs, rl, i0, ok2⟩ := ok.freeze e2
    have sm := same_new (o := HO.lst xs) i0
    refine ⟨_, _, _, F, DD, ⟨by rw [List.length_set]; exact rs.1, fun j d hj => ?_⟩, ok2, h2, q.mono sm⟩
    by_cases c : i = j
    · subst c
      have hi := (List.getElem?_eq_some_iff.mp e1).1
      rw [List.getElem?_set_self hi] at hj
      cases hj
      obtain ⟨v, hv, rv⟩ := rs.2 i _ e1
      cases rv.obj_of
      exact ⟨_, hv, rep_new_lst i0 rl⟩
    · rw [List.getElem?_set_ne c] at hj
      obtain ⟨v, hv, rv⟩ := rs.2 j d hj
      exact ⟨v, hv, rv.mono sm⟩
end DL

/-! fractions as data, their sizes -/
namespace Lb
open PySem PySem.Spec PyProof.Rows L2 DL
local macro_rules | `(tactic| omega) => `(tactic| first | assumption | lia)

theorem supd_same0 {S : Store} {p : Addr} {m : MO} : supd S p m p = some m := by unfold supd; rw [if_pos rfl]
theorem put_nm {i : Nat} {x : D} {ρ : DSt} : Tgt.put (.nm i) x ρ = some (ρ.set i (some x)) := by simp only [Tgt.put]
theorem put_tp {ts : List Tgt} {xs : List D} {ρ : DSt} : Tgt.put (.tp ts) (.tup xs) ρ = Tgt.putL ts xs ρ := by simp only [Tgt.put]
theorem put_tl {ts : List Tgt} {xs : List D} {ρ : DSt} : Tgt.put (.tp ts) (.lst xs) ρ = Tgt.putL ts xs ρ := by simp only [Tgt.put]
theorem putL_nil {ρ : DSt} : Tgt.putL [] [] ρ = some ρ := by simp only [Tgt.putL]
theorem putL_cons {t : Tgt} {ts : List Tgt} {x : D} {xs : List D} {ρ : DSt} : Tgt.putL (t :: ts) (x :: xs) ρ = (t.put x ρ).bind fun ρ' => Tgt.putL ts xs ρ' := by simp only [Tgt.putL]
def encR (q : Rat) : D := .tup [.int q.num, .int (q.den : Int)]
theorem encR_int (n : Int) : encR (n : Rat) = .tup [.int n, .int 1] := rfl
/-- so many bits at most -/
def Sz (n : Nat) (q : Rat) : Prop := q.num.natAbs < 2 ^ n ∧ q.den < 2 ^ n
theorem Sz.mono {n m : Nat} {q : Rat} (h : Sz n q) (hm : n ≤ m) : Sz m q := ⟨Nat.lt_of_lt_of_le h.1 (Nat.pow_le_pow_right (by decide) hm), Nat.lt_of_lt_of_le h.2 (Nat.pow_le_pow_right (by decide) hm)⟩
theorem sz_int {n : Nat} {k : Int} (h : k.natAbs < 2 ^ n) (h1 : 1 ≤ n := by decide) : Sz n (k : Rat) := ⟨h, by show 1 < 2 ^ n; exact Nat.one_lt_two_pow (by omega +splitDisjunctions)⟩
theorem frac_num {a b : Int} (hb : b ≠ 0) : ((a : Rat) / (b : Rat)).num = b.sign * a / (Int.gcd a b : Int) ∧ (((a : Rat) / (b : Rat)).den : Int) = (b.natAbs : Int) / (Int.gcd a b : Int) := by
  rw [← Rat.divInt_eq_div, Rat.num_divInt, Rat.den_divInt, if_neg hb, Int.gcd_comm b a]
  exact ⟨rfl, by simp⟩
theorem gcd_pos_r {a b : Int} (hb : b ≠ 0) : 0 < (Int.gcd a b : Int) := by
  have := Int.gcd_pos_of_ne_zero_right a hb
  omega
theorem natAbs_div_le (a : Int) (g : Int) (hg : 0 < g) : (a / g).natAbs ≤ a.natAbs := by
  exact Int.natAbs_ediv_le_natAbs a g
/-- the size of a quotient of whole numbers -/
theorem sz_frac {n : Nat} {a b : Int} (hb : b ≠ 0) (h1 : a.natAbs < 2 ^ n) (h2 : b.natAbs < 2 ^ n) : Sz n ((a : Rat) / (b : Rat)) := by
  obtain ⟨e1, e2⟩ := frac_num (a := a) hb
  have hg := gcd_pos_r (a := a) hb
  have hdvd : (Int.gcd a b : Int) ∣ a := Int.gcd_dvd_left a b
  refine ⟨?_, ?_⟩
  · rw [e1]
    refine Nat.lt_of_le_of_lt (natAbs_div_le _ _ hg) ?_
    rw [Int.natAbs_mul]
    have : b.sign.natAbs ≤ 1 := by
      rcases Int.lt_trichotomy b 0 with h | h | h
      · simp [Int.sign_eq_neg_one_of_neg h]
      · exact absurd h hb
      · simp [Int.sign_eq_one_of_pos h]
    calc b.sign.natAbs * a.natAbs ≤ 1 * a.natAbs := Nat.mul_le_mul_right _ this
      _ < 2 ^ n := by omega +splitDisjunctions
  · have : (((a : Rat) / (b : Rat)).den : Int).natAbs ≤ b.natAbs := by
      rw [e2]
      exact Nat.le_trans (natAbs_div_le _ _ hg) (by simp)
    omega
theorem rat_eq (q : Rat) : q = (q.num : Rat) / ((q.den : Int) : Rat) := by
  rw [← Rat.divInt_eq_div, Rat.num_divInt_den]
theorem den_ne (q : Rat) : ((q.den : Int) : Rat) ≠ 0 := by
  have : (q.den : Int) ≠ 0 := by have := q.den_pos; omega
  intro h
  exact this (by exact_mod_cast h)
theorem rat_add (q r : Rat) : q + r = ((q.num * (r.den : Int) + r.num * (q.den : Int) : Int) : Rat) / (((q.den : Int) * (r.den : Int) : Int) : Rat) := by
  rw [← Rat.divInt_eq_div, Rat.add_def', ← Rat.divInt_ofNat, Int.natCast_mul]
theorem rat_sub (q r : Rat) : q - r = ((q.num * (r.den : Int) - r.num * (q.den : Int) : Int) : Rat) / (((q.den : Int) * (r.den : Int) : Int) : Rat) := by
  rw [← Rat.divInt_eq_div, Rat.sub_def', ← Rat.divInt_ofNat, Int.natCast_mul]
theorem rat_mul (q r : Rat) : q * r = ((q.num * r.num : Int) : Rat) / (((q.den : Int) * (r.den : Int) : Int) : Rat) := by
  rw [← Rat.divInt_eq_div, Rat.mul_def', ← Rat.divInt_ofNat, Int.natCast_mul]
theorem rat_div (q r : Rat) (h : r ≠ 0) : q / r = ((q.num * (r.den : Int) : Int) : Rat) / (((q.den : Int) * r.num : Int) : Rat) := by
  have hr : (r.num : Rat) ≠ 0 := by
    intro z
    exact h (Rat.num_eq_zero.mp (by exact_mod_cast z))
  have h1 := den_ne q
  have h2 := den_ne r
  have e1 := rat_eq q
  have e2 := rat_eq r
  generalize hqn : (q.num : Rat) = qn at *
  generalize hqd : ((q.den : Int) : Rat) = qd at *
  generalize hrn : (r.num : Rat) = rn at *
  generalize hrd : ((r.den : Int) : Rat) = rd at *
  rw [Rat.intCast_mul, Rat.intCast_mul, hqn, hqd, hrn, hrd, e1, e2]
  grind
theorem pow_bound {a b n m : Nat} (h1 : a < 2 ^ n) (h2 : b < 2 ^ m) : a * b < 2 ^ (n + m) := by
  rw [Nat.pow_add]
  exact Nat.mul_lt_mul'' h1 h2
theorem den_nz (q : Rat) : (q.den : Int) ≠ 0 := by have := q.den_pos; omega
theorem add_bound {q r : Rat} {n m : Nat} (h1 : Sz n q) (h2 : Sz m r) (s : Int) (hs : s.natAbs = 1) : (q.num * (r.den : Int) + s * (r.num * (q.den : Int))).natAbs < 2 ^ (n + m + 1) ∧ ((q.den : Int) * (r.den : Int)).natAbs < 2 ^ (n + m + 1) := by
  have a1 := pow_bound h1.1 h2.2
  have a2 := pow_bound h2.1 h1.2
  have a3 := pow_bound h1.2 h2.2
  have e : 2 ^ (n + m + 1) = 2 * 2 ^ (n + m) := by rw [Nat.pow_succ]; omega +splitDisjunctions
  have e2 : 2 ^ (m + n) = 2 ^ (n + m) := by rw [Nat.add_comm]
  rw [e2] at a2
  constructor
  · refine Nat.lt_of_le_of_lt (Int.natAbs_add_le _ _) ?_
    rw [Int.natAbs_mul, Int.natAbs_mul, Int.natAbs_mul, hs]
    simp only [Int.natAbs_natCast, Nat.one_mul]
    omega
  · rw [Int.natAbs_mul]
    simp only [Int.natAbs_natCast]
    omega
theorem sz_add {q r : Rat} {n m : Nat} (h1 : Sz n q) (h2 : Sz m r) : Sz (n + m + 1) (q + r) := by
  rw [rat_add]
  have := add_bound h1 h2 1 rfl
  exact sz_frac (Int.mul_ne_zero (den_nz q) (den_nz r)) (by simpa using this.1) this.2
theorem sz_sub {q r : Rat} {n m : Nat} (h1 : Sz n q) (h2 : Sz m r) : Sz (n + m + 1) (q - r) := by
  rw [rat_sub]
  have := add_bound h1 h2 (-1) rfl
  exact sz_frac (Int.mul_ne_zero (den_nz q) (den_nz r)) (by
    have e : q.num * (r.den : Int) - r.num * (q.den : Int) = q.num * (r.den : Int) + -1 * (r.num * (q.den : Int)) := by omega
    rw [e]; exact this.1) this.2
theorem mul_bound {q r : Rat} {n m : Nat} (h1 : Sz n q) (h2 : Sz m r) : (q.num * r.num).natAbs < 2 ^ (n + m) ∧ ((q.den : Int) * (r.den : Int)).natAbs < 2 ^ (n + m) := by
  constructor
  · rw [Int.natAbs_mul]; exact pow_bound h1.1 h2.1
  · rw [Int.natAbs_mul]; simp only [Int.natAbs_natCast]; exact pow_bound h1.2 h2.2
theorem sz_mul {q r : Rat} {n m : Nat} (h1 : Sz n q) (h2 : Sz m r) : Sz (n + m) (q * r) := by
  rw [rat_mul]
  have := mul_bound h1 h2
  exact sz_frac (Int.mul_ne_zero (den_nz q) (den_nz r)) this.1 this.2
theorem div_bound {q r : Rat} {n m : Nat} (h1 : Sz n q) (h2 : Sz m r) : (q.num * (r.den : Int)).natAbs < 2 ^ (n + m) ∧ ((q.den : Int) * r.num).natAbs < 2 ^ (n + m) := by
  constructor
  · rw [Int.natAbs_mul]; exact pow_bound h1.1 h2.2
  · rw [Int.natAbs_mul]; simp only [Int.natAbs_natCast]; exact pow_bound h1.2 h2.1
theorem num_nz {r : Rat} (h : r ≠ 0) : r.num ≠ 0 := fun z => h (Rat.num_eq_zero.mp z)
theorem sz_div {q r : Rat} {n m : Nat} (h : r ≠ 0) (h1 : Sz n q) (h2 : Sz m r) : Sz (n + m) (q / r) := by
  rw [rat_div _ _ h]
  have := div_bound h1 h2
  exact sz_frac (Int.mul_ne_zero (den_nz q) (num_nz h)) this.1 this.2
theorem sz_neg {q : Rat} {n : Nat} (h : Sz n q) : Sz n (-q) := by
  refine ⟨?_, ?_⟩
  · rw [Rat.neg_num, Int.natAbs_neg]; exact h.1
  · rw [Rat.neg_den]; exact h.2
theorem log_lt {a n : Nat} (h : a < 2 ^ n) (hn : 0 < n) : a.log2 < n := PySem.Flt.log2_lt_of hn h
theorem mulB {i j : Int} {n m : Nat} (h1 : i.natAbs < 2 ^ n) (h2 : j.natAbs < 2 ^ m) (h : n + m ≤ 900000) : MulB i j := by
  refine .inr ?_
  unfold CMulW
  have a := log_lt (n := n + 1) (Nat.lt_trans h1 (Nat.pow_lt_pow_right (by decide) (by omega))) (by omega)
  have b := log_lt (n := m + 1) (Nat.lt_trans h2 (Nat.pow_lt_pow_right (by decide) (by omega))) (by omega)
  omega
theorem mulS {i j : Int} (h : -(2 ^ 64) < i ∧ i < 2 ^ 64 := by omega +splitDisjunctions) : MulB i j := .inl (.inl h)
theorem mulS2 {i j : Int} (h : -(2 ^ 64) < j ∧ j < 2 ^ 64 := by omega +splitDisjunctions) : MulB i j := .inl (.inr h)
theorem divB {j : Int} {n : Nat} (h0 : j ≠ 0) (h1 : j.natAbs < 2 ^ n) (h : n ≤ 8999) : DivB j := by
  have a := log_lt (n := n + 1) (Nat.lt_trans h1 (Nat.pow_lt_pow_right (by decide) (by omega))) (by omega)
  exact ⟨h0, by omega⟩
theorem divS {j : Int} (h0 : j ≠ 0) (h : j.natAbs < 2 ^ 60 := by omega +splitDisjunctions) : DivB j := divB (n := 60) h0 h (by decide)

/-! powers of a base -/
theorem zpow_of_nat (b : Rat) (n : Nat) : b ^ (n : Int) = b ^ n := rfl
theorem intpow_cast (b : Int) (n : Nat) : ((b ^ n : Int) : Rat) = (b : Rat) ^ n := by
  induction n with
  | zero => simp
  | succ n ih => rw [Int.pow_succ, Rat.pow_succ, Rat.intCast_mul, ih]
theorem encR_zpow_nn (b : Int) (k : Int) (h : 0 ≤ k) : encR ((b : Rat) ^ k) = .tup [.int (b ^ k.toNat), .int 1] := by
  have : (b : Rat) ^ k = ((b ^ k.toNat : Int) : Rat) := by
    rw [intpow_cast, ← zpow_of_nat]
    congr 1; omega
  rw [this]; rfl
theorem encR_zpow_neg (b : Int) (k : Int) (hb : 0 < b) (h : k < 0) : encR ((b : Rat) ^ k) = .tup [.int 1, .int (b ^ (-k).toNat)] := by
  have hp : 0 < b ^ (-k).toNat := Int.pow_pos hb
  have : (b : Rat) ^ k = ((1 : Int) : Rat) / ((b ^ (-k).toNat : Int) : Rat) := by
    rw [intpow_cast, ← zpow_of_nat]
    have e : k = -(((-k).toNat : Nat) : Int) := by omega
    conv => lhs; rw [e, Rat.zpow_neg]
    simp [Rat.div_def]
  obtain ⟨e1, e2⟩ := frac_num (a := 1) (b := b ^ (-k).toNat) (by omega)
  unfold encR
  rw [this, e1, e2]
  have s : (b ^ (-k).toNat).sign = 1 := Int.sign_eq_one_of_pos hp
  have g1 : Int.gcd 1 (b ^ (-k).toNat) = 1 := by simp
  rw [s, g1]
  have e3 : ((b ^ (-k).toNat).natAbs : Int) = b ^ (-k).toNat := by omega
  rw [e3]
  simp
theorem sz_zpow {b k : Int} (hb : 0 < b) (hb2 : b ≤ 16) : Sz (4 * k.natAbs + 1) ((b : Rat) ^ k) := by
  have key : ∀ n : Nat, (b ^ n).natAbs < 2 ^ (4 * n + 1) := fun n => by
    rw [Int.natAbs_pow]
    have h1 : b.natAbs ≤ 2 ^ 4 := by omega +splitDisjunctions
    calc b.natAbs ^ n ≤ (2 ^ 4) ^ n := Nat.pow_le_pow_left h1 n
      _ = 2 ^ (4 * n) := by rw [Nat.pow_mul]
      _ < 2 ^ (4 * n + 1) := Nat.pow_lt_pow_right (by decide) (by omega +splitDisjunctions)
  by_cases h : 0 ≤ k
  · have e := encR_zpow_nn b k h
    unfold encR at e
    simp only [D.tup.injEq, List.cons.injEq, D.int.injEq, and_true] at e
    have hk : k.toNat = k.natAbs := by omega
    refine ⟨by rw [e.1, hk]; exact key _, ?_⟩
    have : ((b : Rat) ^ k).den = 1 := by omega
    rw [this]
    exact Nat.one_lt_two_pow (by omega)
  · have e := encR_zpow_neg b k hb (by omega)
    unfold encR at e
    simp only [D.tup.injEq, List.cons.injEq, D.int.injEq, and_true] at e
    have hk : (-k).toNat = k.natAbs := by omega
    refine ⟨by rw [e.1]; exact Nat.one_lt_two_pow (by omega), ?_⟩
    have h2 := key k.natAbs
    rw [hk] at e
    have h3 : ((((b : Rat) ^ k).den : Int)).natAbs < 2 ^ (4 * k.natAbs + 1) := by rw [e.2]; exact h2
    omega
theorem atI_0 {α : Type} (a : α) (l : List α) : atI (a :: l) 0 = some a := by
  unfold atI ixN
  rw [if_pos (by decide), if_pos (by simp only [List.length_cons]; omega)]
  rfl
theorem atI_1 {α : Type} (a b : α) (l : List α) : atI (a :: b :: l) 1 = some b := by
  unfold atI ixN
  rw [if_pos (by decide), if_pos (by simp only [List.length_cons]; omega)]
  rfl
theorem atI_2 {α : Type} (a b c : α) (l : List α) : atI (a :: b :: c :: l) 2 = some c := by
  unfold atI ixN
  rw [if_pos (by decide), if_pos (by simp only [List.length_cons]; omega)]
  rfl
theorem atI_3 {α : Type} (a b c d : α) (l : List α) : atI (a :: b :: c :: d :: l) 3 = some d := by
  unfold atI ixN
  rw [if_pos (by decide), if_pos (by simp only [List.length_cons]; omega)]
  rfl
theorem eqB_ii {i j : Int} : dEqB (.int i) (.int j) = some (decide (i = j)) := rfl
theorem eqB_bb {i j : Bool} : dEqB (.bl i) (.bl j) = some (decide (i = j)) := rfl
theorem eqB_ss {i j : Str} : dEqB (.str i) (.str j) = some (decide (i = j)) := rfl
theorem eqB_nn : dEqB .non .non = some true := rfl
theorem eqB_ni {j : Int} : dEqB .non (.int j) = some false := rfl
theorem eqB_in {j : Int} : dEqB (.int j) .non = some false := rfl
theorem eqB_ns {j : Str} : dEqB .non (.str j) = some false := rfl
theorem eqB_sn {j : Str} : dEqB (.str j) .non = some false := rfl
theorem eqB_is {i : Int} {j : Str} : dEqB (.int i) (.str j) = some false := rfl
theorem eqB_si {i : Int} {j : Str} : dEqB (.str j) (.int i) = some false := rfl
theorem eqB_nb {j : Bool} : dEqB .non (.bl j) = some false := rfl
theorem eqB_bn {j : Bool} : dEqB (.bl j) .non = some false := rfl
theorem map_toNat_inj : ∀ (l m : List Char), l.map Char.toNat = m.map Char.toNat → l = m
  | [], [], _ => rfl
  | [], _ :: _, h => by simp at h
  | _ :: _, [], h => by simp at h
  | a :: l, b :: m, h => by
    simp only [List.map_cons, List.cons.injEq] at h
    rw [map_toNat_inj l m h.2, Char.toNat_inj.mp h.1]
theorem ofString_inj (a b : String) : (Str.ofString a = Str.ofString b) = (a = b) := by
  apply propext
  constructor
  · intro h
    rw [Str.ofString_eq_toList, Str.ofString_eq_toList] at h
    have h : List.map Char.toNat a.toList = List.map Char.toNat b.toList := congrArg (fun z : Str => z.cps.toList) h
    have : a.toList = b.toList := map_toNat_inj _ _ h
    exact String.ext this
  · intro h; rw [h]
local macro_rules | `(tactic| walk_at "dgo") => `(tactic| try simp only [dSeq, dSet, dPar, dOp, dUn, dVar, dC, dCB, dCons, dNil, dTup, dLst, dLstM, dIfS, dIf, dTest, dNot, dAnd, dOr, dAndV, dOrV, dNotV, dRet, dRetN, dEnd, dNext, dAdd, dSub, dMul, dFdiv, dMod, dPow, dNeg, dLt, dLe, dGt, dGe, dEq, dNe, eqB_ii, eqB_bb, eqB_ss, eqB_nn, eqB_ni, eqB_in, eqB_ns, eqB_sn, eqB_is, eqB_si, eqB_nb, eqB_bn, dIx, dIn, dIsN, dNotN, DL.isNon, cAbs, cMax2, cMin2, cInt, cLen, cList, cTuple, dIsB, dNotB, dPar3, ForN, LcN, pinOf, pin2, dEnum2, dAppend, supd_same0, isi_non_int, isi_non_bool, isi_non_str, isi_non_list, isi_non_tuple, isi_non_lt, isi_bl_int, isi_bl_bool, isi_bl_str, isi_bl_list, isi_bl_tuple, isi_bl_lt, isi_int_int, isi_int_bool, isi_int_str, isi_int_list, isi_int_tuple, isi_int_lt, isi_str_int, isi_str_bool, isi_str_str, isi_str_list, isi_str_tuple, isi_str_lt, isi_lst_int, isi_lst_bool, isi_lst_str, isi_lst_list, isi_lst_tuple, isi_lst_lt, isi_tup_int, isi_tup_bool, isi_tup_str, isi_tup_list, isi_tup_tuple, isi_tup_lt, dAug, dIAdd, dIMul, dDrop, dSl, dPart, dNoPart, dRevL, dCallK, dChainR, dAsg, put_nm, put_tp, put_tl, putL_nil, putL_cons, Option.bind, seqOf, lstOf, dFor, dLc, dLcM, dItSeq, dZip, dZipS, dEnum, dRng1, dRng2, dYes, dwipe, Tgt.slots, Tgt.slotsL,
  atI_0, atI_1, atI_2, atI_3, List.getElem?_cons_zero, List.getElem?_cons_succ, List.set_cons_zero, List.set_cons_succ, decide_eq_true_eq, List.length_cons, List.length_nil, List.cons_append, List.nil_append, List.append_nil, ofString_inj, String.reduceEq, decide_true, decide_false, reduceIte, Bool.false_eq_true, Bool.not_true, Bool.not_false, eqFlat, isFlat, List.any_cons, List.any_nil, List.all_cons, List.all_nil, Bool.or_false, Bool.or_true, Bool.false_or, Bool.true_or, Bool.and_true, Bool.true_and, true_and, and_true, Nat.reduceAdd, Nat.reduceLeDiff, Int.reduceLT, Int.reduceLE, Int.reduceNeg])
/-! ### fractions -/
def sp_common : DSp := fun ds S P => ∃ a b : Int, ds = [.int a, .int b] ∧ 0 ≤ a ∧ 0 ≤ b ∧ P (.int (Int.gcd a b)) S
def rd_common : DS :=
  (dSeq (dWhile (dTest (dOp dGt (dVar 1) (dC (.int 0)))) (dPar 0 1 (dCons (dVar 1) (dCons (dOp dMod (dVar 0) (dVar 1)) dNil))))
  (dRet (dVar 0)))
def goal_common : Prop := ∀ (x0 x1 : D) (S : Store) (P : D → Store → Prop), sp_common [x0, x1] S P → rd_common (dEnd P) [some x0, some x1] S
theorem len_common : ∀ ds S P, sp_common ds S P → ds.length = 2 := by
  rintro ds S P ⟨a, b, rfl, _⟩; rfl
theorem gcd_step (c d : Int) (h : 0 < d) : Int.gcd d (c % d) = Int.gcd c d := by
  have hc : Int.gcd d (c % d) = Int.gcd d c := by
    have e : c = d * (c / d) + c % d := by have := Int.emod_add_mul_ediv c d; omega
    conv => rhs; rw [e]
    simp
  rw [hc, Int.gcd_comm]
theorem vc_common : goal_common := by
  rintro x0 x1 S P ⟨a, b, e, ha, hb, h⟩
  cases e
  unfold rd_common
  walk_at "dgo"
  refine ⟨fun m ρ S' => ∃ c d : Int, m = d.toNat ∧ ρ = [some (.int c), some (.int d)] ∧ S' = S ∧ 0 ≤ c ∧ 0 ≤ d ∧ Int.gcd c d = Int.gcd a b, ⟨_, a, b, rfl, rfl, rfl, ha, hb, rfl⟩, ?_⟩
  rintro m ρ S' ⟨c, d, rfl, rfl, rfl, hc, hd, hg⟩
  walk_at "dgo"
  split
  · rename_i h0
    have h1 := Int.emod_nonneg c (b := d) (by omega)
    have h2 := Int.emod_lt_of_pos c h0
    exact ⟨h0, (c % d).toNat, by omega, d, c % d, rfl, rfl, hd, h1, by rw [← hg]; exact gcd_step c d h0⟩
  · have : d = 0 := by omega
    subst this
    have e : (c : Int) = (Int.gcd a b : Int) := by
      rw [← hg, Int.gcd_zero_right]; omega
    rw [e]; exact h
def sp_frac : DSp := fun ds S P => ∃ a b : Int, ds = [.int a, .int b] ∧ b ≠ 0 ∧ a.natAbs < 2 ^ 8900 ∧ b.natAbs < 2 ^ 8900 ∧ P (encR ((a : Rat) / (b : Rat))) S
def rd_frac : DS :=
  (dSeq (dSet 2 (dCB sp_common (dCons (dCB cAbs (dCons (dVar 0) dNil)) (dCons (dCB cAbs (dCons (dVar 1) dNil)) dNil))))
  (dSeq (dSet 2 (dIf (dTest (dOp dGt (dVar 1) (dC (.int 0)))) (dVar 2) (dUn dNeg (dVar 2))))
  (dRet (dTup (dCons (dOp dFdiv (dVar 0) (dVar 2)) (dCons (dOp dFdiv (dVar 1) (dVar 2)) dNil))))))
def goal_frac : Prop := ∀ (x0 x1 : D) (S : Store) (P : D → Store → Prop), sp_frac [x0, x1] S P → rd_frac (dEnd P) [some x0, some x1, none] S
theorem len_frac : ∀ ds S P, sp_frac ds S P → ds.length = 2 := by
  rintro ds S P ⟨a, b, rfl, _⟩; rfl
theorem abs_if (a : Int) : (if a < 0 then -a else a) = (a.natAbs : Int) := by split <;> omega
theorem gcd_abs (a b : Int) : Int.gcd (a.natAbs : Int) (b.natAbs : Int) = Int.gcd a b := by simp [Int.gcd]
theorem gcd_le_r {a b : Int} (hb : b ≠ 0) : Int.gcd a b ≤ b.natAbs := Nat.le_of_dvd (by omega) (by have := Int.natAbs_dvd_natAbs.mpr (Int.gcd_dvd_right a b); simpa using this)
theorem fdiv_dvd {a g k : Int} (hg : g ≠ 0) (e : a = g * k) : a.fdiv g = k := by
  subst e
  exact Int.mul_fdiv_cancel_left k hg
theorem encR_frac {a b : Int} (hb : b ≠ 0) : encR ((a : Rat) / (b : Rat)) = .tup [.int (b.sign * a / (Int.gcd a b : Int)), .int ((b.natAbs : Int) / (Int.gcd a b : Int))] := by
  obtain ⟨e1, e2⟩ := frac_num (a := a) hb
  unfold encR
  rw [e1, e2]
theorem vc_frac : goal_frac := by
  rintro x0 x1 S P ⟨a, b, e, hb, h1, h2, h⟩
  cases e
  unfold rd_frac
  walk_at "dgo"
  refine ⟨_, _, rfl, by rw [abs_if]; omega, by rw [abs_if]; omega, ?_⟩
  rw [abs_if, abs_if, gcd_abs]
  have hg := gcd_pos_r (a := a) hb
  obtain ⟨k, ek⟩ : (Int.gcd a b : Int) ∣ a := Int.gcd_dvd_left a b
  obtain ⟨l, el⟩ : (Int.gcd a b : Int) ∣ b := Int.gcd_dvd_right a b
  have hgl := gcd_le_r (a := a) hb
  rw [encR_frac hb] at h
  generalize hG : (Int.gcd a b : Int) = g at *
  have hgs : g.natAbs < 2 ^ 8900 := by omega +splitDisjunctions
  walk_at "dgo"
  by_cases hp : 0 < b
  · rw [if_pos hp]
    refine ⟨divB (n := 8900) (by omega) hgs (by decide), divB (n := 8900) (by omega) hgs (by decide), ?_⟩
    rw [Int.sign_eq_one_of_pos hp, Int.one_mul] at h
    have e1 : a.fdiv g = a / g := by rw [Int.fdiv_eq_ediv_of_nonneg _ (by omega)]
    have e2 : b.fdiv g = (b.natAbs : Int) / g := by
      rw [Int.fdiv_eq_ediv_of_nonneg _ (by omega)]
      congr 1; omega
    rw [e1, e2]; exact h
  · rw [if_neg hp]
    refine ⟨divB (n := 8900) (by omega) (by rw [Int.natAbs_neg]; exact hgs) (by decide), divB (n := 8900) (by omega) (by rw [Int.natAbs_neg]; exact hgs) (by decide), ?_⟩
    rw [Int.sign_eq_neg_one_of_neg (show b < 0 by omega)] at h
    have e1 : a.fdiv (-g) = -1 * a / g := by
      rw [fdiv_dvd (k := -k) (by omega) (by rw [Int.neg_mul_neg]; exact ek)]
      rw [show -1 * a = g * (-k) by rw [ek]; simp [Int.mul_neg]]
      rw [Int.mul_ediv_cancel_left _ (by omega)]
    have e2 : b.fdiv (-g) = (b.natAbs : Int) / g := by
      rw [fdiv_dvd (k := -l) (by omega) (by rw [Int.neg_mul_neg]; exact el)]
      rw [show (b.natAbs : Int) = g * (-l) by rw [Int.mul_neg, ← el]; omega]
      rw [Int.mul_ediv_cancel_left _ (by omega)]
    rw [e1, e2]; exact h
theorem bound_mono {x : Nat} {n m : Nat} (h : x < 2 ^ n) (hm : n ≤ m := by decide) : x < 2 ^ m := Nat.lt_of_lt_of_le h (Nat.pow_le_pow_right (by decide) hm)
/-- two fractions of moderate size -/
def sp_plus : DSp := fun ds S P => ∃ q r : Rat, ds = [encR q, encR r] ∧ Sz 4000 q ∧ Sz 4000 r ∧ P (encR (q + r)) S
def rd_plus : DS :=
  (dRet (dCB sp_frac (dCons (dOp dAdd (dOp dMul (dOp dIx (dVar 0) (dC (.int 0))) (dOp dIx (dVar 1) (dC (.int 1)))) (dOp dMul (dOp dIx (dVar 1) (dC (.int 0))) (dOp dIx (dVar 0) (dC (.int 1))))) (dCons (dOp dMul (dOp dIx (dVar 0) (dC (.int 1))) (dOp dIx (dVar 1) (dC (.int 1)))) dNil))))
def goal_plus : Prop := ∀ (x0 x1 : D) (S : Store) (P : D → Store → Prop), sp_plus [x0, x1] S P → rd_plus (dEnd P) [some x0, some x1] S
theorem len_plus : ∀ ds S P, sp_plus ds S P → ds.length = 2 := by
  rintro ds S P ⟨a, b, rfl, _⟩; rfl
theorem szmul {q : Rat} {r : Rat} {n m : Nat} (h1 : Sz n q) (h2 : Sz m r) (h : n + m ≤ 900000) : MulB q.num (r.den : Int) := mulB h1.1 (by simpa using h2.2) h
theorem szmulN {q : Rat} {r : Rat} {n m : Nat} (h1 : Sz n q) (h2 : Sz m r) (h : n + m ≤ 900000) : MulB q.num r.num := mulB h1.1 h2.1 h
theorem szmulD {q : Rat} {r : Rat} {n m : Nat} (h1 : Sz n q) (h2 : Sz m r) (h : n + m ≤ 900000) : MulB (q.den : Int) (r.den : Int) := mulB (by simpa using h1.2) (by simpa using h2.2) h
theorem vc_plus : goal_plus := by
  rintro x0 x1 S P ⟨q, r, e, h1, h2, h⟩
  cases e
  unfold rd_plus encR
  walk_at "dgo"
  obtain ⟨b1, b2⟩ := add_bound h1 h2 1 rfl
  refine ⟨szmul h1 h2 (by decide), szmul h2 h1 (by decide), szmulD h1 h2 (by decide), _, _, rfl, Int.mul_ne_zero (den_nz q) (den_nz r), bound_mono (by rw [Int.one_mul] at b1; exact b1), bound_mono b2, ?_⟩
  rw [← rat_add]; exact h
def sp_minus : DSp := fun ds S P => ∃ q r : Rat, ds = [encR q, encR r] ∧ Sz 4000 q ∧ Sz 4000 r ∧ P (encR (q - r)) S
def rd_minus : DS :=
  (dRet (dCB sp_frac (dCons (dOp dSub (dOp dMul (dOp dIx (dVar 0) (dC (.int 0))) (dOp dIx (dVar 1) (dC (.int 1)))) (dOp dMul (dOp dIx (dVar 1) (dC (.int 0))) (dOp dIx (dVar 0) (dC (.int 1))))) (dCons (dOp dMul (dOp dIx (dVar 0) (dC (.int 1))) (dOp dIx (dVar 1) (dC (.int 1)))) dNil))))
def goal_minus : Prop := ∀ (x0 x1 : D) (S : Store) (P : D → Store → Prop), sp_minus [x0, x1] S P → rd_minus (dEnd P) [some x0, some x1] S
theorem len_minus : ∀ ds S P, sp_minus ds S P → ds.length = 2 := by
  rintro ds S P ⟨a, b, rfl, _⟩; rfl
theorem vc_minus : goal_minus := by
  rintro x0 x1 S P ⟨q, r, e, h1, h2, h⟩
  cases e
  unfold rd_minus encR
  walk_at "dgo"
  obtain ⟨b1, b2⟩ := add_bound h1 h2 (-1) rfl
  refine ⟨szmul h1 h2 (by decide), szmul h2 h1 (by decide), szmulD h1 h2 (by decide), _, _, rfl, Int.mul_ne_zero (den_nz q) (den_nz r), bound_mono (by
    have e : q.num * (r.den : Int) - r.num * (q.den : Int) = q.num * (r.den : Int) + -1 * (r.num * (q.den : Int)) := by omega
    rw [e]; exact b1), bound_mono b2, ?_⟩
  rw [← rat_sub]; exact h
def sp_times : DSp := fun ds S P => ∃ q r : Rat, ds = [encR q, encR r] ∧ Sz 4000 q ∧ Sz 4000 r ∧ P (encR (q * r)) S
def rd_times : DS :=
  (dRet (dCB sp_frac (dCons (dOp dMul (dOp dIx (dVar 0) (dC (.int 0))) (dOp dIx (dVar 1) (dC (.int 0)))) (dCons (dOp dMul (dOp dIx (dVar 0) (dC (.int 1))) (dOp dIx (dVar 1) (dC (.int 1)))) dNil))))
def goal_times : Prop := ∀ (x0 x1 : D) (S : Store) (P : D → Store → Prop), sp_times [x0, x1] S P → rd_times (dEnd P) [some x0, some x1] S
theorem len_times : ∀ ds S P, sp_times ds S P → ds.length = 2 := by
  rintro ds S P ⟨a, b, rfl, _⟩; rfl
theorem vc_times : goal_times := by
  rintro x0 x1 S P ⟨q, r, e, h1, h2, h⟩
  cases e
  unfold rd_times encR
  walk_at "dgo"
  obtain ⟨b1, b2⟩ := mul_bound h1 h2
  refine ⟨szmulN h1 h2 (by decide), szmulD h1 h2 (by decide), _, _, rfl, Int.mul_ne_zero (den_nz q) (den_nz r), bound_mono b1, bound_mono b2, ?_⟩
  rw [← rat_mul]; exact h
def sp_is_below : DSp := fun ds S P => ∃ q r : Rat, ds = [encR q, encR r] ∧ Sz 400000 q ∧ Sz 400000 r ∧ P (.bl (decide (q < r))) S
def rd_is_below : DS :=
  (dRet (dOp dLt (dOp dMul (dOp dIx (dVar 0) (dC (.int 0))) (dOp dIx (dVar 1) (dC (.int 1)))) (dOp dMul (dOp dIx (dVar 1) (dC (.int 0))) (dOp dIx (dVar 0) (dC (.int 1))))))
def goal_is_below : Prop := ∀ (x0 x1 : D) (S : Store) (P : D → Store → Prop), sp_is_below [x0, x1] S P → rd_is_below (dEnd P) [some x0, some x1] S
theorem len_is_below : ∀ ds S P, sp_is_below ds S P → ds.length = 2 := by
  rintro ds S P ⟨a, b, rfl, _⟩; rfl
theorem vc_is_below : goal_is_below := by
  rintro x0 x1 S P ⟨q, r, e, h1, h2, h⟩
  cases e
  unfold rd_is_below encR
  walk_at "dgo"
  refine ⟨szmul h1 h2 (by decide), szmul h2 h1 (by decide), ?_⟩
  have e : decide (q < r) = decide (q.num * (r.den : Int) < r.num * (q.den : Int)) := by
    congr 1
    exact propext (Rat.lt_iff q r)
  rw [← e]; exact h
theorem min_if (q r : Rat) : min q r = if r < q then r else q := by
  rw [Rat.instMin.eq_1] <;> first | rfl | grind
theorem max_if (q r : Rat) : max q r = if q < r then r else q := by
  rw [Rat.instMax.eq_1] <;> first | rfl | grind
def sp_power : DSp := fun ds S P => ∃ b k : Int, ds = [.int b, .int k] ∧ 0 < b ∧ b ≤ 16 ∧ k.natAbs ≤ 900 ∧ P (encR ((b : Rat) ^ k)) S
def rd_power : DS :=
  (dSeq (dSet 2 (dC (.int 1)))
  (dSeq (dFor (dRng1 (dCons (dCB cAbs (dCons (dVar 1) dNil)) dNil)) (.nm 3) (dAug 2 dIMul (dVar 0)))
  (dRet (dIf (dTest (dOp dGe (dVar 1) (dC (.int 0)))) (dTup (dCons (dVar 2) (dCons (dC (.int 1)) dNil))) (dTup (dCons (dC (.int 1)) (dCons (dVar 2) dNil)))))))
def goal_power : Prop := ∀ (x0 x1 : D) (S : Store) (P : D → Store → Prop), sp_power [x0, x1] S P → rd_power (dEnd P) [some x0, some x1, none, none] S
theorem len_power : ∀ ds S P, sp_power ds S P → ds.length = 2 := by
  rintro ds S P ⟨a, b, rfl, _⟩; rfl
theorem vc_power : goal_power := by
  rintro x0 x1 S P ⟨b, k, e, h1, h2, h3, h⟩
  cases e
  unfold rd_power
  walk_at "dgo"
  rw [abs_if]
  refine ⟨by omega +splitDisjunctions, by omega +splitDisjunctions, fun i ρ S' => ∃ z, ρ = [some (.int b), some (.int k), some (.int (b ^ i)), z] ∧ S' = S, ⟨none, by simp, rfl⟩, ?_, ?_⟩
  · rintro i d ρ S' hd ⟨z, rfl, rfl⟩
    refine ⟨_, rfl, ?_⟩
    walk_at "dgo"
    refine ⟨mulS2, some d, ?_⟩
    rw [Int.pow_succ]
  · rintro ρ S' ⟨z, rfl, rfl⟩
    rw [rng_len]
    walk_at "dgo"
    by_cases hk : 0 ≤ k
    · rw [if_pos hk]
      rw [encR_zpow_nn b k hk] at h
      rw [show ((k.natAbs : Int)).toNat = k.toNat by omega]; exact h
    · rw [if_neg hk]
      rw [encR_zpow_neg b k h1 (by omega)] at h
      rw [show ((k.natAbs : Int)).toNat = (-k).toNat by omega]; exact h
/-! ### draws -/
def BoxAt (S : Store) (p : Addr) (n : Nat) : Prop := ∃ a s t : Int, S p = some (.lst [.int a, .int s, .int t]) ∧ 0 ≤ a ∧ 0 ≤ s ∧ s < 2 ^ 62 ∧ 0 ≤ t ∧ t ≤ n
def Drew (S S' : Store) (p : Addr) (n : Nat) : Prop := ∃ a s t : Int, S' = supd S p (.lst [.int a, .int s, .int t]) ∧ 0 ≤ a ∧ 0 ≤ s ∧ s < 2 ^ 62 ∧ 0 ≤ t ∧ t ≤ n
theorem supd_same {S : Store} {p : Addr} {m : MO} : supd S p m p = some m := by unfold supd; rw [if_pos rfl]
theorem supd_ne {S : Store} {p q : Addr} {m : MO} (h : q ≠ p) : supd S p m q = S q := by unfold supd; rw [if_neg h]
theorem supd_supd {S : Store} {p : Addr} {m m' : MO} : supd (supd S p m) p m' = supd S p m' := by
  funext q; unfold supd; split <;> rfl
theorem Drew.box {S S' : Store} {p : Addr} {n : Nat} (h : Drew S S' p n) : BoxAt S' p n := by
  obtain ⟨a, s, t, rfl, h⟩ := h
  exact ⟨a, s, t, supd_same, h⟩
theorem Drew.trans {S S1 S2 : Store} {p : Addr} {n m : Nat} (h : Drew S S1 p n) (h2 : Drew S1 S2 p m) : Drew S S2 p m := by
  obtain ⟨a, s, t, rfl, _⟩ := h
  obtain ⟨a, s, t, rfl, h⟩ := h2
  exact ⟨a, s, t, supd_supd, h⟩
theorem Drew.other {S S' : Store} {p q : Addr} {n : Nat} (h : Drew S S' p n) (hq : q ≠ p) : S' q = S q := by
  obtain ⟨a, s, t, rfl, _⟩ := h
  exact supd_ne hq
theorem Drew.mono {S S' : Store} {p : Addr} {n m : Nat} (h : Drew S S' p n) (hm : n ≤ m) : Drew S S' p m := by
  obtain ⟨a, s, t, e, h1, h2, h3, h4, h5⟩ := h
  exact ⟨a, s, t, e, h1, h2, h3, h4, by omega⟩
theorem BoxAt.mono {S : Store} {p : Addr} {n m : Nat} (h : BoxAt S p n) (hm : n ≤ m) : BoxAt S p m := by
  obtain ⟨a, s, t, e, h1, h2, h3, h4, h5⟩ := h
  exact ⟨a, s, t, e, h1, h2, h3, h4, by omega⟩
theorem BoxAt.refl {S : Store} {p : Addr} {n : Nat} (h : BoxAt S p n) : Drew S S p n := by
  obtain ⟨a, s, t, e, h⟩ := h
  refine ⟨a, s, t, ?_, h⟩
  funext q; unfold supd; split
  · rename_i z; rw [z, e]
  · rfl
def sp_Lcell_at : DSp := fun ds S P => ∃ (ns : List Int) (k : Int), ds = [.ext (ns.map .int), .int k] ∧ 0 ≤ k ∧ ∀ c, P (.int c) S
def rd_Lcell_at : DS :=
  (dSeq (dIfS (dTest (dOp dLt (dVar 1) (dCB cLen (dCons (dVar 0) dNil)))) (dRet (dOp dIx (dVar 0) (dVar 1))) dNext)
  (dRet (dC (.int 0))))
def goal_Lcell_at : Prop := ∀ (x0 x1 : D) (S : Store) (P : D → Store → Prop), sp_Lcell_at [x0, x1] S P → rd_Lcell_at (dEnd P) [some x0, some x1] S
theorem len_Lcell_at : ∀ ds S P, sp_Lcell_at ds S P → ds.length = 2 := by
  rintro ds S P ⟨a, b, rfl, _⟩; rfl
theorem atI_at {α : Type} {l : List α} {k : Int} (h0 : 0 ≤ k) (h1 : k < (l.length : Int)) : atI l k = l[k.toNat]? := by
  unfold atI ixN
  rw [if_pos h0, if_pos h1]
  rfl
theorem vc_Lcell_at : goal_Lcell_at := by
  rintro x0 x1 S P ⟨ns, k, e, h0, h⟩
  cases e
  unfold rd_Lcell_at
  walk_at "dgo"
  split
  · rename_i hk
    rw [atI_at h0 hk]
    rw [List.length_map] at hk
    have : k.toNat < ns.length := by omega
    rw [List.getElem?_map, List.getElem?_eq_getElem this]
    exact h _
  · exact h _
def sp_Lbox : DSp := fun ds S P => ∃ (ns : List Int) (k : Int), ds = [.ext (ns.map .int), .int k] ∧ 0 ≤ k ∧ k ≤ 1000 ∧ ∀ p S', S p = none → Drew S S' p 0 → P (.obj p) S'
def rd_Lbox : DS :=
  (dSeq (dSet 2 (dCB sp_Lcell_at (dCons (dVar 0) (dCons (dVar 1) dNil))))
  (dRet (dLstM (dCons (dOp dMul (dCB cAbs (dCons (dVar 2) dNil)) (dCB cInt (dCons (dOp dGe (dCB cAbs (dCons (dVar 2) dNil)) (dOp dPow (dC (.int 10)) (dC (.int 18)))) dNil))) (dCons (dOp dAdd (dOp dAdd (dOp dMod (dVar 2) (dC (.int 2305843009213693951))) (dOp dMul (dC (.int 39373)) (dVar 1))) (dC (.int 17))) (dCons (dC (.int 0)) dNil))))))
def goal_Lbox : Prop := ∀ (x0 x1 : D) (S : Store) (P : D → Store → Prop), sp_Lbox [x0, x1] S P → rd_Lbox (dEnd P) [some x0, some x1, none] S
theorem len_Lbox : ∀ ds S P, sp_Lbox ds S P → ds.length = 2 := by
  rintro ds S P ⟨a, b, rfl, _⟩; rfl
theorem vc_Lbox : goal_Lbox := by
  rintro x0 x1 S P ⟨ns, k, e, h0, h1, h⟩
  cases e
  unfold rd_Lbox
  walk_at "dgo"
  refine ⟨ns, k, rfl, h0, fun c => ?_⟩
  walk_at "dgo"
  refine ⟨⟨by decide, by decide, by decide⟩, mulS2 (by (repeat' split) <;> decide), mulS, fun p hp => h p _ hp ⟨_, _, 0, rfl, ?_, ?_, ?_, by decide, by decide⟩⟩
  · rw [abs_if]
    split <;> simp
  · have := Int.emod_nonneg c (show (2305843009213693951 : Int) ≠ 0 by decide)
    omega
  · have := Int.emod_lt_of_pos c (show (0 : Int) < 2305843009213693951 by decide)
    omega
def sp_Ltake : DSp := fun ds S P => ∃ (p : Addr) (size : Int) (n : Nat), ds = [.obj p, .int size] ∧ 0 < size ∧ size ≤ 2 ^ 40 ∧ BoxAt S p n ∧ n ≤ 1000000000 ∧ ∀ x S', 0 ≤ x → x < size → Drew S S' p (n + 1) → P (.int x) S'
def rd_Ltake : DS :=
  (dSeq (dIfS (dTest (dOp dGt (dOp dIx (dVar 0) (dC (.int 0))) (dC (.int 0)))) (dSeq (dSet 2 (dOp dMod (dOp dIx (dVar 0) (dC (.int 0))) (dVar 1)))
  (dSeq (dSetIx (dOp dFdiv (dOp dIx (dVar 0) (dC (.int 0))) (dVar 1)) (dVar 0) (dC (.int 0)))
  (dRet (dVar 2)))) dNext)
  (dSeq (dSetIx (dOp dAdd (dOp dIx (dVar 0) (dC (.int 2))) (dC (.int 1))) (dVar 0) (dC (.int 2)))
  (dSeq (dSet 3 (dOp dMod (dOp dMul (dOp dAdd (dOp dIx (dVar 0) (dC (.int 1))) (dOp dMul (dC (.int 48271)) (dOp dIx (dVar 0) (dC (.int 2))))) (dOp dAdd (dC (.int 39373)) (dOp dIx (dVar 0) (dC (.int 2))))) (dC (.int 2147483647))))
  (dSeq (dSet 4 (dOp dMod (dOp dMul (dOp dAdd (dOp dAdd (dVar 3) (dOp dIx (dVar 0) (dC (.int 2)))) (dOp dFdiv (dOp dIx (dVar 0) (dC (.int 1))) (dC (.int 1000003)))) (dOp dAdd (dOp dMod (dVar 3) (dC (.int 40009))) (dC (.int 7)))) (dC (.int 2147483629))))
  (dRet (dOp dMod (dOp dFdiv (dOp dMod (dOp dAdd (dOp dMul (dVar 4) (dC (.int 48271))) (dVar 3)) (dC (.int 2147483587))) (dC (.int 64))) (dVar 1)))))))
def goal_Ltake : Prop := ∀ (x0 x1 : D) (S : Store) (P : D → Store → Prop), sp_Ltake [x0, x1] S P → rd_Ltake (dEnd P) [some x0, some x1, none, none, none] S
theorem len_Ltake : ∀ ds S P, sp_Ltake ds S P → ds.length = 2 := by
  rintro ds S P ⟨a, b, n, rfl, _⟩; rfl
theorem vc_Ltake : goal_Ltake := by
  rintro x0 x1 S P ⟨p, size, n, e, h0, h1, ⟨a, s, t, eb, b1, b2, b3, b4, b5⟩, hn, h⟩
  cases e
  unfold rd_Ltake dSetIx
  walk_at "dgo"
  simp only [eb]
  walk_at "dgo"
  have hx : ∀ y : Int, 0 ≤ y % size ∧ y % size < size := fun y => ⟨Int.emod_nonneg y (by omega), Int.emod_lt_of_pos y h0⟩
  split
  · rename_i ha
    refine ⟨h0, divS (by omega) (by omega), ?_⟩
    have e0 : ixN (0 + 1 + 1 + 1) 0 = some 0 := rfl
    simp only [e0, List.set_cons_zero]
    walk_at "dgo"
    exact h _ _ (hx a).1 (hx a).2 ⟨_, _, _, rfl, by rw [Int.fdiv_eq_ediv_of_nonneg _ (by omega)]; exact Int.ediv_nonneg b1 (by omega), b2, b3, b4, by omega⟩
  · have e2 : ixN (0 + 1 + 1 + 1) 2 = some 2 := rfl
    simp only [e2, List.set_cons_zero, List.set_cons_succ]
    walk_at "dgo"
    try simp only [supd_same]
    walk_at "dgo"
    have ht : t ≤ 1000000000 := by
      have hn2 : n ≤ 1000000000 := hn
      omega
    generalize hy1 : (s + 48271 * (t + 1)) * (39373 + (t + 1)) = y1
    have m1 : 0 ≤ y1 % 2147483647 ∧ y1 % 2147483647 < 2147483647 := ⟨Int.emod_nonneg _ (by decide), Int.emod_lt_of_pos _ (by decide)⟩
    generalize y1 % 2147483647 = z1 at *
    have hd : 0 ≤ s.fdiv 1000003 ∧ s.fdiv 1000003 ≤ s := by
      rw [Int.fdiv_eq_ediv_of_nonneg _ (by decide)]
      constructor
      · exact Int.ediv_nonneg b2 (by decide)
      · exact Int.ediv_le_self _ b2
    generalize s.fdiv 1000003 = z2 at *
    have m2 : 0 ≤ z1 % 40009 ∧ z1 % 40009 < 40009 := ⟨Int.emod_nonneg _ (by decide), Int.emod_lt_of_pos _ (by decide)⟩
    generalize z1 % 40009 = z3 at *
    generalize hy2 : (z1 + (t + 1) + z2) * (z3 + 7) = y2
    have m3 : 0 ≤ y2 % 2147483629 ∧ y2 % 2147483629 < 2147483629 := ⟨Int.emod_nonneg _ (by decide), Int.emod_lt_of_pos _ (by decide)⟩
    generalize y2 % 2147483629 = z4 at *
    refine ⟨mulS, mulS (by omega), divS (by decide) (by decide), mulS (by omega), mulS (by omega), divS (by decide) (by decide), h0, ?_⟩
    exact h _ _ (hx _).1 (hx _).2 ⟨_, _, _, rfl, b1, b2, b3, by omega, by omega⟩
def sp_Lof : DSp := fun ds S P => ∃ (p : Addr) (y : D) (xs : List D) (n : Nat), ds = [.obj p, y] ∧ (y = .lst xs ∨ y = .tup xs) ∧ 0 < xs.length ∧ xs.length ≤ 100000 ∧ BoxAt S p n ∧ n ≤ 1000000000 ∧ ∀ x S', x ∈ xs → Drew S S' p (n + 1) → P x S'
def rd_Lof : DS :=
  (dRet (dOp dIx (dVar 1) (dCB sp_Ltake (dCons (dVar 0) (dCons (dCB cLen (dCons (dVar 1) dNil)) dNil)))))
def goal_Lof : Prop := ∀ (x0 x1 : D) (S : Store) (P : D → Store → Prop), sp_Lof [x0, x1] S P → rd_Lof (dEnd P) [some x0, some x1] S
theorem len_Lof : ∀ ds S P, sp_Lof ds S P → ds.length = 2 := by
  rintro ds S P ⟨a, b, xs, n, rfl, _⟩; rfl
theorem vc_Lof : goal_Lof := by
  rintro x0 x1 S P ⟨p, y, xs, n, e, hy, h0, h1, hb, hn, h⟩
  cases e
  unfold rd_Lof
  rcases hy with rfl | rfl
  all_goals
    walk_at "dgo"
    refine ⟨p, _, n, rfl, by omega, by omega, hb, hn, fun x S' hx1 hx2 hd => ?_⟩
    walk_at "dgo"
    have hl : x.toNat < xs.length := by omega
    rw [atI_at hx1 hx2, List.getElem?_eq_getElem hl]
    exact h _ _ (List.getElem_mem hl) hd
/-! ### the law's own fractions -/
def sp_Lfrac : DSp := fun ds S P => ∃ a b : Int, ds = [.int a, .int b] ∧ b ≠ 0 ∧ a.natAbs < 2 ^ 8900 ∧ b.natAbs < 2 ^ 8900 ∧ P (encR ((a : Rat) / (b : Rat))) S
def rd_Lfrac : DS :=
  (dSeq (dPar 2 3 (dCons (dCB cAbs (dCons (dVar 0) dNil)) (dCons (dCB cAbs (dCons (dVar 1) dNil)) dNil)))
  (dSeq (dWhile (dTest (dOp dGt (dVar 3) (dC (.int 0)))) (dPar 2 3 (dCons (dVar 3) (dCons (dOp dMod (dVar 2) (dVar 3)) dNil))))
  (dSeq (dSet 4 (dIf (dTest (dOp dGt (dVar 1) (dC (.int 0)))) (dC (.int 1)) (dUn dNeg (dC (.int 1)))))
  (dRet (dTup (dCons (dOp dFdiv (dOp dMul (dVar 4) (dVar 0)) (dVar 2)) (dCons (dOp dFdiv (dCB cAbs (dCons (dVar 1) dNil)) (dVar 2)) dNil)))))))
def goal_Lfrac : Prop := ∀ (x0 x1 : D) (S : Store) (P : D → Store → Prop), sp_Lfrac [x0, x1] S P → rd_Lfrac (dEnd P) [some x0, some x1, none, none, none] S
theorem len_Lfrac : ∀ ds S P, sp_Lfrac ds S P → ds.length = 2 := by
  rintro ds S P ⟨a, b, rfl, _⟩; rfl
theorem vc_Lfrac : goal_Lfrac := by
  rintro x0 x1 S P ⟨a, b, e, hb, h1, h2, h⟩
  cases e
  unfold rd_Lfrac dWhile
  walk_at "dgo"
  rw [abs_if, abs_if]
  refine ⟨fun m ρ S' => ∃ c d : Int, m = d.toNat ∧ ρ = [some (.int a), some (.int b), some (.int c), some (.int d), none] ∧ S' = S ∧ 0 ≤ c ∧ 0 ≤ d ∧ Int.gcd c d = Int.gcd a b, ⟨_, _, _, rfl, rfl, rfl, by omega, by omega, gcd_abs a b⟩, ?_⟩
  rintro m ρ S' ⟨c, d, rfl, rfl, rfl, hc, hd, hg⟩
  walk_at "dgo"
  split
  · rename_i h0
    have h1 := Int.emod_nonneg c (b := d) (by omega)
    have h2 := Int.emod_lt_of_pos c h0
    exact ⟨h0, (c % d).toNat, by omega, d, c % d, rfl, rfl, hd, h1, by rw [← hg]; exact gcd_step c d h0⟩
  · have : d = 0 := by omega
    subst this
    have e : (c : Int) = (Int.gcd a b : Int) := by
      rw [← hg, Int.gcd_zero_right]; omega
    have hg0 := gcd_pos_r (a := a) hb
    have hgl := gcd_le_r (a := a) hb
    have hdv : DivB c := divB (n := 8900) (by omega) (by omega) (by decide)
    rw [encR_frac hb] at h
    rw [abs_if]
    have hfin : P (D.tup [.int ((b.sign * a).fdiv c), .int ((b.natAbs : Int).fdiv c)]) S' := by
      rw [Int.fdiv_eq_ediv_of_nonneg _ (by omega), Int.fdiv_eq_ediv_of_nonneg _ (by omega), e]
      exact h
    by_cases hp : 0 < b
    · rw [if_pos hp]
      rw [Int.sign_eq_one_of_pos hp] at hfin
      exact ⟨mulS, hdv, hdv, hfin⟩
    · rw [if_neg hp]
      rw [Int.sign_eq_neg_one_of_neg (show b < 0 by omega)] at hfin
      exact ⟨mulS, hdv, hdv, hfin⟩
def sp_Lbelow : DSp := sp_is_below
def rd_Lbelow : DS :=
  (dRet (dOp dLt (dOp dMul (dOp dIx (dVar 0) (dC (.int 0))) (dOp dIx (dVar 1) (dC (.int 1)))) (dOp dMul (dOp dIx (dVar 1) (dC (.int 0))) (dOp dIx (dVar 0) (dC (.int 1))))))
def goal_Lbelow : Prop := ∀ (x0 x1 : D) (S : Store) (P : D → Store → Prop), sp_Lbelow [x0, x1] S P → rd_Lbelow (dEnd P) [some x0, some x1] S
theorem len_Lbelow : ∀ ds S P, sp_Lbelow ds S P → ds.length = 2 := len_is_below
theorem vc_Lbelow : goal_Lbelow := vc_is_below
def sp_Lpower : DSp := sp_power
def rd_Lpower : DS :=
  (dSeq (dSet 2 (dC (.int 1)))
  (dSeq (dFor (dRng1 (dCons (dCB cAbs (dCons (dVar 1) dNil)) dNil)) (.nm 3) (dSet 2 (dOp dMul (dVar 2) (dVar 0))))
  (dRet (dIf (dTest (dOp dGe (dVar 1) (dC (.int 0)))) (dTup (dCons (dVar 2) (dCons (dC (.int 1)) dNil))) (dTup (dCons (dC (.int 1)) (dCons (dVar 2) dNil)))))))
def goal_Lpower : Prop := ∀ (x0 x1 : D) (S : Store) (P : D → Store → Prop), sp_Lpower [x0, x1] S P → rd_Lpower (dEnd P) [some x0, some x1, none, none] S
theorem len_Lpower : ∀ ds S P, sp_Lpower ds S P → ds.length = 2 := len_power
theorem vc_Lpower : goal_Lpower := by
  rintro x0 x1 S P ⟨b, k, e, h1, h2, h3, h⟩
  cases e
  unfold rd_Lpower
  walk_at "dgo"
  rw [abs_if]
  refine ⟨by omega +splitDisjunctions, by omega +splitDisjunctions, fun i ρ S' => ∃ z, ρ = [some (.int b), some (.int k), some (.int (b ^ i)), z] ∧ S' = S, ⟨none, by simp, rfl⟩, ?_, ?_⟩
  · rintro i d ρ S' hd ⟨z, rfl, rfl⟩
    refine ⟨_, rfl, ?_⟩
    walk_at "dgo"
    refine ⟨mulS2, some d, ?_⟩
    rw [Int.pow_succ]
  · rintro ρ S' ⟨z, rfl, rfl⟩
    rw [rng_len]
    walk_at "dgo"
    by_cases hk : 0 ≤ k
    · rw [if_pos hk]
      rw [encR_zpow_nn b k hk] at h
      rw [show ((k.natAbs : Int)).toNat = k.toNat by omega]; exact h
    · rw [if_neg hk]
      rw [encR_zpow_neg b k h1 (by omega)] at h
      rw [show ((k.natAbs : Int)).toNat = (-k).toNat by omega]; exact h
/-! ### powers and order -/
theorem ratpos {b : Int} (h : 0 < b) : (0 : Rat) < (b : Rat) := Rat.intCast_pos.mpr h
theorem one_le_pow {b : Rat} (h : 1 ≤ b) : ∀ n : Nat, 1 ≤ b ^ n
  | 0 => by simp
  | n + 1 => by
    rw [Rat.pow_succ]
    have h1 := one_le_pow h n
    have h2 := Rat.mul_le_mul_of_nonneg_left (c := b ^ n) h (by grind)
    grind
theorem zpow_mono {b : Int} (hb : 1 ≤ b) {m n : Int} (h : m ≤ n) : (b : Rat) ^ m ≤ (b : Rat) ^ n := by
  have hp : (0 : Rat) < (b : Rat) := ratpos (by omega)
  have e : n = m + ((n - m).toNat : Int) := by omega
  rw [e, Rat.zpow_add (by grind)]
  have h1 : (1 : Rat) ≤ (b : Rat) ^ (((n - m).toNat : Nat) : Int) := one_le_pow (by
    have : (1 : Rat) = ((1 : Int) : Rat) := rfl
    rw [this]; exact Rat.intCast_le_intCast.mpr hb) _
  have h2 := Rat.mul_le_mul_of_nonneg_left (c := (b : Rat) ^ m) h1 (Rat.le_of_lt (Rat.zpow_pos hp))
  grind
/-- a fraction above 0 of so many bits lies between such powers of two -/
theorem sz_lt {q : Rat} {n : Nat} (h : Sz n q) (hq : 0 < q) : q < (2 : Rat) ^ n ∧ 1 < q * (2 : Rat) ^ n := by
  have hn : 0 < q.num := by simpa using (Rat.lt_iff 0 q).mp hq
  have hd : (0 : Rat) < ((q.den : Int) : Rat) := ratpos (by have := q.den_pos; omega)
  have e := rat_eq q
  have p2 : ((2 ^ n : Nat) : Rat) = (2 : Rat) ^ n := by
    have := intpow_cast 2 n
    rw [← Rat.intCast_natCast]
    exact_mod_cast this
  have h1 : (q.num : Rat) < (2 : Rat) ^ n := by
    rw [← p2, ← Rat.intCast_natCast]
    exact Rat.intCast_lt_intCast.mpr (by have := h.1; omega)
  have h2 : ((q.den : Int) : Rat) < (2 : Rat) ^ n := by
    rw [← p2, ← Rat.intCast_natCast]
    exact Rat.intCast_lt_intCast.mpr (by have := h.2; omega)
  have h3 : (1 : Rat) ≤ (q.num : Rat) := by
    have : (1 : Rat) = ((1 : Int) : Rat) := rfl
    rw [this]; exact Rat.intCast_le_intCast.mpr hn
  have h4 : (1 : Rat) ≤ ((q.den : Int) : Rat) := by
    have : (1 : Rat) = ((1 : Int) : Rat) := rfl
    rw [this]; exact Rat.intCast_le_intCast.mpr (by have := q.den_pos; omega)
  have em : q * ((q.den : Int) : Rat) = (q.num : Rat) := by
    conv => lhs; lhs; rw [e]
    exact Rat.div_mul_cancel (den_ne q)
  constructor
  · have := Rat.mul_le_mul_of_nonneg_left (c := q) h4 (Rat.le_of_lt hq)
    grind
  · have := Rat.mul_lt_mul_of_pos_left h2 hq
    grind
/-! ### the least power that is enough -/
def IsLp (b room : Int) (need : Rat) (d : Int) : Prop := need ≤ (b : Rat) ^ d * (room : Rat) ∧ (b : Rat) ^ (d - 1) * (room : Rat) < need
def sp_least_power : DSp := fun ds S P => ∃ (b room : Int) (need : Rat), ds = [.int b, .int room, encR need] ∧ 2 ≤ b ∧ b ≤ 16 ∧ 1 ≤ room ∧ room < 2 ^ 20 ∧ 0 < need ∧ Sz 800 need ∧ ∀ d, IsLp b room need d → -830 ≤ d → d ≤ 830 → P (.int d) S
def rd_least_power : DS :=
  (dSeq (dSet 3 (dC (.int 0)))
  (dSeq (dWhile (dTest (dCB sp_is_below (dCons (dCB sp_times (dCons (dCB sp_power (dCons (dVar 0) (dCons (dVar 3) dNil))) (dCons (dTup (dCons (dVar 1) (dCons (dC (.int 1)) dNil))) dNil))) (dCons (dVar 2) dNil)))) (dAug 3 dIAdd (dC (.int 1))))
  (dSeq (dWhile (dNot (dTest (dCB sp_is_below (dCons (dCB sp_times (dCons (dCB sp_power (dCons (dVar 0) (dCons (dOp dSub (dVar 3) (dC (.int 1))) dNil))) (dCons (dTup (dCons (dVar 1) (dCons (dC (.int 1)) dNil))) dNil))) (dCons (dVar 2) dNil))))) (dAug 3 dSub (dC (.int 1))))
  (dRet (dVar 3)))))
def goal_least_power : Prop := ∀ (x0 x1 x2 : D) (S : Store) (P : D → Store → Prop), sp_least_power [x0, x1, x2] S P → rd_least_power (dEnd P) [some x0, some x1, some x2, none] S
theorem len_least_power : ∀ ds S P, sp_least_power ds S P → ds.length = 3 := by
  rintro ds S P ⟨a, b, n, rfl, _⟩; rfl
theorem pow2_le {b : Int} (hb : 2 ≤ b) (n : Nat) : (2 : Rat) ^ n ≤ (b : Rat) ^ n := by
  induction n with
  | zero => simp
  | succ n ih =>
    rw [Rat.pow_succ, Rat.pow_succ]
    have h2 : (2 : Rat) ≤ (b : Rat) := by
      have : (2 : Rat) = ((2 : Int) : Rat) := rfl
      rw [this]; exact Rat.intCast_le_intCast.mpr hb
    have p : (0 : Rat) < (2 : Rat) ^ n := Rat.pow_pos (by decide)
    have a1 := Rat.mul_le_mul_of_nonneg_left (c := (2 : Rat) ^ n) h2 (Rat.le_of_lt p)
    have a2 := Rat.mul_le_mul_of_nonneg_right (c := (b : Rat)) ih (by grind)
    grind
theorem lp_high {b room : Int} {need : Rat} (hb : 2 ≤ b) (hr : 1 ≤ room) (h : Sz 800 need) (h0 : 0 < need) {d : Int} (hd : 800 ≤ d) : ¬ (b : Rat) ^ d * (room : Rat) < need := by
  intro hl
  have h1 := (sz_lt h h0).1
  have h2 := pow2_le hb 800
  have h3 := zpow_mono (show (1 : Int) ≤ b by omega) (show ((800 : Nat) : Int) ≤ d by omega)
  rw [zpow_of_nat] at h3
  have hr1 : (1 : Rat) ≤ (room : Rat) := by
    have : (1 : Rat) = ((1 : Int) : Rat) := rfl
    rw [this]; exact Rat.intCast_le_intCast.mpr hr
  have h4 : (0 : Rat) < (b : Rat) ^ d := Rat.zpow_pos (ratpos (by omega))
  have h5 := Rat.mul_le_mul_of_nonneg_left (c := (b : Rat) ^ d) hr1 (Rat.le_of_lt h4)
  generalize (2 : Rat) ^ 800 = z at *
  generalize (b : Rat) ^ 800 = y at *
  grind
theorem lp_low {b room : Int} {need : Rat} (hb : 2 ≤ b) (hr : 1 ≤ room) (hr2 : room < 2 ^ 20) (h : Sz 800 need) (h0 : 0 < need) {d : Int} (hd : d ≤ -820) : (b : Rat) ^ d * (room : Rat) < need := by
  have h1 := (sz_lt h h0).2
  have h2 := pow2_le hb 820
  have h3 := zpow_mono (show (1 : Int) ≤ b by omega) (show d ≤ -((820 : Nat) : Int) by omega)
  rw [Rat.zpow_neg, zpow_of_nat] at h3
  have hp : (0 : Rat) < (b : Rat) ^ 820 := Rat.pow_pos (ratpos (by omega))
  have hr1 : (room : Rat) < (2 : Rat) ^ 20 := by
    have e : (2 : Rat) ^ 20 = ((2 ^ 20 : Int) : Rat) := by rw [intpow_cast]; rfl
    rw [e]; exact Rat.intCast_lt_intCast.mpr hr2
  have hr0 : (0 : Rat) < (room : Rat) := ratpos (by omega)
  have e2 : (2 : Rat) ^ 820 = (2 : Rat) ^ 800 * (2 : Rat) ^ 20 := by
    have := Rat.zpow_add (q := 2) (by decide) ((800 : Nat) : Int) ((20 : Nat) : Int)
    exact this
  rw [e2] at h2
  have hz : (0 : Rat) < (2 : Rat) ^ 800 := Rat.pow_pos (by decide)
  have hw : (0 : Rat) < (2 : Rat) ^ 20 := Rat.pow_pos (by decide)
  generalize (2 : Rat) ^ 800 = z at *
  generalize (2 : Rat) ^ 20 = w at *
  generalize (b : Rat) ^ 820 = y at *
  -- b^d ≤ 1/y ≤ 1/(z w), room < w, so b^d room < 1/z < need
  have a1 : (b : Rat) ^ d * y ≤ 1 := by
    have := Rat.mul_le_mul_of_nonneg_right (c := y) h3 (Rat.le_of_lt hp)
    rw [Rat.inv_mul_cancel _ (by grind)] at this
    exact this
  have hbd : (0 : Rat) < (b : Rat) ^ d := Rat.zpow_pos (ratpos (by omega))
  generalize (b : Rat) ^ d = x at *
  have a2 : x * (z * w) ≤ 1 := by
    have := Rat.mul_le_mul_of_nonneg_left (c := x) h2 (Rat.le_of_lt hbd)
    grind
  have a3 : x * (room : Rat) * z < 1 := by
    have t1 := Rat.mul_lt_mul_of_pos_left hr1 (show (0 : Rat) < x * z from Rat.mul_pos hbd hz)
    grind
  have a4 : x * (room : Rat) * z < need * z := by grind
  exact Rat.lt_of_mul_lt_mul_right a4 (Rat.le_of_lt hz)
theorem vc_least_power : goal_least_power := by
  rintro x0 x1 x2 S P ⟨b, room, need, e, h1, h2, h3, h4, h5, h6, h⟩
  cases e
  unfold rd_least_power
  have szr : Sz 21 ((room : Int) : Rat) := sz_int (by omega)
  have szp : ∀ d : Int, -830 ≤ d → d ≤ 830 → Sz 4000 ((b : Rat) ^ d) := fun d a1 a2 => (sz_zpow (k := d) (by omega) h2).mono (by omega)
  have szm : ∀ d : Int, -830 ≤ d → d ≤ 830 → Sz 400000 ((b : Rat) ^ d * (room : Rat)) := fun d a1 a2 => (sz_mul (szp d a1 a2) szr).mono (by decide)
  have szn : Sz 400000 need := h6.mono (by decide)
  -- one look
  have look : ∀ (d : Int) (Q : D → Store → Prop) (S : Store), -830 ≤ d → d ≤ 830 → Q (.bl (decide ((b : Rat) ^ d * (room : Rat) < need))) S →
      sp_power [.int b, .int d] S fun x S1 => sp_times [x, .tup [.int room, .int 1]] S1 fun y S2 => sp_is_below [y, encR need] S2 Q := fun d Q S a1 a2 q =>
    ⟨b, d, rfl, by omega, h2, by omega, _, ((room : Int) : Rat), rfl, szp d a1 a2, szr.mono (by decide), _, _, rfl, szm d a1 a2, szn, q⟩
  unfold dWhile
  walk_at "dgo"
  refine ⟨fun m ρ S' => ∃ lag : Int, ρ = [some (.int b), some (.int room), some (encR need), some (.int lag)] ∧ S' = S ∧ 0 ≤ lag ∧ lag ≤ 800 ∧ m = (800 - lag).toNat, ⟨800, 0, rfl, rfl, by decide, by decide, by decide⟩, ?_⟩
  rintro m ρ S' ⟨lag, rfl, rfl, l0, l1, rfl⟩
  walk_at "dgo"
  refine look lag _ _ (by omega) (by omega) ?_
  walk_at "dgo"
  split
  · rename_i hlt
    have : ¬ 800 ≤ lag := fun z => lp_high h1 h3 h6 h5 z hlt
    exact ⟨_, by omega, lag + 1, rfl, by omega, by omega, rfl⟩
  · rename_i hge
    refine ⟨fun m ρ S'' => ∃ lag : Int, ρ = [some (.int b), some (.int room), some (encR need), some (.int lag)] ∧ S'' = S' ∧ -820 ≤ lag ∧ lag ≤ 800 ∧ ¬ (b : Rat) ^ lag * (room : Rat) < need ∧ m = (lag + 820).toNat, ⟨_, lag, rfl, rfl, by omega, by omega, hge, rfl⟩, ?_⟩
    rintro m ρ S'' ⟨lag, rfl, rfl, l0, l1, hl, rfl⟩
    walk_at "dgo"
    refine look (lag - 1) _ _ (by omega) (by omega) ?_
    walk_at "dgo"
    by_cases hc : (b : Rat) ^ (lag - 1) * (room : Rat) < need
    · simp only [hc, decide_true, Bool.not_true, Bool.false_eq_true, reduceIte]
      exact h lag ⟨Rat.not_lt.mp hl, hc⟩ (by omega) (by omega)
    · simp only [hc, decide_false, Bool.not_false, reduceIte]
      have : ¬ lag - 1 ≤ -820 := fun z => hc (lp_low h1 h3 h4 h6 h5 z)
      exact ⟨_, by omega, lag - 1, rfl, by omega, by omega, hc, rfl⟩
/-- each item by itself, with draws on the way: R of each, St between -/
theorem lc_st {t : Tgt} {de : DE} {P : D → Store → Prop} {ds : List D} {ρ : DSt} {S : Store} (R : Nat → D → Prop) (St : Nat → Store → Prop) (hl : ds.length ≤ 100000) (h0 : St 0 S)
    (h : ∀ (i : Nat) (d : D) (S' : Store), ds[i]? = some d → St i S' → ∃ ρ', t.put d (dwipe ρ t.slots) = some ρ' ∧ ∀ Q : D → Store → Prop, (∀ y S'', R i y → St (i + 1) S'' → Q y S'') → de ρ' S' Q)
    (q : ∀ ys S', ys.length = ds.length → (∀ i y, ys[i]? = some y → R i y) → St ds.length S' → P (.lst ys) S') : LcB t dYes de P ds ρ S := by
  refine ⟨hl, fun i acc S' => acc.length = i ∧ (∀ j y, acc[j]? = some y → R j y) ∧ St i S', ⟨rfl, by simp, h0⟩, ?_, ?_⟩
  · rintro i d acc S' hd ⟨rfl, hr, hs⟩
    obtain ⟨ρ', h1, h2⟩ := h _ d S' hd hs
    refine ⟨ρ', h1, ?_⟩
    simp only [dYes, reduceIte]
    refine h2 _ fun y S'' r s => ⟨by simp, fun j z hz => ?_, s⟩
    by_cases hj : j < acc.length
    · rw [List.getElem?_append_left hj] at hz
      exact hr j z hz
    · rw [List.getElem?_append_right (by omega)] at hz
      have hj2 : j = acc.length := by
        have := (List.getElem?_eq_some_iff.mp hz).1
        simp at this
        omega
      subst hj2
      simp at hz
      exact hz ▸ r
  · rintro acc S' ⟨h1, h2, h3⟩
    exact q acc S' h1 h2 h3
/-- lists of data with a property are data of things -/
theorem ex_map {α : Type} {f : α → D} {R : α → Prop} : ∀ {ys : List D}, (∀ y, y ∈ ys → ∃ a, y = f a ∧ R a) → ∃ as : List α, ys = as.map f ∧ ∀ a, a ∈ as → R a
  | [], _ => ⟨[], rfl, by simp⟩
  | y :: ys, h => by
    obtain ⟨a, rfl, ra⟩ := h y (by simp)
    obtain ⟨as, rfl, ras⟩ := ex_map (f := f) (R := R) (ys := ys) (fun z hz => h z (by simp [hz]))
    exact ⟨a :: as, rfl, fun b hb => by
      rcases List.mem_cons.mp hb with rfl | hb
      · exact ra
      · exact ras b hb⟩
/-! ### draws, only the box looked at -/
theorem take_ok {p : Addr} {n : Nat} {size : Int} {S : Store} {P : D → Store → Prop} (hb : BoxAt S p n) (h0 : 0 < size) (h1 : size ≤ 2 ^ 40) (hn : n ≤ 1000000000) (h : ∀ x S', 0 ≤ x → x < size → BoxAt S' p (n + 1) → P (.int x) S') : sp_Ltake [.obj p, .int size] S P :=
  ⟨p, size, n, rfl, h0, h1, hb, hn, fun x S' a b d => h x S' a b d.box⟩
theorem of_lst {p : Addr} {n : Nat} {xs : List D} {S : Store} {P : D → Store → Prop} (hb : BoxAt S p n) (h0 : 0 < xs.length) (h1 : xs.length ≤ 100000) (hn : n ≤ 1000000000) (h : ∀ x S', x ∈ xs → BoxAt S' p (n + 1) → P x S') : sp_Lof [.obj p, .lst xs] S P :=
  ⟨p, _, xs, n, rfl, .inl rfl, h0, h1, hb, hn, fun x S' a d => h x S' a d.box⟩
/-- numbers of a list, all with a property -/
theorem of_ints {p : Addr} {n : Nat} {ns : List Int} {S : Store} {P : D → Store → Prop} (R : Int → Prop) (hb : BoxAt S p n) (h0 : 0 < ns.length) (h1 : ns.length ≤ 100000) (hn : n ≤ 1000000000) (hr : ∀ z, z ∈ ns → R z) (h : ∀ z S', R z → BoxAt S' p (n + 1) → P (.int z) S') : sp_Lof [.obj p, .lst (ns.map .int)] S P :=
  of_lst hb (by simpa using h0) (by simpa using h1) hn fun x S' hx hb' => by
    obtain ⟨z, hz, rfl⟩ := List.mem_map.mp hx
    exact h z S' (hr z hz) hb'
/-! ### the greatest of a list -/
def maxI (ms : List Int) : Int := ms.foldr (fun a b => max a b) 0
theorem maxI_ge : ∀ {ms : List Int} {m : Int}, m ∈ ms → m ≤ maxI ms
  | a :: r, m, h => by
    have e : maxI (a :: r) = max a (maxI r) := rfl
    rcases List.mem_cons.mp h with rfl | h
    · rw [e]; omega
    · have := maxI_ge h
      rw [e]; omega
theorem maxI_mem : ∀ {ms : List Int}, ms ≠ [] → (∀ m ∈ ms, 0 ≤ m) → maxI ms ∈ ms
  | [a], _, h => by
    have e : maxI [a] = max a 0 := rfl
    have := h a (by simp)
    rw [e]; simp; omega
  | a :: b :: r, _, h => by
    have e : maxI (a :: b :: r) = max a (maxI (b :: r)) := rfl
    have ih := maxI_mem (ms := b :: r) (by simp) (fun m hm => h m (by simp [hm]))
    rcases Int.le_total a (maxI (b :: r)) with q | q
    · have : max a (maxI (b :: r)) = maxI (b :: r) := by omega
      rw [e, this]
      exact List.mem_cons_of_mem _ ih
    · have : max a (maxI (b :: r)) = a := by omega
      rw [e, this]; simp
/-! ### kinds, sources, widths -/
inductive Kd where
  | sum (ws : List Int) (o : Int)
  | least
  | most
  | times
  | over (k : Int)
def Kd.d : Kd → D
  | .sum ws o => .tup [.str "sum", .tup (ws.map .int), .int o]
  | .least => .tup [.str "least"]
  | .most => .tup [.str "most"]
  | .times => .tup [.str "times"]
  | .over k => .tup [.str "over", .int k]
def abI (a : Int) : Int := if a < 0 then -a else a
def sumW (ws ms : List Int) : Int := (List.zipWith (fun w m => abI w * m) ws ms).sum
def Kd.wide (b : Int) (ss : List (Int × Int)) : Kd → Rat
  | .sum ws o => ((sumW ws (ss.map (·.2)) : Int) : Rat) / (o : Rat)
  | .times => match ss with
    | [(e0, m0), (e1, m1)] => ((m0 * m1 : Int) : Rat) / ((b - 1 : Int) : Rat) * ((b : Rat) ^ e0 + (b : Rat) ^ e1)
    | _ => 0
  | .over k => match ss with
    | [(e0, m0), (_, m1)] => ((m0 : Int) : Rat) * (b : Rat) ^ k * (((1 : Int) : Rat) + ((m1 : Int) : Rat) / ((b - 1 : Int) : Rat) * (b : Rat) ^ k * (b : Rat) ^ e0)
    | _ => 0
  | _ => ((maxI (ss.map (·.2)) : Int) : Rat)
def Kd.Ok (ss : List (Int × Int)) : Kd → Prop
  | .sum ws o => ws.length = ss.length ∧ 0 < o ∧ o < 2 ^ 20 ∧ ∀ w ∈ ws, w ≠ 0 ∧ w.natAbs ≤ 100
  | .times => ss.length = 2
  | .over k => ss.length = 2 ∧ 0 ≤ k ∧ k ≤ 6
  | _ => True
structure SsOk (b : Int) (ss : List (Int × Int)) : Prop where
  b0 : 2 ≤ b
  b1 : b ≤ 16
  n0 : 1 ≤ ss.length
  n1 : ss.length ≤ 8
  each : ∀ q ∈ ss, (-30 ≤ q.1 ∧ q.1 ≤ 30) ∧ 1 ≤ q.2 ∧ q.2 ≤ 60
theorem sumW_bound : ∀ (ws ms : List Int) (n : Nat), ws.length ≤ n → (∀ w ∈ ws, w ≠ 0 ∧ w.natAbs ≤ 100) → (∀ m ∈ ms, 1 ≤ m ∧ m ≤ 60) → 0 ≤ sumW ws ms ∧ sumW ws ms ≤ 6000 * (n : Int) ∧ (ws ≠ [] → ms ≠ [] → 0 < sumW ws ms)
  | [], ms, n, _, _, _ => by
    have e : sumW [] ms = 0 := by unfold sumW; simp
    rw [e]; exact ⟨by omega, by omega, fun h => absurd rfl h⟩
  | w :: ws, [], n, _, _, _ => by
    have e : sumW (w :: ws) [] = 0 := by unfold sumW; simp
    rw [e]; exact ⟨by omega, by omega, fun _ h => absurd rfl h⟩
  | w :: ws, m :: ms, n, hn, hw, hm => by
    have e : sumW (w :: ws) (m :: ms) = abI w * m + sumW ws ms := by unfold sumW; simp
    obtain ⟨i1, i2, i3⟩ := sumW_bound ws ms (n - 1) (by simp at hn; omega) (fun x hx => hw x (by simp [hx])) (fun x hx => hm x (by simp [hx]))
    obtain ⟨w0, w1⟩ := hw w (by simp)
    obtain ⟨m0, m1⟩ := hm m (by simp)
    have a0 : 1 ≤ abI w ∧ abI w ≤ 100 := by unfold abI; split <;> omega
    have p1 : 1 * 1 ≤ abI w * m := Int.mul_le_mul a0.1 m0 (by decide) (by omega)
    have p2 : abI w * m ≤ 100 * 60 := Int.mul_le_mul a0.2 m1 (by omega) (by decide)
    have hn1 : 1 ≤ n := by simp at hn; omega
    rw [e]
    exact ⟨by omega, by omega, fun _ _ => by omega⟩
theorem div_pos' {x y : Rat} (hx : 0 < x) (hy : 0 < y) : 0 < x / y := by
  rw [Rat.div_def]
  exact Rat.mul_pos hx (Rat.inv_pos.mpr hy)
theorem SsOk.mosts {b : Int} {ss : List (Int × Int)} (h : SsOk b ss) : ∀ m ∈ ss.map (·.2), 1 ≤ m ∧ m ≤ 60 := fun m hm => by
  obtain ⟨q, hq, rfl⟩ := List.mem_map.mp hm
  exact (h.each q hq).2
theorem SsOk.max {b : Int} {ss : List (Int × Int)} (h : SsOk b ss) : 1 ≤ maxI (ss.map (·.2)) ∧ maxI (ss.map (·.2)) ≤ 60 := by
  have hne : ss.map (·.2) ≠ [] := by
    have n0 := h.n0
    intro z
    have z2 : ss = [] := by simpa using z
    rw [z2] at n0
    exact absurd n0 (by decide)
  exact h.mosts _ (maxI_mem hne fun m hm => by have := h.mosts m hm; omega)
section
variable {b : Int} {ss : List (Int × Int)}
theorem SsOk.bp (h : SsOk b ss) : (0 : Rat) < (b : Rat) := ratpos (by have := h.b0; omega)
theorem SsOk.cp (h : SsOk b ss) : (0 : Rat) < ((b - 1 : Int) : Rat) := ratpos (by have := h.b0; omega)
theorem SsOk.cne (h : SsOk b ss) : (b - 1 : Int) ≠ 0 := by have := h.b0; omega
theorem SsOk.sb (h : SsOk b ss) {e : Int} (h1 : -30 ≤ e) (h2 : e ≤ 30) : Sz 121 ((b : Rat) ^ e) := (sz_zpow (k := e) (by have := h.b0; omega) (by have := h.b1; omega)).mono (by omega)
theorem SsOk.sf (h : SsOk b ss) {m : Int} (hm : m.natAbs < 2 ^ 12) : Sz 12 ((m : Rat) / ((b - 1 : Int) : Rat)) := sz_frac h.cne hm (by have := h.b0; have := h.b1; omega +splitDisjunctions)
theorem mm_bound {m0 m1 : Int} (h0 : 1 ≤ m0 ∧ m0 ≤ 60) (h1 : 1 ≤ m1 ∧ m1 ≤ 60) : (m0 * m1).natAbs < 2 ^ 12 := by
  rw [Int.natAbs_mul]
  have := Nat.mul_le_mul (show m0.natAbs ≤ 60 by omega) (show m1.natAbs ≤ 60 by omega)
  omega
theorem SsOk.wide (h : SsOk b ss) {kd : Kd} (hk : kd.Ok ss) : 0 < kd.wide b ss ∧ Sz 398 (kd.wide b ss) := by
  have mx := h.max
  have mr : (0 : Rat) < ((maxI (ss.map (·.2)) : Int) : Rat) ∧ Sz 398 ((maxI (ss.map (·.2)) : Int) : Rat) := ⟨ratpos (by omega), (sz_int (n := 6) (by omega)).mono (by decide)⟩
  cases kd with
  | least => exact mr
  | most => exact mr
  | sum ws o =>
    obtain ⟨h1, h2, h3, h4⟩ := hk
    obtain ⟨s0, s1, s2⟩ := sumW_bound ws (ss.map (·.2)) 8 (by have := h.n1; omega) h4 h.mosts
    have s3 := s2 (by
      intro z; subst z
      have := h.n0; simp at h1; omega) (by
      have n0 := h.n0
      intro z
      have z2 : ss = [] := by simpa using z
      rw [z2] at n0
      exact absurd n0 (by decide))
    refine ⟨div_pos' (ratpos s3) (ratpos h2), (sz_frac (n := 20) (by omega) ?_ ?_).mono (by decide)⟩
    · omega
    · omega
  | times =>
    match ss, hk, h with
    | [(e0, m0), (e1, m1)], _, h =>
      obtain ⟨q0, q1⟩ := h.each (e0, m0) (by simp)
      obtain ⟨r0, r1⟩ := h.each (e1, m1) (by simp)
      simp only at q0 q1 r0 r1
      have p0 := Rat.zpow_pos (n := e0) h.bp
      have p1 := Rat.zpow_pos (n := e1) h.bp
      have mmp : (0 : Rat) < ((m0 * m1 : Int) : Rat) := ratpos (Int.mul_pos (by omega) (by omega))
      exact ⟨Rat.mul_pos (div_pos' mmp h.cp) (by grind), (sz_mul (h.sf (mm_bound q1 r1)) (sz_add (h.sb q0.1 q0.2) (h.sb r0.1 r0.2))).mono (by decide)⟩
  | over k =>
    obtain ⟨hl, k0, k1⟩ := hk
    match ss, hl, h with
    | [(e0, m0), (e1, m1)], _, h =>
      obtain ⟨q0, q1⟩ := h.each (e0, m0) (by simp)
      obtain ⟨r0, r1⟩ := h.each (e1, m1) (by simp)
      simp only at q0 q1 r0 r1
      have p0 := Rat.zpow_pos (n := e0) h.bp
      have pk := Rat.zpow_pos (n := k) h.bp
      have m0p : (0 : Rat) < (m0 : Rat) := ratpos (by omega)
      have m1p : (0 : Rat) < (m1 : Rat) := ratpos (by omega)
      have := Rat.mul_pos (Rat.mul_pos (div_pos' m1p h.cp) pk) p0
      have one : ((1 : Int) : Rat) = 1 := rfl
      have sk : Sz 25 ((b : Rat) ^ k) := (sz_zpow (k := k) (by have := h.b0; omega) (by have := h.b1; omega)).mono (by omega)
      have n0 : Sz 12 (m0 : Rat) := sz_int (by omega)
      have f1 := h.sf (m := m1) (by omega)
      have o1 : Sz 1 ((1 : Int) : Rat) := sz_int (by decide)
      exact ⟨Rat.mul_pos (Rat.mul_pos m0p pk) (by rw [one]; grind), (sz_mul (sz_mul n0 sk) (sz_add o1 (sz_mul (sz_mul f1 sk) (h.sb q0.1 q0.2)))).mono (by decide)⟩
/-- twice the width -/
def Kd.need (b : Int) (ss : List (Int × Int)) (kd : Kd) : Rat := ((2 : Int) : Rat) * kd.wide b ss
theorem SsOk.need (h : SsOk b ss) {kd : Kd} (hk : kd.Ok ss) : 0 < kd.need b ss ∧ Sz 400 (kd.need b ss) :=
  ⟨Rat.mul_pos (by decide) (h.wide hk).1, (sz_mul (sz_int (n := 2) (k := 2) (by decide)) (h.wide hk).2).mono (by decide)⟩
end
theorem IsLp.up {b room d : Int} {q : Rat} (hb : 1 ≤ b) (h : IsLp b room q d) : IsLp b room (q * (b : Rat)) (d + 1) := by
  have hp : (0 : Rat) < (b : Rat) := ratpos (by omega)
  have hn : (b : Rat) ≠ 0 := by grind
  have e2 : (b : Rat) ^ (d + 1 - 1) = (b : Rat) ^ (d - 1) * (b : Rat) := by
    rw [← Rat.zpow_add_one hn]; congr 1; omega
  obtain ⟨h1, h2⟩ := h
  constructor
  · rw [Rat.zpow_add_one hn]
    have := Rat.mul_le_mul_of_nonneg_right h1 (Rat.le_of_lt hp)
    grind
  · rw [e2]
    have := Rat.mul_lt_mul_of_pos_right h2 hp
    grind
/-- what told_lag is asked about -/
inductive TKd where
  | kd (k : Kd)
  | loose (xs : List D)
  | told (x : D)
  | choose
  | moved (k : Int)
def TKd.d : TKd → D
  | .kd k => k.d
  | .loose xs => .tup [.str "loose", .tup xs]
  | .told x => .tup [.str "told", x]
  | .choose => .tup [.str "choose"]
  | .moved k => .tup [.str "moved", .int k]
def TKd.Ok (b : Int) (ss : List (Int × Int)) (most : Int) : TKd → Prop
  | .kd k => SsOk b ss ∧ k.Ok ss ∧ b ≤ 2 * most ∧ most ≤ 60
  | _ => True
/-! ### plain data -/
inductive Plain : Nat → D → Prop
  | non {n} : Plain n .non
  | bl {n b} : Plain n (.bl b)
  | int {n i} : Plain n (.int i)
  | str {n z} : Plain n (.str z)
  | lst {n ds} (hl : ds.length ≤ 100000) (h : ∀ y, y ∈ ds → Plain n y) : Plain (n + 1) (.lst ds)
  | tup {n ds} (hl : ds.length ≤ 100000) (h : ∀ y, y ∈ ds → Plain n y) : Plain (n + 1) (.tup ds)
theorem Plain.mono {n : Nat} {x : D} (h : Plain n x) : ∀ {m : Nat}, n ≤ m → Plain m x := by
  induction h with
  | non => intro m _; exact .non
  | bl => intro m _; exact .bl
  | int => intro m _; exact .int
  | str => intro m _; exact .str
  | lst hl h ih => intro m hm; cases m with
    | zero => omega
    | succ m => exact .lst hl fun y hy => ih y hy (by omega)
  | tup hl h ih => intro m hm; cases m with
    | zero => omega
    | succ m => exact .tup hl fun y hy => ih y hy (by omega)
/-- plain, of a text so long at most -/
def Gd (n c : Nat) (x : D) : Prop := Plain n x ∧ Rpd (n + 1) c x
theorem Gd.mono {n c n' c' : Nat} {x : D} (h : Gd n c x) (h1 : n ≤ n') (h2 : c ≤ c') : Gd n' c' x := ⟨h.1.mono h1, h.2.mono (by omega) h2⟩
theorem gd_int {i : Int} (h : i.natAbs < 10 ^ 12 := by omega +splitDisjunctions) : Gd 0 13 (.int i) := ⟨.int, rp_int h⟩
theorem gd_tup {n c : Nat} (k : Nat) {ds : List D} (h : ∀ y, y ∈ ds → Gd n c y) (hl : ds.length ≤ k) (hk : k ≤ 100000 := by decide) : Gd (n + 1) (k * (c + 2) + 3) (.tup ds) := ⟨.tup (by omega) fun y hy => (h y hy).1, rp_tup (fun y hy => (h y hy).2) hl⟩
/-! ### rows -/
structure Rw where
  e : Int
  m : Int
  fs : List Int
def Rw.d (r : Rw) : D := .tup [.int r.e, .int r.m, .tup (r.fs.map .int)]
/-- rows as they are drawn -/
structure Rw.Drawn (b : Int) (r : Rw) : Prop where
  e0 : -12 ≤ r.e
  e1 : r.e ≤ 12
  m0 : b ≤ 2 * r.m
  m1 : r.m ≤ 60
  l : r.fs.length ≤ 60
  f : ∀ f, f ∈ r.fs → -r.m ≤ f ∧ f ≤ r.m
/-- what a drawn row's parts are -/
theorem Rw.Drawn.figs {b : Int} {r : Rw} (h : r.Drawn b) : ∀ y, y ∈ r.fs.map D.int → Gd 0 13 y := fun y hy => by
  obtain ⟨f, hf, rfl⟩ := List.mem_map.mp hy
  have := h.f f hf
  have := h.m1
  exact gd_int
theorem Rw.Drawn.gd {b : Int} {r : Rw} (h : r.Drawn b) (hb : 2 ≤ b) : Gd 2 3000 r.d := by
  unfold Rw.d
  have h1 := h.e0; have h2 := h.e1; have h3 := h.m0; have h4 := h.m1
  refine (gd_tup (n := 1) (c := 903) 3 (fun y hy => ?_) (by simp)).mono (by decide) (by decide)
  simp only [List.mem_cons, List.not_mem_nil, or_false] at hy
  rcases hy with rfl | rfl | rfl
  · exact (gd_int).mono (by decide) (by decide)
  · exact (gd_int).mono (by decide) (by decide)
  · exact (gd_tup 60 h.figs (by rw [List.length_map]; exact h.l)).mono (by decide) (by decide)
def sp_Lmost : DSp := fun ds S P => ∃ (p : Addr) (n : Nat) (b : Int), ds = [.obj p, .int b] ∧ BoxAt S p n ∧ n ≤ 100000000 ∧ 2 ≤ b ∧ b ≤ 16 ∧ ∀ m S', b ≤ 2 * m → m ≤ 60 → BoxAt S' p (n + 3) → P (.int m) S'
def rd_Lmost : DS :=
  (dSeq (dSet 2 (dOp dFdiv (dOp dAdd (dVar 1) (dC (.int 1))) (dC (.int 2))))
  (dRet (dCB sp_Lof (dCons (dVar 0) (dCons (dLst (dCons (dVar 2) (dCons (dVar 2) (dCons (dCB cMax2 (dCons (dVar 2) (dCons (dOp dSub (dVar 1) (dC (.int 1))) dNil))) (dCons (dOp dAdd (dVar 2) (dCB sp_Ltake (dCons (dVar 0) (dCons (dC (.int 3)) dNil)))) (dCons (dOp dAdd (dVar 2) (dCB sp_Ltake (dCons (dVar 0) (dCons (dOp dSub (dC (.int 61)) (dVar 2)) dNil)))) dNil)))))) dNil)))))
def goal_Lmost : Prop := ∀ (x0 x1 : D) (S : Store) (P : D → Store → Prop), sp_Lmost [x0, x1] S P → rd_Lmost (dEnd P) [some x0, some x1, none] S
theorem len_Lmost : ∀ ds S P, sp_Lmost ds S P → ds.length = 2 := by
  rintro ds S P ⟨a, b, c, rfl, _⟩; rfl
theorem half_fdiv (b : Int) : (b + 1).fdiv 2 = (b + 1) / 2 := Int.fdiv_eq_ediv_of_nonneg _ (by decide)
theorem vc_Lmost : goal_Lmost := by
  rintro x0 x1 S P ⟨p, n, b, e, hb, hn, b0, b1, h⟩
  cases e
  unfold rd_Lmost
  walk_at "dgo"
  refine ⟨divS (by decide) (by decide), ?_⟩
  rw [half_fdiv]
  generalize hh : (b + 1) / 2 = half
  refine take_ok hb (by decide) (by decide) (by omega) fun x S1 x0 x1 hb1 => ?_
  walk_at "dgo"
  refine take_ok hb1 (by omega) (by omega) (by omega) fun y S2 y0 y1 hb2 => ?_
  walk_at "dgo"
  refine of_ints (ns := [half, half, (if b - 1 > half then b - 1 else half), half + x, half + y]) (fun z => b ≤ 2 * z ∧ z ≤ 60) hb2 (by simp) (by simp) (by omega) ?_ fun z S3 hz hb3 => h z S3 hz.1 hz.2 hb3
  intro z hz
  simp only [List.mem_cons, List.not_mem_nil, or_false] at hz
  rcases hz with rfl | rfl | rfl | rfl | rfl
  · omega
  · omega
  · split <;> omega
  · omega
  · omega
theorem flat_rep {α : Type} (a : α) : ∀ n : Nat, (List.replicate n [a]).flatten = List.replicate n a
  | 0 => rfl
  | n + 1 => by rw [List.replicate_succ, List.flatten_cons, flat_rep a n]; rfl
theorem BoxAt.other {S : Store} {p q : Addr} {n : Nat} {m : MO} (h : BoxAt S p n) (hq : p ≠ q) : BoxAt (supd S q m) p n := by
  obtain ⟨a, s, t, e, h⟩ := h
  exact ⟨a, s, t, by rw [supd_ne hq]; exact e, h⟩
theorem BoxAt.ne {S : Store} {p q : Addr} {n : Nat} (h : BoxAt S p n) (hq : S q = none) : p ≠ q := by
  obtain ⟨a, s, t, e, h⟩ := h
  intro z; rw [z, hq] at e; cases e
def sp_Lless : DSp := sp_minus
def sp_Lby : DSp := sp_times
def sp_Lpower2 : DSp := sp_power
def rd_Lless : DS :=
  (dRet (dCB sp_Lfrac (dCons (dOp dSub (dOp dMul (dOp dIx (dVar 0) (dC (.int 0))) (dOp dIx (dVar 1) (dC (.int 1)))) (dOp dMul (dOp dIx (dVar 1) (dC (.int 0))) (dOp dIx (dVar 0) (dC (.int 1))))) (dCons (dOp dMul (dOp dIx (dVar 0) (dC (.int 1))) (dOp dIx (dVar 1) (dC (.int 1)))) dNil))))
def goal_Lless : Prop := ∀ (x0 x1 : D) (S : Store) (P : D → Store → Prop), sp_Lless [x0, x1] S P → rd_Lless (dEnd P) [some x0, some x1] S
def rd_Lby : DS :=
  (dRet (dCB sp_Lfrac (dCons (dOp dMul (dOp dIx (dVar 0) (dC (.int 0))) (dOp dIx (dVar 1) (dC (.int 0)))) (dCons (dOp dMul (dOp dIx (dVar 0) (dC (.int 1))) (dOp dIx (dVar 1) (dC (.int 1)))) dNil))))
def goal_Lby : Prop := ∀ (x0 x1 : D) (S : Store) (P : D → Store → Prop), sp_Lby [x0, x1] S P → rd_Lby (dEnd P) [some x0, some x1] S
def rd_Lpower2 : DS :=
  (dSeq (dSet 2 (dTup (dCons (dC (.int 1)) (dCons (dC (.int 1)) dNil))))
  (dSeq (dFor (dRng1 (dCons (dCB cAbs (dCons (dVar 1) dNil)) dNil)) (.nm 3) (dSet 2 (dIf (dTest (dOp dGt (dVar 1) (dC (.int 0)))) (dTup (dCons (dOp dMul (dOp dIx (dVar 2) (dC (.int 0))) (dVar 0)) (dCons (dC (.int 1)) dNil))) (dTup (dCons (dC (.int 1)) (dCons (dOp dMul (dOp dIx (dVar 2) (dC (.int 1))) (dVar 0)) dNil))))))
  (dRet (dVar 2))))
def goal_Lpower2 : Prop := ∀ (x0 x1 : D) (S : Store) (P : D → Store → Prop), sp_Lpower2 [x0, x1] S P → rd_Lpower2 (dEnd P) [some x0, some x1, none, none] S
theorem len_Lless : ∀ ds S P, sp_Lless ds S P → ds.length = 2 := len_minus
theorem len_Lby : ∀ ds S P, sp_Lby ds S P → ds.length = 2 := len_times
theorem vc_Lless : goal_Lless := vc_minus
theorem vc_Lby : goal_Lby := vc_times
theorem vc_Lpower2 : goal_Lpower2 := by
  rintro x0 x1 S P ⟨b, k, e, h1, h2, h3, h⟩
  cases e
  unfold rd_Lpower2
  walk_at "dgo"
  rw [abs_if]
  refine ⟨by omega +splitDisjunctions, by omega +splitDisjunctions, fun i ρ S' => S' = S ∧ ∃ z, ρ = [some (.int b), some (.int k), some (if 0 < k then .tup [.int (b ^ i), .int 1] else .tup [.int 1, .int (b ^ i)]), z], ⟨rfl, none, by simp⟩, ?_, ?_⟩
  · rintro i d ρ S' hd ⟨rfl, z, rfl⟩
    refine ⟨_, rfl, ?_⟩
    by_cases hk : 0 < k
    · walk_at "dgo"
      simp only [hk, reduceIte]
      walk_at "dgo"
      refine ⟨mulS2, some d, ?_⟩
      rw [Int.pow_succ]
    · walk_at "dgo"
      simp only [hk, reduceIte]
      walk_at "dgo"
      refine ⟨mulS2, some d, ?_⟩
      rw [Int.pow_succ]
  · rintro ρ S' ⟨rfl, z, rfl⟩
    rw [rng_len]
    walk_at "dgo"
    have e : (if 0 < k then (D.tup [.int (b ^ ((k.natAbs : Int)).toNat), .int 1]) else .tup [.int 1, .int (b ^ ((k.natAbs : Int)).toNat)]) = encR ((b : Rat) ^ k) := by
      by_cases hk : 0 < k
      · rw [if_pos hk, encR_zpow_nn b k (by omega)]
        rw [show ((k.natAbs : Int)).toNat = k.toNat by omega]
      · rw [if_neg hk]
        by_cases h0 : k = 0
        · subst h0
          rw [encR_zpow_nn b 0 (by decide)]
          simp
        · rw [encR_zpow_neg b k h1 (by omega)]
          rw [show ((k.natAbs : Int)).toNat = (-k).toNat by omega]
    rw [e]; exact h
/-! ### what rows may come to -/
def whole (b : Int) (fs : List Int) : Int := fs.foldl (fun a f => a * b + f) 0
def Rw.pw (b : Int) (r : Rw) : Rat := (b : Rat) ^ (r.e - (r.fs.length : Int))
def Rw.worth (b : Int) (r : Rw) : Rat := ((whole b r.fs : Int) : Rat) * r.pw b
def Rw.tail (b : Int) (r : Rw) : Rat := (r.m : Rat) / ((b - 1 : Int) : Rat) * r.pw b
def Rw.lo (b : Int) (r : Rw) : Rat := r.worth b - r.tail b
def Rw.hi (b : Int) (r : Rw) : Rat := r.worth b + r.tail b
def Rw.cut (r : Rw) (k : Int) : Rw := ⟨r.e, r.m, r.fs.take (k + r.e).toNat⟩
structure Rw.Ok (b : Int) (r : Rw) : Prop where
  b0 : 2 ≤ b
  b1 : b ≤ 16
  e0 : -40 ≤ r.e
  e1 : r.e ≤ 40
  m0 : 0 ≤ r.m
  m1 : r.m ≤ 1000
  l : r.fs.length ≤ 80
  f : ∀ f, f ∈ r.fs → f.natAbs ≤ 1000
theorem Rw.Drawn.ok {b : Int} {r : Rw} (h : r.Drawn b) (b0 : 2 ≤ b) (b1 : b ≤ 16) : r.Ok b :=
  ⟨b0, b1, by have := h.e0; omega, by have := h.e1; omega, by have := h.m0; omega, by have := h.m1; omega, by have := h.l; omega, fun f hf => by have := h.f f hf; have := h.m1; omega⟩
theorem fold_bound {b : Int} (b0 : 2 ≤ b) (b1 : b ≤ 16) : ∀ (fs : List Int) (a : Int), (∀ f, f ∈ fs → f.natAbs ≤ 1000) → (fs.foldl (fun a f => a * b + f) a).natAbs + 1000 ≤ (a.natAbs + 1000) * 16 ^ fs.length
  | [], a, _ => by simp
  | f :: fs, a, h => by
    have ih := fold_bound b0 b1 fs (a * b + f) (fun z hz => h z (by simp [hz]))
    have h1 := h f (by simp)
    have h2 : (a * b).natAbs ≤ a.natAbs * 16 := by
      rw [Int.natAbs_mul]
      exact Nat.mul_le_mul_left _ (by omega)
    have h3 : (a * b + f).natAbs + 1000 ≤ (a.natAbs + 1000) * 16 := by
      have := Int.natAbs_add_le (a * b) f
      omega
    rw [List.foldl_cons, List.length_cons, Nat.pow_succ]
    refine Nat.le_trans ih (Nat.le_trans (Nat.mul_le_mul_right _ h3) ?_)
    rw [Nat.mul_assoc, Nat.mul_comm 16]
    exact Nat.le_refl _
section
variable {b : Int} {r : Rw}
theorem Rw.Ok.whole (h : r.Ok b) : (whole b r.fs).natAbs < 2 ^ 331 := by
  have h1 := fold_bound h.b0 h.b1 r.fs 0 h.f
  have h2 : (16 : Nat) ^ r.fs.length ≤ 16 ^ 80 := Nat.pow_le_pow_right (by decide) h.l
  have h3 : (1000 : Nat) * 16 ^ 80 < 2 ^ 331 := by decide
  unfold Lb.whole
  have h4 := Nat.mul_le_mul_left 1000 h2
  simp only [Int.natAbs_zero, Nat.zero_add] at h1
  generalize (16 : Nat) ^ r.fs.length = x at *
  generalize (16 : Nat) ^ 80 = y at *
  generalize (2 : Nat) ^ 331 = z at *
  omega
theorem Rw.Ok.pw (h : r.Ok b) : Sz 481 (r.pw b) := (sz_zpow (k := r.e - (r.fs.length : Int)) (by have := h.b0; omega) (by have := h.b1; omega)).mono (by
  have := h.e0; have := h.e1; have := h.l; omega)
theorem Rw.Ok.bp (h : r.Ok b) : (0 : Rat) < (b : Rat) := ratpos (by have := h.b0; omega)
theorem Rw.Ok.pwp (h : r.Ok b) : 0 < r.pw b := Rat.zpow_pos h.bp
theorem Rw.Ok.cne (h : r.Ok b) : (b - 1 : Int) ≠ 0 := by have := h.b0; omega
theorem Rw.Ok.cp (h : r.Ok b) : (0 : Rat) < ((b - 1 : Int) : Rat) := ratpos (by have := h.b0; omega)
theorem Rw.Ok.worth (h : r.Ok b) : Sz 820 (r.worth b) := (sz_mul (sz_int h.whole) h.pw).mono (by decide)
theorem Rw.Ok.fr (h : r.Ok b) : Sz 11 ((r.m : Rat) / ((b - 1 : Int) : Rat)) := sz_frac h.cne (by have := h.m0; have := h.m1; omega) (by have := h.b0; have := h.b1; omega)
theorem Rw.Ok.tail (h : r.Ok b) : Sz 500 (r.tail b) := (sz_mul h.fr h.pw).mono (by decide)
theorem Rw.Ok.lo (h : r.Ok b) : Sz 1330 (r.lo b) := (sz_sub h.worth h.tail).mono (by decide)
theorem Rw.Ok.hi (h : r.Ok b) : Sz 1330 (r.hi b) := (sz_add h.worth h.tail).mono (by decide)
theorem Rw.Ok.cut (h : r.Ok b) (k : Int) : (r.cut k).Ok b := ⟨h.b0, h.b1, h.e0, h.e1, h.m0, h.m1, by
  have := h.l
  show (r.fs.take _).length ≤ 80
  rw [List.length_take]; omega, fun f hf => h.f f (List.mem_of_mem_take hf)⟩
end
theorem dcut_take {xs : List D} {k : Int} (h : 0 ≤ k) : dcut xs none (some k) = xs.take k.toNat := by
  unfold dcut HT.sIx
  simp only [List.drop_zero, Nat.sub_zero]
  rw [if_neg (by omega)]
  rw [List.take_eq_take_iff]
  omega
def spanD (b : Int) (r : Rw) : D := .tup [encR (r.lo b), encR (r.hi b)]
def sp_known_to : DSp := fun ds S P => ∃ r : Rw, ds = [r.d] ∧ P (.int ((r.fs.length : Int) - r.e)) S
def sp_whole_of : DSp := fun ds S P => ∃ (b : Int) (fs : List Int), ds = [.int b, .tup (fs.map .int)] ∧ b.natAbs ≤ 1000 ∧ P (.int (whole b fs)) S
def sp_worth_of : DSp := fun ds S P => ∃ (b : Int) (r : Rw), ds = [.int b, r.d] ∧ r.Ok b ∧ P (encR (r.worth b)) S
def sp_tail_of : DSp := fun ds S P => ∃ (b : Int) (r : Rw), ds = [.int b, r.d] ∧ r.Ok b ∧ P (encR (r.tail b)) S
def sp_span_of : DSp := fun ds S P => ∃ (b : Int) (r : Rw), ds = [.int b, r.d] ∧ r.Ok b ∧ P (spanD b r) S
def sp_cut_of : DSp := fun ds S P => ∃ (r : Rw) (k : Int), ds = [r.d, .int k] ∧ P (r.cut k).d S
def rd_known_to : DS :=
  (dSeq (dAsg (.tp [(.nm 1), (.nm 2), (.nm 3)]) (dVar 0))
  (dRet (dOp dSub (dCB cLen (dCons (dVar 3) dNil)) (dVar 1))))
def goal_known_to : Prop := ∀ (x0 : D) (S : Store) (P : D → Store → Prop), sp_known_to [x0] S P → rd_known_to (dEnd P) [some x0, none, none, none] S
def rd_whole_of : DS :=
  (dSeq (dSet 2 (dC (.int 0)))
  (dSeq (dFor (dItSeq (dVar 1)) (.nm 3) (dSet 2 (dOp dAdd (dOp dMul (dVar 2) (dVar 0)) (dVar 3))))
  (dRet (dVar 2))))
def goal_whole_of : Prop := ∀ (x0 x1 : D) (S : Store) (P : D → Store → Prop), sp_whole_of [x0, x1] S P → rd_whole_of (dEnd P) [some x0, some x1, none, none] S
def rd_worth_of : DS :=
  (dRet (dCB sp_times (dCons (dTup (dCons (dCB sp_whole_of (dCons (dVar 0) (dCons (dOp dIx (dVar 1) (dC (.int 2))) dNil))) (dCons (dC (.int 1)) dNil))) (dCons (dCB sp_power (dCons (dVar 0) (dCons (dUn dNeg (dCB sp_known_to (dCons (dVar 1) dNil))) dNil))) dNil))))
def goal_worth_of : Prop := ∀ (x0 x1 : D) (S : Store) (P : D → Store → Prop), sp_worth_of [x0, x1] S P → rd_worth_of (dEnd P) [some x0, some x1] S
def rd_tail_of : DS :=
  (dRet (dCB sp_times (dCons (dCB sp_frac (dCons (dOp dIx (dVar 1) (dC (.int 1))) (dCons (dOp dSub (dVar 0) (dC (.int 1))) dNil))) (dCons (dCB sp_power (dCons (dVar 0) (dCons (dUn dNeg (dCB sp_known_to (dCons (dVar 1) dNil))) dNil))) dNil))))
def goal_tail_of : Prop := ∀ (x0 x1 : D) (S : Store) (P : D → Store → Prop), sp_tail_of [x0, x1] S P → rd_tail_of (dEnd P) [some x0, some x1] S
def rd_span_of : DS :=
  (dSeq (dPar 2 3 (dCons (dCB sp_worth_of (dCons (dVar 0) (dCons (dVar 1) dNil))) (dCons (dCB sp_tail_of (dCons (dVar 0) (dCons (dVar 1) dNil))) dNil)))
  (dRet (dTup (dCons (dCB sp_minus (dCons (dVar 2) (dCons (dVar 3) dNil))) (dCons (dCB sp_plus (dCons (dVar 2) (dCons (dVar 3) dNil))) dNil)))))
def goal_span_of : Prop := ∀ (x0 x1 : D) (S : Store) (P : D → Store → Prop), sp_span_of [x0, x1] S P → rd_span_of (dEnd P) [some x0, some x1, none, none] S
def rd_cut_of : DS :=
  (dSeq (dAsg (.tp [(.nm 2), (.nm 3), (.nm 4)]) (dVar 0))
  (dRet (dTup (dCons (dVar 2) (dCons (dVar 3) (dCons (dSl (dVar 4) dNoPart (dPart (dCB cMax2 (dCons (dC (.int 0)) (dCons (dOp dAdd (dVar 1) (dVar 2)) dNil))))) dNil))))))
def goal_cut_of : Prop := ∀ (x0 x1 : D) (S : Store) (P : D → Store → Prop), sp_cut_of [x0, x1] S P → rd_cut_of (dEnd P) [some x0, some x1, none, none, none] S
theorem len_known_to : ∀ ds S P, sp_known_to ds S P → ds.length = 1 := by
  rintro ds S P ⟨a, rfl, _⟩; rfl
theorem len_whole_of : ∀ ds S P, sp_whole_of ds S P → ds.length = 2 := by
  rintro ds S P ⟨a, b, rfl, _⟩; rfl
theorem len_worth_of : ∀ ds S P, sp_worth_of ds S P → ds.length = 2 := by
  rintro ds S P ⟨a, b, rfl, _⟩; rfl
theorem len_tail_of : ∀ ds S P, sp_tail_of ds S P → ds.length = 2 := by
  rintro ds S P ⟨a, b, rfl, _⟩; rfl
theorem len_span_of : ∀ ds S P, sp_span_of ds S P → ds.length = 2 := by
  rintro ds S P ⟨a, b, rfl, _⟩; rfl
theorem len_cut_of : ∀ ds S P, sp_cut_of ds S P → ds.length = 2 := by
  rintro ds S P ⟨a, b, rfl, _⟩; rfl
theorem vc_known_to : goal_known_to := by
  rintro x0 S P ⟨r, e, h⟩
  cases e
  unfold rd_known_to Rw.d
  walk_at "dgo"
  rw [List.length_map]
  exact h
theorem vc_whole_of : goal_whole_of := by
  rintro x0 x1 S P ⟨b, fs, e, hb, h⟩
  cases e
  unfold rd_whole_of
  walk_at "dgo"
  refine ⟨fun i ρ S' => S' = S ∧ ∃ z, ρ = [some (.int b), some (.tup (fs.map .int)), some (.int (whole b (fs.take i))), z], ⟨rfl, none, rfl⟩, ?_, ?_⟩
  · rintro i d ρ S' hd ⟨rfl, z, rfl⟩
    rw [List.getElem?_map] at hd
    cases e : fs[i]? with
    | none => rw [e] at hd; cases hd
    | some f =>
      rw [e] at hd; cases hd
      refine ⟨_, rfl, ?_⟩
      walk_at "dgo"
      refine ⟨mulS2, some (.int f), ?_⟩
      rw [List.take_add_one, e]
      unfold whole
      simp
  · rintro ρ S' ⟨rfl, z, rfl⟩
    rw [List.length_map, List.take_length]
    walk_at "dgo"
    exact h
theorem vc_worth_of : goal_worth_of := by
  rintro x0 x1 S P ⟨b, r, e, hr, h⟩
  cases e
  unfold rd_worth_of
  have b0 := hr.b0; have b1 := hr.b1; have e0 := hr.e0; have e1 := hr.e1; have hl := hr.l
  walk_at "dgo"
  simp only [Rw.d]
  walk_at "dgo"
  refine ⟨b, r.fs, rfl, by omega, r, rfl, ?_⟩
  walk_at "dgo"
  refine ⟨b, _, rfl, by omega, by omega, by omega, ((whole b r.fs : Int) : Rat), _, rfl, (sz_int hr.whole).mono (by decide), ?_, ?_⟩
  · have := hr.pw
    rw [show -((r.fs.length : Int) - r.e) = r.e - (r.fs.length : Int) by omega]
    exact this.mono (by decide)
  · rw [show -((r.fs.length : Int) - r.e) = r.e - (r.fs.length : Int) by omega]
    exact h
theorem vc_tail_of : goal_tail_of := by
  rintro x0 x1 S P ⟨b, r, e, hr, h⟩
  cases e
  unfold rd_tail_of
  have b0 := hr.b0; have b1 := hr.b1; have e0 := hr.e0; have e1 := hr.e1; have hl := hr.l; have m0 := hr.m0; have m1 := hr.m1
  walk_at "dgo"
  simp only [Rw.d]
  walk_at "dgo"
  refine ⟨r.m, b - 1, rfl, by omega, bound_mono (n := 12) (by omega), bound_mono (n := 12) (by omega), r, rfl, ?_⟩
  walk_at "dgo"
  refine ⟨b, _, rfl, by omega, by omega, by omega, _, _, rfl, hr.fr.mono (by decide), ?_, ?_⟩
  · have := hr.pw
    rw [show -((r.fs.length : Int) - r.e) = r.e - (r.fs.length : Int) by omega]
    exact this.mono (by decide)
  · rw [show -((r.fs.length : Int) - r.e) = r.e - (r.fs.length : Int) by omega]
    exact h
theorem vc_span_of : goal_span_of := by
  rintro x0 x1 S P ⟨b, r, e, hr, h⟩
  cases e
  unfold rd_span_of
  walk_at "dgo"
  refine ⟨b, r, rfl, hr, b, r, rfl, hr, ?_⟩
  walk_at "dgo"
  refine ⟨_, _, rfl, hr.worth.mono (by decide), hr.tail.mono (by decide), _, _, rfl, hr.worth.mono (by decide), hr.tail.mono (by decide), ?_⟩
  exact h
theorem vc_cut_of : goal_cut_of := by
  rintro x0 x1 S P ⟨r, k, e, h⟩
  cases e
  unfold rd_cut_of Rw.d
  walk_at "dgo"
  have e : (if k + r.e > 0 then k + r.e else 0).toNat = (k + r.e).toNat := by split <;> omega
  rw [dcut_take (by split <;> omega), e]
  have e2 : (r.cut k).d = .tup [.int r.e, .int r.m, .tup ((r.fs.map .int).take (k + r.e).toNat)] := by
    unfold Rw.d Rw.cut
    simp only [List.map_take]
  rw [e2] at h
  exact h
/-! ### one figure more -/
def Rw.snoc (r : Rw) (f : Int) : Rw := ⟨r.e, r.m, r.fs ++ [f]⟩
theorem whole_snoc (b : Int) (fs : List Int) (f : Int) : whole b (fs ++ [f]) = whole b fs * b + f := by unfold whole; simp
/-- the next place's power -/
def Rw.nx (b : Int) (r : Rw) : Rat := (b : Rat) ^ (r.e - (r.fs.length : Int) - 1)
section
variable {b : Int} {r : Rw}
theorem Rw.snoc_pw (r : Rw) (f : Int) : (r.snoc f).pw b = r.nx b := by
  unfold Rw.pw Rw.nx Rw.snoc
  simp only [List.length_append, List.length_cons, List.length_nil]
  congr 1; omega
theorem Rw.pw_nx (h : b ≠ 0) : r.pw b = r.nx b * (b : Rat) := by
  unfold Rw.pw Rw.nx
  have hb : (b : Rat) ≠ 0 := by exact_mod_cast h
  rw [← Rat.zpow_add_one hb]
  congr 1; omega
theorem Rw.snoc_worth (h : b ≠ 0) (f : Int) : (r.snoc f).worth b = r.worth b + (f : Rat) * r.nx b := by
  unfold Rw.worth
  rw [Rw.snoc_pw, Rw.pw_nx h]
  show ((whole b (r.fs ++ [f]) : Int) : Rat) * _ = _
  rw [whole_snoc, Rat.intCast_add, Rat.intCast_mul]
  grind
theorem Rw.snoc_tail (f : Int) : (r.snoc f).tail b = (r.m : Rat) / ((b - 1 : Int) : Rat) * r.nx b := by
  unfold Rw.tail
  rw [Rw.snoc_pw]; rfl
theorem cast_sub1 (b : Int) : ((b - 1 : Int) : Rat) = (b : Rat) - 1 := by
  rw [Rat.intCast_sub]; rfl
/-- the tail is what the next figure at its greatest and its tail are -/
theorem Rw.tail_nx (h : 2 ≤ b) : r.tail b = (r.m : Rat) * r.nx b + (r.m : Rat) / ((b - 1 : Int) : Rat) * r.nx b := by
  unfold Rw.tail
  rw [Rw.pw_nx (by omega), cast_sub1]
  have hb : (b : Rat) - 1 ≠ 0 := by
    have := ratpos (b := b - 1) (by omega)
    rw [cast_sub1] at this
    grind
  generalize r.nx b = u
  generalize (r.m : Rat) = m
  generalize (b : Rat) = c at *
  grind
theorem Rw.Ok.snoc (h : r.Ok b) (hl : r.fs.length ≤ 79) {f : Int} (hf : f.natAbs ≤ 1000) : (r.snoc f).Ok b :=
  ⟨h.b0, h.b1, h.e0, h.e1, h.m0, h.m1, by show (r.fs ++ [f]).length ≤ 80; simp; omega, fun z hz => by
    rcases List.mem_append.mp hz with hz | hz
    · exact h.f z hz
    · simp only [List.mem_singleton] at hz
      subst hz; exact hf⟩
theorem Rw.Ok.nxp (h : r.Ok b) : 0 < r.nx b := Rat.zpow_pos h.bp
/-- the ends of the next figure f's span -/
theorem Rw.snoc_lo (h : 2 ≤ b) (f : Int) : (r.snoc f).lo b = r.worth b + (f : Rat) * r.nx b - (r.m : Rat) / ((b - 1 : Int) : Rat) * r.nx b := by
  unfold Rw.lo; rw [Rw.snoc_worth (by omega), Rw.snoc_tail]
theorem Rw.snoc_hi (h : 2 ≤ b) (f : Int) : (r.snoc f).hi b = r.worth b + (f : Rat) * r.nx b + (r.m : Rat) / ((b - 1 : Int) : Rat) * r.nx b := by
  unfold Rw.hi; rw [Rw.snoc_worth (by omega), Rw.snoc_tail]
/-- twice the most is the base less 1 at least -/
theorem half_le (h : 2 ≤ b) (hm : b - 1 ≤ 2 * r.m) : (1 : Rat) ≤ 2 * ((r.m : Rat) / ((b - 1 : Int) : Rat)) := by
  have hp := ratpos (b := b - 1) (by omega)
  have h1 : ((b - 1 : Int) : Rat) ≤ ((2 * r.m : Int) : Rat) := Rat.intCast_le_intCast.mpr hm
  rw [Rat.intCast_mul] at h1
  have e2 : ((2 : Int) : Rat) = 2 := rfl
  rw [e2] at h1
  have h2 := Rat.mul_le_mul_of_nonneg_right (c := ((b - 1 : Int) : Rat)⁻¹) h1 (Rat.le_of_lt (Rat.inv_pos.mpr hp))
  rw [Rat.mul_inv_cancel _ (by grind)] at h2
  rw [Rat.div_def]
  grind
end
/-! ### items and lengths of what is known, one rule each -/
theorem g_ix_tup {ds : List D} {i : Int} {S : Store} {P : D → Store → Prop} : dIx (.tup ds) (.int i) S P = (match atI ds i with | some d => P d S | none => False) := rfl
theorem g_ix_lst {ds : List D} {i : Int} {S : Store} {P : D → Store → Prop} : dIx (.lst ds) (.int i) S P = (match atI ds i with | some d => P d S | none => False) := rfl
theorem g_ix_ext {ds : List D} {i : Int} {S : Store} {P : D → Store → Prop} : dIx (.ext ds) (.int i) S P = (match atI ds i with | some d => P d S | none => False) := rfl
theorem g_ln_tup {ds : List D} {S : Store} {P : D → Store → Prop} : cLen [.tup ds] S P = P (.int ds.length) S := rfl
theorem g_ln_lst {ds : List D} {S : Store} {P : D → Store → Prop} : cLen [.lst ds] S P = P (.int ds.length) S := rfl
theorem g_ln_ext {ds : List D} {S : Store} {P : D → Store → Prop} : cLen [.ext ds] S P = P (.int ds.length) S := rfl
theorem g_nn_non {S : Store} {P : D → Store → Prop} : dNotN .non .non S P = P (.bl false) S := rfl
theorem g_nn_int {i : Int} {S : Store} {P : D → Store → Prop} : dNotN (.int i) .non S P = P (.bl true) S := rfl
theorem g_nn_tup {ds : List D} {S : Store} {P : D → Store → Prop} : dNotN (.tup ds) .non S P = P (.bl true) S := rfl
theorem g_in_non {S : Store} {P : D → Store → Prop} : dIsN .non .non S P = P (.bl true) S := rfl
theorem g_in_int {i : Int} {S : Store} {P : D → Store → Prop} : dIsN (.int i) .non S P = P (.bl false) S := rfl
theorem g_in_tup {ds : List D} {S : Store} {P : D → Store → Prop} : dIsN (.tup ds) .non S P = P (.bl false) S := rfl
theorem g_ix_row0 {r : Rw} {S : Store} {P : D → Store → Prop} : dIx r.d (.int 0) S P = P (.int r.e) S := rfl
theorem g_ix_row1 {r : Rw} {S : Store} {P : D → Store → Prop} : dIx r.d (.int 1) S P = P (.int r.m) S := rfl
theorem g_ix_row2 {r : Rw} {S : Store} {P : D → Store → Prop} : dIx r.d (.int 2) S P = P (.tup (r.fs.map .int)) S := rfl
theorem g_ix_span0 {b : Int} {r : Rw} {S : Store} {P : D → Store → Prop} : dIx (spanD b r) (.int 0) S P = P (encR (r.lo b)) S := rfl
theorem g_ix_span1 {b : Int} {r : Rw} {S : Store} {P : D → Store → Prop} : dIx (spanD b r) (.int 1) S P = P (encR (r.hi b)) S := rfl
theorem g_nn_span {b : Int} {r : Rw} {S : Store} {P : D → Store → Prop} : dNotN (spanD b r) .non S P = P (.bl true) S := rfl
theorem g_nn_encR {q : Rat} {S : Store} {P : D → Store → Prop} : dNotN (encR q) .non S P = P (.bl true) S := rfl
theorem g_in_span {b : Int} {r : Rw} {S : Store} {P : D → Store → Prop} : dIsN (spanD b r) .non S P = P (.bl false) S := rfl
theorem g_put_row {ts : List Tgt} {r : Rw} {ρ : DSt} : Tgt.put (.tp ts) r.d ρ = Tgt.putL ts [.int r.e, .int r.m, .tup (r.fs.map .int)] ρ := by unfold Rw.d; exact put_tp
theorem g_put_span {ts : List Tgt} {b : Int} {r : Rw} {ρ : DSt} : Tgt.put (.tp ts) (spanD b r) ρ = Tgt.putL ts [encR (r.lo b), encR (r.hi b)] ρ := by unfold spanD; exact put_tp
local macro_rules | `(tactic| walk_at "dg2") => `(tactic| try simp only [dSeq, dSet, dPar, dOp, dUn, dVar, dC, dCB, dCons, dNil, dTup, dLst, dLstM, dIfS, dIf, dTest, dNot, dAnd, dOr, dAndV, dOrV, dNotV, dRet, dRetN, dEnd, dNext, dAdd, dSub, dMul, dFdiv, dMod, dPow, dNeg, dLt, dLe, dGt, dGe, dEq, dNe, eqB_ii, eqB_bb, eqB_ss, eqB_nn, eqB_ni, eqB_in, eqB_ns, eqB_sn, eqB_is, eqB_si, eqB_nb, eqB_bn, dIn, g_ix_tup, g_ix_lst, g_ix_ext, g_ln_tup, g_ln_lst, g_ln_ext, g_nn_non, g_nn_int, g_nn_tup, g_in_non, g_in_int, g_in_tup, g_ix_row0, g_ix_row1, g_ix_row2, g_ix_span0, g_ix_span1, g_nn_span, g_nn_encR, g_in_span, cAbs, cMax2, cMin2, cInt, cList, cTuple, dIsB, dNotB, dPar3, ForN, LcN, pinOf, pin2, dEnum2, dAppend, supd_same0, isi_non_int, isi_non_bool, isi_non_str, isi_non_list, isi_non_tuple, isi_non_lt, isi_bl_int, isi_bl_bool, isi_bl_str, isi_bl_list, isi_bl_tuple, isi_bl_lt, isi_int_int, isi_int_bool, isi_int_str, isi_int_list, isi_int_tuple, isi_int_lt, isi_str_int, isi_str_bool, isi_str_str, isi_str_list, isi_str_tuple, isi_str_lt, isi_lst_int, isi_lst_bool, isi_lst_str, isi_lst_list, isi_lst_tuple, isi_lst_lt, isi_tup_int, isi_tup_bool, isi_tup_str, isi_tup_list, isi_tup_tuple, isi_tup_lt, dAug, dIAdd, dIMul, dDrop, dSl, dPart, dNoPart, dRevL, dCallK, dChainR, dAsg, put_nm, put_tp, put_tl, g_put_row, g_put_span, putL_nil, putL_cons, Option.bind, seqOf, lstOf, dFor, dLc, dLcM, dItSeq, dZip, dZipS, dEnum, dRng1, dRng2, dYes, dwipe, Tgt.slots, Tgt.slotsL,
  atI_0, atI_1, atI_2, atI_3, List.getElem?_cons_zero, List.getElem?_cons_succ, List.set_cons_zero, List.set_cons_succ, decide_eq_true_eq, List.length_cons, List.length_nil, List.cons_append, List.nil_append, List.append_nil, ofString_inj, String.reduceEq, decide_true, decide_false, reduceIte, Bool.false_eq_true, Bool.not_true, Bool.not_false, eqFlat, isFlat, List.any_cons, List.any_nil, List.all_cons, List.all_nil, Bool.or_false, Bool.or_true, Bool.false_or, Bool.true_or, Bool.and_true, Bool.true_and, true_and, and_true, Nat.reduceAdd, Nat.reduceLeDiff, Int.reduceLT, Int.reduceLE, Int.reduceNeg])
/-! ### standing for a number, order, being told apart -/
def Rw.Has (b : Int) (r : Rw) (q : Rat) : Prop := r.lo b ≤ q ∧ q ≤ r.hi b
theorem Rw.has_iff {b : Int} {r : Rw} {q : Rat} : (¬ q < r.lo b ∧ ¬ r.hi b < q) ↔ r.Has b q := by
  unfold Rw.Has; rw [Rat.not_lt, Rat.not_lt]
instance (b : Int) (r : Rw) (q : Rat) : Decidable (r.Has b q) := inferInstanceAs (Decidable (_ ∧ _))
def ordD (b : Int) (r s : Rw) : D := if s.hi b < r.lo b then .int 1 else if r.hi b < s.lo b then .int (-1) else .non
/-- their spans touch -/
def Meet (b : Int) (r s : Rw) : Prop := r.lo b ≤ s.hi b ∧ s.lo b ≤ r.hi b
theorem ordD_non {b : Int} {r s : Rw} : ordD b r s = .non ↔ Meet b r s := by
  unfold ordD Meet
  rw [← Rat.not_lt, ← Rat.not_lt]
  by_cases h1 : s.hi b < r.lo b
  · rw [if_pos h1]; exact ⟨fun z => (nomatch z), fun z => absurd h1 z.1⟩
  · rw [if_neg h1]
    by_cases h2 : r.hi b < s.lo b
    · rw [if_pos h2]; exact ⟨fun z => (nomatch z), fun z => absurd h2 z.2⟩
    · rw [if_neg h2]; exact ⟨fun _ => ⟨h1, h2⟩, fun _ => rfl⟩
def sp_stands_for : DSp := fun ds S P => ∃ (b : Int) (r : Rw) (q : Rat), ds = [.int b, r.d, encR q] ∧ r.Ok b ∧ Sz 300000 q ∧ P (.bl (decide (r.Has b q))) S
def sp_order_of : DSp := fun ds S P => ∃ (b : Int) (r s : Rw), ds = [.int b, r.d, s.d] ∧ r.Ok b ∧ s.Ok b ∧ P (ordD b r s) S
def rd_stands_for : DS :=
  (dSeq (dAsg (.tp [(.nm 3), (.nm 4)]) (dCB sp_span_of (dCons (dVar 0) (dCons (dVar 1) dNil))))
  (dRet (dAndV (dNotV (dCB sp_is_below (dCons (dVar 2) (dCons (dVar 3) dNil)))) (dNotV (dCB sp_is_below (dCons (dVar 4) (dCons (dVar 2) dNil)))))))
def goal_stands_for : Prop := ∀ (x0 x1 x2 : D) (S : Store) (P : D → Store → Prop), sp_stands_for [x0, x1, x2] S P → rd_stands_for (dEnd P) [some x0, some x1, some x2, none, none] S
def rd_order_of : DS :=
  (dSeq (dPar 3 4 (dCons (dCB sp_span_of (dCons (dVar 0) (dCons (dVar 1) dNil))) (dCons (dCB sp_span_of (dCons (dVar 0) (dCons (dVar 2) dNil))) dNil)))
  (dSeq (dIfS (dTest (dCB sp_is_below (dCons (dOp dIx (dVar 4) (dC (.int 1))) (dCons (dOp dIx (dVar 3) (dC (.int 0))) dNil)))) (dRet (dC (.int 1))) dNext)
  (dRet (dIf (dTest (dCB sp_is_below (dCons (dOp dIx (dVar 3) (dC (.int 1))) (dCons (dOp dIx (dVar 4) (dC (.int 0))) dNil)))) (dC (.int (-1))) (dC .non)))))
def goal_order_of : Prop := ∀ (x0 x1 x2 : D) (S : Store) (P : D → Store → Prop), sp_order_of [x0, x1, x2] S P → rd_order_of (dEnd P) [some x0, some x1, some x2, none, none] S
theorem len_stands_for : ∀ ds S P, sp_stands_for ds S P → ds.length = 3 := by
  rintro ds S P ⟨a, b, c, rfl, _⟩; rfl
theorem len_order_of : ∀ ds S P, sp_order_of ds S P → ds.length = 3 := by
  rintro ds S P ⟨a, b, c, rfl, _⟩; rfl
theorem vc_stands_for : goal_stands_for := by
  rintro x0 x1 x2 S P ⟨b, r, q, e, hr, hq, h⟩
  cases e
  unfold rd_stands_for
  walk_at "dg2"
  refine ⟨b, r, rfl, hr, ?_⟩
  walk_at "dg2"
  refine ⟨_, _, rfl, hq.mono (by decide), hr.lo.mono (by decide), ?_⟩
  have e : decide (r.Has b q) = ((!decide (q < r.lo b)) && !decide (r.hi b < q)) := by
    rw [Bool.eq_iff_iff]
    simp only [decide_eq_true_eq, Bool.and_eq_true, Bool.not_eq_true', decide_eq_false_iff_not]
    exact Rw.has_iff.symm
  rw [e] at h
  by_cases h1 : q < r.lo b
  · simp only [h1, decide_true, Bool.not_true, Bool.false_and] at h ⊢
    walk_at "dg2"
    exact h
  · simp only [h1, decide_false, Bool.not_false, Bool.true_and] at h ⊢
    walk_at "dg2"
    refine ⟨_, _, rfl, hr.hi.mono (by decide), hq.mono (by decide), ?_⟩
    walk_at "dg2"
    exact h
theorem vc_order_of : goal_order_of := by
  rintro x0 x1 x2 S P ⟨b, r, s, e, hr, hs, h⟩
  cases e
  unfold rd_order_of
  walk_at "dg2"
  refine ⟨b, r, rfl, hr, b, s, rfl, hs, ?_⟩
  walk_at "dg2"
  refine ⟨_, _, rfl, hs.hi.mono (by decide), hr.lo.mono (by decide), ?_⟩
  unfold ordD at h
  by_cases h1 : s.hi b < r.lo b
  · simp only [h1, decide_true, reduceIte] at h ⊢
    walk_at "dg2"
    exact h
  · simp only [h1, decide_false, reduceIte] at h ⊢
    walk_at "dg2"
    refine ⟨_, _, rfl, hr.hi.mono (by decide), hs.lo.mono (by decide), ?_⟩
    by_cases h2 : r.hi b < s.lo b
    · simp only [h2, decide_true, reduceIte] at h ⊢
      walk_at "dg2"
      exact h
    · simp only [h2, decide_false, reduceIte] at h ⊢
      walk_at "dg2"
      exact h
/-! ### == of plain data without texts -/
inductive Pi : Nat → D → Prop
  | non {n} : Pi n .non
  | bl {n b} : Pi n (.bl b)
  | int {n i} : Pi n (.int i)
  | lst {n ds} (h : ∀ y, y ∈ ds → Pi n y) : Pi (n + 1) (.lst ds)
  | tup {n ds} (h : ∀ y, y ∈ ds → Pi n y) : Pi (n + 1) (.tup ds)
theorem Pi.mono {n : Nat} {x : D} (h : Pi n x) : ∀ {m : Nat}, n ≤ m → Pi m x := by
  induction h with
  | non => intro m _; exact .non
  | bl => intro m _; exact .bl
  | int => intro m _; exact .int
  | lst h ih => intro m hm; cases m with
    | zero => omega
    | succ m => exact .lst fun y hy => ih y hy (by omega)
  | tup h ih => intro m hm; cases m with
    | zero => omega
    | succ m => exact .tup fun y hy => ih y hy (by omega)
/-- its Python data -/
structure PyI (n : Nat) (x : D) (p : PyData) : Prop where
  e : x.py = some p
  l : p.canLay0 = true
  d : p.depth ≤ n
  r : PyData.eqv p p = true
theorem py_all {n : Nat} : ∀ {ds : List D}, (∀ y, y ∈ ds → ∃ p, PyI n y p) → ∃ ps, D.pyL ds = some ps ∧ PyData.canLayAll0 ps = true ∧ PyData.depthAll ps ≤ n ∧ PyData.eqvAll ps ps = true ∧ ps.length = ds.length
  | [], _ => ⟨[], by simp [D.pyL], by simp [PyData.canLayAll0], by simp [PyData.depthAll], by simp [PyData.eqvAll], rfl⟩
  | y :: ds, h => by
    obtain ⟨p, h1⟩ := h y (by simp)
    obtain ⟨ps, e1, e2, e3, e4, e5⟩ := py_all (ds := ds) (fun z hz => h z (by simp [hz]))
    refine ⟨p :: ps, by simp [D.pyL, h1.e, e1], by simp [PyData.canLayAll0, h1.l, e2], ?_, by simp [PyData.eqvAll, h1.r, e4], by simp [e5]⟩
    have := h1.d
    simp only [PyData.depthAll]
    omega
theorem Pi.py {n : Nat} {x : D} (h : Pi n x) : ∃ p, PyI n x p := by
  induction h with
  | non => exact ⟨.none, by simp [D.py], by simp [PyData.canLay0], by simp [PyData.depth], by simp [PyData.eqv]⟩
  | @bl n b => exact ⟨.bool b, by simp [D.py], by simp [PyData.canLay0], by simp [PyData.depth], by simp [PyData.eqv]⟩
  | @int n i => exact ⟨.int i, by simp [D.py], by simp [PyData.canLay0], by simp [PyData.depth], by simp [PyData.eqv]⟩
  | lst h ih =>
    obtain ⟨ps, e1, e2, e3, e4, e5⟩ := py_all ih
    exact ⟨.list ps, by simp [D.py, e1], by simp [PyData.canLay0, e2], by simp only [PyData.depth]; omega, by simp [PyData.eqv, e4]⟩
  | tup h ih =>
    obtain ⟨ps, e1, e2, e3, e4, e5⟩ := py_all ih
    exact ⟨.tuple ps, by simp [D.py, e1], by simp [PyData.canLay0, e2], by simp only [PyData.depth]; omega, by simp [PyData.eqv, e4]⟩
theorem PyI.shaped {n : Nat} {x : D} {p : PyData} (h : PyI n x p) (hn : n ≤ 64) : SeqAt.shaped p = true := by
  unfold SeqAt.shaped
  rw [h.l]
  have := h.d
  simp; omega
/-! ### some next figure is right -/
section
variable {b : Int} {r : Rw}
end
/-! ### beginnings lie in one another -/
theorem snoc_in' {b : Int} {r : Rw} (b0 : 2 ≤ b) {f : Int} (h1 : -r.m ≤ f) (h2 : f ≤ r.m) : r.lo b ≤ (r.snoc f).lo b ∧ (r.snoc f).hi b ≤ r.hi b := by
  have up : 0 < r.nx b := Rat.zpow_pos (ratpos (by omega))
  have a1 : (0 : Rat) ≤ ((f + r.m : Int) : Rat) := by
    have : ((0 : Int) : Rat) ≤ ((f + r.m : Int) : Rat) := Rat.intCast_le_intCast.mpr (by omega)
    exact this
  have a2 : (0 : Rat) ≤ ((r.m - f : Int) : Rat) := by
    have : ((0 : Int) : Rat) ≤ ((r.m - f : Int) : Rat) := Rat.intCast_le_intCast.mpr (by omega)
    exact this
  rw [Rat.intCast_add] at a1
  rw [Rat.intCast_sub] at a2
  have p1 := Rat.mul_nonneg a1 (Rat.le_of_lt up)
  have p2 := Rat.mul_nonneg a2 (Rat.le_of_lt up)
  rw [Rw.snoc_lo b0, Rw.snoc_hi b0]
  unfold Rw.lo Rw.hi
  rw [Rw.tail_nx b0]
  generalize (r.m : Rat) / ((b - 1 : Int) : Rat) * r.nx b = q
  generalize r.nx b = u at *
  generalize (r.m : Rat) = m at *
  generalize (f : Rat) = g at *
  generalize r.worth b = w
  constructor <;> grind
theorem Meet.symm {b : Int} {r s : Rw} (h : Meet b r s) : Meet b s r := ⟨h.2, h.1⟩
/-! ### more of what many laws say -/
/-- all([right(..) for ..]), each of them true, St between -/
theorem all_st {t : Tgt} {de : DE} {P : D → Store → Prop} {ds : List D} {ρ : DSt} {S : Store} (St : Nat → Store → Prop) (hl : ds.length ≤ 100000) (h0 : St 0 S)
    (h : ∀ (i : Nat) (d : D) (S' : Store), ds[i]? = some d → St i S' → ∃ ρ', t.put d (dwipe ρ t.slots) = some ρ' ∧ ∀ Q : D → Store → Prop, (∀ S'', St (i + 1) S'' → Q (.bl true) S'') → de ρ' S' Q)
    (q : ∀ S', St ds.length S' → P (.bl true) S') : LcB t dYes de (fun x S1 => cAll [x] S1 P) ds ρ S :=
  lc_st (fun _ y => y = .bl true) St hl h0 (fun i d S' hd hs => by
    obtain ⟨ρ', h1, h2⟩ := h i d S' hd hs
    exact ⟨ρ', h1, fun Q hq => h2 Q fun S'' hs' => hq _ _ rfl hs'⟩) fun ys S' hy hr hs => by
    obtain ⟨bs, rfl, hb⟩ := ex_map (f := D.bl) (R := fun b => b = true) (ys := ys) fun y hy => by
      obtain ⟨i, hi⟩ := List.mem_iff_getElem?.mp hy
      exact ⟨true, hr i y hi, rfl⟩
    unfold cAll
    simp only [lstOf, Option.bind, dBools_map]
    have e : bs.all id = true := List.all_eq_true.mpr fun b hb' => hb b hb'
    rw [e]; exact q _ hs
/-- == of lists of numbers -/
theorem eqv_ints : ∀ xs ys : List Int, PyData.eqvAll (xs.map PyData.int) (ys.map PyData.int) = decide (xs = ys)
  | [], [] => rfl
  | [], _ :: _ => rfl
  | _ :: _, [] => rfl
  | x :: xs, y :: ys => by
    simp only [List.map_cons, PyData.eqvAll, PyData.eqv, eqv_ints xs ys]
    rw [Bool.eq_iff_iff]
    simp
theorem py_ints : ∀ xs : List Int, D.pyL (xs.map D.int) = some (xs.map PyData.int)
  | [] => rfl
  | x :: xs => by simp only [List.map_cons, D.pyL, D.py, py_ints xs]
theorem lay_ints : ∀ xs : List Int, PyData.canLayAll0 (xs.map PyData.int) = true
  | [] => rfl
  | x :: xs => by simp [PyData.canLayAll0, PyData.canLay0, lay_ints xs]
theorem dep_ints : ∀ xs : List Int, PyData.depthAll (xs.map PyData.int) ≤ 1
  | [] => by simp [PyData.depthAll]
  | x :: xs => by
    have := dep_ints xs
    simp [PyData.depthAll, PyData.depth]
    omega
theorem shaped_ints (xs : List Int) : SeqAt.shaped (.list (xs.map PyData.int)) = true := by
  have := dep_ints xs
  simp [SeqAt.shaped, PyData.canLay0, PyData.depth, lay_ints xs]
  omega
theorem eqB_ints (xs ys : List Int) : dEqB (.lst (xs.map D.int)) (.lst (ys.map D.int)) = some (decide (xs = ys)) := by
  have h : dEqB (.lst (xs.map D.int)) (.lst (ys.map D.int)) = some (PyData.eqvAll (xs.map PyData.int) (ys.map PyData.int)) := by
    simp only [dEqB, D.py, py_ints, Option.map_some, shaped_ints, and_self, reduceIte, PyData.eqv]
  rw [h, eqv_ints]
theorem shapedT_ints (xs : List Int) : SeqAt.shaped (.tuple (xs.map PyData.int)) = true := by
  have := dep_ints xs
  simp [SeqAt.shaped, PyData.canLay0, PyData.depth, lay_ints xs]
  omega
theorem eqB_tints (xs ys : List Int) : dEqB (.tup (xs.map D.int)) (.tup (ys.map D.int)) = some (decide (xs = ys)) := by
  have h : dEqB (.tup (xs.map D.int)) (.tup (ys.map D.int)) = some (PyData.eqvAll (xs.map PyData.int) (ys.map PyData.int)) := by
    simp only [dEqB, D.py, py_ints, Option.map_some, shapedT_ints, and_self, reduceIte, PyData.eqv]
  rw [h, eqv_ints]
/-- what stood stands -/
def Kept (S S' : Store) : Prop := ∀ q m, S q = some m → S' q = some m
theorem Kept.refl (S : Store) : Kept S S := fun _ _ h => h
theorem Kept.trans {S S1 S2 : Store} (h : Kept S S1) (h2 : Kept S1 S2) : Kept S S2 := fun q m e => h2 q m (h q m e)
theorem BoxAt.kept {S S' : Store} {p : Addr} {n : Nat} (h : BoxAt S p n) (k : Kept S S') : BoxAt S' p n := by
  obtain ⟨a, s, t, e, h⟩ := h
  exact ⟨a, s, t, k _ _ e, h⟩
theorem ix_obj {S : Store} {l : Addr} {ds : List D} {k : Int} {P : D → Store → Prop} (h : S l = some (.lst ds)) : dIx (.obj l) (.int k) S P = (match atI ds k with | some d => P d S | none => False) := by
  unfold dIx
  simp only [seqOf, lstOf, h]
  all_goals rfl
theorem lo_le_hi {b : Int} {r : Rw} (hr : r.Ok b) : r.lo b ≤ r.hi b := by
  have h1 : 0 ≤ r.tail b := by
    unfold Rw.tail
    refine Rat.mul_nonneg ?_ (Rat.le_of_lt hr.pwp)
    rw [Rat.div_def]
    exact Rat.mul_nonneg (by exact_mod_cast hr.m0) (Rat.le_of_lt (Rat.inv_pos.mpr hr.cp))
  unfold Rw.lo Rw.hi
  grind
/-! ### kinds -/
inductive Kn where
  | sum (ws : List Int) (v : Int) | loose (ws : List Int) | moved (e : Int) | told (q : Rat) | times | over (k : Int) | least | most | choose
def Kn.d : Kn → D
  | .sum ws v => .tup [.str "sum", .tup (ws.map .int), .int v]
  | .loose ws => .tup [.str "loose", .tup (ws.map .int)]
  | .moved e => .tup [.str "moved", .int e]
  | .told q => .tup [.str "told", encR q]
  | .times => .tup [.str "times"]
  | .over k => .tup [.str "over", .int k]
  | .least => .tup [.str "least"]
  | .most => .tup [.str "most"]
  | .choose => .tup [.str "choose"]
def Kn.many : Kn → Nat
  | .sum ws _ => ws.length
  | .loose ws => ws.length
  | .moved _ => 1
  | .told _ => 0
  | .choose => 3
  | _ => 2
def Kn.Ok : Kn → Prop
  | .sum ws v => ws.length ≤ 4 ∧ (∀ w, w ∈ ws → w.natAbs ≤ 100) ∧ 1 ≤ v ∧ v ≤ 1000
  | .loose ws => ws.length ≤ 4 ∧ ∀ w, w ∈ ws → w.natAbs ≤ 100
  | .moved e => e.natAbs ≤ 30
  | .told q => Sz 100 q
  | .over k => k.natAbs ≤ 20
  | _ => True
def wsum : List Int → List Rat → Rat
  | w :: ws, x :: xs => (w : Rat) * x + wsum ws xs
  | _, _ => 0
/-- what comes of numbers -/
def Kn.app (b : Int) : Kn → List Rat → Rat
  | .sum ws v, xs => wsum ws xs / ((v : Int) : Rat)
  | .loose ws, xs => wsum ws xs
  | .moved e, x :: _ => x * (b : Rat) ^ e
  | .told q, _ => q
  | .times, [x, y] => x * y
  | .over k, [x, y] => x / max y ((b : Rat) ^ (-k))
  | .least, [x, y] => min x y
  | .most, [x, y] => max x y
  | .choose, [x, y, z] => if x < 0 then z else y
  | _, _ => 0
theorem wsum_take : ∀ (ws : List Int) (xs : List Rat) (i : Nat) (w : Int) (x : Rat), ws[i]? = some w → xs[i]? = some x → wsum (ws.take (i + 1)) (xs.take (i + 1)) = wsum (ws.take i) (xs.take i) + (w : Rat) * x
  | w :: ws, x :: xs, 0, w', x', h1, h2 => by
    simp at h1 h2
    subst h1 h2
    simp [wsum]; grind
  | w :: ws, x :: xs, i + 1, w', x', h1, h2 => by
    have := wsum_take ws xs i w' x' (by simpa using h1) (by simpa using h2)
    simp only [List.take_succ_cons, wsum, this]
    grind
  | [], _, _, _, _, h1, _ => by simp at h1
  | _ :: _, [], _, _, _, _, h2 => by simp at h2
theorem wsum_zero (ws : List Int) (xs : List Rat) : wsum (ws.take 0) (xs.take 0) = 0 := by simp [wsum]
theorem wsum_sz {z : Nat} {ws : List Int} {xs : List Rat} (hw : ∀ w, w ∈ ws → w.natAbs ≤ 100) (hx : ∀ x, x ∈ xs → Sz z x) : ∀ i, i ≤ ws.length → i ≤ xs.length → Sz (i * (z + 12) + 2) (wsum (ws.take i) (xs.take i))
  | 0, _, _ => by rw [wsum_zero]; exact (sz_int (n := 2) (k := 0) (by decide)).mono (by omega)
  | i + 1, h1, h2 => by
    have ih := wsum_sz hw hx i (by omega) (by omega)
    have e1 : ws[i]? = some ws[i] := List.getElem?_eq_getElem (by omega)
    have e2 : xs[i]? = some xs[i] := List.getElem?_eq_getElem (by omega)
    rw [wsum_take ws xs i _ _ e1 e2]
    have hw1 := hw ws[i] (List.getElem_mem _)
    have s1 : Sz 8 ((ws[i] : Int) : Rat) := sz_int (by omega)
    have s2 := sz_mul s1 (hx xs[i] (List.getElem_mem _))
    refine (sz_add ih s2).mono ?_
    rw [Nat.add_mul]
    omega
theorem max_pos {x y : Rat} (h : 0 < y) : 0 < max x y := by
  rw [max_if]; split <;> grind
theorem sz_max {n : Nat} {x y : Rat} (h1 : Sz n x) (h2 : Sz n y) : Sz n (max x y) := by rw [max_if]; split <;> assumption
theorem sz_min {n : Nat} {x y : Rat} (h1 : Sz n x) (h2 : Sz n y) : Sz n (min x y) := by rw [min_if]; split <;> assumption
theorem Kn.app_sz {b : Int} {kn : Kn} {xs : List Rat} {z : Nat} (b0 : 2 ≤ b) (b1 : b ≤ 16) (hk : kn.Ok) (hl : xs.length = kn.many) (hz : 100 ≤ z) (hx : ∀ x, x ∈ xs → Sz z x) : Sz (4 * z + 100) (kn.app b xs) := by
  have bp : (0 : Int) < b := by omega
  cases kn with
  | sum ws v =>
    obtain ⟨h1, h2, h3, h4⟩ := hk
    have := wsum_sz h2 hx ws.length (Nat.le_refl _) (by have : xs.length = ws.length := hl; omega)
    rw [List.take_length, show xs.take ws.length = xs from by rw [← show xs.length = ws.length from hl, List.take_length]] at this
    have hv : Sz 11 ((v : Int) : Rat) := sz_int (by omega)
    have vn : ((v : Int) : Rat) ≠ 0 := by
      have : v ≠ 0 := by omega
      exact_mod_cast this
    refine (sz_div vn this hv).mono ?_
    have : ws.length * (z + 12) ≤ 4 * (z + 12) := Nat.mul_le_mul_right _ h1
    omega
  | loose ws =>
    obtain ⟨h1, h2⟩ := hk
    have := wsum_sz h2 hx ws.length (Nat.le_refl _) (by have : xs.length = ws.length := hl; omega)
    rw [List.take_length, show xs.take ws.length = xs from by rw [← show xs.length = ws.length from hl, List.take_length]] at this
    refine this.mono ?_
    have : ws.length * (z + 12) ≤ 4 * (z + 12) := Nat.mul_le_mul_right _ h1
    omega
  | moved e =>
    match xs, hl with
    | [x], _ =>
      have he : e.natAbs ≤ 30 := hk
      exact (sz_mul (hx x (by simp)) (sz_zpow (k := e) bp b1)).mono (by omega)
  | told q => exact Sz.mono (show Sz 100 q from hk) (by omega)
  | times =>
    match xs, hl with
    | [x, y], _ => exact (sz_mul (hx x (by simp)) (hx y (by simp))).mono (by omega)
  | over k =>
    match xs, hl with
    | [x, y], _ =>
      have he : k.natAbs ≤ 20 := hk
      have p := Rat.zpow_pos (n := -k) (ratpos bp)
      have hp := max_pos (x := y) p
      exact (sz_div (by grind) (hx x (by simp)) (sz_max (hx y (by simp)) ((sz_zpow (k := -k) bp b1).mono (by omega)))).mono (by omega)
  | least =>
    match xs, hl with
    | [x, y], _ => exact (sz_min (hx x (by simp)) (hx y (by simp))).mono (by omega)
  | most =>
    match xs, hl with
    | [x, y], _ => exact (sz_max (hx x (by simp)) (hx y (by simp))).mono (by omega)
  | choose =>
    match xs, hl with
    | [x, y, w], _ =>
      show Sz _ (if x < 0 then w else y)
      split
      · exact (hx w (by simp)).mono (by omega)
      · exact (hx y (by simp)).mono (by omega)
/-- corners: which end of each -/
def cor : Nat → List (List Int)
  | 0 => [[]]
  | n + 1 => (cor n).flatMap fun o => [o ++ [0], o ++ [1]]
def spD (s : Rat × Rat) : D := .tup [encR s.1, encR s.2]
def pickAt (ss : List (Rat × Rat)) (o : List Int) : List Rat := (ss.zip o).map fun p => if p.2 = 0 then p.1.1 else p.1.2
theorem mem_cor : ∀ {n : Nat} {o : List Int}, o ∈ cor n ↔ o.length = n ∧ ∀ e, e ∈ o → e = 0 ∨ e = 1
  | 0, o => by
    constructor
    · intro h
      simp only [cor, List.mem_singleton] at h
      subst h; simp
    · rintro ⟨h, _⟩
      rw [List.eq_nil_of_length_eq_zero h]
      simp [cor]
  | n + 1, o => by
    show o ∈ (cor n).flatMap (fun o => [o ++ [0], o ++ [1]]) ↔ _
    rw [List.mem_flatMap]
    constructor
    · rintro ⟨p, hp, h⟩
      obtain ⟨h1, h2⟩ := mem_cor.mp hp
      simp only [List.mem_cons, List.not_mem_nil, or_false] at h
      rcases h with rfl | rfl
      · refine ⟨by simp [h1], fun e he => ?_⟩
        rcases List.mem_append.mp he with he | he
        · exact h2 e he
        · simp only [List.mem_singleton] at he
          exact .inl he
      · refine ⟨by simp [h1], fun e he => ?_⟩
        rcases List.mem_append.mp he with he | he
        · exact h2 e he
        · simp only [List.mem_singleton] at he
          exact .inr he
    · rintro ⟨h1, h2⟩
      have hne : o ≠ [] := fun z => by rw [z] at h1; cases h1
      have e : o = o.dropLast ++ [o.getLast hne] := (List.dropLast_concat_getLast hne).symm
      refine ⟨o.dropLast, mem_cor.mpr ⟨by rw [List.length_dropLast]; omega, fun x hx => h2 x (List.dropLast_subset o hx)⟩, ?_⟩
      rcases h2 (o.getLast hne) (List.getLast_mem hne) with h | h
      · rw [h] at e; rw [← e]; simp
      · rw [h] at e; rw [← e]; simp
def Kn.vals (b : Int) (kn : Kn) (ss : List (Rat × Rat)) : List Rat := (cor ss.length).map fun o => kn.app b (pickAt ss o)
def minL : List Rat → Rat
  | [] => 0
  | x :: xs => xs.foldl min x
def maxL : List Rat → Rat
  | [] => 0
  | x :: xs => xs.foldl max x
/-! ### promises -/
def NumsD (y : D) (xs : List Rat) : Prop := y = .lst (xs.map encR) ∨ y = .tup (xs.map encR)
def spanQ (b : Int) (r : Rw) : Rat × Rat := (r.lo b, r.hi b)
theorem NumsD.seq {y : D} {xs : List Rat} (h : NumsD y xs) (S : Store) : seqOf S y = some (xs.map encR) := by
  rcases h with rfl | rfl <;> rfl
theorem NumsD.pin {y : D} {xs : List Rat} (h : NumsD y xs) (S : Store) : pinOf S y = none := by
  rcases h with rfl | rfl <;> rfl
theorem g_ix_enc0 {q : Rat} {S : Store} {P : D → Store → Prop} : dIx (encR q) (.int 0) S P = P (.int q.num) S := rfl
theorem g_ix_enc1 {q : Rat} {S : Store} {P : D → Store → Prop} : dIx (encR q) (.int 1) S P = P (.int (q.den : Int)) S := rfl
theorem g_ix_sp0 {q : Rat × Rat} {S : Store} {P : D → Store → Prop} : dIx (spD q) (.int 0) S P = P (encR q.1) S := rfl
theorem g_ix_sp1 {q : Rat × Rat} {S : Store} {P : D → Store → Prop} : dIx (spD q) (.int 1) S P = P (encR q.2) S := rfl
/-! ### the least and the greatest of corners -/
theorem foldl_min_le : ∀ (xs : List Rat) (v : Rat), xs.foldl min v ≤ v ∧ (∀ x, x ∈ xs → xs.foldl min v ≤ x) ∧ (xs.foldl min v = v ∨ xs.foldl min v ∈ xs)
  | [], v => ⟨Rat.le_refl, by simp, .inl rfl⟩
  | x :: xs, v => by
    obtain ⟨h1, h2, h3⟩ := foldl_min_le xs (min v x)
    have m1 : min v x ≤ v ∧ min v x ≤ x ∧ (min v x = v ∨ min v x = x) := by
      rw [min_if]
      split
      · exact ⟨by grind, Rat.le_refl, .inr rfl⟩
      · exact ⟨Rat.le_refl, by grind, .inl rfl⟩
    refine ⟨Rat.le_trans h1 m1.1, fun y hy => ?_, ?_⟩
    · rcases List.mem_cons.mp hy with rfl | hy
      · exact Rat.le_trans h1 m1.2.1
      · exact h2 y hy
    · rcases h3 with h3 | h3
      · show xs.foldl min (min v x) = v ∨ xs.foldl min (min v x) ∈ x :: xs
        rw [h3]
        rcases m1.2.2 with e | e
        · exact .inl e
        · exact .inr (by rw [e]; simp)
      · exact .inr (List.mem_cons_of_mem _ h3)
theorem foldl_max_le : ∀ (xs : List Rat) (v : Rat), v ≤ xs.foldl max v ∧ (∀ x, x ∈ xs → x ≤ xs.foldl max v) ∧ (xs.foldl max v = v ∨ xs.foldl max v ∈ xs)
  | [], v => ⟨Rat.le_refl, by simp, .inl rfl⟩
  | x :: xs, v => by
    obtain ⟨h1, h2, h3⟩ := foldl_max_le xs (max v x)
    have m1 : v ≤ max v x ∧ x ≤ max v x ∧ (max v x = v ∨ max v x = x) := by
      rw [max_if]
      split
      · exact ⟨by grind, Rat.le_refl, .inr rfl⟩
      · exact ⟨Rat.le_refl, by grind, .inl rfl⟩
    refine ⟨Rat.le_trans m1.1 h1, fun y hy => ?_, ?_⟩
    · rcases List.mem_cons.mp hy with rfl | hy
      · exact Rat.le_trans m1.2.1 h1
      · exact h2 y hy
    · rcases h3 with h3 | h3
      · show xs.foldl max (max v x) = v ∨ xs.foldl max (max v x) ∈ x :: xs
        rw [h3]
        rcases m1.2.2 with e | e
        · exact .inl e
        · exact .inr (by rw [e]; simp)
      · exact .inr (List.mem_cons_of_mem _ h3)
theorem minL_is {xs : List Rat} (h : xs ≠ []) : minL xs ∈ xs ∧ ∀ x, x ∈ xs → minL xs ≤ x := by
  match xs, h with
  | v :: xs, _ =>
    obtain ⟨h1, h2, h3⟩ := foldl_min_le xs v
    refine ⟨?_, fun x hx => ?_⟩
    · show xs.foldl min v ∈ v :: xs
      rcases h3 with e | e
      · rw [e]; simp
      · exact List.mem_cons_of_mem _ e
    · rcases List.mem_cons.mp hx with rfl | hx
      · exact h1
      · exact h2 x hx
theorem maxL_is {xs : List Rat} (h : xs ≠ []) : maxL xs ∈ xs ∧ ∀ x, x ∈ xs → x ≤ maxL xs := by
  match xs, h with
  | v :: xs, _ =>
    obtain ⟨h1, h2, h3⟩ := foldl_max_le xs v
    refine ⟨?_, fun x hx => ?_⟩
    · show xs.foldl max v ∈ v :: xs
      rcases h3 with e | e
      · rw [e]; simp
      · exact List.mem_cons_of_mem _ e
    · rcases List.mem_cons.mp hx with rfl | hx
      · exact h1
      · exact h2 x hx
theorem minL_eq {xs : List Rat} {m : Rat} (hm : m ∈ xs) (hl : ∀ x, x ∈ xs → m ≤ x) : minL xs = m := by
  obtain ⟨h1, h2⟩ := minL_is (List.ne_nil_of_mem hm)
  exact Rat.le_antisymm (h2 m hm) (hl _ h1)
theorem maxL_eq {xs : List Rat} {m : Rat} (hm : m ∈ xs) (hl : ∀ x, x ∈ xs → x ≤ m) : maxL xs = m := by
  obtain ⟨h1, h2⟩ := maxL_is (List.ne_nil_of_mem hm)
  exact Rat.le_antisymm (hl _ h1) (h2 m hm)
/-- an end of each -/
def Ch : List (Rat × Rat) → List Rat → Prop
  | [], [] => True
  | s :: ss, x :: xs => (x = s.1 ∨ x = s.2) ∧ Ch ss xs
  | _, _ => False
/-- a number of each -/
def Ins : List (Rat × Rat) → List Rat → Prop
  | [], [] => True
  | s :: ss, x :: xs => (s.1 ≤ x ∧ x ≤ s.2) ∧ Ins ss xs
  | _, _ => False
def Up (ss : List (Rat × Rat)) : Prop := ∀ s, s ∈ ss → s.1 ≤ s.2
theorem ch_pick : ∀ {ss : List (Rat × Rat)} {o : List Int}, o.length = ss.length → Ch ss (pickAt ss o)
  | [], [], _ => by simp [pickAt, Ch]
  | s :: ss, e :: o, h => by
    have ih := ch_pick (ss := ss) (o := o) (by simpa using h)
    show Ch (s :: ss) ((if e = 0 then s.1 else s.2) :: pickAt ss o)
    refine ⟨?_, ih⟩
    split
    · exact .inl rfl
    · exact .inr rfl
theorem pick_ch : ∀ {ss : List (Rat × Rat)} {xs : List Rat}, Ch ss xs → ∃ o : List Int, o ∈ cor ss.length ∧ pickAt ss o = xs
  | [], [], _ => ⟨[], by simp [cor], rfl⟩
  | [], _ :: _, h => h.elim
  | _ :: _, [], h => h.elim
  | s :: ss, x :: xs, ⟨hx, h⟩ => by
    obtain ⟨o, ho, e⟩ := pick_ch h
    obtain ⟨o1, o2⟩ := mem_cor.mp ho
    rcases hx with rfl | rfl
    · refine ⟨0 :: o, mem_cor.mpr ⟨by simp [o1], fun e he => ?_⟩, ?_⟩
      · rcases List.mem_cons.mp he with rfl | he
        · exact .inl rfl
        · exact o2 e he
      · show (if (0 : Int) = 0 then s.1 else s.2) :: pickAt ss o = _
        rw [e]; rfl
    · refine ⟨1 :: o, mem_cor.mpr ⟨by simp [o1], fun e he => ?_⟩, ?_⟩
      · rcases List.mem_cons.mp he with rfl | he
        · exact .inr rfl
        · exact o2 e he
      · show (if (1 : Int) = 0 then s.1 else s.2) :: pickAt ss o = _
        rw [e]; rfl
theorem mem_vals {b : Int} {kn : Kn} {ss : List (Rat × Rat)} {v : Rat} : v ∈ kn.vals b ss ↔ ∃ xs, Ch ss xs ∧ v = kn.app b xs := by
  unfold Kn.vals
  rw [List.mem_map]
  constructor
  · rintro ⟨o, ho, rfl⟩
    exact ⟨_, ch_pick (mem_cor.mp ho).1, rfl⟩
  · rintro ⟨xs, hx, rfl⟩
    obtain ⟨o, ho, e⟩ := pick_ch hx
    exact ⟨o, ho, by rw [e]⟩
theorem ch_ins : ∀ {ss : List (Rat × Rat)} {xs : List Rat}, Up ss → Ch ss xs → Ins ss xs
  | [], [], _, _ => trivial
  | [], _ :: _, _, h => h.elim
  | _ :: _, [], _, h => h.elim
  | s :: ss, x :: xs, hu, ⟨hx, h⟩ => by
    have h1 := hu s (by simp)
    refine ⟨?_, ch_ins (fun t ht => hu t (by simp [ht])) h⟩
    rcases hx with rfl | rfl
    · exact ⟨Rat.le_refl, h1⟩
    · exact ⟨h1, Rat.le_refl⟩
theorem Ch.len : ∀ {ss : List (Rat × Rat)} {xs : List Rat}, Ch ss xs → xs.length = ss.length
  | [], [], _ => rfl
  | [], _ :: _, h => h.elim
  | _ :: _, [], h => h.elim
  | s :: ss, x :: xs, ⟨_, h⟩ => by simp [h.len]
/-- what of sums is least, greatest -/
def sumLo (ws : List Int) (ss : List (Rat × Rat)) : List Rat := (ss.zip ws).map fun p => if p.2 < 0 then p.1.2 else p.1.1
def sumHi (ws : List Int) (ss : List (Rat × Rat)) : List Rat := (ss.zip ws).map fun p => if p.2 < 0 then p.1.1 else p.1.2
theorem sumLo_ch : ∀ {ws : List Int} {ss : List (Rat × Rat)}, ws.length = ss.length → Ch ss (sumLo ws ss) ∧ Ch ss (sumHi ws ss)
  | [], [], _ => ⟨trivial, trivial⟩
  | w :: ws, s :: ss, h => by
    have ih := sumLo_ch (ws := ws) (ss := ss) (by simpa using h)
    refine ⟨⟨?_, ih.1⟩, ⟨?_, ih.2⟩⟩
    · show (if w < 0 then s.2 else s.1) = s.1 ∨ (if w < 0 then s.2 else s.1) = s.2
      split
      · exact .inr rfl
      · exact .inl rfl
    · show (if w < 0 then s.1 else s.2) = s.1 ∨ (if w < 0 then s.1 else s.2) = s.2
      split
      · exact .inl rfl
      · exact .inr rfl
theorem mul_ge {w : Int} {a x c : Rat} (h1 : a ≤ x) (h2 : x ≤ c) : (w : Rat) * (if w < 0 then c else a) ≤ (w : Rat) * x ∧ (w : Rat) * x ≤ (w : Rat) * (if w < 0 then a else c) := by
  by_cases hw : w < 0
  · simp only [hw, reduceIte]
    have p : (0 : Rat) ≤ ((-w : Int) : Rat) := Rat.le_of_lt (ratpos (by omega))
    rw [Rat.intCast_neg] at p
    have m1 := Rat.mul_le_mul_of_nonneg_left h2 p
    have m2 := Rat.mul_le_mul_of_nonneg_left h1 p
    constructor <;> grind
  · simp only [hw, reduceIte]
    have p : ((0 : Int) : Rat) ≤ (w : Rat) := Rat.intCast_le_intCast.mpr (by omega)
    exact ⟨Rat.mul_le_mul_of_nonneg_left h1 p, Rat.mul_le_mul_of_nonneg_left h2 p⟩
theorem sumLo_le : ∀ {ws : List Int} {ss : List (Rat × Rat)} {xs : List Rat}, ws.length = ss.length → Ins ss xs → wsum ws (sumLo ws ss) ≤ wsum ws xs ∧ wsum ws xs ≤ wsum ws (sumHi ws ss)
  | [], [], xs, _, h => ⟨by show (0 : Rat) ≤ 0; exact Rat.le_refl, by show (0 : Rat) ≤ 0; exact Rat.le_refl⟩
  | w :: ws, s :: ss, [], _, h => h.elim
  | w :: ws, s :: ss, x :: xs, hl, ⟨⟨h1, h2⟩, h⟩ => by
    have ih := sumLo_le (ws := ws) (ss := ss) (xs := xs) (by simpa using hl) h
    have m := mul_ge (w := w) h1 h2
    have e1 : sumLo (w :: ws) (s :: ss) = (if w < 0 then s.2 else s.1) :: sumLo ws ss := rfl
    have e2 : sumHi (w :: ws) (s :: ss) = (if w < 0 then s.1 else s.2) :: sumHi ws ss := rfl
    rw [e1, e2]
    simp only [wsum]
    constructor <;> grind
/-- products: by ends -/
theorem mul_low {a c x y : Rat} (h1 : a ≤ x) (h2 : x ≤ c) : (a * y ≤ x * y ∨ c * y ≤ x * y) ∧ (x * y ≤ a * y ∨ x * y ≤ c * y) := by
  by_cases hy : 0 ≤ y
  · exact ⟨.inl (Rat.mul_le_mul_of_nonneg_right h1 hy), .inr (Rat.mul_le_mul_of_nonneg_right h2 hy)⟩
  · have p : 0 ≤ -y := by grind
    have m1 := Rat.mul_le_mul_of_nonneg_right h1 p
    have m2 := Rat.mul_le_mul_of_nonneg_right h2 p
    exact ⟨.inr (by grind), .inl (by grind)⟩
/-- some corner is as low, some as high -/
theorem corner_low {b : Int} {kn : Kn} {ss : List (Rat × Rat)} {xs : List Rat} (b0 : 2 ≤ b) (hk : kn.Ok) (hl : ss.length = kn.many) (hi : Ins ss xs) (hu : Up ss) :
    (∃ c, Ch ss c ∧ kn.app b c ≤ kn.app b xs) ∧ ∃ c, Ch ss c ∧ kn.app b xs ≤ kn.app b c := by
  have bp : (0 : Int) < b := by omega
  cases kn with
  | sum ws v =>
    have hl' : ws.length = ss.length := hl.symm
    have c := sumLo_ch hl'
    have m := sumLo_le hl' hi
    have vp : (0 : Rat) ≤ ((v : Int) : Rat)⁻¹ := Rat.le_of_lt (Rat.inv_pos.mpr (ratpos (by have := hk.2.2.1; omega)))
    refine ⟨⟨_, c.1, ?_⟩, ⟨_, c.2, ?_⟩⟩
    · show wsum ws _ / _ ≤ wsum ws _ / _
      rw [Rat.div_def, Rat.div_def]
      exact Rat.mul_le_mul_of_nonneg_right m.1 vp
    · show wsum ws _ / _ ≤ wsum ws _ / _
      rw [Rat.div_def, Rat.div_def]
      exact Rat.mul_le_mul_of_nonneg_right m.2 vp
  | loose ws =>
    have hl' : ws.length = ss.length := hl.symm
    have c := sumLo_ch hl'
    have m := sumLo_le hl' hi
    exact ⟨⟨_, c.1, m.1⟩, ⟨_, c.2, m.2⟩⟩
  | moved e =>
    match ss, xs, hl, hi with
    | [s], [x], _, ⟨h, _⟩ =>
      have p := Rat.le_of_lt (Rat.zpow_pos (n := e) (ratpos bp))
      exact ⟨⟨[s.1], ⟨.inl rfl, trivial⟩, Rat.mul_le_mul_of_nonneg_right h.1 p⟩, ⟨[s.2], ⟨.inr rfl, trivial⟩, Rat.mul_le_mul_of_nonneg_right h.2 p⟩⟩
    | [s], _ :: _ :: _, _, ⟨_, h⟩ => exact h.elim
  | told q =>
    match ss, xs, hl, hi with
    | [], [], _, _ => exact ⟨⟨[], trivial, Rat.le_refl⟩, ⟨[], trivial, Rat.le_refl⟩⟩
  | times =>
    match ss, xs, hl, hi with
    | [s, t], [x, y], _, ⟨hx, hy, _⟩ =>
      have m1 := mul_low (y := y) hx.1 hx.2
      have lo : ∀ u, u = s.1 ∨ u = s.2 → u * y ≤ x * y → ∃ c, Ch [s, t] c ∧ Kn.app b .times c ≤ x * y := fun u hu h => by
        have m2 := mul_low (y := u) hy.1 hy.2
        rcases m2.1 with h2 | h2
        · exact ⟨[u, t.1], ⟨hu, .inl rfl, trivial⟩, by show u * t.1 ≤ x * y; grind⟩
        · exact ⟨[u, t.2], ⟨hu, .inr rfl, trivial⟩, by show u * t.2 ≤ x * y; grind⟩
      have up : ∀ u, u = s.1 ∨ u = s.2 → x * y ≤ u * y → ∃ c, Ch [s, t] c ∧ x * y ≤ Kn.app b .times c := fun u hu h => by
        have m2 := mul_low (y := u) hy.1 hy.2
        rcases m2.2 with h2 | h2
        · exact ⟨[u, t.1], ⟨hu, .inl rfl, trivial⟩, by show x * y ≤ u * t.1; grind⟩
        · exact ⟨[u, t.2], ⟨hu, .inr rfl, trivial⟩, by show x * y ≤ u * t.2; grind⟩
      refine ⟨?_, ?_⟩
      · rcases m1.1 with h | h
        · exact lo s.1 (.inl rfl) h
        · exact lo s.2 (.inr rfl) h
      · rcases m1.2 with h | h
        · exact up s.1 (.inl rfl) h
        · exact up s.2 (.inr rfl) h
    | [s, t], [x], _, ⟨_, h⟩ => exact h.elim
    | [s, t], _ :: _ :: _ :: _, _, ⟨_, _, h⟩ => exact h.elim
  | over k =>
    match ss, xs, hl, hi with
    | [s, t], [x, y], _, ⟨hx, hy, _⟩ =>
      have p := Rat.zpow_pos (n := -k) (ratpos bp)
      generalize ec : (b : Rat) ^ (-k) = c at p
      have inv : ∀ {u v : Rat}, u ≤ v → 0 < (max u c)⁻¹ ∧ (max v c)⁻¹ ≤ (max u c)⁻¹ := fun {u v} h => by
        have pu := max_pos (x := u) p
        have pv := max_pos (x := v) p
        have le : max u c ≤ max v c := by
          rw [max_if, max_if]
          split <;> split <;> grind
        have iu := Rat.inv_pos.mpr pu
        have iv := Rat.inv_pos.mpr pv
        refine ⟨iu, ?_⟩
        have m := Rat.mul_le_mul_of_nonneg_left le (Rat.le_of_lt (Rat.mul_pos iu iv))
        have e1 : (max u c)⁻¹ * (max v c)⁻¹ * max u c = (max v c)⁻¹ := by
          have : (max u c)⁻¹ * max u c = 1 := Rat.inv_mul_cancel _ (by grind)
          grind
        have e2 : (max u c)⁻¹ * (max v c)⁻¹ * max v c = (max u c)⁻¹ := by
          have : (max v c)⁻¹ * max v c = 1 := Rat.inv_mul_cancel _ (by grind)
          grind
        rw [e1, e2] at m
        exact m
      have ap : ∀ u v : Rat, Kn.app b (.over k) [u, v] = u * (max v c)⁻¹ := fun u v => by
        show u / max v ((b : Rat) ^ (-k)) = _
        rw [ec, Rat.div_def]
      have i1 := inv hy.1
      have i2 := inv hy.2
      obtain ⟨gy, hgy⟩ : ∃ g, g = (max y c)⁻¹ := ⟨_, rfl⟩
      obtain ⟨g1, hg1⟩ : ∃ g, g = (max t.1 c)⁻¹ := ⟨_, rfl⟩
      obtain ⟨g2, hg2⟩ : ∃ g, g = (max t.2 c)⁻¹ := ⟨_, rfl⟩
      rw [← hgy, ← hg1] at i1
      rw [← hgy, ← hg2] at i2
      have m1 := mul_low (y := gy) hx.1 hx.2
      have bnd : ∀ u : Rat, (u * g2 ≤ u * gy ∨ u * g1 ≤ u * gy) ∧ (u * gy ≤ u * g2 ∨ u * gy ≤ u * g1) := fun u => by
        have := mul_low (y := u) i2.2 i1.2
        constructor
        · rcases this.1 with h | h
          · exact .inl (by grind)
          · exact .inr (by grind)
        · rcases this.2 with h | h
          · exact .inl (by grind)
          · exact .inr (by grind)
      have lo : ∀ u, u = s.1 ∨ u = s.2 → u * gy ≤ x * gy → ∃ c', Ch [s, t] c' ∧ Kn.app b (.over k) c' ≤ x * gy := fun u hu h => by
        rcases (bnd u).1 with h2 | h2
        · exact ⟨[u, t.2], ⟨hu, .inr rfl, trivial⟩, by rw [ap, ← hg2]; grind⟩
        · exact ⟨[u, t.1], ⟨hu, .inl rfl, trivial⟩, by rw [ap, ← hg1]; grind⟩
      have up : ∀ u, u = s.1 ∨ u = s.2 → x * gy ≤ u * gy → ∃ c', Ch [s, t] c' ∧ x * gy ≤ Kn.app b (.over k) c' := fun u hu h => by
        rcases (bnd u).2 with h2 | h2
        · exact ⟨[u, t.2], ⟨hu, .inr rfl, trivial⟩, by rw [ap, ← hg2]; grind⟩
        · exact ⟨[u, t.1], ⟨hu, .inl rfl, trivial⟩, by rw [ap, ← hg1]; grind⟩
      rw [ap, ← hgy]
      refine ⟨?_, ?_⟩
      · rcases m1.1 with h | h
        · exact lo s.1 (.inl rfl) h
        · exact lo s.2 (.inr rfl) h
      · rcases m1.2 with h | h
        · exact up s.1 (.inl rfl) h
        · exact up s.2 (.inr rfl) h
    | [s, t], [x], _, ⟨_, h⟩ => exact h.elim
    | [s, t], _ :: _ :: _ :: _, _, ⟨_, _, h⟩ => exact h.elim
  | least =>
    match ss, xs, hl, hi with
    | [s, t], [x, y], _, ⟨hx, hy, _⟩ =>
      refine ⟨⟨[s.1, t.1], ⟨.inl rfl, .inl rfl, trivial⟩, ?_⟩, ⟨[s.2, t.2], ⟨.inr rfl, .inr rfl, trivial⟩, ?_⟩⟩
      · show min s.1 t.1 ≤ min x y
        rw [min_if, min_if]; split <;> split <;> grind
      · show min x y ≤ min s.2 t.2
        rw [min_if, min_if]; split <;> split <;> grind
    | [s, t], [x], _, ⟨_, h⟩ => exact h.elim
    | [s, t], _ :: _ :: _ :: _, _, ⟨_, _, h⟩ => exact h.elim
  | most =>
    match ss, xs, hl, hi with
    | [s, t], [x, y], _, ⟨hx, hy, _⟩ =>
      refine ⟨⟨[s.1, t.1], ⟨.inl rfl, .inl rfl, trivial⟩, ?_⟩, ⟨[s.2, t.2], ⟨.inr rfl, .inr rfl, trivial⟩, ?_⟩⟩
      · show max s.1 t.1 ≤ max x y
        rw [max_if, max_if]; split <;> split <;> grind
      · show max x y ≤ max s.2 t.2
        rw [max_if, max_if]; split <;> split <;> grind
    | [s, t], [x], _, ⟨_, h⟩ => exact h.elim
    | [s, t], _ :: _ :: _ :: _, _, ⟨_, _, h⟩ => exact h.elim
  | choose =>
    match ss, xs, hl, hi with
    | [s, t, u], [x, y, w], _, ⟨hx, hy, hw, _⟩ =>
      by_cases hc : x < 0
      · have e : Kn.app b .choose [x, y, w] = w := by show (if x < 0 then w else y) = w; rw [if_pos hc]
        have hs : s.1 < 0 := by grind
        have e1 : Kn.app b .choose [s.1, t.1, u.1] = u.1 := by show (if s.1 < 0 then u.1 else t.1) = u.1; rw [if_pos hs]
        have e2 : Kn.app b .choose [s.1, t.1, u.2] = u.2 := by show (if s.1 < 0 then u.2 else t.1) = u.2; rw [if_pos hs]
        rw [e]
        exact ⟨⟨[s.1, t.1, u.1], ⟨.inl rfl, .inl rfl, .inl rfl, trivial⟩, by rw [e1]; exact hw.1⟩, ⟨[s.1, t.1, u.2], ⟨.inl rfl, .inl rfl, .inr rfl, trivial⟩, by rw [e2]; exact hw.2⟩⟩
      · have e : Kn.app b .choose [x, y, w] = y := by show (if x < 0 then w else y) = y; rw [if_neg hc]
        have hs : ¬ s.2 < 0 := by grind
        have e1 : Kn.app b .choose [s.2, t.1, u.1] = t.1 := by show (if s.2 < 0 then u.1 else t.1) = t.1; rw [if_neg hs]
        have e2 : Kn.app b .choose [s.2, t.2, u.1] = t.2 := by show (if s.2 < 0 then u.1 else t.2) = t.2; rw [if_neg hs]
        rw [e]
        exact ⟨⟨[s.2, t.1, u.1], ⟨.inr rfl, .inl rfl, .inl rfl, trivial⟩, by rw [e1]; exact hy.1⟩, ⟨[s.2, t.2, u.1], ⟨.inr rfl, .inr rfl, .inl rfl, trivial⟩, by rw [e2]; exact hy.2⟩⟩
    | [s, t, u], [x], _, ⟨_, h⟩ => exact h.elim
    | [s, t, u], [x, y], _, ⟨_, _, h⟩ => exact h.elim
    | [s, t, u], _ :: _ :: _ :: _ :: _, _, ⟨_, _, _, h⟩ => exact h.elim
/-- all that comes is between -/
theorem vals_within {b : Int} {kn : Kn} {ss : List (Rat × Rat)} {xs : List Rat} (b0 : 2 ≤ b) (hk : kn.Ok) (hl : ss.length = kn.many) (hi : Ins ss xs) (hu : Up ss) :
    minL (kn.vals b ss) ≤ kn.app b xs ∧ kn.app b xs ≤ maxL (kn.vals b ss) := by
  obtain ⟨⟨c, c1, c2⟩, d, d1, d2⟩ := corner_low b0 hk hl hi hu
  have m1 : kn.app b c ∈ kn.vals b ss := mem_vals.mpr ⟨c, c1, rfl⟩
  have m2 : kn.app b d ∈ kn.vals b ss := mem_vals.mpr ⟨d, d1, rfl⟩
  exact ⟨Rat.le_trans ((minL_is (List.ne_nil_of_mem m1)).2 _ m1) c2, Rat.le_trans d2 ((maxL_is (List.ne_nil_of_mem m2)).2 _ m2)⟩
/-! ### isinstance of dict, of (bool, str) -/
theorem isi_non_dict {S : Store} {P : D → Store → Prop} : cIsi [.non, .ty "dict"] S P = P (.bl false) S := propext ⟨fun h => h.2, fun h => ⟨by decide, h⟩⟩
theorem isi_bl_dict {k : Bool} {S : Store} {P : D → Store → Prop} : cIsi [(.bl k), .ty "dict"] S P = P (.bl false) S := propext ⟨fun h => h.2, fun h => ⟨by decide, h⟩⟩
theorem isi_int_dict {k : Int} {S : Store} {P : D → Store → Prop} : cIsi [(.int k), .ty "dict"] S P = P (.bl false) S := propext ⟨fun h => h.2, fun h => ⟨by decide, h⟩⟩
theorem isi_str_dict {k : Str} {S : Store} {P : D → Store → Prop} : cIsi [(.str k), .ty "dict"] S P = P (.bl false) S := propext ⟨fun h => h.2, fun h => ⟨by decide, h⟩⟩
theorem isi_lst_dict {k : List D} {S : Store} {P : D → Store → Prop} : cIsi [(.lst k), .ty "dict"] S P = P (.bl false) S := propext ⟨fun h => h.2, fun h => ⟨by decide, h⟩⟩
theorem isi_tup_dict {k : List D} {S : Store} {P : D → Store → Prop} : cIsi [(.tup k), .ty "dict"] S P = P (.bl false) S := propext ⟨fun h => h.2, fun h => ⟨by decide, h⟩⟩
theorem isi_non_bs {S : Store} {P : D → Store → Prop} : cIsi [.non, .tup [.ty "bool", .ty "str"]] S P = P (.bl false) S := rfl
theorem isi_bl_bs {k : Bool} {S : Store} {P : D → Store → Prop} : cIsi [(.bl k), .tup [.ty "bool", .ty "str"]] S P = P (.bl true) S := rfl
theorem isi_int_bs {k : Int} {S : Store} {P : D → Store → Prop} : cIsi [(.int k), .tup [.ty "bool", .ty "str"]] S P = P (.bl false) S := rfl
theorem isi_str_bs {k : Str} {S : Store} {P : D → Store → Prop} : cIsi [(.str k), .tup [.ty "bool", .ty "str"]] S P = P (.bl true) S := rfl
theorem isi_lst_bs {k : List D} {S : Store} {P : D → Store → Prop} : cIsi [(.lst k), .tup [.ty "bool", .ty "str"]] S P = P (.bl false) S := rfl
theorem isi_tup_bs {k : List D} {S : Store} {P : D → Store → Prop} : cIsi [(.tup k), .tup [.ty "bool", .ty "str"]] S P = P (.bl false) S := rfl
theorem ln_obj {l : Addr} {ds : List D} {S : Store} {P : D → Store → Prop} (h : S l = some (.lst ds)) : cLen [(.obj l)] S P = P (.int ds.length) S := by
  unfold cLen
  simp only [seqOf, lstOf, h]
theorem g_put_sp {ts : List Tgt} {s : Rat × Rat} {ρ : DSt} : Tgt.put (.tp ts) (spD s) ρ = Tgt.putL ts [encR s.1, encR s.2] ρ := by unfold spD; exact put_tp
local macro_rules | `(tactic| walk_at "dg3") => `(tactic| try simp only [dDispGet, dictAt, isi_non_dict, isi_bl_dict, isi_int_dict, isi_str_dict, isi_lst_dict, isi_tup_dict, isi_non_bs, isi_bl_bs, isi_int_bs, isi_str_bs, isi_lst_bs, isi_tup_bs, g_ix_enc0, g_ix_enc1, g_ix_sp0, g_ix_sp1, g_put_sp, Int.reduceEq, dSeq, dSet, dPar, dOp, dUn, dVar, dC, dCB, dCons, dNil, dTup, dLst, dLstM, dIfS, dIf, dTest, dNot, dAnd, dOr, dAndV, dOrV, dNotV, dRet, dRetN, dEnd, dNext, dAdd, dSub, dMul, dFdiv, dMod, dPow, dNeg, dLt, dLe, dGt, dGe, dEq, dNe, eqB_ii, eqB_bb, eqB_ss, eqB_nn, eqB_ni, eqB_in, eqB_ns, eqB_sn, eqB_is, eqB_si, eqB_nb, eqB_bn, dIn, g_ix_tup, g_ix_lst, g_ix_ext, g_ln_tup, g_ln_lst, g_ln_ext, g_nn_non, g_nn_int, g_nn_tup, g_in_non, g_in_int, g_in_tup, g_ix_row0, g_ix_row1, g_ix_row2, g_ix_span0, g_ix_span1, g_nn_span, g_nn_encR, g_in_span, cAbs, cMax2, cMin2, cInt, cList, cTuple, dIsB, dNotB, dPar3, ForN, LcN, pinOf, pin2, dEnum2, dAppend, supd_same0, isi_non_int, isi_non_bool, isi_non_str, isi_non_list, isi_non_tuple, isi_non_lt, isi_bl_int, isi_bl_bool, isi_bl_str, isi_bl_list, isi_bl_tuple, isi_bl_lt, isi_int_int, isi_int_bool, isi_int_str, isi_int_list, isi_int_tuple, isi_int_lt, isi_str_int, isi_str_bool, isi_str_str, isi_str_list, isi_str_tuple, isi_str_lt, isi_lst_int, isi_lst_bool, isi_lst_str, isi_lst_list, isi_lst_tuple, isi_lst_lt, isi_tup_int, isi_tup_bool, isi_tup_str, isi_tup_list, isi_tup_tuple, isi_tup_lt, dAug, dIAdd, dIMul, dDrop, dSl, dPart, dNoPart, dRevL, dCallK, dChainR, dAsg, put_nm, put_tp, put_tl, g_put_row, g_put_span, putL_nil, putL_cons, Option.bind, seqOf, lstOf, dFor, dLc, dLcM, dItSeq, dZip, dZipS, dEnum, dRng1, dRng2, dYes, dwipe, Tgt.slots, Tgt.slotsL,
  atI_0, atI_1, atI_2, atI_3, List.getElem?_cons_zero, List.getElem?_cons_succ, List.set_cons_zero, List.set_cons_succ, decide_eq_true_eq, List.length_cons, List.length_nil, List.cons_append, List.nil_append, List.append_nil, ofString_inj, String.reduceEq, decide_true, decide_false, reduceIte, Bool.false_eq_true, Bool.not_true, Bool.not_false, eqFlat, isFlat, List.any_cons, List.any_nil, List.all_cons, List.all_nil, Bool.or_false, Bool.or_true, Bool.false_or, Bool.true_or, Bool.and_true, Bool.true_and, true_and, and_true, Nat.reduceAdd, Nat.reduceLeDiff, Int.reduceLT, Int.reduceLE, Int.reduceNeg])
/-! ### powers, worths, spans, tight -/
theorem lo_eq {b : Int} {r : Rw} (hr : r.Ok b) : r.lo b = (((whole b r.fs * (b - 1) - r.m : Int) : Rat) / ((b - 1 : Int) : Rat)) * r.pw b ∧ r.hi b = (((whole b r.fs * (b - 1) + r.m : Int) : Rat) / ((b - 1 : Int) : Rat)) * r.pw b := by
  have c := hr.cp
  unfold Rw.lo Rw.hi Rw.worth Rw.tail
  rw [Rat.intCast_sub (whole b r.fs * (b - 1)) r.m, Rat.intCast_add (whole b r.fs * (b - 1)) r.m, Rat.intCast_mul]
  generalize ((b - 1 : Int) : Rat) = q at c ⊢
  generalize ((whole b r.fs : Int) : Rat) = w
  generalize (r.m : Rat) = m
  generalize r.pw b = p
  have hc : q ≠ 0 := by grind
  constructor <;> grind
theorem Rw.Ok.tight {b : Int} {r : Rw} (hr : r.Ok b) : Sz 840 (r.lo b) ∧ Sz 840 (r.hi b) := by
  obtain ⟨e1, e2⟩ := lo_eq hr
  have h1 := hr.whole
  have b0 := hr.b0; have b1 := hr.b1; have m0 := hr.m0; have m1 := hr.m1
  have wb : (Lb.whole b r.fs * (b - 1)).natAbs < 2 ^ 335 := by
    rw [Int.natAbs_mul]
    have := pow_bound (n := 331) (m := 4) h1 (show (b - 1).natAbs < 2 ^ 4 by omega +splitDisjunctions)
    exact this
  have c1 : (Lb.whole b r.fs * (b - 1) - r.m).natAbs < 2 ^ 336 := by
    have e : (2 : Nat) ^ 336 = 2 ^ 335 + 2 ^ 335 := by decide
    have e3 : 2000 < 2 ^ 335 := by decide
    generalize (2 : Nat) ^ 335 = z at *
    generalize (2 : Nat) ^ 336 = y at *
    omega
  have c2 : (Lb.whole b r.fs * (b - 1) + r.m).natAbs < 2 ^ 336 := by
    have e : (2 : Nat) ^ 336 = 2 ^ 335 + 2 ^ 335 := by decide
    have e3 : 2000 < 2 ^ 335 := by decide
    generalize (2 : Nat) ^ 335 = z at *
    generalize (2 : Nat) ^ 336 = y at *
    omega
  have d1 : (b - 1 : Int).natAbs < 2 ^ 336 := bound_mono (n := 4) (by omega +splitDisjunctions)
  rw [e1, e2]
  exact ⟨(sz_mul (sz_frac hr.cne c1 d1) hr.pw).mono (by decide), (sz_mul (sz_frac hr.cne c2 d1) hr.pw).mono (by decide)⟩
/-! ### draws, what stood stands -/
/-- drawn, what stood stands, something new beside -/
def Dk (S S' : Store) (p : Addr) (n : Nat) : Prop := BoxAt S' p n ∧ ∀ q m, q ≠ p → S q = some m → S' q = some m
theorem Drew.dk {S S' : Store} {p : Addr} {n : Nat} (h : Drew S S' p n) : Dk S S' p n := ⟨h.box, fun q m hq e => by rw [h.other hq]; exact e⟩
theorem Dk.trans {S S1 S2 : Store} {p : Addr} {n m : Nat} (h : Dk S S1 p n) (h2 : Dk S1 S2 p m) : Dk S S2 p m := ⟨h2.1, fun q x hq e => h2.2 q x hq (h.2 q x hq e)⟩
theorem Dk.mono {S S' : Store} {p : Addr} {n m : Nat} (h : Dk S S' p n) (hm : n ≤ m) : Dk S S' p m := ⟨h.1.mono hm, h.2⟩
theorem Dk.refl {S : Store} {p : Addr} {n : Nat} (h : BoxAt S p n) : Dk S S p n := ⟨h, fun _ _ _ e => e⟩
theorem Dk.new {S S1 : Store} {p q : Addr} {n : Nat} {m : MO} (h : Dk S S1 p n) (hq : S1 q = none) : Dk S (supd S1 q m) p n :=
  ⟨h.1.other (h.1.ne hq), fun r x hr e => by
    have := h.2 r x hr e
    rw [supd_ne fun z => by rw [z, hq] at this; cases this]
    exact this⟩
theorem Dk.put {S S1 : Store} {p q : Addr} {n : Nat} {m : MO} (h : Dk S S1 p n) (hp : p ≠ q) (hq : S q = none) : Dk S (supd S1 q m) p n :=
  ⟨h.1.other hp, fun r x hr e => by
    rw [supd_ne fun z => by rw [z, hq] at e; cases e]
    exact h.2 r x hr e⟩
theorem takeK {p : Addr} {n : Nat} {size : Int} {S0 S : Store} {P : D → Store → Prop} (hb : Dk S0 S p n) (h0 : 0 < size) (h1 : size ≤ 2 ^ 40) (hn : n ≤ 1000000000) (h : ∀ x S', 0 ≤ x → x < size → Dk S0 S' p (n + 1) → P (.int x) S') : sp_Ltake [.obj p, .int size] S P :=
  ⟨p, size, n, rfl, h0, h1, hb.1, hn, fun x S' a b d => h x S' a b (hb.trans d.dk)⟩
theorem ofK {p : Addr} {n : Nat} {ns : List Int} {S0 S : Store} {P : D → Store → Prop} (R : Int → Prop) (hb : Dk S0 S p n) (h0 : 0 < ns.length) (h1 : ns.length ≤ 100000) (hn : n ≤ 1000000000) (hr : ∀ z, z ∈ ns → R z) (h : ∀ z S', R z → Dk S0 S' p (n + 1) → P (.int z) S') : sp_Lof [.obj p, .lst (ns.map .int)] S P :=
  ⟨p, _, _, n, rfl, .inl rfl, by simpa using h0, by simpa using h1, hb.1, hn, fun x S' hx d => by
    obtain ⟨z, hz, rfl⟩ := List.mem_map.mp hx
    exact h z S' (hr z hz) (hb.trans d.dk)⟩
/-! ### bases, mosts, figures, rows -/
structure Small (b k : Int) (r : Rw) : Prop where
  e0 : -2 ≤ r.e
  e1 : r.e ≤ 3
  m0 : b ≤ 2 * r.m
  m1 : r.m ≤ 15
  l : (r.fs.length : Int) ≤ k
  f : ∀ f, f ∈ r.fs → -r.m ≤ f ∧ f ≤ r.m
theorem Small.ok {b k : Int} {r : Rw} (h : Small b k r) (b0 : 2 ≤ b) (b1 : b ≤ 16) (hk : k ≤ 60) : r.Ok b :=
  ⟨b0, b1, by have := h.e0; omega, by have := h.e1; omega, by have := h.m0; omega, by have := h.m1; omega, by have := h.l; omega, fun f hf => by have := h.f f hf; have := h.m1; omega⟩
/-! ### kinds by draws -/
def Kn.Dr : Kn → Prop
  | .sum ws v => 1 ≤ ws.length ∧ ws.length ≤ 3 ∧ (∀ w, w ∈ ws → w ≠ 0 ∧ w.natAbs ≤ 9) ∧ 1 ≤ v ∧ v ≤ 1000
  | .loose ws => 1 ≤ ws.length ∧ ws.length ≤ 3 ∧ ∀ w, w ∈ ws → w ≠ 0 ∧ w.natAbs ≤ 1
  | .moved e => e.natAbs ≤ 4
  | .told q => Sz 10 q
  | .over k => 0 ≤ k ∧ k ≤ 3
  | _ => True
theorem Kn.Dr.ok {kn : Kn} (h : kn.Dr) : kn.Ok := by
  cases kn with
  | sum ws v => exact ⟨by have := h.2.1; omega, fun w hw => by have := (h.2.2.1 w hw).2; omega, h.2.2.2.1, h.2.2.2.2⟩
  | loose ws => exact ⟨by have := h.2.1; omega, fun w hw => by have := (h.2.2 w hw).2; omega⟩
  | moved e => exact Nat.le_trans h (by decide)
  | told q => exact Sz.mono (show Sz 10 q from h) (by decide)
  | over k =>
    have h1 : 0 ≤ k ∧ k ≤ 3 := h
    show k.natAbs ≤ 20
    omega
  | _ => trivial
theorem Kn.Dr.many {kn : Kn} (h : kn.Dr) : kn.many ≤ 3 := by
  cases kn with
  | sum ws v => exact h.2.1
  | loose ws => exact h.2.1
  | _ => simp [Kn.many]
theorem up_spans {b : Int} {rs : List Rw} (h : ∀ r, r ∈ rs → r.Ok b) : Up (rs.map (spanQ b)) := fun s hs => by
  obtain ⟨r, hr, rfl⟩ := List.mem_map.mp hs
  exact lo_le_hi (h r hr)
theorem ch_sz {z : Nat} : ∀ {ss : List (Rat × Rat)}, (∀ s, s ∈ ss → Sz z s.1 ∧ Sz z s.2) → ∀ (xs : List Rat), Ch ss xs → ∀ x, x ∈ xs → Sz z x
  | [], _, [], _, x, hx => by cases hx
  | [], _, _ :: _, h, _, _ => h.elim
  | _ :: _, _, [], h, _, _ => h.elim
  | s :: ss, hs, y :: ys, h, x, hx => by
    rcases List.mem_cons.mp hx with rfl | hx
    · rcases h.1 with e | e
      · rw [e]; exact (hs s (by simp)).1
      · rw [e]; exact (hs s (by simp)).2
    · exact ch_sz (fun t ht => hs t (by simp [ht])) ys h.2 x hx
/-! ### rows with figures behind -/
def Rw.app (r : Rw) (gs : List Int) : Rw := ⟨r.e, r.m, r.fs ++ gs⟩
theorem Rw.app_nil (r : Rw) : r.app [] = r := by unfold Rw.app; simp
theorem Rw.app_cons (r : Rw) (g : Int) (gs : List Int) : r.app (g :: gs) = (r.snoc g).app gs := by unfold Rw.app Rw.snoc; simp
theorem app_in {b : Int} (b0 : 2 ≤ b) : ∀ (gs : List Int) (r : Rw), (∀ g, g ∈ gs → -r.m ≤ g ∧ g ≤ r.m) → r.lo b ≤ (r.app gs).lo b ∧ (r.app gs).hi b ≤ r.hi b
  | [], r, _ => by rw [Rw.app_nil]; exact ⟨Rat.le_refl, Rat.le_refl⟩
  | g :: gs, r, h => by
    rw [Rw.app_cons]
    have h1 := snoc_in' (r := r) b0 (h g (by simp)).1 (h g (by simp)).2
    have h2 := app_in b0 gs (r.snoc g) fun z hz => h z (by simp [hz])
    exact ⟨Rat.le_trans h1.1 h2.1, Rat.le_trans h2.2 h1.2⟩
theorem Small.app {b k : Int} {r : Rw} {gs : List Int} (h : Small b k r) (hg : ∀ g, g ∈ gs → -r.m ≤ g ∧ g ≤ r.m) {j : Int} (hj : (gs.length : Int) ≤ j) : Small b (k + j) (r.app gs) :=
  ⟨h.e0, h.e1, h.m0, h.m1, by have := h.l; show ((r.fs ++ gs).length : Int) ≤ _; rw [List.length_append]; omega, fun f hf => by
    rcases List.mem_append.mp hf with hf | hf
    · exact h.f f hf
    · exact hg f hf⟩
theorem Small.mono {b k j : Int} {r : Rw} (h : Small b k r) (hj : k ≤ j) : Small b j r := ⟨h.e0, h.e1, h.m0, h.m1, by have := h.l; omega, h.f⟩
/-! ### spans within spans -/
def Sub : List (Rat × Rat) → List (Rat × Rat) → Prop
  | [], [] => True
  | t :: ts, s :: ss => (s.1 ≤ t.1 ∧ t.2 ≤ s.2) ∧ Sub ts ss
  | _, _ => False
theorem Sub.refl : ∀ ss, Sub ss ss
  | [] => trivial
  | _ :: ss => ⟨⟨Rat.le_refl, Rat.le_refl⟩, Sub.refl ss⟩
theorem Sub.len : ∀ {ts ss}, Sub ts ss → ts.length = ss.length
  | [], [], _ => rfl
  | [], _ :: _, h => h.elim
  | _ :: _, [], h => h.elim
  | _ :: ts, _ :: ss, h => by have := Sub.len h.2; simp [this]
theorem Sub.ins : ∀ {ts ss xs}, Sub ts ss → Ins ts xs → Ins ss xs
  | [], [], [], _, _ => trivial
  | [], [], _ :: _, _, h => h.elim
  | [], _ :: _, _, h, _ => h.elim
  | _ :: _, [], _, h, _ => h.elim
  | _ :: _, _ :: _, [], _, h => h.elim
  | _ :: ts, _ :: ss, x :: xs, h, g => ⟨⟨Rat.le_trans h.1.1 g.1.1, Rat.le_trans g.1.2 h.1.2⟩, Sub.ins h.2 g.2⟩
def reachQ (b : Int) (kn : Kn) (ss : List (Rat × Rat)) : Rat × Rat := (minL (kn.vals b ss), maxL (kn.vals b ss))
theorem pk {s : Rat × Rat} {e : Int} : (if e = 0 then s.1 else s.2) = s.1 ∨ (if e = 0 then s.1 else s.2) = s.2 := by
  split
  · exact .inl rfl
  · exact .inr rfl
theorem some_ch : ∀ ss : List (Rat × Rat), ∃ xs, Ch ss xs
  | [] => ⟨[], trivial⟩
  | s :: ss => by
    obtain ⟨xs, h⟩ := some_ch ss
    exact ⟨s.1 :: xs, .inl rfl, h⟩
theorem reach_ends (b : Int) (kn : Kn) (ss : List (Rat × Rat)) : (∃ c, Ch ss c ∧ (reachQ b kn ss).1 = kn.app b c) ∧ ∃ c, Ch ss c ∧ (reachQ b kn ss).2 = kn.app b c := by
  have hv : kn.vals b ss ≠ [] := by
    obtain ⟨xs, hx⟩ := some_ch ss
    exact List.ne_nil_of_mem (mem_vals.mpr ⟨xs, hx, rfl⟩)
  exact ⟨mem_vals.mp (minL_is hv).1, mem_vals.mp (maxL_is hv).1⟩
theorem reach_sub {b : Int} {kn : Kn} {ts ss : List (Rat × Rat)} (b0 : 2 ≤ b) (hk : kn.Ok) (hl : ss.length = kn.many) (hu : Up ss) (ht : Up ts) (h : Sub ts ss) : (reachQ b kn ss).1 ≤ (reachQ b kn ts).1 ∧ (reachQ b kn ts).2 ≤ (reachQ b kn ss).2 := by
  obtain ⟨⟨c1, h1, e1⟩, c2, h2, e2⟩ := reach_ends b kn ts
  rw [e1, e2]
  exact ⟨(vals_within b0 hk hl (h.ins (ch_ins ht h1)) hu).1, (vals_within b0 hk hl (h.ins (ch_ins ht h2)) hu).2⟩
/-- rows, each with figures behind, by the ways of a corner -/
structure Beh (j : Int) (q : Int × Rw) (y : D) (gs : List Int) : Prop where
  e : y = (q.2.app gs).d
  l : gs.length = 5
  f : ∀ g, g ∈ gs → -q.2.m ≤ g ∧ g ≤ q.2.m
  lo : j / q.1 % 2 = 0 → ∀ g, g ∈ gs → g = -q.2.m
  hi : j / q.1 % 2 = 1 → ∀ g, g ∈ gs → g = q.2.m
/-! ### whole numbers in a stretch -/
def ivl (a : Int) (n : Nat) : List Int := (List.range n).map fun (i : Nat) => a + (i : Int)
theorem ivl_zero (a : Int) : ivl a 0 = [] := rfl
theorem ivl_succ (a : Int) (n : Nat) : ivl a (n + 1) = a :: ivl (a + 1) n := by
  unfold ivl
  rw [List.range_succ_eq_map, List.map_cons, List.map_map]
  congr 1
  · simp
  · refine List.map_congr_left fun i _ => ?_
    show a + ((i + 1 : Nat) : Int) = a + 1 + (i : Int)
    omega
theorem ivl_filter {L H : Int} {c : Int → Bool} (hc : ∀ d, c d = decide (L ≤ d ∧ d ≤ H)) : ∀ (n : Nat) (a lo : Int) (k : Nat), lo = (if L ≤ a then a else L) → k = ((if H < a + (n : Int) - 1 then H else a + (n : Int) - 1) + 1 - lo).toNat → (ivl a n).filter c = ivl lo k
  | 0, a, lo, k, h1, h2 => by
    have : k = 0 := by
      subst h1
      split at h2 <;> split at h2 <;> omega
    subst this
    simp [ivl_zero]
  | n + 1, a, lo, k, h1, h2 => by
    rw [ivl_succ, List.filter_cons, hc]
    by_cases h : L ≤ a ∧ a ≤ H
    · have e : lo = a := by rw [h1, if_pos h.1]
      subst e
      obtain ⟨k', hk⟩ : ∃ k', k = k' + 1 := ⟨k - 1, by
        have : 1 ≤ k := by
          rw [h2]
          split <;> omega
        omega⟩
      simp only [h, decide_true, reduceIte, and_self]
      rw [hk, ivl_succ, ivl_filter hc n (lo + 1) (lo + 1) k' (by rw [if_pos (by omega)]) (by
        have : ((k' + 1 : Nat) : Int) = ((if H < lo + ((n + 1 : Nat) : Int) - 1 then H else lo + ((n + 1 : Nat) : Int) - 1) + 1 - lo).toNat := by rw [← hk, h2]
        split at this <;> split <;> omega)]
    · simp only [h, decide_false, Bool.false_eq_true, reduceIte]
      by_cases hL : L ≤ a
      · have hH : H < a := by omega
        have k0 : k = 0 := by
          rw [h2, h1, if_pos hL]
          split <;> omega
        rw [ivl_filter hc n (a + 1) (a + 1) 0 (by rw [if_pos (by omega)]) (by split <;> omega), k0]
        rfl
      · have e : lo = L := by rw [h1, if_neg hL]
        refine ivl_filter hc n (a + 1) lo k ?_ ?_
        · split <;> omega
        · rw [h2]
          congr 1
          split <;> split <;> omega
/-! ### a number's floor and ceiling -/
theorem int_le_rat {d : Int} {q : Rat} : (d : Rat) ≤ q ↔ d * (q.den : Int) ≤ q.num := by
  rw [Rat.le_iff]
  show d * (q.den : Int) ≤ q.num * ((1 : Nat) : Int) ↔ _
  simp
theorem rat_le_int {d : Int} {q : Rat} : q ≤ (d : Rat) ↔ q.num ≤ d * (q.den : Int) := by
  rw [Rat.le_iff]
  show q.num * ((1 : Nat) : Int) ≤ d * (q.den : Int) ↔ _
  simp
theorem den_pos (q : Rat) : (0 : Int) < (q.den : Int) := by have := q.den_pos; omega
theorem floor_le {d : Int} {q : Rat} : d ≤ q.num.fdiv (q.den : Int) ↔ (d : Rat) ≤ q := by
  rw [int_le_rat, Int.fdiv_eq_ediv_of_nonneg _ (Int.le_of_lt (den_pos q))]
  exact Int.le_ediv_iff_mul_le (den_pos q)
theorem le_ceil {d : Int} {q : Rat} : -((-q.num).fdiv (q.den : Int)) ≤ d ↔ q ≤ (d : Rat) := by
  rw [rat_le_int, Int.fdiv_eq_ediv_of_nonneg _ (Int.le_of_lt (den_pos q))]
  have := Int.le_ediv_iff_mul_le (den_pos q) (a := -d) (b := -q.num)
  rw [Int.neg_mul] at this
  omega
/-! ### the right figures -/
def figOk (b : Int) (r : Rw) (q : Rat × Rat) (d : Int) : Bool := decide ((r.snoc d).lo b ≤ q.1 ∧ q.2 ≤ (r.snoc d).hi b)
def figsR (b : Int) (r : Rw) (q : Rat × Rat) : List Int := (ivl (-r.m) (2 * r.m + 1).toNat).filter (figOk b r q)
structure Own (b : Int) (r : Rw) : Prop where
  e0 : 0 ≤ r.e
  e1 : r.e ≤ 10
  m0 : b ≤ 2 * r.m
  m1 : r.m ≤ 15
  l : r.fs.length ≤ 11
  k : (r.fs.length : Int) - r.e ≤ 8
  f : ∀ f, f ∈ r.fs → -r.m ≤ f ∧ f ≤ r.m
theorem Own.ok {b : Int} {r : Rw} (h : Own b r) (b0 : 2 ≤ b) (b1 : b ≤ 10) : r.Ok b :=
  ⟨b0, by omega, by have := h.e0; omega, by have := h.e1; omega, by have := h.m0; omega, by have := h.m1; omega, by have := h.l; omega, fun f hf => by have := h.f f hf; have := h.m1; omega⟩
def Mg (q : Rat) : Prop := ((-268435456 : Int) : Rat) ≤ q ∧ q ≤ ((268435456 : Int) : Rat)
theorem zpow_le9 {b k : Int} (b0 : 2 ≤ b) (b1 : b ≤ 10) (hk : k ≤ 9) : (b : Rat) ^ k ≤ ((1000000000 : Int) : Rat) := by
  have bp : (0 : Rat) < (b : Rat) := ratpos (by omega)
  obtain ⟨n, hn⟩ : ∃ n : Nat, 9 - k = n := ⟨(9 - k).toNat, by omega⟩
  have e : (b : Rat) ^ k * (b : Rat) ^ (9 - k) = (b : Rat) ^ (9 : Int) := by
    rw [← Rat.zpow_add (by grind)]
    congr 1; omega
  have p1 : (1 : Rat) ≤ (b : Rat) ^ (9 - k) := by
    rw [hn, Rat.zpow_natCast, ← Rat.intCast_pow]
    have : (1 : Int) ≤ b ^ n := Int.pow_pos (by omega)
    exact_mod_cast this
  have p2 : (b : Rat) ^ (9 : Int) ≤ ((1000000000 : Int) : Rat) := by
    have e9 : (b : Rat) ^ (9 : Int) = ((b ^ 9 : Int) : Rat) := by
      rw [Rat.intCast_pow]
      exact Rat.zpow_natCast (q := (b : Rat)) (n := 9)
    rw [e9]
    have hb : b = 2 ∨ b = 3 ∨ b = 4 ∨ b = 5 ∨ b = 6 ∨ b = 7 ∨ b = 8 ∨ b = 9 ∨ b = 10 := by omega
    have : b ^ 9 ≤ 1000000000 := by
      rcases hb with rfl | rfl | rfl | rfl | rfl | rfl | rfl | rfl | rfl <;> decide
    exact Rat.intCast_le_intCast.mpr this
  have p0 := Rat.zpow_pos (n := k) bp
  have := Rat.mul_le_mul_of_nonneg_left p1 (Rat.le_of_lt p0)
  grind
/-- the bounds of the right figures -/
theorem fig_bounds {b : Int} {r : Rw} {q : Rat × Rat} (h : r.Ok b) {s : Rat} (hs : s = (b : Rat) ^ ((r.fs.length : Int) - r.e + 1)) (d : Int) :
    figOk b r q d = decide (-((-((q.2 - r.worth b) * s - (r.m : Rat) / ((b - 1 : Int) : Rat)).num).fdiv (((q.2 - r.worth b) * s - (r.m : Rat) / ((b - 1 : Int) : Rat)).den : Int)) ≤ d ∧
      d ≤ ((q.1 - r.worth b) * s + (r.m : Rat) / ((b - 1 : Int) : Rat)).num.fdiv (((q.1 - r.worth b) * s + (r.m : Rat) / ((b - 1 : Int) : Rat)).den : Int)) := by
  unfold figOk
  rw [Rw.snoc_lo h.b0, Rw.snoc_hi h.b0]
  refine decide_eq_decide.mpr ?_
  rw [le_ceil, floor_le]
  have n0 := h.nxp
  have s0 : 0 < s := by rw [hs]; exact Rat.zpow_pos h.bp
  have ns : r.nx b * s = 1 := by
    rw [hs]
    unfold Rw.nx
    have hb := h.bp
    rw [← Rat.zpow_add (by grind), show r.e - (r.fs.length : Int) - 1 + ((r.fs.length : Int) - r.e + 1) = 0 by omega, Rat.zpow_zero]
  generalize r.nx b = n at *
  generalize r.worth b = w
  generalize (r.m : Rat) / ((b - 1 : Int) : Rat) = c
  generalize (d : Rat) = x
  have k1 : ∀ {y z : Rat}, y ≤ z ↔ y * s ≤ z * s := fun {y z} => ⟨fun h => Rat.mul_le_mul_of_nonneg_right h (Rat.le_of_lt s0), fun h => by
    have := Rat.mul_le_mul_of_nonneg_right h (Rat.le_of_lt n0)
    have e1 : y * s * n = y := by grind
    have e2 : z * s * n = z := by grind
    rwa [e1, e2] at this⟩
  have a1 : (w + x * n - c * n) * s = w * s + x - c := by grind
  have a2 : (w + x * n + c * n) * s = w * s + x + c := by grind
  rw [k1 (y := w + x * n - c * n), k1 (z := w + x * n + c * n), a1, a2]
  constructor
  · rintro ⟨h1, h2⟩; constructor <;> grind
  · rintro ⟨h1, h2⟩; constructor <;> grind
/-- they are not great -/
theorem fig_small {b : Int} {r : Rw} {v : Rat} (b0 : 2 ≤ b) (b1 : b ≤ 10) (h : Own b r) (hv : Mg v) {s : Rat} (hs : s = (b : Rat) ^ ((r.fs.length : Int) - r.e + 1)) :
    ((-(2 ^ 60) : Int) : Rat) ≤ (v - r.worth b) * s - 15 ∧ (v - r.worth b) * s + 15 ≤ ((2 ^ 60 : Int) : Rat) := by
  have ok := h.ok b0 b1
  have s0 : 0 < s := by rw [hs]; exact Rat.zpow_pos ok.bp
  have s9 : s ≤ ((1000000000 : Int) : Rat) := by rw [hs]; exact zpow_le9 b0 b1 (by have := h.k; omega)
  have ws : r.worth b * s = ((whole b r.fs * b : Int) : Rat) := by
    unfold Rw.worth Rw.pw
    rw [hs, Rat.mul_assoc, ← Rat.zpow_add (by have := ok.bp; grind), show r.e - (r.fs.length : Int) + ((r.fs.length : Int) - r.e + 1) = 1 by omega, Rat.zpow_one, Rat.intCast_mul]
  have wb : (whole b r.fs).natAbs ≤ 1000 * 16 ^ 11 := by
    have h1 := fold_bound ok.b0 ok.b1 r.fs 0 ok.f
    have h2 : (16 : Nat) ^ r.fs.length ≤ 16 ^ 11 := Nat.pow_le_pow_right (by decide) h.l
    unfold Lb.whole
    simp only [Int.natAbs_zero, Nat.zero_add] at h1
    have h4 := Nat.mul_le_mul_left 1000 h2
    omega
  have wb2 : (whole b r.fs * b).natAbs ≤ 1000 * 16 ^ 11 * 10 := by
    rw [Int.natAbs_mul]
    exact Nat.mul_le_mul wb (by omega)
  obtain ⟨w, hw⟩ : ∃ w, w = whole b r.fs * b := ⟨_, rfl⟩
  rw [← hw] at ws wb2
  have p1 := Rat.mul_le_mul_of_nonneg_right hv.1 (Rat.le_of_lt s0)
  have p2 := Rat.mul_le_mul_of_nonneg_right hv.2 (Rat.le_of_lt s0)
  have p3 : ((268435456 : Int) : Rat) * s ≤ ((268435456 : Int) : Rat) * ((1000000000 : Int) : Rat) := Rat.mul_le_mul_of_nonneg_left s9 (by decide)
  have e1 : ((268435456 : Int) : Rat) * ((1000000000 : Int) : Rat) = ((268435456000000000 : Int) : Rat) := by rw [← Rat.intCast_mul]; exact congrArg _ (by decide)
  have e2 : ((-268435456 : Int) : Rat) * s = -(((268435456 : Int) : Rat) * s) := by
    have : ((-268435456 : Int) : Rat) = -((268435456 : Int) : Rat) := rfl
    rw [this]; grind
  have d1 : ((-(2 ^ 60) : Int) : Rat) ≤ ((-268435456000000000 - w - 15 : Int) : Rat) := Rat.intCast_le_intCast.mpr (by omega +splitDisjunctions)
  have d2 : ((268435456000000000 - w + 15 : Int) : Rat) ≤ ((2 ^ 60 : Int) : Rat) := Rat.intCast_le_intCast.mpr (by omega +splitDisjunctions)
  rw [Rat.intCast_sub, Rat.intCast_sub] at d1
  rw [Rat.intCast_add, Rat.intCast_sub] at d2
  have e3 : ((-268435456000000000 : Int) : Rat) = -((268435456000000000 : Int) : Rat) := rfl
  have e4 : ((15 : Int) : Rat) = 15 := rfl
  have e5 : (v - r.worth b) * s = v * s - (w : Rat) := by rw [← ws]; grind
  rw [e5]
  constructor <;> grind
/-! ### promises -/
def sp_raised : DSp := fun ds S P => ∃ q : Rat, ds = [encR q] ∧ Sz 8000 q ∧ P (.int (-((-q.num).fdiv (q.den : Int)))) S
def sp_figures_between : DSp := fun ds S P => ∃ (b : Int) (r : Rw) (q : Rat × Rat), ds = [.int b, r.d, encR q.1, encR q.2] ∧ 2 ≤ b ∧ b ≤ 10 ∧ Own b r ∧ Sz 2900 q.1 ∧ Sz 2900 q.2 ∧ Mg q.1 ∧ Mg q.2 ∧ ∀ l, S l = none → P (.obj l) (supd S l (.lst ((figsR b r q).map .int)))
def rd_raised : DS :=
  (dRet (dUn dNeg (dOp dFdiv (dUn dNeg (dOp dIx (dVar 0) (dC (.int 0)))) (dOp dIx (dVar 0) (dC (.int 1))))))
def goal_raised : Prop := ∀ (x0 : D) (S : Store) (P : D → Store → Prop), sp_raised [x0] S P → rd_raised (dEnd P) [some x0] S
def rd_figures_between : DS :=
  (dSeq (dAsg (.tp [(.nm 4), (.nm 5), (.nm 6)]) (dVar 1))
  (dSeq (dSet 7 (dCB sp_power (dCons (dVar 0) (dCons (dOp dAdd (dCB sp_known_to (dCons (dVar 1) dNil)) (dC (.int 1))) dNil))))
  (dSeq (dPar 8 9 (dCons (dCB sp_frac (dCons (dVar 5) (dCons (dOp dSub (dVar 0) (dC (.int 1))) dNil))) (dCons (dCB sp_worth_of (dCons (dVar 0) (dCons (dVar 1) dNil))) dNil)))
  (dSeq (dSet 10 (dCB sp_raised (dCons (dCB sp_minus (dCons (dCB sp_times (dCons (dCB sp_minus (dCons (dVar 3) (dCons (dVar 9) dNil))) (dCons (dVar 7) dNil))) (dCons (dVar 8) dNil))) dNil)))
  (dSeq (dSet 11 (dCB sp_plus (dCons (dCB sp_times (dCons (dCB sp_minus (dCons (dVar 2) (dCons (dVar 9) dNil))) (dCons (dVar 7) dNil))) (dCons (dVar 8) dNil))))
  (dRet (dLstR2M (dCB cMax2 (dCons (dVar 10) (dCons (dUn dNeg (dVar 5)) dNil))) (dOp dAdd (dCB cMin2 (dCons (dOp dFdiv (dOp dIx (dVar 11) (dC (.int 0))) (dOp dIx (dVar 11) (dC (.int 1)))) (dCons (dVar 5) dNil))) (dC (.int 1))))))))))
def goal_figures_between : Prop := ∀ (x0 x1 x2 x3 : D) (S : Store) (P : D → Store → Prop), sp_figures_between [x0, x1, x2, x3] S P → rd_figures_between (dEnd P) [some x0, some x1, some x2, some x3, none, none, none, none, none, none, none, none] S
theorem len_raised : ∀ ds S P, sp_raised ds S P → ds.length = 1 := by
  rintro ds S P ⟨a, rfl, _⟩; rfl
theorem len_figures_between : ∀ ds S P, sp_figures_between ds S P → ds.length = 4 := by
  rintro ds S P ⟨a, b, c, rfl, _⟩; rfl
theorem sz_divB {n : Nat} {q : Rat} (h : Sz n q) (hn : n ≤ 8999) : DivB (q.den : Int) := divB (n := n) (by have := den_pos q; omega) (by rw [Int.natAbs_natCast]; exact h.2) hn
theorem vc_raised : goal_raised := by
  rintro x0 S P ⟨q, e, hq, h⟩
  cases e
  unfold rd_raised
  unfold encR
  walk_at "dg3"
  exact ⟨sz_divB hq (by decide), h⟩
theorem vc_figures_between : goal_figures_between := by
  rintro x0 x1 x2 x3 S P ⟨b, r, q, e, b0, b1, hr, s1, s2, m1, m2, h⟩
  cases e
  unfold rd_figures_between
  have ok := hr.ok b0 b1
  have e0 := hr.e0; have e1 := hr.e1; have m0 := hr.m0; have mm := hr.m1; have ll := hr.l; have lk := hr.k
  obtain ⟨s, hs⟩ : ∃ s, s = (b : Rat) ^ ((r.fs.length : Int) - r.e + 1) := ⟨_, rfl⟩
  have ss : Sz 60 s := by rw [hs]; exact (sz_zpow (k := (r.fs.length : Int) - r.e + 1) (by omega) (by omega)).mono (by omega)
  have cs : Sz 11 ((r.m : Rat) / ((b - 1 : Int) : Rat)) := ok.fr
  have v1 := sz_mul (sz_sub s1 ok.worth) ss
  have v2 := sz_mul (sz_sub s2 ok.worth) ss
  walk_at "dg3"
  refine ⟨r, rfl, ?_⟩
  walk_at "dg3"
  refine ⟨b, _, rfl, by omega, by omega, by omega, ?_⟩
  rw [← hs]
  refine ⟨r.m, b - 1, rfl, by omega, bound_mono (n := 4) (by omega), bound_mono (n := 4) (by omega), ?_⟩
  refine ⟨b, r, rfl, ok, ?_⟩
  refine ⟨_, _, rfl, s2.mono (by decide), ok.worth.mono (by decide), ?_⟩
  refine ⟨_, _, rfl, (sz_sub s2 ok.worth).mono (by decide), ss.mono (by decide), ?_⟩
  refine ⟨_, _, rfl, v2.mono (by decide), cs.mono (by decide), ?_⟩
  refine ⟨_, rfl, (sz_sub v2 cs).mono (by decide), ?_⟩
  refine ⟨_, _, rfl, s1.mono (by decide), ok.worth.mono (by decide), ?_⟩
  refine ⟨_, _, rfl, (sz_sub s1 ok.worth).mono (by decide), ss.mono (by decide), ?_⟩
  refine ⟨_, _, rfl, v1.mono (by decide), cs.mono (by decide), ?_⟩
  have fb := fig_bounds (q := q) ok hs
  have g1 := fig_small b0 b1 hr m1 hs
  have g2 := fig_small b0 b1 hr m2 hs
  have sz1 := sz_add v1 cs
  have c0 : (0 : Rat) ≤ (r.m : Rat) / ((b - 1 : Int) : Rat) ∧ (r.m : Rat) / ((b - 1 : Int) : Rat) ≤ 15 := by
    have l0 := half_le (b := b) (r := r) b0 (by omega)
    have cp := ok.cp
    have c1 : ((1 : Int) : Rat) ≤ ((b - 1 : Int) : Rat) := Rat.intCast_le_intCast.mpr (by omega)
    have m15 : (r.m : Rat) ≤ ((15 : Int) : Rat) := Rat.intCast_le_intCast.mpr mm
    have e : (r.m : Rat) / ((b - 1 : Int) : Rat) * ((b - 1 : Int) : Rat) = (r.m : Rat) := by
      generalize ((b - 1 : Int) : Rat) = y at *
      rw [Rat.div_def, Rat.mul_assoc, Rat.inv_mul_cancel _ (by grind), Rat.mul_one]
    generalize (r.m : Rat) / ((b - 1 : Int) : Rat) = c at *
    have := Rat.mul_le_mul_of_nonneg_left c1 (c := c) (by grind)
    have o1 : ((1 : Int) : Rat) = 1 := rfl
    have o2 : ((15 : Int) : Rat) = 15 := rfl
    exact ⟨by grind, by grind⟩
  generalize (r.m : Rat) / ((b - 1 : Int) : Rat) = c at *
  generalize (q.2 - r.worth b) * s = X at *
  generalize (q.1 - r.worth b) * s = Y at *
  obtain ⟨C, hC⟩ : ∃ C, C = -((-(X - c).num).fdiv ((X - c).den : Int)) := ⟨_, rfl⟩
  obtain ⟨F, hF⟩ : ∃ F, F = (Y + c).num.fdiv ((Y + c).den : Int) := ⟨_, rfl⟩
  have C1 : C ≤ 2 ^ 60 := by rw [hC]; exact le_ceil.mpr (by grind)
  have C0 : -(2 ^ 60) ≤ C := by
    refine Int.not_lt.mp fun h => ?_
    have h2 : C ≤ -(2 ^ 60) - 1 := by omega +splitDisjunctions
    rw [hC, le_ceil, Rat.intCast_sub] at h2
    have : ((1 : Int) : Rat) = 1 := rfl
    grind
  have F0 : -(2 ^ 60) ≤ F := by rw [hF]; exact floor_le.mpr (by grind)
  have F1 : F ≤ 2 ^ 60 := by
    refine Int.not_lt.mp fun h => ?_
    have h2 : 2 ^ 60 + 1 ≤ F := by omega +splitDisjunctions
    rw [hF, floor_le, Rat.intCast_add] at h2
    have : ((1 : Int) : Rat) = 1 := rfl
    grind
  rw [← hC, ← hF] at fb
  unfold dLstR2M
  walk_at "dg3"
  rw [← hC, ← hF]
  refine ⟨sz_divB sz1 (by decide), by unfold RgOk; split <;> split <;> omega, fun l hl => ?_⟩
  have hh := h l hl
  have ef : figsR b r q = ivl (if -r.m > C then -r.m else C) ((if r.m < F then r.m else F) + 1 - if -r.m > C then -r.m else C).toNat := by
    unfold figsR
    refine ivl_filter fb _ _ _ _ ?_ ?_
    · split <;> split <;> omega
    · congr 1
      have : -r.m + ((2 * r.m + 1).toNat : Int) - 1 = r.m := by omega
      rw [this]
      congr 2
      split <;> split <;> omega
  have er : ∀ a n, rng a n = (ivl a n).map D.int := fun a n => by unfold rng ivl; rw [List.map_map]; rfl
  rw [er, ← ef]
  exact hh
/-! ### what is drawn is not great -/
theorem zpow_le {b k : Int} (n : Nat) (b0 : 2 ≤ b) (b1 : b ≤ 10) (hk : k ≤ n) : (b : Rat) ^ k ≤ ((10 ^ n : Int) : Rat) := by
  have bp : (0 : Rat) < (b : Rat) := ratpos (by omega)
  obtain ⟨m, hm⟩ : ∃ m : Nat, (n : Int) - k = m := ⟨((n : Int) - k).toNat, by omega⟩
  have e : (b : Rat) ^ k * (b : Rat) ^ ((n : Int) - k) = (b : Rat) ^ (n : Int) := by
    rw [← Rat.zpow_add (by grind)]
    congr 1; omega
  have p1 : (1 : Rat) ≤ (b : Rat) ^ ((n : Int) - k) := by
    rw [hm, Rat.zpow_natCast, ← Rat.intCast_pow]
    have : (1 : Int) ≤ b ^ m := Int.pow_pos (by omega)
    exact_mod_cast this
  have p2 : (b : Rat) ^ (n : Int) ≤ ((10 ^ n : Int) : Rat) := by
    have e9 : (b : Rat) ^ (n : Int) = ((b ^ n : Int) : Rat) := by
      rw [Rat.intCast_pow]
      exact Rat.zpow_natCast (q := (b : Rat)) (n := n)
    rw [e9]
    have key : ∀ n : Nat, b ^ n ≤ 10 ^ n := fun n => by
      induction n with
      | zero => simp
      | succ n ih =>
        rw [Int.pow_succ, Int.pow_succ]
        exact Int.mul_le_mul ih b1 (by omega) (Int.le_of_lt (Int.pow_pos (by decide)))
    exact Rat.intCast_le_intCast.mpr (key n)
  have p0 := Rat.zpow_pos (n := k) bp
  have := Rat.mul_le_mul_of_nonneg_left p1 (Rat.le_of_lt p0)
  grind
def Bd (A q : Rat) : Prop := -A ≤ q ∧ q ≤ A
theorem Bd.mul {A B x y : Rat} (h1 : Bd A x) (h2 : Bd B y) : Bd (A * B) (x * y) := by
  have a1 := Rat.mul_nonneg (show 0 ≤ A - x by have := h1.2; grind) (show 0 ≤ B + y by have := h2.1; grind)
  have a2 := Rat.mul_nonneg (show 0 ≤ A + x by have := h1.1; grind) (show 0 ≤ B - y by have := h2.2; grind)
  have a3 := Rat.mul_nonneg (show 0 ≤ A - x by have := h1.2; grind) (show 0 ≤ B - y by have := h2.2; grind)
  have a4 := Rat.mul_nonneg (show 0 ≤ A + x by have := h1.1; grind) (show 0 ≤ B + y by have := h2.1; grind)
  exact ⟨by grind, by grind⟩
theorem Bd.mono {A B x : Rat} (h : Bd A x) (hB : A ≤ B) : Bd B x := ⟨by have := h.1; grind, by have := h.2; grind⟩
theorem Bd.add {A B x y : Rat} (h1 : Bd A x) (h2 : Bd B y) : Bd (A + B) (x + y) := ⟨by have := h1.1; have := h2.1; grind, by have := h1.2; have := h2.2; grind⟩
theorem Bd.mg {q : Rat} {A : Rat} (h : Bd A q) (hA : A ≤ ((268435456 : Int) : Rat)) : Mg q := by
  have e : ((-268435456 : Int) : Rat) = -((268435456 : Int) : Rat) := rfl
  unfold Mg
  rw [e]
  exact (h.mono hA)
theorem bd_frac {m b : Int} (h0 : 0 ≤ m) (h1 : m ≤ 15) (b0 : 2 ≤ b) : (0 : Rat) ≤ (m : Rat) / ((b - 1 : Int) : Rat) ∧ (m : Rat) / ((b - 1 : Int) : Rat) ≤ 15 := by
  have cp : (0 : Rat) < ((b - 1 : Int) : Rat) := ratpos (by omega)
  have c1 : ((1 : Int) : Rat) ≤ ((b - 1 : Int) : Rat) := Rat.intCast_le_intCast.mpr (by omega)
  have m0 : ((0 : Int) : Rat) ≤ (m : Rat) := Rat.intCast_le_intCast.mpr h0
  have m15 : (m : Rat) ≤ ((15 : Int) : Rat) := Rat.intCast_le_intCast.mpr h1
  have ip : (0 : Rat) < ((b - 1 : Int) : Rat)⁻¹ := Rat.inv_pos.mpr cp
  have e : (m : Rat) / ((b - 1 : Int) : Rat) * ((b - 1 : Int) : Rat) = (m : Rat) := by
    generalize ((b - 1 : Int) : Rat) = y at *
    rw [Rat.div_def, Rat.mul_assoc, Rat.inv_mul_cancel _ (by grind), Rat.mul_one]
  have c0 : (0 : Rat) ≤ (m : Rat) / ((b - 1 : Int) : Rat) := by
    rw [Rat.div_def]
    exact Rat.mul_nonneg m0 (Rat.le_of_lt ip)
  generalize (m : Rat) / ((b - 1 : Int) : Rat) = c at *
  have := Rat.mul_le_mul_of_nonneg_left c1 c0
  have o1 : ((1 : Int) : Rat) = 1 := rfl
  have o2 : ((15 : Int) : Rat) = 15 := rfl
  exact ⟨by grind, by grind⟩
theorem Small.bd {b k : Int} {r : Rw} (h : Small b k r) (b0 : 2 ≤ b) (b1 : b ≤ 10) (hk : k ≤ 60) : Bd ((15000 : Int) : Rat) (r.lo b) ∧ Bd ((15000 : Int) : Rat) (r.hi b) := by
  have ok := h.ok b0 (by omega) hk
  have hin := app_in b0 r.fs ⟨r.e, r.m, []⟩ h.f
  have er : (⟨r.e, r.m, []⟩ : Rw).app r.fs = r := by unfold Rw.app; simp
  rw [er] at hin
  have lh := lo_le_hi ok
  have m0 := h.m0
  have fr := bd_frac (m := r.m) (b := b) (by omega) h.m1 b0
  have pe := zpow_le (b := b) (k := r.e) 3 b0 b1 (by have := h.e1; omega)
  have pp := Rat.zpow_pos (n := r.e) (ratpos (show 0 < b by omega))
  have w0 : (⟨r.e, r.m, []⟩ : Rw).worth b = 0 := by
    unfold Rw.worth
    show ((0 : Int) : Rat) * _ = 0
    have : ((0 : Int) : Rat) = 0 := rfl
    rw [this, Rat.zero_mul]
  have t0 : (⟨r.e, r.m, []⟩ : Rw).tail b = (r.m : Rat) / ((b - 1 : Int) : Rat) * (b : Rat) ^ r.e := by
    unfold Rw.tail Rw.pw
    simp
  have e3 : ((10 ^ 3 : Int) : Rat) = 1000 := rfl
  have e15 : ((15000 : Int) : Rat) = 15000 := rfl
  unfold Rw.lo Rw.hi at hin lh ⊢
  rw [w0, t0] at hin
  have bm := Bd.mul (A := 15) (B := 1000) (x := (r.m : Rat) / ((b - 1 : Int) : Rat)) (y := (b : Rat) ^ r.e) ⟨by grind, fr.2⟩ ⟨by grind, by grind⟩
  generalize (r.m : Rat) / ((b - 1 : Int) : Rat) * (b : Rat) ^ r.e = z at *
  have b2 := bm.2
  rw [e15]
  exact ⟨⟨by grind, by grind⟩, ⟨by grind, by grind⟩⟩
theorem Small.tight {b k : Int} {r : Rw} (h : Small b k r) (b0 : 2 ≤ b) (b1 : b ≤ 10) (hk : k ≤ 40) : Sz 500 (r.lo b) ∧ Sz 500 (r.hi b) := by
  have ok := h.ok b0 (by omega) (by omega)
  obtain ⟨e1, e2⟩ := lo_eq ok
  have hl := h.l; have he0 := h.e0; have he1 := h.e1; have m0 := h.m0; have m1 := h.m1
  have wb : (Lb.whole b r.fs).natAbs ≤ 1000 * 16 ^ 40 := by
    have h1 := fold_bound ok.b0 ok.b1 r.fs 0 ok.f
    have h2 : (16 : Nat) ^ r.fs.length ≤ 16 ^ 40 := Nat.pow_le_pow_right (by decide) (by omega)
    unfold Lb.whole
    simp only [Int.natAbs_zero, Nat.zero_add] at h1
    have h4 := Nat.mul_le_mul_left 1000 h2
    omega
  have wb2 : (Lb.whole b r.fs * (b - 1)).natAbs ≤ 1000 * 16 ^ 40 * 16 := by
    rw [Int.natAbs_mul]
    exact Nat.mul_le_mul wb (by omega)
  have c1 : (Lb.whole b r.fs * (b - 1) - r.m).natAbs < 2 ^ 180 := by omega +splitDisjunctions
  have c2 : (Lb.whole b r.fs * (b - 1) + r.m).natAbs < 2 ^ 180 := by omega +splitDisjunctions
  have d1 : (b - 1 : Int).natAbs < 2 ^ 180 := bound_mono (n := 4) (by omega +splitDisjunctions)
  have pw : Sz 200 (r.pw b) := (sz_zpow (k := r.e - (r.fs.length : Int)) (by omega) (by omega)).mono (by omega)
  rw [e1, e2]
  exact ⟨(sz_mul (sz_frac ok.cne c1 d1) pw).mono (by decide), (sz_mul (sz_frac ok.cne c2 d1) pw).mono (by decide)⟩
/-! ### sizes without signs -/
def aQ (q : Rat) : Rat := if q < 0 then -q else q
theorem aQ_le {q x : Rat} : aQ q ≤ x ↔ -x ≤ q ∧ q ≤ x := by
  unfold aQ; split <;> constructor <;> grind
/-! ### bare rows -/
def bareR (q : Int × Int) : Rw := ⟨q.1, q.2, []⟩
structure Bare (q : Int × Int) : Prop where
  e0 : -40 ≤ q.1
  e1 : q.1 ≤ 40
  m0 : 0 ≤ q.2
  m1 : q.2 ≤ 1000
theorem Bare.ok {b : Int} {q : Int × Int} (h : Bare q) (b0 : 2 ≤ b) (b1 : b ≤ 16) : (bareR q).Ok b :=
  ⟨b0, b1, h.e0, h.e1, h.m0, h.m1, by simp [bareR], by simp [bareR]⟩
/-- as far as a row of a begin and a most comes -/
def rim (b e m : Int) : Rat := (m : Rat) / ((b - 1 : Int) : Rat) * (b : Rat) ^ e
theorem bare_lo (b : Int) (q : Int × Int) : (bareR q).lo b = -rim b q.1 q.2 ∧ (bareR q).hi b = rim b q.1 q.2 := by
  unfold Rw.lo Rw.hi Rw.worth Rw.tail Rw.pw rim bareR whole
  simp only [List.foldl_nil, List.length_nil, Int.natCast_zero, Int.sub_zero]
  constructor <;> grind
def maxZ : List Int → Int
  | [] => 0
  | x :: xs => xs.foldl max x
theorem foldl_maxI : ∀ (xs : List Int) (v : Int), v ≤ xs.foldl max v ∧ (∀ x, x ∈ xs → x ≤ xs.foldl max v) ∧ (xs.foldl max v = v ∨ xs.foldl max v ∈ xs)
  | [], v => ⟨Int.le_refl _, by simp, .inl rfl⟩
  | x :: xs, v => by
    obtain ⟨h1, h2, h3⟩ := foldl_maxI xs (max v x)
    refine ⟨by show v ≤ xs.foldl max (max v x); omega, fun y hy => ?_, ?_⟩
    · rcases List.mem_cons.mp hy with rfl | hy
      · show y ≤ xs.foldl max (max v y); omega
      · exact h2 y hy
    · show xs.foldl max (max v x) = v ∨ xs.foldl max (max v x) ∈ x :: xs
      rcases h3 with h3 | h3
      · by_cases q : v ≤ x
        · right; rw [h3, show max v x = x by omega]; exact List.mem_cons_self ..
        · left; rw [h3]; omega
      · right; exact List.mem_cons_of_mem _ h3
theorem maxZ_is {xs : List Int} (h : xs ≠ []) : maxZ xs ∈ xs ∧ ∀ x, x ∈ xs → x ≤ maxZ xs := by
  match xs, h with
  | x :: xs, _ =>
    obtain ⟨h1, h2, h3⟩ := foldl_maxI xs x
    refine ⟨?_, fun y hy => ?_⟩
    · show xs.foldl max x ∈ x :: xs
      rcases h3 with h3 | h3
      · rw [h3]; exact List.mem_cons_self ..
      · exact List.mem_cons_of_mem _ h3
    · rcases List.mem_cons.mp hy with rfl | hy
      · exact h1
      · exact h2 y hy
def reachB (b : Int) (kn : Kn) (ss : List (Int × Int)) : Rat × Rat := reachQ b kn ((ss.map bareR).map (spanQ b))
def fitB (b : Int) (kn : Kn) (ss : List (Int × Int)) (e m : Int) : Bool := match kn with
  | .loose _ => decide (e = maxZ (ss.map (·.1)) ∧ m = (ss.map (·.2)).sum)
  | .moved k => match ss with
    | (e0, m0) :: _ => decide (e = e0 + k ∧ m = m0)
    | [] => false
  | kn => decide (aQ (reachB b kn ss).1 ≤ rim b e m) && decide (aQ (reachB b kn ss).2 ≤ rim b e m)
/-- the least begin by which a number is within -/
def IsLb (b m : Int) (need : Rat) (d : Int) : Prop := need ≤ rim b d m ∧ rim b (d - 1) m < need
theorem rim_sz {b e m : Int} (b0 : 2 ≤ b) (b1 : b ≤ 16) (he : e.natAbs ≤ 900) (m0 : 0 ≤ m) (m1 : m ≤ 2 ^ 20) : Sz 3700 (rim b e m) := by
  unfold rim
  have h1 : Sz 21 ((m : Rat) / ((b - 1 : Int) : Rat)) := sz_frac (by omega) (by omega) (by omega)
  have h2 : Sz (4 * e.natAbs + 1) ((b : Rat) ^ e) := sz_zpow (by omega) b1
  exact (sz_mul h1 h2).mono (by omega)
theorem many_le {kn : Kn} (h : kn.Ok) : kn.many ≤ 4 := by
  cases kn with
  | sum ws v => exact h.1
  | loose ws => exact h.1
  | _ => simp [Kn.many]
theorem reachQ_eq {b : Int} {kn : Kn} {ss : List (Rat × Rat)} {lo hi : List Rat} (h1 : Ch ss lo) (h2 : Ch ss hi) (h : ∀ xs, Ch ss xs → kn.app b lo ≤ kn.app b xs ∧ kn.app b xs ≤ kn.app b hi) : reachQ b kn ss = (kn.app b lo, kn.app b hi) := by
  unfold reachQ
  rw [minL_eq (mem_vals.mpr ⟨lo, h1, rfl⟩) fun v hv => by obtain ⟨xs, hx, rfl⟩ := mem_vals.mp hv; exact (h xs hx).1,
    maxL_eq (mem_vals.mpr ⟨hi, h2, rfl⟩) fun v hv => by obtain ⟨xs, hx, rfl⟩ := mem_vals.mp hv; exact (h xs hx).2]
theorem reach_sum {b v : Int} {ws : List Int} {ss : List (Rat × Rat)} (hv : 1 ≤ v) (hl : ws.length = ss.length) (hu : Up ss) :
    reachQ b (.sum ws v) ss = (wsum ws (sumLo ws ss) / ((v : Int) : Rat), wsum ws (sumHi ws ss) / ((v : Int) : Rat)) := by
  have hc := sumLo_ch hl
  have vp : (0 : Rat) < (v : Rat) := ratpos (by omega)
  refine reachQ_eq (kn := .sum ws v) hc.1 hc.2 fun xs hx => ?_
  have h := sumLo_le hl (ch_ins hu hx)
  have dv : ∀ {x y : Rat}, x ≤ y → x / (v : Rat) ≤ y / (v : Rat) := fun {x y} q => by
    rw [Rat.div_def, Rat.div_def]
    exact Rat.mul_le_mul_of_nonneg_right q (Rat.le_of_lt (Rat.inv_pos.mpr vp))
  exact ⟨dv h.1, dv h.2⟩
def wide1 : List Int → List (Rat × Rat) → Rat
  | w :: ws, s :: ss => ((abI w : Int) : Rat) * (s.2 - s.1) + wide1 ws ss
  | _, _ => 0
theorem sum_wide : ∀ (ws : List Int) (ss : List (Rat × Rat)), wsum ws (sumHi ws ss) - wsum ws (sumLo ws ss) = wide1 ws ss
  | [], ss => by unfold wide1 wsum; grind
  | _ :: _, [] => by unfold sumHi sumLo wide1 wsum; simp; grind
  | w :: ws, s :: ss => by
    have ih := sum_wide ws ss
    have e1 : sumHi (w :: ws) (s :: ss) = (if w < 0 then s.1 else s.2) :: sumHi ws ss := rfl
    have e2 : sumLo (w :: ws) (s :: ss) = (if w < 0 then s.2 else s.1) :: sumLo ws ss := rfl
    rw [e1, e2]
    unfold wsum wide1
    by_cases hw : w < 0
    · have ea : ((abI w : Int) : Rat) = -(w : Rat) := by unfold abI; rw [if_pos hw, Rat.intCast_neg]
      rw [if_pos hw, if_pos hw, ea]
      grind
    · have ea : abI w = w := by unfold abI; rw [if_neg hw]
      rw [if_neg hw, if_neg hw, ea]
      grind
theorem rim_up {b e m : Int} (b0 : 2 ≤ b) : rim b (e + 1) m = (b : Rat) * rim b e m := by
  unfold rim
  rw [Rat.zpow_add_one (by have := ratpos (show 0 < b by omega); grind)]
  grind
theorem fitB_of {b : Int} {kn : Kn} {ss : List (Int × Int)} {e m : Int} (h1 : ∀ ws, kn ≠ .loose ws) (h2 : ∀ k, kn ≠ .moved k) : fitB b kn ss e m = (decide (aQ (reachB b kn ss).1 ≤ rim b e m) && decide (aQ (reachB b kn ss).2 ≤ rim b e m)) := by
  unfold fitB
  cases kn with
  | loose ws => exact absurd rfl (h1 ws)
  | moved k => exact absurd rfl (h2 k)
  | _ => rfl
theorem IsLb.up {b m d : Int} {need : Rat} (b0 : 2 ≤ b) (h : IsLb b m need d) : IsLb b m ((b : Rat) * need) (d + 1) := by
  have bp := ratpos (show 0 < b by omega)
  refine ⟨?_, ?_⟩
  · rw [rim_up b0]
    exact Rat.mul_le_mul_of_nonneg_left h.1 (Rat.le_of_lt bp)
  · have := Rat.mul_lt_mul_of_pos_left h.2 bp
    rw [← rim_up b0] at this
    rwa [show d + 1 - 1 = d - 1 + 1 by omega]
end Lb

/-! Machines: what a part gives, figure by figure. -/
namespace Lb
open PySem PySem.Spec PyProof.Rows L2 DL
local macro_rules | `(tactic| omega) => `(tactic| first | assumption | lia)
variable [CT]
local macro_rules | `(tactic| walk_at "dg3") => `(tactic| try simp only [dDispGet, dictAt, isi_non_dict, isi_bl_dict, isi_int_dict, isi_str_dict, isi_lst_dict, isi_tup_dict, isi_non_bs, isi_bl_bs, isi_int_bs, isi_str_bs, isi_lst_bs, isi_tup_bs, g_ix_enc0, g_ix_enc1, g_ix_sp0, g_ix_sp1, g_put_sp, Int.reduceEq, dSeq, dSet, dPar, dOp, dUn, dVar, dC, dCB, dCons, dNil, dTup, dLst, dLstM, dIfS, dIf, dTest, dNot, dAnd, dOr, dAndV, dOrV, dNotV, dRet, dRetN, dEnd, dNext, dAdd, dSub, dMul, dFdiv, dMod, dPow, dNeg, dLt, dLe, dGt, dGe, dEq, dNe, eqB_ii, eqB_bb, eqB_ss, eqB_nn, eqB_ni, eqB_in, eqB_ns, eqB_sn, eqB_is, eqB_si, eqB_nb, eqB_bn, dIn, g_ix_tup, g_ix_lst, g_ix_ext, g_ln_tup, g_ln_lst, g_ln_ext, g_nn_non, g_nn_int, g_nn_tup, g_in_non, g_in_int, g_in_tup, g_ix_row0, g_ix_row1, g_ix_row2, g_ix_span0, g_ix_span1, g_nn_span, g_nn_encR, g_in_span, cAbs, cMax2, cMin2, cInt, cList, cTuple, dIsB, dNotB, dPar3, ForN, LcN, pinOf, pin2, dEnum2, dAppend, supd_same0, isi_non_int, isi_non_bool, isi_non_str, isi_non_list, isi_non_tuple, isi_non_lt, isi_bl_int, isi_bl_bool, isi_bl_str, isi_bl_list, isi_bl_tuple, isi_bl_lt, isi_int_int, isi_int_bool, isi_int_str, isi_int_list, isi_int_tuple, isi_int_lt, isi_str_int, isi_str_bool, isi_str_str, isi_str_list, isi_str_tuple, isi_str_lt, isi_lst_int, isi_lst_bool, isi_lst_str, isi_lst_list, isi_lst_tuple, isi_lst_lt, isi_tup_int, isi_tup_bool, isi_tup_str, isi_tup_list, isi_tup_tuple, isi_tup_lt, dAug, dIAdd, dIMul, dDrop, dSl, dPart, dNoPart, dRevL, dCallK, dChainR, dAsg, put_nm, put_tp, put_tl, g_put_row, g_put_span, putL_nil, putL_cons, Option.bind, seqOf, lstOf, dFor, dLc, dLcM, dItSeq, dZip, dZipS, dEnum, dRng1, dRng2, dYes, dwipe, Tgt.slots, Tgt.slotsL,
  atI_0, atI_1, atI_2, atI_3, List.getElem?_cons_zero, List.getElem?_cons_succ, List.set_cons_zero, List.set_cons_succ, decide_eq_true_eq, List.length_cons, List.length_nil, List.cons_append, List.nil_append, List.append_nil, ofString_inj, String.reduceEq, decide_true, decide_false, reduceIte, Bool.false_eq_true, Bool.not_true, Bool.not_false, eqFlat, isFlat, List.any_cons, List.any_nil, List.all_cons, List.all_nil, Bool.or_false, Bool.or_true, Bool.false_or, Bool.true_or, Bool.and_true, Bool.true_and, true_and, and_true, Nat.reduceAdd, Nat.reduceLeDiff, Int.reduceLT, Int.reduceLE, Int.reduceNeg])
/-! ### figures for rows of any begin -/
/-- what may come of rows is not too great for a row -/
structure Fine (b : Int) (kn : Kn) (rs : List Rw) (r : Rw) : Prop where
  b0 : 2 ≤ b
  b1 : b ≤ 16
  k : kn.Ok
  l : rs.length = kn.many
  ok : ∀ r, r ∈ rs → r.Ok b
  own : r.Ok b
  z1 : Sz 2500 (reachQ b kn (rs.map (spanQ b))).1
  z2 : Sz 2500 (reachQ b kn (rs.map (spanQ b))).2
  s1 : Bd ((2 ^ 60 : Int) : Rat) (((reachQ b kn (rs.map (spanQ b))).1 - r.worth b) * (b : Rat) ^ ((r.fs.length : Int) - r.e + 1))
  s2 : Bd ((2 ^ 60 : Int) : Rat) (((reachQ b kn (rs.map (spanQ b))).2 - r.worth b) * (b : Rat) ^ ((r.fs.length : Int) - r.e + 1))
def sp_figures_betweenG : DSp := fun ds S P => ∃ (b : Int) (r : Rw) (q : Rat × Rat), ds = [.int b, r.d, encR q.1, encR q.2] ∧ r.Ok b ∧ Sz 2500 q.1 ∧ Sz 2500 q.2 ∧
  Bd ((2 ^ 60 : Int) : Rat) ((q.1 - r.worth b) * (b : Rat) ^ ((r.fs.length : Int) - r.e + 1)) ∧ Bd ((2 ^ 60 : Int) : Rat) ((q.2 - r.worth b) * (b : Rat) ^ ((r.fs.length : Int) - r.e + 1)) ∧ P (.lst ((figsR b r q).map .int)) S
def rd_figures_betweenG : DS :=
  (dSeq (dAsg (.tp [(.nm 4), (.nm 5), (.nm 6)]) (dVar 1))
  (dSeq (dSet 7 (dCB sp_power (dCons (dVar 0) (dCons (dOp dAdd (dCB sp_known_to (dCons (dVar 1) dNil)) (dC (.int 1))) dNil))))
  (dSeq (dPar 8 9 (dCons (dCB sp_frac (dCons (dVar 5) (dCons (dOp dSub (dVar 0) (dC (.int 1))) dNil))) (dCons (dCB sp_worth_of (dCons (dVar 0) (dCons (dVar 1) dNil))) dNil)))
  (dSeq (dSet 10 (dCB sp_raised (dCons (dCB sp_minus (dCons (dCB sp_times (dCons (dCB sp_minus (dCons (dVar 3) (dCons (dVar 9) dNil))) (dCons (dVar 7) dNil))) (dCons (dVar 8) dNil))) dNil)))
  (dSeq (dSet 11 (dCB sp_plus (dCons (dCB sp_times (dCons (dCB sp_minus (dCons (dVar 2) (dCons (dVar 9) dNil))) (dCons (dVar 7) dNil))) (dCons (dVar 8) dNil))))
  (dRet (dLstR2 (dCB cMax2 (dCons (dVar 10) (dCons (dUn dNeg (dVar 5)) dNil))) (dOp dAdd (dCB cMin2 (dCons (dOp dFdiv (dOp dIx (dVar 11) (dC (.int 0))) (dOp dIx (dVar 11) (dC (.int 1)))) (dCons (dVar 5) dNil))) (dC (.int 1))))))))))
def goal_figures_betweenG : Prop := ∀ (x0 x1 x2 x3 : D) (S : Store) (P : D → Store → Prop), sp_figures_betweenG [x0, x1, x2, x3] S P → rd_figures_betweenG (dEnd P) [some x0, some x1, some x2, some x3, none, none, none, none, none, none, none, none] S
theorem len_figures_betweenG : ∀ ds S P, sp_figures_betweenG ds S P → ds.length = 4 := by
  rintro ds S P ⟨a, b, c, rfl, _⟩; rfl
theorem spread_bd {b : Int} {r : Rw} (ok : r.Ok b) : (0 : Rat) ≤ (r.m : Rat) / ((b - 1 : Int) : Rat) ∧ (r.m : Rat) / ((b - 1 : Int) : Rat) ≤ ((1000 : Int) : Rat) := by
  have cp := ok.cp
  have b0 := ok.b0
  have c1 : ((1 : Int) : Rat) ≤ ((b - 1 : Int) : Rat) := Rat.intCast_le_intCast.mpr (by omega)
  have m0 : ((0 : Int) : Rat) ≤ (r.m : Rat) := Rat.intCast_le_intCast.mpr ok.m0
  have m1 : (r.m : Rat) ≤ ((1000 : Int) : Rat) := Rat.intCast_le_intCast.mpr ok.m1
  have o1 : ((1 : Int) : Rat) = 1 := rfl
  have o2 : ((1000 : Int) : Rat) = 1000 := rfl
  have o0 : ((0 : Int) : Rat) = 0 := rfl
  have e : (r.m : Rat) / ((b - 1 : Int) : Rat) * ((b - 1 : Int) : Rat) = (r.m : Rat) := by
    generalize ((b - 1 : Int) : Rat) = y at *
    rw [Rat.div_def, Rat.mul_assoc, Rat.inv_mul_cancel _ (by grind), Rat.mul_one]
  have c0 : (0 : Rat) ≤ (r.m : Rat) / ((b - 1 : Int) : Rat) := by
    rw [Rat.div_def]
    exact Rat.mul_nonneg (by grind) (Rat.le_of_lt (Rat.inv_pos.mpr cp))
  generalize (r.m : Rat) / ((b - 1 : Int) : Rat) = c at *
  have := Rat.mul_le_mul_of_nonneg_left c1 (c := c) c0
  exact ⟨c0, by grind⟩
theorem vc_figures_betweenG : goal_figures_betweenG := by
  rintro x0 x1 x2 x3 S P ⟨b, r, q, e, ok, s1, s2, m1, m2, h⟩
  cases e
  unfold rd_figures_betweenG
  have b0 := ok.b0; have b1 := ok.b1; have e0 := ok.e0; have e1 := ok.e1; have m0 := ok.m0; have mm := ok.m1; have ll := ok.l
  have fb := fig_bounds (q := q) ok rfl
  have c0 := spread_bd ok
  obtain ⟨s, hs⟩ : ∃ s, s = (b : Rat) ^ ((r.fs.length : Int) - r.e + 1) := ⟨_, rfl⟩
  rw [← hs] at m1 m2 fb
  have ss : Sz 486 s := by rw [hs]; exact (sz_zpow (k := (r.fs.length : Int) - r.e + 1) (by omega) (by omega)).mono (by omega)
  have cs : Sz 11 ((r.m : Rat) / ((b - 1 : Int) : Rat)) := ok.fr
  have v1 := sz_mul (sz_sub s1 ok.worth) ss
  have v2 := sz_mul (sz_sub s2 ok.worth) ss
  walk_at "dg3"
  refine ⟨r, rfl, ?_⟩
  walk_at "dg3"
  refine ⟨b, _, rfl, by omega, by omega, by omega, ?_⟩
  rw [← hs]
  refine ⟨r.m, b - 1, rfl, by omega, bound_mono (n := 10) (by omega), bound_mono (n := 10) (by omega), ?_⟩
  refine ⟨b, r, rfl, ok, ?_⟩
  refine ⟨_, _, rfl, s2.mono (by decide), ok.worth.mono (by decide), ?_⟩
  refine ⟨_, _, rfl, (sz_sub s2 ok.worth).mono (by decide), ss.mono (by decide), ?_⟩
  refine ⟨_, _, rfl, v2.mono (by decide), cs.mono (by decide), ?_⟩
  refine ⟨_, rfl, (sz_sub v2 cs).mono (by decide), ?_⟩
  refine ⟨_, _, rfl, s1.mono (by decide), ok.worth.mono (by decide), ?_⟩
  refine ⟨_, _, rfl, (sz_sub s1 ok.worth).mono (by decide), ss.mono (by decide), ?_⟩
  refine ⟨_, _, rfl, v1.mono (by decide), cs.mono (by decide), ?_⟩
  have sz1 := sz_add v1 cs
  generalize (r.m : Rat) / ((b - 1 : Int) : Rat) = c at *
  generalize (q.2 - r.worth b) * s = X at *
  generalize (q.1 - r.worth b) * s = Y at *
  obtain ⟨C, hC⟩ : ∃ C, C = -((-(X - c).num).fdiv ((X - c).den : Int)) := ⟨_, rfl⟩
  obtain ⟨F, hF⟩ : ∃ F, F = (Y + c).num.fdiv ((Y + c).den : Int) := ⟨_, rfl⟩
  have t60 : ((2 ^ 61 : Int) : Rat) = ((2 ^ 60 : Int) : Rat) + ((2 ^ 60 : Int) : Rat) := by rw [← Rat.intCast_add]; congr 1
  have t1000 : ((1000 : Int) : Rat) + 1 ≤ ((2 ^ 60 : Int) : Rat) := by
    have : ((1000 : Int) : Rat) + 1 = ((1001 : Int) : Rat) := by rw [show (1001 : Int) = 1000 + 1 by decide, Rat.intCast_add]; rfl
    rw [this]; exact Rat.intCast_le_intCast.mpr (by decide)
  have n61 : ((-(2 ^ 61) : Int) : Rat) = -((2 ^ 61 : Int) : Rat) := Rat.intCast_neg ..
  unfold Bd at m1 m2
  generalize ((2 ^ 60 : Int) : Rat) = T at *
  generalize ((1000 : Int) : Rat) = U at *
  have C1 : C ≤ 2 ^ 61 := by rw [hC]; exact le_ceil.mpr (by rw [t60]; grind)
  have C0 : -(2 ^ 61) ≤ C := by
    refine Int.not_lt.mp fun h => ?_
    have h2 : C ≤ -(2 ^ 61) - 1 := by omega +splitDisjunctions
    rw [hC, le_ceil, Rat.intCast_sub, n61, t60] at h2
    have : ((1 : Int) : Rat) = 1 := rfl
    grind
  have F0 : -(2 ^ 61) ≤ F := by rw [hF]; exact floor_le.mpr (by rw [n61, t60]; grind)
  have F1 : F ≤ 2 ^ 61 := by
    refine Int.not_lt.mp fun h => ?_
    have h2 : 2 ^ 61 + 1 ≤ F := by omega +splitDisjunctions
    rw [hF, floor_le, Rat.intCast_add, t60] at h2
    have : ((1 : Int) : Rat) = 1 := rfl
    grind
  rw [← hC, ← hF] at fb
  unfold dLstR2
  walk_at "dg3"
  rw [← hC, ← hF]
  refine ⟨sz_divB sz1 (by decide), by unfold RgOk; split <;> split <;> omega, ?_⟩
  have ef : figsR b r q = ivl (if -r.m > C then -r.m else C) ((if r.m < F then r.m else F) + 1 - if -r.m > C then -r.m else C).toNat := by
    unfold figsR
    refine ivl_filter fb _ _ _ _ ?_ ?_
    · split <;> split <;> omega
    · congr 1
      have : -r.m + ((2 * r.m + 1).toNat : Int) - 1 = r.m := by omega
      rw [this]
      congr 2
      split <;> split <;> omega
  have er : ∀ a n, rng a n = (ivl a n).map D.int := fun a n => by unfold rng ivl; rw [List.map_map]; rfl
  rw [er, ← ef]
  exact h
/-! ### the figure least in size -/
/-- the figure least in size -/
def near : List Int → Option Int
  | [] => none
  | x :: xs => some (xs.foldl (fun a y => if y.natAbs < a.natAbs then y else a) x)
theorem near_fold : ∀ (xs : List Int) (x : Int), (xs.foldl (fun a y => if y.natAbs < a.natAbs then y else a) x = x ∨ xs.foldl (fun a y => if y.natAbs < a.natAbs then y else a) x ∈ xs) ∧ (xs.foldl (fun a y => if y.natAbs < a.natAbs then y else a) x).natAbs ≤ x.natAbs ∧ ∀ y, y ∈ xs → (xs.foldl (fun a y => if y.natAbs < a.natAbs then y else a) x).natAbs ≤ y.natAbs
  | [], x => ⟨.inl rfl, Nat.le_refl _, by simp⟩
  | z :: xs, x => by
    obtain ⟨h1, h2, h3⟩ := near_fold xs (if z.natAbs < x.natAbs then z else x)
    have hz : (if z.natAbs < x.natAbs then z else x).natAbs ≤ z.natAbs ∧ (if z.natAbs < x.natAbs then z else x).natAbs ≤ x.natAbs := by split <;> omega
    rw [List.foldl_cons]
    generalize xs.foldl (fun a y => if y.natAbs < a.natAbs then y else a) (if z.natAbs < x.natAbs then z else x) = f at *
    refine ⟨?_, by omega, fun y hy => ?_⟩
    · rcases h1 with h1 | h1
      · rw [h1]; split
        · exact .inr (List.mem_cons_self ..)
        · exact .inl rfl
      · exact .inr (List.mem_cons_of_mem _ h1)
    · rcases List.mem_cons.mp hy with rfl | hy
      · omega
      · exact h3 y hy
theorem near_is {xs : List Int} {d : Int} (h : near xs = some d) : d ∈ xs ∧ ∀ y, y ∈ xs → d.natAbs ≤ y.natAbs := by
  match xs, h with
  | x :: xs, h =>
    obtain ⟨h1, h2, h3⟩ := near_fold xs x
    simp only [near, Option.some.injEq] at h
    rw [h] at h1 h2 h3
    refine ⟨?_, fun y hy => ?_⟩
    · rcases h1 with h1 | h1
      · rw [h1]; exact List.mem_cons_self ..
      · exact List.mem_cons_of_mem _ h1
    · rcases List.mem_cons.mp hy with rfl | hy
      · exact h2
      · exact h3 y hy
theorem near_none {xs : List Int} : near xs = none ↔ xs = [] := by
  cases xs <;> simp [near]
theorem mem_ivl {a d : Int} {n : Nat} : d ∈ ivl a n ↔ a ≤ d ∧ d < a + (n : Int) := by
  unfold ivl
  rw [List.mem_map]
  constructor
  · rintro ⟨i, hi, rfl⟩
    rw [List.mem_range] at hi
    omega
  · rintro ⟨h1, h2⟩
    exact ⟨(d - a).toNat, by rw [List.mem_range]; omega, by omega⟩
/-- in a gapless list there is just one least in size -/
theorem near_uniq {a : Int} {n : Nat} {d d' : Int} (h : d ∈ ivl a n) (h' : d' ∈ ivl a n) (m : ∀ y, y ∈ ivl a n → d.natAbs ≤ y.natAbs) (m' : ∀ y, y ∈ ivl a n → d'.natAbs ≤ y.natAbs) : d = d' := by
  have e1 := m d' h'
  have e2 := m' d h
  by_cases q : d = d'
  · exact q
  · have e3 : d' = -d := by omega
    rw [mem_ivl] at h h'
    have h0 : (0 : Int) ∈ ivl a n := mem_ivl.mpr (by omega)
    have := m 0 h0
    omega
theorem figs_ivl2 {b : Int} {r : Rw} {q : Rat × Rat} (h : r.Ok b) : ∃ lo k, figsR b r q = ivl lo k := by
  have fb := fig_bounds (q := q) h rfl
  exact ⟨_, _, ivl_filter fb _ _ _ _ rfl rfl⟩
theorem figs_mem {b : Int} {r : Rw} {q : Rat × Rat} (h0 : 0 ≤ r.m) {d : Int} : d ∈ figsR b r q ↔ (-r.m ≤ d ∧ d ≤ r.m) ∧ (r.snoc d).lo b ≤ q.1 ∧ q.2 ≤ (r.snoc d).hi b := by
  unfold figsR
  rw [List.mem_filter, mem_ivl]
  unfold figOk
  rw [decide_eq_true_eq]
  constructor
  · rintro ⟨h1, h2⟩; exact ⟨by omega, h2⟩
  · rintro ⟨h1, h2⟩; exact ⟨by omega, h2⟩
local macro_rules | `(tactic| walk_at "dg4") => `(tactic| try simp only [dFld, dSetFld, dFldAdd, dMeth, dMake, dMakeK, dFld2, dMinKey, dDispGet, dictAt, isi_non_dict, isi_bl_dict, isi_int_dict, isi_str_dict, isi_lst_dict, isi_tup_dict, isi_non_bs, isi_bl_bs, isi_int_bs, isi_str_bs, isi_lst_bs, isi_tup_bs, g_ix_enc0, g_ix_enc1, g_ix_sp0, g_ix_sp1, g_put_sp, Int.reduceEq, dSeq, dSet, dPar, dOp, dUn, dVar, dC, dCB, dCons, dNil, dTup, dLst, dLstM, dIfS, dIf, dTest, dNot, dAnd, dOr, dAndV, dOrV, dNotV, dRet, dRetN, dEnd, dNext, dAdd, dSub, dMul, dFdiv, dMod, dPow, dNeg, dLt, dLe, dGt, dGe, dEq, dNe, eqB_ii, eqB_bb, eqB_ss, eqB_nn, eqB_ni, eqB_in, eqB_ns, eqB_sn, eqB_is, eqB_si, eqB_nb, eqB_bn, dIn, g_ix_tup, g_ix_lst, g_ix_ext, g_ln_tup, g_ln_lst, g_ln_ext, g_nn_non, g_nn_int, g_nn_tup, g_in_non, g_in_int, g_in_tup, g_ix_row0, g_ix_row1, g_ix_row2, g_ix_span0, g_ix_span1, g_nn_span, g_nn_encR, g_in_span, cAbs, cMax2, cMin2, cInt, cList, cTuple, dIsB, dNotB, dPar3, ForN, LcN, pinOf, pin2, dEnum2, dAppend, supd_same0, isi_non_int, isi_non_bool, isi_non_str, isi_non_list, isi_non_tuple, isi_non_lt, isi_bl_int, isi_bl_bool, isi_bl_str, isi_bl_list, isi_bl_tuple, isi_bl_lt, isi_int_int, isi_int_bool, isi_int_str, isi_int_list, isi_int_tuple, isi_int_lt, isi_str_int, isi_str_bool, isi_str_str, isi_str_list, isi_str_tuple, isi_str_lt, isi_lst_int, isi_lst_bool, isi_lst_str, isi_lst_list, isi_lst_tuple, isi_lst_lt, isi_tup_int, isi_tup_bool, isi_tup_str, isi_tup_list, isi_tup_tuple, isi_tup_lt, dAug, dIAdd, dIMul, dDrop, dSl, dPart, dNoPart, dRevL, dCallK, dChainR, dAsg, put_nm, put_tp, put_tl, g_put_row, g_put_span, putL_nil, putL_cons, Option.bind, seqOf, lstOf, dFor, dLc, dLcM, dItSeq, dZip, dZipS, dEnum, dRng1, dRng2, dYes, dwipe, Tgt.slots, Tgt.slotsL,
  atI_0, atI_1, atI_2, atI_3, List.getElem?_cons_zero, List.getElem?_cons_succ, List.set_cons_zero, List.set_cons_succ, decide_eq_true_eq, List.length_cons, List.length_nil, List.cons_append, List.nil_append, List.append_nil, ofString_inj, String.reduceEq, decide_true, decide_false, reduceIte, Bool.false_eq_true, Bool.not_true, Bool.not_false, eqFlat, isFlat, List.any_cons, List.any_nil, List.all_cons, List.all_nil, Bool.or_false, Bool.or_true, Bool.false_or, Bool.true_or, Bool.and_true, Bool.true_and, true_and, and_true, Nat.reduceAdd, Nat.reduceLeDiff, Int.reduceLT, Int.reduceLE, Int.reduceNeg])
/-! ### a machine's state -/
structure Mst where
  figs : List Int
  rd : Option Int
def rdD : Option Int → D
  | none => .non
  | some i => .int i
def MF (b : Int) (kn : Kn) (e m : Int) (q : Addr) (rd : Option Int) : List (Str × D) :=
  [("own_base", .int b), ("own_kind", kn.d), ("own_begin", .int e), ("own_most", .int m), ("own_figures", .obj q), ("own_read", rdD rd)]
/-- a machine stands at p, its figures at q -/
structure MAt (S : Store) (p q : Addr) (b : Int) (kn : Kn) (e m : Int) (s : Mst) : Prop where
  o : S p = some (.ins (CT.at_ 0) (MF b kn e m q s.rd))
  f : S q = some (.lst (s.figs.map .int))
  ne : p ≠ q
/-- elsewhere nothing is otherwise -/
def But2 (S S' : Store) (p q : Addr) : Prop := ∀ a, a ≠ p → a ≠ q → S' a = S a
theorem But2.refl {S : Store} {p q : Addr} : But2 S S p q := fun _ _ _ => rfl
theorem But2.trans {S S1 S2 : Store} {p q : Addr} (h : But2 S S1 p q) (h2 : But2 S1 S2 p q) : But2 S S2 p q := fun a h1 h3 => (h2 a h1 h3).trans (h a h1 h3)
def cutR : Option Int → Rw → Rw
  | some k, r => r.cut k
  | none, r => r
def known (r : Rw) : Int := (r.fs.length : Int) - r.e
def hasN (rs : List Rw) : Option Int → Bool
  | some k => rs.all fun r => decide (k < known r)
  | none => false
def ownR (e m : Int) (s : Mst) : Rw := ⟨e, m, s.figs⟩
def rightM (b : Int) (kn : Kn) (rs : List Rw) (e m : Int) (s : Mst) : List Int := figsR b (ownR e m s) (reachQ b kn ((rs.map (cutR s.rd)).map (spanQ b)))
def figAt (r : Rw) (k : Int) : Int := if 0 < k + r.e then r.fs.getD (k + r.e - 1).toNat 0 else 0
def signs : Kn → List Int
  | .loose ws => ws
  | _ => [1]
def plainFig (kn : Kn) (rs : List Rw) (k : Int) : Int := (((signs kn).zip rs).map fun p => p.1 * figAt p.2 k).sum
def nextP (e : Int) (s : Mst) : Int := (s.figs.length : Int) + 1 - e
def Ch1 : Kn → Bool
  | .loose _ => false
  | .moved _ => false
  | _ => true
def stepM (b : Int) (kn : Kn) (rs : List Rw) (e m to : Int) (s : Mst) : Option Mst :=
  if Ch1 kn = true then
    match near (rightM b kn rs e m s) with
    | some d => if to < nextP e s then none else some ⟨s.figs ++ [d], s.rd⟩
    | none => if hasN rs s.rd = true then some ⟨s.figs, s.rd.map (· + 1)⟩ else none
  else
    match s.rd with
    | some k => if hasN rs s.rd = true ∧ nextP e s ≤ to then some ⟨s.figs ++ [plainFig kn rs (k + 1)], some (k + 1)⟩ else none
    | none => none
def firstR (rs : List Rw) : Option Int := if rs = [] then none else some (0 - maxZ (rs.map (·.e)))
def optD : Option Int → D
  | none => .non
  | some i => .int i
/-- what a step wants -/
structure StepOk (b : Int) (kn : Kn) (rs : List Rw) (e m : Int) (s : Mst) : Prop where
  l : rs.length ≤ 1000
  n : s.figs.length ≤ 900
  r : rs ≠ [] → s.rd ≠ none
  ch : Ch1 kn = true → Fine b kn (rs.map (cutR s.rd)) (ownR e m s)
  pl : Ch1 kn = false → rs.length = kn.many ∧ (∀ w, w ∈ signs kn → w.natAbs ≤ 1000)
theorem put_small {f : Str} {x : D} {fs : List (Str × D)} {n : Nat} (h : fs.length < n) : (putD f x fs).length < n + 1 := Nat.lt_of_le_of_lt (putD_len f x fs) (Nat.succ_lt_succ h)
theorem MAt.put {S : Store} {p q : Addr} {b : Int} {kn : Kn} {e m : Int} {s : Mst} (M : MAt S p q b kn e m s) (rd : Option Int) : MAt (supd S p (.ins (CT.at_ 0) (MF b kn e m q rd))) p q b kn e m ⟨s.figs, rd⟩ ∧ But2 S (supd S p (.ins (CT.at_ 0) (MF b kn e m q rd))) p q :=
  ⟨⟨supd_same, by rw [supd_ne M.ne.symm]; exact M.f, M.ne⟩, fun a h1 h2 => supd_ne h1⟩
theorem MAt.add {S : Store} {p q : Addr} {b : Int} {kn : Kn} {e m : Int} {s : Mst} (M : MAt S p q b kn e m s) (d : Int) : MAt (supd S q (.lst (s.figs.map .int ++ [.int d]))) p q b kn e m ⟨s.figs ++ [d], s.rd⟩ ∧ But2 S (supd S q (.lst (s.figs.map .int ++ [.int d]))) p q :=
  ⟨⟨by rw [supd_ne M.ne]; exact M.o, by rw [supd_same]; simp, M.ne⟩, fun a h1 h2 => supd_ne h2⟩
/-! ### runs -/
def growT (s s' : Mst) (tr : List (Option Int × Int)) : List (Option Int × Int) := if s.figs.length < s'.figs.length then tr ++ [(s'.rd, s'.figs.getLastD 0)] else tr
/-- all steps that can be done, and for each figure the place read to then -/
inductive Runs (f : Mst → Option Mst) : Mst → List (Option Int × Int) → Mst → List (Option Int × Int) → Prop
  | stop {s tr} : f s = none → Runs f s tr s tr
  | go {s s' tr t tr'} : f s = some s' → Runs f s' (growT s s' tr) t tr' → Runs f s tr t tr'
/-- states that come -/
inductive Rch (f : Mst → Option Mst) : Mst → Mst → Prop
  | refl {s} : Rch f s s
  | step {s t u} : Rch f s t → f t = some u → Rch f s u
theorem Rch.of {f : Mst → Option Mst} {s : Mst} {I : Mst → Prop} (h0 : I s) (h : ∀ t u, I t → f t = some u → I u) : ∀ {t}, Rch f s t → I t := fun {t} r => by
  induction r with
  | refl => exact h0
  | step _ e ih => exact h _ _ ih e
/-- what stood stands -/
def Kp (S S' : Store) : Prop := ∀ a m, S a = some m → S' a = some m
theorem Kp.refl {S : Store} : Kp S S := fun _ _ h => h
theorem Kp.trans {S S1 S2 : Store} (h : Kp S S1) (h2 : Kp S1 S2) : Kp S S2 := fun a m e => h2 a m (h a m e)
theorem Kp.box {S S' : Store} {p : Addr} {n : Nat} (h : Kp S S') (hb : BoxAt S p n) : BoxAt S' p n := by
  obtain ⟨a, s, t, e, r⟩ := hb
  exact ⟨a, s, t, h _ _ e, r⟩
theorem Kp.but {S0 S S' : Store} {p q : Addr} (h : Kp S0 S) (hp : S0 p = none) (hq : S0 q = none) (b : But2 S S' p q) : Kp S0 S' := fun a m e => by
  have h1 : a ≠ p := fun z => by rw [z, hp] at e; cases e
  have h2 : a ≠ q := fun z => by rw [z, hq] at e; cases e
  rw [b a h1 h2]
  exact h a m e
theorem Kp.new {S0 S : Store} {p : Addr} {m : MO} (h : Kp S0 S) (hp : S0 p = none) : Kp S0 (supd S p m) := fun a m' e => by
  have h1 : a ≠ p := fun z => by rw [z, hp] at e; cases e
  rw [supd_ne h1]
  exact h a m' e
def st0 (rs : List Rw) : Mst := ⟨[], firstR rs⟩
theorem stepM_figs {b : Int} {kn : Kn} {rs : List Rw} {e m to : Int} {s s' : Mst} (h : stepM b kn rs e m to s = some s') : ((∃ d, s'.figs = s.figs ++ [d]) ∧ nextP e s ≤ to) ∨ (s'.figs = s.figs ∧ s'.rd = s.rd.map (· + 1) ∧ hasN rs s.rd = true) := by
  unfold stepM at h
  split at h
  · split at h
    · rename_i d _
      split at h
      · cases h
      · cases h; exact .inl ⟨⟨d, rfl⟩, by omega⟩
    · split at h
      · rename_i hh
        cases h; exact .inr ⟨rfl, rfl, hh⟩
      · cases h
  · split at h
    · split at h
      · rename_i hh
        cases h; exact .inl ⟨⟨_, rfl⟩, hh.2⟩
      · cases h
    · cases h
theorem stepM_rd {b : Int} {kn : Kn} {rs : List Rw} {e m to : Int} {s s' : Mst} (h : stepM b kn rs e m to s = some s') : s'.rd = s.rd ∨ (s'.rd = s.rd.map (· + 1) ∧ hasN rs s.rd = true) := by
  unfold stepM at h
  split at h
  · split at h
    · split at h
      · cases h
      · cases h; exact .inl rfl
    · split at h
      · rename_i hh
        cases h; exact .inr ⟨rfl, hh⟩
      · cases h
  · split at h
    · rename_i k hk
      split at h
      · rename_i hh
        cases h; exact .inr ⟨by rw [hk]; rfl, hh.1⟩
      · cases h
    · cases h
/-- of no rows no place is read -/
def NoRows (rs : List Rw) (s : Mst) : Prop := rs = [] ↔ s.rd = none
theorem noRows_0 (rs : List Rw) : NoRows rs (st0 rs) := by
  unfold NoRows st0 firstR
  by_cases h : rs = [] <;> simp [h]
theorem noRows_step {b : Int} {kn : Kn} {rs : List Rw} {e m to : Int} {s s' : Mst} (hn : NoRows rs s) (h : stepM b kn rs e m to s = some s') : NoRows rs s' := by
  unfold NoRows at *
  rcases stepM_rd h with h | ⟨h, _⟩
  · rw [h]; exact hn
  · rw [h, hn]; cases s.rd <;> simp
/-! ### promises -/
def AllOk (b : Int) (kn : Kn) (rs : List Rw) (e m to : Int) : Prop := ∀ s, Rch (stepM b kn rs e m to) (st0 rs) s → StepOk b kn rs e m s
theorem atI_last {α : Type} {l : List α} {a : α} : atI (l ++ [a]) (-1) = some a := by
  unfold atI ixN
  simp only [List.length_append, List.length_cons, List.length_nil]
  rw [if_neg (by omega), if_pos (by omega)]
  have : ((-1 : Int) + ((l.length + (0 + 1) : Nat) : Int)).toNat = l.length := by omega
  rw [this]
  simp
theorem Rw.cut_in {b : Int} (b0 : 2 ≤ b) {r : Rw} (h0 : 0 ≤ r.m) (hf : ∀ f, f ∈ r.fs → -r.m ≤ f ∧ f ≤ r.m) (k : Int) : (r.cut k).lo b ≤ r.lo b ∧ r.hi b ≤ (r.cut k).hi b := by
  have e : r = (r.cut k).app (r.fs.drop (k + r.e).toNat) := by
    unfold Rw.cut Rw.app
    simp
  have h := app_in b0 (r.fs.drop (k + r.e).toNat) (r.cut k) fun g hg => hf g (List.mem_of_mem_drop hg)
  rw [← e] at h
  exact h
theorem cut_cut {r : Rw} {j k : Int} (h : j ≤ k) : (r.cut k).cut j = r.cut j := by
  unfold Rw.cut
  simp only [List.take_take]
  congr 1
  congr 1
  omega
/-- a row that a part may have -/
structure Sm (b k : Int) (r : Rw) : Prop where
  e0 : -12 ≤ r.e
  e1 : r.e ≤ 12
  m0 : b ≤ 2 * r.m
  m1 : r.m ≤ 100
  l : (r.fs.length : Int) ≤ k
  f : ∀ f, f ∈ r.fs → -r.m ≤ f ∧ f ≤ r.m
theorem Small.sm {b k : Int} {r : Rw} (h : Small b k r) : Sm b k r := ⟨by have := h.e0; omega, by have := h.e1; omega, h.m0, by have := h.m1; omega, h.l, h.f⟩
theorem Sm.ok {b k : Int} {r : Rw} (h : Sm b k r) (b0 : 2 ≤ b) (b1 : b ≤ 16) (hk : k ≤ 60) : r.Ok b :=
  ⟨b0, b1, by have := h.e0; omega, by have := h.e1; omega, by have := h.m0; omega, by have := h.m1; omega, by have := h.l; omega, fun f hf => by have := h.f f hf; have := h.m1; omega⟩
theorem Sm.tight {b k : Int} {r : Rw} (h : Sm b k r) (b0 : 2 ≤ b) (b1 : b ≤ 10) (hk : k ≤ 60) : Sz 600 (r.lo b) ∧ Sz 600 (r.hi b) := by
  have ok := h.ok b0 (by omega) (by omega)
  obtain ⟨e1, e2⟩ := lo_eq ok
  have hl := h.l; have he0 := h.e0; have he1 := h.e1; have m0 := h.m0; have m1 := h.m1
  have wb : (Lb.whole b r.fs).natAbs ≤ 1000 * 16 ^ 60 := by
    have h1 := fold_bound ok.b0 ok.b1 r.fs 0 ok.f
    have h2 : (16 : Nat) ^ r.fs.length ≤ 16 ^ 60 := Nat.pow_le_pow_right (by decide) (by omega)
    unfold Lb.whole
    simp only [Int.natAbs_zero, Nat.zero_add] at h1
    have h4 := Nat.mul_le_mul_left 1000 h2
    omega
  have wb2 : (Lb.whole b r.fs * (b - 1)).natAbs ≤ 1000 * 16 ^ 60 * 16 := by
    rw [Int.natAbs_mul]
    exact Nat.mul_le_mul wb (by omega)
  have c1 : (Lb.whole b r.fs * (b - 1) - r.m).natAbs < 2 ^ 260 := by omega +splitDisjunctions
  have c2 : (Lb.whole b r.fs * (b - 1) + r.m).natAbs < 2 ^ 260 := by omega +splitDisjunctions
  have d1 : (b - 1 : Int).natAbs < 2 ^ 260 := bound_mono (n := 4) (by omega +splitDisjunctions)
  have pw : Sz 320 (r.pw b) := (sz_zpow (k := r.e - (r.fs.length : Int)) (by omega) (by omega)).mono (by omega)
  rw [e1, e2]
  exact ⟨(sz_mul (sz_frac ok.cne c1 d1) pw).mono (by decide), (sz_mul (sz_frac ok.cne c2 d1) pw).mono (by decide)⟩
theorem Sm.cut {b k : Int} {r : Rw} (h : Sm b k r) (j : Int) : Sm b k (r.cut j) := by
  refine ⟨h.e0, h.e1, h.m0, h.m1, ?_, fun f hf => h.f f (List.mem_of_mem_take hf)⟩
  have := h.l
  show ((r.fs.take (j + r.e).toNat).length : Int) ≤ k
  rw [List.length_take]
  omega
theorem Small.cut {b k : Int} {r : Rw} (h : Small b k r) (j : Int) : Small b k (r.cut j) := by
  refine ⟨h.e0, h.e1, h.m0, h.m1, ?_, fun f hf => h.f f (List.mem_of_mem_take hf)⟩
  have := h.l
  show ((r.fs.take (j + r.e).toNat).length : Int) ≤ k
  rw [List.length_take]
  omega
theorem cut_sub {b : Int} (b0 : 2 ≤ b) {j k : Int} (h : j ≤ k) : ∀ {rs : List Rw}, (∀ r, r ∈ rs → 0 ≤ r.m ∧ ∀ f, f ∈ r.fs → -r.m ≤ f ∧ f ≤ r.m) → Sub ((rs.map fun r => r.cut k).map (spanQ b)) ((rs.map fun r => r.cut j).map (spanQ b))
  | [], _ => trivial
  | r :: rs, hr => by
    refine ⟨?_, cut_sub b0 h fun x hx => hr x (List.mem_cons_of_mem _ hx)⟩
    obtain ⟨h0, hf⟩ := hr r (List.mem_cons_self ..)
    have := Rw.cut_in b0 (r := r.cut k) h0 (fun f hf' => hf f (List.mem_of_mem_take hf')) j
    rw [cut_cut h] at this
    exact this
/-- all that may come, behind so much read -/
def reachM (b : Int) (kn : Kn) (rs : List Rw) (rd : Option Int) : Rat × Rat := reachQ b kn ((rs.map (cutR rd)).map (spanQ b))
/-- a number is not too great for a row: what's left of it by the next place -/
def Near (b : Int) (r : Rw) (v : Rat) : Prop := Bd ((2 ^ 50 : Int) : Rat) ((v - r.worth b) * (b : Rat) ^ ((r.fs.length : Int) - r.e + 1))
/-- a number within a row's span is near -/
theorem near_in {b : Int} {r : Rw} {v : Rat} (ok : r.Ok b) (h : r.lo b ≤ v ∧ v ≤ r.hi b) : Near b r v := by
  have bp := ok.bp
  have sp := spread_bd ok
  unfold Near Bd
  unfold Rw.lo Rw.hi at h
  have e : r.tail b * (b : Rat) ^ ((r.fs.length : Int) - r.e + 1) = (r.m : Rat) / ((b - 1 : Int) : Rat) * (b : Rat) := by
    unfold Rw.tail Rw.pw
    rw [Rat.mul_assoc, ← Rat.zpow_add (by grind), show r.e - (r.fs.length : Int) + ((r.fs.length : Int) - r.e + 1) = 1 by omega, Rat.zpow_one]
  have zp : (0 : Rat) < (b : Rat) ^ ((r.fs.length : Int) - r.e + 1) := Rat.zpow_pos bp
  have a1 := Rat.mul_le_mul_of_nonneg_right (c := (b : Rat) ^ ((r.fs.length : Int) - r.e + 1)) (show -r.tail b ≤ v - r.worth b by grind) (Rat.le_of_lt zp)
  have a2 := Rat.mul_le_mul_of_nonneg_right (c := (b : Rat) ^ ((r.fs.length : Int) - r.e + 1)) (show v - r.worth b ≤ r.tail b by grind) (Rat.le_of_lt zp)
  rw [Rat.neg_mul, e] at a1
  rw [e] at a2
  have b16 : (b : Rat) ≤ ((16 : Int) : Rat) := Rat.intCast_le_intCast.mpr ok.b1
  have c1 : (r.m : Rat) / ((b - 1 : Int) : Rat) * (b : Rat) ≤ ((1000 : Int) : Rat) * ((16 : Int) : Rat) :=
    Rat.le_trans (Rat.mul_le_mul_of_nonneg_right sp.2 (Rat.le_of_lt bp)) (Rat.mul_le_mul_of_nonneg_left b16 (by decide))
  rw [← Rat.intCast_mul] at c1
  have c2 : ((1000 * 16 : Int) : Rat) ≤ ((2 ^ 50 : Int) : Rat) := Rat.intCast_le_intCast.mpr (by decide)
  generalize (v - r.worth b) * (b : Rat) ^ ((r.fs.length : Int) - r.e + 1) = x at *
  generalize (r.m : Rat) / ((b - 1 : Int) : Rat) * (b : Rat) = y at *
  generalize ((2 ^ 50 : Int) : Rat) = z at *
  generalize ((1000 * 16 : Int) : Rat) = w at *
  exact ⟨by grind, by grind⟩
theorem near_mono {b : Int} {r : Rw} {u v w : Rat} (bp : (0 : Rat) < (b : Rat)) (h1 : Near b r u) (h2 : Near b r w) (a1 : u ≤ v) (a2 : v ≤ w) : Near b r v := by
  have zp : (0 : Rat) < (b : Rat) ^ ((r.fs.length : Int) - r.e + 1) := Rat.zpow_pos bp
  unfold Near Bd at *
  have c1 := Rat.mul_le_mul_of_nonneg_right (c := (b : Rat) ^ ((r.fs.length : Int) - r.e + 1)) (show u - r.worth b ≤ v - r.worth b by grind) (Rat.le_of_lt zp)
  have c2 := Rat.mul_le_mul_of_nonneg_right (c := (b : Rat) ^ ((r.fs.length : Int) - r.e + 1)) (show v - r.worth b ≤ w - r.worth b by grind) (Rat.le_of_lt zp)
  exact ⟨by grind, by grind⟩
theorem reach_le {b : Int} {kn : Kn} {rs : List Rw} (b0 : 2 ≤ b) (hk : kn.Ok) (hl : rs.length = kn.many) (ok : ∀ r, r ∈ rs → r.Ok b) : (reachQ b kn (rs.map (spanQ b))).1 ≤ (reachQ b kn (rs.map (spanQ b))).2 := by
  have up := up_spans ok
  obtain ⟨⟨c1, h1, e1⟩, _⟩ := reach_ends b kn (rs.map (spanQ b))
  have := vals_within b0 hk (by rw [List.length_map]; exact hl) (ch_ins up h1) up
  exact Rat.le_trans this.1 this.2
theorem reach_szT {b : Int} {kn : Kn} {ss : List (Rat × Rat)} {z : Nat} (b0 : 2 ≤ b) (b1 : b ≤ 16) (hk : kn.Ok) (hl : ss.length = kn.many) (hz : 100 ≤ z) (hs : ∀ s, s ∈ ss → Sz z s.1 ∧ Sz z s.2) : Sz (4 * z + 100) (reachQ b kn ss).1 ∧ Sz (4 * z + 100) (reachQ b kn ss).2 := by
  obtain ⟨⟨c1, h1, e1⟩, c2, h2, e2⟩ := reach_ends b kn ss
  rw [e1, e2]
  exact ⟨Kn.app_sz b0 b1 hk (by rw [h1.len]; exact hl) hz (ch_sz hs c1 h1), Kn.app_sz b0 b1 hk (by rw [h2.len]; exact hl) hz (ch_sz hs c2 h2)⟩
theorem Sm.figs {b k : Int} {r : Rw} (h : Sm b k r) (b0 : 2 ≤ b) : 0 ≤ r.m ∧ ∀ f, f ∈ r.fs → -r.m ≤ f ∧ f ≤ r.m := ⟨by have := h.m0; omega, h.f⟩
theorem Small.figs {b k : Int} {r : Rw} (h : Small b k r) (b0 : 2 ≤ b) : 0 ≤ r.m ∧ ∀ f, f ∈ r.fs → -r.m ≤ f ∧ f ≤ r.m := ⟨by have := h.m0; omega, h.f⟩
theorem cutR_small {b k : Int} {rs : List Rw} (h : ∀ r, r ∈ rs → Sm b k r) (rd : Option Int) : ∀ r, r ∈ rs.map (cutR rd) → Sm b k r := fun r hr => by
  obtain ⟨r0, h0, rfl⟩ := List.mem_map.mp hr
  cases rd with
  | none => exact h r0 h0
  | some j => exact (h r0 h0).cut j
/-- ahead of reading all rows are bare -/
theorem cut_first {rs : List Rw} : rs.map (cutR (firstR rs)) = rs.map fun r => bareR (r.e, r.m) := by
  unfold firstR
  by_cases h : rs = []
  · subst h; rfl
  · rw [if_neg h]
    refine List.map_congr_left fun r hr => ?_
    have := (maxZ_is (xs := rs.map (·.e)) (by simpa using h)).2 r.e (List.mem_map.mpr ⟨r, hr, rfl⟩)
    show r.cut (0 - maxZ (rs.map (·.e))) = bareR (r.e, r.m)
    unfold Rw.cut bareR
    have e0 : (0 - maxZ (rs.map (·.e)) + r.e).toNat = 0 := by omega
    rw [e0, List.take_zero]
/-- what a part with such rows may be like -/
structure Part (b k : Int) (kn : Kn) (rs : List Rw) (e m to : Int) : Prop where
  b0 : 2 ≤ b
  b1 : b ≤ 10
  ko : kn.Ok
  l : rs.length = kn.many
  s : ∀ r, r ∈ rs → Sm b k r
  k1 : k ≤ 60
  e0 : -40 ≤ e
  e1 : e ≤ 40
  m0 : 0 ≤ m
  m1 : m ≤ 1000
  t : to + e ≤ 79
  q1 : Near b ⟨e, m, []⟩ (reachQ b kn ((rs.map fun r => bareR (r.e, r.m)).map (spanQ b))).1
  q2 : Near b ⟨e, m, []⟩ (reachQ b kn ((rs.map fun r => bareR (r.e, r.m)).map (spanQ b))).2
structure MInv (b : Int) (kn : Kn) (rs : List Rw) (e m to : Int) (s : Mst) : Prop where
  nr : NoRows rs s
  n : (s.figs.length : Int) ≤ max 0 (to + e)
  f : ∀ f, f ∈ s.figs → -m ≤ f ∧ f ≤ m
  q1 : Near b (ownR e m s) (reachM b kn rs s.rd).1
  q2 : Near b (ownR e m s) (reachM b kn rs s.rd).2
theorem Part.own {b k : Int} {kn : Kn} {rs : List Rw} {e m to : Int} (h : Part b k kn rs e m to) {s : Mst} (I : MInv b kn rs e m to s) : (ownR e m s).Ok b :=
  ⟨h.b0, by have := h.b1; omega, h.e0, h.e1, h.m0, h.m1, by have := I.n; have := h.t; show s.figs.length ≤ 80; omega, fun f hf => by have := I.f f hf; have := h.m1; omega⟩
theorem Part.fine {b k : Int} {kn : Kn} {rs : List Rw} {e m to : Int} (h : Part b k kn rs e m to) {s : Mst} (I : MInv b kn rs e m to s) : Fine b kn (rs.map (cutR s.rd)) (ownR e m s) := by
  have sm := cutR_small h.s s.rd
  have sz := reach_szT (z := 600) h.b0 (by have := h.b1; omega) h.ko (show ((rs.map (cutR s.rd)).map (spanQ b)).length = kn.many by rw [List.length_map, List.length_map]; exact h.l) (by decide) fun x hx => by
    obtain ⟨r, hr, rfl⟩ := List.mem_map.mp hx
    exact (sm r hr).tight h.b0 h.b1 h.k1
  have up : ((2 ^ 50 : Int) : Rat) ≤ ((2 ^ 60 : Int) : Rat) := Rat.intCast_le_intCast.mpr (by decide)
  exact ⟨h.b0, by have := h.b1; omega, h.ko, by rw [List.length_map]; exact h.l, fun r hr => (sm r hr).ok h.b0 (by have := h.b1; omega) (by have := h.k1; omega), h.own I, sz.1.mono (by decide), sz.2.mono (by decide), Bd.mono I.q1 up, Bd.mono I.q2 up⟩
theorem Part.inv0 {b k : Int} {kn : Kn} {rs : List Rw} {e m to : Int} (h : Part b k kn rs e m to) : MInv b kn rs e m to (st0 rs) := by
  refine ⟨noRows_0 rs, by show (0 : Int) ≤ _; omega, by simp [st0], ?_, ?_⟩
  · unfold reachM
    show Near b _ (reachQ b kn ((rs.map (cutR (firstR rs))).map (spanQ b))).1
    rw [cut_first]; exact h.q1
  · unfold reachM
    show Near b _ (reachQ b kn ((rs.map (cutR (firstR rs))).map (spanQ b))).2
    rw [cut_first]; exact h.q2
theorem Part.read {b k : Int} {kn : Kn} {rs : List Rw} {e m to : Int} (h : Part b k kn rs e m to) {j i : Int} (hji : j ≤ i) : (reachM b kn rs (some j)).1 ≤ (reachM b kn rs (some i)).1 ∧ (reachM b kn rs (some i)).2 ≤ (reachM b kn rs (some j)).2 := by
  have b1 := h.b1
  have k1 := h.k1
  have sub := cut_sub (b := b) h.b0 hji (rs := rs) fun r hr => (h.s r hr).figs h.b0
  have ok : ∀ i r, r ∈ rs.map (cutR (some i)) → r.Ok b := fun i r hr => (cutR_small h.s (some i) r hr).ok h.b0 (by omega) (by omega)
  exact reach_sub h.b0 h.ko (by rw [List.length_map, List.length_map]; exact h.l) (up_spans (ok j)) (up_spans (ok i)) sub
theorem Part.step {b k : Int} {kn : Kn} {rs : List Rw} {e m to : Int} (h : Part b k kn rs e m to) (hc : Ch1 kn = true) {s s' : Mst} (I : MInv b kn rs e m to s) (hs : stepM b kn rs e m to s = some s') : MInv b kn rs e m to s' := by
  have nr' := noRows_step I.nr hs
  have b1 := h.b1
  have k1 := h.k1
  have bp := ratpos (show 0 < b by have := h.b0; omega)
  have own := h.own I
  unfold stepM at hs
  rw [if_pos hc] at hs
  have rle : ∀ rd, (reachM b kn rs rd).1 ≤ (reachM b kn rs rd).2 := fun rd => reach_le h.b0 h.ko (by rw [List.length_map]; exact h.l) fun r hr => (cutR_small h.s rd r hr).ok h.b0 (by omega) (by omega)
  split at hs
  · rename_i d hd
    split at hs
    · cases hs
    · rename_i hp
      cases hs
      obtain ⟨n1, _⟩ := near_is hd
      obtain ⟨⟨d0, d1⟩, c1, c2⟩ := (figs_mem (r := ownR e m s) h.m0).mp n1
      have hn : (s.figs.length : Int) + 1 ≤ max 0 (to + e) := by unfold nextP at hp; omega
      have I' : MInv b kn rs e m to ⟨s.figs ++ [d], s.rd⟩ → True := fun _ => trivial
      have ok' : ((ownR e m s).snoc d).Ok b := own.snoc (by show s.figs.length ≤ 79; have := h.t; omega) (by have := h.m1; have d0' : -m ≤ d := d0; have d1' : d ≤ m := d1; omega)
      have r12 := rle s.rd
      refine ⟨nr', by show ((s.figs ++ [d]).length : Int) ≤ _; rw [List.length_append]; simp only [List.length_cons, List.length_nil]; omega, fun f hf => ?_, ?_, ?_⟩
      · rcases List.mem_append.mp hf with hf | hf
        · exact I.f f hf
        · simp only [List.mem_singleton] at hf
          subst hf; exact ⟨d0, d1⟩
      · exact near_in ok' ⟨c1, Rat.le_trans r12 c2⟩
      · exact near_in ok' ⟨Rat.le_trans c1 r12, c2⟩
  · split at hs
    · rename_i hh
      cases hs
      cases hk : s.rd with
      | none => rw [hk] at hh; cases hh
      | some j =>
        have rr := h.read (show j ≤ j + 1 by omega)
        have q1 := I.q1
        have q2 := I.q2
        rw [hk] at q1 q2 nr'
        have r12 := rle (some (j + 1))
        refine ⟨nr', I.n, I.f, ?_, ?_⟩
        · exact near_mono bp q1 q2 rr.1 (Rat.le_trans r12 rr.2)
        · exact near_mono bp q1 q2 (Rat.le_trans rr.1 r12) rr.2
    · cases hs
theorem Part.inv {b k : Int} {kn : Kn} {rs : List Rw} {e m to : Int} (h : Part b k kn rs e m to) (hc : Ch1 kn = true) {s : Mst} (r : Rch (stepM b kn rs e m to) (st0 rs) s) : MInv b kn rs e m to s :=
  r.of h.inv0 fun _ _ I hs => h.step hc I hs
theorem Part.all {b k : Int} {kn : Kn} {rs : List Rw} {e m to : Int} (h : Part b k kn rs e m to) (hc : Ch1 kn = true) : AllOk b kn rs e m to := fun s r => by
  have I := h.inv hc r
  have m4 := many_le h.ko
  have hl := h.l
  have ht := h.t
  have hn := I.n
  exact ⟨by omega, by omega, fun hr hd => hr (I.nr.mpr hd), fun _ => h.fine I, fun z => by rw [hc] at z; cases z⟩
theorem radd {a b c d : Rat} (h1 : a ≤ b) (h2 : c ≤ d) : a + c ≤ b + d := by grind
/-- a whole number between two numbers that are 1 apart -/
theorem floor_is (q : Rat) : ∃ F : Int, (F : Rat) ≤ q ∧ q < (F : Rat) + 1 := by
  refine ⟨q.num.fdiv (q.den : Int), floor_le.mp (Int.le_refl _), ?_⟩
  refine Rat.not_le.mp fun h => ?_
  have : ((q.num.fdiv (q.den : Int) + 1 : Int) : Rat) ≤ q := by rw [Rat.intCast_add]; exact h
  have := floor_le.mpr this
  omega
/-- a figure is right for all of what's within the row and narrow enough -/
theorem right_exists {b : Int} {r : Rw} {q : Rat × Rat} (ok : r.Ok b) (hm : b ≤ 2 * r.m + 1) (h1 : r.lo b ≤ q.1) (h2 : q.2 ≤ r.hi b) (hw : (q.2 - q.1) * ((b - 1 : Int) : Rat) ≤ ((2 * r.m - b + 1 : Int) : Rat) * r.nx b) : figsR b r q ≠ [] := by
  have b0 := ok.b0
  have nxp := ok.nxp
  have cp := ok.cp
  have tl := Rw.tail_nx (b := b) (r := r) b0
  have ec : (r.m : Rat) / ((b - 1 : Int) : Rat) * ((b - 1 : Int) : Rat) = (r.m : Rat) := by
    generalize ((b - 1 : Int) : Rat) = y at *
    rw [Rat.div_def, Rat.mul_assoc, Rat.inv_mul_cancel _ (by grind), Rat.mul_one]
  have e2 : ((2 * r.m - b + 1 : Int) : Rat) = 2 * (r.m : Rat) - ((b - 1 : Int) : Rat) := by
    rw [show 2 * r.m - b + 1 = 2 * r.m - (b - 1) by omega, Rat.intCast_sub, Rat.intCast_mul]; rfl
  rw [e2] at hw
  obtain ⟨s, hs, sp⟩ : ∃ s, s * r.nx b = 1 ∧ 0 < s := ⟨(r.nx b)⁻¹, Rat.inv_mul_cancel _ (by grind), Rat.inv_pos.mpr nxp⟩
  have elo := fun d => Rw.snoc_lo (b := b) (r := r) b0 d
  have ehi := fun d => Rw.snoc_hi (b := b) (r := r) b0 d
  unfold Rw.lo at h1
  unfold Rw.hi at h2
  rw [tl] at h1 h2
  obtain ⟨F, f1, f2⟩ := floor_is ((q.1 - r.worth b) * s + (r.m : Rat) / ((b - 1 : Int) : Rat))
  -- all by the next place
  have mulS' : ∀ {x y : Rat}, x ≤ y → x * s ≤ y * s := fun {x y} h => Rat.mul_le_mul_of_nonneg_right h (Rat.le_of_lt sp)
  have nxs : ∀ x : Rat, x * r.nx b * s = x := fun x => by rw [Rat.mul_assoc, Rat.mul_comm (r.nx b) s, hs, Rat.mul_one]
  have g1 : -(r.m : Rat) - (r.m : Rat) / ((b - 1 : Int) : Rat) ≤ (q.1 - r.worth b) * s := by
    have a := mulS' (show (-(r.m : Rat) - (r.m : Rat) / ((b - 1 : Int) : Rat)) * r.nx b ≤ q.1 - r.worth b by grind)
    rwa [nxs] at a
  have g2 : (q.2 - r.worth b) * s ≤ (r.m : Rat) + (r.m : Rat) / ((b - 1 : Int) : Rat) := by
    have a := mulS' (show q.2 - r.worth b ≤ ((r.m : Rat) + (r.m : Rat) / ((b - 1 : Int) : Rat)) * r.nx b by grind)
    rwa [nxs] at a
  have g3 : (q.2 - r.worth b) * s - (q.1 - r.worth b) * s ≤ 2 * ((r.m : Rat) / ((b - 1 : Int) : Rat)) - 1 := by
    have e : (q.2 - r.worth b) * s - (q.1 - r.worth b) * s = (q.2 - q.1) * s := by grind
    rw [e]
    have a := mulS' hw
    rw [nxs] at a
    have a2 : (q.2 - q.1) * s * ((b - 1 : Int) : Rat) ≤ (2 * ((r.m : Rat) / ((b - 1 : Int) : Rat)) - 1) * ((b - 1 : Int) : Rat) := by
      have e3 : (q.2 - q.1) * s * ((b - 1 : Int) : Rat) = (q.2 - q.1) * ((b - 1 : Int) : Rat) * s := by grind
      have e4 : (2 * ((r.m : Rat) / ((b - 1 : Int) : Rat)) - 1) * ((b - 1 : Int) : Rat) = 2 * ((r.m : Rat) / ((b - 1 : Int) : Rat) * ((b - 1 : Int) : Rat)) - ((b - 1 : Int) : Rat) := by grind
      rw [e3, e4, ec]; exact a
    exact Rat.le_of_mul_le_mul_right a2 cp
  have back : ∀ d : Int, -r.m ≤ d → d ≤ r.m → (d : Rat) ≤ (q.1 - r.worth b) * s + (r.m : Rat) / ((b - 1 : Int) : Rat) → (q.2 - r.worth b) * s - (r.m : Rat) / ((b - 1 : Int) : Rat) ≤ (d : Rat) → figsR b r q ≠ [] := fun d d0 d1 c1 c2 => by
    refine List.ne_nil_of_mem ((figs_mem (d := d) ok.m0).mpr ⟨⟨d0, d1⟩, ?_, ?_⟩)
    · rw [elo]
      have a := Rat.mul_le_mul_of_nonneg_right c1 (Rat.le_of_lt nxp)
      have e : ((q.1 - r.worth b) * s + (r.m : Rat) / ((b - 1 : Int) : Rat)) * r.nx b = (q.1 - r.worth b) * (s * r.nx b) + (r.m : Rat) / ((b - 1 : Int) : Rat) * r.nx b := by grind
      rw [e, hs] at a
      grind
    · rw [ehi]
      have a := Rat.mul_le_mul_of_nonneg_right c2 (Rat.le_of_lt nxp)
      have e : ((q.2 - r.worth b) * s - (r.m : Rat) / ((b - 1 : Int) : Rat)) * r.nx b = (q.2 - r.worth b) * (s * r.nx b) - (r.m : Rat) / ((b - 1 : Int) : Rat) * r.nx b := by grind
      rw [e, hs] at a
      grind
  generalize (q.1 - r.worth b) * s = Y at *
  generalize (q.2 - r.worth b) * s = Z at *
  generalize (r.m : Rat) / ((b - 1 : Int) : Rat) = c at *
  have F0 : -r.m ≤ F := by
    refine Int.not_lt.mp fun h => ?_
    have : ((F + 1 : Int) : Rat) ≤ ((-r.m : Int) : Rat) := Rat.intCast_le_intCast.mpr (by omega)
    rw [Rat.intCast_add, Rat.intCast_neg] at this
    have o : ((1 : Int) : Rat) = 1 := rfl
    grind
  by_cases hF : F ≤ r.m
  · exact back F F0 hF f1 (by grind)
  · have : ((r.m : Int) : Rat) ≤ (F : Rat) := Rat.intCast_le_intCast.mpr (by omega)
    exact back r.m (by have := ok.m0; omega) (Int.le_refl _) (by grind) (by grind)
/-! ### how wide -/
def Kn.kd : Kn → Option Kd
  | .sum ws v => some (.sum ws v)
  | .times => some .times
  | .over k => some (.over k)
  | .least => some .least
  | .most => some .most
  | _ => none
/-- a span that is no wider than w, no farther from nought than A -/
structure Nar (A w : Rat) (s : Rat × Rat) : Prop where
  l : -A ≤ s.1
  h : s.2 ≤ A
  u : s.1 ≤ s.2
  w : s.2 - s.1 ≤ w
theorem Nar.dist {A w : Rat} {s : Rat × Rat} (h : Nar A w s) {x y : Rat} (hx : x = s.1 ∨ x = s.2) (hy : y = s.1 ∨ y = s.2) : x - y ≤ w ∧ -A ≤ x ∧ x ≤ A := by
  obtain ⟨h1, h2, h3, h4⟩ := h
  rcases hx with rfl | rfl <;> rcases hy with rfl | rfl <;> exact ⟨by grind, by grind, by grind⟩
theorem absmul {A x d w : Rat} (h1 : -A ≤ x) (h2 : x ≤ A) (h3 : d ≤ w) (h4 : -w ≤ d) : x * d ≤ A * w := by
  have A0 : 0 ≤ A := by grind
  have w0 : 0 ≤ w := by grind
  rcases (Rat.le_total : 0 ≤ d ∨ d ≤ 0) with hd | hd
  · have a1 := Rat.mul_le_mul_of_nonneg_right h2 hd
    have a2 := Rat.mul_le_mul_of_nonneg_left h3 A0
    exact Rat.le_trans a1 a2
  · have a1 := Rat.mul_le_mul_of_nonneg_right (show -x ≤ A by grind) (show 0 ≤ -d by grind)
    have a2 := Rat.mul_le_mul_of_nonneg_left (show -d ≤ w by grind) A0
    have e : -x * -d = x * d := by grind
    rw [e] at a1
    exact Rat.le_trans a1 a2
/-- sources' spans behind so much read: z, a place's worth -/
def Nars (b : Int) (z : Rat) : List (Rat × Rat) → List (Int × Int) → Prop
  | [], [] => True
  | s :: ss, p :: ps => Nar (rim b p.1 p.2) (((2 * p.2 : Int) : Rat) / ((b - 1 : Int) : Rat) * z) s ∧ Nars b z ss ps
  | _, _ => False
theorem ch2' {s t : Rat × Rat} {xs : List Rat} (h : Ch [s, t] xs) : ∃ x y, xs = [x, y] ∧ (x = s.1 ∨ x = s.2) ∧ (y = t.1 ∨ y = t.2) := by
  match xs, h with
  | [x, y], ⟨h1, h2, _⟩ => exact ⟨x, y, rfl, h1, h2⟩
theorem wide1_le {b : Int} {z : Rat} (b0 : 2 ≤ b) : ∀ (ws : List Int) (ss : List (Rat × Rat)) (ps : List (Int × Int)), ws.length = ss.length → Nars b z ss ps → wide1 ws ss * ((b - 1 : Int) : Rat) ≤ 2 * ((sumW ws (ps.map (·.2)) : Int) : Rat) * z
  | [], [], [], _, _ => by
    have : sumW [] (List.map (fun x : Int × Int => x.2) []) = 0 := rfl
    rw [this]; unfold wide1
    have : ((0 : Int) : Rat) = 0 := rfl
    rw [this]; grind
  | [], [], _ :: _, _, h => h.elim
  | _ :: _, [], _, hl, _ => by simp at hl
  | [], _ :: _, _, hl, _ => by simp at hl
  | _ :: _, _ :: _, [], _, h => h.elim
  | w :: ws, s :: ss, p :: ps, hl, h => by
    have ih := wide1_le b0 ws ss ps (by simpa using hl) h.2
    have cp : (0 : Rat) < ((b - 1 : Int) : Rat) := ratpos (by omega)
    have e : sumW (w :: ws) ((p :: ps).map (·.2)) = abI w * p.2 + sumW ws (ps.map (·.2)) := by simp [sumW]
    rw [e, Rat.intCast_add, Rat.intCast_mul]
    unfold wide1
    have a0 : (0 : Rat) ≤ ((abI w : Int) : Rat) := by
      have : ((0 : Int) : Rat) ≤ ((abI w : Int) : Rat) := Rat.intCast_le_intCast.mpr (by unfold abI; split <;> omega)
      exact this
    have a1 := Rat.mul_le_mul_of_nonneg_left h.1.w a0
    have a2 := Rat.mul_le_mul_of_nonneg_right a1 (Rat.le_of_lt cp)
    have e2 : ((abI w : Int) : Rat) * (((2 * p.2 : Int) : Rat) / ((b - 1 : Int) : Rat) * z) * ((b - 1 : Int) : Rat) = 2 * (((abI w : Int) : Rat) * (p.2 : Rat)) * z := by
      rw [Rat.intCast_mul]
      have o : ((2 : Int) : Rat) = 2 := rfl
      rw [o]
      generalize ((b - 1 : Int) : Rat) = y at *
      have : (2 * (p.2 : Rat)) / y * y = 2 * (p.2 : Rat) := by rw [Rat.div_def, Rat.mul_assoc, Rat.inv_mul_cancel _ (by grind), Rat.mul_one]
      grind
    rw [e2] at a2
    generalize ((b - 1 : Int) : Rat) = y at *
    generalize wide1 ws ss = u at *
    generalize ((abI w : Int) : Rat) * (s.2 - s.1) = v at *
    grind
/-- how wide what may come is at most -/
theorem reach_wid {b : Int} {kn : Kn} {kd : Kd} {ss : List (Rat × Rat)} {ps : List (Int × Int)} {z : Rat} (hkd : kn.kd = some kd) (b0 : 2 ≤ b) (hk : kn.Ok) (hko : ∀ k, kn = .over k → 0 ≤ k) (hl : ss.length = kn.many) (hz : 0 < z) (hp : ∀ p, p ∈ ps → 0 ≤ p.2) (h : Nars b z ss ps) :
    ((reachQ b kn ss).2 - (reachQ b kn ss).1) * ((b - 1 : Int) : Rat) ≤ 2 * kd.wide b ps * z := by
  have cp : (0 : Rat) < ((b - 1 : Int) : Rat) := ratpos (by omega)
  have bp : (0 : Rat) < (b : Rat) := ratpos (by omega)
  -- of two sources
  have two : ∀ {W : Rat}, kn.many = 2 → (∀ s t p q x y x' y', ss = [s, t] → ps = [p, q] → (x = s.1 ∨ x = s.2) → (x' = s.1 ∨ x' = s.2) → (y = t.1 ∨ y = t.2) → (y' = t.1 ∨ y' = t.2) → Nar (rim b p.1 p.2) (((2 * p.2 : Int) : Rat) / ((b - 1 : Int) : Rat) * z) s → Nar (rim b q.1 q.2) (((2 * q.2 : Int) : Rat) / ((b - 1 : Int) : Rat) * z) t → (kn.app b [x, y] - kn.app b [x', y']) * ((b - 1 : Int) : Rat) ≤ W) →
      ((reachQ b kn ss).2 - (reachQ b kn ss).1) * ((b - 1 : Int) : Rat) ≤ W := fun {W} hm hW => by
    match ss, ps, (by rw [hl, hm] : ss.length = 2), h with
    | [s, t], [p, q], _, ⟨n1, n2, _⟩ =>
      obtain ⟨⟨c1, h1, e1⟩, c2, h2, e2⟩ := reach_ends b kn [s, t]
      obtain ⟨x', y', rfl, hx', hy'⟩ := ch2' h1
      obtain ⟨x, y, rfl, hx, hy⟩ := ch2' h2
      rw [e1, e2]
      exact hW s t p q x y x' y' rfl rfl hx hx' hy hy' n1 n2
  have wc : ∀ m : Int, ((2 * m : Int) : Rat) / ((b - 1 : Int) : Rat) * z * ((b - 1 : Int) : Rat) = 2 * (m : Rat) * z := fun m => by
    rw [Rat.intCast_mul]
    have o : ((2 : Int) : Rat) = 2 := rfl
    rw [o]
    generalize ((b - 1 : Int) : Rat) = y at *
    have : (2 * (m : Rat)) / y * y = 2 * (m : Rat) := by rw [Rat.div_def, Rat.mul_assoc, Rat.inv_mul_cancel _ (by grind), Rat.mul_one]
    grind
  have mx : ∀ p q : Int × Int, ps = [p, q] → 2 * (p.2 : Rat) * z ≤ 2 * ((maxI (ps.map (·.2)) : Int) : Rat) * z ∧ 2 * (q.2 : Rat) * z ≤ 2 * ((maxI (ps.map (·.2)) : Int) : Rat) * z := fun p q e => by
    have h1 : p.2 ≤ maxI (ps.map (·.2)) := maxI_ge (by rw [e]; simp)
    have h2 : q.2 ≤ maxI (ps.map (·.2)) := maxI_ge (by rw [e]; simp)
    have h1' := Rat.intCast_le_intCast.mpr h1
    have h2' := Rat.intCast_le_intCast.mpr h2
    exact ⟨Rat.mul_le_mul_of_nonneg_right (by grind) (Rat.le_of_lt hz), Rat.mul_le_mul_of_nonneg_right (by grind) (Rat.le_of_lt hz)⟩
  cases kn with
  | sum ws v =>
    cases hkd
    have vp := ratpos (show 0 < v by have := hk.2.2.1; omega)
    have up : Up ss := by
      clear two mx
      have : ∀ (ss : List (Rat × Rat)) (ps : List (Int × Int)), Nars b z ss ps → Up ss := fun ss => by
        induction ss with
        | nil => intro ps _ s hs; cases hs
        | cons s ss ih =>
          intro ps hn
          cases ps with
          | nil => exact hn.elim
          | cons p ps =>
            intro x hx
            rcases List.mem_cons.mp hx with rfl | hx
            · exact hn.1.u
            · exact ih ps hn.2 x hx
      exact this ss ps h
    rw [reach_sum hk.2.2.1 hl.symm up]
    dsimp only
    have a := wide1_le b0 ws ss ps hl.symm h
    have e : wsum ws (sumHi ws ss) / (v : Rat) - wsum ws (sumLo ws ss) / (v : Rat) = wide1 ws ss / (v : Rat) := by rw [← sum_wide]; grind
    rw [e]
    unfold Kd.wide
    dsimp only
    have iv := Rat.inv_pos.mpr vp
    have a2 := Rat.mul_le_mul_of_nonneg_right a (Rat.le_of_lt iv)
    rw [Rat.div_def, Rat.div_def]
    generalize (v : Rat)⁻¹ = i at *
    generalize ((b - 1 : Int) : Rat) = y at *
    grind
  | least =>
    cases hkd
    refine two rfl fun s t p q x y x' y' e1 e2 hx hx' hy hy' n1 n2 => ?_
    have d1 := (n1.dist hx hx').1
    have d2 := (n2.dist hy hy').1
    obtain ⟨m1, m2⟩ := mx p q e2
    have f1 := Rat.mul_le_mul_of_nonneg_right d1 (Rat.le_of_lt cp)
    have f2 := Rat.mul_le_mul_of_nonneg_right d2 (Rat.le_of_lt cp)
    rw [wc] at f1 f2
    show (min x y - min x' y') * ((b - 1 : Int) : Rat) ≤ 2 * ((maxI (ps.map (·.2)) : Int) : Rat) * z
    have : min x y - min x' y' ≤ x - x' ∨ min x y - min x' y' ≤ y - y' := by grind
    rcases this with h | h
    · exact Rat.le_trans (Rat.mul_le_mul_of_nonneg_right h (Rat.le_of_lt cp)) (Rat.le_trans f1 m1)
    · exact Rat.le_trans (Rat.mul_le_mul_of_nonneg_right h (Rat.le_of_lt cp)) (Rat.le_trans f2 m2)
  | most =>
    cases hkd
    refine two rfl fun s t p q x y x' y' e1 e2 hx hx' hy hy' n1 n2 => ?_
    have d1 := (n1.dist hx hx').1
    have d2 := (n2.dist hy hy').1
    obtain ⟨m1, m2⟩ := mx p q e2
    have f1 := Rat.mul_le_mul_of_nonneg_right d1 (Rat.le_of_lt cp)
    have f2 := Rat.mul_le_mul_of_nonneg_right d2 (Rat.le_of_lt cp)
    rw [wc] at f1 f2
    show (max x y - max x' y') * ((b - 1 : Int) : Rat) ≤ 2 * ((maxI (ps.map (·.2)) : Int) : Rat) * z
    have : max x y - max x' y' ≤ x - x' ∨ max x y - max x' y' ≤ y - y' := by grind
    rcases this with h | h
    · exact Rat.le_trans (Rat.mul_le_mul_of_nonneg_right h (Rat.le_of_lt cp)) (Rat.le_trans f1 m1)
    · exact Rat.le_trans (Rat.mul_le_mul_of_nonneg_right h (Rat.le_of_lt cp)) (Rat.le_trans f2 m2)
  | times =>
    cases hkd
    refine two rfl fun s t p q x y x' y' e1 e2 hx hx' hy hy' n1 n2 => ?_
    have d1 := n1.dist hx hx'
    have d1' := n1.dist hx' hx
    have d2 := n2.dist hy hy'
    have d2' := n2.dist hy' hy
    have a1 := absmul d1.2.1 d1.2.2 d2.1 (show _ ≤ y - y' by grind)
    have a2 := absmul d2'.2.1 d2'.2.2 d1.1 (show _ ≤ x - x' by grind)
    rw [e2]
    show (x * y - x' * y') * _ ≤ 2 * (((p.2 * q.2 : Int) : Rat) / ((b - 1 : Int) : Rat) * ((b : Rat) ^ p.1 + (b : Rat) ^ q.1)) * z
    have e3 : x * y - x' * y' = x * (y - y') + y' * (x - x') := by grind
    rw [e3]
    have a3 := Rat.mul_le_mul_of_nonneg_right (radd a1 a2) (Rat.le_of_lt cp)
    refine Rat.le_trans a3 ?_
    have e4 : (rim b p.1 p.2 * (((2 * q.2 : Int) : Rat) / ((b - 1 : Int) : Rat) * z) + rim b q.1 q.2 * (((2 * p.2 : Int) : Rat) / ((b - 1 : Int) : Rat) * z)) * ((b - 1 : Int) : Rat) = rim b p.1 p.2 * (2 * (q.2 : Rat) * z) + rim b q.1 q.2 * (2 * (p.2 : Rat) * z) := by
      rw [← wc q.2, ← wc p.2]; grind
    rw [e4]
    unfold rim
    rw [Rat.intCast_mul]
    generalize ((b - 1 : Int) : Rat) = Y at *
    generalize (b : Rat) ^ p.1 = B0 at *
    generalize (b : Rat) ^ q.1 = B1 at *
    rw [Rat.div_def, Rat.div_def, Rat.div_def]
    generalize Y⁻¹ = I at *
    have : ∀ a b : Rat, a = b → a ≤ b := fun a b h => by rw [h]; exact Rat.le_refl
    exact this _ _ (by grind)
  | over k =>
    cases hkd
    have k0 := hko k rfl
    refine two rfl fun s t p q x y x' y' e1 e2 hx hx' hy hy' n1 n2 => ?_
    have d1 := n1.dist hx hx'
    have d1' := n1.dist hx' hx
    have d2 := n2.dist hy hy'
    have d2' := n2.dist hy' hy
    have Cp : (0 : Rat) < (b : Rat) ^ (-k) := Rat.zpow_pos bp
    have Bp : (0 : Rat) < (b : Rat) ^ k := Rat.zpow_pos bp
    have BC : (b : Rat) ^ k * (b : Rat) ^ (-k) = 1 := by rw [← Rat.zpow_add (by grind), show k + -k = 0 by omega, Rat.zpow_zero]
    rw [e2]
    show (x / max y ((b : Rat) ^ (-k)) - x' / max y' ((b : Rat) ^ (-k))) * _ ≤ 2 * ((p.2 : Rat) * (b : Rat) ^ k * (((1 : Int) : Rat) + (q.2 : Rat) / ((b - 1 : Int) : Rat) * (b : Rat) ^ k * (b : Rat) ^ p.1)) * z
    obtain ⟨Y, hY⟩ : ∃ Y, Y = max y ((b : Rat) ^ (-k)) := ⟨_, rfl⟩
    obtain ⟨Y', hY'⟩ : ∃ Y', Y' = max y' ((b : Rat) ^ (-k)) := ⟨_, rfl⟩
    rw [← hY, ← hY']
    have y1 : (b : Rat) ^ (-k) ≤ Y := by rw [hY]; grind
    have y2 : (b : Rat) ^ (-k) ≤ Y' := by rw [hY']; grind
    have w0 : 0 ≤ ((2 * q.2 : Int) : Rat) / ((b - 1 : Int) : Rat) * z := by grind
    have y3 : Y - Y' ≤ ((2 * q.2 : Int) : Rat) / ((b - 1 : Int) : Rat) * z ∧ -(((2 * q.2 : Int) : Rat) / ((b - 1 : Int) : Rat) * z) ≤ Y - Y' := by rw [hY, hY']; grind
    have Yp : 0 < Y := by grind
    have Yp' : 0 < Y' := by grind
    have iY : 0 < Y⁻¹ := Rat.inv_pos.mpr Yp
    have iY' : 0 < Y'⁻¹ := Rat.inv_pos.mpr Yp'
    have cY : Y⁻¹ * Y = 1 := Rat.inv_mul_cancel _ (by grind)
    have cY' : Y'⁻¹ * Y' = 1 := Rat.inv_mul_cancel _ (by grind)
    -- the inverses are no more than the clip's
    have invle : ∀ {u i : Rat}, 0 < i → i * u = 1 → (b : Rat) ^ (-k) ≤ u → i ≤ (b : Rat) ^ k := fun {u i} ip iu hu => by
      have a := Rat.mul_le_mul_of_nonneg_left hu (Rat.le_of_lt ip)
      rw [iu] at a
      have a2 := Rat.mul_le_mul_of_nonneg_left a (Rat.le_of_lt Bp)
      have e : (b : Rat) ^ k * (i * (b : Rat) ^ (-k)) = i * ((b : Rat) ^ k * (b : Rat) ^ (-k)) := by grind
      rw [e, BC] at a2
      grind
    have i1 := invle iY cY y1
    have i2 := invle iY' cY' y2
    have e3 : x / Y - x' / Y' = (x - x') * Y⁻¹ + x' * ((Y' - Y) * (Y⁻¹ * Y'⁻¹)) := by
      rw [Rat.div_def, Rat.div_def]
      have : (Y' - Y) * (Y⁻¹ * Y'⁻¹) = Y⁻¹ * (Y'⁻¹ * Y') - (Y⁻¹ * Y) * Y'⁻¹ := by grind
      rw [this, cY, cY']; grind
    have w1 : 0 ≤ ((2 * p.2 : Int) : Rat) / ((b - 1 : Int) : Rat) * z := by grind
    have b1 : (x - x') * Y⁻¹ ≤ ((2 * p.2 : Int) : Rat) / ((b - 1 : Int) : Rat) * z * (b : Rat) ^ k :=
      Rat.le_trans (Rat.mul_le_mul_of_nonneg_right d1.1 (Rat.le_of_lt iY)) (Rat.mul_le_mul_of_nonneg_left i1 w1)
    have ii : 0 ≤ Y⁻¹ * Y'⁻¹ := Rat.mul_nonneg (Rat.le_of_lt iY) (Rat.le_of_lt iY')
    have iile : Y⁻¹ * Y'⁻¹ ≤ (b : Rat) ^ k * (b : Rat) ^ k := Rat.le_trans (Rat.mul_le_mul_of_nonneg_right i1 (Rat.le_of_lt iY')) (Rat.mul_le_mul_of_nonneg_left i2 (Rat.le_of_lt Bp))
    have c1 : (Y' - Y) * (Y⁻¹ * Y'⁻¹) ≤ ((2 * q.2 : Int) : Rat) / ((b - 1 : Int) : Rat) * z * ((b : Rat) ^ k * (b : Rat) ^ k) :=
      Rat.le_trans (Rat.mul_le_mul_of_nonneg_right (show Y' - Y ≤ _ by grind) ii) (Rat.mul_le_mul_of_nonneg_left iile w0)
    have c2 : -(((2 * q.2 : Int) : Rat) / ((b - 1 : Int) : Rat) * z * ((b : Rat) ^ k * (b : Rat) ^ k)) ≤ (Y' - Y) * (Y⁻¹ * Y'⁻¹) := by
      have a := Rat.le_trans (Rat.mul_le_mul_of_nonneg_right (show -(Y' - Y) ≤ ((2 * q.2 : Int) : Rat) / ((b - 1 : Int) : Rat) * z by grind) ii) (Rat.mul_le_mul_of_nonneg_left iile w0)
      rw [Rat.neg_mul] at a
      grind
    have b2 := absmul d1'.2.1 d1'.2.2 c1 c2
    rw [e3]
    have a3 := Rat.mul_le_mul_of_nonneg_right (radd b1 b2) (Rat.le_of_lt cp)
    refine Rat.le_trans a3 ?_
    have e4 : (((2 * p.2 : Int) : Rat) / ((b - 1 : Int) : Rat) * z * (b : Rat) ^ k + rim b p.1 p.2 * (((2 * q.2 : Int) : Rat) / ((b - 1 : Int) : Rat) * z * ((b : Rat) ^ k * (b : Rat) ^ k))) * ((b - 1 : Int) : Rat) = 2 * (p.2 : Rat) * z * (b : Rat) ^ k + rim b p.1 p.2 * (2 * (q.2 : Rat) * z * ((b : Rat) ^ k * (b : Rat) ^ k)) := by
      rw [← wc q.2, ← wc p.2]; grind
    rw [e4]
    unfold rim
    have o1 : ((1 : Int) : Rat) = 1 := rfl
    rw [o1]
    generalize ((b - 1 : Int) : Rat) = U at *
    generalize (b : Rat) ^ p.1 = B0 at *
    generalize (b : Rat) ^ k = B1 at *
    rw [Rat.div_def, Rat.div_def]
    generalize U⁻¹ = I at *
    have : ∀ a b : Rat, a = b → a ≤ b := fun a b h => by rw [h]; exact Rat.le_refl
    exact this _ _ (by grind)
  | loose ws => cases hkd
  | moved e => cases hkd
  | told q => cases hkd
  | choose => cases hkd
/-- a begin and a most of a part's own row, as they're drawn -/
structure Shp (b : Int) (kn : Kn) (ss : List (Int × Int)) (e m : Int) : Prop where
  e0 : -12 ≤ e
  e1 : e ≤ 29
  m0 : b ≤ 2 * m
  m1 : m ≤ 60
  f : fitB b kn ss e m = true
  c : Ch1 kn = true → m ≤ 15 ∧ ∃ e0, -12 ≤ e0 ∧ e0 ≤ 28 ∧ (e = e0 ∨ e = e0 + 1) ∧ fitB b kn ss e0 m = true ∧ (e0 = -12 ∨ fitB b kn ss (e0 - 1) m = false)
def shapes (rs : List Rw) : List (Int × Int) := rs.map fun r => (r.e, r.m)
/-! ### shapes -/
def shBare (rs : List Rw) : (shapes rs).map bareR = rs.map fun r => bareR (r.e, r.m) := by unfold shapes; rw [List.map_map]; rfl
theorem bare_span {b : Int} (q : Int × Int) : spanQ b (bareR q) = (-rim b q.1 q.2, rim b q.1 q.2) := by
  show ((bareR q).lo b, (bareR q).hi b) = _
  rw [(bare_lo b q).1, (bare_lo b q).2]
/-! ### cut rows -/
theorem cut_nar {b k R : Int} {r : Rw} (b0 : 2 ≤ b) (h : Sm b k r) (hR : R ≤ known r) : Nar (rim b r.e r.m) (((2 * r.m : Int) : Rat) / ((b - 1 : Int) : Rat) * (b : Rat) ^ (-R)) (spanQ b (r.cut R)) := by
  have hc := h.cut R
  have f := hc.figs b0
  have ci := Rw.cut_in b0 f.1 f.2 (-r.e)
  have eb : (r.cut R).cut (-r.e) = bareR (r.e, r.m) := by
    unfold Rw.cut bareR
    simp
    exact .inl (by omega)
  rw [eb] at ci
  have bs := bare_span (b := b) (r.e, r.m)
  have bs1 : (bareR (r.e, r.m)).lo b = -rim b r.e r.m := congrArg Prod.fst bs
  have bs2 : (bareR (r.e, r.m)).hi b = rim b r.e r.m := congrArg Prod.snd bs
  rw [bs1, bs2] at ci
  have m0 : 0 ≤ r.m := by have := h.m0; omega
  have cp := ratpos (show 0 < b - 1 by omega)
  have mc : (0 : Rat) ≤ (r.m : Rat) / ((b - 1 : Int) : Rat) := by
    rw [Rat.div_def]
    refine Rat.mul_nonneg ?_ (Rat.le_of_lt (Rat.inv_pos.mpr cp))
    have : ((0 : Int) : Rat) ≤ (r.m : Rat) := Rat.intCast_le_intCast.mpr m0
    exact this
  have pp : (0 : Rat) < (r.cut R).pw b := Rat.zpow_pos (ratpos (by omega))
  have t0 : 0 ≤ (r.cut R).tail b := Rat.mul_nonneg mc (Rat.le_of_lt pp)
  have pl : (r.cut R).pw b ≤ (b : Rat) ^ (-R) := by
    refine zpow_mono (by omega) ?_
    show r.e - ((r.fs.take (R + r.e).toNat).length : Int) ≤ -R
    rw [List.length_take]
    unfold known at hR
    omega
  have tl := Rat.mul_le_mul_of_nonneg_left pl mc
  have e2 : ((2 * r.m : Int) : Rat) / ((b - 1 : Int) : Rat) * (b : Rat) ^ (-R) = 2 * ((r.m : Rat) / ((b - 1 : Int) : Rat) * (b : Rat) ^ (-R)) := by
    rw [Rat.intCast_mul]
    have o : ((2 : Int) : Rat) = 2 := rfl
    rw [o]; grind
  have tl2 : (r.cut R).tail b ≤ (r.m : Rat) / ((b - 1 : Int) : Rat) * (b : Rat) ^ (-R) := tl
  refine ⟨ci.1, ci.2, ?_, ?_⟩
  · show (r.cut R).worth b - (r.cut R).tail b ≤ (r.cut R).worth b + (r.cut R).tail b
    generalize (r.cut R).tail b = t at *
    generalize (r.cut R).worth b = w at *
    grind
  · rw [e2]
    show (r.cut R).worth b + (r.cut R).tail b - ((r.cut R).worth b - (r.cut R).tail b) ≤ _
    generalize (r.cut R).tail b = t at *
    generalize (r.cut R).worth b = w at *
    grind
theorem cut_nars {b k R : Int} (b0 : 2 ≤ b) : ∀ {rs : List Rw}, (∀ r, r ∈ rs → Sm b k r ∧ R ≤ known r) → Nars b ((b : Rat) ^ (-R)) ((rs.map fun r => r.cut R).map (spanQ b)) (shapes rs)
  | [], _ => trivial
  | r :: rs, h => ⟨cut_nar b0 (h r (List.mem_cons_self ..)).1 (h r (List.mem_cons_self ..)).2, cut_nars b0 fun x hx => h x (List.mem_cons_of_mem _ hx)⟩
structure SrcOk (b : Int) (p : Int × Int) : Prop where
  e0 : -2 ≤ p.1
  e1 : p.1 ≤ 3
  m0 : b ≤ 2 * p.2
  m1 : p.2 ≤ 15
theorem Rch.head {f : Mst → Option Mst} {s s' t : Mst} (h : f s = some s') (r : Rch f s' t) : Rch f s t := by
  induction r with
  | refl => exact .step .refl h
  | step _ h2 ih => exact .step ih h2
theorem Runs.last {f : Mst → Option Mst} {s t : Mst} {tr tr' : List (Option Int × Int)} (h : Runs f s tr t tr') : Rch f s t ∧ f t = none := by
  induction h with
  | stop h => exact ⟨.refl, h⟩
  | go h _ ih => exact ⟨Rch.head h ih.1, ih.2⟩
/-- what may come is within the part's own row; no place is read that a row hasn't got -/
structure Wit (b : Int) (kn : Kn) (rs : List Rw) (e m : Int) (s : Mst) : Prop where
  lo : (ownR e m s).lo b ≤ (reachM b kn rs s.rd).1
  hi : (reachM b kn rs s.rd).2 ≤ (ownR e m s).hi b
  k : ∀ R, s.rd = some R → ∀ r, r ∈ rs → R ≤ known r
theorem wit0 {b : Int} {kn : Kn} {rs : List Rw} {e m : Int} (hc : Ch1 kn = true) (hf : fitB b kn (shapes rs) e m = true) : Wit b kn rs e m (st0 rs) := by
  have n1 : ∀ ws, kn ≠ .loose ws := fun ws z => by subst z; cases hc
  have n2 : ∀ k, kn ≠ .moved k := fun k z => by subst z; cases hc
  rw [fitB_of n1 n2, Bool.and_eq_true, decide_eq_true_eq, decide_eq_true_eq] at hf
  have eq : reachM b kn rs (st0 rs).rd = reachB b kn (shapes rs) := by
    unfold reachM reachB
    show reachQ b kn ((rs.map (cutR (firstR rs))).map (spanQ b)) = _
    rw [cut_first, shBare]
  have bs := bare_span (b := b) (e, m)
  have bs1 : (ownR e m (st0 rs)).lo b = -rim b e m := congrArg Prod.fst bs
  have bs2 : (ownR e m (st0 rs)).hi b = rim b e m := congrArg Prod.snd bs
  refine ⟨?_, ?_, fun R hR r hr => ?_⟩
  · rw [eq, bs1]; exact (aQ_le.mp hf.1).1
  · rw [eq, bs2]; exact (aQ_le.mp hf.2).2
  · have hR' : firstR rs = some R := hR
    unfold firstR at hR'
    have ne : rs ≠ [] := fun z => by rw [z] at hr; cases hr
    rw [if_neg ne] at hR'
    have hR2 : 0 - maxZ (rs.map (·.e)) = R := Option.some.inj hR'
    have := (maxZ_is (xs := rs.map (·.e)) (by simpa using ne)).2 r.e (List.mem_map.mpr ⟨r, hr, rfl⟩)
    unfold known
    omega
theorem hasN_lt {rs : List Rw} {R : Int} (h : hasN rs (some R) = true) : ∀ r, r ∈ rs → R < known r := fun r hr => by
  unfold hasN at h
  rw [List.all_eq_true] at h
  simpa using h r hr
/-- enough read: a figure is right -/
theorem Part.enough {b k R : Int} {kn : Kn} {kd : Kd} {rs : List Rw} {e m to : Int} (h : Part b k kn rs e m to) (hkd : kn.kd = some kd) (ko : ∀ k, kn = .over k → 0 ≤ k) {s : Mst} (I : MInv b kn rs e m to s) (W : Wit b kn rs e m s) (hR : s.rd = some R) (hm : b ≤ 2 * m)
    (hw : 2 * kd.wide b (shapes rs) * (b : Rat) ^ (-R) ≤ ((2 * m - b + 1 : Int) : Rat) * (b : Rat) ^ (e - (s.figs.length : Int) - 1)) : near (rightM b kn rs e m s) ≠ none := by
  intro z
  have b0 := h.b0
  have ns := cut_nars (k := k) (R := R) b0 (rs := rs) fun r hr => ⟨h.s r hr, W.k R hR r hr⟩
  have er : rs.map (cutR s.rd) = rs.map fun r => r.cut R := by rw [hR]; rfl
  have rw1 := reach_wid hkd b0 h.ko ko (by rw [List.length_map, List.length_map]; exact h.l) (Rat.zpow_pos (ratpos (by omega))) (fun p hp => by
    obtain ⟨r, hr, rfl⟩ := List.mem_map.mp hp
    have := (h.s r hr).m0
    show 0 ≤ r.m
    omega) ns
  refine right_exists (q := reachM b kn rs s.rd) (h.own I) (by show b ≤ 2 * m + 1; omega) W.lo W.hi ?_ (near_none.mp z)
  unfold reachM
  rw [er]
  exact Rat.le_trans rw1 hw
theorem sm_bare {b k : Int} {r : Rw} (b0 : 2 ≤ b) (k0 : 0 ≤ k) (h : Sm b k r) : Sm b k (bareR (r.e, r.m)) := ⟨h.e0, h.e1, h.m0, h.m1, by show (0 : Int) ≤ k; exact k0, fun f hf => by cases hf⟩
/-- a part whose shape fits is one -/
theorem Part.ofS {b k : Int} {kn : Kn} {rs : List Rw} {e m to : Int} (b0 : 2 ≤ b) (b1 : b ≤ 10) (ko : kn.Ok) (hc : Ch1 kn = true) (l : rs.length = kn.many) (s : ∀ r, r ∈ rs → Sm b k r) (k1 : k ≤ 60) (e0 : -40 ≤ e) (e1 : e ≤ 40) (m0 : 0 ≤ m) (m1 : m ≤ 1000) (t : to + e ≤ 79) (hf : fitB b kn (shapes rs) e m = true) : Part b k kn rs e m to := by
  have W := wit0 (rs := rs) hc hf
  have ok : (ownR e m (st0 rs)).Ok b := ⟨b0, by omega, e0, e1, m0, m1, by show (0 : Nat) ≤ 80; omega, fun f hf' => by cases hf'⟩
  have eq : reachM b kn rs (st0 rs).rd = reachQ b kn ((rs.map fun r => bareR (r.e, r.m)).map (spanQ b)) := by
    unfold reachM
    show reachQ b kn ((rs.map (cutR (firstR rs))).map (spanQ b)) = _
    rw [cut_first]
  have lo := W.lo
  have hi := W.hi
  rw [eq] at lo hi
  have bok : ∀ r, r ∈ (rs.map fun r => bareR (r.e, r.m)) → r.Ok b := fun r hr => by
    obtain ⟨r', hr', rfl⟩ := List.mem_map.mp hr
    exact (sm_bare (k := k) b0 (by have := (s r' hr').l; omega) (s r' hr')).ok b0 (by omega) (by omega)
  have le := reach_le (b := b) (kn := kn) b0 ko (by rw [List.length_map]; exact l) bok
  exact ⟨b0, b1, ko, l, s, k1, e0, e1, m0, m1, t, near_in ok ⟨lo, Rat.le_trans le hi⟩, near_in ok ⟨Rat.le_trans lo le, hi⟩⟩
theorem Part.of {b k : Int} {kn : Kn} {rs : List Rw} {e m to : Int} (b0 : 2 ≤ b) (b1 : b ≤ 10) (ko : kn.Ok) (hc : Ch1 kn = true) (l : rs.length = kn.many) (s : ∀ r, r ∈ rs → Small b k r) (k1 : k ≤ 40) (e0 : -40 ≤ e) (e1 : e ≤ 40) (m0 : 0 ≤ m) (m1 : m ≤ 1000) (t : to + e ≤ 79) (hf : fitB b kn (shapes rs) e m = true) : Part b k kn rs e m to :=
  Part.ofS b0 b1 ko hc l (fun r hr => (s r hr).sm) (by omega) e0 e1 m0 m1 t hf
/-! ### runs -/
theorem Runs.pre {f g : Mst → Option Mst} {I : Mst → Prop} (hI : ∀ s s', I s → f s = some s' → I s') (hle : ∀ s s', I s → f s = some s' → g s = some s') {s t u : Mst} {tr tr' tr2 : List (Option Int × Int)} (h1 : Runs f s tr t tr') : I s → Runs g s tr u tr2 → Runs g t tr' u tr2 ∧ I t := by
  induction h1 with
  | stop _ => exact fun i h2 => ⟨h2, i⟩
  | go h _ ih =>
    intro i h2
    have hg := hle _ _ i h
    cases h2 with
    | stop hz => rw [hg] at hz; cases hz
    | go h' h2' =>
      rw [hg] at h'
      cases h'
      exact ih (hI _ _ i h) h2'
def rdLe : Option Int → Option Int → Prop
  | some i, some j => i ≤ j
  | none, none => True
  | _, _ => False
theorem rdLe.refl : ∀ a : Option Int, rdLe a a
  | none => trivial
  | some i => Int.le_refl i
theorem rdLe.trans : ∀ {a b c : Option Int}, rdLe a b → rdLe b c → rdLe a c
  | none, none, none, _, _ => trivial
  | some i, some j, some k, h1, h2 => Int.le_trans (show i ≤ j from h1) (show j ≤ k from h2)
  | none, some _, _, h, _ => h.elim
  | some _, none, _, h, _ => h.elim
  | none, none, some _, _, h => h.elim
  | some _, some _, none, _, h => h.elim
theorem stepM_le {b : Int} {kn : Kn} {rs : List Rw} {e m to : Int} {s s' : Mst} (h : stepM b kn rs e m to s = some s') : rdLe s.rd s'.rd := by
  rcases stepM_rd h with h | ⟨h, hN⟩
  · rw [h]; exact rdLe.refl _
  · cases hr : s.rd with
    | none => rw [hr] at hN; cases hN
    | some k => rw [h, hr]; show k ≤ k + 1; omega
theorem Runs.more {b : Int} {kn : Kn} {rs : List Rw} {e m to : Int} {s t : Mst} {tr tr' : List (Option Int × Int)} (h : Runs (stepM b kn rs e m to) s tr t tr') : rdLe s.rd t.rd ∧ ∃ l, tr' = tr ++ l ∧ t.figs = s.figs ++ l.map (·.2) := by
  induction h with
  | stop _ => exact ⟨rdLe.refl _, [], by simp, by simp⟩
  | @go s s' tr t tr' h _ ih =>
    obtain ⟨hr, l, h1, h2⟩ := ih
    refine ⟨(stepM_le h).trans hr, ?_⟩
    rcases stepM_figs h with ⟨⟨d, hd⟩, _⟩ | ⟨hd, _, _⟩
    · have hlt : s.figs.length < s'.figs.length := by rw [hd, List.length_append]; exact Nat.lt_succ_self _
      have hg : growT s s' tr = tr ++ [(s'.rd, d)] := by
        unfold growT
        rw [if_pos hlt, hd]
        simp
      rw [hg] at h1
      exact ⟨(s'.rd, d) :: l, by rw [h1]; simp, by rw [h2, hd]; simp⟩
    · have hlt : ¬ s.figs.length < s'.figs.length := by rw [hd]; omega
      have hg : growT s s' tr = tr := by
        unfold growT
        rw [if_neg hlt]
      rw [hg] at h1
      exact ⟨l, h1, by rw [h2, hd]⟩
/-- the trace's figures are the row's -/
theorem Runs.figs {b : Int} {kn : Kn} {rs : List Rw} {e m to : Int} {t : Mst} {tr : List (Option Int × Int)} (h : Runs (stepM b kn rs e m to) (st0 rs) [] t tr) : t.figs = tr.map (·.2) := by
  obtain ⟨_, l, h1, h2⟩ := h.more
  rw [h2]
  simp at h1
  subst h1
  rfl
/-! ### of fewer figures -/
/-- a row's front -/
structure Ext1 (f r : Rw) : Prop where
  e : f.e = r.e
  m : f.m = r.m
  p : ∃ l, r.fs = f.fs ++ l
inductive Exts : List Rw → List Rw → Prop
  | nil : Exts [] []
  | cons {f r fs rs} : Ext1 f r → Exts fs rs → Exts (f :: fs) (r :: rs)
theorem Ext1.cut {f r : Rw} (h : Ext1 f r) {R : Int} (hR : R ≤ known f) : f.cut R = r.cut R := by
  obtain ⟨l, hl⟩ := h.p
  unfold Rw.cut
  unfold known at hR
  rw [h.e, h.m, hl]
  have := h.e
  rw [List.take_append_of_le_length (by omega)]
theorem Ext1.known {f r : Rw} (h : Ext1 f r) : known f ≤ known r := by
  obtain ⟨l, hl⟩ := h.p
  unfold Lb.known
  rw [h.e, hl, List.length_append]
  push_cast
  omega
theorem Ext1.fig {f r : Rw} (h : Ext1 f r) {k : Int} (hk : k ≤ Lb.known f) : figAt f k = figAt r k := by
  obtain ⟨l, hl⟩ := h.p
  unfold figAt
  unfold Lb.known at hk
  rw [h.e, hl]
  have := h.e
  split
  · rw [List.getD_eq_getElem?_getD, List.getD_eq_getElem?_getD, List.getElem?_append_left (by omega)]
  · rfl
theorem Exts.shapes {fs rs : List Rw} (h : Exts fs rs) : shapes fs = shapes rs := by
  induction h with
  | nil => rfl
  | cons h1 _ ih =>
    unfold Lb.shapes at ih ⊢
    rw [List.map_cons, List.map_cons, ih, h1.e, h1.m]
theorem Exts.len {fs rs : List Rw} (h : Exts fs rs) : fs.length = rs.length := by
  induction h with
  | nil => rfl
  | cons _ _ ih => rw [List.length_cons, List.length_cons, ih]
theorem Exts.es {fs rs : List Rw} (h : Exts fs rs) : fs.map (·.e) = rs.map (·.e) := by
  induction h with
  | nil => rfl
  | cons h1 _ ih => rw [List.map_cons, List.map_cons, ih, h1.e]
theorem Exts.first {fs rs : List Rw} (h : Exts fs rs) : firstR fs = firstR rs := by
  unfold firstR
  have hl := h.len
  by_cases z : fs = []
  · have : rs = [] := by rw [z] at hl; exact List.eq_nil_of_length_eq_zero hl.symm
    rw [if_pos z, if_pos this]
  · have : rs ≠ [] := fun z2 => z (by rw [z2] at hl; exact List.eq_nil_of_length_eq_zero hl)
    rw [if_neg z, if_neg this, h.es]
theorem Exts.cut {fs rs : List Rw} (h : Exts fs rs) {R : Int} (hR : ∀ f, f ∈ fs → R ≤ known f) : fs.map (fun r => r.cut R) = rs.map fun r => r.cut R := by
  induction h with
  | nil => rfl
  | cons h1 _ ih => rw [List.map_cons, List.map_cons, ih fun f hf => hR f (List.mem_cons_of_mem _ hf), h1.cut (hR _ (List.mem_cons_self ..))]
theorem Exts.has {fs rs : List Rw} (h : Exts fs rs) {rd : Option Int} (hN : hasN fs rd = true) : hasN rs rd = true := by
  cases rd with
  | none => cases hN
  | some R =>
    unfold hasN at hN ⊢
    rw [List.all_eq_true] at hN ⊢
    intro r hr
    have : ∃ f, f ∈ fs ∧ Ext1 f r := by
      clear hN
      induction h with
      | nil => cases hr
      | cons h1 _ ih =>
        rcases List.mem_cons.mp hr with rfl | hr
        · exact ⟨_, List.mem_cons_self .., h1⟩
        · obtain ⟨f, hf, hx⟩ := ih hr
          exact ⟨f, List.mem_cons_of_mem _ hf, hx⟩
    obtain ⟨f, hf, hx⟩ := this
    have h1 := hN f hf
    have h2 := hx.known
    simp at h1 ⊢
    omega
theorem Exts.plain {kn : Kn} {fs rs : List Rw} (h : Exts fs rs) {k : Int} (hk : ∀ f, f ∈ fs → k ≤ known f) : plainFig kn fs k = plainFig kn rs k := by
  unfold plainFig
  congr 1
  generalize signs kn = ws
  induction h generalizing ws with
  | nil => rfl
  | cons h1 _ ih =>
    cases ws with
    | nil => rfl
    | cons w ws =>
      rw [List.zip_cons_cons, List.zip_cons_cons, List.map_cons, List.map_cons, ih (fun f hf => hk f (List.mem_cons_of_mem _ hf)) ws]
      dsimp only
      rw [h1.fig (hk _ (List.mem_cons_self ..))]
/-- no place is read that a row hasn't got -/
def Read (fs : List Rw) (s : Mst) : Prop := ∀ R, s.rd = some R → ∀ f, f ∈ fs → R ≤ known f
theorem stepM_rd2 {b : Int} {kn : Kn} {rs : List Rw} {e m to : Int} {s s' : Mst} (h : stepM b kn rs e m to s = some s') (hR : Read rs s) : Read rs s' := by
  rcases stepM_rd h with h | ⟨h, hN⟩
  · intro R hr; rw [h] at hr; exact hR R hr
  · intro R hr f hf
    rw [h] at hr
    cases hs : s.rd with
    | none => rw [hs] at hN; cases hN
    | some k =>
      rw [hs] at hN hr
      have e1 : k + 1 = R := Option.some.inj hr
      have := hasN_lt hN f hf
      omega
theorem Dk.kp {S S1 S2 : Store} {p : Addr} {n : Nat} (h : Dk S S1 p n) (h2 : Kp S1 S2) : Dk S S2 p n := ⟨h2.box h.1, fun q x hq e => h2 q x (h.2 q x hq e)⟩
def minZ (xs : List Int) : Int := -maxZ (xs.map fun x => -x)
theorem minZ_is {xs : List Int} (h : xs ≠ []) : minZ xs ∈ xs ∧ ∀ x, x ∈ xs → minZ xs ≤ x := by
  obtain ⟨a, c⟩ := maxZ_is (xs := xs.map fun x => -x) (by simpa using h)
  obtain ⟨y, hy, e⟩ := List.mem_map.mp a
  unfold minZ
  refine ⟨by rw [← e]; simpa using hy, fun x hx => ?_⟩
  have := c (-x) (List.mem_map.mpr ⟨x, hx, rfl⟩)
  omega
def lastR (rs : List Rw) : Option Int := if rs = [] then none else some (minZ (rs.map known))
def isRead : Option Int → Option Int → Option Int → Bool
  | r, none, _ => r.isNone
  | some k, some a, some l => decide (a ≤ k) && decide (k ≤ l)
  | _, _, _ => false
/-- reads and figures one behind the other show a trace -/
def okT (b : Int) (kn : Kn) (rs : List Rw) (e m : Int) : Option Int → List Int → List (Option Int × Int) → Bool
  | _, _, [] => true
  | f, fs, (r, d) :: t => isRead r f (lastR rs) && (decide (d ∈ rightM b kn rs e m ⟨fs, r⟩) && okT b kn rs e m r (fs ++ [d]) t)
/-! ### what stands while a trace is looked at -/
theorem Part.reads {b k : Int} {kn : Kn} {rs : List Rw} {e m to : Int} (h : Part b k kn rs e m to) {fs : List Int} {j i : Int} (I : MInv b kn rs e m to ⟨fs, some j⟩) (hji : j ≤ i) : MInv b kn rs e m to ⟨fs, some i⟩ := by
  have k1 := h.k1
  have b1 := h.b1
  have bp := ratpos (show 0 < b by have := h.b0; omega)
  have r12 : (reachM b kn rs (some i)).1 ≤ (reachM b kn rs (some i)).2 := reach_le h.b0 h.ko (by rw [List.length_map]; exact h.l) fun r hr => (cutR_small h.s (some i) r hr).ok h.b0 (by omega) (by omega)
  have rr := h.read hji
  refine ⟨⟨fun z => absurd (I.nr.mp z) (by simp), fun z => by cases z⟩, I.n, I.f, ?_, ?_⟩
  · exact near_mono bp I.q1 I.q2 rr.1 (Rat.le_trans r12 rr.2)
  · exact near_mono bp I.q1 I.q2 (Rat.le_trans rr.1 r12) rr.2
/-- while a trace is looked at -/
structure ShI (b : Int) (kn : Kn) (rs : List Rw) (e m to : Int) (tr : List (Option Int × Int)) (S0 : Store) (p : Addr) (x : D) (i : Nat) (ρ : DSt) (S : Store) : Prop where
  all : ∃ (fs : List Int) (f : Option Int) (z6 z10 z11 z12 z13 : Option D), S p = some (.lst (fs.map .int)) ∧ MInv b kn rs e m to ⟨fs, f⟩ ∧ fs.length = i ∧ okT b kn rs e m (firstR rs) [] tr = okT b kn rs e m f fs (tr.drop i) ∧
    ρ = [some (.int b), some kn.d, some (.lst (rs.map Rw.d)), some x, some (.int e), some (.int m), z6, some (rdD f), some (.obj p), some (rdD (lastR rs)), z10, z11, z12, z13]
  kp : Kp S0 S
  p0 : S0 p = none
/-! ### traces -/
theorem okT_cons {b : Int} {kn : Kn} {rs : List Rw} {e m : Int} {f r : Option Int} {fs : List Int} {d : Int} {t : List (Option Int × Int)} : okT b kn rs e m f fs ((r, d) :: t) = (isRead r f (lastR rs) && (decide (d ∈ rightM b kn rs e m ⟨fs, r⟩) && okT b kn rs e m r (fs ++ [d]) t)) := rfl
def lastF : Option Int → List (Option Int × Int) → Option Int
  | f, [] => f
  | _, x :: t => lastF x.1 t
theorem okT_app {b : Int} {kn : Kn} {rs : List Rw} {e m : Int} : ∀ (t1 t2 : List (Option Int × Int)) (f : Option Int) (fs : List Int), okT b kn rs e m f fs (t1 ++ t2) = (okT b kn rs e m f fs t1 && okT b kn rs e m (lastF f t1) (fs ++ t1.map (·.2)) t2)
  | [], t2, f, fs => by simp [okT, lastF]
  | x :: t1, t2, f, fs => by
    obtain ⟨r, d⟩ := x
    rw [List.cons_append, okT_cons, okT_cons]
    rw [okT_app t1 t2 r (fs ++ [d])]
    have e : lastF f ((r, d) :: t1) = lastF r t1 := rfl
    rw [e, List.map_cons, List.append_assoc]
    simp only [Bool.and_assoc, List.singleton_append]
theorem lastF_app : ∀ (t1 t2 : List (Option Int × Int)) (f : Option Int), lastF f (t1 ++ t2) = lastF (lastF f t1) t2
  | [], _, _ => rfl
  | x :: t1, t2, f => lastF_app t1 t2 x.1
theorem okT_snoc {b : Int} {kn : Kn} {rs : List Rw} {e m : Int} {f : Option Int} {fs : List Int} {t : List (Option Int × Int)} {r : Option Int} {d : Int} (h : okT b kn rs e m f fs t = true) (hr : isRead r (lastF f t) (lastR rs) = true) (hd : d ∈ rightM b kn rs e m ⟨fs ++ t.map (·.2), r⟩) : okT b kn rs e m f fs (t ++ [(r, d)]) = true := by
  rw [okT_app, h, Bool.true_and, okT_cons]
  rw [hr, decide_eq_true hd]
  simp [okT]
theorem read_ok {rs : List Rw} {r f : Option Int} (hr : rs = [] ↔ r = none) (hle : rdLe f r) (hk : ∀ R, r = some R → ∀ a, a ∈ rs → R ≤ known a) : isRead r f (lastR rs) = true := by
  cases r with
  | none =>
    cases f with
    | none => rfl
    | some a => exact hle.elim
  | some R =>
    cases f with
    | none => exact hle.elim
    | some a =>
      have ne : rs ≠ [] := fun z => by cases hr.mp z
      unfold lastR
      rw [if_neg ne]
      have mz := minZ_is (xs := rs.map known) (by simpa using ne)
      obtain ⟨x, hx, ex⟩ := List.mem_map.mp mz.1
      have h1 : a ≤ R := hle
      have h2 := hk R rfl x hx
      show (decide (a ≤ R) && decide (R ≤ minZ (rs.map known))) = true
      rw [decide_eq_true h1, decide_eq_true (by omega : R ≤ minZ (rs.map known))]
      rfl
/-- a machine's trace shows to be one -/
theorem Runs.shows {b : Int} {kn : Kn} {rs : List Rw} {e m to : Int} (hc : Ch1 kn = true) {s t : Mst} {tr tr' : List (Option Int × Int)} (h : Runs (stepM b kn rs e m to) s tr t tr') : okT b kn rs e m (firstR rs) [] tr = true → s.figs = tr.map (·.2) → rdLe (lastF (firstR rs) tr) s.rd → NoRows rs s → Read rs s → okT b kn rs e m (firstR rs) [] tr' = true := by
  induction h with
  | stop _ => exact fun h _ _ _ _ => h
  | @go s s' tr t tr' h _ ih =>
    intro ok hf hle nr rd
    have nr' := noRows_step nr h
    have rd' := stepM_rd2 h rd
    have hg : okT b kn rs e m (firstR rs) [] (growT s s' tr) = true ∧ s'.figs = (growT s s' tr).map (·.2) ∧ rdLe (lastF (firstR rs) (growT s s' tr)) s'.rd := by
      unfold stepM at h
      rw [if_pos hc] at h
      cases hn : near (rightM b kn rs e m s) with
      | some d =>
        rw [hn] at h
        dsimp only at h
        split at h
        · cases h
        · cases h
          have hlt : s.figs.length < (s.figs ++ [d]).length := by rw [List.length_append]; exact Nat.lt_succ_self _
          have e1 : growT s ⟨s.figs ++ [d], s.rd⟩ tr = tr ++ [(s.rd, d)] := by
            unfold growT
            rw [if_pos hlt]
            simp
          rw [e1]
          refine ⟨okT_snoc ok (read_ok nr hle rd) ?_, by rw [List.map_append, hf]; rfl, ?_⟩
          · have := (near_is hn).1
            rw [List.nil_append, ← hf]
            exact this
          · rw [lastF_app]; exact rdLe.refl _
      | none =>
        rw [hn] at h
        dsimp only at h
        split at h
        · rename_i hN
          cases h
          have e1 : growT s ⟨s.figs, s.rd.map (· + 1)⟩ tr = tr := by
            unfold growT
            rw [if_neg (Nat.lt_irrefl _)]
          rw [e1]
          refine ⟨ok, hf, hle.trans ?_⟩
          cases hr : s.rd with
          | none => exact trivial
          | some R => show R ≤ R + 1; omega
        · cases h
    exact ih hg.1 hg.2.1 hg.2.2 nr' rd'
def lamq : Str := "Teller.next_figure" ++ ".<locals>." ++ "<lambda>"
def TF (b c : Int) (r : Rw) (e m : Int) (q : Addr) (rd : Option Int) : List (Str × D) :=
  [("own_base", .int b), ("own_other", .int c), ("own_row", r.d), ("own_begin", .int e), ("own_most", .int m), ("own_figures", .obj q), ("own_read", rdD rd)]
/-- a teller stands at p, its figures at q -/
structure TAt (S : Store) (p q : Addr) (b c : Int) (r : Rw) (e m : Int) (s : Mst) : Prop where
  o : S p = some (.ins (CT.at_ 1) (TF b c r e m q s.rd))
  f : S q = some (.lst (s.figs.map .int))
  ne : p ≠ q
def seenT (b : Int) (r : Rw) (rd : Option Int) : Rat × Rat := ((cutR rd r).lo b, (cutR rd r).hi b)
def rightT (b c : Int) (r : Rw) (e m : Int) (s : Mst) : List Int := figsR c (ownR e m s) (seenT b r s.rd)
def stepT (b c : Int) (r : Rw) (e m to : Int) (s : Mst) : Option Mst :=
  match near (rightT b c r e m s) with
  | some d => if to < nextP e s then none else some ⟨s.figs ++ [d], s.rd⟩
  | none => match s.rd with
    | some k => if known r ≤ k then none else some ⟨s.figs, some (k + 1)⟩
    | none => none
def tst0 (r : Rw) : Mst := ⟨[], some (-r.e)⟩
/-- what a step wants -/
structure TOk (b c : Int) (r : Rw) (e m : Int) (s : Mst) : Prop where
  ok : r.Ok b
  own : (ownR e m s).Ok c
  rd : s.rd ≠ none
  s1 : Bd ((2 ^ 60 : Int) : Rat) (((seenT b r s.rd).1 - (ownR e m s).worth c) * (c : Rat) ^ (((ownR e m s).fs.length : Int) - (ownR e m s).e + 1))
  s2 : Bd ((2 ^ 60 : Int) : Rat) (((seenT b r s.rd).2 - (ownR e m s).worth c) * (c : Rat) ^ (((ownR e m s).fs.length : Int) - (ownR e m s).e + 1))
def sp_based_right : DSp := fun ds S P => ∃ (b c : Int) (r o : Rw), ds = [.int b, .int c, r.d, o.d] ∧ r.Ok b ∧ o.Ok c ∧ Bd ((2 ^ 60 : Int) : Rat) ((r.lo b - o.worth c) * (c : Rat) ^ ((o.fs.length : Int) - o.e + 1)) ∧ Bd ((2 ^ 60 : Int) : Rat) ((r.hi b - o.worth c) * (c : Rat) ^ ((o.fs.length : Int) - o.e + 1)) ∧
  P (.lst ((figsR c o (r.lo b, r.hi b)).map .int)) S
def sp_Teller_init : DSp := fun ds S P => ∃ (p : Addr) (b c : Int) (r : Rw) (e m : Int), ds = [.obj p, .int b, .int c, r.d, .int e, .int m] ∧ S p = some (.ins (CT.at_ 1) []) ∧
  ∀ q S', S q = none → q ≠ p → TAt S' p q b c r e m (tst0 r) → But2 S S' p q → P .non S'
def sp_Teller_row : DSp := fun ds S P => ∃ (p q : Addr) (b c : Int) (r : Rw) (e m : Int) (s : Mst), ds = [.obj p] ∧ TAt S p q b c r e m s ∧ s.figs.length ≤ 1000 ∧ P (ownR e m s).d S
def sp_Teller_next_figure : DSp := fun ds S P => ∃ (p q : Addr) (b c : Int) (r : Rw) (e m : Int) (s : Mst), ds = [.obj p] ∧ TAt S p q b c r e m s ∧ TOk b c r e m s ∧ S (CT.at_ 40) = some (.tab lamq) ∧ P (optD (near (rightT b c r e m s))) S
def sp_Teller_step : DSp := fun ds S P => ∃ (p q : Addr) (b c : Int) (r : Rw) (e m to : Int) (s : Mst), ds = [.obj p, .int to] ∧ TAt S p q b c r e m s ∧ TOk b c r e m s ∧ S (CT.at_ 40) = some (.tab lamq) ∧
  (stepT b c r e m to s = none → P (.bl false) S) ∧ ∀ s' S', stepT b c r e m to s = some s' → TAt S' p q b c r e m s' → But2 S S' p q → P (.bl true) S'
def TAll (b c : Int) (r : Rw) (e m to : Int) : Prop := ∀ s, Rch (stepT b c r e m to) (tst0 r) s → TOk b c r e m s
def sp_based_run : DSp := fun ds S P => ∃ (b c : Int) (r : Rw) (e m to : Int), ds = [.int b, .int c, r.d, .int e, .int m, .int to] ∧ TAll b c r e m to ∧ S (CT.at_ 40) = some (.tab lamq) ∧
  ∀ S' s tr, Runs (stepT b c r e m to) (tst0 r) [] s tr → Kp S S' → P (.tup [(ownR e m s).d, rdD s.rd]) S'
def sp_reach_by : DSp := fun ds S P => ∃ b e m : Int, ds = [.int b, .int e, .int m] ∧ 2 ≤ b ∧ b ≤ 16 ∧ e.natAbs ≤ 900 ∧ 0 ≤ m ∧ m ≤ 2 ^ 20 ∧ P (encR (rim b e m)) S
def sp_based_fits : DSp := fun ds S P => ∃ b c e0 m0 e m : Int, ds = [.int b, .int c, .tup [.int e0, .int m0], .int e, .int m] ∧ 2 ≤ b ∧ b ≤ 16 ∧ 2 ≤ c ∧ c ≤ 16 ∧ e0.natAbs ≤ 900 ∧ 0 ≤ m0 ∧ m0 ≤ 2 ^ 20 ∧ e.natAbs ≤ 900 ∧ 0 ≤ m ∧ m ≤ 2 ^ 20 ∧ P (.bl (decide (rim b e0 m0 ≤ rim c e m))) S
def rd_based_right : DS :=
  (dSeq (dAsg (.tp [(.nm 4), (.nm 5)]) (dCB sp_span_of (dCons (dVar 0) (dCons (dVar 2) dNil))))
  (dRet (dCB sp_figures_betweenG (dCons (dVar 1) (dCons (dVar 3) (dCons (dVar 4) (dCons (dVar 5) dNil)))))))
def goal_based_right : Prop := ∀ (x0 x1 x2 x3 : D) (S : Store) (P : D → Store → Prop), sp_based_right [x0, x1, x2, x3] S P → rd_based_right (dEnd P) [some x0, some x1, some x2, some x3, none, none] S
def rd_Teller_init : DS :=
  (dSeq (dFld3 1 "own_base" "own_other" "own_row" 0 (dVar 1) (dVar 2) (dVar 3))
  (dSeq (dFld2 1 "own_begin" "own_most" 0 (dVar 4) (dVar 5))
  (dSeq (dSetFld 1 "own_figures" (dVar 0) (dLstM dNil))
  (dSetFld 1 "own_read" (dVar 0) (dUn dNeg (dOp dIx (dVar 3) (dC (.int 0))))))))
def goal_Teller_init : Prop := ∀ (x0 x1 x2 x3 x4 x5 : D) (S : Store) (P : D → Store → Prop), sp_Teller_init [x0, x1, x2, x3, x4, x5] S P → rd_Teller_init (dEnd P) [some x0, some x1, some x2, some x3, some x4, some x5] S
def rd_Teller_row : DS :=
  (dRet (dTup (dCons (dFld 1 "own_begin" (dVar 0)) (dCons (dFld 1 "own_most" (dVar 0)) (dCons (dCB cTuple (dCons (dFld 1 "own_figures" (dVar 0)) dNil)) dNil)))))
def goal_Teller_row : Prop := ∀ (x0 : D) (S : Store) (P : D → Store → Prop), sp_Teller_row [x0] S P → rd_Teller_row (dEnd P) [some x0] S
def rd_Teller_next_figure : DS :=
  (dSeq (dSet 1 (dCB sp_cut_of (dCons (dFld 1 "own_row" (dVar 0)) (dCons (dFld 1 "own_read" (dVar 0)) dNil))))
  (dSeq (dSet 2 (dCB sp_based_right (dCons (dFld 1 "own_base" (dVar 0)) (dCons (dFld 1 "own_other" (dVar 0)) (dCons (dVar 1) (dCons (dMeth 1 "row" sp_Teller_row (dVar 0) dNil) dNil))))))
  (dRet (dIf (dTest (dOp dGt (dCB cLen (dCons (dVar 2) dNil)) (dC (.int 0)))) (dMinLam (CT.at_ 40) ("Teller.next_figure" ++ ".<locals>." ++ "<lambda>") (dCB cAbs (dCons (dVar 0) dNil)) (dVar 2)) (dC .non)))))
def goal_Teller_next_figure : Prop := ∀ (x0 : D) (S : Store) (P : D → Store → Prop), sp_Teller_next_figure [x0] S P → rd_Teller_next_figure (dEnd P) [some x0, none, none] S
def rd_Teller_step : DS :=
  (dSeq (dSet 2 (dMeth 1 "next_figure" sp_Teller_next_figure (dVar 0) dNil))
  (dSeq (dIfS (dTest (dOp dNotN (dVar 2) (dC .non))) (dSeq (dIfS (dTest (dOp dGt (dOp dSub (dOp dAdd (dCB cLen (dCons (dFld 1 "own_figures" (dVar 0)) dNil)) (dC (.int 1))) (dFld 1 "own_begin" (dVar 0))) (dVar 1))) (dRet (dC (.bl false))) dNext)
  (dSeq (dDrop (dAppend (dFld 1 "own_figures" (dVar 0)) (dVar 2)))
  (dRet (dC (.bl true))))) dNext)
  (dSeq (dIfS (dTest (dOp dLe (dCB sp_known_to (dCons (dFld 1 "own_row" (dVar 0)) dNil)) (dFld 1 "own_read" (dVar 0)))) (dRet (dC (.bl false))) dNext)
  (dSeq (dFldAdd 1 "own_read" (dVar 0) (dC (.int 1)))
  (dRet (dC (.bl true)))))))
def goal_Teller_step : Prop := ∀ (x0 x1 : D) (S : Store) (P : D → Store → Prop), sp_Teller_step [x0, x1] S P → rd_Teller_step (dEnd P) [some x0, some x1, none] S
def rd_based_run : DS :=
  (dSeq (dSet 6 (dMakeK 1 sp_Teller_init 3 2 [0, 1, 2, 3, 4, 5] (dCons (dVar 0) (dCons (dVar 1) (dCons (dVar 2) dNil))) (dCons (dVar 3) (dCons (dVar 4) dNil))))
  (dSeq (dWhile (dTest (dMeth 1 "step" sp_Teller_step (dVar 6) (dCons (dVar 5) dNil))) dNext)
  (dRet (dTup (dCons (dMeth 1 "row" sp_Teller_row (dVar 6) dNil) (dCons (dFld 1 "own_read" (dVar 6)) dNil))))))
def goal_based_run : Prop := ∀ (x0 x1 x2 x3 x4 x5 : D) (S : Store) (P : D → Store → Prop), sp_based_run [x0, x1, x2, x3, x4, x5] S P → rd_based_run (dEnd P) [some x0, some x1, some x2, some x3, some x4, some x5, none] S
def rd_reach_by : DS :=
  (dRet (dCB sp_times (dCons (dCB sp_frac (dCons (dVar 2) (dCons (dOp dSub (dVar 0) (dC (.int 1))) dNil))) (dCons (dCB sp_power (dCons (dVar 0) (dCons (dVar 1) dNil))) dNil))))
def goal_reach_by : Prop := ∀ (x0 x1 x2 : D) (S : Store) (P : D → Store → Prop), sp_reach_by [x0, x1, x2] S P → rd_reach_by (dEnd P) [some x0, some x1, some x2] S
def rd_based_fits : DS :=
  (dRet (dNotV (dCB sp_is_below (dCons (dCB sp_reach_by (dCons (dVar 1) (dCons (dVar 3) (dCons (dVar 4) dNil)))) (dCons (dCB sp_reach_by (dCons (dVar 0) (dCons (dOp dIx (dVar 2) (dC (.int 0))) (dCons (dOp dIx (dVar 2) (dC (.int 1))) dNil)))) dNil)))))
def goal_based_fits : Prop := ∀ (x0 x1 x2 x3 x4 : D) (S : Store) (P : D → Store → Prop), sp_based_fits [x0, x1, x2, x3, x4] S P → rd_based_fits (dEnd P) [some x0, some x1, some x2, some x3, some x4] S
theorem len_based_right : ∀ ds S P, sp_based_right ds S P → ds.length = 4 := by
  rintro ds S P ⟨a, b, c, d, rfl, _⟩; rfl
theorem len_Teller_init : ∀ ds S P, sp_Teller_init ds S P → ds.length = 6 := by
  rintro ds S P ⟨a, b, c, d, e, f, rfl, _⟩; rfl
theorem len_Teller_row : ∀ ds S P, sp_Teller_row ds S P → ds.length = 1 := by
  rintro ds S P ⟨a, b, c, d, e, f, g, h, rfl, _⟩; rfl
theorem len_Teller_next_figure : ∀ ds S P, sp_Teller_next_figure ds S P → ds.length = 1 := by
  rintro ds S P ⟨a, b, c, d, e, f, g, h, rfl, _⟩; rfl
theorem len_Teller_step : ∀ ds S P, sp_Teller_step ds S P → ds.length = 2 := by
  rintro ds S P ⟨a, b, c, d, e, f, g, h, i, rfl, _⟩; rfl
theorem len_based_run : ∀ ds S P, sp_based_run ds S P → ds.length = 6 := by
  rintro ds S P ⟨a, b, c, d, e, f, rfl, _⟩; rfl
theorem len_reach_by : ∀ ds S P, sp_reach_by ds S P → ds.length = 3 := by
  rintro ds S P ⟨a, b, c, rfl, _⟩; rfl
theorem len_based_fits : ∀ ds S P, sp_based_fits ds S P → ds.length = 5 := by
  rintro ds S P ⟨a, b, c, d, e, f, rfl, _⟩; rfl
theorem vc_reach_by : goal_reach_by := by
  rintro x0 x1 x2 S P ⟨b, e, m, er, b0, b1, he, m0, m1, h⟩
  cases er
  unfold rd_reach_by
  walk_at "dg4"
  refine ⟨m, b - 1, rfl, by omega, bound_mono (n := 21) (by omega), bound_mono (n := 21) (by omega), ?_⟩
  refine ⟨b, e, rfl, by omega, b1, he, ?_⟩
  refine ⟨_, _, rfl, (sz_frac (n := 21) (by omega) (by omega) (by omega)).mono (by decide), (sz_zpow (by omega) b1).mono (by omega), ?_⟩
  exact h
theorem vc_based_fits : goal_based_fits := by
  rintro x0 x1 x2 x3 x4 S P ⟨b, c, e0, m0, e, m, er, b0, b1, c0, c1, he0, l0, l1, he, k0, k1, h⟩
  cases er
  unfold rd_based_fits
  walk_at "dg4"
  refine ⟨c, e, m, rfl, c0, c1, he, k0, k1, ?_⟩
  refine ⟨b, e0, m0, rfl, b0, b1, he0, l0, l1, ?_⟩
  refine ⟨_, _, rfl, (rim_sz c0 c1 he k0 k1).mono (by decide), (rim_sz b0 b1 he0 l0 l1).mono (by decide), ?_⟩
  walk_at "dg4"
  have : (!decide (rim c e m < rim b e0 m0)) = decide (rim b e0 m0 ≤ rim c e m) := by
    by_cases q : rim c e m < rim b e0 m0
    · simp [q, Rat.not_le.mpr q]
    · simp [q, Rat.not_lt.mp q]
  rw [this]
  exact h
theorem vc_based_right : goal_based_right := by
  rintro x0 x1 x2 x3 S P ⟨b, c, r, o, er, ok, oc, s1, s2, h⟩
  cases er
  unfold rd_based_right
  walk_at "dg4"
  refine ⟨b, r, rfl, ok, ?_⟩
  walk_at "dg4"
  exact ⟨c, o, (r.lo b, r.hi b), rfl, oc, ok.tight.1.mono (by decide), ok.tight.2.mono (by decide), s1, s2, h⟩
theorem tk_base {b c : Int} {r : Rw} {e m : Int} {q : Addr} {rd : Option Int} : (TF b c r e m q rd).lookup ("own_base" : Str) = some (D.int b) := rfl
theorem tk_other {b c : Int} {r : Rw} {e m : Int} {q : Addr} {rd : Option Int} : (TF b c r e m q rd).lookup ("own_other" : Str) = some (D.int c) := rfl
theorem tk_row {b c : Int} {r : Rw} {e m : Int} {q : Addr} {rd : Option Int} : (TF b c r e m q rd).lookup ("own_row" : Str) = some r.d := rfl
theorem tk_begin {b c : Int} {r : Rw} {e m : Int} {q : Addr} {rd : Option Int} : (TF b c r e m q rd).lookup ("own_begin" : Str) = some (D.int e) := rfl
theorem tk_most {b c : Int} {r : Rw} {e m : Int} {q : Addr} {rd : Option Int} : (TF b c r e m q rd).lookup ("own_most" : Str) = some (D.int m) := rfl
theorem tk_figs {b c : Int} {r : Rw} {e m : Int} {q : Addr} {rd : Option Int} : (TF b c r e m q rd).lookup ("own_figures" : Str) = some (D.obj q) := rfl
theorem tk_read {b c : Int} {r : Rw} {e m : Int} {q : Addr} {rd : Option Int} : (TF b c r e m q rd).lookup ("own_read" : Str) = some (rdD rd) := rfl
theorem tk_no {b c : Int} {r : Rw} {e m : Int} {q : Addr} {rd : Option Int} : (TF b c r e m q rd).lookup ("row" : Str) = none ∧ (TF b c r e m q rd).lookup ("next_figure" : Str) = none ∧ (TF b c r e m q rd).lookup ("step" : Str) = none := ⟨rfl, rfl, rfl⟩
theorem vc_Teller_init : goal_Teller_init := by
  rintro x0 x1 x2 x3 x4 x5 S P ⟨p, b, c, r, e, m, er, hp, h⟩
  cases er
  unfold rd_Teller_init
  walk_at "dg4"
  simp only [dFld3]
  walk_at "dg4"
  refine ⟨p, [], rfl, hp, by decide, ?_⟩
  refine ⟨p, _, rfl, supd_same, Nat.lt_of_lt_of_le (put_small (put_small (put_small (n := 1) (by decide)))) (by decide), ?_⟩
  rw [supd_supd]
  intro q hq
  have qp : q ≠ p := fun z => by subst z; rw [supd_same] at hq; cases hq
  rw [supd_ne qp] at hq
  refine ⟨p, _, rfl, by rw [supd_ne qp.symm, supd_same], Nat.lt_of_lt_of_le (put_small (put_small (put_small (put_small (put_small (n := 1) (by decide)))))) (by decide), ?_⟩
  refine ⟨p, _, rfl, supd_same, Nat.lt_of_lt_of_le (put_small (put_small (put_small (put_small (put_small (put_small (n := 1) (by decide))))))) (by decide), ?_⟩
  refine h q _ hq qp ⟨supd_same, ?_, qp.symm⟩ fun a h1 h2 => ?_
  · rw [supd_ne qp, supd_ne qp, supd_same]; rfl
  · rw [supd_ne h1, supd_ne h1, supd_ne h2, supd_ne h1]
theorem vc_Teller_row : goal_Teller_row := by
  rintro x0 S P ⟨p, q, b, c, r, e, m, s, er, M, hl, h⟩
  cases er
  unfold rd_Teller_row
  walk_at "dg4"
  refine ⟨p, _, _, rfl, M.o, tk_begin, p, _, _, rfl, M.o, tk_most, p, _, _, rfl, M.o, tk_figs, ?_⟩
  dsimp only
  rw [M.f]
  walk_at "dg4"
  exact h
theorem vc_Teller_next_figure : goal_Teller_next_figure := by
  rintro x0 S P ⟨p, q, b, c, r, e, m, s, er, M, F, ht, h⟩
  cases er
  unfold rd_Teller_next_figure
  obtain ⟨k, hk⟩ : ∃ k, s.rd = some k := by
    cases z : s.rd with
    | none => exact absurd z F.rd
    | some k => exact ⟨k, rfl⟩
  walk_at "dg4"
  refine ⟨p, _, _, rfl, M.o, tk_row, p, _, .int k, rfl, M.o, by rw [tk_read, hk]; rfl, ?_⟩
  refine ⟨r, k, rfl, ?_⟩
  refine ⟨p, _, _, rfl, M.o, tk_base, p, _, _, rfl, M.o, tk_other, p, _, rfl, M.o, tk_no.1, ?_⟩
  have ol := F.own.l
  refine ⟨p, q, b, c, r, e, m, s, rfl, M, by show s.figs.length ≤ 1000; unfold ownR at ol; simp at ol; omega, ?_⟩
  have s1 := F.s1; have s2 := F.s2
  unfold seenT at s1 s2
  rw [hk] at s1 s2
  refine ⟨b, c, r.cut k, ownR e m s, rfl, F.ok.cut k, F.own, s1, s2, ?_⟩
  walk_at "dg4"
  rw [List.length_map]
  unfold rightT seenT at h
  rw [hk] at h
  change P (optD (near (figsR c (ownR e m s) ((r.cut k).lo b, (r.cut k).hi b)))) S at h
  obtain ⟨lo, n, hv⟩ := figs_ivl2 (b := c) (r := ownR e m s) (q := ((r.cut k).lo b, (r.cut k).hi b)) F.own
  generalize figsR c (ownR e m s) ((r.cut k).lo b, (r.cut k).hi b) = xs at *
  by_cases hx : xs = []
  · subst hx
    walk_at "dg4"
    exact h
  · have lp := List.length_pos_iff.mpr hx
    have c : ((xs.length : Int) > 0) := by omega
    simp only [c, decide_true, reduceIte]
    obtain ⟨d, hd⟩ : ∃ d, near xs = some d := by
      cases q : near xs with
      | none => exact absurd (near_none.mp q) hx
      | some d => exact ⟨d, rfl⟩
    rw [hd] at h
    obtain ⟨n1, n2⟩ := near_is hd
    unfold dMinLam
    walk_at "dg4"
    refine ⟨ht, xs, fun i => (i.natAbs : Int), rfl, hx, fun i hi S' Q _ q => ?_, fun d' h1 h2 => ?_⟩
    · have : (if i < 0 then -i else i) = (i.natAbs : Int) := by split <;> omega
      rw [this]
      exact q
    have : d' = d := by
      rw [hv] at h1 n1 h2 n2
      exact near_uniq h1 n1 (fun y hy => by have := h2 y hy; dsimp only at this; omega) n2
    subst this
    exact h
theorem TAt.put {S : Store} {p q : Addr} {b c : Int} {r : Rw} {e m : Int} {s : Mst} (M : TAt S p q b c r e m s) (rd : Option Int) : TAt (supd S p (.ins (CT.at_ 1) (TF b c r e m q rd))) p q b c r e m ⟨s.figs, rd⟩ ∧ But2 S (supd S p (.ins (CT.at_ 1) (TF b c r e m q rd))) p q :=
  ⟨⟨supd_same, by rw [supd_ne M.ne.symm]; exact M.f, M.ne⟩, fun a h1 h2 => supd_ne h1⟩
theorem TAt.add {S : Store} {p q : Addr} {b c : Int} {r : Rw} {e m : Int} {s : Mst} (M : TAt S p q b c r e m s) (d : Int) : TAt (supd S q (.lst (s.figs.map .int ++ [.int d]))) p q b c r e m ⟨s.figs ++ [d], s.rd⟩ ∧ But2 S (supd S q (.lst (s.figs.map .int ++ [.int d]))) p q :=
  ⟨⟨by rw [supd_ne M.ne]; exact M.o, by rw [supd_same]; simp, M.ne⟩, fun a h1 h2 => supd_ne h2⟩
theorem TF_len {b c : Int} {r : Rw} {e m : Int} {q : Addr} {rd : Option Int} : (TF b c r e m q rd).length < 900 := by show 7 < 900; decide
theorem put_readT {b c : Int} {r : Rw} {e m : Int} {q : Addr} {rd rd' : Option Int} : putD "own_read" (rdD rd') (TF b c r e m q rd) = TF b c r e m q rd' := rfl
theorem vc_Teller_step : goal_Teller_step := by
  rintro x0 x1 S P ⟨p, q, b, c, r, e, m, to, s, er, M, ok, ht, hn, hs⟩
  cases er
  unfold rd_Teller_step
  obtain ⟨k, hk⟩ : ∃ k, s.rd = some k := by
    cases z : s.rd with
    | none => exact absurd z ok.rd
    | some k => exact ⟨k, rfl⟩
  walk_at "dg4"
  refine ⟨p, _, rfl, M.o, tk_no.2.1, ?_⟩
  refine ⟨p, q, b, c, r, e, m, s, rfl, M, ok, ht, ?_⟩
  have ol := ok.own.l
  have ol2 : s.figs.length ≤ 80 := by unfold ownR at ol; simpa using ol
  have h0 : stepT b c r e m to s = match near (rightT b c r e m s) with
    | some d => if to < nextP e s then none else some ⟨s.figs ++ [d], s.rd⟩
    | none => if known r ≤ k then none else some ⟨s.figs, some (k + 1)⟩ := by unfold stepT; rw [hk]
  cases hd : near (rightT b c r e m s) with
  | some d =>
    rw [hd] at h0
    unfold optD
    walk_at "dg4"
    refine ⟨p, _, _, rfl, M.o, tk_figs, ?_⟩
    rw [ln_obj M.f, List.length_map]
    walk_at "dg4"
    refine ⟨p, _, _, rfl, M.o, tk_begin, ?_⟩
    walk_at "dg4"
    by_cases hp : to < nextP e s
    · have hp2 : (s.figs.length : Int) + 1 - e > to := hp
      simp only [hp2, decide_true, reduceIte]
      exact hn (by rw [h0]; dsimp only; rw [if_pos hp])
    · have hp2 : ¬ (s.figs.length : Int) + 1 - e > to := hp
      simp only [hp2, decide_false, Bool.false_eq_true, reduceIte]
      refine ⟨p, _, _, rfl, M.o, tk_figs, ?_⟩
      obtain ⟨M2, bt2⟩ := M.add d
      refine ⟨_, M.f, _, M.f, by rw [List.length_map]; omega, ?_⟩
      exact hs _ _ (by rw [h0]; dsimp only; rw [if_neg hp]) M2 bt2
  | none =>
    rw [hd] at h0
    unfold optD
    walk_at "dg4"
    refine ⟨p, _, _, rfl, M.o, tk_row, ?_⟩
    refine ⟨r, rfl, ?_⟩
    refine ⟨p, _, .int k, rfl, M.o, by rw [tk_read, hk]; rfl, ?_⟩
    walk_at "dg4"
    by_cases hh : known r ≤ k
    · have hh2 : (r.fs.length : Int) - r.e ≤ k := hh
      simp only [hh2, decide_true, reduceIte]
      exact hn (by rw [h0]; dsimp only; rw [if_pos hh])
    · have hh2 : ¬ (r.fs.length : Int) - r.e ≤ k := hh
      simp only [hh2, decide_false, Bool.false_eq_true, reduceIte]
      refine ⟨p, _, k, rfl, M.o, by rw [tk_read, hk]; rfl, 1, _, rfl, M.o, TF_len, ?_⟩
      rw [show putD "own_read" (.int (k + 1)) (TF b c r e m q s.rd) = TF b c r e m q (some (k + 1)) from put_readT (rd' := some (k + 1))]
      obtain ⟨M1, bt1⟩ := M.put (some (k + 1))
      exact hs _ _ (by rw [h0]; dsimp only; rw [if_neg hh]) M1 bt1
/-- what a teller may be like -/
structure Tel (b c : Int) (r : Rw) (e m to : Int) : Prop where
  b0 : 2 ≤ b
  b1 : b ≤ 16
  c0 : 2 ≤ c
  c1 : c ≤ 16
  ok : r.Ok b
  f : ∀ f, f ∈ r.fs → -r.m ≤ f ∧ f ≤ r.m
  e0 : -40 ≤ e
  e1 : e ≤ 40
  m0 : 0 ≤ m
  m1 : m ≤ 1000
  t : to + e ≤ 79
  fit : rim b r.e r.m ≤ rim c e m
structure TInv (b c : Int) (r : Rw) (e m to : Int) (s : Mst) : Prop where
  rd : ∃ k, s.rd = some k ∧ -r.e ≤ k ∧ k ≤ known r
  n : (s.figs.length : Int) ≤ max 0 (to + e)
  f : ∀ f, f ∈ s.figs → -m ≤ f ∧ f ≤ m
  lo : (ownR e m s).lo c ≤ (seenT b r s.rd).1
  hi : (seenT b r s.rd).2 ≤ (ownR e m s).hi c
theorem Rw.Ok.lh {b : Int} {r : Rw} (h : r.Ok b) : r.lo b ≤ r.hi b := by
  have t0 : 0 ≤ r.tail b := by
    unfold Rw.tail
    exact Rat.mul_nonneg (spread_bd h).1 (Rat.le_of_lt h.pwp)
  unfold Rw.lo Rw.hi
  generalize r.tail b = t at *
  generalize r.worth b = w at *
  grind
theorem seen_lh {b : Int} {r : Rw} (h : r.Ok b) (rd : Option Int) : (seenT b r rd).1 ≤ (seenT b r rd).2 := by
  cases rd with
  | none => exact h.lh
  | some k => exact (h.cut k).lh
theorem cut_bare {r : Rw} : r.cut (-r.e) = bareR (r.e, r.m) := by
  unfold Rw.cut bareR
  rw [show -r.e + r.e = 0 by omega]
  rfl
variable {b c : Int} {r : Rw} {e m to : Int} {s s' : Mst}
theorem Tel.own (h : Tel b c r e m to) (I : TInv b c r e m to s) : (ownR e m s).Ok c :=
  ⟨h.c0, h.c1, h.e0, h.e1, h.m0, h.m1, by show s.figs.length ≤ 80; have := I.n; have := h.t; omega, fun f hf => by have := I.f f hf; have := h.m1; omega⟩
theorem Bd.mono60 {x : Rat} (h : Bd ((2 ^ 50 : Int) : Rat) x) : Bd ((2 ^ 60 : Int) : Rat) x := h.mono (Rat.intCast_le_intCast.mpr (by decide))
theorem Tel.tok (h : Tel b c r e m to) (I : TInv b c r e m to s) : TOk b c r e m s := by
  have own := h.own I
  have lh := seen_lh h.ok s.rd
  obtain ⟨k, hk, _⟩ := I.rd
  refine ⟨h.ok, own, by rw [hk]; simp, ?_, ?_⟩
  · exact Bd.mono60 (near_in own ⟨I.lo, Rat.le_trans lh I.hi⟩)
  · exact Bd.mono60 (near_in own ⟨Rat.le_trans I.lo lh, I.hi⟩)
theorem Tel.inv0 (h : Tel b c r e m to) : TInv b c r e m to (tst0 r) := by
  have o : ownR e m (tst0 r) = bareR (e, m) := rfl
  have sn : seenT b r (tst0 r).rd = ((bareR (r.e, r.m)).lo b, (bareR (r.e, r.m)).hi b) := by
    show ((r.cut (-r.e)).lo b, (r.cut (-r.e)).hi b) = _
    rw [cut_bare]
  refine ⟨⟨-r.e, rfl, Int.le_refl _, by unfold known; omega⟩, by show ((0 : Nat) : Int) ≤ _; omega, (fun f hf => by cases hf), ?_, ?_⟩
  · rw [o, sn, (bare_lo c (e, m)).1, (bare_lo b (r.e, r.m)).1]
    have := h.fit
    show -rim c e m ≤ -rim b r.e r.m
    grind
  · rw [o, sn, (bare_lo c (e, m)).2, (bare_lo b (r.e, r.m)).2]
    exact h.fit
/-- a step: a figure given, or a place read -/
theorem stepT_is (h : stepT b c r e m to s = some s') : (∃ d, near (rightT b c r e m s) = some d ∧ nextP e s ≤ to ∧ s' = ⟨s.figs ++ [d], s.rd⟩) ∨ (near (rightT b c r e m s) = none ∧ ∃ k, s.rd = some k ∧ k < known r ∧ s' = ⟨s.figs, some (k + 1)⟩) := by
  unfold stepT at h
  cases hd : near (rightT b c r e m s) with
  | some d =>
    rw [hd] at h
    dsimp only at h
    by_cases z : to < nextP e s
    · rw [if_pos z] at h; cases h
    · rw [if_neg z] at h; cases h
      exact .inl ⟨d, rfl, by omega, rfl⟩
  | none =>
    rw [hd] at h
    dsimp only at h
    cases hk : s.rd with
    | none => rw [hk] at h; cases h
    | some k =>
      rw [hk] at h
      dsimp only at h
      by_cases z : known r ≤ k
      · rw [if_pos z] at h; cases h
      · rw [if_neg z] at h; cases h
        exact .inr ⟨rfl, k, rfl, by omega, rfl⟩
theorem Tel.step (h : Tel b c r e m to) (I : TInv b c r e m to s) (hs : stepT b c r e m to s = some s') : TInv b c r e m to s' := by
  have m1 := h.m1; have m0 := h.m0
  rcases stepT_is hs with ⟨d, hd, hp, rfl⟩ | ⟨hd, k, hk, hlt, rfl⟩
  · obtain ⟨n1, _⟩ := near_is hd
    obtain ⟨⟨d0, d1⟩, c1, c2⟩ := (figs_mem (r := ownR e m s) h.m0).mp n1
    refine ⟨I.rd, ?_, fun f hf => ?_, c1, c2⟩
    · show ((s.figs ++ [d]).length : Int) ≤ _
      rw [List.length_append]; simp only [List.length_cons, List.length_nil]
      unfold nextP at hp; omega
    · rcases List.mem_append.mp hf with hf | hf
      · exact I.f f hf
      · simp only [List.mem_singleton] at hf
        subst hf; exact ⟨d0, d1⟩
  · obtain ⟨k', hk', k0, k1⟩ := I.rd
    rw [hk] at hk'; cases hk'
    have cc : (r.cut (k + 1)).cut k = r.cut k := cut_cut (by omega)
    have ci := Rw.cut_in h.b0 (r := r.cut (k + 1)) (by show 0 ≤ r.m; exact h.ok.m0) (fun f hf => h.f f (List.mem_of_mem_take hf)) k
    rw [cc] at ci
    have lo := I.lo; have hi := I.hi
    unfold seenT at lo hi
    rw [hk] at lo hi
    exact ⟨⟨k + 1, rfl, by omega, by omega⟩, I.n, I.f, Rat.le_trans lo ci.1, Rat.le_trans ci.2 hi⟩
theorem Tel.inv (h : Tel b c r e m to) (rc : Rch (stepT b c r e m to) (tst0 r) s) : TInv b c r e m to s := rc.of h.inv0 fun _ _ I hs => h.step I hs
theorem Tel.all (h : Tel b c r e m to) : TAll b c r e m to := fun _ rc => h.tok (h.inv rc)
def muT (r : Rw) (e to : Int) (s : Mst) : Nat := (to + e - (s.figs.length : Int)).toNat + (match s.rd with | some k => (known r - k).toNat | none => 0)
theorem muT_step (hs : stepT b c r e m to s = some s') : muT r e to s' < muT r e to s := by
  rcases stepT_is hs with ⟨d, hd, hp, rfl⟩ | ⟨hd, k, hk, hlt, rfl⟩
  · unfold muT nextP at *
    dsimp only
    rw [List.length_append]; simp only [List.length_cons, List.length_nil]
    omega
  · unfold muT
    dsimp only
    rw [hk]
    dsimp only
    omega
theorem vc_based_run : goal_based_run := by
  rintro x0 x1 x2 x3 x4 x5 S P ⟨b, c, r, e, m, to, er, ok, ht, h⟩
  cases er
  unfold rd_based_run
  unfold dWhile
  walk_at "dg4"
  intro p hp
  refine ⟨p, b, c, r, e, m, rfl, supd_same, fun q S1 hq hqp M1 bt1 => ⟨rfl, ?_⟩⟩
  have hq0 : S q = none := by rwa [supd_ne hqp] at hq
  have k1 : Kp S S1 := (Kp.new Kp.refl hp).but hp hq0 bt1
  refine ⟨fun j ρ S' => ∃ s tr, ρ = [some (.int b), some (.int c), some r.d, some (.int e), some (.int m), some (.int to), some (.obj p)] ∧ TAt S' p q b c r e m s ∧ Rch (stepT b c r e m to) (tst0 r) s ∧
    (∀ t tr', Runs (stepT b c r e m to) s tr t tr' → Runs (stepT b c r e m to) (tst0 r) [] t tr') ∧ Kp S S' ∧ j = muT r e to s,
    ⟨_, tst0 r, [], rfl, M1, .refl, fun _ _ r => r, k1, rfl⟩, ?_⟩
  rintro j ρ S' ⟨s, tr, rfl, M, rc, hrun, kp, rfl⟩
  have oks := ok s rc
  walk_at "dg4"
  refine ⟨p, _, rfl, M.o, tk_no.2.2, ?_⟩
  refine ⟨p, q, b, c, r, e, m, to, s, rfl, M, oks, kp _ _ ht, fun hs => ?_, fun s' S2 hs M2 bt2 => ?_⟩
  · walk_at "dg4"
    have ol := oks.own.l
    refine ⟨p, _, rfl, M.o, tk_no.1, p, q, b, c, r, e, m, s, rfl, M, by show s.figs.length ≤ 1000; unfold ownR at ol; simp at ol; omega, ?_⟩
    refine ⟨p, _, _, rfl, M.o, tk_read, ?_⟩
    exact h S' s tr (hrun _ _ (.stop hs)) kp
  · walk_at "dg4"
    exact ⟨_, muT_step hs, s', growT s s' tr, M2, rc.step hs, fun t tr' r => hrun t tr' (.go hs r), kp.but hp hq0 bt2, rfl⟩
end Lb

/-! What the laws of bases draw and reckon. -/
namespace Lb
open PySem PySem.Spec PyProof.Rows L2 DL
local macro_rules | `(tactic| omega) => `(tactic| first | assumption | lia)
variable [CT]
local macro_rules | `(tactic| walk_at "dg4") => `(tactic| try simp only [dFld, dSetFld, dFldAdd, dMeth, dMake, dMakeK, dFld2, dMinKey, dDispGet, dictAt, isi_non_dict, isi_bl_dict, isi_int_dict, isi_str_dict, isi_lst_dict, isi_tup_dict, isi_non_bs, isi_bl_bs, isi_int_bs, isi_str_bs, isi_lst_bs, isi_tup_bs, g_ix_enc0, g_ix_enc1, g_ix_sp0, g_ix_sp1, g_put_sp, Int.reduceEq, dSeq, dSet, dPar, dOp, dUn, dVar, dC, dCB, dCons, dNil, dTup, dLst, dLstM, dIfS, dIf, dTest, dNot, dAnd, dOr, dAndV, dOrV, dNotV, dRet, dRetN, dEnd, dNext, dAdd, dSub, dMul, dFdiv, dMod, dPow, dNeg, dLt, dLe, dGt, dGe, dEq, dNe, eqB_ii, eqB_bb, eqB_ss, eqB_nn, eqB_ni, eqB_in, eqB_ns, eqB_sn, eqB_is, eqB_si, eqB_nb, eqB_bn, dIn, g_ix_tup, g_ix_lst, g_ix_ext, g_ln_tup, g_ln_lst, g_ln_ext, g_nn_non, g_nn_int, g_nn_tup, g_in_non, g_in_int, g_in_tup, g_ix_row0, g_ix_row1, g_ix_row2, g_ix_span0, g_ix_span1, g_nn_span, g_nn_encR, g_in_span, cAbs, cMax2, cMin2, cInt, cList, cTuple, dIsB, dNotB, dPar3, ForN, LcN, pinOf, pin2, dEnum2, dAppend, supd_same0, isi_non_int, isi_non_bool, isi_non_str, isi_non_list, isi_non_tuple, isi_non_lt, isi_bl_int, isi_bl_bool, isi_bl_str, isi_bl_list, isi_bl_tuple, isi_bl_lt, isi_int_int, isi_int_bool, isi_int_str, isi_int_list, isi_int_tuple, isi_int_lt, isi_str_int, isi_str_bool, isi_str_str, isi_str_list, isi_str_tuple, isi_str_lt, isi_lst_int, isi_lst_bool, isi_lst_str, isi_lst_list, isi_lst_tuple, isi_lst_lt, isi_tup_int, isi_tup_bool, isi_tup_str, isi_tup_list, isi_tup_tuple, isi_tup_lt, dAug, dIAdd, dIMul, dDrop, dSl, dPart, dNoPart, dRevL, dCallK, dChainR, dAsg, put_nm, put_tp, put_tl, g_put_row, g_put_span, putL_nil, putL_cons, Option.bind, seqOf, lstOf, dFor, dLc, dLcM, dItSeq, dZip, dZipS, dEnum, dRng1, dRng2, dYes, dwipe, Tgt.slots, Tgt.slotsL,
  atI_0, atI_1, atI_2, atI_3, List.getElem?_cons_zero, List.getElem?_cons_succ, List.set_cons_zero, List.set_cons_succ, decide_eq_true_eq, List.length_cons, List.length_nil, List.cons_append, List.nil_append, List.append_nil, ofString_inj, String.reduceEq, decide_true, decide_false, reduceIte, Bool.false_eq_true, Bool.not_true, Bool.not_false, eqFlat, isFlat, List.any_cons, List.any_nil, List.all_cons, List.all_nil, Bool.or_false, Bool.or_true, Bool.false_or, Bool.true_or, Bool.and_true, Bool.true_and, true_and, and_true, Nat.reduceAdd, Nat.reduceLeDiff, Int.reduceLT, Int.reduceLE, Int.reduceNeg])
def sp_LmostT : DSp := fun ds S P => ∃ (p : Addr) (n : Nat) (b : Int), ds = [.obj p, .int b] ∧ BoxAt S p n ∧ n ≤ 100000000 ∧ 2 ≤ b ∧ b ≤ 16 ∧ ∀ m S', b ≤ 2 * m → m ≤ 60 → Dk S S' p (n + 3) → P (.int m) S'
def rd_LmostT : DS :=
  (dSeq (dSet 2 (dOp dFdiv (dOp dAdd (dVar 1) (dC (.int 1))) (dC (.int 2))))
  (dRet (dCB sp_Lof (dCons (dVar 0) (dCons (dLst (dCons (dVar 2) (dCons (dVar 2) (dCons (dCB cMax2 (dCons (dVar 2) (dCons (dOp dSub (dVar 1) (dC (.int 1))) dNil))) (dCons (dOp dAdd (dVar 2) (dCB sp_Ltake (dCons (dVar 0) (dCons (dC (.int 3)) dNil)))) (dCons (dOp dAdd (dVar 2) (dCB sp_Ltake (dCons (dVar 0) (dCons (dOp dSub (dC (.int 61)) (dVar 2)) dNil)))) dNil)))))) dNil)))))
def goal_LmostT : Prop := ∀ (x0 x1 : D) (S : Store) (P : D → Store → Prop), sp_LmostT [x0, x1] S P → rd_LmostT (dEnd P) [some x0, some x1, none] S
theorem len_LmostT : ∀ ds S P, sp_LmostT ds S P → ds.length = 2 := by
  rintro ds S P ⟨a, b, c, rfl, _⟩; rfl
theorem vc_LmostT : goal_LmostT := by
  rintro x0 x1 S P ⟨p, n, b, e, hb, hn, b0, b1, h⟩
  cases e
  unfold rd_LmostT
  walk_at "dg4"
  refine ⟨divS (by decide) (by decide), ?_⟩
  rw [half_fdiv]
  generalize hh : (b + 1) / 2 = half
  refine takeK (.refl hb) (by decide) (by decide) (by omega +splitDisjunctions) fun x S1 x0 x1 hb1 => ?_
  walk_at "dg4"
  refine takeK hb1 (by omega +splitDisjunctions) (by omega +splitDisjunctions) (by omega +splitDisjunctions) fun y S2 y0 y1 hb2 => ?_
  walk_at "dg4"
  refine ofK (ns := [half, half, (if b - 1 > half then b - 1 else half), half + x, half + y]) (fun z => b ≤ 2 * z ∧ z ≤ 60) hb2 (by simp) (by simp) (by omega +splitDisjunctions) ?_ fun z S3 hz hb3 => h z S3 hz.1 hz.2 hb3
  intro z hz
  simp only [List.mem_cons, List.not_mem_nil, or_false] at hz
  rcases hz with rfl | rfl | rfl | rfl | rfl
  · omega
  · omega
  · split <;> omega
  · omega
  · omega
theorem ivl_snoc (a : Int) (n : Nat) : ivl a (n + 1) = ivl a n ++ [a + (n : Int)] := by
  unfold ivl
  rw [List.range_succ, List.map_append]
  rfl
/-! ### the least begin -/
theorem rim_times {b e m : Int} (b0 : 2 ≤ b) : rim b e m * ((b - 1 : Int) : Rat) = (m : Rat) * (b : Rat) ^ e := by
  have cp : (0 : Rat) < ((b - 1 : Int) : Rat) := ratpos (by omega)
  unfold rim
  have e1 : (m : Rat) / ((b - 1 : Int) : Rat) * ((b - 1 : Int) : Rat) = (m : Rat) := by
    generalize ((b - 1 : Int) : Rat) = y at *
    rw [Rat.div_def, Rat.mul_assoc, Rat.inv_mul_cancel _ (by grind), Rat.mul_one]
  rw [Rat.mul_assoc, Rat.mul_comm ((b : Rat) ^ e), ← Rat.mul_assoc, e1]
theorem rim_nnT {b e m : Int} (b0 : 2 ≤ b) (m0 : 0 ≤ m) : 0 ≤ rim b e m := by
  unfold rim
  refine Rat.mul_nonneg ?_ (Rat.le_of_lt (Rat.zpow_pos (ratpos (by omega))))
  rw [Rat.div_def]
  exact Rat.mul_nonneg (by have : ((0 : Int) : Rat) ≤ (m : Rat) := Rat.intCast_le_intCast.mpr m0; exact this) (Rat.le_of_lt (Rat.inv_pos.mpr (ratpos (by omega))))
theorem rim_monoT {b m d e : Int} (b0 : 2 ≤ b) (m0 : 0 ≤ m) (h : d ≤ e) : rim b d m ≤ rim b e m := by
  unfold rim
  refine Rat.mul_le_mul_of_nonneg_left (zpow_mono (by omega) h) ?_
  rw [Rat.div_def]
  exact Rat.mul_nonneg (by have : ((0 : Int) : Rat) ≤ (m : Rat) := Rat.intCast_le_intCast.mpr m0; exact this) (Rat.le_of_lt (Rat.inv_pos.mpr (ratpos (by omega))))
/-! ### fronts -/
theorem Rch.head_or {f : Mst → Option Mst} {a u : Mst} (h : Rch f a u) : a = u ∨ ∃ v, f a = some v ∧ Rch f v u := by
  induction h with
  | refl => exact .inl rfl
  | step r e ih =>
    rcases ih with rfl | ⟨v, h1, h2⟩
    · exact .inr ⟨_, e, .refl⟩
    · exact .inr ⟨v, h1, h2.step e⟩
theorem Rch.on {f : Mst → Option Mst} {s t u : Mst} (h : Rch f s t) (hu : Rch f s u) (n : f u = none) : Rch f t u := by
  induction h with
  | refl => exact hu
  | step r e ih =>
    rcases ih.head_or with z | ⟨v, h1, h2⟩
    · rw [z, n] at e; cases e
    · rw [h1] at e; cases e; exact h2
section
variable {b c : Int} {r : Rw} {e m to : Int}
theorem stepT_pre {s t : Mst} (h : Rch (stepT b c r e m to) s t) : s.figs <+: t.figs := by
  refine h.of (I := fun x => s.figs <+: x.figs) (List.prefix_refl _) fun t u ht hu => ?_
  rcases stepT_is hu with ⟨d, _, _, rfl⟩ | ⟨_, k, _, _, rfl⟩
  · exact ht.trans (List.prefix_append _ _)
  · exact ht
theorem known_cut_le {K : Int} : known (r.cut K) ≤ known r := by
  unfold known Rw.cut
  simp only [List.length_take]
  omega
theorem cut_seen {K j : Int} (h : j ≤ known (r.cut K)) : (r.cut K).cut j = r.cut j := by
  unfold Rw.cut known at *
  simp only [List.length_take] at h
  simp only [List.take_take]
  congr 2
  omega
theorem stepT_cut {K j to' : Int} {x y : Mst} (hx : x.rd = some j) (hj : j ≤ known (r.cut K)) (ht : to' ≤ to) (h : stepT b c (r.cut K) e m to' x = some y) : stepT b c r e m to x = some y := by
  have er : rightT b c r e m x = rightT b c (r.cut K) e m x := by
    unfold rightT seenT
    rw [hx]
    show figsR c (ownR e m x) ((r.cut j).lo b, (r.cut j).hi b) = figsR c (ownR e m x) (((r.cut K).cut j).lo b, ((r.cut K).cut j).hi b)
    rw [cut_seen hj]
  have kl := known_cut_le (r := r) (K := K)
  rcases stepT_is h with ⟨d, h1, h2, rfl⟩ | ⟨h1, k, hk, hlt, rfl⟩
  · unfold stepT
    rw [er, h1]
    dsimp only
    rw [if_neg (by omega)]
  · unfold stepT
    rw [er, h1]
    dsimp only
    rw [hk]
    dsimp only
    rw [if_neg (by omega)]
/-- of a beginning of the row, to a lesser place, a beginning comes -/
theorem front_cut {K to' : Int} {x u : Mst} {tr : List (Option Int × Int)} (ht : to' ≤ to) (h : Rch (stepT b c (r.cut K) e m to') (tst0 r) x) (run : Runs (stepT b c r e m to) (tst0 r) [] u tr) : x.figs <+: u.figs := by
  have I : (∃ j, x.rd = some j ∧ j ≤ known (r.cut K)) ∧ Rch (stepT b c r e m to) (tst0 r) x := by
    refine h.of (I := fun x => (∃ j, x.rd = some j ∧ j ≤ known (r.cut K)) ∧ Rch (stepT b c r e m to) (tst0 r) x) ⟨⟨-r.e, rfl, ?_⟩, .refl⟩ ?_
    · unfold known Rw.cut; dsimp only; omega
    · rintro t u ⟨⟨j, hj, hk⟩, rc⟩ hu
      refine ⟨?_, rc.step (stepT_cut hj hk ht hu)⟩
      rcases stepT_is hu with ⟨d, _, _, rfl⟩ | ⟨_, k, h1, h2, rfl⟩
      · exact ⟨j, hj, hk⟩
      · exact ⟨k + 1, rfl, by omega⟩
  obtain ⟨h1, h2⟩ := run.last
  exact stepT_pre (I.2.on h1 h2)
end
/-- how wide what may come is, by the figure's own place -/
def needT (b c mine pl : Int) : Rat := (c : Rat) ^ pl * (((2 * mine * (c - 1) : Int) : Rat) / ((b - 1 : Int) : Rat))
def sp_told_read : DSp := fun ds S P => ∃ b c mine m pl : Int, ds = [.int b, .int c, .int mine, .int m, .int pl] ∧ 2 ≤ b ∧ b ≤ 16 ∧ 2 ≤ c ∧ c ≤ 16 ∧ 1 ≤ mine ∧ mine ≤ 1000 ∧ c ≤ 2 * m ∧ m ≤ 1000 ∧ pl.natAbs ≤ 60 ∧
  ∀ d, IsLp b (2 * m - c + 1) (needT b c mine pl) d → -830 ≤ d → d ≤ 830 → P (.int d) S
def rd_told_read : DS :=
  (dSeq (dSet 5 (dCB sp_times (dCons (dCB sp_power (dCons (dVar 1) (dCons (dVar 4) dNil))) (dCons (dCB sp_frac (dCons (dOp dMul (dOp dMul (dC (.int 2)) (dVar 2)) (dOp dSub (dVar 1) (dC (.int 1)))) (dCons (dOp dSub (dVar 0) (dC (.int 1))) dNil))) dNil))))
  (dRet (dCB sp_least_power (dCons (dVar 0) (dCons (dOp dAdd (dOp dSub (dOp dMul (dC (.int 2)) (dVar 3)) (dVar 1)) (dC (.int 1))) (dCons (dVar 5) dNil))))))
def goal_told_read : Prop := ∀ (x0 x1 x2 x3 x4 : D) (S : Store) (P : D → Store → Prop), sp_told_read [x0, x1, x2, x3, x4] S P → rd_told_read (dEnd P) [some x0, some x1, some x2, some x3, some x4, none] S
theorem len_told_read : ∀ ds S P, sp_told_read ds S P → ds.length = 5 := by
  rintro ds S P ⟨a, b, c, d, e, rfl, _⟩; rfl
theorem needT_pos {b c mine pl : Int} (b0 : 2 ≤ b) (c0 : 2 ≤ c) (m0 : 1 ≤ mine) : 0 < needT b c mine pl := by
  unfold needT
  refine Rat.mul_pos (Rat.zpow_pos (ratpos (by omega))) (div_pos' ?_ (ratpos (by omega)))
  have : (0 : Int) < 2 * mine * (c - 1) := Int.mul_pos (by omega) (by omega)
  exact ratpos this
theorem vc_told_read : goal_told_read := by
  rintro x0 x1 x2 x3 x4 S P ⟨b, c, mine, m, pl, er, b0, b1, c0, c1, m0, m1, k0, k1, hp, h⟩
  cases er
  unfold rd_told_read
  have bd : (2 * mine * (c - 1)).natAbs < 2 ^ 20 := by
    have h1 : (2 * mine * (c - 1)).natAbs = (2 * mine).natAbs * (c - 1).natAbs := Int.natAbs_mul ..
    have h2 : (2 * mine).natAbs * (c - 1).natAbs ≤ 2000 * 15 := Nat.mul_le_mul (by omega) (by omega)
    rw [h1]
    exact Nat.lt_of_le_of_lt h2 (by decide)
  walk_at "dg4"
  refine ⟨c, pl, rfl, by omega, c1, by omega, ?_⟩
  refine ⟨mulS, ?_⟩
  refine ⟨mulS, ?_⟩
  refine ⟨_, b - 1, rfl, by omega, bound_mono (n := 20) bd, bound_mono (n := 20) (by omega), ?_⟩
  have sp : Sz 241 ((c : Rat) ^ pl) := (sz_zpow (by omega) c1).mono (by omega)
  have sf : Sz 20 (((2 * mine * (c - 1) : Int) : Rat) / ((b - 1 : Int) : Rat)) := sz_frac (by omega) bd (by omega)
  refine ⟨_, _, rfl, sp.mono (by decide), sf.mono (by decide), ?_⟩
  refine ⟨mulS, ?_⟩
  refine ⟨b, 2 * m - c + 1, _, rfl, b0, b1, by omega, by omega, needT_pos b0 c0 m0, (sz_mul sp sf).mono (by decide), fun d h1 h2 h3 => ?_⟩
  exact h d h1 h2 h3
def sp_Lsigns : DSp := fun ds S P => ∃ (p : Addr) (n : Nat) (b st top k : Int) (x : Rat), ds = [.obj p, .int b, .int st, .int top, encR x, .int k] ∧ BoxAt S p n ∧ n ≤ 100000000 ∧ 2 ≤ b ∧ b ≤ 16 ∧ -20 ≤ st ∧ st ≤ 20 ∧ b ≤ 2 * top ∧ top ≤ 60 ∧ 0 ≤ k ∧ k ≤ 20 ∧ Sz 400 x ∧ -rim b st top ≤ x ∧ x ≤ rim b st top ∧
  ∀ (fs : List Int) S', fs.length = k.toNat → (∀ f, f ∈ fs → -top ≤ f ∧ f ≤ top) → (Rw.mk st top fs).lo b ≤ x → x ≤ (Rw.mk st top fs).hi b → Dk S S' p (n + 21) → P (.tup (fs.map .int)) S'
def rd_Lsigns_1 : DS :=
  (dSeq (dSet 13 (dCB sp_Lless (dCons (dVar 7) (dCons (dCB sp_Lby (dCons (dTup (dCons (dVar 12) (dCons (dC (.int 1)) dNil))) (dCons (dVar 9) dNil))) dNil))))
  (dIfS (dAnd (dNot (dTest (dCB sp_Lbelow (dCons (dVar 11) (dCons (dVar 13) dNil))))) (dNot (dTest (dCB sp_Lbelow (dCons (dVar 13) (dCons (dTup (dCons (dOp dSub (dC (.int 0)) (dOp dIx (dVar 11) (dC (.int 0)))) (dCons (dOp dIx (dVar 11) (dC (.int 1))) dNil))) dNil)))))) (dDrop (dAppend (dVar 10) (dVar 12))) dNext))
def rd_Lsigns_2 : DS :=
  (dSeq (dPar 9 10 (dCons (dCB sp_Lpower (dCons (dVar 1) (dCons (dOp dSub (dOp dSub (dVar 2) (dC (.int 1))) (dVar 8)) dNil))) (dCons (dLstM dNil) dNil)))
  (dSeq (dSet 11 (dCB sp_Lby (dCons (dCB sp_Lfrac (dCons (dVar 3) (dCons (dOp dSub (dVar 1) (dC (.int 1))) dNil))) (dCons (dVar 9) dNil))))
  (dSeq (dFor (dRng2 (dCons (dUn dNeg (dVar 3)) (dCons (dOp dAdd (dVar 3) (dC (.int 1))) dNil))) (.nm 12) rd_Lsigns_1)
  (dFrz 10 (dSeq (dIfS (dTest (dOp dEq (dVar 10) (dLst dNil))) (dRet (dC .non)) dNext)
  (dSeq (dDrop (dAppend (dVar 6) (dCB sp_Lof (dCons (dVar 0) (dCons (dVar 10) dNil)))))
  (dSet 7 (dCB sp_Lless (dCons (dVar 7) (dCons (dCB sp_Lby (dCons (dTup (dCons (dOp dIx (dVar 6) (dUn dNeg (dC (.int 1)))) (dCons (dC (.int 1)) dNil))) (dCons (dVar 9) dNil))) dNil))))))))))
def rd_Lsigns : DS :=
  (dSeq (dPar 6 7 (dCons (dLstM dNil) (dCons (dVar 4) dNil)))
  (dSeq (dFor (dRng1 (dCons (dVar 5) dNil)) (.nm 8) rd_Lsigns_2)
  (dRet (dCB cTuple (dCons (dVar 6) dNil)))))
def goal_Lsigns : Prop := ∀ (x0 x1 x2 x3 x4 x5 : D) (S : Store) (P : D → Store → Prop), sp_Lsigns [x0, x1, x2, x3, x4, x5] S P → rd_Lsigns (dEnd P) [some x0, some x1, some x2, some x3, some x4, some x5, none, none, none, none, none, none, none, none] S
theorem len_Lsigns : ∀ ds S P, sp_Lsigns ds S P → ds.length = 6 := by
  rintro ds S P ⟨a, b, c, d, e, f, g, rfl, _⟩; rfl
theorem vc_Lsigns : goal_Lsigns := by
  rintro x0 x1 x2 x3 x4 x5 S P ⟨p, n, b, st, top, k, x, er, hb, hn, b0, b1, s0, s1, t0, t1, k0, k1, sx, hx1, hx2, h⟩
  cases er
  unfold rd_Lsigns
  walk_at "dg4"
  intro L hL
  have pL := hb.ne hL
  have w0 : (Rw.mk st top []).worth b = 0 := by unfold Rw.worth whole; simp
  have ex0 : encR x = encR (x - (Rw.mk st top []).worth b) := by rw [w0, Rat.sub_eq_add_neg, Rat.neg_zero, Rat.add_zero]
  refine ⟨by omega, by omega, fun i ρ S' => Dk S S' p (n + i) ∧ ∃ (fs : List Int) (z8 z9 z10 z11 z12 z13 : Option D), S' L = some (.lst (fs.map .int)) ∧ fs.length = i ∧ (∀ f, f ∈ fs → -top ≤ f ∧ f ≤ top) ∧ (Rw.mk st top fs).lo b ≤ x ∧ x ≤ (Rw.mk st top fs).hi b ∧
    ρ = [some (.obj p), some (.int b), some (.int st), some (.int top), some (encR x), some (.int k), some (.obj L), some (encR (x - (Rw.mk st top fs).worth b)), z8, z9, z10, z11, z12, z13],
    ⟨(Dk.refl hb).new hL, [], none, none, none, none, none, none, supd_same, rfl, by simp, ?_, ?_, by rw [← ex0]⟩, ?_, ?_⟩
  · exact (bare_lo b (st, top)).1 ▸ hx1
  · exact (bare_lo b (st, top)).2 ▸ hx2
  · rintro i d ρ S2 hd ⟨hd2, fs, z8, z9, z10, z11, z12, z13, hS, hfl, hff, hlo, hhi, rfl⟩
    obtain ⟨hi, rfl⟩ := rng_get hd
    refine ⟨_, rfl, ?_⟩
    unfold rd_Lsigns_2
    obtain ⟨R, hR⟩ : ∃ R, R = Rw.mk st top fs := ⟨_, rfl⟩
    have Re : R.e = st := by rw [hR]
    have Rm : R.m = top := by rw [hR]
    have Rf : R.fs = fs := by rw [hR]
    rw [← hR] at hlo hhi
    have ok : R.Ok b := by rw [hR]; exact ⟨b0, b1, by show -40 ≤ st; omega, by show st ≤ 40; omega, by show 0 ≤ top; omega, by show top ≤ 1000; omega, by show fs.length ≤ 80; omega, fun f hf => by have := hff f hf; omega⟩
    rw [← hR]
    obtain ⟨U, hU⟩ : ∃ U, U = (b : Rat) ^ (st - 1 - (i : Int)) := ⟨_, rfl⟩
    have sU : Sz 485 U := by rw [hU]; exact (sz_zpow (k := st - 1 - (i : Int)) (by omega) b1).mono (by omega)
    have cs : Sz 11 ((top : Rat) / ((b - 1 : Int) : Rat)) := by have := ok.fr; rwa [Rm] at this
    have en : R.nx b = U := by unfold Rw.nx; rw [hU, Re, Rf]; congr 1; omega
    have ei : (0 : Int) + (i : Int) = (i : Int) := by omega
    rw [ei]
    walk_at "dg4"
    refine ⟨b, _, rfl, by omega, b1, by omega, ?_⟩
    rw [← hU]
    intro M hM
    have ML : L ≠ M := fun z => by rw [← z, hS] at hM; cases hM
    refine ⟨top, b - 1, rfl, by omega, bound_mono (n := 10) (by omega), bound_mono (n := 10) (by omega), ?_⟩
    refine ⟨_, _, rfl, cs.mono (by decide), sU.mono (by decide), ?_⟩
    obtain ⟨O, hO⟩ : ∃ O, O = (top : Rat) / ((b - 1 : Int) : Rat) * U := ⟨_, rfl⟩
    have sO : Sz 496 O := by rw [hO]; exact sz_mul cs sU
    rw [← hO]
    have sW := sz_sub sx ok.worth
    obtain ⟨W, hW⟩ : ∃ W, W = R.worth b := ⟨_, rfl⟩
    have lo : ∀ f : Int, (R.snoc f).lo b = W + (f : Rat) * U - O := fun f => by
      have := Rw.snoc_lo (b := b) (r := R) b0 f
      rw [en, Rm, ← hO, ← hW] at this
      exact this
    have hi2 : ∀ f : Int, (R.snoc f).hi b = W + (f : Rat) * U + O := fun f => by
      have := Rw.snoc_hi (b := b) (r := R) b0 f
      rw [en, Rm, ← hO, ← hW] at this
      exact this
    rw [← hW] at sW ⊢
    refine ⟨by omega, fun j ρ S' => S' = supd S2 M (.lst (((ivl (-top) j).filter (figOk b R (x, x))).map .int)) ∧ ∃ z12 z13 : Option D, ρ = [some (.obj p), some (.int b), some (.int st), some (.int top), some (encR x), some (.int k), some (.obj L), some (encR (x - W)), some (.int (i : Int)), some (encR U), some (.obj M), some (encR O), z12, z13], ⟨rfl, _, _, rfl⟩, ?_, ?_⟩
    · rintro j d ρ S' hd ⟨rfl, z12, z13, rfl⟩
      obtain ⟨hj, rfl⟩ := rng_get hd
      refine ⟨_, rfl, ?_⟩
      unfold rd_Lsigns_1
      obtain ⟨f, hf, f0, f1⟩ : ∃ f : Int, f = -top + (j : Int) ∧ -top ≤ f ∧ f ≤ top := ⟨_, rfl, by omega, by omega⟩
      have hf' : -top + (j : Int) = f := hf.symm
      rw [hf']
      walk_at "dg4"
      have sf : Sz 11 (f : Rat) := sz_int (by omega) (by decide)
      refine ⟨(f : Rat), U, by rw [encR_int], sf.mono (by decide), sU.mono (by decide), ?_⟩
      refine ⟨_, _, rfl, sW.mono (by decide), (sz_mul sf sU).mono (by decide), ?_⟩
      have sA := sz_sub sW (sz_mul sf sU)
      walk_at "dg4"
      refine ⟨_, _, rfl, sO.mono (by decide), sA.mono (by decide), ?_⟩
      walk_at "dg4"
      have key : ivl (-top) (j + 1) = ivl (-top) j ++ [f] := by rw [ivl_snoc, hf']
      have fin : ∀ t : Bool, figOk b R (x, x) f = t → ((ivl (-top) (j + 1)).filter (figOk b R (x, x))).map D.int = ((ivl (-top) j).filter (figOk b R (x, x))).map D.int ++ (if t = true then [D.int f] else []) := fun t ht => by
        rw [key, List.filter_append, List.map_append]
        cases t <;> simp [ht]
      have lof := lo f; have hif := hi2 f
      by_cases c1 : O < x - W - (f : Rat) * U
      · simp only [c1, decide_true, Bool.not_true, Bool.false_eq_true, reduceIte]
        walk_at "dg4"
        have := fin false (by unfold figOk; rw [hif]; simp; intro _; grind)
        exact ⟨by rw [this]; simp, _, _, rfl⟩
      · simp only [c1, decide_false, Bool.not_false, reduceIte]
        walk_at "dg4"
        have en2 : D.tup [.int (0 - O.num), .int (O.den : Int)] = encR (-O) := by unfold encR; rw [Rat.neg_num, Rat.neg_den, Int.zero_sub]
        rw [show encR O = D.tup [.int O.num, .int (O.den : Int)] from rfl]
        walk_at "dg4"
        refine ⟨x - W - (f : Rat) * U, -O, by rw [← en2]; try rfl, sA.mono (by decide), (sz_neg sO).mono (by decide), ?_⟩
        walk_at "dg4"
        by_cases c2 : x - W - (f : Rat) * U < -O
        · simp only [c2, decide_true, Bool.not_true, Bool.false_eq_true, reduceIte]
          walk_at "dg4"
          have := fin false (by unfold figOk; rw [lof]; simp; intro _; grind)
          exact ⟨by rw [this]; simp, _, _, rfl⟩
        · simp only [c2, decide_false, Bool.not_false, reduceIte]
          walk_at "dg4"
          refine ⟨_, rfl, _, rfl, by rw [List.length_map]; exact Nat.lt_of_le_of_lt (List.length_filter_le ..) (by unfold ivl; rw [List.length_map, List.length_range]; omega), ?_⟩
          have := fin true (by unfold figOk; rw [lof, hif]; simp; constructor <;> grind)
          exact ⟨by rw [this, supd_supd]; simp, _, _, rfl⟩
    · rintro ρ S' ⟨rfl, z12, z13, rfl⟩
      unfold dFrz
      refine ⟨M, _, rfl, supd_same, ?_⟩
      have e1 : sdel (supd S2 M (.lst (((ivl (-top) (rng (-top) (top + 1 - -top).toNat).length).filter (figOk b R (x, x))).map .int))) M = S2 := by
        funext a
        unfold sdel supd
        split
        · rename_i z; subst z; exact hM.symm
        · rfl
      rw [e1]
      have ex : (ivl (-top) (rng (-top) (top + 1 - -top).toNat).length).filter (figOk b R (x, x)) = figsR b R (x, x) := by
        unfold figsR
        rw [rng_len, Rm]
        congr 2
        congr 1
        omega
      rw [ex]
      have ne : figsR b R (x, x) ≠ [] := right_exists ok (by rw [Rm]; omega) hlo hhi (by
        dsimp only
        rw [Rat.sub_self, Rat.zero_mul]
        exact Rat.mul_nonneg (by have : ((0 : Int) : Rat) ≤ ((2 * R.m - b + 1 : Int) : Rat) := Rat.intCast_le_intCast.mpr (by rw [Rm]; omega); exact this) (Rat.le_of_lt ok.nxp))
      have mem : ∀ z, z ∈ figsR b R (x, x) → (-top ≤ z ∧ z ≤ top) ∧ (R.snoc z).lo b ≤ x ∧ x ≤ (R.snoc z).hi b := fun z hz => by
        have := (figs_mem (b := b) (r := R) (q := (x, x)) ok.m0).mp hz
        rwa [Rm] at this
      have fl : (figsR b R (x, x)).length ≤ 100000 := by
        unfold figsR
        refine Nat.le_trans (List.length_filter_le ..) ?_
        unfold ivl
        rw [List.length_map, List.length_range, Rm]
        omega
      generalize figsR b R (x, x) = xs at *
      have hnil : dEqB (.lst (xs.map D.int)) (.lst []) = some (decide (xs = [])) := eqB_ints xs []
      walk_at "dg4"
      rw [hnil]
      simp only [ne, decide_false, Bool.false_eq_true, reduceIte]
      walk_at "dg4"
      refine ⟨_, hS, ?_⟩
      refine ofK (ns := xs) (fun z => (-top ≤ z ∧ z ≤ top) ∧ (R.snoc z).lo b ≤ x ∧ x ≤ (R.snoc z).hi b) (Dk.refl hd2.1) (List.length_pos_iff.mpr ne) fl (by omega +splitDisjunctions) mem fun z S4 hz hd4 => ?_
      have hS4 : S4 L = some (.lst (fs.map .int)) := hd4.2 L _ pL.symm hS
      refine ⟨_, hS4, by rw [List.length_map]; omega, ?_⟩
      rw [ix_obj supd_same, atI_last]
      walk_at "dg4"
      have sz : Sz 11 (z : Rat) := sz_int (by omega) (by decide)
      refine ⟨(z : Rat), U, by rw [encR_int], sz.mono (by decide), sU.mono (by decide), ?_⟩
      refine ⟨_, _, rfl, sW.mono (by decide), (sz_mul sz sU).mono (by decide), ?_⟩
      have es : Rw.mk st top (fs ++ [z]) = R.snoc z := by rw [hR]; rfl
      have ew : x - W - (z : Rat) * U = x - (R.snoc z).worth b := by
        rw [Rw.snoc_worth (by omega), en, ← hW]
        grind
      refine ⟨(Dk.put (hd2.trans hd4) pL hL).mono (by omega), fs ++ [z], _, _, _, _, _, _, by rw [supd_same, List.map_append]; rfl, by simp [hfl], fun f hf => ?_, by rw [es]; exact hz.2.1, by rw [es]; exact hz.2.2, by rw [es, ew]⟩
      rcases List.mem_append.mp hf with hf | hf
      · exact hff f hf
      · simp only [List.mem_singleton] at hf
        subst hf; exact hz.1
  · rintro ρ S2 ⟨hd2, fs, z8, z9, z10, z11, z12, z13, hS, hfl, hff, hlo, hhi, rfl⟩
    rw [rng_len] at hfl hd2
    walk_at "dg4"
    rw [hS]
    walk_at "dg4"
    exact h fs S2 hfl hff hlo hhi (hd2.mono (by omega))
/-! ### enough read -/
theorem need_eq {b c mine : Int} (b0 : 2 ≤ b) : (((2 * mine * (c - 1) : Int) : Rat) / ((b - 1 : Int) : Rat)) = 2 * ((mine : Rat) / ((b - 1 : Int) : Rat)) * ((c - 1 : Int) : Rat) := by
  rw [Rat.intCast_mul, Rat.intCast_mul, Rat.div_def, Rat.div_def]
  have : ((2 : Int) : Rat) = 2 := rfl
  rw [this]
  grind
/-- what is told to be enough, by the figure's own place and by the place read -/
theorem enough_iffT {b c mine m pl k : Int} (b0 : 2 ≤ b) (c0 : 2 ≤ c) : needT b c mine pl ≤ (b : Rat) ^ k * ((2 * m - c + 1 : Int) : Rat) ↔ 2 * ((mine : Rat) / ((b - 1 : Int) : Rat)) * ((c - 1 : Int) : Rat) * (b : Rat) ^ (-k) ≤ ((2 * m - c + 1 : Int) : Rat) * (c : Rat) ^ (-pl) := by
  unfold needT
  rw [need_eq b0]
  have bp := ratpos (show 0 < b by omega)
  have cp := ratpos (show 0 < c by omega)
  have e1 : (b : Rat) ^ k * (b : Rat) ^ (-k) = 1 := by rw [← Rat.zpow_add (by grind), show k + -k = 0 by omega]; exact Rat.zpow_zero _
  have e2 : (c : Rat) ^ pl * (c : Rat) ^ (-pl) = 1 := by rw [← Rat.zpow_add (by grind), show pl + -pl = 0 by omega]; exact Rat.zpow_zero _
  have p1 : (0 : Rat) < (b : Rat) ^ k := Rat.zpow_pos bp
  have p2 : (0 : Rat) < (b : Rat) ^ (-k) := Rat.zpow_pos bp
  have p3 : (0 : Rat) < (c : Rat) ^ pl := Rat.zpow_pos cp
  have p4 : (0 : Rat) < (c : Rat) ^ (-pl) := Rat.zpow_pos cp
  generalize 2 * ((mine : Rat) / ((b - 1 : Int) : Rat)) * ((c - 1 : Int) : Rat) = A at *
  generalize ((2 * m - c + 1 : Int) : Rat) = B at *
  generalize (b : Rat) ^ k = x at *
  generalize (b : Rat) ^ (-k) = y at *
  generalize (c : Rat) ^ pl = z at *
  generalize (c : Rat) ^ (-pl) = w at *
  constructor
  · intro h
    have := Rat.mul_le_mul_of_nonneg_right h (c := y * w) (Rat.le_of_lt (Rat.mul_pos p2 p4))
    have f1 : z * A * (y * w) = A * y * (z * w) := by grind
    have f2 : x * B * (y * w) = B * w * (x * y) := by grind
    rwa [f1, f2, e1, e2, Rat.mul_one, Rat.mul_one] at this
  · intro h
    have := Rat.mul_le_mul_of_nonneg_right h (c := x * z) (Rat.le_of_lt (Rat.mul_pos p1 p3))
    have f1 : A * y * (x * z) = z * A * (x * y) := by grind
    have f2 : B * w * (x * z) = x * B * (z * w) := by grind
    rwa [f1, f2, e1, e2, Rat.mul_one, Rat.mul_one] at this
section
variable {b c : Int} {r : Rw} {e m to : Int} {s : Mst}
theorem cut_pw {k : Int} (k0 : -r.e ≤ k) (k1 : k ≤ known r) : (r.cut k).pw b = (b : Rat) ^ (-k) := by
  unfold Rw.pw Rw.cut
  dsimp only
  rw [List.length_take]
  unfold known at k1
  congr 1
  omega
/-- enough read: a figure is right -/
theorem Tel.enough (h : Tel b c r e m to) (I : TInv b c r e m to s) (hm : c ≤ 2 * m) {k : Int} (hk : s.rd = some k) (hw : needT b c r.m (nextP e s) ≤ (b : Rat) ^ k * ((2 * m - c + 1 : Int) : Rat)) : near (rightT b c r e m s) ≠ none := by
  have own := h.own I
  obtain ⟨k', hk', k0, k1⟩ := I.rd
  rw [hk] at hk'; cases hk'
  have lo := I.lo; have hi := I.hi
  unfold rightT
  intro z
  have z := near_none.mp z
  refine right_exists own (by show c ≤ 2 * m + 1; omega) lo hi ?_ z
  have hw2 := (enough_iffT h.b0 h.c0).mp hw
  have en : (ownR e m s).nx c = (c : Rat) ^ (-(nextP e s)) := by
    unfold Rw.nx ownR nextP
    dsimp only
    congr 1
    omega
  rw [en]
  unfold seenT
  rw [hk]
  show ((r.cut k).hi b - (r.cut k).lo b) * ((c - 1 : Int) : Rat) ≤ _
  have e1 : (r.cut k).hi b - (r.cut k).lo b = 2 * ((r.m : Rat) / ((b - 1 : Int) : Rat)) * (b : Rat) ^ (-k) := by
    unfold Rw.hi Rw.lo Rw.tail
    rw [cut_pw k0 k1]
    show (r.cut k).worth b + (r.m : Rat) / ((b - 1 : Int) : Rat) * (b : Rat) ^ (-k) - ((r.cut k).worth b - (r.m : Rat) / ((b - 1 : Int) : Rat) * (b : Rat) ^ (-k)) = _
    grind
  rw [e1]
  show 2 * ((r.m : Rat) / ((b - 1 : Int) : Rat)) * (b : Rat) ^ (-k) * ((c - 1 : Int) : Rat) ≤ ((2 * m - c + 1 : Int) : Rat) * (c : Rat) ^ (-(nextP e s))
  have f : 2 * ((r.m : Rat) / ((b - 1 : Int) : Rat)) * (b : Rat) ^ (-k) * ((c - 1 : Int) : Rat) = 2 * ((r.m : Rat) / ((b - 1 : Int) : Rat)) * ((c - 1 : Int) : Rat) * (b : Rat) ^ (-k) := by grind
  rw [f]
  exact hw2
end
/-- behind all that could be done no figure was to be given that is told to be -/
theorem Tel.far {b c : Int} {r : Rw} {e m to : Int} {s : Mst} {tr : List (Option Int × Int)} {d : Int} (T : Tel b c r e m to) (hm : c ≤ 2 * m) (run : Runs (stepT b c r e m to) (tst0 r) [] s tr) (hp : nextP e s ≤ to) (hd : IsLp b (2 * m - c + 1) (needT b c r.m (nextP e s)) d) : ¬ d ≤ known r := fun hle => by
  have I := T.inv run.last.1
  have hstop := run.last.2
  obtain ⟨j, hj, j0, j1⟩ := I.rd
  have nn : near (rightT b c r e m s) = none := by
    cases z : near (rightT b c r e m s) with
    | none => rfl
    | some d =>
      unfold stepT at hstop
      rw [z] at hstop
      dsimp only at hstop
      rw [if_neg (by omega)] at hstop
      cases hstop
  have jk : j = known r := by
    unfold stepT at hstop
    rw [nn] at hstop
    dsimp only at hstop
    rw [hj] at hstop
    dsimp only at hstop
    by_cases z : known r ≤ j
    · omega
    · rw [if_neg z] at hstop; cases hstop
  subst jk
  refine T.enough I hm hj ?_ nn
  refine Rat.le_trans hd.1 ?_
  exact Rat.mul_le_mul_of_nonneg_right (zpow_mono (by have := T.b0; omega) hle) (by have : ((0 : Int) : Rat) ≤ ((2 * m - c + 1 : Int) : Rat) := Rat.intCast_le_intCast.mpr (by omega); exact this)
/-- a row that begins so is cut so -/
theorem pre_cut {r o : Rw} (he : o.e = r.e) (hm : o.m = r.m) (h : o.fs <+: r.fs) : o = r.cut (known o) := by
  have e1 : o.fs = r.fs.take (known o + r.e).toNat := by
    have := List.prefix_iff_eq_take.mp h
    rw [show (known o + r.e).toNat = o.fs.length by unfold known; omega]
    exact this
  unfold Rw.cut
  rw [← e1, ← he, ← hm]
/-! ### the least begin from -12 on -/
def stN (b c e m t : Int) : Nat → Int
  | 0 => -12
  | n + 1 => if rim b e m ≤ rim c (stN b c e m t n) t then stN b c e m t n else stN b c e m t n + 1
theorem stN_is {b c e m t : Int} : ∀ n : Nat, -12 ≤ stN b c e m t n ∧ stN b c e m t n ≤ -12 + (n : Int) ∧ (stN b c e m t n = -12 ∨ rim c (stN b c e m t n - 1) t < rim b e m) ∧ (rim b e m ≤ rim c (stN b c e m t n) t ∨ stN b c e m t n = -12 + (n : Int))
  | 0 => ⟨by show (-12 : Int) ≤ -12; decide, by show (-12 : Int) ≤ -12 + ((0 : Nat) : Int); decide, .inl rfl, .inr rfl⟩
  | n + 1 => by
    obtain ⟨h1, h2, h3, h4⟩ := stN_is (b := b) (c := c) (e := e) (m := m) (t := t) n
    unfold stN
    by_cases z : rim b e m ≤ rim c (stN b c e m t n) t
    · rw [if_pos z]
      exact ⟨h1, by omega, h3, .inl z⟩
    · rw [if_neg z]
      refine ⟨by omega, by omega, .inr ?_, ?_⟩
      · rw [show stN b c e m t n + 1 - 1 = stN b c e m t n by omega]
        exact Rat.not_le.mp z
      · rcases h4 with h4 | h4
        · exact absurd h4 z
        · exact .inr (by omega)
def stF (b c e m t : Int) : Int := stN b c e m t 24
theorem stF_is {b c e m t : Int} (h : rim b e m ≤ rim c 12 t) : -12 ≤ stF b c e m t ∧ stF b c e m t ≤ 12 ∧ (stF b c e m t = -12 ∨ rim c (stF b c e m t - 1) t < rim b e m) ∧ rim b e m ≤ rim c (stF b c e m t) t := by
  obtain ⟨h1, h2, h3, h4⟩ := stN_is (b := b) (c := c) (e := e) (m := m) (t := t) 24
  refine ⟨h1, by show stN b c e m t 24 ≤ 12; omega, h3, ?_⟩
  rcases h4 with h4 | h4
  · exact h4
  · have : stF b c e m t = 12 := by show stN b c e m t 24 = 12; omega
    rw [this]; exact h
theorem rim_lo12 {b m : Int} (b0 : 2 ≤ b) (b1 : b ≤ 10) (m0 : b ≤ 2 * m) : ((2048 : Int) : Rat) ≤ rim b 12 m := by
  have c := ratpos (show 0 < b - 1 by omega)
  have k : (2 : Int) ^ 12 * (b - 1) ≤ b ^ 12 * b := by
    have : b = 2 ∨ b = 3 ∨ b = 4 ∨ b = 5 ∨ b = 6 ∨ b = 7 ∨ b = 8 ∨ b = 9 ∨ b = 10 := by omega
    rcases this with rfl | rfl | rfl | rfl | rfl | rfl | rfl | rfl | rfl <;> decide
  have k2 : (2 : Int) ^ 12 * (b - 1) ≤ b ^ 12 * (2 * m) := Int.le_trans k (Int.mul_le_mul_of_nonneg_left m0 (Int.le_of_lt (Int.pow_pos (by omega))))
  have k3 : (2048 : Int) * (b - 1) ≤ m * b ^ 12 := by
    have e1 : (2 : Int) ^ 12 * (b - 1) = 2 * (2048 * (b - 1)) := by
      rw [show (2 : Int) ^ 12 = 2 * 2048 by decide, Int.mul_assoc]
    have e2 : b ^ 12 * (2 * m) = 2 * (m * b ^ 12) := by
      rw [← Int.mul_assoc, Int.mul_comm (b ^ 12) 2, Int.mul_assoc, Int.mul_comm (b ^ 12) m]
    rw [e1, e2] at k2
    omega
  have k4 := Rat.intCast_le_intCast.mpr k3
  rw [Rat.intCast_mul, Rat.intCast_mul, intpow_cast] at k4
  have t := rim_times (e := 12) (m := m) b0
  rw [show (b : Rat) ^ (12 : Int) = (b : Rat) ^ 12 from zpow_of_nat _ 12] at t
  rw [← t] at k4
  refine Rat.not_lt.mp fun z => ?_
  exact absurd k4 (Rat.not_le.mpr (Rat.mul_lt_mul_of_pos_right z c))
theorem rim_hi2 {b e m : Int} (b0 : 2 ≤ b) (b1 : b ≤ 10) (he : e ≤ 2) (m0 : 0 ≤ m) (m1 : m ≤ b + 2) : rim b e m ≤ ((134 : Int) : Rat) := by
  have c := ratpos (show 0 < b - 1 by omega)
  refine Rat.le_trans (rim_monoT b0 m0 he) ?_
  have k : (b + 2) * b ^ 2 ≤ 134 * (b - 1) := by
    have : b = 2 ∨ b = 3 ∨ b = 4 ∨ b = 5 ∨ b = 6 ∨ b = 7 ∨ b = 8 ∨ b = 9 ∨ b = 10 := by omega
    rcases this with rfl | rfl | rfl | rfl | rfl | rfl | rfl | rfl | rfl <;> decide
  have k2 := Int.le_trans (Int.mul_le_mul_of_nonneg_right m1 (Int.le_of_lt (Int.pow_pos (n := b) (m := 2) (by omega)))) k
  have k4 := Rat.intCast_le_intCast.mpr k2
  rw [Rat.intCast_mul, Rat.intCast_mul, intpow_cast] at k4
  have t := rim_times (e := 2) (m := m) b0
  rw [show (b : Rat) ^ (2 : Int) = (b : Rat) ^ 2 from zpow_of_nat _ 2] at t
  rw [← t] at k4
  refine Rat.not_lt.mp fun z => ?_
  exact absurd k4 (Rat.not_le.mpr (Rat.mul_lt_mul_of_pos_right z c))
theorem rim_n12 {b m : Int} (b0 : 2 ≤ b) (b1 : b ≤ 10) (m0 : 0 ≤ m) (m1 : m ≤ b + 2) : rim b (-12) m ≤ 1 := by
  have h := rim_lo12 (m := 3 * b) b0 b1 (by omega)
  have nn := rim_nnT (b := b) (e := -12) b0 m0
  have t := rim_times (e := -12) (m := m) b0
  have c1' : ((1 : Int) : Rat) ≤ ((b - 1 : Int) : Rat) := Rat.intCast_le_intCast.mpr (by omega)
  have bp := ratpos (show 0 < b by omega)
  have n12 : (b : Rat) ^ (-12 : Int) * (b : Rat) ^ 12 = 1 := by
    rw [← zpow_of_nat, ← Rat.zpow_add (by grind)]
    exact Rat.zpow_zero _
  have zp : (0 : Rat) < (b : Rat) ^ (-12 : Int) := Rat.zpow_pos bp
  have p2 := pow2_le (b := b) b0 12
  have e12 : (2 : Rat) ^ 12 = ((4096 : Int) : Rat) := by decide +kernel
  rw [e12] at p2
  have mm : (m : Rat) ≤ ((4096 : Int) : Rat) := Rat.intCast_le_intCast.mpr (by omega)
  have a1 := Rat.mul_le_mul_of_nonneg_left (Rat.le_trans mm p2) (c := (b : Rat) ^ (-12 : Int)) (Rat.le_of_lt zp)
  rw [n12, Rat.mul_comm, ← t] at a1
  have a2 := Rat.mul_le_mul_of_nonneg_left c1' (c := rim b (-12) m) nn
  have o1 : ((1 : Int) : Rat) = 1 := rfl
  rw [o1, Rat.mul_one] at a2
  exact Rat.le_trans a2 a1
/-- a row of a chain -/
structure Wh (b t : Int) (r : Rw) : Prop where
  b0 : 2 ≤ b
  b1 : b ≤ 10
  t0 : b ≤ 2 * t
  t1 : t ≤ b + 2
  ok : r.Ok b
  m : r.m = t
  f : ∀ f, f ∈ r.fs → -t ≤ f ∧ f ≤ t
  e0 : -12 ≤ r.e
  e1 : r.e ≤ 12
def On (b c : Int) (r : Rw) (t : Int) (o : Rw) : Prop := ∃ s tr, Runs (stepT b c r (stF b c r.e r.m t) t 24) (tst0 r) [] s tr ∧ o = ownR (stF b c r.e r.m t) t s
theorem Wh.cut {b t : Int} {r : Rw} (W : Wh b t r) (k : Int) : Wh b t (r.cut k) := ⟨W.b0, W.b1, W.t0, W.t1, W.ok.cut k, W.m, fun f hf => W.f f (List.mem_of_mem_take hf), W.e0, W.e1⟩
theorem Wh.tel {b c u t : Int} {r : Rw} (W : Wh b u r) (c0 : 2 ≤ c) (c1 : c ≤ 10) (t0 : c ≤ 2 * t) (t1 : t ≤ c + 2) (h : rim b r.e u ≤ rim c 12 t) : Tel b c r (stF b c r.e r.m t) t 24 := by
  have hm := W.m
  obtain ⟨h1, h2, h3, h4⟩ := stF_is h
  rw [hm]
  exact ⟨W.b0, by have := W.b1; omega, c0, by omega, W.ok, by rw [hm]; exact W.f, by omega, by omega, by omega, by omega, by omega, by rw [hm]; exact h4⟩
theorem ten_le {c : Int} (c1 : c ≤ 10) {x y : Rat} (h : x < y) (y0 : 0 ≤ y) (c0 : 2 ≤ c) : (c : Rat) * x ≤ 10 * y := by
  have cc : (c : Rat) ≤ ((10 : Int) : Rat) := Rat.intCast_le_intCast.mpr c1
  have cp := ratpos (show 0 < c by omega)
  have a := Rat.mul_le_mul_of_nonneg_left (Rat.le_of_lt h) (c := (c : Rat)) (Rat.le_of_lt cp)
  have b := Rat.mul_le_mul_of_nonneg_right cc (c := y) y0
  exact Rat.le_trans a b
theorem Wh.on {b c u t : Int} {r o : Rw} (W : Wh b u r) (c0 : 2 ≤ c) (c1 : c ≤ 10) (t0 : c ≤ 2 * t) (t1 : t ≤ c + 2) (h : rim b r.e u ≤ rim c 12 t) (ho : On b c r t o) : Wh c t o ∧ o.lo c ≤ r.lo b ∧ r.hi b ≤ o.hi c ∧ (rim c o.e t ≤ 1 ∨ rim c o.e t ≤ 10 * rim b r.e u) := by
  have T := W.tel c0 c1 t0 t1 h
  obtain ⟨s, tr, run, rfl⟩ := ho
  have hm := W.m
  obtain ⟨h1, h2, h3, h4⟩ := stF_is h
  rw [hm] at T run ⊢
  have I := T.inv run.last.1
  have own := T.own I
  obtain ⟨k, hk, _, _⟩ := I.rd
  have ci := Rw.cut_in W.b0 (r := r) W.ok.m0 (by rw [hm]; exact W.f) k
  have lo := I.lo; have hi := I.hi
  unfold seenT at lo hi
  rw [hk] at lo hi
  refine ⟨⟨c0, c1, t0, t1, own, rfl, I.f, h1, h2⟩, Rat.le_trans lo ci.1, Rat.le_trans ci.2 hi, ?_⟩
  show rim c (stF b c r.e u t) t ≤ 1 ∨ rim c (stF b c r.e u t) t ≤ _
  rcases h3 with h3 | h3
  · rw [h3]; exact .inl (rim_n12 c0 c1 (by omega) t1)
  · have up := rim_up (b := c) (e := stF b c r.e u t - 1) (m := t) c0
    rw [show stF b c r.e u t - 1 + 1 = stF b c r.e u t by omega] at up
    rw [up]
    exact .inr (ten_le c1 h3 (rim_nnT W.b0 (by have := W.t0; have := W.b0; omega)) c0)
/-- bases and tops of a chain -/
structure Chs (b c d s t u : Int) : Prop where
  b0 : 2 ≤ b
  b1 : b ≤ 10
  c0 : 2 ≤ c
  c1 : c ≤ 10
  d0 : 2 ≤ d
  d1 : d ≤ 10
  s0 : b ≤ 2 * s
  s1 : s ≤ b + 2
  t0 : c ≤ 2 * t
  t1 : t ≤ c + 2
  u0 : d ≤ 2 * u
  u1 : u ≤ d + 2
section
variable {b c d s t u : Int} {r r1 r2 r3 : Rw}
theorem Chs.fit1 (C : Chs b c d s t u) (W : Wh b s r) (he : r.e ≤ 2) : rim b r.e s ≤ rim c 12 t := by
  have a := rim_hi2 W.b0 W.b1 he (m := s) (by have := W.t0; have := W.b0; omega) W.t1
  have e := rim_lo12 C.c0 C.c1 C.t0
  exact Rat.le_trans a (Rat.le_trans (Rat.intCast_le_intCast.mpr (by decide)) e)
theorem Chs.fit2 (C : Chs b c d s t u) (W : Wh b s r) (he : r.e ≤ 2) (o1 : On b c r t r1) : rim c r1.e t ≤ rim d 12 u := by
  obtain ⟨_, _, _, h⟩ := W.on C.c0 C.c1 C.t0 C.t1 (C.fit1 W he) o1
  have a := rim_hi2 W.b0 W.b1 he (m := s) (by have := W.t0; have := W.b0; omega) W.t1
  have e := rim_lo12 C.d0 C.d1 C.u0
  have o1 : ((134 : Int) : Rat) = 134 := rfl
  have o2 : ((2048 : Int) : Rat) = 2048 := rfl
  rw [o1] at a; rw [o2] at e
  generalize rim d 12 u = x at *
  generalize rim c r1.e t = y at *
  generalize rim b r.e s = z at *
  rcases h with h | h <;> grind
theorem Chs.fit3 (C : Chs b c d s t u) (W : Wh b s r) (he : r.e ≤ 2) (o1 : On b c r t r1) (o2 : On c d r1 u r2) : rim d r2.e u ≤ rim b 12 s := by
  obtain ⟨W1, _, _, h⟩ := W.on C.c0 C.c1 C.t0 C.t1 (C.fit1 W he) o1
  obtain ⟨_, _, _, h2⟩ := W1.on C.d0 C.d1 C.u0 C.u1 (C.fit2 W he o1) o2
  have e := rim_lo12 C.b0 C.b1 C.s0
  have s0 : 0 ≤ s := by have := W.t0; have := W.b0; omega
  have nn := rim_nnT (b := b) (e := 2) (m := s) C.b0 s0
  have up := rim_monoT (b := b) (m := s) C.b0 s0 he
  have q : rim b 12 s = (b : Rat) ^ 10 * rim b 2 s := by
    unfold rim
    rw [show (12 : Int) = 2 + 10 from rfl, Rat.zpow_add (by have := ratpos (show 0 < b by have := C.b0; omega); grind), show (b : Rat) ^ (10 : Int) = (b : Rat) ^ 10 from zpow_of_nat _ 10]
    grind
  have p2 := pow2_le (b := b) C.b0 10
  have e10 : (2 : Rat) ^ 10 = 1024 := by decide +kernel
  rw [e10] at p2
  have a := Rat.mul_le_mul_of_nonneg_right p2 (c := rim b 2 s) nn
  rw [← q] at a
  have o2 : ((2048 : Int) : Rat) = 2048 := rfl
  rw [o2] at e
  generalize rim b 12 s = x at *
  generalize rim b 2 s = v at *
  generalize rim c r1.e t = y at *
  generalize rim b r.e s = z at *
  generalize rim d r2.e u = w at *
  rcases h2 with h2 | h2 <;> rcases h with h | h <;> grind
/-- a chain -/
structure Chn (b c d s t u : Int) (r r1 r2 r3 : Rw) : Prop where
  h1 : On b c r t r1
  h2 : On c d r1 u r2
  h3 : On d b r2 s r3
structure ChnW (b c d s t u : Int) (r r1 r2 r3 : Rw) : Prop where
  w : Wh b s r
  w1 : Wh c t r1
  w2 : Wh d u r2
  w3 : Wh b s r3
  l1 : r1.lo c ≤ r.lo b ∧ r.hi b ≤ r1.hi c
  l2 : r2.lo d ≤ r1.lo c ∧ r1.hi c ≤ r2.hi d
  l3 : r3.lo b ≤ r2.lo d ∧ r2.hi d ≤ r3.hi b
theorem Chn.wh (C : Chs b c d s t u) (W : Wh b s r) (he : r.e ≤ 2) (h : Chn b c d s t u r r1 r2 r3) : ChnW b c d s t u r r1 r2 r3 := by
  obtain ⟨w1, a1, a2, _⟩ := W.on C.c0 C.c1 C.t0 C.t1 (C.fit1 W he) h.h1
  obtain ⟨w2, a3, a4, _⟩ := w1.on C.d0 C.d1 C.u0 C.u1 (C.fit2 W he h.h1) h.h2
  obtain ⟨w3, a5, a6, _⟩ := w2.on C.b0 C.b1 C.s0 C.s1 (C.fit3 W he h.h1 h.h2) h.h3
  exact ⟨W, w1, w2, w3, ⟨a1, a2⟩, ⟨a3, a4⟩, ⟨a5, a6⟩⟩
theorem On.pre {b c t K : Int} {r o o' : Rw} (h : On b c r t o) (h' : On b c (r.cut K) t o') : o' = o.cut (known o') := by
  obtain ⟨x, tr, run, rfl⟩ := h
  obtain ⟨y, tr', run', rfl⟩ := h'
  refine pre_cut rfl rfl ?_
  exact front_cut (K := K) (Int.le_refl _) run'.last.1 run
theorem cut_pre {r : Rw} {K : Int} : (r.cut K).fs <+: r.fs := List.take_prefix ..
theorem Chn.pre {K : Int} {q1 q2 q3 : Rw} (h : Chn b c d s t u r r1 r2 r3) (h' : Chn b c d s t u (r.cut K) q1 q2 q3) : q1.fs <+: r1.fs ∧ q2.fs <+: r2.fs ∧ q3.fs <+: r3.fs := by
  have e1 := h.h1.pre h'.h1
  obtain ⟨K1, hK1⟩ : ∃ K1, q1 = r1.cut K1 := ⟨_, e1⟩
  subst hK1
  have e2 := h.h2.pre h'.h2
  obtain ⟨K2, hK2⟩ : ∃ K2, q2 = r2.cut K2 := ⟨_, e2⟩
  subst hK2
  have e3 := h.h3.pre h'.h3
  exact ⟨cut_pre, cut_pre, by rw [e3]; exact cut_pre⟩
end
def sp_Lon : DSp := fun ds S P => ∃ (b c : Int) (r : Rw) (t : Int), ds = [.int b, .int c, r.d, .int t] ∧ Tel b c r (stF b c r.e r.m t) t 24 ∧ S (CT.at_ 40) = some (.tab lamq) ∧ ∀ o S', On b c r t o → Kp S S' → P o.d S'
def sp_Lis_far : DSp := fun ds S P => ∃ (b c : Int) (r o : Rw) (u t : Int), ds = [.int b, .int c, r.d, o.d] ∧ Wh b u r ∧ 2 ≤ c ∧ c ≤ 10 ∧ c ≤ 2 * t ∧ t ≤ c + 2 ∧ rim b r.e u ≤ rim c 12 t ∧ On b c r t o ∧ P (.bl true) S
def sp_Lchain : DSp := fun ds S P => ∃ (b c d s t u : Int) (r : Rw), ds = [.lst [.int b, .int c, .int d], .lst [.int s, .int t, .int u], r.d] ∧ Chs b c d s t u ∧ Wh b s r ∧ r.e ≤ 2 ∧ S (CT.at_ 40) = some (.tab lamq) ∧ ∀ r1 r2 r3 S', Chn b c d s t u r r1 r2 r3 → Kp S S' → P (.lst [r.d, r1.d, r2.d, r3.d]) S'
def rd_Lon : DS :=
  (dSeq (dSet 4 (dUn dNeg (dC (.int 12))))
  (dSeq (dFor (dRng1 (dCons (dC (.int 24)) dNil)) (.nm 5) (dIfS (dNot (dTest (dCB sp_based_fits (dCons (dVar 0) (dCons (dVar 1) (dCons (dSl (dVar 2) dNoPart (dPart (dC (.int 2)))) (dCons (dVar 4) (dCons (dVar 3) dNil)))))))) (dSet 4 (dOp dAdd (dVar 4) (dC (.int 1)))) dNext))
  (dRet (dOp dIx (dCallK sp_based_run 3 3 [0, 1, 2, 3, 4, 5] (dCons (dVar 0) (dCons (dVar 1) (dCons (dVar 2) dNil))) (dCons (dVar 4) (dCons (dVar 3) (dCons (dC (.int 24)) dNil)))) (dC (.int 0))))))
def goal_Lon : Prop := ∀ (x0 x1 x2 x3 : D) (S : Store) (P : D → Store → Prop), sp_Lon [x0, x1, x2, x3] S P → rd_Lon (dEnd P) [some x0, some x1, some x2, some x3, none, none] S
def rd_Lis_far : DS :=
  (dSeq (dSet 4 (dOp dAdd (dCB sp_known_to (dCons (dVar 3) dNil)) (dC (.int 1))))
  (dRet (dOrV (dOp dGt (dVar 4) (dC (.int 24))) (dOp dGt (dCB sp_told_read (dCons (dVar 0) (dCons (dVar 1) (dCons (dOp dIx (dVar 2) (dC (.int 1))) (dCons (dOp dIx (dVar 3) (dC (.int 1))) (dCons (dVar 4) dNil)))))) (dCB sp_known_to (dCons (dVar 2) dNil))))))
def goal_Lis_far : Prop := ∀ (x0 x1 x2 x3 : D) (S : Store) (P : D → Store → Prop), sp_Lis_far [x0, x1, x2, x3] S P → rd_Lis_far (dEnd P) [some x0, some x1, some x2, some x3, none] S
def rd_Lchain : DS :=
  (dSeq (dSet 3 (dLstM (dCons (dVar 2) dNil)))
  (dSeq (dFor (dRng2 (dCons (dC (.int 1)) (dCons (dC (.int 4)) dNil))) (.nm 4) (dDrop (dAppend (dVar 3) (dCB sp_Lon (dCons (dOp dIx (dVar 0) (dOp dSub (dVar 4) (dC (.int 1)))) (dCons (dOp dIx (dVar 0) (dOp dMod (dVar 4) (dC (.int 3)))) (dCons (dOp dIx (dVar 3) (dUn dNeg (dC (.int 1)))) (dCons (dOp dIx (dVar 1) (dOp dMod (dVar 4) (dC (.int 3)))) dNil))))))))
  (dRetZ (dVar 3))))
def goal_Lchain : Prop := ∀ (x0 x1 x2 : D) (S : Store) (P : D → Store → Prop), sp_Lchain [x0, x1, x2] S P → rd_Lchain (dEnd P) [some x0, some x1, some x2, none, none] S
theorem len_Lon : ∀ ds S P, sp_Lon ds S P → ds.length = 4 := by
  rintro ds S P ⟨a, b, c, d, rfl, _⟩; rfl
theorem len_Lis_far : ∀ ds S P, sp_Lis_far ds S P → ds.length = 4 := by
  rintro ds S P ⟨a, b, c, d, e, f, rfl, _⟩; rfl
theorem len_Lchain : ∀ ds S P, sp_Lchain ds S P → ds.length = 3 := by
  rintro ds S P ⟨a, b, c, d, e, f, g, rfl, _⟩; rfl
theorem vc_Lon : goal_Lon := by
  rintro x0 x1 x2 x3 S P ⟨b, c, r, t, er, T, ht, h⟩
  cases er
  unfold rd_Lon
  walk_at "dg4"
  refine ⟨by decide, by decide, fun i ρ S' => S' = S ∧ ∃ z5 : Option D, ρ = [some (.int b), some (.int c), some r.d, some (.int t), some (.int (stN b c r.e r.m t i)), z5], ⟨rfl, _, rfl⟩, ?_, ?_⟩
  · rintro i d ρ S' hd ⟨rfl, z5, rfl⟩
    obtain ⟨hi, rfl⟩ := rng_get hd
    refine ⟨_, rfl, ?_⟩
    obtain ⟨h1, h2, _, _⟩ := stN_is (b := b) (c := c) (e := r.e) (m := r.m) (t := t) i
    have e0 := T.ok.e0; have e1 := T.ok.e1; have m0 := T.ok.m0; have m1 := T.ok.m1; have t0 := T.m0; have t1 := T.m1
    obtain ⟨y, hy, h5⟩ : ∃ y, r.d = .tup [.int r.e, .int r.m, y] ∧ dcut [D.int r.e, .int r.m, y] none (some 2) = [.int r.e, .int r.m] := ⟨_, rfl, by rw [dcut_take (by decide)]; rfl⟩
    walk_at "dg4"
    rw [hy]
    dsimp only
    rw [h5]
    refine ⟨b, c, r.e, r.m, _, t, rfl, T.b0, T.b1, T.c0, T.c1, by omega, m0, by omega, by omega, t0, by omega, ?_⟩
    dsimp only
    by_cases z : rim b r.e r.m ≤ rim c (stN b c r.e r.m t i) t
    · have e6 : stN b c r.e r.m t (i + 1) = stN b c r.e r.m t i := by
        show (if _ then _ else _) = _
        rw [if_pos z]
      simp only [z, decide_true, Bool.not_true, Bool.false_eq_true, reduceIte]
      exact ⟨trivial, _, by rw [e6]⟩
    · have e6 : stN b c r.e r.m t (i + 1) = stN b c r.e r.m t i + 1 := by
        show (if _ then _ else _) = _
        rw [if_neg z]
      simp only [z, decide_false, Bool.not_false, reduceIte]
      exact ⟨trivial, _, by rw [e6]⟩
  · rintro ρ S' ⟨rfl, z5, rfl⟩
    walk_at "dg4"
    rw [rng_len]
    refine ⟨b, c, r, _, t, 24, rfl, T.all, ht, fun S2 s tr run kp => ?_⟩
    walk_at "dg4"
    exact h _ _ ⟨s, tr, run, rfl⟩ kp
theorem vc_Lis_far : goal_Lis_far := by
  rintro x0 x1 x2 x3 S P ⟨b, c, r, o, u, t, er, W, c0, c1, t0, t1, hr, ho, h⟩
  cases er
  unfold rd_Lis_far
  have T := W.tel c0 c1 t0 t1 hr
  obtain ⟨w1, _, _, _⟩ := W.on c0 c1 t0 t1 hr ho
  obtain ⟨s, tr, run, rfl⟩ := ho
  have hm := W.m
  obtain ⟨h1, h2, h3, h4⟩ := stF_is hr
  have I := T.inv run.last.1
  have nn := I.n
  rw [hm] at T run I nn w1 ⊢
  have np : nextP (stF b c r.e u t) s = ((ownR (stF b c r.e u t) t s).fs.length : Int) - (ownR (stF b c r.e u t) t s).e + 1 := by unfold nextP ownR; dsimp only; omega
  walk_at "dg4"
  refine ⟨_, rfl, ?_⟩
  walk_at "dg4"
  rw [← np]
  by_cases hp : 24 < nextP (stF b c r.e u t) s
  · simp only [hp, reduceIte]
    exact h
  · simp only [hp, reduceIte]
    have b0 := W.b0; have b1 := W.b1; have u0 := W.t0; have u1 := W.t1
    have pb : (nextP (stF b c r.e u t) s).natAbs ≤ 60 := by unfold nextP; omega
    refine ⟨b, c, r.m, t, _, rfl, by omega, by omega, by omega, by omega, by omega, by omega, by omega, by omega, pb, fun d hd d0 d1 => ?_⟩
    walk_at "dg4"
    refine ⟨r, rfl, ?_⟩
    walk_at "dg4"
    have far := T.far t0 run (by omega) hd
    unfold known at far
    have : decide ((r.fs.length : Int) - r.e < d) = true := decide_eq_true (by omega)
    rw [this]
    exact h
theorem vc_Lchain : goal_Lchain := by
  rintro x0 x1 x2 S P ⟨b, c, d, s, t, u, r, er, C, W, he, ht, h⟩
  cases er
  unfold rd_Lchain
  walk_at "dg4"
  intro p hp
  refine ⟨⟨by decide, by decide, by decide, by decide⟩, fun i ρ S' => Kp S S' ∧ ∃ rows z4, S' p = some (.lst rows) ∧ ρ = [some (D.lst [D.int b, D.int c, D.int d]), some (D.lst [D.int s, D.int t, D.int u]), some r.d, some (D.obj p), z4] ∧
    ((i = 0 ∧ rows = [r.d]) ∨ (i = 1 ∧ ∃ r1, On b c r t r1 ∧ rows = [r.d, r1.d]) ∨ (i = 2 ∧ ∃ r1 r2, On b c r t r1 ∧ On c d r1 u r2 ∧ rows = [r.d, r1.d, r2.d]) ∨ (i = 3 ∧ ∃ r1 r2 r3, Chn b c d s t u r r1 r2 r3 ∧ rows = [r.d, r1.d, r2.d, r3.d])),
    ⟨Kp.refl.new hp, _, _, supd_same, rfl, .inl ⟨rfl, rfl⟩⟩, ?_, ?_⟩
  · rintro i dd ρ S' hd ⟨kp, rows, z4, hS, rfl, hh⟩
    obtain ⟨hi, rfl⟩ := rng_get hd
    refine ⟨_, rfl, ?_⟩
    rcases hh with ⟨rfl, rfl⟩ | ⟨rfl, r1, o1, rfl⟩ | ⟨rfl, r1, r2, o1, o2, rfl⟩ | ⟨rfl, _⟩
    · walk_at "dg4"
      refine ⟨_, hS, ?_⟩
      rw [show atI [D.int b, D.int c, D.int d] (1 + ((0 : Nat) : Int) - 1) = some (D.int b) from rfl, show atI [D.int b, D.int c, D.int d] ((1 + ((0 : Nat) : Int)) % 3) = some (D.int c) from rfl, show atI [D.int s, D.int t, D.int u] ((1 + ((0 : Nat) : Int)) % 3) = some (D.int t) from rfl]
      dsimp only
      rw [ix_obj hS, show atI [r.d] (-1) = some r.d from rfl]
      dsimp only
      refine ⟨b, c, r, t, rfl, W.tel C.c0 C.c1 C.t0 C.t1 (C.fit1 W he), kp _ _ ht, fun o S2 ho kp2 => ?_⟩
      refine ⟨_, kp2 _ _ hS, by simp, (kp.trans kp2).new hp, _, _, rfl, rfl, .inr (.inl ⟨o, ho, rfl⟩)⟩
    · walk_at "dg4"
      refine ⟨_, hS, ?_⟩
      rw [show atI [D.int b, D.int c, D.int d] (1 + ((1 : Nat) : Int) - 1) = some (D.int c) from rfl, show atI [D.int b, D.int c, D.int d] ((1 + ((1 : Nat) : Int)) % 3) = some (D.int d) from rfl, show atI [D.int s, D.int t, D.int u] ((1 + ((1 : Nat) : Int)) % 3) = some (D.int u) from rfl]
      dsimp only
      rw [ix_obj hS, show atI [r.d, r1.d] (-1) = some r1.d from rfl]
      dsimp only
      refine ⟨c, d, r1, u, rfl, (W.on C.c0 C.c1 C.t0 C.t1 (C.fit1 W he) o1).1.tel C.d0 C.d1 C.u0 C.u1 (C.fit2 W he o1), kp _ _ ht, fun o S2 ho kp2 => ?_⟩
      refine ⟨_, kp2 _ _ hS, by simp, (kp.trans kp2).new hp, _, _, rfl, rfl, .inr (.inr (.inl ⟨r1, o, o1, ho, rfl⟩))⟩
    · walk_at "dg4"
      refine ⟨_, hS, ?_⟩
      rw [show atI [D.int b, D.int c, D.int d] (1 + ((2 : Nat) : Int) - 1) = some (D.int d) from rfl, show atI [D.int b, D.int c, D.int d] ((1 + ((2 : Nat) : Int)) % 3) = some (D.int b) from rfl, show atI [D.int s, D.int t, D.int u] ((1 + ((2 : Nat) : Int)) % 3) = some (D.int s) from rfl]
      dsimp only
      rw [ix_obj hS, show atI [r.d, r1.d, r2.d] (-1) = some r2.d from rfl]
      dsimp only
      refine ⟨d, b, r2, s, rfl, ((W.on C.c0 C.c1 C.t0 C.t1 (C.fit1 W he) o1).1.on C.d0 C.d1 C.u0 C.u1 (C.fit2 W he o1) o2).1.tel C.b0 C.b1 C.s0 C.s1 (C.fit3 W he o1 o2), kp _ _ ht, fun o S2 ho kp2 => ?_⟩
      refine ⟨_, kp2 _ _ hS, by simp, (kp.trans kp2).new hp, _, _, rfl, rfl, .inr (.inr (.inr ⟨r1, r2, o, ⟨o1, o2, ho⟩, rfl⟩))⟩
    · exact absurd hi (by decide)
  · rintro ρ S' ⟨kp, rows, z4, hS, rfl, hh⟩
    rw [rng_len] at hh
    rcases hh with ⟨hh, _⟩ | ⟨hh, _⟩ | ⟨hh, _⟩ | ⟨_, r1, r2, r3, ch, rfl⟩
    · exact absurd hh (by decide)
    · exact absurd hh (by decide)
    · exact absurd hh (by decide)
    · walk_at "dg4"
      refine ⟨_, hS, ?_⟩
      refine h r1 r2 r3 _ ch fun a m e => ?_
      have : a ≠ p := fun z => by rw [z, hp] at e; cases e
      unfold sdel
      rw [if_neg this]
      exact kp a m e
end Lb

namespace K95
open PySem PySem.Spec PyProof.Rows L2 DL Lb
local macro_rules | `(tactic| omega) => `(tactic| first | assumption | lia)
variable [CT]
local macro_rules | `(tactic| walk_at "dg4") => `(tactic| try simp only [dFld, dSetFld, dFldAdd, dMeth, dMake, dMakeK, dFld2, dMinKey, dDispGet, dictAt, isi_non_dict, isi_bl_dict, isi_int_dict, isi_str_dict, isi_lst_dict, isi_tup_dict, isi_non_bs, isi_bl_bs, isi_int_bs, isi_str_bs, isi_lst_bs, isi_tup_bs, g_ix_enc0, g_ix_enc1, g_ix_sp0, g_ix_sp1, g_put_sp, Int.reduceEq, dSeq, dSet, dPar, dOp, dUn, dVar, dC, dCB, dCons, dNil, dTup, dLst, dLstM, dIfS, dIf, dTest, dNot, dAnd, dOr, dAndV, dOrV, dNotV, dRet, dRetN, dEnd, dNext, dAdd, dSub, dMul, dFdiv, dMod, dPow, dNeg, dLt, dLe, dGt, dGe, dEq, dNe, eqB_ii, eqB_bb, eqB_ss, eqB_nn, eqB_ni, eqB_in, eqB_ns, eqB_sn, eqB_is, eqB_si, eqB_nb, eqB_bn, dIn, g_ix_tup, g_ix_lst, g_ix_ext, g_ln_tup, g_ln_lst, g_ln_ext, g_nn_non, g_nn_int, g_nn_tup, g_in_non, g_in_int, g_in_tup, g_ix_row0, g_ix_row1, g_ix_row2, g_ix_span0, g_ix_span1, g_nn_span, g_nn_encR, g_in_span, cAbs, cMax2, cMin2, cInt, cList, cTuple, dIsB, dNotB, dPar3, ForN, LcN, pinOf, pin2, dEnum2, dAppend, supd_same0, isi_non_int, isi_non_bool, isi_non_str, isi_non_list, isi_non_tuple, isi_non_lt, isi_bl_int, isi_bl_bool, isi_bl_str, isi_bl_list, isi_bl_tuple, isi_bl_lt, isi_int_int, isi_int_bool, isi_int_str, isi_int_list, isi_int_tuple, isi_int_lt, isi_str_int, isi_str_bool, isi_str_str, isi_str_list, isi_str_tuple, isi_str_lt, isi_lst_int, isi_lst_bool, isi_lst_str, isi_lst_list, isi_lst_tuple, isi_lst_lt, isi_tup_int, isi_tup_bool, isi_tup_str, isi_tup_list, isi_tup_tuple, isi_tup_lt, dAug, dIAdd, dIMul, dDrop, dSl, dPart, dNoPart, dRevL, dCallK, dChainR, dAsg, put_nm, put_tp, put_tl, g_put_row, g_put_span, putL_nil, putL_cons, Option.bind, seqOf, lstOf, dFor, dLc, dLcM, dItSeq, dZip, dZipS, dEnum, dRng1, dRng2, dYes, dwipe, Tgt.slots, Tgt.slotsL,
  atI_0, atI_1, atI_2, atI_3, List.getElem?_cons_zero, List.getElem?_cons_succ, List.set_cons_zero, List.set_cons_succ, decide_eq_true_eq, List.length_cons, List.length_nil, List.cons_append, List.nil_append, List.append_nil, ofString_inj, String.reduceEq, decide_true, decide_false, reduceIte, Bool.false_eq_true, Bool.not_true, Bool.not_false, eqFlat, isFlat, List.any_cons, List.any_nil, List.all_cons, List.all_nil, Bool.or_false, Bool.or_true, Bool.false_or, Bool.true_or, Bool.and_true, Bool.true_and, true_and, and_true, Nat.reduceAdd, Nat.reduceLeDiff, Int.reduceLT, Int.reduceLE, Int.reduceNeg])
def sp_figures_between : DSp := sp_figures_betweenG
def sp_Lpower : DSp := sp_Lpower2
def sp_Lmost : DSp := sp_LmostT
def sp_Lsigns : DSp := Lb.sp_Lsigns
def sp_Lright : DSp := fun ds S P => ∃ (p : Addr) (n : Nat), ds = [.obj p] ∧ BoxAt S p n ∧ n ≤ 1000 ∧ S (CT.at_ 40) = some (.tab lamq) ∧ ∀ S', S' (CT.at_ 40) = some (.tab lamq) → P (.bl true) S'
def sp_law : DSp := sp_lawT lamq
def Gd (b c d s t u : Int) (v : Rat) (y : D) : Prop := ∃ r r1 r2 r3 : Rw, y = .lst [r.d, r1.d, r2.d, r3.d] ∧ Chn b c d s t u r r1 r2 r3 ∧ Wh b s r ∧ r.e ≤ 2 ∧ r.lo b ≤ v ∧ v ≤ r.hi b
/-- common(one, other): slots 0 one, 1 other -/
def rd_common : DS :=
  (dSeq (dWhile (dTest (dOp dGt (dVar 1) (dC (.int 0)))) (dPar 0 1 (dCons (dVar 1) (dCons (dOp dMod (dVar 0) (dVar 1)) dNil))))
  (dRet (dVar 0)))
def goal_common : Prop := ∀ (x0 x1 : D) (S : Store) (P : D → Store → Prop), sp_common [x0, x1] S P → rd_common (dEnd P) [some x0, some x1] S

/-- frac(top, bottom): slots 0 top, 1 bottom, 2 by -/
def rd_frac : DS :=
  (dSeq (dSet 2 (dCB sp_common (dCons (dCB cAbs (dCons (dVar 0) dNil)) (dCons (dCB cAbs (dCons (dVar 1) dNil)) dNil))))
  (dSeq (dSet 2 (dIf (dTest (dOp dGt (dVar 1) (dC (.int 0)))) (dVar 2) (dUn dNeg (dVar 2))))
  (dRet (dTup (dCons (dOp dFdiv (dVar 0) (dVar 2)) (dCons (dOp dFdiv (dVar 1) (dVar 2)) dNil))))))
def goal_frac : Prop := ∀ (x0 x1 : D) (S : Store) (P : D → Store → Prop), sp_frac [x0, x1] S P → rd_frac (dEnd P) [some x0, some x1, none] S

/-- plus(one, other): slots 0 one, 1 other -/
def rd_plus : DS :=
  (dRet (dCB sp_frac (dCons (dOp dAdd (dOp dMul (dOp dIx (dVar 0) (dC (.int 0))) (dOp dIx (dVar 1) (dC (.int 1)))) (dOp dMul (dOp dIx (dVar 1) (dC (.int 0))) (dOp dIx (dVar 0) (dC (.int 1))))) (dCons (dOp dMul (dOp dIx (dVar 0) (dC (.int 1))) (dOp dIx (dVar 1) (dC (.int 1)))) dNil))))
def goal_plus : Prop := ∀ (x0 x1 : D) (S : Store) (P : D → Store → Prop), sp_plus [x0, x1] S P → rd_plus (dEnd P) [some x0, some x1] S

/-- minus(one, other): slots 0 one, 1 other -/
def rd_minus : DS :=
  (dRet (dCB sp_frac (dCons (dOp dSub (dOp dMul (dOp dIx (dVar 0) (dC (.int 0))) (dOp dIx (dVar 1) (dC (.int 1)))) (dOp dMul (dOp dIx (dVar 1) (dC (.int 0))) (dOp dIx (dVar 0) (dC (.int 1))))) (dCons (dOp dMul (dOp dIx (dVar 0) (dC (.int 1))) (dOp dIx (dVar 1) (dC (.int 1)))) dNil))))
def goal_minus : Prop := ∀ (x0 x1 : D) (S : Store) (P : D → Store → Prop), sp_minus [x0, x1] S P → rd_minus (dEnd P) [some x0, some x1] S

/-- times(one, other): slots 0 one, 1 other -/
def rd_times : DS :=
  (dRet (dCB sp_frac (dCons (dOp dMul (dOp dIx (dVar 0) (dC (.int 0))) (dOp dIx (dVar 1) (dC (.int 0)))) (dCons (dOp dMul (dOp dIx (dVar 0) (dC (.int 1))) (dOp dIx (dVar 1) (dC (.int 1)))) dNil))))
def goal_times : Prop := ∀ (x0 x1 : D) (S : Store) (P : D → Store → Prop), sp_times [x0, x1] S P → rd_times (dEnd P) [some x0, some x1] S

/-- is_below(one, other): slots 0 one, 1 other -/
def rd_is_below : DS :=
  (dRet (dOp dLt (dOp dMul (dOp dIx (dVar 0) (dC (.int 0))) (dOp dIx (dVar 1) (dC (.int 1)))) (dOp dMul (dOp dIx (dVar 1) (dC (.int 0))) (dOp dIx (dVar 0) (dC (.int 1))))))
def goal_is_below : Prop := ∀ (x0 x1 : D) (S : Store) (P : D → Store → Prop), sp_is_below [x0, x1] S P → rd_is_below (dEnd P) [some x0, some x1] S

/-- power(base, many): slots 0 base, 1 many, 2 found, 3 turn -/
def rd_power : DS :=
  (dSeq (dSet 2 (dC (.int 1)))
  (dSeq (dFor (dRng1 (dCons (dCB cAbs (dCons (dVar 1) dNil)) dNil)) (.nm 3) (dAug 2 dIMul (dVar 0)))
  (dRet (dIf (dTest (dOp dGe (dVar 1) (dC (.int 0)))) (dTup (dCons (dVar 2) (dCons (dC (.int 1)) dNil))) (dTup (dCons (dC (.int 1)) (dCons (dVar 2) dNil)))))))
def goal_power : Prop := ∀ (x0 x1 : D) (S : Store) (P : D → Store → Prop), sp_power [x0, x1] S P → rd_power (dEnd P) [some x0, some x1, none, none] S

/-- least_power(base, room, need): slots 0 base, 1 room, 2 need, 3 lag -/
def rd_least_power : DS :=
  (dSeq (dSet 3 (dC (.int 0)))
  (dSeq (dWhile (dTest (dCB sp_is_below (dCons (dCB sp_times (dCons (dCB sp_power (dCons (dVar 0) (dCons (dVar 3) dNil))) (dCons (dTup (dCons (dVar 1) (dCons (dC (.int 1)) dNil))) dNil))) (dCons (dVar 2) dNil)))) (dAug 3 dIAdd (dC (.int 1))))
  (dSeq (dWhile (dNot (dTest (dCB sp_is_below (dCons (dCB sp_times (dCons (dCB sp_power (dCons (dVar 0) (dCons (dOp dSub (dVar 3) (dC (.int 1))) dNil))) (dCons (dTup (dCons (dVar 1) (dCons (dC (.int 1)) dNil))) dNil))) (dCons (dVar 2) dNil))))) (dAug 3 dSub (dC (.int 1))))
  (dRet (dVar 3)))))
def goal_least_power : Prop := ∀ (x0 x1 x2 : D) (S : Store) (P : D → Store → Prop), sp_least_power [x0, x1, x2] S P → rd_least_power (dEnd P) [some x0, some x1, some x2, none] S

/-- known_to(row): slots 0 row, 1 begin, 2 most, 3 figures -/
def rd_known_to : DS :=
  (dSeq (dAsg (.tp [(.nm 1), (.nm 2), (.nm 3)]) (dVar 0))
  (dRet (dOp dSub (dCB cLen (dCons (dVar 3) dNil)) (dVar 1))))
def goal_known_to : Prop := ∀ (x0 : D) (S : Store) (P : D → Store → Prop), sp_known_to [x0] S P → rd_known_to (dEnd P) [some x0, none, none, none] S

/-- whole_of(base, figures): slots 0 base, 1 figures, 2 found, 3 figure -/
def rd_whole_of : DS :=
  (dSeq (dSet 2 (dC (.int 0)))
  (dSeq (dFor (dItSeq (dVar 1)) (.nm 3) (dSet 2 (dOp dAdd (dOp dMul (dVar 2) (dVar 0)) (dVar 3))))
  (dRet (dVar 2))))
def goal_whole_of : Prop := ∀ (x0 x1 : D) (S : Store) (P : D → Store → Prop), sp_whole_of [x0, x1] S P → rd_whole_of (dEnd P) [some x0, some x1, none, none] S

/-- worth_of(base, row): slots 0 base, 1 row -/
def rd_worth_of : DS :=
  (dRet (dCB sp_times (dCons (dTup (dCons (dCB sp_whole_of (dCons (dVar 0) (dCons (dOp dIx (dVar 1) (dC (.int 2))) dNil))) (dCons (dC (.int 1)) dNil))) (dCons (dCB sp_power (dCons (dVar 0) (dCons (dUn dNeg (dCB sp_known_to (dCons (dVar 1) dNil))) dNil))) dNil))))
def goal_worth_of : Prop := ∀ (x0 x1 : D) (S : Store) (P : D → Store → Prop), sp_worth_of [x0, x1] S P → rd_worth_of (dEnd P) [some x0, some x1] S

/-- tail_of(base, row): slots 0 base, 1 row -/
def rd_tail_of : DS :=
  (dRet (dCB sp_times (dCons (dCB sp_frac (dCons (dOp dIx (dVar 1) (dC (.int 1))) (dCons (dOp dSub (dVar 0) (dC (.int 1))) dNil))) (dCons (dCB sp_power (dCons (dVar 0) (dCons (dUn dNeg (dCB sp_known_to (dCons (dVar 1) dNil))) dNil))) dNil))))
def goal_tail_of : Prop := ∀ (x0 x1 : D) (S : Store) (P : D → Store → Prop), sp_tail_of [x0, x1] S P → rd_tail_of (dEnd P) [some x0, some x1] S

/-- span_of(base, row): slots 0 base, 1 row, 2 worth, 3 tail -/
def rd_span_of : DS :=
  (dSeq (dPar 2 3 (dCons (dCB sp_worth_of (dCons (dVar 0) (dCons (dVar 1) dNil))) (dCons (dCB sp_tail_of (dCons (dVar 0) (dCons (dVar 1) dNil))) dNil)))
  (dRet (dTup (dCons (dCB sp_minus (dCons (dVar 2) (dCons (dVar 3) dNil))) (dCons (dCB sp_plus (dCons (dVar 2) (dCons (dVar 3) dNil))) dNil)))))
def goal_span_of : Prop := ∀ (x0 x1 : D) (S : Store) (P : D → Store → Prop), sp_span_of [x0, x1] S P → rd_span_of (dEnd P) [some x0, some x1, none, none] S

/-- stands_for(base, row, number): slots 0 base, 1 row, 2 number, 3 least, 4 greatest -/
def rd_stands_for : DS :=
  (dSeq (dAsg (.tp [(.nm 3), (.nm 4)]) (dCB sp_span_of (dCons (dVar 0) (dCons (dVar 1) dNil))))
  (dRet (dAndV (dNotV (dCB sp_is_below (dCons (dVar 2) (dCons (dVar 3) dNil)))) (dNotV (dCB sp_is_below (dCons (dVar 4) (dCons (dVar 2) dNil)))))))
def goal_stands_for : Prop := ∀ (x0 x1 x2 : D) (S : Store) (P : D → Store → Prop), sp_stands_for [x0, x1, x2] S P → rd_stands_for (dEnd P) [some x0, some x1, some x2, none, none] S

/-- cut_of(row, place): slots 0 row, 1 place, 2 begin, 3 most, 4 figures -/
def rd_cut_of : DS :=
  (dSeq (dAsg (.tp [(.nm 2), (.nm 3), (.nm 4)]) (dVar 0))
  (dRet (dTup (dCons (dVar 2) (dCons (dVar 3) (dCons (dSl (dVar 4) dNoPart (dPart (dCB cMax2 (dCons (dC (.int 0)) (dCons (dOp dAdd (dVar 1) (dVar 2)) dNil))))) dNil))))))
def goal_cut_of : Prop := ∀ (x0 x1 : D) (S : Store) (P : D → Store → Prop), sp_cut_of [x0, x1] S P → rd_cut_of (dEnd P) [some x0, some x1, none, none, none] S

/-- order_of(base, one, other): slots 0 base, 1 one, 2 other, 3 mine, 4 its -/
def rd_order_of : DS :=
  (dSeq (dPar 3 4 (dCons (dCB sp_span_of (dCons (dVar 0) (dCons (dVar 1) dNil))) (dCons (dCB sp_span_of (dCons (dVar 0) (dCons (dVar 2) dNil))) dNil)))
  (dSeq (dIfS (dTest (dCB sp_is_below (dCons (dOp dIx (dVar 4) (dC (.int 1))) (dCons (dOp dIx (dVar 3) (dC (.int 0))) dNil)))) (dRet (dC (.int 1))) dNext)
  (dRet (dIf (dTest (dCB sp_is_below (dCons (dOp dIx (dVar 3) (dC (.int 1))) (dCons (dOp dIx (dVar 4) (dC (.int 0))) dNil)))) (dC (.int (-1))) (dC .non)))))
def goal_order_of : Prop := ∀ (x0 x1 x2 : D) (S : Store) (P : D → Store → Prop), sp_order_of [x0, x1, x2] S P → rd_order_of (dEnd P) [some x0, some x1, some x2, none, none] S

/-- raised(number): slots 0 number -/
def rd_raised : DS :=
  (dRet (dUn dNeg (dOp dFdiv (dUn dNeg (dOp dIx (dVar 0) (dC (.int 0)))) (dOp dIx (dVar 0) (dC (.int 1))))))
def goal_raised : Prop := ∀ (x0 : D) (S : Store) (P : D → Store → Prop), sp_raised [x0] S P → rd_raised (dEnd P) [some x0] S

/-- figures_between(base, own, least, most): slots 0 base, 1 own, 2 least, 3 most, 4 begin, 5 top, 6 figures, 7 scale, 8 spread, 9 ahead, 10 low, 11 high -/
def rd_figures_between : DS :=
  (dSeq (dAsg (.tp [(.nm 4), (.nm 5), (.nm 6)]) (dVar 1))
  (dSeq (dSet 7 (dCB sp_power (dCons (dVar 0) (dCons (dOp dAdd (dCB sp_known_to (dCons (dVar 1) dNil)) (dC (.int 1))) dNil))))
  (dSeq (dPar 8 9 (dCons (dCB sp_frac (dCons (dVar 5) (dCons (dOp dSub (dVar 0) (dC (.int 1))) dNil))) (dCons (dCB sp_worth_of (dCons (dVar 0) (dCons (dVar 1) dNil))) dNil)))
  (dSeq (dSet 10 (dCB sp_raised (dCons (dCB sp_minus (dCons (dCB sp_times (dCons (dCB sp_minus (dCons (dVar 3) (dCons (dVar 9) dNil))) (dCons (dVar 7) dNil))) (dCons (dVar 8) dNil))) dNil)))
  (dSeq (dSet 11 (dCB sp_plus (dCons (dCB sp_times (dCons (dCB sp_minus (dCons (dVar 2) (dCons (dVar 9) dNil))) (dCons (dVar 7) dNil))) (dCons (dVar 8) dNil))))
  (dRet (dLstR2 (dCB cMax2 (dCons (dVar 10) (dCons (dUn dNeg (dVar 5)) dNil))) (dOp dAdd (dCB cMin2 (dCons (dOp dFdiv (dOp dIx (dVar 11) (dC (.int 0))) (dOp dIx (dVar 11) (dC (.int 1)))) (dCons (dVar 5) dNil))) (dC (.int 1))))))))))
def goal_figures_between : Prop := ∀ (x0 x1 x2 x3 : D) (S : Store) (P : D → Store → Prop), sp_figures_between [x0, x1, x2, x3] S P → rd_figures_between (dEnd P) [some x0, some x1, some x2, some x3, none, none, none, none, none, none, none, none] S

/-- based_right(base, other, row, own): slots 0 base, 1 other, 2 row, 3 own, 4 least, 5 greatest -/
def rd_based_right : DS :=
  (dSeq (dAsg (.tp [(.nm 4), (.nm 5)]) (dCB sp_span_of (dCons (dVar 0) (dCons (dVar 2) dNil))))
  (dRet (dCB sp_figures_between (dCons (dVar 1) (dCons (dVar 3) (dCons (dVar 4) (dCons (dVar 5) dNil)))))))
def goal_based_right : Prop := ∀ (x0 x1 x2 x3 : D) (S : Store) (P : D → Store → Prop), sp_based_right [x0, x1, x2, x3] S P → rd_based_right (dEnd P) [some x0, some x1, some x2, some x3, none, none] S

/-- Teller.__init__(self, base, other, row, begin, most): slots 0 self, 1 base, 2 other, 3 row, 4 begin, 5 most -/
def rd_Teller_init : DS :=
  (dSeq (dFld3 1 "own_base" "own_other" "own_row" 0 (dVar 1) (dVar 2) (dVar 3))
  (dSeq (dFld2 1 "own_begin" "own_most" 0 (dVar 4) (dVar 5))
  (dSeq (dSetFld 1 "own_figures" (dVar 0) (dLstM dNil))
  (dSetFld 1 "own_read" (dVar 0) (dUn dNeg (dOp dIx (dVar 3) (dC (.int 0))))))))
def goal_Teller_init : Prop := ∀ (x0 x1 x2 x3 x4 x5 : D) (S : Store) (P : D → Store → Prop), sp_Teller_init [x0, x1, x2, x3, x4, x5] S P → rd_Teller_init (dEnd P) [some x0, some x1, some x2, some x3, some x4, some x5] S

/-- Teller.row(self): slots 0 self -/
def rd_Teller_row : DS :=
  (dRet (dTup (dCons (dFld 1 "own_begin" (dVar 0)) (dCons (dFld 1 "own_most" (dVar 0)) (dCons (dCB cTuple (dCons (dFld 1 "own_figures" (dVar 0)) dNil)) dNil)))))
def goal_Teller_row : Prop := ∀ (x0 : D) (S : Store) (P : D → Store → Prop), sp_Teller_row [x0] S P → rd_Teller_row (dEnd P) [some x0] S

/-- Teller.next_figure(self): slots 0 self, 1 seen, 2 some -/
def rd_Teller_next_figure : DS :=
  (dSeq (dSet 1 (dCB sp_cut_of (dCons (dFld 1 "own_row" (dVar 0)) (dCons (dFld 1 "own_read" (dVar 0)) dNil))))
  (dSeq (dSet 2 (dCB sp_based_right (dCons (dFld 1 "own_base" (dVar 0)) (dCons (dFld 1 "own_other" (dVar 0)) (dCons (dVar 1) (dCons (dMeth 1 "row" sp_Teller_row (dVar 0) dNil) dNil))))))
  (dRet (dIf (dTest (dOp dGt (dCB cLen (dCons (dVar 2) dNil)) (dC (.int 0)))) (dMinLam (CT.at_ 40) ("Teller.next_figure" ++ ".<locals>." ++ "<lambda>") (dCB cAbs (dCons (dVar 0) dNil)) (dVar 2)) (dC .non)))))
def goal_Teller_next_figure : Prop := ∀ (x0 : D) (S : Store) (P : D → Store → Prop), sp_Teller_next_figure [x0] S P → rd_Teller_next_figure (dEnd P) [some x0, none, none] S

/-- Teller.step(self, to): slots 0 self, 1 to, 2 figure -/
def rd_Teller_step : DS :=
  (dSeq (dSet 2 (dMeth 1 "next_figure" sp_Teller_next_figure (dVar 0) dNil))
  (dSeq (dIfS (dTest (dOp dNotN (dVar 2) (dC .non))) (dSeq (dIfS (dTest (dOp dGt (dOp dSub (dOp dAdd (dCB cLen (dCons (dFld 1 "own_figures" (dVar 0)) dNil)) (dC (.int 1))) (dFld 1 "own_begin" (dVar 0))) (dVar 1))) (dRet (dC (.bl false))) dNext)
  (dSeq (dDrop (dAppend (dFld 1 "own_figures" (dVar 0)) (dVar 2)))
  (dRet (dC (.bl true))))) dNext)
  (dSeq (dIfS (dTest (dOp dLe (dCB sp_known_to (dCons (dFld 1 "own_row" (dVar 0)) dNil)) (dFld 1 "own_read" (dVar 0)))) (dRet (dC (.bl false))) dNext)
  (dSeq (dFldAdd 1 "own_read" (dVar 0) (dC (.int 1)))
  (dRet (dC (.bl true)))))))
def goal_Teller_step : Prop := ∀ (x0 x1 : D) (S : Store) (P : D → Store → Prop), sp_Teller_step [x0, x1] S P → rd_Teller_step (dEnd P) [some x0, some x1, none] S

/-- based_run(base, other, row, begin, most, to): slots 0 base, 1 other, 2 row, 3 begin, 4 most, 5 to, 6 teller -/
def rd_based_run : DS :=
  (dSeq (dSet 6 (dMakeK 1 sp_Teller_init 3 2 [0, 1, 2, 3, 4, 5] (dCons (dVar 0) (dCons (dVar 1) (dCons (dVar 2) dNil))) (dCons (dVar 3) (dCons (dVar 4) dNil))))
  (dSeq (dWhile (dTest (dMeth 1 "step" sp_Teller_step (dVar 6) (dCons (dVar 5) dNil))) dNext)
  (dRet (dTup (dCons (dMeth 1 "row" sp_Teller_row (dVar 6) dNil) (dCons (dFld 1 "own_read" (dVar 6)) dNil))))))
def goal_based_run : Prop := ∀ (x0 x1 x2 x3 x4 x5 : D) (S : Store) (P : D → Store → Prop), sp_based_run [x0, x1, x2, x3, x4, x5] S P → rd_based_run (dEnd P) [some x0, some x1, some x2, some x3, some x4, some x5, none] S

/-- reach_by(base, begin, most): slots 0 base, 1 begin, 2 most -/
def rd_reach_by : DS :=
  (dRet (dCB sp_times (dCons (dCB sp_frac (dCons (dVar 2) (dCons (dOp dSub (dVar 0) (dC (.int 1))) dNil))) (dCons (dCB sp_power (dCons (dVar 0) (dCons (dVar 1) dNil))) dNil))))
def goal_reach_by : Prop := ∀ (x0 x1 x2 : D) (S : Store) (P : D → Store → Prop), sp_reach_by [x0, x1, x2] S P → rd_reach_by (dEnd P) [some x0, some x1, some x2] S

/-- based_fits(base, other, source, begin, most): slots 0 base, 1 other, 2 source, 3 begin, 4 most -/
def rd_based_fits : DS :=
  (dRet (dNotV (dCB sp_is_below (dCons (dCB sp_reach_by (dCons (dVar 1) (dCons (dVar 3) (dCons (dVar 4) dNil)))) (dCons (dCB sp_reach_by (dCons (dVar 0) (dCons (dOp dIx (dVar 2) (dC (.int 0))) (dCons (dOp dIx (dVar 2) (dC (.int 1))) dNil)))) dNil)))))
def goal_based_fits : Prop := ∀ (x0 x1 x2 x3 x4 : D) (S : Store) (P : D → Store → Prop), sp_based_fits [x0, x1, x2, x3, x4] S P → rd_based_fits (dEnd P) [some x0, some x1, some x2, some x3, some x4] S

/-- told_read(base, other, mine, most, place): slots 0 base, 1 other, 2 mine, 3 most, 4 place, 5 need -/
def rd_told_read : DS :=
  (dSeq (dSet 5 (dCB sp_times (dCons (dCB sp_power (dCons (dVar 1) (dCons (dVar 4) dNil))) (dCons (dCB sp_frac (dCons (dOp dMul (dOp dMul (dC (.int 2)) (dVar 2)) (dOp dSub (dVar 1) (dC (.int 1)))) (dCons (dOp dSub (dVar 0) (dC (.int 1))) dNil))) dNil))))
  (dRet (dCB sp_least_power (dCons (dVar 0) (dCons (dOp dAdd (dOp dSub (dOp dMul (dC (.int 2)) (dVar 3)) (dVar 1)) (dC (.int 1))) (dCons (dVar 5) dNil))))))
def goal_told_read : Prop := ∀ (x0 x1 x2 x3 x4 : D) (S : Store) (P : D → Store → Prop), sp_told_read [x0, x1, x2, x3, x4] S P → rd_told_read (dEnd P) [some x0, some x1, some x2, some x3, some x4, none] S

/-- _law_cell_at(_law_script, _law_k): slots 0 _law_script, 1 _law_k -/
def rd_Lcell_at : DS :=
  (dSeq (dIfS (dTest (dOp dLt (dVar 1) (dCB cLen (dCons (dVar 0) dNil)))) (dRet (dOp dIx (dVar 0) (dVar 1))) dNext)
  (dRet (dC (.int 0))))
def goal_Lcell_at : Prop := ∀ (x0 x1 : D) (S : Store) (P : D → Store → Prop), sp_Lcell_at [x0, x1] S P → rd_Lcell_at (dEnd P) [some x0, some x1] S

/-- _law_box(_law_script, _law_k): slots 0 _law_script, 1 _law_k, 2 _law_cell -/
def rd_Lbox : DS :=
  (dSeq (dSet 2 (dCB sp_Lcell_at (dCons (dVar 0) (dCons (dVar 1) dNil))))
  (dRet (dLstM (dCons (dOp dMul (dCB cAbs (dCons (dVar 2) dNil)) (dCB cInt (dCons (dOp dGe (dCB cAbs (dCons (dVar 2) dNil)) (dOp dPow (dC (.int 10)) (dC (.int 18)))) dNil))) (dCons (dOp dAdd (dOp dAdd (dOp dMod (dVar 2) (dC (.int 2305843009213693951))) (dOp dMul (dC (.int 39373)) (dVar 1))) (dC (.int 17))) (dCons (dC (.int 0)) dNil))))))
def goal_Lbox : Prop := ∀ (x0 x1 : D) (S : Store) (P : D → Store → Prop), sp_Lbox [x0, x1] S P → rd_Lbox (dEnd P) [some x0, some x1, none] S

/-- _law_take(_law_box_here, _law_size): slots 0 _law_box_here, 1 _law_size, 2 _law_found, 3 _law_once, 4 _law_twice -/
def rd_Ltake : DS :=
  (dSeq (dIfS (dTest (dOp dGt (dOp dIx (dVar 0) (dC (.int 0))) (dC (.int 0)))) (dSeq (dSet 2 (dOp dMod (dOp dIx (dVar 0) (dC (.int 0))) (dVar 1)))
  (dSeq (dSetIx (dOp dFdiv (dOp dIx (dVar 0) (dC (.int 0))) (dVar 1)) (dVar 0) (dC (.int 0)))
  (dRet (dVar 2)))) dNext)
  (dSeq (dSetIx (dOp dAdd (dOp dIx (dVar 0) (dC (.int 2))) (dC (.int 1))) (dVar 0) (dC (.int 2)))
  (dSeq (dSet 3 (dOp dMod (dOp dMul (dOp dAdd (dOp dIx (dVar 0) (dC (.int 1))) (dOp dMul (dC (.int 48271)) (dOp dIx (dVar 0) (dC (.int 2))))) (dOp dAdd (dC (.int 39373)) (dOp dIx (dVar 0) (dC (.int 2))))) (dC (.int 2147483647))))
  (dSeq (dSet 4 (dOp dMod (dOp dMul (dOp dAdd (dOp dAdd (dVar 3) (dOp dIx (dVar 0) (dC (.int 2)))) (dOp dFdiv (dOp dIx (dVar 0) (dC (.int 1))) (dC (.int 1000003)))) (dOp dAdd (dOp dMod (dVar 3) (dC (.int 40009))) (dC (.int 7)))) (dC (.int 2147483629))))
  (dRet (dOp dMod (dOp dFdiv (dOp dMod (dOp dAdd (dOp dMul (dVar 4) (dC (.int 48271))) (dVar 3)) (dC (.int 2147483587))) (dC (.int 64))) (dVar 1)))))))
def goal_Ltake : Prop := ∀ (x0 x1 : D) (S : Store) (P : D → Store → Prop), sp_Ltake [x0, x1] S P → rd_Ltake (dEnd P) [some x0, some x1, none, none, none] S

/-- _law_of(_law_box_here, _law_some): slots 0 _law_box_here, 1 _law_some -/
def rd_Lof : DS :=
  (dRet (dOp dIx (dVar 1) (dCB sp_Ltake (dCons (dVar 0) (dCons (dCB cLen (dCons (dVar 1) dNil)) dNil)))))
def goal_Lof : Prop := ∀ (x0 x1 : D) (S : Store) (P : D → Store → Prop), sp_Lof [x0, x1] S P → rd_Lof (dEnd P) [some x0, some x1] S

/-- _law_frac(_law_top, _law_under): slots 0 _law_top, 1 _law_under, 2 _law_big, 3 _law_small, 4 _law_sign -/
def rd_Lfrac : DS :=
  (dSeq (dPar 2 3 (dCons (dCB cAbs (dCons (dVar 0) dNil)) (dCons (dCB cAbs (dCons (dVar 1) dNil)) dNil)))
  (dSeq (dWhile (dTest (dOp dGt (dVar 3) (dC (.int 0)))) (dPar 2 3 (dCons (dVar 3) (dCons (dOp dMod (dVar 2) (dVar 3)) dNil))))
  (dSeq (dSet 4 (dIf (dTest (dOp dGt (dVar 1) (dC (.int 0)))) (dC (.int 1)) (dUn dNeg (dC (.int 1)))))
  (dRet (dTup (dCons (dOp dFdiv (dOp dMul (dVar 4) (dVar 0)) (dVar 2)) (dCons (dOp dFdiv (dCB cAbs (dCons (dVar 1) dNil)) (dVar 2)) dNil)))))))
def goal_Lfrac : Prop := ∀ (x0 x1 : D) (S : Store) (P : D → Store → Prop), sp_Lfrac [x0, x1] S P → rd_Lfrac (dEnd P) [some x0, some x1, none, none, none] S

/-- _law_less(_law_first, _law_second): slots 0 _law_first, 1 _law_second -/
def rd_Lless : DS :=
  (dRet (dCB sp_Lfrac (dCons (dOp dSub (dOp dMul (dOp dIx (dVar 0) (dC (.int 0))) (dOp dIx (dVar 1) (dC (.int 1)))) (dOp dMul (dOp dIx (dVar 1) (dC (.int 0))) (dOp dIx (dVar 0) (dC (.int 1))))) (dCons (dOp dMul (dOp dIx (dVar 0) (dC (.int 1))) (dOp dIx (dVar 1) (dC (.int 1)))) dNil))))
def goal_Lless : Prop := ∀ (x0 x1 : D) (S : Store) (P : D → Store → Prop), sp_Lless [x0, x1] S P → rd_Lless (dEnd P) [some x0, some x1] S

/-- _law_by(_law_first, _law_second): slots 0 _law_first, 1 _law_second -/
def rd_Lby : DS :=
  (dRet (dCB sp_Lfrac (dCons (dOp dMul (dOp dIx (dVar 0) (dC (.int 0))) (dOp dIx (dVar 1) (dC (.int 0)))) (dCons (dOp dMul (dOp dIx (dVar 0) (dC (.int 1))) (dOp dIx (dVar 1) (dC (.int 1)))) dNil))))
def goal_Lby : Prop := ∀ (x0 x1 : D) (S : Store) (P : D → Store → Prop), sp_Lby [x0, x1] S P → rd_Lby (dEnd P) [some x0, some x1] S

/-- _law_below(_law_first, _law_second): slots 0 _law_first, 1 _law_second -/
def rd_Lbelow : DS :=
  (dRet (dOp dLt (dOp dMul (dOp dIx (dVar 0) (dC (.int 0))) (dOp dIx (dVar 1) (dC (.int 1)))) (dOp dMul (dOp dIx (dVar 1) (dC (.int 0))) (dOp dIx (dVar 0) (dC (.int 1))))))
def goal_Lbelow : Prop := ∀ (x0 x1 : D) (S : Store) (P : D → Store → Prop), sp_Lbelow [x0, x1] S P → rd_Lbelow (dEnd P) [some x0, some x1] S

/-- _law_power(_law_b, _law_many): slots 0 _law_b, 1 _law_many, 2 _law_found, 3 _law_turn -/
def rd_Lpower : DS :=
  (dSeq (dSet 2 (dTup (dCons (dC (.int 1)) (dCons (dC (.int 1)) dNil))))
  (dSeq (dFor (dRng1 (dCons (dCB cAbs (dCons (dVar 1) dNil)) dNil)) (.nm 3) (dSet 2 (dIf (dTest (dOp dGt (dVar 1) (dC (.int 0)))) (dTup (dCons (dOp dMul (dOp dIx (dVar 2) (dC (.int 0))) (dVar 0)) (dCons (dC (.int 1)) dNil))) (dTup (dCons (dC (.int 1)) (dCons (dOp dMul (dOp dIx (dVar 2) (dC (.int 1))) (dVar 0)) dNil))))))
  (dRet (dVar 2))))
def goal_Lpower : Prop := ∀ (x0 x1 : D) (S : Store) (P : D → Store → Prop), sp_Lpower [x0, x1] S P → rd_Lpower (dEnd P) [some x0, some x1, none, none] S

/-- _law_most(_law_box_here, _law_b): slots 0 _law_box_here, 1 _law_b, 2 _law_half -/
def rd_Lmost : DS :=
  (dSeq (dSet 2 (dOp dFdiv (dOp dAdd (dVar 1) (dC (.int 1))) (dC (.int 2))))
  (dRet (dCB sp_Lof (dCons (dVar 0) (dCons (dLst (dCons (dVar 2) (dCons (dVar 2) (dCons (dCB cMax2 (dCons (dVar 2) (dCons (dOp dSub (dVar 1) (dC (.int 1))) dNil))) (dCons (dOp dAdd (dVar 2) (dCB sp_Ltake (dCons (dVar 0) (dCons (dC (.int 3)) dNil)))) (dCons (dOp dAdd (dVar 2) (dCB sp_Ltake (dCons (dVar 0) (dCons (dOp dSub (dC (.int 61)) (dVar 2)) dNil)))) dNil)))))) dNil)))))
def goal_Lmost : Prop := ∀ (x0 x1 : D) (S : Store) (P : D → Store → Prop), sp_Lmost [x0, x1] S P → rd_Lmost (dEnd P) [some x0, some x1, none] S

/-- _law_signs(_law_box_here, _law_b, _law_start, _law_top, _law_number, _law_count): slots 0 _law_box_here, 1 _law_b, 2 _law_start, 3 _law_top, 4 _law_number, 5 _law_count, 6 _law_found, 7 _law_rest, 8 _law_place, 9 _law_unit, 10 _law_some, 11 _law_off, 12 _law_figure, 13 _law_left -/
def rd_Lsigns_1 : DS :=
  (dSeq (dSet 13 (dCB sp_Lless (dCons (dVar 7) (dCons (dCB sp_Lby (dCons (dTup (dCons (dVar 12) (dCons (dC (.int 1)) dNil))) (dCons (dVar 9) dNil))) dNil))))
  (dIfS (dAnd (dNot (dTest (dCB sp_Lbelow (dCons (dVar 11) (dCons (dVar 13) dNil))))) (dNot (dTest (dCB sp_Lbelow (dCons (dVar 13) (dCons (dTup (dCons (dOp dSub (dC (.int 0)) (dOp dIx (dVar 11) (dC (.int 0)))) (dCons (dOp dIx (dVar 11) (dC (.int 1))) dNil))) dNil)))))) (dDrop (dAppend (dVar 10) (dVar 12))) dNext))
def rd_Lsigns_2 : DS :=
  (dSeq (dPar 9 10 (dCons (dCB sp_Lpower (dCons (dVar 1) (dCons (dOp dSub (dOp dSub (dVar 2) (dC (.int 1))) (dVar 8)) dNil))) (dCons (dLstM dNil) dNil)))
  (dSeq (dSet 11 (dCB sp_Lby (dCons (dCB sp_Lfrac (dCons (dVar 3) (dCons (dOp dSub (dVar 1) (dC (.int 1))) dNil))) (dCons (dVar 9) dNil))))
  (dSeq (dFor (dRng2 (dCons (dUn dNeg (dVar 3)) (dCons (dOp dAdd (dVar 3) (dC (.int 1))) dNil))) (.nm 12) rd_Lsigns_1)
  (dFrz 10 (dSeq (dDrop (dAppend (dVar 6) (dCB sp_Lof (dCons (dVar 0) (dCons (dVar 10) dNil)))))
  (dSet 7 (dCB sp_Lless (dCons (dVar 7) (dCons (dCB sp_Lby (dCons (dTup (dCons (dOp dIx (dVar 6) (dUn dNeg (dC (.int 1)))) (dCons (dC (.int 1)) dNil))) (dCons (dVar 9) dNil))) dNil)))))))))
def rd_Lsigns : DS :=
  (dSeq (dPar 6 7 (dCons (dLstM dNil) (dCons (dVar 4) dNil)))
  (dSeq (dFor (dRng1 (dCons (dVar 5) dNil)) (.nm 8) rd_Lsigns_2)
  (dRet (dCB cTuple (dCons (dVar 6) dNil)))))
def goal_Lsigns : Prop := ∀ (x0 x1 x2 x3 x4 x5 : D) (S : Store) (P : D → Store → Prop), sp_Lsigns [x0, x1, x2, x3, x4, x5] S P → rd_Lsigns (dEnd P) [some x0, some x1, some x2, some x3, some x4, some x5, none, none, none, none, none, none, none, none] S

/-- _law_on(_law_b, _law_c, _law_line, _law_top): slots 0 _law_b, 1 _law_c, 2 _law_line, 3 _law_top, 4 _law_start, 5 _law_turn -/
def rd_Lon : DS :=
  (dSeq (dSet 4 (dUn dNeg (dC (.int 12))))
  (dSeq (dFor (dRng1 (dCons (dC (.int 24)) dNil)) (.nm 5) (dIfS (dNot (dTest (dCB sp_based_fits (dCons (dVar 0) (dCons (dVar 1) (dCons (dSl (dVar 2) dNoPart (dPart (dC (.int 2)))) (dCons (dVar 4) (dCons (dVar 3) dNil)))))))) (dSet 4 (dOp dAdd (dVar 4) (dC (.int 1)))) dNext))
  (dRet (dOp dIx (dCallK sp_based_run 3 3 [0, 1, 2, 3, 4, 5] (dCons (dVar 0) (dCons (dVar 1) (dCons (dVar 2) dNil))) (dCons (dVar 4) (dCons (dVar 3) (dCons (dC (.int 24)) dNil)))) (dC (.int 0))))))
def goal_Lon : Prop := ∀ (x0 x1 x2 x3 : D) (S : Store) (P : D → Store → Prop), sp_Lon [x0, x1, x2, x3] S P → rd_Lon (dEnd P) [some x0, some x1, some x2, some x3, none, none] S

/-- _law_is_far(_law_b, _law_c, _law_line, _law_found): slots 0 _law_b, 1 _law_c, 2 _law_line, 3 _law_found, 4 _law_place -/
def rd_Lis_far : DS :=
  (dSeq (dSet 4 (dOp dAdd (dCB sp_known_to (dCons (dVar 3) dNil)) (dC (.int 1))))
  (dRet (dOrV (dOp dGt (dVar 4) (dC (.int 24))) (dOp dGt (dCB sp_told_read (dCons (dVar 0) (dCons (dVar 1) (dCons (dOp dIx (dVar 2) (dC (.int 1))) (dCons (dOp dIx (dVar 3) (dC (.int 1))) (dCons (dVar 4) dNil)))))) (dCB sp_known_to (dCons (dVar 2) dNil))))))
def goal_Lis_far : Prop := ∀ (x0 x1 x2 x3 : D) (S : Store) (P : D → Store → Prop), sp_Lis_far [x0, x1, x2, x3] S P → rd_Lis_far (dEnd P) [some x0, some x1, some x2, some x3, none] S

/-- _law_chain(_law_bases, _law_tops, _law_line): slots 0 _law_bases, 1 _law_tops, 2 _law_line, 3 _law_found, 4 _law_at -/
def rd_Lchain : DS :=
  (dSeq (dSet 3 (dLstM (dCons (dVar 2) dNil)))
  (dSeq (dFor (dRng2 (dCons (dC (.int 1)) (dCons (dC (.int 4)) dNil))) (.nm 4) (dDrop (dAppend (dVar 3) (dCB sp_Lon (dCons (dOp dIx (dVar 0) (dOp dSub (dVar 4) (dC (.int 1)))) (dCons (dOp dIx (dVar 0) (dOp dMod (dVar 4) (dC (.int 3)))) (dCons (dOp dIx (dVar 3) (dUn dNeg (dC (.int 1)))) (dCons (dOp dIx (dVar 1) (dOp dMod (dVar 4) (dC (.int 3)))) dNil))))))))
  (dRetZ (dVar 3))))
def goal_Lchain : Prop := ∀ (x0 x1 x2 : D) (S : Store) (P : D → Store → Prop), sp_Lchain [x0, x1, x2] S P → rd_Lchain (dEnd P) [some x0, some x1, some x2, none, none] S

/-- _law_right(_law_box_here): slots 0 _law_box_here, 1 _law_bases, 2 _law_turn, 3 _law_tops, 4 _law_b, 5 _law_start, 6 _law_reach, 7 _law_parts, 8 _law_numbers, 9 _law_part, 10 _law_signs_here, 11 _law_number, 12 _law_chains, 13 _law_some, 14 _law_line, 15 _law_rows, 16 _law_at, 17 _law_ahead, 18 _law_short, 19 _law_full, 20 _law_gap, 21 _law_due -/
def rd_Lright_1 : DS :=
  (dSeq (dIfS (dTest (dOp dNotB (dCB sp_stands_for (dCons (dOp dIx (dVar 1) (dOp dMod (dVar 16) (dC (.int 3)))) (dCons (dVar 14) (dCons (dVar 11) dNil)))) (dC (.bl true)))) (dRet (dC (.bl false))) dNext)
  (dSeq (dSet 17 (dOp dIx (dVar 15) (dCB cMax2 (dCons (dC (.int 0)) (dCons (dOp dSub (dVar 16) (dC (.int 1))) dNil)))))
  (dIfS (dAnd (dTest (dOp dGt (dVar 16) (dC (.int 0)))) (dNot (dTest (dCB sp_Lis_far (dCons (dOp dIx (dVar 1) (dOp dSub (dVar 16) (dC (.int 1)))) (dCons (dOp dIx (dVar 1) (dOp dMod (dVar 16) (dC (.int 3)))) (dCons (dVar 17) (dCons (dVar 14) dNil)))))))) (dRet (dC (.bl false))) dNext)))
def rd_Lright_2 : DS :=
  (dSeq (dIfS (dTest (dOp dNotN (dCB sp_order_of (dCons (dOp dIx (dVar 1) (dC (.int 0))) (dCons (dOp dIx (dVar 15) (dC (.int 0))) (dCons (dOp dIx (dVar 15) (dC (.int 3))) dNil)))) (dC .non))) (dRet (dC (.bl false))) dNext)
  (dSeq (dSet 18 (dCB sp_Lchain (dCons (dVar 1) (dCons (dVar 3) (dCons (dCB sp_cut_of (dCons (dOp dIx (dVar 15) (dC (.int 0))) (dCons (dOp dSub (dOp dSub (dCB sp_known_to (dCons (dOp dIx (dVar 15) (dC (.int 0))) dNil)) (dC (.int 1))) (dCB sp_Ltake (dCons (dVar 0) (dCons (dC (.int 4)) dNil)))) dNil))) dNil)))))
  (dIfS (dTest (dCB cAny (dCons (dLc (dZip (dCons (dVar 18) (dCons (dVar 15) dNil))) (.tp [(.nm 14), (.nm 19)]) dYes (dOp dNe (dOp dIx (dVar 14) (dC (.int 2))) (dSl (dOp dIx (dVar 19) (dC (.int 2))) dNoPart (dPart (dCB cLen (dCons (dOp dIx (dVar 14) (dC (.int 2))) dNil)))))) dNil))) (dRet (dC (.bl false))) dNext)))
def rd_Lright_3 : DS :=
  (dSeq (dSet 20 (dOp dIx (dCB sp_Lless (dCons (dOp dIx (dVar 8) (dC (.int 0))) (dCons (dOp dIx (dVar 8) (dC (.int 1))) dNil))) (dC (.int 0))))
  (dSeq (dSet 21 (dIf (dTest (dOp dEq (dVar 20) (dC (.int 0)))) (dLst (dCons (dC .non) dNil)) (dLst (dCons (dC .non) (dCons (dIf (dTest (dOp dGt (dVar 20) (dC (.int 0)))) (dC (.int 1)) (dUn dNeg (dC (.int 1)))) dNil)))))
  (dRet (dCB cAll (dCons (dLc (dRng1 (dCons (dC (.int 4)) dNil)) (.nm 16) dYes (dOp (dIn false) (dCB sp_order_of (dCons (dOp dIx (dVar 1) (dOp dMod (dVar 16) (dC (.int 3)))) (dCons (dOp dIx (dOp dIx (dVar 12) (dC (.int 0))) (dVar 16)) (dCons (dOp dIx (dOp dIx (dVar 12) (dC (.int 1))) (dVar 16)) dNil)))) (dVar 21))) dNil)))))
def rd_Lright_4 : DS :=
  (dFrz 12 (dSeq (dFor (dZip (dCons (dVar 8) (dCons (dVar 12) dNil))) (.tp [(.nm 11), (.nm 15)]) (dSeq (dFor (dEnum (dCons (dVar 15) dNil)) (.tp [(.nm 16), (.nm 14)]) rd_Lright_1)
  rd_Lright_2))
  rd_Lright_3))
def rd_Lright_5 : DS :=
  (dSeq (dSet 12 (dLstM dNil))
  (dSeq (dFor (dItSeq (dVar 10)) (.nm 13) (dSeq (dSet 14 (dTup (dCons (dVar 5) (dCons (dOp dIx (dVar 3) (dC (.int 0))) (dCons (dVar 13) dNil)))))
  (dDrop (dAppend (dVar 12) (dCB sp_Lchain (dCons (dVar 1) (dCons (dVar 3) (dCons (dVar 14) dNil))))))))
  rd_Lright_4))
def rd_Lright_6 : DS :=
  (dSeq (dSet 7 (dLc (dRng1 (dCons (dC (.int 2)) dNil)) (.nm 2) dYes (dCB sp_Lfrac (dCons (dOp dSub (dCB sp_Ltake (dCons (dVar 0) (dCons (dC (.int 39)) dNil))) (dC (.int 19))) (dCons (dC (.int 20)) dNil)))))
  (dSeq (dSet 8 (dLc (dItSeq (dVar 7)) (.nm 9) dYes (dCB sp_Lby (dCons (dVar 6) (dCons (dVar 9) dNil)))))
  (dSeq (dSet 10 (dLc (dItSeq (dVar 8)) (.nm 11) dYes (dCB sp_Lsigns (dCons (dVar 0) (dCons (dOp dIx (dVar 1) (dC (.int 0))) (dCons (dVar 5) (dCons (dOp dIx (dVar 3) (dC (.int 0))) (dCons (dVar 11) (dCons (dC (.int 8)) dNil)))))))))
  rd_Lright_5)))
def rd_Lright : DS :=
  (dSeq (dSet 1 (dLc (dRng1 (dCons (dC (.int 3)) dNil)) (.nm 2) dYes (dOp dAdd (dC (.int 2)) (dCB sp_Ltake (dCons (dVar 0) (dCons (dC (.int 9)) dNil))))))
  (dSeq (dSet 3 (dLc (dItSeq (dVar 1)) (.nm 4) dYes (dCB cMin2 (dCons (dOp dAdd (dVar 4) (dC (.int 2))) (dCons (dCB sp_Lmost (dCons (dVar 0) (dCons (dVar 4) dNil))) dNil)))))
  (dSeq (dSet 5 (dOp dSub (dCB sp_Ltake (dCons (dVar 0) (dCons (dC (.int 4)) dNil))) (dC (.int 1))))
  (dSeq (dSet 6 (dCB sp_Lby (dCons (dCB sp_Lfrac (dCons (dOp dIx (dVar 3) (dC (.int 0))) (dCons (dOp dSub (dOp dIx (dVar 1) (dC (.int 0))) (dC (.int 1))) dNil))) (dCons (dCB sp_Lpower (dCons (dOp dIx (dVar 1) (dC (.int 0))) (dCons (dVar 5) dNil))) dNil))))
  rd_Lright_6))))
def goal_Lright : Prop := ∀ (x0 : D) (S : Store) (P : D → Store → Prop), sp_Lright [x0] S P → rd_Lright (dEnd P) [some x0, none, none, none, none, none, none, none, none, none, none, none, none, none, none, none, none, none, none, none, none, none] S

/-- law(_law_script): slots 0 _law_script, 1 _law_k -/
def rd_law : DS :=
  (dRet (dCB cAll (dCons (dLc (dRng1 (dCons (dOp dAdd (dC (.int 1)) (dCB cMin2 (dCons (dC (.int 1)) (dCons (dCB cLen (dCons (dVar 0) dNil)) dNil)))) dNil)) (.nm 1) dYes (dCB sp_Lright (dCons (dCB sp_Lbox (dCons (dVar 0) (dCons (dVar 1) dNil))) dNil))) dNil)))
def goal_law : Prop := ∀ (x0 : D) (S : Store) (P : D → Store → Prop), sp_law [x0] S P → rd_law (dEnd P) [some x0, none] S

theorem len_figures_between : ∀ ds S P, sp_figures_between ds S P → ds.length = 4 := len_figures_betweenG
theorem vc_figures_between : goal_figures_between := vc_figures_betweenG
theorem len_Lpower : ∀ ds S P, sp_Lpower ds S P → ds.length = 2 := len_power
theorem vc_Lpower : goal_Lpower := vc_Lpower2
theorem len_Lmost : ∀ ds S P, sp_Lmost ds S P → ds.length = 2 := len_LmostT
theorem vc_Lmost : goal_Lmost := vc_LmostT
theorem len_law : ∀ ds S P, sp_law ds S P → ds.length = 1 := lawT_len _
theorem len_Lsigns : ∀ ds S P, sp_Lsigns ds S P → ds.length = 6 := Lb.len_Lsigns
theorem len_Lright : ∀ ds S P, sp_Lright ds S P → ds.length = 1 := by
  rintro ds S P ⟨a, b, rfl, _⟩; rfl
theorem vc_Lsigns : goal_Lsigns := by
  rintro x0 x1 x2 x3 x4 x5 S P ⟨p, n, b, st, top, k, x, er, hb, hn, b0, b1, s0, s1, t0, t1, k0, k1, sx, hx1, hx2, h⟩
  cases er
  unfold rd_Lsigns
  walk_at "dg4"
  intro L hL
  have pL := hb.ne hL
  have w0 : (Rw.mk st top []).worth b = 0 := by unfold Rw.worth whole; simp
  have ex0 : encR x = encR (x - (Rw.mk st top []).worth b) := by rw [w0, Rat.sub_eq_add_neg, Rat.neg_zero, Rat.add_zero]
  refine ⟨by omega, by omega, fun i ρ S' => Dk S S' p (n + i) ∧ ∃ (fs : List Int) (z8 z9 z10 z11 z12 z13 : Option D), S' L = some (.lst (fs.map .int)) ∧ fs.length = i ∧ (∀ f, f ∈ fs → -top ≤ f ∧ f ≤ top) ∧ (Rw.mk st top fs).lo b ≤ x ∧ x ≤ (Rw.mk st top fs).hi b ∧
    ρ = [some (.obj p), some (.int b), some (.int st), some (.int top), some (encR x), some (.int k), some (.obj L), some (encR (x - (Rw.mk st top fs).worth b)), z8, z9, z10, z11, z12, z13],
    ⟨(Dk.refl hb).new hL, [], none, none, none, none, none, none, supd_same, rfl, by simp, ?_, ?_, by rw [← ex0]⟩, ?_, ?_⟩
  · exact (bare_lo b (st, top)).1 ▸ hx1
  · exact (bare_lo b (st, top)).2 ▸ hx2
  · rintro i d ρ S2 hd ⟨hd2, fs, z8, z9, z10, z11, z12, z13, hS, hfl, hff, hlo, hhi, rfl⟩
    obtain ⟨hi, rfl⟩ := rng_get hd
    refine ⟨_, rfl, ?_⟩
    unfold rd_Lsigns_2
    obtain ⟨R, hR⟩ : ∃ R, R = Rw.mk st top fs := ⟨_, rfl⟩
    have Re : R.e = st := by rw [hR]
    have Rm : R.m = top := by rw [hR]
    have Rf : R.fs = fs := by rw [hR]
    rw [← hR] at hlo hhi
    have ok : R.Ok b := by rw [hR]; exact ⟨b0, b1, by show -40 ≤ st; omega, by show st ≤ 40; omega, by show 0 ≤ top; omega, by show top ≤ 1000; omega, by show fs.length ≤ 80; omega, fun f hf => by have := hff f hf; omega⟩
    rw [← hR]
    obtain ⟨U, hU⟩ : ∃ U, U = (b : Rat) ^ (st - 1 - (i : Int)) := ⟨_, rfl⟩
    have sU : Sz 485 U := by rw [hU]; exact (sz_zpow (k := st - 1 - (i : Int)) (by omega) b1).mono (by omega)
    have cs : Sz 11 ((top : Rat) / ((b - 1 : Int) : Rat)) := by have := ok.fr; rwa [Rm] at this
    have en : R.nx b = U := by unfold Rw.nx; rw [hU, Re, Rf]; congr 1; omega
    have ei : (0 : Int) + (i : Int) = (i : Int) := by omega
    rw [ei]
    walk_at "dg4"
    refine ⟨b, _, rfl, by omega, b1, by omega, ?_⟩
    rw [← hU]
    intro M hM
    have ML : L ≠ M := fun z => by rw [← z, hS] at hM; cases hM
    refine ⟨top, b - 1, rfl, by omega, bound_mono (n := 10) (by omega), bound_mono (n := 10) (by omega), ?_⟩
    refine ⟨_, _, rfl, cs.mono (by decide), sU.mono (by decide), ?_⟩
    obtain ⟨O, hO⟩ : ∃ O, O = (top : Rat) / ((b - 1 : Int) : Rat) * U := ⟨_, rfl⟩
    have sO : Sz 496 O := by rw [hO]; exact sz_mul cs sU
    rw [← hO]
    have sW := sz_sub sx ok.worth
    obtain ⟨W, hW⟩ : ∃ W, W = R.worth b := ⟨_, rfl⟩
    have lo : ∀ f : Int, (R.snoc f).lo b = W + (f : Rat) * U - O := fun f => by
      have := Rw.snoc_lo (b := b) (r := R) b0 f
      rw [en, Rm, ← hO, ← hW] at this
      exact this
    have hi2 : ∀ f : Int, (R.snoc f).hi b = W + (f : Rat) * U + O := fun f => by
      have := Rw.snoc_hi (b := b) (r := R) b0 f
      rw [en, Rm, ← hO, ← hW] at this
      exact this
    rw [← hW] at sW ⊢
    refine ⟨by omega, fun j ρ S' => S' = supd S2 M (.lst (((ivl (-top) j).filter (figOk b R (x, x))).map .int)) ∧ ∃ z12 z13 : Option D, ρ = [some (.obj p), some (.int b), some (.int st), some (.int top), some (encR x), some (.int k), some (.obj L), some (encR (x - W)), some (.int (i : Int)), some (encR U), some (.obj M), some (encR O), z12, z13], ⟨rfl, _, _, rfl⟩, ?_, ?_⟩
    · rintro j d ρ S' hd ⟨rfl, z12, z13, rfl⟩
      obtain ⟨hj, rfl⟩ := rng_get hd
      refine ⟨_, rfl, ?_⟩
      unfold rd_Lsigns_1
      obtain ⟨f, hf, f0, f1⟩ : ∃ f : Int, f = -top + (j : Int) ∧ -top ≤ f ∧ f ≤ top := ⟨_, rfl, by omega, by omega⟩
      have hf' : -top + (j : Int) = f := hf.symm
      rw [hf']
      walk_at "dg4"
      have sf : Sz 11 (f : Rat) := sz_int (by omega) (by decide)
      refine ⟨(f : Rat), U, by rw [encR_int], sf.mono (by decide), sU.mono (by decide), ?_⟩
      refine ⟨_, _, rfl, sW.mono (by decide), (sz_mul sf sU).mono (by decide), ?_⟩
      have sA := sz_sub sW (sz_mul sf sU)
      walk_at "dg4"
      refine ⟨_, _, rfl, sO.mono (by decide), sA.mono (by decide), ?_⟩
      walk_at "dg4"
      have key : ivl (-top) (j + 1) = ivl (-top) j ++ [f] := by rw [ivl_snoc, hf']
      have fin : ∀ t : Bool, figOk b R (x, x) f = t → ((ivl (-top) (j + 1)).filter (figOk b R (x, x))).map D.int = ((ivl (-top) j).filter (figOk b R (x, x))).map D.int ++ (if t = true then [D.int f] else []) := fun t ht => by
        rw [key, List.filter_append, List.map_append]
        cases t <;> simp [ht]
      have lof := lo f; have hif := hi2 f
      by_cases c1 : O < x - W - (f : Rat) * U
      · simp only [c1, decide_true, Bool.not_true, Bool.false_eq_true, reduceIte]
        walk_at "dg4"
        have := fin false (by unfold figOk; rw [hif]; simp; intro _; grind)
        exact ⟨by rw [this]; simp, _, _, rfl⟩
      · simp only [c1, decide_false, Bool.not_false, reduceIte]
        walk_at "dg4"
        have en2 : D.tup [.int (0 - O.num), .int (O.den : Int)] = encR (-O) := by unfold encR; rw [Rat.neg_num, Rat.neg_den, Int.zero_sub]
        rw [show encR O = D.tup [.int O.num, .int (O.den : Int)] from rfl]
        walk_at "dg4"
        refine ⟨x - W - (f : Rat) * U, -O, by rw [← en2]; try rfl, sA.mono (by decide), (sz_neg sO).mono (by decide), ?_⟩
        walk_at "dg4"
        by_cases c2 : x - W - (f : Rat) * U < -O
        · simp only [c2, decide_true, Bool.not_true, Bool.false_eq_true, reduceIte]
          walk_at "dg4"
          have := fin false (by unfold figOk; rw [lof]; simp; intro _; grind)
          exact ⟨by rw [this]; simp, _, _, rfl⟩
        · simp only [c2, decide_false, Bool.not_false, reduceIte]
          walk_at "dg4"
          refine ⟨_, rfl, _, rfl, by rw [List.length_map]; exact Nat.lt_of_le_of_lt (List.length_filter_le ..) (by unfold ivl; rw [List.length_map, List.length_range]; omega), ?_⟩
          have := fin true (by unfold figOk; rw [lof, hif]; simp; constructor <;> grind)
          exact ⟨by rw [this, supd_supd]; simp, _, _, rfl⟩
    · rintro ρ S' ⟨rfl, z12, z13, rfl⟩
      unfold dFrz
      refine ⟨M, _, rfl, supd_same, ?_⟩
      have e1 : sdel (supd S2 M (.lst (((ivl (-top) (rng (-top) (top + 1 - -top).toNat).length).filter (figOk b R (x, x))).map .int))) M = S2 := by
        funext a
        unfold sdel supd
        split
        · rename_i z; subst z; exact hM.symm
        · rfl
      rw [e1]
      have ex : (ivl (-top) (rng (-top) (top + 1 - -top).toNat).length).filter (figOk b R (x, x)) = figsR b R (x, x) := by
        unfold figsR
        rw [rng_len, Rm]
        congr 2
        congr 1
        omega
      rw [ex]
      have ne : figsR b R (x, x) ≠ [] := right_exists ok (by rw [Rm]; omega) hlo hhi (by
        dsimp only
        rw [Rat.sub_self, Rat.zero_mul]
        exact Rat.mul_nonneg (by have : ((0 : Int) : Rat) ≤ ((2 * R.m - b + 1 : Int) : Rat) := Rat.intCast_le_intCast.mpr (by rw [Rm]; omega); exact this) (Rat.le_of_lt ok.nxp))
      have mem : ∀ z, z ∈ figsR b R (x, x) → (-top ≤ z ∧ z ≤ top) ∧ (R.snoc z).lo b ≤ x ∧ x ≤ (R.snoc z).hi b := fun z hz => by
        have := (figs_mem (b := b) (r := R) (q := (x, x)) ok.m0).mp hz
        rwa [Rm] at this
      have fl : (figsR b R (x, x)).length ≤ 100000 := by
        unfold figsR
        refine Nat.le_trans (List.length_filter_le ..) ?_
        unfold ivl
        rw [List.length_map, List.length_range, Rm]
        omega
      generalize figsR b R (x, x) = xs at *
      walk_at "dg4"
      refine ⟨_, hS, ?_⟩
      refine ofK (ns := xs) (fun z => (-top ≤ z ∧ z ≤ top) ∧ (R.snoc z).lo b ≤ x ∧ x ≤ (R.snoc z).hi b) (Dk.refl hd2.1) (List.length_pos_iff.mpr ne) fl (by omega +splitDisjunctions) mem fun z S4 hz hd4 => ?_
      have hS4 : S4 L = some (.lst (fs.map .int)) := hd4.2 L _ pL.symm hS
      refine ⟨_, hS4, by rw [List.length_map]; omega, ?_⟩
      rw [ix_obj supd_same, Lb.atI_last]
      walk_at "dg4"
      have sz : Sz 11 (z : Rat) := sz_int (by omega) (by decide)
      refine ⟨(z : Rat), U, by rw [encR_int], sz.mono (by decide), sU.mono (by decide), ?_⟩
      refine ⟨_, _, rfl, sW.mono (by decide), (sz_mul sz sU).mono (by decide), ?_⟩
      have es : Rw.mk st top (fs ++ [z]) = R.snoc z := by rw [hR]; rfl
      have ew : x - W - (z : Rat) * U = x - (R.snoc z).worth b := by
        rw [Rw.snoc_worth (by omega), en, ← hW]
        grind
      refine ⟨(Dk.put (hd2.trans hd4) pL hL).mono (by omega), fs ++ [z], _, _, _, _, _, _, by rw [supd_same, List.map_append]; rfl, by simp [hfl], fun f hf => ?_, by rw [es]; exact hz.2.1, by rw [es]; exact hz.2.2, by rw [es, ew]⟩
      rcases List.mem_append.mp hf with hf | hf
      · exact hff f hf
      · simp only [List.mem_singleton] at hf
        subst hf; exact hz.1
  · rintro ρ S2 ⟨hd2, fs, z8, z9, z10, z11, z12, z13, hS, hfl, hff, hlo, hhi, rfl⟩
    rw [rng_len] at hfl hd2
    walk_at "dg4"
    rw [hS]
    walk_at "dg4"
    exact h fs S2 hfl hff hlo hhi (hd2.mono (by omega))
theorem ord_cases {b : Int} {q q' : Rw} {v v' : Rat} (h : q.Has b v) (h' : q'.Has b v') : ordD b q q' = .non ∨ (ordD b q q' = .int 1 ∧ v' < v) ∨ (ordD b q q' = .int (-1) ∧ v < v') := by
  unfold ordD
  obtain ⟨h1, h2⟩ := h
  obtain ⟨h3, h4⟩ := h'
  by_cases z1 : q'.hi b < q.lo b
  · rw [if_pos z1]; exact .inr (.inl ⟨rfl, by grind⟩)
  · rw [if_neg z1]
    by_cases z2 : q.hi b < q'.lo b
    · rw [if_pos z2]; exact .inr (.inr ⟨rfl, by grind⟩)
    · rw [if_neg z2]; exact .inl rfl
theorem vc_Lright : goal_Lright := by
  rintro x0 S P ⟨p, n, er, hb, hn, ht, h⟩
  cases er
  have np : CT.at_ 40 ≠ p := fun z => by obtain ⟨x, y, w, hx, _⟩ := hb; rw [← z, ht] at hx; cases hx
  unfold rd_Lright
  walk_at "dg4"
  refine ⟨by decide, by decide, lc_st (fun _ y => ∃ b : Int, y = .int b ∧ 2 ≤ b ∧ b ≤ 10) (fun i S' => Dk S S' p (n + i)) (by rw [rng_len]; decide) (.refl hb) (fun i d S' hd hd1 => ?_) fun ys S1 hl hy hd1 => ?_⟩
  · obtain ⟨hi, rfl⟩ := rng_get hd
    refine ⟨_, rfl, fun Q hq => ?_⟩
    walk_at "dg4"
    have : i < 3 := hi
    refine takeK hd1 (by decide) (by decide) (by omega +splitDisjunctions) fun y S2 y0 y1 hd2 => ?_
    walk_at "dg4"
    exact hq _ _ ⟨_, rfl, by omega, by omega⟩ hd2
  rw [rng_len] at hl hd1
  match ys, hl with
  | [y0, y1, y2], _ =>
  obtain ⟨b, rfl, b0, b1⟩ := hy 0 y0 rfl
  obtain ⟨c, rfl, c0, c1⟩ := hy 1 y1 rfl
  obtain ⟨d, rfl, d0, d1⟩ := hy 2 y2 rfl
  clear hy
  walk_at "dg4"
  refine lc_st (fun i y => ∃ t : Int, y = .int t ∧ (i = 0 → b ≤ 2 * t ∧ t ≤ b + 2) ∧ (i = 1 → c ≤ 2 * t ∧ t ≤ c + 2) ∧ (i = 2 → d ≤ 2 * t ∧ t ≤ d + 2)) (fun i S' => Dk S S' p (n + 3 + 3 * i)) (by simp) hd1 (fun i dd S' hdd hd2 => ?_) fun ys S2 hl hy hd2 => ?_
  · have hi : i < 3 := (List.getElem?_eq_some_iff.mp hdd).1
    obtain ⟨v, rfl, v0, v1, hv⟩ : ∃ v : Int, dd = .int v ∧ 2 ≤ v ∧ v ≤ 10 ∧ ∀ t : Int, v ≤ 2 * t → t ≤ v + 2 → (i = 0 → b ≤ 2 * t ∧ t ≤ b + 2) ∧ (i = 1 → c ≤ 2 * t ∧ t ≤ c + 2) ∧ (i = 2 → d ≤ 2 * t ∧ t ≤ d + 2) := by
      rcases (by omega : i = 0 ∨ i = 1 ∨ i = 2) with rfl | rfl | rfl
      · cases hdd; exact ⟨b, rfl, b0, b1, fun t h1 h2 => ⟨fun _ => ⟨h1, h2⟩, fun z => absurd z (by decide), fun z => absurd z (by decide)⟩⟩
      · cases hdd; exact ⟨c, rfl, c0, c1, fun t h1 h2 => ⟨fun z => absurd z (by decide), fun _ => ⟨h1, h2⟩, fun z => absurd z (by decide)⟩⟩
      · cases hdd; exact ⟨d, rfl, d0, d1, fun t h1 h2 => ⟨fun z => absurd z (by decide), fun z => absurd z (by decide), fun _ => ⟨h1, h2⟩⟩⟩
    refine ⟨_, rfl, fun Q hq => ?_⟩
    walk_at "dg4"
    refine ⟨p, _, v, rfl, hd2.1, by omega, by omega, by omega, fun m S3 k0 k1 hd3 => ?_⟩
    walk_at "dg4"
    exact hq _ _ ⟨_, rfl, hv _ (by split <;> omega) (by split <;> omega)⟩ (hd2.trans hd3)
  match ys, hl with
  | [y0, y1, y2], _ =>
  obtain ⟨s, rfl, hs, _, _⟩ := hy 0 y0 rfl
  obtain ⟨t, rfl, _, h2, _⟩ := hy 1 y1 rfl
  obtain ⟨u, rfl, _, _, h3⟩ := hy 2 y2 rfl
  have C : Chs b c d s t u := ⟨b0, b1, c0, c1, d0, d1, (hs rfl).1, (hs rfl).2, (h2 rfl).1, (h2 rfl).2, (h3 rfl).1, (h3 rfl).2⟩
  clear hy hs h2 h3
  have s0 := C.s0; have s1 := C.s1
  walk_at "dg4"
  refine takeK hd2 (by decide) (by decide) (by simp; omega +splitDisjunctions) fun y3 S3 f0 f1 hd3 => ?_
  walk_at "dg4"
  obtain ⟨e, he⟩ : ∃ e : Int, e = y3 - 1 := ⟨_, rfl⟩
  rw [← he]
  refine ⟨s, b - 1, rfl, by omega, bound_mono (n := 10) (by omega), bound_mono (n := 10) (by omega), ?_⟩
  refine ⟨b, e, rfl, by omega, by omega, by omega, ?_⟩
  have sf : Sz 10 ((s : Rat) / ((b - 1 : Int) : Rat)) := sz_frac (by omega) (by omega) (by omega)
  have sp : Sz 20 ((b : Rat) ^ e) := (sz_zpow (by omega) (by omega)).mono (by omega)
  refine ⟨_, _, rfl, sf.mono (by decide), sp.mono (by decide), ?_⟩
  have sR : Sz 30 (rim b e s) := sz_mul sf sp
  rw [show (s : Rat) / ((b - 1 : Int) : Rat) * (b : Rat) ^ e = rim b e s from rfl]
  unfold rd_Lright_6
  walk_at "dg4"
  refine ⟨by decide, by decide, lc_st (fun _ y => ∃ q : Rat, y = encR q ∧ Sz 10 q ∧ -1 ≤ q ∧ q ≤ 1) (fun i S' => Dk S S' p (n + 13 + i)) (by rw [rng_len]; decide) (hd3.mono (by simp)) (fun i dd S' hd hd1 => ?_) fun ys S4 hl hy hd4 => ?_⟩
  · obtain ⟨hi, rfl⟩ := rng_get hd
    have hi : i < 2 := hi
    refine ⟨_, rfl, fun Q hq => ?_⟩
    walk_at "dg4"
    refine takeK hd1 (by decide) (by decide) (by omega +splitDisjunctions) fun y4 S5 g0 g1 hd2 => ?_
    walk_at "dg4"
    refine ⟨y4 - 19, 20, rfl, by decide, bound_mono (n := 10) (by omega), bound_mono (n := 10) (by decide), ?_⟩
    refine hq _ _ ⟨_, rfl, sz_frac (by decide) (by omega) (by decide), ?_⟩ hd2
    have q2 : ((y4 - 19 : Int) : Rat) / ((20 : Int) : Rat) * ((20 : Int) : Rat) = ((y4 - 19 : Int) : Rat) := by
      rw [Rat.div_def, Rat.mul_assoc, Rat.inv_mul_cancel _ (by decide), Rat.mul_one]
    have a1 : ((y4 - 19 : Int) : Rat) ≤ ((20 : Int) : Rat) := Rat.intCast_le_intCast.mpr (by omega)
    have a2 : ((-20 : Int) : Rat) ≤ ((y4 - 19 : Int) : Rat) := Rat.intCast_le_intCast.mpr (by omega)
    have o20 : ((20 : Int) : Rat) = 20 := rfl
    have o20n : ((-20 : Int) : Rat) = -20 := rfl
    rw [o20] at a1 q2 ⊢
    rw [o20n] at a2
    generalize ((y4 - 19 : Int) : Rat) / 20 = z at *
    generalize ((y4 - 19 : Int) : Rat) = v at *
    constructor <;> grind
  rw [rng_len] at hl hd4
  match ys, hl with
  | [y0, y1], _ =>
  obtain ⟨q0, rfl, sq0, qa0, qb0⟩ := hy 0 y0 rfl
  obtain ⟨q1, rfl, sq1, qa1, qb1⟩ := hy 1 y1 rfl
  clear hy
  have nn := rim_nnT (b := b) (e := e) (m := s) b0 (by omega)
  walk_at "dg4"
  refine lc_st (fun i y => (i = 0 → y = encR (rim b e s * q0)) ∧ (i = 1 → y = encR (rim b e s * q1))) (fun i S' => S' = S4) (by simp) rfl (fun i dd S' hdd hS => ?_) fun ys S5 hl hy hS => ?_
  · have hi : i < 2 := (List.getElem?_eq_some_iff.mp hdd).1
    subst hS
    rcases (by omega : i = 0 ∨ i = 1) with rfl | rfl
    · cases hdd
      refine ⟨_, rfl, fun Q hq => ?_⟩
      walk_at "dg4"
      exact ⟨_, _, rfl, sR.mono (by decide), sq0.mono (by decide), hq _ _ ⟨fun _ => rfl, fun z => absurd z (by decide)⟩ rfl⟩
    · cases hdd
      refine ⟨_, rfl, fun Q hq => ?_⟩
      walk_at "dg4"
      exact ⟨_, _, rfl, sR.mono (by decide), sq1.mono (by decide), hq _ _ ⟨fun z => absurd z (by decide), fun _ => rfl⟩ rfl⟩
  subst hS
  match ys, hl with
  | [y0, y1], _ =>
  have e0 := (hy 0 y0 rfl).1 rfl
  have e1 := (hy 1 y1 rfl).2 rfl
  subst e0
  subst e1
  clear hy
  have inR : ∀ q : Rat, -1 ≤ q → q ≤ 1 → -rim b e s ≤ rim b e s * q ∧ rim b e s * q ≤ rim b e s := fun q h1 h2 => by
    have b1 := Rat.mul_le_mul_of_nonneg_left h1 (c := rim b e s) nn
    have b2 := Rat.mul_le_mul_of_nonneg_left h2 (c := rim b e s) nn
    generalize rim b e s = R at *
    constructor <;> grind
  have r0 := inR q0 qa0 qb0
  have r1 := inR q1 qa1 qb1
  have sx0 : Sz 40 (rim b e s * q0) := sz_mul sR sq0
  have sx1 : Sz 40 (rim b e s * q1) := sz_mul sR sq1
  generalize rim b e s * q0 = v0 at *
  generalize rim b e s * q1 = v1 at *
  walk_at "dg4"
  refine lc_st (fun i y => ∃ r : Rw, y = .tup (r.fs.map .int) ∧ r.e = e ∧ r.m = s ∧ Wh b s r ∧ (i = 0 → r.lo b ≤ v0 ∧ v0 ≤ r.hi b) ∧ (i = 1 → r.lo b ≤ v1 ∧ v1 ≤ r.hi b)) (fun i S' => Dk S S' p (n + 15 + 21 * i)) (by simp) hd4 (fun i dd S' hdd hd1 => ?_) fun ys S6 hl hy hd5 => ?_
  · have hi : i < 2 := (List.getElem?_eq_some_iff.mp hdd).1
    obtain ⟨v, rfl, sv, va, vb, hv⟩ : ∃ v : Rat, dd = encR v ∧ Sz 40 v ∧ -rim b e s ≤ v ∧ v ≤ rim b e s ∧ ∀ lo hi : Rat, lo ≤ v → v ≤ hi → (i = 0 → lo ≤ v0 ∧ v0 ≤ hi) ∧ (i = 1 → lo ≤ v1 ∧ v1 ≤ hi) := by
      rcases (by omega : i = 0 ∨ i = 1) with rfl | rfl
      · cases hdd; exact ⟨v0, rfl, sx0, r0.1, r0.2, fun _ _ h1 h2 => ⟨fun _ => ⟨h1, h2⟩, fun z => absurd z (by decide)⟩⟩
      · cases hdd; exact ⟨v1, rfl, sx1, r1.1, r1.2, fun _ _ h1 h2 => ⟨fun z => absurd z (by decide), fun _ => ⟨h1, h2⟩⟩⟩
    refine ⟨_, rfl, fun Q hq => ?_⟩
    walk_at "dg4"
    refine ⟨p, _, b, e, s, 8, v, rfl, hd1.1, by omega, by omega, by omega, by omega, by omega, by omega, by omega, by omega, by omega, sv.mono (by decide), va, vb, fun fs S7 hfl hff hlo hhi hd2 => ?_⟩
    refine hq _ _ ⟨Rw.mk e s fs, rfl, rfl, rfl, ⟨b0, b1, s0, s1, ⟨b0, by omega, by show -40 ≤ e; omega, by show e ≤ 40; omega, by show 0 ≤ s; omega, by show s ≤ 1000; omega, by show fs.length ≤ 80; rw [hfl]; decide, fun f hf => by have := hff f hf; omega⟩, rfl, hff, by show -12 ≤ e; omega, by show e ≤ 12; omega⟩, hv _ _ hlo hhi⟩ (hd1.trans hd2)
  match ys, hl with
  | [y0, y1], _ =>
  obtain ⟨ra, rfl, ea, ma, Wa, ha, _⟩ := hy 0 y0 rfl
  obtain ⟨rb, rfl, eb, mb, Wb, _, hb1⟩ := hy 1 y1 rfl
  have ha := ha rfl
  have hb1 := hb1 rfl
  clear hy
  unfold rd_Lright_5
  walk_at "dg4"
  intro L hL
  have pL := hd5.1.ne hL
  have hdA : Dk S S6 p (n + 57) := hd5.mono (by simp)
  have hL0 : S L = none := by
    cases z : S L with
    | none => rfl
    | some m => have := hd5.2 L m pL.symm z; rw [hL] at this; cases this
  refine ⟨fun i ρ S' => Dk S S' p (n + 57) ∧ ∃ cs z13 z14, S' L = some (.lst cs) ∧ cs.length = i ∧ (∀ y, cs[0]? = some y → Gd b c d s t u v0 y) ∧ (∀ y, cs[1]? = some y → Gd b c d s t u v1 y) ∧
    ρ = [some (D.obj p), some (D.lst [D.int b, D.int c, D.int d]), none, some (D.lst [D.int s, D.int t, D.int u]), none,
      some (D.int e), some (encR (rim b e s)), some (D.lst [encR q0, encR q1]), some (D.lst [encR v0, encR v1]), none,
      some (D.lst [D.tup (List.map D.int ra.fs), D.tup (List.map D.int rb.fs)]), none, some (D.obj L), z13, z14, none,
      none, none, none, none, none, none], ⟨hdA.new hL, [], _, _, supd_same, rfl, (fun y z => nomatch z), (fun y z => nomatch z), rfl⟩, ?_, ?_⟩
  · rintro i dd ρ S' hdd ⟨hd, cs, z13, z14, hS, hcl, hc0, hc1, rfl⟩
    have hi : i < 2 := (List.getElem?_eq_some_iff.mp hdd).1
    obtain ⟨r, er, re, rm, W, hr0, hr1⟩ : ∃ r : Rw, dd = .tup (r.fs.map .int) ∧ r.e = e ∧ r.m = s ∧ Wh b s r ∧ (i = 0 → r.lo b ≤ v0 ∧ v0 ≤ r.hi b) ∧ (i = 1 → r.lo b ≤ v1 ∧ v1 ≤ r.hi b) := by
      rcases (by omega : i = 0 ∨ i = 1) with rfl | rfl
      · cases hdd; exact ⟨ra, rfl, ea, ma, Wa, fun _ => ha, fun z => absurd z (by decide)⟩
      · cases hdd; exact ⟨rb, rfl, eb, mb, Wb, fun z => absurd z (by decide), fun _ => hb1⟩
    subst er
    refine ⟨_, rfl, ?_⟩
    have ed : D.tup [.int e, .int s, .tup (r.fs.map .int)] = r.d := by rw [← re, ← rm]; rfl
    walk_at "dg4"
    rw [ed]
    refine ⟨_, hS, ?_⟩
    refine ⟨b, c, d, s, t, u, r, rfl, C, W, by omega, hd.2 _ _ np ht, fun r1 r2 r3 S7 ch kp => ?_⟩
    have hS7 := kp _ _ hS
    refine ⟨_, hS7, by rw [hcl]; omega, ((hd.kp kp).put pL hL0), _, _, _, rfl, by rw [List.length_append, hcl]; rfl, fun y hy => ?_, fun y hy => ?_, rfl⟩
    · rcases (by omega : i = 0 ∨ i = 1) with rfl | rfl
      · match cs, hcl with
        | [], _ => cases hy; exact ⟨r, r1, r2, r3, rfl, ch, W, by omega, hr0 rfl⟩
      · match cs, hcl, hc0 with
        | [a], _, hc0 => exact hc0 y hy
    · rcases (by omega : i = 0 ∨ i = 1) with rfl | rfl
      · match cs, hcl with
        | [], _ => cases hy
      · match cs, hcl with
        | [a], _ => cases hy; exact ⟨r, r1, r2, r3, rfl, ch, W, by omega, hr1 rfl⟩
  · rintro ρ S' ⟨hd, cs, z13, z14, hS, hcl, hc0, hc1, rfl⟩
    match cs, hcl with
    | [y0, y1], _ =>
    obtain ⟨r, r1, r2, r3, rfl, ch, W, re, hv⟩ := hc0 y0 rfl
    obtain ⟨r', r1', r2', r3', rfl, ch', W', re', hv'⟩ := hc1 y1 rfl
    clear hc0 hc1
    unfold rd_Lright_4
    unfold dFrz
    refine ⟨L, _, rfl, hS, ?_⟩
    walk_at "dg4"
    have hdl : Dk S (sdel S' L) p (n + 57) := by
      refine ⟨?_, fun q x hq e => ?_⟩
      · obtain ⟨x, y, w, hx, hr⟩ := hd.1
        exact ⟨x, y, w, by unfold sdel; rw [if_neg pL]; exact hx, hr⟩
      · have : q ≠ L := fun z => by rw [z, hL0] at e; cases e
        unfold sdel; rw [if_neg this]; exact hd.2 q x hq e
    obtain ⟨RC, hRC⟩ : ∃ x, x = D.lst [D.lst [r.d, r1.d, r2.d, r3.d], D.lst [r'.d, r1'.d, r2'.d, r3'.d]] := ⟨_, rfl⟩
    rw [← hRC]
    refine ⟨fun i ρ S' => Dk S S' p (n + 57 + i) ∧ ∃ z11 z13 z14 z15 z16 z17 z18 z19, ρ = [some (D.obj p), some (D.lst [D.int b, D.int c, D.int d]), none, some (D.lst [D.int s, D.int t, D.int u]), none,
      some (D.int e), some (encR (rim b e s)), some (D.lst [encR q0, encR q1]), some (D.lst [encR v0, encR v1]), none,
      some (D.lst [D.tup (List.map D.int ra.fs), D.tup (List.map D.int rb.fs)]), z11, some RC, z13, z14, z15, z16, z17, z18, z19, none, none], ⟨hdl, _, _, _, _, _, _, _, _, rfl⟩, ?_, ?_⟩
    · rintro i dd ρ S1 hdd ⟨hd, z11, z13, z14, z15, z16, z17, z18, z19, rfl⟩
      have hi : i < 2 := (List.getElem?_eq_some_iff.mp hdd).1
      obtain ⟨v, o, o1, o2, o3, rfl, sv, ho, Wo, oe, hvo⟩ : ∃ (v : Rat) (o o1 o2 o3 : Rw), dd = .tup [encR v, .lst [o.d, o1.d, o2.d, o3.d]] ∧ Sz 40 v ∧ Chn b c d s t u o o1 o2 o3 ∧ Wh b s o ∧ o.e ≤ 2 ∧ (o.lo b ≤ v ∧ v ≤ o.hi b) := by
        rcases (by omega : i = 0 ∨ i = 1) with rfl | rfl
        · cases hdd; exact ⟨v0, r, r1, r2, r3, rfl, sx0, ch, W, re, hv⟩
        · cases hdd; exact ⟨v1, r', r1', r2', r3', rfl, sx1, ch', W', re', hv'⟩
      have w := Chn.wh C Wo oe ho
      clear hdd hS
      have hvo : o.Has b v := hvo
      have hv1 : o1.Has c v := ⟨Rat.le_trans w.l1.1 hvo.1, Rat.le_trans hvo.2 w.l1.2⟩
      have hv2 : o2.Has d v := ⟨Rat.le_trans w.l2.1 hv1.1, Rat.le_trans hv1.2 w.l2.2⟩
      have hv3 : o3.Has b v := ⟨Rat.le_trans w.l3.1 hv2.1, Rat.le_trans hv2.2 w.l3.2⟩
      refine ⟨_, rfl, ?_⟩
      walk_at "dg4"
      refine ⟨fun j ρ S' => S' = S1 ∧ ∃ z14 z16 z17, ρ = [some (D.obj p), some (D.lst [D.int b, D.int c, D.int d]), none, some (D.lst [D.int s, D.int t, D.int u]), none,
        some (D.int e), some (encR (rim b e s)), some (D.lst [encR q0, encR q1]), some (D.lst [encR v0, encR v1]), none,
        some (D.lst [D.tup (List.map D.int ra.fs), D.tup (List.map D.int rb.fs)]), some (encR v), some RC, z13, z14, some (.lst [o.d, o1.d, o2.d, o3.d]), z16, z17, z18, z19, none, none], ⟨rfl, _, _, _, rfl⟩, ?_, ?_⟩
      · rintro j dd ρ S' hdd ⟨rfl, z14, z16, z17, rfl⟩
        obtain ⟨x, hx, rfl⟩ := enumD_get hdd
        have hj : j < 4 := (List.getElem?_eq_some_iff.mp hx).1
        refine ⟨_, rfl, ?_⟩
        unfold rd_Lright_1
        walk_at "dg4"
        rcases (by omega : j = 0 ∨ j = 1 ∨ j = 2 ∨ j = 3) with rfl | rfl | rfl | rfl
        · cases hx
          rw [show atI [D.int b, D.int c, D.int d] ((0 + ((0 : Nat) : Int)) % 3) = some (D.int b) from rfl, show atI [o.d, o1.d, o2.d, o3.d] (if 0 + ((0 : Nat) : Int) - 1 > 0 then 0 + ((0 : Nat) : Int) - 1 else 0) = some o.d from rfl]
          dsimp only
          refine ⟨b, o, v, rfl, w.w.ok, sv.mono (by decide), ?_⟩
          rw [decide_eq_true hvo]
          walk_at "dg4"
          exact ⟨_, _, _, rfl⟩
        · cases hx
          rw [show atI [D.int b, D.int c, D.int d] ((0 + ((1 : Nat) : Int)) % 3) = some (D.int c) from rfl, show atI [o.d, o1.d, o2.d, o3.d] (if 0 + ((1 : Nat) : Int) - 1 > 0 then 0 + ((1 : Nat) : Int) - 1 else 0) = some o.d from rfl]
          dsimp only
          refine ⟨c, o1, v, rfl, w.w1.ok, sv.mono (by decide), ?_⟩
          rw [decide_eq_true hv1]
          walk_at "dg4"
          rw [show atI [D.int b, D.int c, D.int d] (0 + ((1 : Nat) : Int) - 1) = some (D.int b) from rfl]
          dsimp only
          refine ⟨b, c, o, o1, s, t, rfl, w.w, C.c0, C.c1, C.t0, C.t1, C.fit1 Wo oe, ho.h1, ?_⟩
          walk_at "dg4"
          exact ⟨_, _, _, rfl⟩
        · cases hx
          rw [show atI [D.int b, D.int c, D.int d] ((0 + ((2 : Nat) : Int)) % 3) = some (D.int d) from rfl, show atI [o.d, o1.d, o2.d, o3.d] (if 0 + ((2 : Nat) : Int) - 1 > 0 then 0 + ((2 : Nat) : Int) - 1 else 0) = some o1.d from rfl]
          dsimp only
          refine ⟨d, o2, v, rfl, w.w2.ok, sv.mono (by decide), ?_⟩
          rw [decide_eq_true hv2]
          walk_at "dg4"
          rw [show atI [D.int b, D.int c, D.int d] (0 + ((2 : Nat) : Int) - 1) = some (D.int c) from rfl]
          dsimp only
          refine ⟨c, d, o1, o2, t, u, rfl, w.w1, C.d0, C.d1, C.u0, C.u1, C.fit2 Wo oe ho.h1, ho.h2, ?_⟩
          walk_at "dg4"
          exact ⟨_, _, _, rfl⟩
        · cases hx
          rw [show atI [D.int b, D.int c, D.int d] ((0 + ((3 : Nat) : Int)) % 3) = some (D.int b) from rfl, show atI [o.d, o1.d, o2.d, o3.d] (if 0 + ((3 : Nat) : Int) - 1 > 0 then 0 + ((3 : Nat) : Int) - 1 else 0) = some o2.d from rfl]
          dsimp only
          refine ⟨b, o3, v, rfl, w.w3.ok, sv.mono (by decide), ?_⟩
          rw [decide_eq_true hv3]
          walk_at "dg4"
          rw [show atI [D.int b, D.int c, D.int d] (0 + ((3 : Nat) : Int) - 1) = some (D.int d) from rfl]
          dsimp only
          refine ⟨d, b, o2, o3, u, s, rfl, w.w2, C.b0, C.b1, C.s0, C.s1, C.fit3 Wo oe ho.h1 ho.h2, ho.h3, ?_⟩
          walk_at "dg4"
          exact ⟨_, _, _, rfl⟩
      · rintro ρ S' ⟨rfl, z14, z16, z17, rfl⟩
        unfold rd_Lright_2
        walk_at "dg4"
        refine ⟨b, o, o3, rfl, w.w.ok, w.w3.ok, ?_⟩
        rw [ordD_non.mpr ⟨Rat.le_trans hvo.1 hv3.2, Rat.le_trans hv3.1 hvo.2⟩]
        walk_at "dg4"
        refine ⟨o, rfl, ?_⟩
        walk_at "dg4"
        refine takeK hd (by decide) (by decide) (by omega +splitDisjunctions) fun y4 S2 _ _ hd2 => ?_
        walk_at "dg4"
        refine ⟨o, _, rfl, ?_⟩
        refine ⟨b, c, d, s, t, u, _, rfl, C, Wo.cut _, oe, hd2.2 _ _ np ht, fun x1 x2 x3 S3 chx kp => ?_⟩
        have px := ho.pre chx
        have p0 : ∀ K, (o.cut K).fs <+: o.fs := fun K => cut_pre
        have p0 := p0 (↑o.fs.length - o.e - 1 - y4)
        generalize o.cut (↑o.fs.length - o.e - 1 - y4) = oc at *
        have hd3 := hd2.kp kp
        walk_at "dg4"
        have ne : ∀ (x q : Rw), x.fs <+: q.fs → dEqB (.tup (x.fs.map D.int)) (.tup (dcut (q.fs.map D.int) none (some ((x.fs.map D.int).length : Int)))) = some true := fun x q hp => by
          rw [dcut_take (by omega)]
          have : (q.fs.map D.int).take ((x.fs.map D.int).length : Int).toNat = x.fs.map D.int := by
            rw [← List.map_take, List.length_map, Int.toNat_natCast, ← List.prefix_iff_eq_take.mp hp]
          rw [this]
          have e0 : dEqB (D.tup (x.fs.map D.int)) (D.tup (x.fs.map D.int)) = some (decide (x.fs = x.fs)) := eqB_tints x.fs x.fs
          rw [e0, decide_eq_true rfl]
        refine lc_st (fun _ y => y = .bl false) (fun _ S' => S' = S3) (by simp [zipD]) rfl (fun k dd S' hdd hS => ?_) fun ys S5 hl hy hS => ?_
        · subst hS
          obtain ⟨x, q, rfl, hp⟩ : ∃ x q : Rw, dd = .tup [x.d, q.d] ∧ x.fs <+: q.fs := by
            have hk : k < 4 := (List.getElem?_eq_some_iff.mp hdd).1
            rcases (by omega : k = 0 ∨ k = 1 ∨ k = 2 ∨ k = 3) with rfl | rfl | rfl | rfl
            · cases hdd; exact ⟨_, _, rfl, p0⟩
            · cases hdd; exact ⟨_, _, rfl, px.1⟩
            · cases hdd; exact ⟨_, _, rfl, px.2.1⟩
            · cases hdd; exact ⟨_, _, rfl, px.2.2⟩
          refine ⟨_, rfl, fun Q hq => ?_⟩
          walk_at "dg4"
          rw [ne x q hp]
          exact hq _ _ rfl rfl
        · subst hS
          match ys, hl with
          | [y0, y1, y2, y3], _ =>
          have e0 := hy 0 y0 rfl
          have e1 := hy 1 y1 rfl
          have e2 := hy 2 y2 rfl
          have e3 := hy 3 y3 rfl
          subst e0 e1 e2 e3
          walk_at "dg4"
          exact ⟨hd3, _, _, _, _, _, _, _, _, rfl⟩
    · rintro ρ S1 ⟨hd, z11, z13, z14, z15, z16, z17, z18, z19, rfl⟩
      have w := Chn.wh C W re ch
      have w' := Chn.wh C W' re' ch'
      have hv : r.Has b v0 := hv
      have hv' : r'.Has b v1 := hv'
      have h1 : r1.Has c v0 := ⟨Rat.le_trans w.l1.1 hv.1, Rat.le_trans hv.2 w.l1.2⟩
      have h2 : r2.Has d v0 := ⟨Rat.le_trans w.l2.1 h1.1, Rat.le_trans h1.2 w.l2.2⟩
      have h3 : r3.Has b v0 := ⟨Rat.le_trans w.l3.1 h2.1, Rat.le_trans h2.2 w.l3.2⟩
      have h1' : r1'.Has c v1 := ⟨Rat.le_trans w'.l1.1 hv'.1, Rat.le_trans hv'.2 w'.l1.2⟩
      have h2' : r2'.Has d v1 := ⟨Rat.le_trans w'.l2.1 h1'.1, Rat.le_trans h1'.2 w'.l2.2⟩
      have h3' : r3'.Has b v1 := ⟨Rat.le_trans w'.l3.1 h2'.1, Rat.le_trans h2'.2 w'.l3.2⟩
      have st4 : ∀ (L : List D) {z2 z4 z7 z9 z13 z14 z15 z16 z17 z18 z19 z20 : Option D} {z0 z3 z5 z6 z8 z10 z11 : Option D}, ((L = [.non] ∧ v0 = v1) ∨ (L = [.non, .int 1] ∧ v1 < v0) ∨ (L = [.non, .int (-1)] ∧ v0 < v1)) →
          LcB (Tgt.nm 16) dYes (dOp (dIn false) (dCB sp_order_of (dCons (dOp dIx (dVar 1) (dOp dMod (dVar 16) (dC (.int 3)))) (dCons (dOp dIx (dOp dIx (dVar 12) (dC (.int 0))) (dVar 16)) (dCons (dOp dIx (dOp dIx (dVar 12) (dC (.int 1))) (dVar 16)) dNil)))) (dVar 21))
            (fun x S1 => cAll [x] S1 P) (rng 0 (Int.toNat 4)) [z0, some (D.lst [D.int b, D.int c, D.int d]), z2, z3, z4, z5, z6, z7, z8, z9, z10, z11, some RC, z13, z14, z15, z16, z17, z18, z19, z20, some (.lst L)] S1 := by
        intro L z2 z4 z7 z9 z13 z14 z15 z16 z17 z18 z19 z20 z0 z3 z5 z6 z8 z10 z11 hL
        refine all_st (fun _ S' => S' = S1) (by rw [rng_len]; decide) rfl (fun j dd S' hdd hS => ?_) fun S' hS => ?_
        · subst hS
          obtain ⟨hj, rfl⟩ := rng_get hdd
          have hj : j < 4 := hj
          obtain ⟨B, q, q', hB, hq, hq', ok, ok', hh, hh'⟩ : ∃ (B : Int) (q q' : Rw), atI [D.int b, D.int c, D.int d] ((0 + (j : Int)) % 3) = some (.int B) ∧ atI [r.d, r1.d, r2.d, r3.d] (0 + (j : Int)) = some q.d ∧ atI [r'.d, r1'.d, r2'.d, r3'.d] (0 + (j : Int)) = some q'.d ∧ q.Ok B ∧ q'.Ok B ∧ q.Has B v0 ∧ q'.Has B v1 := by
            rcases (by omega : j = 0 ∨ j = 1 ∨ j = 2 ∨ j = 3) with rfl | rfl | rfl | rfl
            · exact ⟨_, _, _, rfl, rfl, rfl, w.w.ok, w'.w.ok, hv, hv'⟩
            · exact ⟨_, _, _, rfl, rfl, rfl, w.w1.ok, w'.w1.ok, h1, h1'⟩
            · exact ⟨_, _, _, rfl, rfl, rfl, w.w2.ok, w'.w2.ok, h2, h2'⟩
            · exact ⟨_, _, _, rfl, rfl, rfl, w.w3.ok, w'.w3.ok, h3, h3'⟩
          refine ⟨_, rfl, fun Q hQ => ?_⟩
          subst hRC
          walk_at "dg4"
          rw [hB]
          dsimp only
          rw [hq]
          dsimp only
          rw [hq']
          dsimp only
          refine ⟨B, q, q', rfl, ok, ok', ?_⟩
          have oc := ord_cases hh hh'
          clear hdd
          rcases oc with e | ⟨e, g⟩ | ⟨e, g⟩
          · rw [e]
            rcases hL with ⟨rfl, l⟩ | ⟨rfl, l⟩ | ⟨rfl, l⟩
            · exact ⟨rfl, rfl, hQ _ rfl⟩
            · exact ⟨rfl, rfl, hQ _ rfl⟩
            · exact ⟨rfl, rfl, hQ _ rfl⟩
          · rw [e]
            rcases hL with ⟨rfl, l⟩ | ⟨rfl, l⟩ | ⟨rfl, l⟩
            · exfalso; grind
            · exact ⟨rfl, rfl, hQ _ rfl⟩
            · exfalso; grind
          · rw [e]
            rcases hL with ⟨rfl, l⟩ | ⟨rfl, l⟩ | ⟨rfl, l⟩
            · exfalso; grind
            · exfalso; grind
            · exact ⟨rfl, rfl, hQ _ rfl⟩
        · subst hS
          exact h _ (hd.2 _ _ np ht)
      walk_at "dg4"
      refine ⟨v0, v1, rfl, sx0.mono (by decide), sx1.mono (by decide), ?_⟩
      obtain ⟨g, hg⟩ : ∃ g, g = (v0 - v1).num := ⟨_, rfl⟩
      rw [show encR (v0 - v1) = D.tup [.int g, .int ((v0 - v1).den : Int)] by rw [hg]; rfl]
      walk_at "dg4"
      by_cases g0 : g = 0
      · simp only [g0, reduceIte]
        have : v0 - v1 = 0 := Rat.num_eq_zero.mp (hg ▸ g0)
        exact ⟨by decide, by decide, st4 _ (.inl ⟨rfl, by grind⟩)⟩
      · simp only [g0, reduceIte]
        have n2 : ¬ (v0 - v1 = 0) := fun z => g0 (hg ▸ Rat.num_eq_zero.mpr z)
        have nn2 := Rat.num_nonneg (q := v0 - v1)
        rw [← hg] at nn2
        by_cases g1 : 0 < g
        · simp only [g1, reduceIte]
          have := nn2.mp (by omega)
          exact ⟨by decide, by decide, st4 _ (.inr (.inl ⟨rfl, by grind⟩))⟩
        · simp only [g1, reduceIte]
          have : ¬ (0 ≤ v0 - v1) := fun z => by have := nn2.mpr z; omega
          exact ⟨by decide, by decide, st4 _ (.inr (.inr ⟨rfl, by grind⟩))⟩
theorem vc_law : goal_law := by
  rintro x0 S P ⟨ns, er, hl, ht, h⟩
  cases er
  unfold rd_law
  walk_at "dg4"
  rw [List.length_map]
  have e1 : (if (ns.length : Int) < 1 then (ns.length : Int) else 1) ≤ 1 ∧ 0 ≤ (if (ns.length : Int) < 1 then (ns.length : Int) else 1) := by split <;> omega
  generalize (if (ns.length : Int) < 1 then (ns.length : Int) else 1) = cc at *
  refine ⟨by omega, by omega, all_st (fun _ S' => S' (CT.at_ 40) = some (.tab lamq)) (by rw [rng_len]; omega) ht (fun i dd S2 hdd ht2 => ?_) fun S2 _ => h S2⟩
  obtain ⟨hi, rfl⟩ := rng_get hdd
  refine ⟨_, rfl, fun Q hq => ?_⟩
  walk_at "dg4"
  refine ⟨ns, _, rfl, by omega, by omega, fun p S3 hp hd3 => ?_⟩
  have np : CT.at_ 40 ≠ p := fun z => by rw [z, hp] at ht2; cases ht2
  have ht3 : S3 (CT.at_ 40) = some (.tab lamq) := by rw [hd3.other np]; exact ht2
  exact ⟨p, 0, rfl, hd3.box, by decide, ht3, fun S4 ht4 => hq S4 ht4⟩
end K95

namespace K95
local macro_rules | `(tactic| omega) => `(tactic| first | assumption | lia)
@[elab_as_elim] theorem us_1 {α : Type} {p : List α → Prop} (us : List α) (hl : us.length = 1) (h : ∀ a0, p [a0]) : p us := by
  match us, hl with
  | [a0], _ => exact h a0
@[elab_as_elim] theorem us_2 {α : Type} {p : List α → Prop} (us : List α) (hl : us.length = 2) (h : ∀ a0 a1, p [a0, a1]) : p us := by
  match us, hl with
  | [a0, a1], _ => exact h a0 a1
@[elab_as_elim] theorem us_3 {α : Type} {p : List α → Prop} (us : List α) (hl : us.length = 3) (h : ∀ a0 a1 a2, p [a0, a1, a2]) : p us := by
  match us, hl with
  | [a0, a1, a2], _ => exact h a0 a1 a2
@[elab_as_elim] theorem us_4 {α : Type} {p : List α → Prop} (us : List α) (hl : us.length = 4) (h : ∀ a0 a1 a2 a3, p [a0, a1, a2, a3]) : p us := by
  match us, hl with
  | [a0, a1, a2, a3], _ => exact h a0 a1 a2 a3
@[elab_as_elim] theorem us_5 {α : Type} {p : List α → Prop} (us : List α) (hl : us.length = 5) (h : ∀ a0 a1 a2 a3 a4, p [a0, a1, a2, a3, a4]) : p us := by
  match us, hl with
  | [a0, a1, a2, a3, a4], _ => exact h a0 a1 a2 a3 a4
@[elab_as_elim] theorem us_6 {α : Type} {p : List α → Prop} (us : List α) (hl : us.length = 6) (h : ∀ a0 a1 a2 a3 a4 a5, p [a0, a1, a2, a3, a4, a5]) : p us := by
  match us, hl with
  | [a0, a1, a2, a3, a4, a5], _ => exact h a0 a1 a2 a3 a4 a5
@[elab_as_elim] theorem us_7 {α : Type} {p : List α → Prop} (us : List α) (hl : us.length = 7) (h : ∀ a0 a1 a2 a3 a4 a5 a6, p [a0, a1, a2, a3, a4, a5, a6]) : p us := by
  match us, hl with
  | [a0, a1, a2, a3, a4, a5, a6], _ => exact h a0 a1 a2 a3 a4 a5 a6
@[elab_as_elim] theorem us_8 {α : Type} {p : List α → Prop} (us : List α) (hl : us.length = 8) (h : ∀ a0 a1 a2 a3 a4 a5 a6 a7, p [a0, a1, a2, a3, a4, a5, a6, a7]) : p us := by
  match us, hl with
  | [a0, a1, a2, a3, a4, a5, a6, a7], _ => exact h a0 a1 a2 a3 a4 a5 a6 a7
open PySem PySem.Spec PyProof.Rows L2 DL Lb
def topS (i : Nat) : Stmt := PySem.Challenge.pw_firstfigures_k95_whole_there_and_back.main.body.getD i (.Pass ⟨0, 0, 0, 0⟩)
abbrev s_common : Stmt := topS 1
theorem sc_common : FnScope ["one", "other"] ["one", "other"] (defScope s_common) := ⟨rfl, rfl, rfl, by decide +kernel, rfl, by decide +kernel, by decide +kernel⟩
abbrev s_frac : Stmt := topS 2
theorem sc_frac : FnScope ["top", "bottom", "by"] ["top", "bottom"] (defScope s_frac) := ⟨rfl, rfl, rfl, by decide +kernel, rfl, by decide +kernel, by decide +kernel⟩
abbrev s_plus : Stmt := topS 3
theorem sc_plus : FnScope ["one", "other"] ["one", "other"] (defScope s_plus) := ⟨rfl, rfl, rfl, by decide +kernel, rfl, by decide +kernel, by decide +kernel⟩
abbrev s_minus : Stmt := topS 4
theorem sc_minus : FnScope ["one", "other"] ["one", "other"] (defScope s_minus) := ⟨rfl, rfl, rfl, by decide +kernel, rfl, by decide +kernel, by decide +kernel⟩
abbrev s_times : Stmt := topS 5
theorem sc_times : FnScope ["one", "other"] ["one", "other"] (defScope s_times) := ⟨rfl, rfl, rfl, by decide +kernel, rfl, by decide +kernel, by decide +kernel⟩
abbrev s_is_below : Stmt := topS 6
theorem sc_is_below : FnScope ["one", "other"] ["one", "other"] (defScope s_is_below) := ⟨rfl, rfl, rfl, by decide +kernel, rfl, by decide +kernel, by decide +kernel⟩
abbrev s_power : Stmt := topS 7
theorem sc_power : FnScope ["base", "many", "found", "turn"] ["base", "many"] (defScope s_power) := ⟨rfl, rfl, rfl, by decide +kernel, rfl, by decide +kernel, by decide +kernel⟩
abbrev s_least_power : Stmt := topS 9
theorem sc_least_power : FnScope ["base", "room", "need", "lag"] ["base", "room", "need"] (defScope s_least_power) := ⟨rfl, rfl, rfl, by decide +kernel, rfl, by decide +kernel, by decide +kernel⟩
abbrev s_known_to : Stmt := topS 13
theorem sc_known_to : FnScope ["row", "begin", "most", "figures"] ["row"] (defScope s_known_to) := ⟨rfl, rfl, rfl, by decide +kernel, rfl, by decide +kernel, by decide +kernel⟩
abbrev s_whole_of : Stmt := topS 14
theorem sc_whole_of : FnScope ["base", "figures", "found", "figure"] ["base", "figures"] (defScope s_whole_of) := ⟨rfl, rfl, rfl, by decide +kernel, rfl, by decide +kernel, by decide +kernel⟩
abbrev s_worth_of : Stmt := topS 15
theorem sc_worth_of : FnScope ["base", "row"] ["base", "row"] (defScope s_worth_of) := ⟨rfl, rfl, rfl, by decide +kernel, rfl, by decide +kernel, by decide +kernel⟩
abbrev s_tail_of : Stmt := topS 16
theorem sc_tail_of : FnScope ["base", "row"] ["base", "row"] (defScope s_tail_of) := ⟨rfl, rfl, rfl, by decide +kernel, rfl, by decide +kernel, by decide +kernel⟩
abbrev s_span_of : Stmt := topS 17
theorem sc_span_of : FnScope ["base", "row", "worth", "tail"] ["base", "row"] (defScope s_span_of) := ⟨rfl, rfl, rfl, by decide +kernel, rfl, by decide +kernel, by decide +kernel⟩
abbrev s_stands_for : Stmt := topS 18
theorem sc_stands_for : FnScope ["base", "row", "number", "least", "greatest"] ["base", "row", "number"] (defScope s_stands_for) := ⟨rfl, rfl, rfl, by decide +kernel, rfl, by decide +kernel, by decide +kernel⟩
abbrev s_cut_of : Stmt := topS 19
theorem sc_cut_of : FnScope ["row", "place", "begin", "most", "figures"] ["row", "place"] (defScope s_cut_of) := ⟨rfl, rfl, rfl, by decide +kernel, rfl, by decide +kernel, by decide +kernel⟩
abbrev s_order_of : Stmt := topS 20
theorem sc_order_of : FnScope ["base", "one", "other", "mine", "its"] ["base", "one", "other"] (defScope s_order_of) := ⟨rfl, rfl, rfl, by decide +kernel, rfl, by decide +kernel, by decide +kernel⟩
abbrev s_raised : Stmt := topS 22
theorem sc_raised : FnScope ["number"] ["number"] (defScope s_raised) := ⟨rfl, rfl, rfl, by decide +kernel, rfl, by decide +kernel, by decide +kernel⟩
abbrev s_figures_between : Stmt := topS 23
theorem sc_figures_between : FnScope ["base", "own", "least", "most", "begin", "top", "figures", "scale", "spread", "ahead", "low", "high"] ["base", "own", "least", "most"] (defScope s_figures_between) := ⟨rfl, rfl, rfl, by decide +kernel, rfl, by decide +kernel, by decide +kernel⟩
abbrev s_based_right : Stmt := topS 25
theorem sc_based_right : FnScope ["base", "other", "row", "own", "least", "greatest"] ["base", "other", "row", "own"] (defScope s_based_right) := ⟨rfl, rfl, rfl, by decide +kernel, rfl, by decide +kernel, by decide +kernel⟩
abbrev s_Teller_init : Stmt := inClass (topS 26) 0
theorem sc_Teller_init : FnScope ["self", "base", "other", "row", "begin", "most"] ["self", "base", "other", "row", "begin", "most"] (defScope s_Teller_init) := ⟨rfl, rfl, rfl, by decide +kernel, rfl, by decide +kernel, by decide +kernel⟩
abbrev s_Teller_row : Stmt := inClass (topS 26) 1
theorem sc_Teller_row : FnScope ["self"] ["self"] (defScope s_Teller_row) := ⟨rfl, rfl, rfl, by decide +kernel, rfl, by decide +kernel, by decide +kernel⟩
abbrev s_Teller_next_figure : Stmt := inClass (topS 26) 2
theorem sc_Teller_next_figure : FnScope ["self", "seen", "some"] ["self"] (defScope s_Teller_next_figure) := ⟨rfl, rfl, rfl, by decide +kernel, rfl, by decide +kernel, by decide +kernel⟩
abbrev s_Teller_step : Stmt := inClass (topS 26) 3
theorem sc_Teller_step : FnScope ["self", "to", "figure"] ["self", "to"] (defScope s_Teller_step) := ⟨rfl, rfl, rfl, by decide +kernel, rfl, by decide +kernel, by decide +kernel⟩
abbrev s_based_run : Stmt := topS 27
theorem sc_based_run : FnScope ["base", "other", "row", "begin", "most", "to", "teller"] ["base", "other", "row", "begin", "most", "to"] (defScope s_based_run) := ⟨rfl, rfl, rfl, by decide +kernel, rfl, by decide +kernel, by decide +kernel⟩
abbrev s_reach_by : Stmt := topS 28
theorem sc_reach_by : FnScope ["base", "begin", "most"] ["base", "begin", "most"] (defScope s_reach_by) := ⟨rfl, rfl, rfl, by decide +kernel, rfl, by decide +kernel, by decide +kernel⟩
abbrev s_based_fits : Stmt := topS 29
theorem sc_based_fits : FnScope ["base", "other", "source", "begin", "most"] ["base", "other", "source", "begin", "most"] (defScope s_based_fits) := ⟨rfl, rfl, rfl, by decide +kernel, rfl, by decide +kernel, by decide +kernel⟩
abbrev s_told_read : Stmt := topS 30
theorem sc_told_read : FnScope ["base", "other", "mine", "most", "place", "need"] ["base", "other", "mine", "most", "place"] (defScope s_told_read) := ⟨rfl, rfl, rfl, by decide +kernel, rfl, by decide +kernel, by decide +kernel⟩
abbrev s_Lcell_at : Stmt := topS 32
theorem sc_Lcell_at : FnScope ["_law_script", "_law_k"] ["_law_script", "_law_k"] (defScope s_Lcell_at) := ⟨rfl, rfl, rfl, by decide +kernel, rfl, by decide +kernel, by decide +kernel⟩
abbrev s_Lbox : Stmt := topS 33
theorem sc_Lbox : FnScope ["_law_script", "_law_k", "_law_cell"] ["_law_script", "_law_k"] (defScope s_Lbox) := ⟨rfl, rfl, rfl, by decide +kernel, rfl, by decide +kernel, by decide +kernel⟩
abbrev s_Ltake : Stmt := topS 34
theorem sc_Ltake : FnScope ["_law_box_here", "_law_size", "_law_found", "_law_once", "_law_twice"] ["_law_box_here", "_law_size"] (defScope s_Ltake) := ⟨rfl, rfl, rfl, by decide +kernel, rfl, by decide +kernel, by decide +kernel⟩
abbrev s_Lof : Stmt := topS 35
theorem sc_Lof : FnScope ["_law_box_here", "_law_some"] ["_law_box_here", "_law_some"] (defScope s_Lof) := ⟨rfl, rfl, rfl, by decide +kernel, rfl, by decide +kernel, by decide +kernel⟩
abbrev s_Lfrac : Stmt := topS 36
theorem sc_Lfrac : FnScope ["_law_top", "_law_under", "_law_big", "_law_small", "_law_sign"] ["_law_top", "_law_under"] (defScope s_Lfrac) := ⟨rfl, rfl, rfl, by decide +kernel, rfl, by decide +kernel, by decide +kernel⟩
abbrev s_Lless : Stmt := topS 37
theorem sc_Lless : FnScope ["_law_first", "_law_second"] ["_law_first", "_law_second"] (defScope s_Lless) := ⟨rfl, rfl, rfl, by decide +kernel, rfl, by decide +kernel, by decide +kernel⟩
abbrev s_Lby : Stmt := topS 38
theorem sc_Lby : FnScope ["_law_first", "_law_second"] ["_law_first", "_law_second"] (defScope s_Lby) := ⟨rfl, rfl, rfl, by decide +kernel, rfl, by decide +kernel, by decide +kernel⟩
abbrev s_Lbelow : Stmt := topS 39
theorem sc_Lbelow : FnScope ["_law_first", "_law_second"] ["_law_first", "_law_second"] (defScope s_Lbelow) := ⟨rfl, rfl, rfl, by decide +kernel, rfl, by decide +kernel, by decide +kernel⟩
abbrev s_Lpower : Stmt := topS 40
theorem sc_Lpower : FnScope ["_law_b", "_law_many", "_law_found", "_law_turn"] ["_law_b", "_law_many"] (defScope s_Lpower) := ⟨rfl, rfl, rfl, by decide +kernel, rfl, by decide +kernel, by decide +kernel⟩
abbrev s_Lmost : Stmt := topS 41
theorem sc_Lmost : FnScope ["_law_box_here", "_law_b", "_law_half"] ["_law_box_here", "_law_b"] (defScope s_Lmost) := ⟨rfl, rfl, rfl, by decide +kernel, rfl, by decide +kernel, by decide +kernel⟩
abbrev s_Lsigns : Stmt := topS 42
theorem sc_Lsigns : FnScope ["_law_box_here", "_law_b", "_law_start", "_law_top", "_law_number", "_law_count", "_law_found", "_law_rest", "_law_place", "_law_unit", "_law_some", "_law_off", "_law_figure", "_law_left"] ["_law_box_here", "_law_b", "_law_start", "_law_top", "_law_number", "_law_count"] (defScope s_Lsigns) := ⟨rfl, rfl, rfl, by decide +kernel, rfl, by decide +kernel, by decide +kernel⟩
abbrev s_Lon : Stmt := topS 43
theorem sc_Lon : FnScope ["_law_b", "_law_c", "_law_line", "_law_top", "_law_start", "_law_turn"] ["_law_b", "_law_c", "_law_line", "_law_top"] (defScope s_Lon) := ⟨rfl, rfl, rfl, by decide +kernel, rfl, by decide +kernel, by decide +kernel⟩
abbrev s_Lis_far : Stmt := topS 44
theorem sc_Lis_far : FnScope ["_law_b", "_law_c", "_law_line", "_law_found", "_law_place"] ["_law_b", "_law_c", "_law_line", "_law_found"] (defScope s_Lis_far) := ⟨rfl, rfl, rfl, by decide +kernel, rfl, by decide +kernel, by decide +kernel⟩
abbrev s_Lchain : Stmt := topS 45
theorem sc_Lchain : FnScope ["_law_bases", "_law_tops", "_law_line", "_law_found", "_law_at"] ["_law_bases", "_law_tops", "_law_line"] (defScope s_Lchain) := ⟨rfl, rfl, rfl, by decide +kernel, rfl, by decide +kernel, by decide +kernel⟩
abbrev s_Lright : Stmt := topS 46
theorem sc_Lright : FnScope ["_law_box_here", "_law_bases", "_law_turn", "_law_tops", "_law_b", "_law_start", "_law_reach", "_law_parts", "_law_numbers", "_law_part", "_law_signs_here", "_law_number", "_law_chains", "_law_some", "_law_line", "_law_rows", "_law_at", "_law_ahead", "_law_short", "_law_full", "_law_gap", "_law_due"] ["_law_box_here"] (defScope s_Lright) := ⟨rfl, rfl, rfl, by decide +kernel, rfl, by decide +kernel, by decide +kernel⟩
abbrev s_law : Stmt := topS 47
theorem sc_law : FnScope ["_law_script", "_law_k"] ["_law_script"] (defScope s_law) := ⟨rfl, rfl, rfl, by decide +kernel, rfl, by decide +kernel, by decide +kernel⟩
/-- the built-in names that the top leaves as they are -/
structure Tx [CT] (K : PySem.W.Frag) (mg : Str → Option Value) : Prop where
  k_Teller : Cls K (CT.at_ 1)
  a_Teller_own_base : NoAttr K (CT.at_ 1) "own_base"
  a_Teller_own_begin : NoAttr K (CT.at_ 1) "own_begin"
  a_Teller_own_figures : NoAttr K (CT.at_ 1) "own_figures"
  a_Teller_own_most : NoAttr K (CT.at_ 1) "own_most"
  a_Teller_own_other : NoAttr K (CT.at_ 1) "own_other"
  a_Teller_own_read : NoAttr K (CT.at_ 1) "own_read"
  a_Teller_own_row : NoAttr K (CT.at_ 1) "own_row"
  n_abs : mg "abs" = none
  n_all : mg "all" = none
  n_any : mg "any" = none
  n_enumerate : mg "enumerate" = none
  n_int : mg "int" = none
  n_len : mg "len" = none
  n_list : mg "list" = none
  n_max : mg "max" = none
  n_min : mg "min" = none
  n_range : mg "range" = none
  n_tuple : mg "tuple" = none
  n_zip : mg "zip" = none
  c_ABOVE : ∃ t, mg "ABOVE" = some (.int 1 t)
  c_BELOW : ∃ t, mg "BELOW" = some (.int (-1) t)
section
variable [CT]
variable {P : Program} {w : World} {K : PySem.W.Frag} {mg : Str → Option Value} {base : Heap}
theorem ok_common {f : Addr} {fd : FuncData} (F : Fun K "common" "common" s_common f fd) (T : Tx K mg) (vc : goal_common) (len : ∀ ds S P, sp_common ds S P → ds.length = 2)
     : FnD P w K mg base 1 f fd ["one", "other"] sp_common :=
  fn_d F sc_common len fun cdv A outer s H E hr => ⟨rd_common, (have nd := sc_common.nd
  (jss_cons
  (js_while PassesOwn.never (jt_gt (je_var 1) je_int) (jss_one
  (js_par 0 1 rfl nd rfl rfl (by decide) rfl rfl (ja_cons (je_var 1) (ja_cons (je_mod (je_var 0) (je_var 1)) ja_nil)) (by rfl)))) (jss_one
  (js_ret (je_var 0))))), Vs2 len vc⟩
theorem ok_frac {f : Addr} {fd : FuncData} {dvs : List V} {kws : List (Str × V)} (F : FunD K "frac" "frac" (defArgs s_frac) (defBody s_frac) (defScope s_frac) dvs kws f fd) (T : Tx K mg) (vc : goal_frac) (len : ∀ ds S P, sp_frac ds S P → ds.length = 2)
    {f_common : Addr} {fd_common : FuncData} (G_common : Does P w K mg base 1 "common" ["one", "other"] f_common fd_common sp_common) : FnD P w K mg base 2 f fd ["top", "bottom"] sp_frac :=
  fn_dD F sc_frac len fun cdv A outer s H E hr => ⟨rd_frac, (have nd := sc_frac.nd
  (jss_cons
  (js_set 2 nd rfl (by first | exact Or.inl rfl | exact Or.inr rfl) (je_f G_common hr (ja_cons (je_abs T.n_abs (ja_cons (je_var 0) ja_nil)) (ja_cons (je_abs T.n_abs (ja_cons (je_var 1) ja_nil)) ja_nil)))) (jss_cons
  (js_set 2 nd rfl (by first | exact Or.inl rfl | exact Or.inr rfl) (je_ifE (jt_gt (je_var 1) je_int) (je_var 2) (je_neg (je_var 2)))) (jss_one
  (js_ret (je_tup (ja_cons (je_fdiv (je_var 0) (je_var 2)) (ja_cons (je_fdiv (je_var 1) (je_var 2)) ja_nil)))))))), Vs2 len vc⟩
theorem ok_plus {f : Addr} {fd : FuncData} (F : Fun K "plus" "plus" s_plus f fd) (T : Tx K mg) (vc : goal_plus) (len : ∀ ds S P, sp_plus ds S P → ds.length = 2)
    {f_frac : Addr} {fd_frac : FuncData} (G_frac : Does P w K mg base 2 "frac" ["top", "bottom"] f_frac fd_frac sp_frac) : FnD P w K mg base 3 f fd ["one", "other"] sp_plus :=
  fn_d F sc_plus len fun cdv A outer s H E hr => ⟨rd_plus, (have nd := sc_plus.nd
  (jss_one
  (js_ret (je_f G_frac hr (ja_cons (je_add (je_mul (je_ix (je_var 0) je_int) (je_ix (je_var 1) je_int)) (je_mul (je_ix (je_var 1) je_int) (je_ix (je_var 0) je_int))) (ja_cons (je_mul (je_ix (je_var 0) je_int) (je_ix (je_var 1) je_int)) ja_nil)))))), Vs2 len vc⟩
theorem ok_minus {f : Addr} {fd : FuncData} (F : Fun K "minus" "minus" s_minus f fd) (T : Tx K mg) (vc : goal_minus) (len : ∀ ds S P, sp_minus ds S P → ds.length = 2)
    {f_frac : Addr} {fd_frac : FuncData} (G_frac : Does P w K mg base 2 "frac" ["top", "bottom"] f_frac fd_frac sp_frac) : FnD P w K mg base 3 f fd ["one", "other"] sp_minus :=
  fn_d F sc_minus len fun cdv A outer s H E hr => ⟨rd_minus, (have nd := sc_minus.nd
  (jss_one
  (js_ret (je_f G_frac hr (ja_cons (je_sub (je_mul (je_ix (je_var 0) je_int) (je_ix (je_var 1) je_int)) (je_mul (je_ix (je_var 1) je_int) (je_ix (je_var 0) je_int))) (ja_cons (je_mul (je_ix (je_var 0) je_int) (je_ix (je_var 1) je_int)) ja_nil)))))), Vs2 len vc⟩
theorem ok_times {f : Addr} {fd : FuncData} (F : Fun K "times" "times" s_times f fd) (T : Tx K mg) (vc : goal_times) (len : ∀ ds S P, sp_times ds S P → ds.length = 2)
    {f_frac : Addr} {fd_frac : FuncData} (G_frac : Does P w K mg base 2 "frac" ["top", "bottom"] f_frac fd_frac sp_frac) : FnD P w K mg base 3 f fd ["one", "other"] sp_times :=
  fn_d F sc_times len fun cdv A outer s H E hr => ⟨rd_times, (have nd := sc_times.nd
  (jss_one
  (js_ret (je_f G_frac hr (ja_cons (je_mul (je_ix (je_var 0) je_int) (je_ix (je_var 1) je_int)) (ja_cons (je_mul (je_ix (je_var 0) je_int) (je_ix (je_var 1) je_int)) ja_nil)))))), Vs2 len vc⟩
theorem ok_is_below {f : Addr} {fd : FuncData} (F : Fun K "is_below" "is_below" s_is_below f fd) (T : Tx K mg) (vc : goal_is_below) (len : ∀ ds S P, sp_is_below ds S P → ds.length = 2)
     : FnD P w K mg base 1 f fd ["one", "other"] sp_is_below :=
  fn_d F sc_is_below len fun cdv A outer s H E hr => ⟨rd_is_below, (have nd := sc_is_below.nd
  (jss_one
  (js_ret (je_lt (je_mul (je_ix (je_var 0) je_int) (je_ix (je_var 1) je_int)) (je_mul (je_ix (je_var 1) je_int) (je_ix (je_var 0) je_int)))))), Vs2 len vc⟩
theorem ok_power {f : Addr} {fd : FuncData} (F : Fun K "power" "power" s_power f fd) (T : Tx K mg) (vc : goal_power) (len : ∀ ds S P, sp_power ds S P → ds.length = 2)
     : FnD P w K mg base 1 f fd ["base", "many"] sp_power :=
  fn_d F sc_power len fun cdv A outer s H E hr => ⟨rd_power, (have nd := sc_power.nd
  (jss_cons
  (js_set 2 nd rfl (by first | exact Or.inl rfl | exact Or.inr rfl) je_int) (jss_cons
  (js_for PassesOwn.never rfl (ji_range1 T.n_range (ja_cons (je_abs T.n_abs (ja_cons (je_var 1) ja_nil)) ja_nil)) (jg_name 3 nd rfl (by first | exact Or.inl rfl | exact Or.inr rfl)) (jss_one
  (js_imul 2 nd rfl (by first | exact Or.inl rfl | exact Or.inr rfl) (je_var 0)))) (jss_one
  (js_ret (je_ifE (jt_ge (je_var 1) je_int) (je_tup (ja_cons (je_var 2) (ja_cons je_int ja_nil))) (je_tup (ja_cons je_int (ja_cons (je_var 2) ja_nil))))))))), Vs2 len vc⟩
theorem ok_least_power {f : Addr} {fd : FuncData} (F : Fun K "least_power" "least_power" s_least_power f fd) (T : Tx K mg) (vc : goal_least_power) (len : ∀ ds S P, sp_least_power ds S P → ds.length = 3)
    {f_is_below : Addr} {fd_is_below : FuncData} (G_is_below : Does P w K mg base 1 "is_below" ["one", "other"] f_is_below fd_is_below sp_is_below)
    {f_times : Addr} {fd_times : FuncData} (G_times : Does P w K mg base 3 "times" ["one", "other"] f_times fd_times sp_times)
    {f_power : Addr} {fd_power : FuncData} (G_power : Does P w K mg base 1 "power" ["base", "many"] f_power fd_power sp_power) : FnD P w K mg base 4 f fd ["base", "room", "need"] sp_least_power :=
  fn_d F sc_least_power len fun cdv A outer s H E hr => ⟨rd_least_power, (have nd := sc_least_power.nd
  (jss_cons
  (js_set 3 nd rfl (by first | exact Or.inl rfl | exact Or.inr rfl) je_int) (jss_cons
  (js_while PassesOwn.never (jt_val (je_f G_is_below hr (ja_cons (je_f G_times hr (ja_cons (je_f G_power hr (ja_cons (je_var 0) (ja_cons (je_var 3) ja_nil))) (ja_cons (je_tup (ja_cons (je_var 1) (ja_cons je_int ja_nil))) ja_nil))) (ja_cons (je_var 2) ja_nil)))) (jss_one
  (js_iadd 3 nd rfl (by first | exact Or.inl rfl | exact Or.inr rfl) je_int))) (jss_cons
  (js_while PassesOwn.never (jt_not (jt_val (je_f G_is_below hr (ja_cons (je_f G_times hr (ja_cons (je_f G_power hr (ja_cons (je_var 0) (ja_cons (je_sub (je_var 3) je_int) ja_nil))) (ja_cons (je_tup (ja_cons (je_var 1) (ja_cons je_int ja_nil))) ja_nil))) (ja_cons (je_var 2) ja_nil))))) (jss_one
  (js_isub 3 nd rfl (by first | exact Or.inl rfl | exact Or.inr rfl) je_int))) (jss_one
  (js_ret (je_var 3))))))), Vs3 len vc⟩
theorem ok_known_to {f : Addr} {fd : FuncData} (F : Fun K "known_to" "known_to" s_known_to f fd) (T : Tx K mg) (vc : goal_known_to) (len : ∀ ds S P, sp_known_to ds S P → ds.length = 1)
     : FnD P w K mg base 1 f fd ["row"] sp_known_to :=
  fn_d F sc_known_to len fun cdv A outer s H E hr => ⟨rd_known_to, (have nd := sc_known_to.nd
  (jss_cons
  (js_asg (je_var 0) (jg_tup rfl (jgs_cons (jg_name 1 nd rfl (by first | exact Or.inl rfl | exact Or.inr rfl)) (jgs_cons (jg_name 2 nd rfl (by first | exact Or.inl rfl | exact Or.inr rfl)) (jgs_cons (jg_name 3 nd rfl (by first | exact Or.inl rfl | exact Or.inr rfl)) jgs_nil))))) (jss_one
  (js_ret (je_sub (je_len T.n_len (ja_cons (je_var 3) ja_nil)) (je_var 1)))))), Vs1 len vc⟩
theorem ok_whole_of {f : Addr} {fd : FuncData} (F : Fun K "whole_of" "whole_of" s_whole_of f fd) (T : Tx K mg) (vc : goal_whole_of) (len : ∀ ds S P, sp_whole_of ds S P → ds.length = 2)
     : FnD P w K mg base 1 f fd ["base", "figures"] sp_whole_of :=
  fn_d F sc_whole_of len fun cdv A outer s H E hr => ⟨rd_whole_of, (have nd := sc_whole_of.nd
  (jss_cons
  (js_set 2 nd rfl (by first | exact Or.inl rfl | exact Or.inr rfl) je_int) (jss_cons
  (js_for PassesOwn.never rfl (ji_seq (je_var 1)) (jg_name 3 nd rfl (by first | exact Or.inl rfl | exact Or.inr rfl)) (jss_one
  (js_set 2 nd rfl (by first | exact Or.inl rfl | exact Or.inr rfl) (je_add (je_mul (je_var 2) (je_var 0)) (je_var 3))))) (jss_one
  (js_ret (je_var 2)))))), Vs2 len vc⟩
theorem ok_worth_of {f : Addr} {fd : FuncData} (F : Fun K "worth_of" "worth_of" s_worth_of f fd) (T : Tx K mg) (vc : goal_worth_of) (len : ∀ ds S P, sp_worth_of ds S P → ds.length = 2)
    {f_times : Addr} {fd_times : FuncData} (G_times : Does P w K mg base 3 "times" ["one", "other"] f_times fd_times sp_times)
    {f_power : Addr} {fd_power : FuncData} (G_power : Does P w K mg base 1 "power" ["base", "many"] f_power fd_power sp_power)
    {f_known_to : Addr} {fd_known_to : FuncData} (G_known_to : Does P w K mg base 1 "known_to" ["row"] f_known_to fd_known_to sp_known_to)
    {f_whole_of : Addr} {fd_whole_of : FuncData} (G_whole_of : Does P w K mg base 1 "whole_of" ["base", "figures"] f_whole_of fd_whole_of sp_whole_of) : FnD P w K mg base 4 f fd ["base", "row"] sp_worth_of :=
  fn_d F sc_worth_of len fun cdv A outer s H E hr => ⟨rd_worth_of, (have nd := sc_worth_of.nd
  (jss_one
  (js_ret (je_f G_times hr (ja_cons (je_tup (ja_cons (je_f G_whole_of hr (ja_cons (je_var 0) (ja_cons (je_ix (je_var 1) je_int) ja_nil))) (ja_cons je_int ja_nil))) (ja_cons (je_f G_power hr (ja_cons (je_var 0) (ja_cons (je_neg (je_f G_known_to hr (ja_cons (je_var 1) ja_nil))) ja_nil))) ja_nil)))))), Vs2 len vc⟩
theorem ok_tail_of {f : Addr} {fd : FuncData} (F : Fun K "tail_of" "tail_of" s_tail_of f fd) (T : Tx K mg) (vc : goal_tail_of) (len : ∀ ds S P, sp_tail_of ds S P → ds.length = 2)
    {f_times : Addr} {fd_times : FuncData} (G_times : Does P w K mg base 3 "times" ["one", "other"] f_times fd_times sp_times)
    {f_power : Addr} {fd_power : FuncData} (G_power : Does P w K mg base 1 "power" ["base", "many"] f_power fd_power sp_power)
    {f_known_to : Addr} {fd_known_to : FuncData} (G_known_to : Does P w K mg base 1 "known_to" ["row"] f_known_to fd_known_to sp_known_to)
    {f_frac : Addr} {fd_frac : FuncData} (G_frac : Does P w K mg base 2 "frac" ["top", "bottom"] f_frac fd_frac sp_frac) : FnD P w K mg base 4 f fd ["base", "row"] sp_tail_of :=
  fn_d F sc_tail_of len fun cdv A outer s H E hr => ⟨rd_tail_of, (have nd := sc_tail_of.nd
  (jss_one
  (js_ret (je_f G_times hr (ja_cons (je_f G_frac hr (ja_cons (je_ix (je_var 1) je_int) (ja_cons (je_sub (je_var 0) je_int) ja_nil))) (ja_cons (je_f G_power hr (ja_cons (je_var 0) (ja_cons (je_neg (je_f G_known_to hr (ja_cons (je_var 1) ja_nil))) ja_nil))) ja_nil)))))), Vs2 len vc⟩
theorem ok_span_of {f : Addr} {fd : FuncData} (F : Fun K "span_of" "span_of" s_span_of f fd) (T : Tx K mg) (vc : goal_span_of) (len : ∀ ds S P, sp_span_of ds S P → ds.length = 2)
    {f_worth_of : Addr} {fd_worth_of : FuncData} (G_worth_of : Does P w K mg base 4 "worth_of" ["base", "row"] f_worth_of fd_worth_of sp_worth_of)
    {f_tail_of : Addr} {fd_tail_of : FuncData} (G_tail_of : Does P w K mg base 4 "tail_of" ["base", "row"] f_tail_of fd_tail_of sp_tail_of)
    {f_plus : Addr} {fd_plus : FuncData} (G_plus : Does P w K mg base 3 "plus" ["one", "other"] f_plus fd_plus sp_plus)
    {f_minus : Addr} {fd_minus : FuncData} (G_minus : Does P w K mg base 3 "minus" ["one", "other"] f_minus fd_minus sp_minus) : FnD P w K mg base 5 f fd ["base", "row"] sp_span_of :=
  fn_d F sc_span_of len fun cdv A outer s H E hr => ⟨rd_span_of, (have nd := sc_span_of.nd
  (jss_cons
  (js_par 2 3 rfl nd rfl rfl (by decide) rfl rfl (ja_cons (je_f G_worth_of hr (ja_cons (je_var 0) (ja_cons (je_var 1) ja_nil))) (ja_cons (je_f G_tail_of hr (ja_cons (je_var 0) (ja_cons (je_var 1) ja_nil))) ja_nil)) (by rfl)) (jss_one
  (js_ret (je_tup (ja_cons (je_f G_minus hr (ja_cons (je_var 2) (ja_cons (je_var 3) ja_nil))) (ja_cons (je_f G_plus hr (ja_cons (je_var 2) (ja_cons (je_var 3) ja_nil))) ja_nil))))))), Vs2 len vc⟩
theorem ok_stands_for {f : Addr} {fd : FuncData} (F : Fun K "stands_for" "stands_for" s_stands_for f fd) (T : Tx K mg) (vc : goal_stands_for) (len : ∀ ds S P, sp_stands_for ds S P → ds.length = 3)
    {f_span_of : Addr} {fd_span_of : FuncData} (G_span_of : Does P w K mg base 5 "span_of" ["base", "row"] f_span_of fd_span_of sp_span_of)
    {f_is_below : Addr} {fd_is_below : FuncData} (G_is_below : Does P w K mg base 1 "is_below" ["one", "other"] f_is_below fd_is_below sp_is_below) : FnD P w K mg base 6 f fd ["base", "row", "number"] sp_stands_for :=
  fn_d F sc_stands_for len fun cdv A outer s H E hr => ⟨rd_stands_for, (have nd := sc_stands_for.nd
  (jss_cons
  (js_asg (je_f G_span_of hr (ja_cons (je_var 0) (ja_cons (je_var 1) ja_nil))) (jg_tup rfl (jgs_cons (jg_name 3 nd rfl (by first | exact Or.inl rfl | exact Or.inr rfl)) (jgs_cons (jg_name 4 nd rfl (by first | exact Or.inl rfl | exact Or.inr rfl)) jgs_nil)))) (jss_one
  (js_ret (je_and (je_not (je_f G_is_below hr (ja_cons (je_var 2) (ja_cons (je_var 3) ja_nil)))) (je_one (je_not (je_f G_is_below hr (ja_cons (je_var 4) (ja_cons (je_var 2) ja_nil)))))))))), Vs3 len vc⟩
theorem ok_cut_of {f : Addr} {fd : FuncData} (F : Fun K "cut_of" "cut_of" s_cut_of f fd) (T : Tx K mg) (vc : goal_cut_of) (len : ∀ ds S P, sp_cut_of ds S P → ds.length = 2)
     : FnD P w K mg base 1 f fd ["row", "place"] sp_cut_of :=
  fn_d F sc_cut_of len fun cdv A outer s H E hr => ⟨rd_cut_of, (have nd := sc_cut_of.nd
  (jss_cons
  (js_asg (je_var 0) (jg_tup rfl (jgs_cons (jg_name 2 nd rfl (by first | exact Or.inl rfl | exact Or.inr rfl)) (jgs_cons (jg_name 3 nd rfl (by first | exact Or.inl rfl | exact Or.inr rfl)) (jgs_cons (jg_name 4 nd rfl (by first | exact Or.inl rfl | exact Or.inr rfl)) jgs_nil))))) (jss_one
  (js_ret (je_tup (ja_cons (je_var 2) (ja_cons (je_var 3) (ja_cons (je_sl (je_var 4) jo_none (jo_some (je_max2 T.n_max (ja_cons je_int (ja_cons (je_add (je_var 1) (je_var 2)) ja_nil))))) ja_nil)))))))), Vs2 len vc⟩
theorem ok_order_of {f : Addr} {fd : FuncData} (F : Fun K "order_of" "order_of" s_order_of f fd) (T : Tx K mg) (vc : goal_order_of) (len : ∀ ds S P, sp_order_of ds S P → ds.length = 3)
    {f_span_of : Addr} {fd_span_of : FuncData} (G_span_of : Does P w K mg base 5 "span_of" ["base", "row"] f_span_of fd_span_of sp_span_of)
    {f_is_below : Addr} {fd_is_below : FuncData} (G_is_below : Does P w K mg base 1 "is_below" ["one", "other"] f_is_below fd_is_below sp_is_below) : FnD P w K mg base 6 f fd ["base", "one", "other"] sp_order_of :=
  fn_d F sc_order_of len fun cdv A outer s H E hr => ⟨rd_order_of, (have nd := sc_order_of.nd
  (jss_cons
  (js_par 3 4 rfl nd rfl rfl (by decide) rfl rfl (ja_cons (je_f G_span_of hr (ja_cons (je_var 0) (ja_cons (je_var 1) ja_nil))) (ja_cons (je_f G_span_of hr (ja_cons (je_var 0) (ja_cons (je_var 2) ja_nil))) ja_nil)) (by rfl)) (jss_cons
  (js_if (jt_val (je_f G_is_below hr (ja_cons (je_ix (je_var 4) je_int) (ja_cons (je_ix (je_var 3) je_int) ja_nil)))) (jss_one
  (js_ret (je_cI T.c_ABOVE))) jss_nil) (jss_one
  (js_ret (je_ifE (jt_val (je_f G_is_below hr (ja_cons (je_ix (je_var 3) je_int) (ja_cons (je_ix (je_var 4) je_int) ja_nil)))) (je_cI T.c_BELOW) je_non)))))), Vs3 len vc⟩
theorem ok_raised {f : Addr} {fd : FuncData} (F : Fun K "raised" "raised" s_raised f fd) (T : Tx K mg) (vc : goal_raised) (len : ∀ ds S P, sp_raised ds S P → ds.length = 1)
     : FnD P w K mg base 1 f fd ["number"] sp_raised :=
  fn_d F sc_raised len fun cdv A outer s H E hr => ⟨rd_raised, (have nd := sc_raised.nd
  (jss_one
  (js_ret (je_neg (je_fdiv (je_neg (je_ix (je_var 0) je_int)) (je_ix (je_var 0) je_int)))))), Vs1 len vc⟩
theorem ok_figures_between {f : Addr} {fd : FuncData} (F : Fun K "figures_between" "figures_between" s_figures_between f fd) (T : Tx K mg) (vc : goal_figures_between) (len : ∀ ds S P, sp_figures_between ds S P → ds.length = 4)
    {f_power : Addr} {fd_power : FuncData} (G_power : Does P w K mg base 1 "power" ["base", "many"] f_power fd_power sp_power)
    {f_known_to : Addr} {fd_known_to : FuncData} (G_known_to : Does P w K mg base 1 "known_to" ["row"] f_known_to fd_known_to sp_known_to)
    {f_frac : Addr} {fd_frac : FuncData} (G_frac : Does P w K mg base 2 "frac" ["top", "bottom"] f_frac fd_frac sp_frac)
    {f_worth_of : Addr} {fd_worth_of : FuncData} (G_worth_of : Does P w K mg base 4 "worth_of" ["base", "row"] f_worth_of fd_worth_of sp_worth_of)
    {f_raised : Addr} {fd_raised : FuncData} (G_raised : Does P w K mg base 1 "raised" ["number"] f_raised fd_raised sp_raised)
    {f_minus : Addr} {fd_minus : FuncData} (G_minus : Does P w K mg base 3 "minus" ["one", "other"] f_minus fd_minus sp_minus)
    {f_times : Addr} {fd_times : FuncData} (G_times : Does P w K mg base 3 "times" ["one", "other"] f_times fd_times sp_times)
    {f_plus : Addr} {fd_plus : FuncData} (G_plus : Does P w K mg base 3 "plus" ["one", "other"] f_plus fd_plus sp_plus) : FnD P w K mg base 5 f fd ["base", "own", "least", "most"] sp_figures_between :=
  fn_d F sc_figures_between len fun cdv A outer s H E hr => ⟨rd_figures_between, (have nd := sc_figures_between.nd
  (jss_cons
  (js_asg (je_var 1) (jg_tup rfl (jgs_cons (jg_name 4 nd rfl (by first | exact Or.inl rfl | exact Or.inr rfl)) (jgs_cons (jg_name 5 nd rfl (by first | exact Or.inl rfl | exact Or.inr rfl)) (jgs_cons (jg_name 6 nd rfl (by first | exact Or.inl rfl | exact Or.inr rfl)) jgs_nil))))) (jss_cons
  (js_set 7 nd rfl (by first | exact Or.inl rfl | exact Or.inr rfl) (je_f G_power hr (ja_cons (je_var 0) (ja_cons (je_add (je_f G_known_to hr (ja_cons (je_var 1) ja_nil)) je_int) ja_nil)))) (jss_cons
  (js_par 8 9 rfl nd rfl rfl (by decide) rfl rfl (ja_cons (je_f G_frac hr (ja_cons (je_var 5) (ja_cons (je_sub (je_var 0) je_int) ja_nil))) (ja_cons (je_f G_worth_of hr (ja_cons (je_var 0) (ja_cons (je_var 1) ja_nil))) ja_nil)) (by rfl)) (jss_cons
  (js_set 10 nd rfl (by first | exact Or.inl rfl | exact Or.inr rfl) (je_f G_raised hr (ja_cons (je_f G_minus hr (ja_cons (je_f G_times hr (ja_cons (je_f G_minus hr (ja_cons (je_var 3) (ja_cons (je_var 9) ja_nil))) (ja_cons (je_var 7) ja_nil))) (ja_cons (je_var 8) ja_nil))) ja_nil))) (jss_cons
  (js_set 11 nd rfl (by first | exact Or.inl rfl | exact Or.inr rfl) (je_f G_plus hr (ja_cons (je_f G_times hr (ja_cons (je_f G_minus hr (ja_cons (je_var 2) (ja_cons (je_var 9) ja_nil))) (ja_cons (je_var 7) ja_nil))) (ja_cons (je_var 8) ja_nil)))) (jss_one
  (js_ret (je_listR2 T.n_list T.n_range (je_max2 T.n_max (ja_cons (je_var 10) (ja_cons (je_neg (je_var 5)) ja_nil))) (je_add (je_min2 T.n_min (ja_cons (je_fdiv (je_ix (je_var 11) je_int) (je_ix (je_var 11) je_int)) (ja_cons (je_var 5) ja_nil))) je_int)))))))))), Vs4 len vc⟩
theorem ok_based_right {f : Addr} {fd : FuncData} (F : Fun K "based_right" "based_right" s_based_right f fd) (T : Tx K mg) (vc : goal_based_right) (len : ∀ ds S P, sp_based_right ds S P → ds.length = 4)
    {f_span_of : Addr} {fd_span_of : FuncData} (G_span_of : Does P w K mg base 5 "span_of" ["base", "row"] f_span_of fd_span_of sp_span_of)
    {f_figures_between : Addr} {fd_figures_between : FuncData} (G_figures_between : Does P w K mg base 5 "figures_between" ["base", "own", "least", "most"] f_figures_between fd_figures_between sp_figures_between) : FnD P w K mg base 6 f fd ["base", "other", "row", "own"] sp_based_right :=
  fn_d F sc_based_right len fun cdv A outer s H E hr => ⟨rd_based_right, (have nd := sc_based_right.nd
  (jss_cons
  (js_asg (je_f G_span_of hr (ja_cons (je_var 0) (ja_cons (je_var 2) ja_nil))) (jg_tup rfl (jgs_cons (jg_name 4 nd rfl (by first | exact Or.inl rfl | exact Or.inr rfl)) (jgs_cons (jg_name 5 nd rfl (by first | exact Or.inl rfl | exact Or.inr rfl)) jgs_nil)))) (jss_one
  (js_ret (je_f G_figures_between hr (ja_cons (je_var 1) (ja_cons (je_var 3) (ja_cons (je_var 4) (ja_cons (je_var 5) ja_nil))))))))), Vs4 len vc⟩
theorem ok_Teller_init {f : Addr} {fd : FuncData} (F : Fun K "__init__" "Teller.__init__" s_Teller_init f fd) (T : Tx K mg) (vc : goal_Teller_init) (len : ∀ ds S P, sp_Teller_init ds S P → ds.length = 6)
     : FnD P w K mg base 1 f fd ["self", "base", "other", "row", "begin", "most"] sp_Teller_init :=
  fn_d F sc_Teller_init len fun cdv A outer s H E hr => ⟨rd_Teller_init, (have nd := sc_Teller_init.nd
  (jss_cons
  (js_fld3 0 T.k_Teller T.a_Teller_own_base T.a_Teller_own_other T.a_Teller_own_row (pv 0) (pv 0) (pv 0) rfl (je_var 1) (je_var 2) (je_var 3)) (jss_cons
  (js_fld2 0 T.k_Teller T.a_Teller_own_begin T.a_Teller_own_most (pv 0) (pv 0) rfl (je_var 4) (je_var 5)) (jss_cons
  (js_fld T.k_Teller T.a_Teller_own_figures (je_var 0) (je_lstM ja_nil)) (jss_one
  (js_fld T.k_Teller T.a_Teller_own_read (je_var 0) (je_neg (je_ix (je_var 3) je_int)))))))), Vs6 len vc⟩
theorem ok_Teller_row {f : Addr} {fd : FuncData} (F : Fun K "row" "Teller.row" s_Teller_row f fd) (T : Tx K mg) (vc : goal_Teller_row) (len : ∀ ds S P, sp_Teller_row ds S P → ds.length = 1)
     : FnD P w K mg base 1 f fd ["self"] sp_Teller_row :=
  fn_d F sc_Teller_row len fun cdv A outer s H E hr => ⟨rd_Teller_row, (have nd := sc_Teller_row.nd
  (jss_one
  (js_ret (je_tup (ja_cons (je_fld T.k_Teller T.a_Teller_own_begin (je_var 0)) (ja_cons (je_fld T.k_Teller T.a_Teller_own_most (je_var 0)) (ja_cons (je_tupC T.n_tuple (ja_cons (je_fld T.k_Teller T.a_Teller_own_figures (je_var 0)) ja_nil)) ja_nil))))))), Vs1 len vc⟩
theorem ok_Teller_next_figure {f : Addr} {fd : FuncData} {cL : Addr} (F : Fun K "next_figure" "Teller.next_figure" s_Teller_next_figure f fd) (hcL : fd.code = .ref cL) (TB : LamX.TabB base mg cL (CT.at_ 40)) (T : Tx K mg) (vc : goal_Teller_next_figure) (len : ∀ ds S P, sp_Teller_next_figure ds S P → ds.length = 1)
    {f_cut_of : Addr} {fd_cut_of : FuncData} (G_cut_of : Does P w K mg base 1 "cut_of" ["row", "place"] f_cut_of fd_cut_of sp_cut_of)
    {f_based_right : Addr} {fd_based_right : FuncData} (G_based_right : Does P w K mg base 6 "based_right" ["base", "other", "row", "own"] f_based_right fd_based_right sp_based_right)
    {f_Teller_row : Addr} {fd_Teller_row : FuncData} (G_Teller_row : DoesM P w K mg base 1 1 "row" ["self"] f_Teller_row fd_Teller_row sp_Teller_row) : FnD P w K mg base 7 f fd ["self"] sp_Teller_next_figure :=
  fn_dT F hcL sc_Teller_next_figure len fun A outer s H E hr => ⟨rd_Teller_next_figure, (have nd := sc_Teller_next_figure.nd
  (jss_cons
  (js_set 1 nd rfl (by first | exact Or.inl rfl | exact Or.inr rfl) (je_f G_cut_of hr (ja_cons (je_fld T.k_Teller T.a_Teller_own_row (je_var 0)) (ja_cons (je_fld T.k_Teller T.a_Teller_own_read (je_var 0)) ja_nil)))) (jss_cons
  (js_set 2 nd rfl (by first | exact Or.inl rfl | exact Or.inr rfl) (je_f G_based_right hr (ja_cons (je_fld T.k_Teller T.a_Teller_own_base (je_var 0)) (ja_cons (je_fld T.k_Teller T.a_Teller_own_other (je_var 0)) (ja_cons (je_var 1) (ja_cons (je_m0 G_Teller_row hr (je_var 0)) ja_nil)))))) (jss_one
  (js_ret (je_ifE (jt_gt (je_len T.n_len (ja_cons (je_var 2) ja_nil)) je_int) (je_minLam (k := 0) (y := "figure") T.n_min TB rfl rfl hr (je_var 2) (by exact ⟨rfl, rfl, rfl, by decide +kernel, rfl, by decide +kernel, by decide +kernel⟩) (fun f c A outer s H E hr => (je_abs T.n_abs (ja_cons (je_var 0) ja_nil)))) je_non)))))), Vs1 len vc⟩
theorem ok_Teller_step {f : Addr} {fd : FuncData} (F : Fun K "step" "Teller.step" s_Teller_step f fd) (T : Tx K mg) (vc : goal_Teller_step) (len : ∀ ds S P, sp_Teller_step ds S P → ds.length = 2)
    {f_Teller_next_figure : Addr} {fd_Teller_next_figure : FuncData} (G_Teller_next_figure : DoesM P w K mg base 7 1 "next_figure" ["self"] f_Teller_next_figure fd_Teller_next_figure sp_Teller_next_figure)
    {f_known_to : Addr} {fd_known_to : FuncData} (G_known_to : Does P w K mg base 1 "known_to" ["row"] f_known_to fd_known_to sp_known_to) : FnD P w K mg base 8 f fd ["self", "to"] sp_Teller_step :=
  fn_d F sc_Teller_step len fun cdv A outer s H E hr => ⟨rd_Teller_step, (have nd := sc_Teller_step.nd
  (jss_cons
  (js_set 2 nd rfl (by first | exact Or.inl rfl | exact Or.inr rfl) (je_m0 G_Teller_next_figure hr (je_var 0))) (jss_cons
  (js_if (jt_notN (je_var 2) je_non) (jss_cons
  (js_if (jt_gt (je_sub (je_add (je_len T.n_len (ja_cons (je_fld T.k_Teller T.a_Teller_own_figures (je_var 0)) ja_nil)) je_int) (je_fld T.k_Teller T.a_Teller_own_begin (je_var 0))) (je_var 1)) (jss_one
  (js_ret je_bl)) jss_nil) (jss_cons
  (js_expr (je_append (je_fld T.k_Teller T.a_Teller_own_figures (je_var 0)) (je_var 2))) (jss_one
  (js_ret je_bl)))) jss_nil) (jss_cons
  (js_if (jt_le (je_f G_known_to hr (ja_cons (je_fld T.k_Teller T.a_Teller_own_row (je_var 0)) ja_nil)) (je_fld T.k_Teller T.a_Teller_own_read (je_var 0))) (jss_one
  (js_ret je_bl)) jss_nil) (jss_cons
  (js_fldAdd T.k_Teller T.a_Teller_own_read (je_var 0) je_int) (jss_one
  (js_ret je_bl))))))), Vs2 len vc⟩
theorem ok_based_run {f : Addr} {fd : FuncData} (F : Fun K "based_run" "based_run" s_based_run f fd) (T : Tx K mg) (vc : goal_based_run) (len : ∀ ds S P, sp_based_run ds S P → ds.length = 6)
    {f_Teller_init : Addr} {fd_Teller_init : FuncData} (G_Teller_init : DoesI P w K mg base 1 1 "Teller" ["self", "base", "other", "row", "begin", "most"] f_Teller_init fd_Teller_init sp_Teller_init)
    {f_Teller_step : Addr} {fd_Teller_step : FuncData} (G_Teller_step : DoesM P w K mg base 8 1 "step" ["self", "to"] f_Teller_step fd_Teller_step sp_Teller_step)
    {f_Teller_row : Addr} {fd_Teller_row : FuncData} (G_Teller_row : DoesM P w K mg base 1 1 "row" ["self"] f_Teller_row fd_Teller_row sp_Teller_row)
    (kb_Teller_init_0 : KBn K fd_Teller_init ["self", "base", "other", "row", "begin", "most"] 4 ["begin", "most"] (pick [0, 1, 2, 3, 4, 5]) (pick [0, 1, 2, 3, 4, 5])) : FnD P w K mg base 9 f fd ["base", "other", "row", "begin", "most", "to"] sp_based_run :=
  fn_d F sc_based_run len fun cdv A outer s H E hr => ⟨rd_based_run, (have nd := sc_based_run.nd
  (jss_cons
  (js_set 6 nd rfl (by first | exact Or.inl rfl | exact Or.inr rfl) (je_makeK G_Teller_init hr kb_Teller_init_0 (ja_cons (je_var 0) (ja_cons (je_var 1) (ja_cons (je_var 2) ja_nil))) (jk_cons (je_var 3) (jk_cons (je_var 4) jk_nil)))) (jss_cons
  (js_while PassesOwn.never (jt_val (je_m G_Teller_step hr (je_var 6) (ja_cons (je_var 5) ja_nil))) (jss_one
  js_pass)) (jss_one
  (js_ret (je_tup (ja_cons (je_m0 G_Teller_row hr (je_var 6)) (ja_cons (je_fld T.k_Teller T.a_Teller_own_read (je_var 6)) ja_nil)))))))), Vs6 len vc⟩
theorem ok_reach_by {f : Addr} {fd : FuncData} (F : Fun K "reach_by" "reach_by" s_reach_by f fd) (T : Tx K mg) (vc : goal_reach_by) (len : ∀ ds S P, sp_reach_by ds S P → ds.length = 3)
    {f_times : Addr} {fd_times : FuncData} (G_times : Does P w K mg base 3 "times" ["one", "other"] f_times fd_times sp_times)
    {f_power : Addr} {fd_power : FuncData} (G_power : Does P w K mg base 1 "power" ["base", "many"] f_power fd_power sp_power)
    {f_frac : Addr} {fd_frac : FuncData} (G_frac : Does P w K mg base 2 "frac" ["top", "bottom"] f_frac fd_frac sp_frac) : FnD P w K mg base 4 f fd ["base", "begin", "most"] sp_reach_by :=
  fn_d F sc_reach_by len fun cdv A outer s H E hr => ⟨rd_reach_by, (have nd := sc_reach_by.nd
  (jss_one
  (js_ret (je_f G_times hr (ja_cons (je_f G_frac hr (ja_cons (je_var 2) (ja_cons (je_sub (je_var 0) je_int) ja_nil))) (ja_cons (je_f G_power hr (ja_cons (je_var 0) (ja_cons (je_var 1) ja_nil))) ja_nil)))))), Vs3 len vc⟩
theorem ok_based_fits {f : Addr} {fd : FuncData} (F : Fun K "based_fits" "based_fits" s_based_fits f fd) (T : Tx K mg) (vc : goal_based_fits) (len : ∀ ds S P, sp_based_fits ds S P → ds.length = 5)
    {f_is_below : Addr} {fd_is_below : FuncData} (G_is_below : Does P w K mg base 1 "is_below" ["one", "other"] f_is_below fd_is_below sp_is_below)
    {f_reach_by : Addr} {fd_reach_by : FuncData} (G_reach_by : Does P w K mg base 4 "reach_by" ["base", "begin", "most"] f_reach_by fd_reach_by sp_reach_by) : FnD P w K mg base 5 f fd ["base", "other", "source", "begin", "most"] sp_based_fits :=
  fn_d F sc_based_fits len fun cdv A outer s H E hr => ⟨rd_based_fits, (have nd := sc_based_fits.nd
  (jss_one
  (js_ret (je_not (je_f G_is_below hr (ja_cons (je_f G_reach_by hr (ja_cons (je_var 1) (ja_cons (je_var 3) (ja_cons (je_var 4) ja_nil)))) (ja_cons (je_f G_reach_by hr (ja_cons (je_var 0) (ja_cons (je_ix (je_var 2) je_int) (ja_cons (je_ix (je_var 2) je_int) ja_nil)))) ja_nil))))))), Vs5 len vc⟩
theorem ok_told_read {f : Addr} {fd : FuncData} (F : Fun K "told_read" "told_read" s_told_read f fd) (T : Tx K mg) (vc : goal_told_read) (len : ∀ ds S P, sp_told_read ds S P → ds.length = 5)
    {f_times : Addr} {fd_times : FuncData} (G_times : Does P w K mg base 3 "times" ["one", "other"] f_times fd_times sp_times)
    {f_frac : Addr} {fd_frac : FuncData} (G_frac : Does P w K mg base 2 "frac" ["top", "bottom"] f_frac fd_frac sp_frac)
    {f_power : Addr} {fd_power : FuncData} (G_power : Does P w K mg base 1 "power" ["base", "many"] f_power fd_power sp_power)
    {f_least_power : Addr} {fd_least_power : FuncData} (G_least_power : Does P w K mg base 4 "least_power" ["base", "room", "need"] f_least_power fd_least_power sp_least_power) : FnD P w K mg base 5 f fd ["base", "other", "mine", "most", "place"] sp_told_read :=
  fn_d F sc_told_read len fun cdv A outer s H E hr => ⟨rd_told_read, (have nd := sc_told_read.nd
  (jss_cons
  (js_set 5 nd rfl (by first | exact Or.inl rfl | exact Or.inr rfl) (je_f G_times hr (ja_cons (je_f G_power hr (ja_cons (je_var 1) (ja_cons (je_var 4) ja_nil))) (ja_cons (je_f G_frac hr (ja_cons (je_mul (je_mul je_int (je_var 2)) (je_sub (je_var 1) je_int)) (ja_cons (je_sub (je_var 0) je_int) ja_nil))) ja_nil)))) (jss_one
  (js_ret (je_f G_least_power hr (ja_cons (je_var 0) (ja_cons (je_add (je_sub (je_mul je_int (je_var 3)) (je_var 1)) je_int) (ja_cons (je_var 5) ja_nil)))))))), Vs5 len vc⟩
theorem ok_Lcell_at {f : Addr} {fd : FuncData} (F : Fun K "_law_cell_at" "_law_cell_at" s_Lcell_at f fd) (T : Tx K mg) (vc : goal_Lcell_at) (len : ∀ ds S P, sp_Lcell_at ds S P → ds.length = 2)
     : FnD P w K mg base 1 f fd ["_law_script", "_law_k"] sp_Lcell_at :=
  fn_d F sc_Lcell_at len fun cdv A outer s H E hr => ⟨rd_Lcell_at, (have nd := sc_Lcell_at.nd
  (jss_cons
  (js_if (jt_lt (je_var 1) (je_len T.n_len (ja_cons (je_var 0) ja_nil))) (jss_one
  (js_ret (je_ix (je_var 0) (je_var 1)))) jss_nil) (jss_one
  (js_ret je_int)))), Vs2 len vc⟩
theorem ok_Lbox {f : Addr} {fd : FuncData} (F : Fun K "_law_box" "_law_box" s_Lbox f fd) (T : Tx K mg) (vc : goal_Lbox) (len : ∀ ds S P, sp_Lbox ds S P → ds.length = 2)
    {f_Lcell_at : Addr} {fd_Lcell_at : FuncData} (G_Lcell_at : Does P w K mg base 1 "_law_cell_at" ["_law_script", "_law_k"] f_Lcell_at fd_Lcell_at sp_Lcell_at) : FnD P w K mg base 2 f fd ["_law_script", "_law_k"] sp_Lbox :=
  fn_d F sc_Lbox len fun cdv A outer s H E hr => ⟨rd_Lbox, (have nd := sc_Lbox.nd
  (jss_cons
  (js_set 2 nd rfl (by first | exact Or.inl rfl | exact Or.inr rfl) (je_f G_Lcell_at hr (ja_cons (je_var 0) (ja_cons (je_var 1) ja_nil)))) (jss_one
  (js_ret (je_lstM (ja_cons (je_mul (je_abs T.n_abs (ja_cons (je_var 2) ja_nil)) (je_intC T.n_int (ja_cons (je_ge (je_abs T.n_abs (ja_cons (je_var 2) ja_nil)) (je_pow je_int je_int)) ja_nil))) (ja_cons (je_add (je_add (je_mod (je_var 2) je_int) (je_mul je_int (je_var 1))) je_int) (ja_cons je_int ja_nil)))))))), Vs2 len vc⟩
theorem ok_Ltake {f : Addr} {fd : FuncData} (F : Fun K "_law_take" "_law_take" s_Ltake f fd) (T : Tx K mg) (vc : goal_Ltake) (len : ∀ ds S P, sp_Ltake ds S P → ds.length = 2)
     : FnD P w K mg base 1 f fd ["_law_box_here", "_law_size"] sp_Ltake :=
  fn_d F sc_Ltake len fun cdv A outer s H E hr => ⟨rd_Ltake, (have nd := sc_Ltake.nd
  (jss_cons
  (js_if (jt_gt (je_ix (je_var 0) je_int) je_int) (jss_cons
  (js_set 2 nd rfl (by first | exact Or.inl rfl | exact Or.inr rfl) (je_mod (je_ix (je_var 0) je_int) (je_var 1))) (jss_cons
  (js_setIx (je_fdiv (je_ix (je_var 0) je_int) (je_var 1)) (je_var 0) je_int) (jss_one
  (js_ret (je_var 2))))) jss_nil) (jss_cons
  (js_setIx (je_add (je_ix (je_var 0) je_int) je_int) (je_var 0) je_int) (jss_cons
  (js_set 3 nd rfl (by first | exact Or.inl rfl | exact Or.inr rfl) (je_mod (je_mul (je_add (je_ix (je_var 0) je_int) (je_mul je_int (je_ix (je_var 0) je_int))) (je_add je_int (je_ix (je_var 0) je_int))) je_int)) (jss_cons
  (js_set 4 nd rfl (by first | exact Or.inl rfl | exact Or.inr rfl) (je_mod (je_mul (je_add (je_add (je_var 3) (je_ix (je_var 0) je_int)) (je_fdiv (je_ix (je_var 0) je_int) je_int)) (je_add (je_mod (je_var 3) je_int) je_int)) je_int)) (jss_one
  (js_ret (je_mod (je_fdiv (je_mod (je_add (je_mul (je_var 4) je_int) (je_var 3)) je_int) je_int) (je_var 1))))))))), Vs2 len vc⟩
theorem ok_Lof {f : Addr} {fd : FuncData} (F : Fun K "_law_of" "_law_of" s_Lof f fd) (T : Tx K mg) (vc : goal_Lof) (len : ∀ ds S P, sp_Lof ds S P → ds.length = 2)
    {f_Ltake : Addr} {fd_Ltake : FuncData} (G_Ltake : Does P w K mg base 1 "_law_take" ["_law_box_here", "_law_size"] f_Ltake fd_Ltake sp_Ltake) : FnD P w K mg base 2 f fd ["_law_box_here", "_law_some"] sp_Lof :=
  fn_d F sc_Lof len fun cdv A outer s H E hr => ⟨rd_Lof, (have nd := sc_Lof.nd
  (jss_one
  (js_ret (je_ix (je_var 1) (je_f G_Ltake hr (ja_cons (je_var 0) (ja_cons (je_len T.n_len (ja_cons (je_var 1) ja_nil)) ja_nil))))))), Vs2 len vc⟩
theorem ok_Lfrac {f : Addr} {fd : FuncData} (F : Fun K "_law_frac" "_law_frac" s_Lfrac f fd) (T : Tx K mg) (vc : goal_Lfrac) (len : ∀ ds S P, sp_Lfrac ds S P → ds.length = 2)
     : FnD P w K mg base 1 f fd ["_law_top", "_law_under"] sp_Lfrac :=
  fn_d F sc_Lfrac len fun cdv A outer s H E hr => ⟨rd_Lfrac, (have nd := sc_Lfrac.nd
  (jss_cons
  (js_par 2 3 rfl nd rfl rfl (by decide) rfl rfl (ja_cons (je_abs T.n_abs (ja_cons (je_var 0) ja_nil)) (ja_cons (je_abs T.n_abs (ja_cons (je_var 1) ja_nil)) ja_nil)) (by rfl)) (jss_cons
  (js_while PassesOwn.never (jt_gt (je_var 3) je_int) (jss_one
  (js_par 2 3 rfl nd rfl rfl (by decide) rfl rfl (ja_cons (je_var 3) (ja_cons (je_mod (je_var 2) (je_var 3)) ja_nil)) (by rfl)))) (jss_cons
  (js_set 4 nd rfl (by first | exact Or.inl rfl | exact Or.inr rfl) (je_ifE (jt_gt (je_var 1) je_int) je_int (je_neg je_int))) (jss_one
  (js_ret (je_tup (ja_cons (je_fdiv (je_mul (je_var 4) (je_var 0)) (je_var 2)) (ja_cons (je_fdiv (je_abs T.n_abs (ja_cons (je_var 1) ja_nil)) (je_var 2)) ja_nil))))))))), Vs2 len vc⟩
theorem ok_Lless {f : Addr} {fd : FuncData} (F : Fun K "_law_less" "_law_less" s_Lless f fd) (T : Tx K mg) (vc : goal_Lless) (len : ∀ ds S P, sp_Lless ds S P → ds.length = 2)
    {f_Lfrac : Addr} {fd_Lfrac : FuncData} (G_Lfrac : Does P w K mg base 1 "_law_frac" ["_law_top", "_law_under"] f_Lfrac fd_Lfrac sp_Lfrac) : FnD P w K mg base 2 f fd ["_law_first", "_law_second"] sp_Lless :=
  fn_d F sc_Lless len fun cdv A outer s H E hr => ⟨rd_Lless, (have nd := sc_Lless.nd
  (jss_one
  (js_ret (je_f G_Lfrac hr (ja_cons (je_sub (je_mul (je_ix (je_var 0) je_int) (je_ix (je_var 1) je_int)) (je_mul (je_ix (je_var 1) je_int) (je_ix (je_var 0) je_int))) (ja_cons (je_mul (je_ix (je_var 0) je_int) (je_ix (je_var 1) je_int)) ja_nil)))))), Vs2 len vc⟩
theorem ok_Lby {f : Addr} {fd : FuncData} (F : Fun K "_law_by" "_law_by" s_Lby f fd) (T : Tx K mg) (vc : goal_Lby) (len : ∀ ds S P, sp_Lby ds S P → ds.length = 2)
    {f_Lfrac : Addr} {fd_Lfrac : FuncData} (G_Lfrac : Does P w K mg base 1 "_law_frac" ["_law_top", "_law_under"] f_Lfrac fd_Lfrac sp_Lfrac) : FnD P w K mg base 2 f fd ["_law_first", "_law_second"] sp_Lby :=
  fn_d F sc_Lby len fun cdv A outer s H E hr => ⟨rd_Lby, (have nd := sc_Lby.nd
  (jss_one
  (js_ret (je_f G_Lfrac hr (ja_cons (je_mul (je_ix (je_var 0) je_int) (je_ix (je_var 1) je_int)) (ja_cons (je_mul (je_ix (je_var 0) je_int) (je_ix (je_var 1) je_int)) ja_nil)))))), Vs2 len vc⟩
theorem ok_Lbelow {f : Addr} {fd : FuncData} (F : Fun K "_law_below" "_law_below" s_Lbelow f fd) (T : Tx K mg) (vc : goal_Lbelow) (len : ∀ ds S P, sp_Lbelow ds S P → ds.length = 2)
     : FnD P w K mg base 1 f fd ["_law_first", "_law_second"] sp_Lbelow :=
  fn_d F sc_Lbelow len fun cdv A outer s H E hr => ⟨rd_Lbelow, (have nd := sc_Lbelow.nd
  (jss_one
  (js_ret (je_lt (je_mul (je_ix (je_var 0) je_int) (je_ix (je_var 1) je_int)) (je_mul (je_ix (je_var 1) je_int) (je_ix (je_var 0) je_int)))))), Vs2 len vc⟩
theorem ok_Lpower {f : Addr} {fd : FuncData} (F : Fun K "_law_power" "_law_power" s_Lpower f fd) (T : Tx K mg) (vc : goal_Lpower) (len : ∀ ds S P, sp_Lpower ds S P → ds.length = 2)
     : FnD P w K mg base 1 f fd ["_law_b", "_law_many"] sp_Lpower :=
  fn_d F sc_Lpower len fun cdv A outer s H E hr => ⟨rd_Lpower, (have nd := sc_Lpower.nd
  (jss_cons
  (js_set 2 nd rfl (by first | exact Or.inl rfl | exact Or.inr rfl) (je_tup (ja_cons je_int (ja_cons je_int ja_nil)))) (jss_cons
  (js_for PassesOwn.never rfl (ji_range1 T.n_range (ja_cons (je_abs T.n_abs (ja_cons (je_var 1) ja_nil)) ja_nil)) (jg_name 3 nd rfl (by first | exact Or.inl rfl | exact Or.inr rfl)) (jss_one
  (js_set 2 nd rfl (by first | exact Or.inl rfl | exact Or.inr rfl) (je_ifE (jt_gt (je_var 1) je_int) (je_tup (ja_cons (je_mul (je_ix (je_var 2) je_int) (je_var 0)) (ja_cons je_int ja_nil))) (je_tup (ja_cons je_int (ja_cons (je_mul (je_ix (je_var 2) je_int) (je_var 0)) ja_nil))))))) (jss_one
  (js_ret (je_var 2)))))), Vs2 len vc⟩
theorem ok_Lmost {f : Addr} {fd : FuncData} (F : Fun K "_law_most" "_law_most" s_Lmost f fd) (T : Tx K mg) (vc : goal_Lmost) (len : ∀ ds S P, sp_Lmost ds S P → ds.length = 2)
    {f_Lof : Addr} {fd_Lof : FuncData} (G_Lof : Does P w K mg base 2 "_law_of" ["_law_box_here", "_law_some"] f_Lof fd_Lof sp_Lof)
    {f_Ltake : Addr} {fd_Ltake : FuncData} (G_Ltake : Does P w K mg base 1 "_law_take" ["_law_box_here", "_law_size"] f_Ltake fd_Ltake sp_Ltake) : FnD P w K mg base 3 f fd ["_law_box_here", "_law_b"] sp_Lmost :=
  fn_d F sc_Lmost len fun cdv A outer s H E hr => ⟨rd_Lmost, (have nd := sc_Lmost.nd
  (jss_cons
  (js_set 2 nd rfl (by first | exact Or.inl rfl | exact Or.inr rfl) (je_fdiv (je_add (je_var 1) je_int) je_int)) (jss_one
  (js_ret (je_f G_Lof hr (ja_cons (je_var 0) (ja_cons (je_lst (ja_cons (je_var 2) (ja_cons (je_var 2) (ja_cons (je_max2 T.n_max (ja_cons (je_var 2) (ja_cons (je_sub (je_var 1) je_int) ja_nil))) (ja_cons (je_add (je_var 2) (je_f G_Ltake hr (ja_cons (je_var 0) (ja_cons je_int ja_nil)))) (ja_cons (je_add (je_var 2) (je_f G_Ltake hr (ja_cons (je_var 0) (ja_cons (je_sub je_int (je_var 2)) ja_nil)))) ja_nil)))))) ja_nil))))))), Vs2 len vc⟩
theorem ok_Lsigns {f : Addr} {fd : FuncData} (F : Fun K "_law_signs" "_law_signs" s_Lsigns f fd) (T : Tx K mg) (vc : goal_Lsigns) (len : ∀ ds S P, sp_Lsigns ds S P → ds.length = 6)
    {f_Lpower : Addr} {fd_Lpower : FuncData} (G_Lpower : Does P w K mg base 1 "_law_power" ["_law_b", "_law_many"] f_Lpower fd_Lpower sp_Lpower)
    {f_Lby : Addr} {fd_Lby : FuncData} (G_Lby : Does P w K mg base 2 "_law_by" ["_law_first", "_law_second"] f_Lby fd_Lby sp_Lby)
    {f_Lfrac : Addr} {fd_Lfrac : FuncData} (G_Lfrac : Does P w K mg base 1 "_law_frac" ["_law_top", "_law_under"] f_Lfrac fd_Lfrac sp_Lfrac)
    {f_Lless : Addr} {fd_Lless : FuncData} (G_Lless : Does P w K mg base 2 "_law_less" ["_law_first", "_law_second"] f_Lless fd_Lless sp_Lless)
    {f_Lbelow : Addr} {fd_Lbelow : FuncData} (G_Lbelow : Does P w K mg base 1 "_law_below" ["_law_first", "_law_second"] f_Lbelow fd_Lbelow sp_Lbelow)
    {f_Lof : Addr} {fd_Lof : FuncData} (G_Lof : Does P w K mg base 2 "_law_of" ["_law_box_here", "_law_some"] f_Lof fd_Lof sp_Lof) : FnD P w K mg base 3 f fd ["_law_box_here", "_law_b", "_law_start", "_law_top", "_law_number", "_law_count"] sp_Lsigns :=
  fn_d F sc_Lsigns len fun cdv A outer s H E hr => ⟨rd_Lsigns, (have nd := sc_Lsigns.nd
  (jss_cons
  (js_par 6 7 rfl nd rfl rfl (by decide) rfl rfl (ja_cons (je_lstM ja_nil) (ja_cons (je_var 4) ja_nil)) (by rfl)) (jss_cons
  (js_for PassesOwn.never rfl (ji_range1 T.n_range (ja_cons (je_var 5) ja_nil)) (jg_name 8 nd rfl (by first | exact Or.inl rfl | exact Or.inr rfl)) (jss_cons
  (js_par 9 10 rfl nd rfl rfl (by decide) rfl rfl (ja_cons (je_f G_Lpower hr (ja_cons (je_var 1) (ja_cons (je_sub (je_sub (je_var 2) je_int) (je_var 8)) ja_nil))) (ja_cons (je_lstM ja_nil) ja_nil)) (by rfl)) (jss_cons
  (js_set 11 nd rfl (by first | exact Or.inl rfl | exact Or.inr rfl) (je_f G_Lby hr (ja_cons (je_f G_Lfrac hr (ja_cons (je_var 3) (ja_cons (je_sub (je_var 1) je_int) ja_nil))) (ja_cons (je_var 9) ja_nil)))) (jss_cons
  (js_for PassesOwn.never rfl (ji_range2 T.n_range (ja_cons (je_neg (je_var 3)) (ja_cons (je_add (je_var 3) je_int) ja_nil))) (jg_name 12 nd rfl (by first | exact Or.inl rfl | exact Or.inr rfl)) (jss_cons
  (js_set 13 nd rfl (by first | exact Or.inl rfl | exact Or.inr rfl) (je_f G_Lless hr (ja_cons (je_var 7) (ja_cons (je_f G_Lby hr (ja_cons (je_tup (ja_cons (je_var 12) (ja_cons je_int ja_nil))) (ja_cons (je_var 9) ja_nil))) ja_nil)))) (jss_one
  (js_if (jt_w (jw_and (jt_not (jt_val (je_f G_Lbelow hr (ja_cons (je_var 11) (ja_cons (je_var 13) ja_nil))))) (jw_and1 (jt_not (jt_val (je_f G_Lbelow hr (ja_cons (je_var 13) (ja_cons (je_tup (ja_cons (je_sub je_int (je_ix (je_var 11) je_int)) (ja_cons (je_ix (je_var 11) je_int) ja_nil))) ja_nil)))))))) (jss_one
  (js_expr (je_append (je_var 10) (je_var 12)))) jss_nil)))) (jss_frz 10 (jss_cons
  (js_expr (je_append (je_var 6) (je_f G_Lof hr (ja_cons (je_var 0) (ja_cons (je_var 10) ja_nil))))) (jss_one
  (js_set 7 nd rfl (by first | exact Or.inl rfl | exact Or.inr rfl) (je_f G_Lless hr (ja_cons (je_var 7) (ja_cons (je_f G_Lby hr (ja_cons (je_tup (ja_cons (je_ix (je_var 6) (je_neg je_int)) (ja_cons je_int ja_nil))) (ja_cons (je_var 9) ja_nil))) ja_nil))))))))))) (jss_one
  (js_ret (je_tupC T.n_tuple (ja_cons (je_var 6) ja_nil))))))), Vs6 len vc⟩
theorem ok_Lon {f : Addr} {fd : FuncData} (F : Fun K "_law_on" "_law_on" s_Lon f fd) (T : Tx K mg) (vc : goal_Lon) (len : ∀ ds S P, sp_Lon ds S P → ds.length = 4)
    {f_based_fits : Addr} {fd_based_fits : FuncData} (G_based_fits : Does P w K mg base 5 "based_fits" ["base", "other", "source", "begin", "most"] f_based_fits fd_based_fits sp_based_fits)
    {f_based_run : Addr} {fd_based_run : FuncData} (G_based_run : DoesK P w K mg base 9 "based_run" ["base", "other", "row", "begin", "most", "to"] f_based_run fd_based_run sp_based_run)
    (kb_based_run_0 : KBn K fd_based_run ["base", "other", "row", "begin", "most", "to"] 3 ["begin", "most", "to"] (pick [0, 1, 2, 3, 4, 5]) (pick [0, 1, 2, 3, 4, 5])) : FnD P w K mg base 10 f fd ["_law_b", "_law_c", "_law_line", "_law_top"] sp_Lon :=
  fn_d F sc_Lon len fun cdv A outer s H E hr => ⟨rd_Lon, (have nd := sc_Lon.nd
  (jss_cons
  (js_set 4 nd rfl (by first | exact Or.inl rfl | exact Or.inr rfl) (je_neg je_int)) (jss_cons
  (js_for PassesOwn.never rfl (ji_range1 T.n_range (ja_cons je_int ja_nil)) (jg_name 5 nd rfl (by first | exact Or.inl rfl | exact Or.inr rfl)) (jss_one
  (js_if (jt_not (jt_val (je_f G_based_fits hr (ja_cons (je_var 0) (ja_cons (je_var 1) (ja_cons (je_sl (je_var 2) jo_none (jo_some je_int)) (ja_cons (je_var 4) (ja_cons (je_var 3) ja_nil)))))))) (jss_one
  (js_set 4 nd rfl (by first | exact Or.inl rfl | exact Or.inr rfl) (je_add (je_var 4) je_int))) jss_nil))) (jss_one
  (js_ret (je_ix (je_gk G_based_run hr kb_based_run_0 (ja_cons (je_var 0) (ja_cons (je_var 1) (ja_cons (je_var 2) ja_nil))) (jk_cons (je_var 4) (jk_cons (je_var 3) (jk_cons je_int jk_nil)))) je_int)))))), Vs4 len vc⟩
theorem ok_Lis_far {f : Addr} {fd : FuncData} (F : Fun K "_law_is_far" "_law_is_far" s_Lis_far f fd) (T : Tx K mg) (vc : goal_Lis_far) (len : ∀ ds S P, sp_Lis_far ds S P → ds.length = 4)
    {f_known_to : Addr} {fd_known_to : FuncData} (G_known_to : Does P w K mg base 1 "known_to" ["row"] f_known_to fd_known_to sp_known_to)
    {f_told_read : Addr} {fd_told_read : FuncData} (G_told_read : Does P w K mg base 5 "told_read" ["base", "other", "mine", "most", "place"] f_told_read fd_told_read sp_told_read) : FnD P w K mg base 6 f fd ["_law_b", "_law_c", "_law_line", "_law_found"] sp_Lis_far :=
  fn_d F sc_Lis_far len fun cdv A outer s H E hr => ⟨rd_Lis_far, (have nd := sc_Lis_far.nd
  (jss_cons
  (js_set 4 nd rfl (by first | exact Or.inl rfl | exact Or.inr rfl) (je_add (je_f G_known_to hr (ja_cons (je_var 3) ja_nil)) je_int)) (jss_one
  (js_ret (je_or (je_gt (je_var 4) je_int) (je_one (je_gt (je_f G_told_read hr (ja_cons (je_var 0) (ja_cons (je_var 1) (ja_cons (je_ix (je_var 2) je_int) (ja_cons (je_ix (je_var 3) je_int) (ja_cons (je_var 4) ja_nil)))))) (je_f G_known_to hr (ja_cons (je_var 2) ja_nil))))))))), Vs4 len vc⟩
theorem ok_Lchain {f : Addr} {fd : FuncData} (F : Fun K "_law_chain" "_law_chain" s_Lchain f fd) (T : Tx K mg) (vc : goal_Lchain) (len : ∀ ds S P, sp_Lchain ds S P → ds.length = 3)
    {f_Lon : Addr} {fd_Lon : FuncData} (G_Lon : Does P w K mg base 10 "_law_on" ["_law_b", "_law_c", "_law_line", "_law_top"] f_Lon fd_Lon sp_Lon) : FnD P w K mg base 11 f fd ["_law_bases", "_law_tops", "_law_line"] sp_Lchain :=
  fn_d F sc_Lchain len fun cdv A outer s H E hr => ⟨rd_Lchain, (have nd := sc_Lchain.nd
  (jss_cons
  (js_set 3 nd rfl (by first | exact Or.inl rfl | exact Or.inr rfl) (je_lstM (ja_cons (je_var 2) ja_nil))) (jss_cons
  (js_for PassesOwn.never rfl (ji_range2 T.n_range (ja_cons je_int (ja_cons je_int ja_nil))) (jg_name 4 nd rfl (by first | exact Or.inl rfl | exact Or.inr rfl)) (jss_one
  (js_expr (je_append (je_var 3) (je_f G_Lon hr (ja_cons (je_ix (je_var 0) (je_sub (je_var 4) je_int)) (ja_cons (je_ix (je_var 0) (je_mod (je_var 4) je_int)) (ja_cons (je_ix (je_var 3) (je_neg je_int)) (ja_cons (je_ix (je_var 1) (je_mod (je_var 4) je_int)) ja_nil))))))))) (jss_one
  (js_retZ (je_var 3)))))), Vs3 len vc⟩
theorem ok_Lright {f : Addr} {fd : FuncData} (F : Fun K "_law_right" "_law_right" s_Lright f fd) (T : Tx K mg) (vc : goal_Lright) (len : ∀ ds S P, sp_Lright ds S P → ds.length = 1)
    {f_Ltake : Addr} {fd_Ltake : FuncData} (G_Ltake : Does P w K mg base 1 "_law_take" ["_law_box_here", "_law_size"] f_Ltake fd_Ltake sp_Ltake)
    {f_Lmost : Addr} {fd_Lmost : FuncData} (G_Lmost : Does P w K mg base 3 "_law_most" ["_law_box_here", "_law_b"] f_Lmost fd_Lmost sp_Lmost)
    {f_Lby : Addr} {fd_Lby : FuncData} (G_Lby : Does P w K mg base 2 "_law_by" ["_law_first", "_law_second"] f_Lby fd_Lby sp_Lby)
    {f_Lpower : Addr} {fd_Lpower : FuncData} (G_Lpower : Does P w K mg base 1 "_law_power" ["_law_b", "_law_many"] f_Lpower fd_Lpower sp_Lpower)
    {f_Lfrac : Addr} {fd_Lfrac : FuncData} (G_Lfrac : Does P w K mg base 1 "_law_frac" ["_law_top", "_law_under"] f_Lfrac fd_Lfrac sp_Lfrac)
    {f_Lsigns : Addr} {fd_Lsigns : FuncData} (G_Lsigns : Does P w K mg base 3 "_law_signs" ["_law_box_here", "_law_b", "_law_start", "_law_top", "_law_number", "_law_count"] f_Lsigns fd_Lsigns sp_Lsigns)
    {f_Lchain : Addr} {fd_Lchain : FuncData} (G_Lchain : Does P w K mg base 11 "_law_chain" ["_law_bases", "_law_tops", "_law_line"] f_Lchain fd_Lchain sp_Lchain)
    {f_stands_for : Addr} {fd_stands_for : FuncData} (G_stands_for : Does P w K mg base 6 "stands_for" ["base", "row", "number"] f_stands_for fd_stands_for sp_stands_for)
    {f_Lis_far : Addr} {fd_Lis_far : FuncData} (G_Lis_far : Does P w K mg base 6 "_law_is_far" ["_law_b", "_law_c", "_law_line", "_law_found"] f_Lis_far fd_Lis_far sp_Lis_far)
    {f_order_of : Addr} {fd_order_of : FuncData} (G_order_of : Does P w K mg base 6 "order_of" ["base", "one", "other"] f_order_of fd_order_of sp_order_of)
    {f_cut_of : Addr} {fd_cut_of : FuncData} (G_cut_of : Does P w K mg base 1 "cut_of" ["row", "place"] f_cut_of fd_cut_of sp_cut_of)
    {f_known_to : Addr} {fd_known_to : FuncData} (G_known_to : Does P w K mg base 1 "known_to" ["row"] f_known_to fd_known_to sp_known_to)
    {f_Lless : Addr} {fd_Lless : FuncData} (G_Lless : Does P w K mg base 2 "_law_less" ["_law_first", "_law_second"] f_Lless fd_Lless sp_Lless) : FnD P w K mg base 12 f fd ["_law_box_here"] sp_Lright :=
  fn_d F sc_Lright len fun cdv A outer s H E hr => ⟨rd_Lright, (have nd := sc_Lright.nd
  (jss_cons
  (js_set 1 nd rfl (by first | exact Or.inl rfl | exact Or.inr rfl) (je_lc [("_law_turn", 2)] rfl nd (ji_range1 T.n_range (ja_cons je_int ja_nil)) (blkOk_by (N := ["_law_box_here", "_law_bases", "_law_turn", "_law_tops", "_law_b", "_law_start", "_law_reach", "_law_parts", "_law_numbers", "_law_part", "_law_signs_here", "_law_number", "_law_chains", "_law_some", "_law_line", "_law_rows", "_law_at", "_law_ahead", "_law_short", "_law_full", "_law_gap", "_law_due"]) (sc := defScope s_Lright) (by decide +kernel)) (by decide) (fun _ _ _ _ _ => (jg_name 2 nd rfl (by first | exact Or.inl rfl | exact Or.inr rfl))) (fun _ _ _ _ _ => jts_nil) (fun _ _ _ _ _ => (je_add je_int (je_f G_Ltake hr (ja_cons (je_var 0) (ja_cons je_int ja_nil))))))) (jss_cons
  (js_set 3 nd rfl (by first | exact Or.inl rfl | exact Or.inr rfl) (je_lc [("_law_b", 4)] rfl nd (ji_seq (je_var 1)) (blkOk_by (N := ["_law_box_here", "_law_bases", "_law_turn", "_law_tops", "_law_b", "_law_start", "_law_reach", "_law_parts", "_law_numbers", "_law_part", "_law_signs_here", "_law_number", "_law_chains", "_law_some", "_law_line", "_law_rows", "_law_at", "_law_ahead", "_law_short", "_law_full", "_law_gap", "_law_due"]) (sc := defScope s_Lright) (by decide +kernel)) (by decide) (fun _ _ _ _ _ => (jg_name 4 nd rfl (by first | exact Or.inl rfl | exact Or.inr rfl))) (fun _ _ _ _ _ => jts_nil) (fun _ _ _ _ _ => (je_min2 T.n_min (ja_cons (je_add (je_var 4) je_int) (ja_cons (je_f G_Lmost hr (ja_cons (je_var 0) (ja_cons (je_var 4) ja_nil))) ja_nil)))))) (jss_cons
  (js_set 5 nd rfl (by first | exact Or.inl rfl | exact Or.inr rfl) (je_sub (je_f G_Ltake hr (ja_cons (je_var 0) (ja_cons je_int ja_nil))) je_int)) (jss_cons
  (js_set 6 nd rfl (by first | exact Or.inl rfl | exact Or.inr rfl) (je_f G_Lby hr (ja_cons (je_f G_Lfrac hr (ja_cons (je_ix (je_var 3) je_int) (ja_cons (je_sub (je_ix (je_var 1) je_int) je_int) ja_nil))) (ja_cons (je_f G_Lpower hr (ja_cons (je_ix (je_var 1) je_int) (ja_cons (je_var 5) ja_nil))) ja_nil)))) (jss_cons
  (js_setLc 7 [("_law_turn", 2)] rfl nd rfl rfl (sw_true rfl rfl rfl (by decide +kernel)) (ji_range1 T.n_range (ja_cons je_int ja_nil)) (blkOk_by (N := ["_law_box_here", "_law_bases", "_law_turn", "_law_tops", "_law_b", "_law_start", "_law_reach", "_law_parts", "_law_numbers", "_law_part", "_law_signs_here", "_law_number", "_law_chains", "_law_some", "_law_line", "_law_rows", "_law_at", "_law_ahead", "_law_short", "_law_full", "_law_gap", "_law_due"]) (sc := defScope s_Lright) (by decide +kernel)) (by decide) (fun _ _ _ _ _ => (jg_name 2 nd rfl (by first | exact Or.inl rfl | exact Or.inr rfl))) (fun _ _ _ _ _ => jts_nil) (fun _ _ _ _ _ => (je_f G_Lfrac hr (ja_cons (je_sub (je_f G_Ltake hr (ja_cons (je_var 0) (ja_cons je_int ja_nil))) je_int) (ja_cons je_int ja_nil))))) (jss_cons
  (js_setLc 8 [("_law_part", 9)] rfl nd rfl rfl (sw_true rfl rfl rfl (by decide +kernel)) (ji_seq (je_var 7)) (blkOk_by (N := ["_law_box_here", "_law_bases", "_law_turn", "_law_tops", "_law_b", "_law_start", "_law_reach", "_law_parts", "_law_numbers", "_law_part", "_law_signs_here", "_law_number", "_law_chains", "_law_some", "_law_line", "_law_rows", "_law_at", "_law_ahead", "_law_short", "_law_full", "_law_gap", "_law_due"]) (sc := defScope s_Lright) (by decide +kernel)) (by decide) (fun _ _ _ _ _ => (jg_name 9 nd rfl (by first | exact Or.inl rfl | exact Or.inr rfl))) (fun _ _ _ _ _ => jts_nil) (fun _ _ _ _ _ => (je_f G_Lby hr (ja_cons (je_var 6) (ja_cons (je_var 9) ja_nil))))) (jss_cons
  (js_setLc 10 [("_law_number", 11)] rfl nd rfl rfl (sw_true rfl rfl rfl (by decide +kernel)) (ji_seq (je_var 8)) (blkOk_by (N := ["_law_box_here", "_law_bases", "_law_turn", "_law_tops", "_law_b", "_law_start", "_law_reach", "_law_parts", "_law_numbers", "_law_part", "_law_signs_here", "_law_number", "_law_chains", "_law_some", "_law_line", "_law_rows", "_law_at", "_law_ahead", "_law_short", "_law_full", "_law_gap", "_law_due"]) (sc := defScope s_Lright) (by decide +kernel)) (by decide) (fun _ _ _ _ _ => (jg_name 11 nd rfl (by first | exact Or.inl rfl | exact Or.inr rfl))) (fun _ _ _ _ _ => jts_nil) (fun _ _ _ _ _ => (je_f G_Lsigns hr (ja_cons (je_var 0) (ja_cons (je_ix (je_var 1) je_int) (ja_cons (je_var 5) (ja_cons (je_ix (je_var 3) je_int) (ja_cons (je_var 11) (ja_cons je_int ja_nil))))))))) (jss_cons
  (js_set 12 nd rfl (by first | exact Or.inl rfl | exact Or.inr rfl) (je_lstM ja_nil)) (jss_cons
  (js_for PassesOwn.never rfl (ji_seq (je_var 10)) (jg_name 13 nd rfl (by first | exact Or.inl rfl | exact Or.inr rfl)) (jss_cons
  (js_set 14 nd rfl (by first | exact Or.inl rfl | exact Or.inr rfl) (je_tup (ja_cons (je_var 5) (ja_cons (je_ix (je_var 3) je_int) (ja_cons (je_var 13) ja_nil))))) (jss_one
  (js_expr (je_append (je_var 12) (je_f G_Lchain hr (ja_cons (je_var 1) (ja_cons (je_var 3) (ja_cons (je_var 14) ja_nil))))))))) (jss_frz 12 (jss_cons
  (js_for PassesOwn.never rfl (ji_zip T.n_zip (ja_cons (je_var 8) (ja_cons (je_var 12) ja_nil))) (jg_tup rfl (jgs_cons (jg_name 11 nd rfl (by first | exact Or.inl rfl | exact Or.inr rfl)) (jgs_cons (jg_name 15 nd rfl (by first | exact Or.inl rfl | exact Or.inr rfl)) jgs_nil))) (jss_cons
  (js_for PassesOwn.never rfl (ji_enum T.n_enumerate (ja_cons (je_var 15) ja_nil)) (jg_tup rfl (jgs_cons (jg_name 16 nd rfl (by first | exact Or.inl rfl | exact Or.inr rfl)) (jgs_cons (jg_name 14 nd rfl (by first | exact Or.inl rfl | exact Or.inr rfl)) jgs_nil))) (jss_cons
  (js_if (jt_notB (je_f G_stands_for hr (ja_cons (je_ix (je_var 1) (je_mod (je_var 16) je_int)) (ja_cons (je_var 14) (ja_cons (je_var 11) ja_nil)))) je_bl) (jss_one
  (js_ret je_bl)) jss_nil) (jss_cons
  (js_set 17 nd rfl (by first | exact Or.inl rfl | exact Or.inr rfl) (je_ix (je_var 15) (je_max2 T.n_max (ja_cons je_int (ja_cons (je_sub (je_var 16) je_int) ja_nil))))) (jss_one
  (js_if (jt_w (jw_and (jt_gt (je_var 16) je_int) (jw_and1 (jt_not (jt_val (je_f G_Lis_far hr (ja_cons (je_ix (je_var 1) (je_sub (je_var 16) je_int)) (ja_cons (je_ix (je_var 1) (je_mod (je_var 16) je_int)) (ja_cons (je_var 17) (ja_cons (je_var 14) ja_nil)))))))))) (jss_one
  (js_ret je_bl)) jss_nil))))) (jss_cons
  (js_if (jt_notN (je_f G_order_of hr (ja_cons (je_ix (je_var 1) je_int) (ja_cons (je_ix (je_var 15) je_int) (ja_cons (je_ix (je_var 15) je_int) ja_nil)))) je_non) (jss_one
  (js_ret je_bl)) jss_nil) (jss_cons
  (js_set 18 nd rfl (by first | exact Or.inl rfl | exact Or.inr rfl) (je_f G_Lchain hr (ja_cons (je_var 1) (ja_cons (je_var 3) (ja_cons (je_f G_cut_of hr (ja_cons (je_ix (je_var 15) je_int) (ja_cons (je_sub (je_sub (je_f G_known_to hr (ja_cons (je_ix (je_var 15) je_int) ja_nil)) je_int) (je_f G_Ltake hr (ja_cons (je_var 0) (ja_cons je_int ja_nil)))) ja_nil))) ja_nil))))) (jss_one
  (js_if (jt_val (je_any T.n_any (ja_cons (je_lc [("_law_line", 14), ("_law_full", 19)] rfl nd (ji_zip T.n_zip (ja_cons (je_var 18) (ja_cons (je_var 15) ja_nil))) (blkOk_by (N := ["_law_box_here", "_law_bases", "_law_turn", "_law_tops", "_law_b", "_law_start", "_law_reach", "_law_parts", "_law_numbers", "_law_part", "_law_signs_here", "_law_number", "_law_chains", "_law_some", "_law_line", "_law_rows", "_law_at", "_law_ahead", "_law_short", "_law_full", "_law_gap", "_law_due"]) (sc := defScope s_Lright) (by decide +kernel)) (by decide) (fun _ _ _ _ _ => (jg_tup rfl (jgs_cons (jg_name 14 nd rfl (by first | exact Or.inl rfl | exact Or.inr rfl)) (jgs_cons (jg_name 19 nd rfl (by first | exact Or.inl rfl | exact Or.inr rfl)) jgs_nil)))) (fun _ _ _ _ _ => jts_nil) (fun _ _ _ _ _ => (je_ne hr (je_ix (je_var 14) je_int) (je_sl (je_ix (je_var 19) je_int) jo_none (jo_some (je_len T.n_len (ja_cons (je_ix (je_var 14) je_int) ja_nil))))))) ja_nil))) (jss_one
  (js_ret je_bl)) jss_nil)))))) (jss_cons
  (js_set 20 nd rfl (by first | exact Or.inl rfl | exact Or.inr rfl) (je_ix (je_f G_Lless hr (ja_cons (je_ix (je_var 8) je_int) (ja_cons (je_ix (je_var 8) je_int) ja_nil))) je_int)) (jss_cons
  (js_set 21 nd rfl (by first | exact Or.inl rfl | exact Or.inr rfl) (je_ifE (jt_eq hr (je_var 20) je_int) (je_lst (ja_cons je_non ja_nil)) (je_lst (ja_cons je_non (ja_cons (je_ifE (jt_gt (je_var 20) je_int) je_int (je_neg je_int)) ja_nil))))) (jss_one
  (js_ret (je_all T.n_all (ja_cons (je_lc [("_law_at", 16)] rfl nd (ji_range1 T.n_range (ja_cons je_int ja_nil)) (blkOk_by (N := ["_law_box_here", "_law_bases", "_law_turn", "_law_tops", "_law_b", "_law_start", "_law_reach", "_law_parts", "_law_numbers", "_law_part", "_law_signs_here", "_law_number", "_law_chains", "_law_some", "_law_line", "_law_rows", "_law_at", "_law_ahead", "_law_short", "_law_full", "_law_gap", "_law_due"]) (sc := defScope s_Lright) (by decide +kernel)) (by decide) (fun _ _ _ _ _ => (jg_name 16 nd rfl (by first | exact Or.inl rfl | exact Or.inr rfl))) (fun _ _ _ _ _ => jts_nil) (fun _ _ _ _ _ => (je_in (je_f G_order_of hr (ja_cons (je_ix (je_var 1) (je_mod (je_var 16) je_int)) (ja_cons (je_ix (je_ix (je_var 12) je_int) (je_var 16)) (ja_cons (je_ix (je_ix (je_var 12) je_int) (je_var 16)) ja_nil)))) (je_var 21)))) ja_nil)))))))))))))))))), Vs1 len vc⟩
theorem ok_law {f : Addr} {fd : FuncData} (F : Fun K "law" "law" s_law f fd) (T : Tx K mg) (vc : goal_law) (len : ∀ ds S P, sp_law ds S P → ds.length = 1)
    {f_Lright : Addr} {fd_Lright : FuncData} (G_Lright : Does P w K mg base 12 "_law_right" ["_law_box_here"] f_Lright fd_Lright sp_Lright)
    {f_Lbox : Addr} {fd_Lbox : FuncData} (G_Lbox : Does P w K mg base 2 "_law_box" ["_law_script", "_law_k"] f_Lbox fd_Lbox sp_Lbox) : FnD P w K mg base 13 f fd ["_law_script"] sp_law :=
  fn_d F sc_law len fun cdv A outer s H E hr => ⟨rd_law, (have nd := sc_law.nd
  (jss_one
  (js_ret (je_all T.n_all (ja_cons (je_lc [("_law_k", 1)] rfl nd (ji_range1 T.n_range (ja_cons (je_add je_int (je_min2 T.n_min (ja_cons je_int (ja_cons (je_len T.n_len (ja_cons (je_var 0) ja_nil)) ja_nil)))) ja_nil)) (blkOk_by (N := ["_law_script", "_law_k"]) (sc := defScope s_law) (by decide +kernel)) (by decide) (fun _ _ _ _ _ => (jg_name 1 nd rfl (by first | exact Or.inl rfl | exact Or.inr rfl))) (fun _ _ _ _ _ => jts_nil) (fun _ _ _ _ _ => (je_f G_Lright hr (ja_cons (je_f G_Lbox hr (ja_cons (je_var 0) (ja_cons (je_var 1) ja_nil))) ja_nil)))) ja_nil))))), Vs1 len vc⟩
end
theorem all_mk {l : PySem.W.OpenLaw} {w : World} {K : PySem.W.Frag} {h : Heap} {mg : Str → Option Value} {fa : Addr} (X : K.In h) (G : h.Ns mainGlobals mg) (hfa : mg "law" = some (.ref fa))
    {C_Teller : Addr} (aC_Teller : PySem.W.nsIn K mainGlobals "Teller" = some (some (.ref C_Teller))) (pg_Teller : PySem.W.plainGet K C_Teller Str.empty = true) (hd_Teller : PySem.W.hasDictIn K C_Teller = true) (po_Teller : PySem.W.plainOver K C_Teller = true) (sa_Teller : PySem.W.findIn K (.ref C_Teller) "__setattr__" = some (some (.builtin "object.__setattr__"))) (mk_Teller : PySem.W.makesIn K C_Teller = true) (kc_Teller : PySem.W.keepIn K (.ref C_Teller) = true)
    (nA_Teller_own_base : PySem.W.findIn K (.ref C_Teller) "own_base" = some none)
    (nA_Teller_own_begin : PySem.W.findIn K (.ref C_Teller) "own_begin" = some none)
    (nA_Teller_own_figures : PySem.W.findIn K (.ref C_Teller) "own_figures" = some none)
    (nA_Teller_own_most : PySem.W.findIn K (.ref C_Teller) "own_most" = some none)
    (nA_Teller_own_other : PySem.W.findIn K (.ref C_Teller) "own_other" = some none)
    (nA_Teller_own_read : PySem.W.findIn K (.ref C_Teller) "own_read" = some none)
    (nA_Teller_own_row : PySem.W.findIn K (.ref C_Teller) "own_row" = some none)
    {f_common : Addr} {od_common an_common : Option Addr} {sl_common : Array (Option Value)} {oc_common kV_common dc_common pm_common cd_common ct_common : Value}
    (a_common : PySem.W.nsIn K mainGlobals "common" = some (some (.ref f_common)))
    (l_common : K.lookup f_common = some ⟨oc_common, od_common, .func (PySem.W.fnOf "common" "common" (defArgs s_common) (defBody s_common) (defScope s_common) .none kV_common dc_common pm_common an_common cd_common ct_common), sl_common⟩)
    (c_common : PySem.W.codeIn K cd_common "common" = true) (k_common : PySem.W.keepIn K (.ref f_common) = true)
    {f_frac : Addr} {od_frac an_frac : Option Addr} {sl_frac : Array (Option Value)} {oc_frac kV_frac dc_frac pm_frac cd_frac ct_frac : Value}
    (a_frac : PySem.W.nsIn K mainGlobals "frac" = some (some (.ref f_frac)))
    {T_frac : Addr} {oT_frac : Obj} {iT_frac : Array Value} {nT_frac : Nat}
    (l_frac : K.lookup f_frac = some ⟨oc_frac, od_frac, .func (PySem.W.fnOf "frac" "frac" (defArgs s_frac) (defBody s_frac) (defScope s_frac) (.ref T_frac) kV_frac dc_frac pm_frac an_frac cd_frac ct_frac), sl_frac⟩)
    (t_frac : K.lookup T_frac = some oT_frac)
    (u_frac : oT_frac.data = .seq iT_frac nT_frac)
    (v_frac : Vals [.int 1] iT_frac.toList)
    (c_frac : PySem.W.codeIn K cd_frac "frac" = true) (k_frac : PySem.W.keepIn K (.ref f_frac) = true)
    {f_plus : Addr} {od_plus an_plus : Option Addr} {sl_plus : Array (Option Value)} {oc_plus kV_plus dc_plus pm_plus cd_plus ct_plus : Value}
    (a_plus : PySem.W.nsIn K mainGlobals "plus" = some (some (.ref f_plus)))
    (l_plus : K.lookup f_plus = some ⟨oc_plus, od_plus, .func (PySem.W.fnOf "plus" "plus" (defArgs s_plus) (defBody s_plus) (defScope s_plus) .none kV_plus dc_plus pm_plus an_plus cd_plus ct_plus), sl_plus⟩)
    (c_plus : PySem.W.codeIn K cd_plus "plus" = true) (k_plus : PySem.W.keepIn K (.ref f_plus) = true)
    {f_minus : Addr} {od_minus an_minus : Option Addr} {sl_minus : Array (Option Value)} {oc_minus kV_minus dc_minus pm_minus cd_minus ct_minus : Value}
    (a_minus : PySem.W.nsIn K mainGlobals "minus" = some (some (.ref f_minus)))
    (l_minus : K.lookup f_minus = some ⟨oc_minus, od_minus, .func (PySem.W.fnOf "minus" "minus" (defArgs s_minus) (defBody s_minus) (defScope s_minus) .none kV_minus dc_minus pm_minus an_minus cd_minus ct_minus), sl_minus⟩)
    (c_minus : PySem.W.codeIn K cd_minus "minus" = true) (k_minus : PySem.W.keepIn K (.ref f_minus) = true)
    {f_times : Addr} {od_times an_times : Option Addr} {sl_times : Array (Option Value)} {oc_times kV_times dc_times pm_times cd_times ct_times : Value}
    (a_times : PySem.W.nsIn K mainGlobals "times" = some (some (.ref f_times)))
    (l_times : K.lookup f_times = some ⟨oc_times, od_times, .func (PySem.W.fnOf "times" "times" (defArgs s_times) (defBody s_times) (defScope s_times) .none kV_times dc_times pm_times an_times cd_times ct_times), sl_times⟩)
    (c_times : PySem.W.codeIn K cd_times "times" = true) (k_times : PySem.W.keepIn K (.ref f_times) = true)
    {f_is_below : Addr} {od_is_below an_is_below : Option Addr} {sl_is_below : Array (Option Value)} {oc_is_below kV_is_below dc_is_below pm_is_below cd_is_below ct_is_below : Value}
    (a_is_below : PySem.W.nsIn K mainGlobals "is_below" = some (some (.ref f_is_below)))
    (l_is_below : K.lookup f_is_below = some ⟨oc_is_below, od_is_below, .func (PySem.W.fnOf "is_below" "is_below" (defArgs s_is_below) (defBody s_is_below) (defScope s_is_below) .none kV_is_below dc_is_below pm_is_below an_is_below cd_is_below ct_is_below), sl_is_below⟩)
    (c_is_below : PySem.W.codeIn K cd_is_below "is_below" = true) (k_is_below : PySem.W.keepIn K (.ref f_is_below) = true)
    {f_power : Addr} {od_power an_power : Option Addr} {sl_power : Array (Option Value)} {oc_power kV_power dc_power pm_power cd_power ct_power : Value}
    (a_power : PySem.W.nsIn K mainGlobals "power" = some (some (.ref f_power)))
    (l_power : K.lookup f_power = some ⟨oc_power, od_power, .func (PySem.W.fnOf "power" "power" (defArgs s_power) (defBody s_power) (defScope s_power) .none kV_power dc_power pm_power an_power cd_power ct_power), sl_power⟩)
    (c_power : PySem.W.codeIn K cd_power "power" = true) (k_power : PySem.W.keepIn K (.ref f_power) = true)
    {f_least_power : Addr} {od_least_power an_least_power : Option Addr} {sl_least_power : Array (Option Value)} {oc_least_power kV_least_power dc_least_power pm_least_power cd_least_power ct_least_power : Value}
    (a_least_power : PySem.W.nsIn K mainGlobals "least_power" = some (some (.ref f_least_power)))
    (l_least_power : K.lookup f_least_power = some ⟨oc_least_power, od_least_power, .func (PySem.W.fnOf "least_power" "least_power" (defArgs s_least_power) (defBody s_least_power) (defScope s_least_power) .none kV_least_power dc_least_power pm_least_power an_least_power cd_least_power ct_least_power), sl_least_power⟩)
    (c_least_power : PySem.W.codeIn K cd_least_power "least_power" = true) (k_least_power : PySem.W.keepIn K (.ref f_least_power) = true)
    {f_known_to : Addr} {od_known_to an_known_to : Option Addr} {sl_known_to : Array (Option Value)} {oc_known_to kV_known_to dc_known_to pm_known_to cd_known_to ct_known_to : Value}
    (a_known_to : PySem.W.nsIn K mainGlobals "known_to" = some (some (.ref f_known_to)))
    (l_known_to : K.lookup f_known_to = some ⟨oc_known_to, od_known_to, .func (PySem.W.fnOf "known_to" "known_to" (defArgs s_known_to) (defBody s_known_to) (defScope s_known_to) .none kV_known_to dc_known_to pm_known_to an_known_to cd_known_to ct_known_to), sl_known_to⟩)
    (c_known_to : PySem.W.codeIn K cd_known_to "known_to" = true) (k_known_to : PySem.W.keepIn K (.ref f_known_to) = true)
    {f_whole_of : Addr} {od_whole_of an_whole_of : Option Addr} {sl_whole_of : Array (Option Value)} {oc_whole_of kV_whole_of dc_whole_of pm_whole_of cd_whole_of ct_whole_of : Value}
    (a_whole_of : PySem.W.nsIn K mainGlobals "whole_of" = some (some (.ref f_whole_of)))
    (l_whole_of : K.lookup f_whole_of = some ⟨oc_whole_of, od_whole_of, .func (PySem.W.fnOf "whole_of" "whole_of" (defArgs s_whole_of) (defBody s_whole_of) (defScope s_whole_of) .none kV_whole_of dc_whole_of pm_whole_of an_whole_of cd_whole_of ct_whole_of), sl_whole_of⟩)
    (c_whole_of : PySem.W.codeIn K cd_whole_of "whole_of" = true) (k_whole_of : PySem.W.keepIn K (.ref f_whole_of) = true)
    {f_worth_of : Addr} {od_worth_of an_worth_of : Option Addr} {sl_worth_of : Array (Option Value)} {oc_worth_of kV_worth_of dc_worth_of pm_worth_of cd_worth_of ct_worth_of : Value}
    (a_worth_of : PySem.W.nsIn K mainGlobals "worth_of" = some (some (.ref f_worth_of)))
    (l_worth_of : K.lookup f_worth_of = some ⟨oc_worth_of, od_worth_of, .func (PySem.W.fnOf "worth_of" "worth_of" (defArgs s_worth_of) (defBody s_worth_of) (defScope s_worth_of) .none kV_worth_of dc_worth_of pm_worth_of an_worth_of cd_worth_of ct_worth_of), sl_worth_of⟩)
    (c_worth_of : PySem.W.codeIn K cd_worth_of "worth_of" = true) (k_worth_of : PySem.W.keepIn K (.ref f_worth_of) = true)
    {f_tail_of : Addr} {od_tail_of an_tail_of : Option Addr} {sl_tail_of : Array (Option Value)} {oc_tail_of kV_tail_of dc_tail_of pm_tail_of cd_tail_of ct_tail_of : Value}
    (a_tail_of : PySem.W.nsIn K mainGlobals "tail_of" = some (some (.ref f_tail_of)))
    (l_tail_of : K.lookup f_tail_of = some ⟨oc_tail_of, od_tail_of, .func (PySem.W.fnOf "tail_of" "tail_of" (defArgs s_tail_of) (defBody s_tail_of) (defScope s_tail_of) .none kV_tail_of dc_tail_of pm_tail_of an_tail_of cd_tail_of ct_tail_of), sl_tail_of⟩)
    (c_tail_of : PySem.W.codeIn K cd_tail_of "tail_of" = true) (k_tail_of : PySem.W.keepIn K (.ref f_tail_of) = true)
    {f_span_of : Addr} {od_span_of an_span_of : Option Addr} {sl_span_of : Array (Option Value)} {oc_span_of kV_span_of dc_span_of pm_span_of cd_span_of ct_span_of : Value}
    (a_span_of : PySem.W.nsIn K mainGlobals "span_of" = some (some (.ref f_span_of)))
    (l_span_of : K.lookup f_span_of = some ⟨oc_span_of, od_span_of, .func (PySem.W.fnOf "span_of" "span_of" (defArgs s_span_of) (defBody s_span_of) (defScope s_span_of) .none kV_span_of dc_span_of pm_span_of an_span_of cd_span_of ct_span_of), sl_span_of⟩)
    (c_span_of : PySem.W.codeIn K cd_span_of "span_of" = true) (k_span_of : PySem.W.keepIn K (.ref f_span_of) = true)
    {f_stands_for : Addr} {od_stands_for an_stands_for : Option Addr} {sl_stands_for : Array (Option Value)} {oc_stands_for kV_stands_for dc_stands_for pm_stands_for cd_stands_for ct_stands_for : Value}
    (a_stands_for : PySem.W.nsIn K mainGlobals "stands_for" = some (some (.ref f_stands_for)))
    (l_stands_for : K.lookup f_stands_for = some ⟨oc_stands_for, od_stands_for, .func (PySem.W.fnOf "stands_for" "stands_for" (defArgs s_stands_for) (defBody s_stands_for) (defScope s_stands_for) .none kV_stands_for dc_stands_for pm_stands_for an_stands_for cd_stands_for ct_stands_for), sl_stands_for⟩)
    (c_stands_for : PySem.W.codeIn K cd_stands_for "stands_for" = true) (k_stands_for : PySem.W.keepIn K (.ref f_stands_for) = true)
    {f_cut_of : Addr} {od_cut_of an_cut_of : Option Addr} {sl_cut_of : Array (Option Value)} {oc_cut_of kV_cut_of dc_cut_of pm_cut_of cd_cut_of ct_cut_of : Value}
    (a_cut_of : PySem.W.nsIn K mainGlobals "cut_of" = some (some (.ref f_cut_of)))
    (l_cut_of : K.lookup f_cut_of = some ⟨oc_cut_of, od_cut_of, .func (PySem.W.fnOf "cut_of" "cut_of" (defArgs s_cut_of) (defBody s_cut_of) (defScope s_cut_of) .none kV_cut_of dc_cut_of pm_cut_of an_cut_of cd_cut_of ct_cut_of), sl_cut_of⟩)
    (c_cut_of : PySem.W.codeIn K cd_cut_of "cut_of" = true) (k_cut_of : PySem.W.keepIn K (.ref f_cut_of) = true)
    {f_order_of : Addr} {od_order_of an_order_of : Option Addr} {sl_order_of : Array (Option Value)} {oc_order_of kV_order_of dc_order_of pm_order_of cd_order_of ct_order_of : Value}
    (a_order_of : PySem.W.nsIn K mainGlobals "order_of" = some (some (.ref f_order_of)))
    (l_order_of : K.lookup f_order_of = some ⟨oc_order_of, od_order_of, .func (PySem.W.fnOf "order_of" "order_of" (defArgs s_order_of) (defBody s_order_of) (defScope s_order_of) .none kV_order_of dc_order_of pm_order_of an_order_of cd_order_of ct_order_of), sl_order_of⟩)
    (c_order_of : PySem.W.codeIn K cd_order_of "order_of" = true) (k_order_of : PySem.W.keepIn K (.ref f_order_of) = true)
    {f_raised : Addr} {od_raised an_raised : Option Addr} {sl_raised : Array (Option Value)} {oc_raised kV_raised dc_raised pm_raised cd_raised ct_raised : Value}
    (a_raised : PySem.W.nsIn K mainGlobals "raised" = some (some (.ref f_raised)))
    (l_raised : K.lookup f_raised = some ⟨oc_raised, od_raised, .func (PySem.W.fnOf "raised" "raised" (defArgs s_raised) (defBody s_raised) (defScope s_raised) .none kV_raised dc_raised pm_raised an_raised cd_raised ct_raised), sl_raised⟩)
    (c_raised : PySem.W.codeIn K cd_raised "raised" = true) (k_raised : PySem.W.keepIn K (.ref f_raised) = true)
    {f_figures_between : Addr} {od_figures_between an_figures_between : Option Addr} {sl_figures_between : Array (Option Value)} {oc_figures_between kV_figures_between dc_figures_between pm_figures_between cd_figures_between ct_figures_between : Value}
    (a_figures_between : PySem.W.nsIn K mainGlobals "figures_between" = some (some (.ref f_figures_between)))
    (l_figures_between : K.lookup f_figures_between = some ⟨oc_figures_between, od_figures_between, .func (PySem.W.fnOf "figures_between" "figures_between" (defArgs s_figures_between) (defBody s_figures_between) (defScope s_figures_between) .none kV_figures_between dc_figures_between pm_figures_between an_figures_between cd_figures_between ct_figures_between), sl_figures_between⟩)
    (c_figures_between : PySem.W.codeIn K cd_figures_between "figures_between" = true) (k_figures_between : PySem.W.keepIn K (.ref f_figures_between) = true)
    {f_based_right : Addr} {od_based_right an_based_right : Option Addr} {sl_based_right : Array (Option Value)} {oc_based_right kV_based_right dc_based_right pm_based_right cd_based_right ct_based_right : Value}
    (a_based_right : PySem.W.nsIn K mainGlobals "based_right" = some (some (.ref f_based_right)))
    (l_based_right : K.lookup f_based_right = some ⟨oc_based_right, od_based_right, .func (PySem.W.fnOf "based_right" "based_right" (defArgs s_based_right) (defBody s_based_right) (defScope s_based_right) .none kV_based_right dc_based_right pm_based_right an_based_right cd_based_right ct_based_right), sl_based_right⟩)
    (c_based_right : PySem.W.codeIn K cd_based_right "based_right" = true) (k_based_right : PySem.W.keepIn K (.ref f_based_right) = true)
    {f_Teller_init : Addr} {od_Teller_init an_Teller_init : Option Addr} {sl_Teller_init : Array (Option Value)} {oc_Teller_init kV_Teller_init dc_Teller_init pm_Teller_init cd_Teller_init ct_Teller_init : Value}
    (a_Teller_init : PySem.W.findIn K (.ref C_Teller) "__init__" = some (some (.ref f_Teller_init))) (i_Teller_init : PySem.W.isFn K (.ref f_Teller_init) = true)
    (l_Teller_init : K.lookup f_Teller_init = some ⟨oc_Teller_init, od_Teller_init, .func (PySem.W.fnOf "__init__" "Teller.__init__" (defArgs s_Teller_init) (defBody s_Teller_init) (defScope s_Teller_init) .none kV_Teller_init dc_Teller_init pm_Teller_init an_Teller_init cd_Teller_init ct_Teller_init), sl_Teller_init⟩)
    (c_Teller_init : PySem.W.codeIn K cd_Teller_init "Teller.__init__" = true) (k_Teller_init : PySem.W.keepIn K (.ref f_Teller_init) = true)
    {f_Teller_row : Addr} {od_Teller_row an_Teller_row : Option Addr} {sl_Teller_row : Array (Option Value)} {oc_Teller_row kV_Teller_row dc_Teller_row pm_Teller_row cd_Teller_row ct_Teller_row : Value}
    (a_Teller_row : PySem.W.findIn K (.ref C_Teller) "row" = some (some (.ref f_Teller_row))) (i_Teller_row : PySem.W.isFn K (.ref f_Teller_row) = true)
    (l_Teller_row : K.lookup f_Teller_row = some ⟨oc_Teller_row, od_Teller_row, .func (PySem.W.fnOf "row" "Teller.row" (defArgs s_Teller_row) (defBody s_Teller_row) (defScope s_Teller_row) .none kV_Teller_row dc_Teller_row pm_Teller_row an_Teller_row cd_Teller_row ct_Teller_row), sl_Teller_row⟩)
    (c_Teller_row : PySem.W.codeIn K cd_Teller_row "Teller.row" = true) (k_Teller_row : PySem.W.keepIn K (.ref f_Teller_row) = true)
    {f_Teller_next_figure : Addr} {od_Teller_next_figure an_Teller_next_figure : Option Addr} {sl_Teller_next_figure : Array (Option Value)} {oc_Teller_next_figure kV_Teller_next_figure dc_Teller_next_figure pm_Teller_next_figure cd_Teller_next_figure ct_Teller_next_figure : Value}
    (a_Teller_next_figure : PySem.W.findIn K (.ref C_Teller) "next_figure" = some (some (.ref f_Teller_next_figure))) (i_Teller_next_figure : PySem.W.isFn K (.ref f_Teller_next_figure) = true)
    (l_Teller_next_figure : K.lookup f_Teller_next_figure = some ⟨oc_Teller_next_figure, od_Teller_next_figure, .func (PySem.W.fnOf "next_figure" "Teller.next_figure" (defArgs s_Teller_next_figure) (defBody s_Teller_next_figure) (defScope s_Teller_next_figure) .none kV_Teller_next_figure dc_Teller_next_figure pm_Teller_next_figure an_Teller_next_figure cd_Teller_next_figure ct_Teller_next_figure), sl_Teller_next_figure⟩)
    (c_Teller_next_figure : PySem.W.codeIn K cd_Teller_next_figure "Teller.next_figure" = true) (k_Teller_next_figure : PySem.W.keepIn K (.ref f_Teller_next_figure) = true)
    {f_Teller_step : Addr} {od_Teller_step an_Teller_step : Option Addr} {sl_Teller_step : Array (Option Value)} {oc_Teller_step kV_Teller_step dc_Teller_step pm_Teller_step cd_Teller_step ct_Teller_step : Value}
    (a_Teller_step : PySem.W.findIn K (.ref C_Teller) "step" = some (some (.ref f_Teller_step))) (i_Teller_step : PySem.W.isFn K (.ref f_Teller_step) = true)
    (l_Teller_step : K.lookup f_Teller_step = some ⟨oc_Teller_step, od_Teller_step, .func (PySem.W.fnOf "step" "Teller.step" (defArgs s_Teller_step) (defBody s_Teller_step) (defScope s_Teller_step) .none kV_Teller_step dc_Teller_step pm_Teller_step an_Teller_step cd_Teller_step ct_Teller_step), sl_Teller_step⟩)
    (c_Teller_step : PySem.W.codeIn K cd_Teller_step "Teller.step" = true) (k_Teller_step : PySem.W.keepIn K (.ref f_Teller_step) = true)
    {f_based_run : Addr} {od_based_run an_based_run : Option Addr} {sl_based_run : Array (Option Value)} {oc_based_run kV_based_run dc_based_run pm_based_run cd_based_run ct_based_run : Value}
    (a_based_run : PySem.W.nsIn K mainGlobals "based_run" = some (some (.ref f_based_run)))
    (l_based_run : K.lookup f_based_run = some ⟨oc_based_run, od_based_run, .func (PySem.W.fnOf "based_run" "based_run" (defArgs s_based_run) (defBody s_based_run) (defScope s_based_run) .none kV_based_run dc_based_run pm_based_run an_based_run cd_based_run ct_based_run), sl_based_run⟩)
    (c_based_run : PySem.W.codeIn K cd_based_run "based_run" = true) (k_based_run : PySem.W.keepIn K (.ref f_based_run) = true)
    {f_reach_by : Addr} {od_reach_by an_reach_by : Option Addr} {sl_reach_by : Array (Option Value)} {oc_reach_by kV_reach_by dc_reach_by pm_reach_by cd_reach_by ct_reach_by : Value}
    (a_reach_by : PySem.W.nsIn K mainGlobals "reach_by" = some (some (.ref f_reach_by)))
    (l_reach_by : K.lookup f_reach_by = some ⟨oc_reach_by, od_reach_by, .func (PySem.W.fnOf "reach_by" "reach_by" (defArgs s_reach_by) (defBody s_reach_by) (defScope s_reach_by) .none kV_reach_by dc_reach_by pm_reach_by an_reach_by cd_reach_by ct_reach_by), sl_reach_by⟩)
    (c_reach_by : PySem.W.codeIn K cd_reach_by "reach_by" = true) (k_reach_by : PySem.W.keepIn K (.ref f_reach_by) = true)
    {f_based_fits : Addr} {od_based_fits an_based_fits : Option Addr} {sl_based_fits : Array (Option Value)} {oc_based_fits kV_based_fits dc_based_fits pm_based_fits cd_based_fits ct_based_fits : Value}
    (a_based_fits : PySem.W.nsIn K mainGlobals "based_fits" = some (some (.ref f_based_fits)))
    (l_based_fits : K.lookup f_based_fits = some ⟨oc_based_fits, od_based_fits, .func (PySem.W.fnOf "based_fits" "based_fits" (defArgs s_based_fits) (defBody s_based_fits) (defScope s_based_fits) .none kV_based_fits dc_based_fits pm_based_fits an_based_fits cd_based_fits ct_based_fits), sl_based_fits⟩)
    (c_based_fits : PySem.W.codeIn K cd_based_fits "based_fits" = true) (k_based_fits : PySem.W.keepIn K (.ref f_based_fits) = true)
    {f_told_read : Addr} {od_told_read an_told_read : Option Addr} {sl_told_read : Array (Option Value)} {oc_told_read kV_told_read dc_told_read pm_told_read cd_told_read ct_told_read : Value}
    (a_told_read : PySem.W.nsIn K mainGlobals "told_read" = some (some (.ref f_told_read)))
    (l_told_read : K.lookup f_told_read = some ⟨oc_told_read, od_told_read, .func (PySem.W.fnOf "told_read" "told_read" (defArgs s_told_read) (defBody s_told_read) (defScope s_told_read) .none kV_told_read dc_told_read pm_told_read an_told_read cd_told_read ct_told_read), sl_told_read⟩)
    (c_told_read : PySem.W.codeIn K cd_told_read "told_read" = true) (k_told_read : PySem.W.keepIn K (.ref f_told_read) = true)
    {f_Lcell_at : Addr} {od_Lcell_at an_Lcell_at : Option Addr} {sl_Lcell_at : Array (Option Value)} {oc_Lcell_at kV_Lcell_at dc_Lcell_at pm_Lcell_at cd_Lcell_at ct_Lcell_at : Value}
    (a_Lcell_at : PySem.W.nsIn K mainGlobals "_law_cell_at" = some (some (.ref f_Lcell_at)))
    (l_Lcell_at : K.lookup f_Lcell_at = some ⟨oc_Lcell_at, od_Lcell_at, .func (PySem.W.fnOf "_law_cell_at" "_law_cell_at" (defArgs s_Lcell_at) (defBody s_Lcell_at) (defScope s_Lcell_at) .none kV_Lcell_at dc_Lcell_at pm_Lcell_at an_Lcell_at cd_Lcell_at ct_Lcell_at), sl_Lcell_at⟩)
    (c_Lcell_at : PySem.W.codeIn K cd_Lcell_at "_law_cell_at" = true) (k_Lcell_at : PySem.W.keepIn K (.ref f_Lcell_at) = true)
    {f_Lbox : Addr} {od_Lbox an_Lbox : Option Addr} {sl_Lbox : Array (Option Value)} {oc_Lbox kV_Lbox dc_Lbox pm_Lbox cd_Lbox ct_Lbox : Value}
    (a_Lbox : PySem.W.nsIn K mainGlobals "_law_box" = some (some (.ref f_Lbox)))
    (l_Lbox : K.lookup f_Lbox = some ⟨oc_Lbox, od_Lbox, .func (PySem.W.fnOf "_law_box" "_law_box" (defArgs s_Lbox) (defBody s_Lbox) (defScope s_Lbox) .none kV_Lbox dc_Lbox pm_Lbox an_Lbox cd_Lbox ct_Lbox), sl_Lbox⟩)
    (c_Lbox : PySem.W.codeIn K cd_Lbox "_law_box" = true) (k_Lbox : PySem.W.keepIn K (.ref f_Lbox) = true)
    {f_Ltake : Addr} {od_Ltake an_Ltake : Option Addr} {sl_Ltake : Array (Option Value)} {oc_Ltake kV_Ltake dc_Ltake pm_Ltake cd_Ltake ct_Ltake : Value}
    (a_Ltake : PySem.W.nsIn K mainGlobals "_law_take" = some (some (.ref f_Ltake)))
    (l_Ltake : K.lookup f_Ltake = some ⟨oc_Ltake, od_Ltake, .func (PySem.W.fnOf "_law_take" "_law_take" (defArgs s_Ltake) (defBody s_Ltake) (defScope s_Ltake) .none kV_Ltake dc_Ltake pm_Ltake an_Ltake cd_Ltake ct_Ltake), sl_Ltake⟩)
    (c_Ltake : PySem.W.codeIn K cd_Ltake "_law_take" = true) (k_Ltake : PySem.W.keepIn K (.ref f_Ltake) = true)
    {f_Lof : Addr} {od_Lof an_Lof : Option Addr} {sl_Lof : Array (Option Value)} {oc_Lof kV_Lof dc_Lof pm_Lof cd_Lof ct_Lof : Value}
    (a_Lof : PySem.W.nsIn K mainGlobals "_law_of" = some (some (.ref f_Lof)))
    (l_Lof : K.lookup f_Lof = some ⟨oc_Lof, od_Lof, .func (PySem.W.fnOf "_law_of" "_law_of" (defArgs s_Lof) (defBody s_Lof) (defScope s_Lof) .none kV_Lof dc_Lof pm_Lof an_Lof cd_Lof ct_Lof), sl_Lof⟩)
    (c_Lof : PySem.W.codeIn K cd_Lof "_law_of" = true) (k_Lof : PySem.W.keepIn K (.ref f_Lof) = true)
    {f_Lfrac : Addr} {od_Lfrac an_Lfrac : Option Addr} {sl_Lfrac : Array (Option Value)} {oc_Lfrac kV_Lfrac dc_Lfrac pm_Lfrac cd_Lfrac ct_Lfrac : Value}
    (a_Lfrac : PySem.W.nsIn K mainGlobals "_law_frac" = some (some (.ref f_Lfrac)))
    (l_Lfrac : K.lookup f_Lfrac = some ⟨oc_Lfrac, od_Lfrac, .func (PySem.W.fnOf "_law_frac" "_law_frac" (defArgs s_Lfrac) (defBody s_Lfrac) (defScope s_Lfrac) .none kV_Lfrac dc_Lfrac pm_Lfrac an_Lfrac cd_Lfrac ct_Lfrac), sl_Lfrac⟩)
    (c_Lfrac : PySem.W.codeIn K cd_Lfrac "_law_frac" = true) (k_Lfrac : PySem.W.keepIn K (.ref f_Lfrac) = true)
    {f_Lless : Addr} {od_Lless an_Lless : Option Addr} {sl_Lless : Array (Option Value)} {oc_Lless kV_Lless dc_Lless pm_Lless cd_Lless ct_Lless : Value}
    (a_Lless : PySem.W.nsIn K mainGlobals "_law_less" = some (some (.ref f_Lless)))
    (l_Lless : K.lookup f_Lless = some ⟨oc_Lless, od_Lless, .func (PySem.W.fnOf "_law_less" "_law_less" (defArgs s_Lless) (defBody s_Lless) (defScope s_Lless) .none kV_Lless dc_Lless pm_Lless an_Lless cd_Lless ct_Lless), sl_Lless⟩)
    (c_Lless : PySem.W.codeIn K cd_Lless "_law_less" = true) (k_Lless : PySem.W.keepIn K (.ref f_Lless) = true)
    {f_Lby : Addr} {od_Lby an_Lby : Option Addr} {sl_Lby : Array (Option Value)} {oc_Lby kV_Lby dc_Lby pm_Lby cd_Lby ct_Lby : Value}
    (a_Lby : PySem.W.nsIn K mainGlobals "_law_by" = some (some (.ref f_Lby)))
    (l_Lby : K.lookup f_Lby = some ⟨oc_Lby, od_Lby, .func (PySem.W.fnOf "_law_by" "_law_by" (defArgs s_Lby) (defBody s_Lby) (defScope s_Lby) .none kV_Lby dc_Lby pm_Lby an_Lby cd_Lby ct_Lby), sl_Lby⟩)
    (c_Lby : PySem.W.codeIn K cd_Lby "_law_by" = true) (k_Lby : PySem.W.keepIn K (.ref f_Lby) = true)
    {f_Lbelow : Addr} {od_Lbelow an_Lbelow : Option Addr} {sl_Lbelow : Array (Option Value)} {oc_Lbelow kV_Lbelow dc_Lbelow pm_Lbelow cd_Lbelow ct_Lbelow : Value}
    (a_Lbelow : PySem.W.nsIn K mainGlobals "_law_below" = some (some (.ref f_Lbelow)))
    (l_Lbelow : K.lookup f_Lbelow = some ⟨oc_Lbelow, od_Lbelow, .func (PySem.W.fnOf "_law_below" "_law_below" (defArgs s_Lbelow) (defBody s_Lbelow) (defScope s_Lbelow) .none kV_Lbelow dc_Lbelow pm_Lbelow an_Lbelow cd_Lbelow ct_Lbelow), sl_Lbelow⟩)
    (c_Lbelow : PySem.W.codeIn K cd_Lbelow "_law_below" = true) (k_Lbelow : PySem.W.keepIn K (.ref f_Lbelow) = true)
    {f_Lpower : Addr} {od_Lpower an_Lpower : Option Addr} {sl_Lpower : Array (Option Value)} {oc_Lpower kV_Lpower dc_Lpower pm_Lpower cd_Lpower ct_Lpower : Value}
    (a_Lpower : PySem.W.nsIn K mainGlobals "_law_power" = some (some (.ref f_Lpower)))
    (l_Lpower : K.lookup f_Lpower = some ⟨oc_Lpower, od_Lpower, .func (PySem.W.fnOf "_law_power" "_law_power" (defArgs s_Lpower) (defBody s_Lpower) (defScope s_Lpower) .none kV_Lpower dc_Lpower pm_Lpower an_Lpower cd_Lpower ct_Lpower), sl_Lpower⟩)
    (c_Lpower : PySem.W.codeIn K cd_Lpower "_law_power" = true) (k_Lpower : PySem.W.keepIn K (.ref f_Lpower) = true)
    {f_Lmost : Addr} {od_Lmost an_Lmost : Option Addr} {sl_Lmost : Array (Option Value)} {oc_Lmost kV_Lmost dc_Lmost pm_Lmost cd_Lmost ct_Lmost : Value}
    (a_Lmost : PySem.W.nsIn K mainGlobals "_law_most" = some (some (.ref f_Lmost)))
    (l_Lmost : K.lookup f_Lmost = some ⟨oc_Lmost, od_Lmost, .func (PySem.W.fnOf "_law_most" "_law_most" (defArgs s_Lmost) (defBody s_Lmost) (defScope s_Lmost) .none kV_Lmost dc_Lmost pm_Lmost an_Lmost cd_Lmost ct_Lmost), sl_Lmost⟩)
    (c_Lmost : PySem.W.codeIn K cd_Lmost "_law_most" = true) (k_Lmost : PySem.W.keepIn K (.ref f_Lmost) = true)
    {f_Lsigns : Addr} {od_Lsigns an_Lsigns : Option Addr} {sl_Lsigns : Array (Option Value)} {oc_Lsigns kV_Lsigns dc_Lsigns pm_Lsigns cd_Lsigns ct_Lsigns : Value}
    (a_Lsigns : PySem.W.nsIn K mainGlobals "_law_signs" = some (some (.ref f_Lsigns)))
    (l_Lsigns : K.lookup f_Lsigns = some ⟨oc_Lsigns, od_Lsigns, .func (PySem.W.fnOf "_law_signs" "_law_signs" (defArgs s_Lsigns) (defBody s_Lsigns) (defScope s_Lsigns) .none kV_Lsigns dc_Lsigns pm_Lsigns an_Lsigns cd_Lsigns ct_Lsigns), sl_Lsigns⟩)
    (c_Lsigns : PySem.W.codeIn K cd_Lsigns "_law_signs" = true) (k_Lsigns : PySem.W.keepIn K (.ref f_Lsigns) = true)
    {f_Lon : Addr} {od_Lon an_Lon : Option Addr} {sl_Lon : Array (Option Value)} {oc_Lon kV_Lon dc_Lon pm_Lon cd_Lon ct_Lon : Value}
    (a_Lon : PySem.W.nsIn K mainGlobals "_law_on" = some (some (.ref f_Lon)))
    (l_Lon : K.lookup f_Lon = some ⟨oc_Lon, od_Lon, .func (PySem.W.fnOf "_law_on" "_law_on" (defArgs s_Lon) (defBody s_Lon) (defScope s_Lon) .none kV_Lon dc_Lon pm_Lon an_Lon cd_Lon ct_Lon), sl_Lon⟩)
    (c_Lon : PySem.W.codeIn K cd_Lon "_law_on" = true) (k_Lon : PySem.W.keepIn K (.ref f_Lon) = true)
    {f_Lis_far : Addr} {od_Lis_far an_Lis_far : Option Addr} {sl_Lis_far : Array (Option Value)} {oc_Lis_far kV_Lis_far dc_Lis_far pm_Lis_far cd_Lis_far ct_Lis_far : Value}
    (a_Lis_far : PySem.W.nsIn K mainGlobals "_law_is_far" = some (some (.ref f_Lis_far)))
    (l_Lis_far : K.lookup f_Lis_far = some ⟨oc_Lis_far, od_Lis_far, .func (PySem.W.fnOf "_law_is_far" "_law_is_far" (defArgs s_Lis_far) (defBody s_Lis_far) (defScope s_Lis_far) .none kV_Lis_far dc_Lis_far pm_Lis_far an_Lis_far cd_Lis_far ct_Lis_far), sl_Lis_far⟩)
    (c_Lis_far : PySem.W.codeIn K cd_Lis_far "_law_is_far" = true) (k_Lis_far : PySem.W.keepIn K (.ref f_Lis_far) = true)
    {f_Lchain : Addr} {od_Lchain an_Lchain : Option Addr} {sl_Lchain : Array (Option Value)} {oc_Lchain kV_Lchain dc_Lchain pm_Lchain cd_Lchain ct_Lchain : Value}
    (a_Lchain : PySem.W.nsIn K mainGlobals "_law_chain" = some (some (.ref f_Lchain)))
    (l_Lchain : K.lookup f_Lchain = some ⟨oc_Lchain, od_Lchain, .func (PySem.W.fnOf "_law_chain" "_law_chain" (defArgs s_Lchain) (defBody s_Lchain) (defScope s_Lchain) .none kV_Lchain dc_Lchain pm_Lchain an_Lchain cd_Lchain ct_Lchain), sl_Lchain⟩)
    (c_Lchain : PySem.W.codeIn K cd_Lchain "_law_chain" = true) (k_Lchain : PySem.W.keepIn K (.ref f_Lchain) = true)
    {f_Lright : Addr} {od_Lright an_Lright : Option Addr} {sl_Lright : Array (Option Value)} {oc_Lright kV_Lright dc_Lright pm_Lright cd_Lright ct_Lright : Value}
    (a_Lright : PySem.W.nsIn K mainGlobals "_law_right" = some (some (.ref f_Lright)))
    (l_Lright : K.lookup f_Lright = some ⟨oc_Lright, od_Lright, .func (PySem.W.fnOf "_law_right" "_law_right" (defArgs s_Lright) (defBody s_Lright) (defScope s_Lright) .none kV_Lright dc_Lright pm_Lright an_Lright cd_Lright ct_Lright), sl_Lright⟩)
    (c_Lright : PySem.W.codeIn K cd_Lright "_law_right" = true) (k_Lright : PySem.W.keepIn K (.ref f_Lright) = true)
    {f_law : Addr} {od_law an_law : Option Addr} {sl_law : Array (Option Value)} {oc_law kV_law dc_law pm_law cd_law ct_law : Value}
    (a_law : PySem.W.nsIn K mainGlobals "law" = some (some (.ref f_law)))
    (l_law : K.lookup f_law = some ⟨oc_law, od_law, .func (PySem.W.fnOf "law" "law" (defArgs s_law) (defBody s_law) (defScope s_law) .none kV_law dc_law pm_law an_law cd_law ct_law), sl_law⟩)
    (c_law : PySem.W.codeIn K cd_law "law" = true) (k_law : PySem.W.keepIn K (.ref f_law) = true)
    {cL PL : Addr} {dL : Option Addr} {vL : Array Value} {sL : Array (Option Value)} (zc : cd_Teller_next_figure = .ref cL) (zl : K.lookup cL = some ⟨.type "code", dL, .fields vL, sL⟩) (zp : vL[11]? = some (.ref PL)) (zh : PySem.W.codeHdIn K cL PL = true) (zn : K.lookup PL = none) (zt : h.get? PL = some { cls := .none, data := .fields #[] })
    (z_abs : PySem.W.nsIn K mainGlobals "abs" = some none)
    (z_all : PySem.W.nsIn K mainGlobals "all" = some none)
    (z_any : PySem.W.nsIn K mainGlobals "any" = some none)
    (z_enumerate : PySem.W.nsIn K mainGlobals "enumerate" = some none)
    (z_int : PySem.W.nsIn K mainGlobals "int" = some none)
    (z_len : PySem.W.nsIn K mainGlobals "len" = some none)
    (z_list : PySem.W.nsIn K mainGlobals "list" = some none)
    (z_max : PySem.W.nsIn K mainGlobals "max" = some none)
    (z_min : PySem.W.nsIn K mainGlobals "min" = some none)
    (z_range : PySem.W.nsIn K mainGlobals "range" = some none)
    (z_tuple : PySem.W.nsIn K mainGlobals "tuple" = some none)
    (z_zip : PySem.W.nsIn K mainGlobals "zip" = some none)
    {q_ABOVE : Tok} (g_ABOVE : PySem.W.nsIn K mainGlobals "ABOVE" = some (some (.int 1 q_ABOVE)))
    {q_BELOW : Tok} (g_BELOW : PySem.W.nsIn K mainGlobals "BELOW" = some (some (.int (-1) q_BELOW)))
    : ∃ (fd : FuncData) (c P : Addr), (∀ (s : Shared) (v : Value), BindsTo s fd ⟨[v], []⟩ [("_law_script", v)]) ∧ h.get? P = some { cls := .none, data := .fields #[] } ∧ K.lookup P = none ∧ PySem.W.CodeHd h c P ∧ ∀ base : Heap, K.In base → base.Ns mainGlobals mg → LamX.TabB base mg c P → DG.FnG l.prog w K mg base CX0 13 fa fd ["_law_script"] (spLawT K P) := by
  have e := hfa.symm.trans (PySem.W.mg_of X G a_law)
  cases e
  letI : CT := ⟨fun n => match n with | 1 => C_Teller | 40 => PL | _ => 0⟩
  have T : Tx K mg := ⟨⟨pg_Teller, hd_Teller, po_Teller, sa_Teller⟩, nA_Teller_own_base, nA_Teller_own_begin, nA_Teller_own_figures, nA_Teller_own_most, nA_Teller_own_other, nA_Teller_own_read, nA_Teller_own_row, PySem.W.mg_none_of X G z_abs, PySem.W.mg_none_of X G z_all, PySem.W.mg_none_of X G z_any, PySem.W.mg_none_of X G z_enumerate, PySem.W.mg_none_of X G z_int, PySem.W.mg_none_of X G z_len, PySem.W.mg_none_of X G z_list, PySem.W.mg_none_of X G z_max, PySem.W.mg_none_of X G z_min, PySem.W.mg_none_of X G z_range, PySem.W.mg_none_of X G z_tuple, PySem.W.mg_none_of X G z_zip, ⟨_, PySem.W.mg_of X G g_ABOVE⟩, ⟨_, PySem.W.mg_of X G g_BELOW⟩⟩
  have F_common := fun_mk (st := s_common) l_common c_common k_common
  have B_common := F_common.binds (ps := ["one", "other"]) fun _ _ _ _ _ _ us hl => us_2 us hl fun _ _ => rfl
  have F_frac := funD_mk (st := s_frac) l_frac c_frac k_frac (.inr ⟨by simp, _, _, _, _, rfl, t_frac, u_frac, v_frac⟩)
  have B_frac := bindsAll (ps := ["top", "bottom"]) F_frac 2 (by simp) rfl fun T kV doc pm an cdv ct us its hl h2 => match us, its, hl, h2 with | [_, _], [_], _, _ => ⟨_, rfl, rfl⟩
  have F_plus := fun_mk (st := s_plus) l_plus c_plus k_plus
  have B_plus := F_plus.binds (ps := ["one", "other"]) fun _ _ _ _ _ _ us hl => us_2 us hl fun _ _ => rfl
  have F_minus := fun_mk (st := s_minus) l_minus c_minus k_minus
  have B_minus := F_minus.binds (ps := ["one", "other"]) fun _ _ _ _ _ _ us hl => us_2 us hl fun _ _ => rfl
  have F_times := fun_mk (st := s_times) l_times c_times k_times
  have B_times := F_times.binds (ps := ["one", "other"]) fun _ _ _ _ _ _ us hl => us_2 us hl fun _ _ => rfl
  have F_is_below := fun_mk (st := s_is_below) l_is_below c_is_below k_is_below
  have B_is_below := F_is_below.binds (ps := ["one", "other"]) fun _ _ _ _ _ _ us hl => us_2 us hl fun _ _ => rfl
  have F_power := fun_mk (st := s_power) l_power c_power k_power
  have B_power := F_power.binds (ps := ["base", "many"]) fun _ _ _ _ _ _ us hl => us_2 us hl fun _ _ => rfl
  have F_least_power := fun_mk (st := s_least_power) l_least_power c_least_power k_least_power
  have B_least_power := F_least_power.binds (ps := ["base", "room", "need"]) fun _ _ _ _ _ _ us hl => us_3 us hl fun _ _ _ => rfl
  have F_known_to := fun_mk (st := s_known_to) l_known_to c_known_to k_known_to
  have B_known_to := F_known_to.binds (ps := ["row"]) fun _ _ _ _ _ _ us hl => us_1 us hl fun _ => rfl
  have F_whole_of := fun_mk (st := s_whole_of) l_whole_of c_whole_of k_whole_of
  have B_whole_of := F_whole_of.binds (ps := ["base", "figures"]) fun _ _ _ _ _ _ us hl => us_2 us hl fun _ _ => rfl
  have F_worth_of := fun_mk (st := s_worth_of) l_worth_of c_worth_of k_worth_of
  have B_worth_of := F_worth_of.binds (ps := ["base", "row"]) fun _ _ _ _ _ _ us hl => us_2 us hl fun _ _ => rfl
  have F_tail_of := fun_mk (st := s_tail_of) l_tail_of c_tail_of k_tail_of
  have B_tail_of := F_tail_of.binds (ps := ["base", "row"]) fun _ _ _ _ _ _ us hl => us_2 us hl fun _ _ => rfl
  have F_span_of := fun_mk (st := s_span_of) l_span_of c_span_of k_span_of
  have B_span_of := F_span_of.binds (ps := ["base", "row"]) fun _ _ _ _ _ _ us hl => us_2 us hl fun _ _ => rfl
  have F_stands_for := fun_mk (st := s_stands_for) l_stands_for c_stands_for k_stands_for
  have B_stands_for := F_stands_for.binds (ps := ["base", "row", "number"]) fun _ _ _ _ _ _ us hl => us_3 us hl fun _ _ _ => rfl
  have F_cut_of := fun_mk (st := s_cut_of) l_cut_of c_cut_of k_cut_of
  have B_cut_of := F_cut_of.binds (ps := ["row", "place"]) fun _ _ _ _ _ _ us hl => us_2 us hl fun _ _ => rfl
  have F_order_of := fun_mk (st := s_order_of) l_order_of c_order_of k_order_of
  have B_order_of := F_order_of.binds (ps := ["base", "one", "other"]) fun _ _ _ _ _ _ us hl => us_3 us hl fun _ _ _ => rfl
  have F_raised := fun_mk (st := s_raised) l_raised c_raised k_raised
  have B_raised := F_raised.binds (ps := ["number"]) fun _ _ _ _ _ _ us hl => us_1 us hl fun _ => rfl
  have F_figures_between := fun_mk (st := s_figures_between) l_figures_between c_figures_between k_figures_between
  have B_figures_between := F_figures_between.binds (ps := ["base", "own", "least", "most"]) fun _ _ _ _ _ _ us hl => us_4 us hl fun _ _ _ _ => rfl
  have F_based_right := fun_mk (st := s_based_right) l_based_right c_based_right k_based_right
  have B_based_right := F_based_right.binds (ps := ["base", "other", "row", "own"]) fun _ _ _ _ _ _ us hl => us_4 us hl fun _ _ _ _ => rfl
  have F_Teller_init := fun_mk (st := s_Teller_init) l_Teller_init c_Teller_init k_Teller_init
  have F_Teller_row := fun_mk (st := s_Teller_row) l_Teller_row c_Teller_row k_Teller_row
  have B_Teller_row := F_Teller_row.binds (ps := ["self"]) fun _ _ _ _ _ _ us hl => us_1 us hl fun _ => rfl
  have F_Teller_next_figure := fun_mk (st := s_Teller_next_figure) l_Teller_next_figure c_Teller_next_figure k_Teller_next_figure
  have B_Teller_next_figure := F_Teller_next_figure.binds (ps := ["self"]) fun _ _ _ _ _ _ us hl => us_1 us hl fun _ => rfl
  have F_Teller_step := fun_mk (st := s_Teller_step) l_Teller_step c_Teller_step k_Teller_step
  have B_Teller_step := F_Teller_step.binds (ps := ["self", "to"]) fun _ _ _ _ _ _ us hl => us_2 us hl fun _ _ => rfl
  have F_based_run := fun_mk (st := s_based_run) l_based_run c_based_run k_based_run
  have F_reach_by := fun_mk (st := s_reach_by) l_reach_by c_reach_by k_reach_by
  have B_reach_by := F_reach_by.binds (ps := ["base", "begin", "most"]) fun _ _ _ _ _ _ us hl => us_3 us hl fun _ _ _ => rfl
  have F_based_fits := fun_mk (st := s_based_fits) l_based_fits c_based_fits k_based_fits
  have B_based_fits := F_based_fits.binds (ps := ["base", "other", "source", "begin", "most"]) fun _ _ _ _ _ _ us hl => us_5 us hl fun _ _ _ _ _ => rfl
  have F_told_read := fun_mk (st := s_told_read) l_told_read c_told_read k_told_read
  have B_told_read := F_told_read.binds (ps := ["base", "other", "mine", "most", "place"]) fun _ _ _ _ _ _ us hl => us_5 us hl fun _ _ _ _ _ => rfl
  have F_Lcell_at := fun_mk (st := s_Lcell_at) l_Lcell_at c_Lcell_at k_Lcell_at
  have B_Lcell_at := F_Lcell_at.binds (ps := ["_law_script", "_law_k"]) fun _ _ _ _ _ _ us hl => us_2 us hl fun _ _ => rfl
  have F_Lbox := fun_mk (st := s_Lbox) l_Lbox c_Lbox k_Lbox
  have B_Lbox := F_Lbox.binds (ps := ["_law_script", "_law_k"]) fun _ _ _ _ _ _ us hl => us_2 us hl fun _ _ => rfl
  have F_Ltake := fun_mk (st := s_Ltake) l_Ltake c_Ltake k_Ltake
  have B_Ltake := F_Ltake.binds (ps := ["_law_box_here", "_law_size"]) fun _ _ _ _ _ _ us hl => us_2 us hl fun _ _ => rfl
  have F_Lof := fun_mk (st := s_Lof) l_Lof c_Lof k_Lof
  have B_Lof := F_Lof.binds (ps := ["_law_box_here", "_law_some"]) fun _ _ _ _ _ _ us hl => us_2 us hl fun _ _ => rfl
  have F_Lfrac := fun_mk (st := s_Lfrac) l_Lfrac c_Lfrac k_Lfrac
  have B_Lfrac := F_Lfrac.binds (ps := ["_law_top", "_law_under"]) fun _ _ _ _ _ _ us hl => us_2 us hl fun _ _ => rfl
  have F_Lless := fun_mk (st := s_Lless) l_Lless c_Lless k_Lless
  have B_Lless := F_Lless.binds (ps := ["_law_first", "_law_second"]) fun _ _ _ _ _ _ us hl => us_2 us hl fun _ _ => rfl
  have F_Lby := fun_mk (st := s_Lby) l_Lby c_Lby k_Lby
  have B_Lby := F_Lby.binds (ps := ["_law_first", "_law_second"]) fun _ _ _ _ _ _ us hl => us_2 us hl fun _ _ => rfl
  have F_Lbelow := fun_mk (st := s_Lbelow) l_Lbelow c_Lbelow k_Lbelow
  have B_Lbelow := F_Lbelow.binds (ps := ["_law_first", "_law_second"]) fun _ _ _ _ _ _ us hl => us_2 us hl fun _ _ => rfl
  have F_Lpower := fun_mk (st := s_Lpower) l_Lpower c_Lpower k_Lpower
  have B_Lpower := F_Lpower.binds (ps := ["_law_b", "_law_many"]) fun _ _ _ _ _ _ us hl => us_2 us hl fun _ _ => rfl
  have F_Lmost := fun_mk (st := s_Lmost) l_Lmost c_Lmost k_Lmost
  have B_Lmost := F_Lmost.binds (ps := ["_law_box_here", "_law_b"]) fun _ _ _ _ _ _ us hl => us_2 us hl fun _ _ => rfl
  have F_Lsigns := fun_mk (st := s_Lsigns) l_Lsigns c_Lsigns k_Lsigns
  have B_Lsigns := F_Lsigns.binds (ps := ["_law_box_here", "_law_b", "_law_start", "_law_top", "_law_number", "_law_count"]) fun _ _ _ _ _ _ us hl => us_6 us hl fun _ _ _ _ _ _ => rfl
  have F_Lon := fun_mk (st := s_Lon) l_Lon c_Lon k_Lon
  have B_Lon := F_Lon.binds (ps := ["_law_b", "_law_c", "_law_line", "_law_top"]) fun _ _ _ _ _ _ us hl => us_4 us hl fun _ _ _ _ => rfl
  have F_Lis_far := fun_mk (st := s_Lis_far) l_Lis_far c_Lis_far k_Lis_far
  have B_Lis_far := F_Lis_far.binds (ps := ["_law_b", "_law_c", "_law_line", "_law_found"]) fun _ _ _ _ _ _ us hl => us_4 us hl fun _ _ _ _ => rfl
  have F_Lchain := fun_mk (st := s_Lchain) l_Lchain c_Lchain k_Lchain
  have B_Lchain := F_Lchain.binds (ps := ["_law_bases", "_law_tops", "_law_line"]) fun _ _ _ _ _ _ us hl => us_3 us hl fun _ _ _ => rfl
  have F_Lright := fun_mk (st := s_Lright) l_Lright c_Lright k_Lright
  have B_Lright := F_Lright.binds (ps := ["_law_box_here"]) fun _ _ _ _ _ _ us hl => us_1 us hl fun _ => rfl
  have F_law := fun_mk (st := s_law) l_law c_law k_law
  have B_law := F_law.binds (ps := ["_law_script"]) fun _ _ _ _ _ _ us hl => us_1 us hl fun _ => rfl
  have kb_Teller_init_0 : KBn K _ ["self", "base", "other", "row", "begin", "most"] 4 ["begin", "most"] (pick [0, 1, 2, 3, 4, 5]) (pick [0, 1, 2, 3, 4, 5]) := kbn_mk F_Teller_init fun _ _ _ _ _ _ us ws h1 h2 => match us, ws, h1, h2 with | [_, _, _, _], [_, _], _, _ => rfl
  have kb_based_run_0 : KBn K _ ["base", "other", "row", "begin", "most", "to"] 3 ["begin", "most", "to"] (pick [0, 1, 2, 3, 4, 5]) (pick [0, 1, 2, 3, 4, 5]) := kbn_mk F_based_run fun _ _ _ _ _ _ us ws h1 h2 => match us, ws, h1, h2 with | [_, _, _], [_, _, _], _, _ => rfl
  refine ⟨PySem.W.fnOf "law" "law" (defArgs s_law) (defBody s_law) (defScope s_law) .none kV_law dc_law pm_law an_law cd_law ct_law, cL, PL, fun s v => .of_eq rfl, zt, zn, LamD.codeHd X zh, fun base _ _ TB => ?_⟩
  have G_common : Does l.prog w K mg base 1 "common" ["one", "other"] _ _ sp_common := ⟨PySem.W.mg_of X G a_common, k_common, B_common, ok_common F_common T vc_common len_common  ⟩
  have G_frac : Does l.prog w K mg base 2 "frac" ["top", "bottom"] _ _ sp_frac := ⟨PySem.W.mg_of X G a_frac, k_frac, B_frac, ok_frac F_frac T vc_frac len_frac G_common ⟩
  have G_plus : Does l.prog w K mg base 3 "plus" ["one", "other"] _ _ sp_plus := ⟨PySem.W.mg_of X G a_plus, k_plus, B_plus, ok_plus F_plus T vc_plus len_plus G_frac ⟩
  have G_minus : Does l.prog w K mg base 3 "minus" ["one", "other"] _ _ sp_minus := ⟨PySem.W.mg_of X G a_minus, k_minus, B_minus, ok_minus F_minus T vc_minus len_minus G_frac ⟩
  have G_times : Does l.prog w K mg base 3 "times" ["one", "other"] _ _ sp_times := ⟨PySem.W.mg_of X G a_times, k_times, B_times, ok_times F_times T vc_times len_times G_frac ⟩
  have G_is_below : Does l.prog w K mg base 1 "is_below" ["one", "other"] _ _ sp_is_below := ⟨PySem.W.mg_of X G a_is_below, k_is_below, B_is_below, ok_is_below F_is_below T vc_is_below len_is_below  ⟩
  have G_power : Does l.prog w K mg base 1 "power" ["base", "many"] _ _ sp_power := ⟨PySem.W.mg_of X G a_power, k_power, B_power, ok_power F_power T vc_power len_power  ⟩
  have G_least_power : Does l.prog w K mg base 4 "least_power" ["base", "room", "need"] _ _ sp_least_power := ⟨PySem.W.mg_of X G a_least_power, k_least_power, B_least_power, ok_least_power F_least_power T vc_least_power len_least_power G_is_below G_times G_power ⟩
  have G_known_to : Does l.prog w K mg base 1 "known_to" ["row"] _ _ sp_known_to := ⟨PySem.W.mg_of X G a_known_to, k_known_to, B_known_to, ok_known_to F_known_to T vc_known_to len_known_to  ⟩
  have G_whole_of : Does l.prog w K mg base 1 "whole_of" ["base", "figures"] _ _ sp_whole_of := ⟨PySem.W.mg_of X G a_whole_of, k_whole_of, B_whole_of, ok_whole_of F_whole_of T vc_whole_of len_whole_of  ⟩
  have G_worth_of : Does l.prog w K mg base 4 "worth_of" ["base", "row"] _ _ sp_worth_of := ⟨PySem.W.mg_of X G a_worth_of, k_worth_of, B_worth_of, ok_worth_of F_worth_of T vc_worth_of len_worth_of G_times G_power G_known_to G_whole_of ⟩
  have G_tail_of : Does l.prog w K mg base 4 "tail_of" ["base", "row"] _ _ sp_tail_of := ⟨PySem.W.mg_of X G a_tail_of, k_tail_of, B_tail_of, ok_tail_of F_tail_of T vc_tail_of len_tail_of G_times G_power G_known_to G_frac ⟩
  have G_span_of : Does l.prog w K mg base 5 "span_of" ["base", "row"] _ _ sp_span_of := ⟨PySem.W.mg_of X G a_span_of, k_span_of, B_span_of, ok_span_of F_span_of T vc_span_of len_span_of G_worth_of G_tail_of G_plus G_minus ⟩
  have G_stands_for : Does l.prog w K mg base 6 "stands_for" ["base", "row", "number"] _ _ sp_stands_for := ⟨PySem.W.mg_of X G a_stands_for, k_stands_for, B_stands_for, ok_stands_for F_stands_for T vc_stands_for len_stands_for G_span_of G_is_below ⟩
  have G_cut_of : Does l.prog w K mg base 1 "cut_of" ["row", "place"] _ _ sp_cut_of := ⟨PySem.W.mg_of X G a_cut_of, k_cut_of, B_cut_of, ok_cut_of F_cut_of T vc_cut_of len_cut_of  ⟩
  have G_order_of : Does l.prog w K mg base 6 "order_of" ["base", "one", "other"] _ _ sp_order_of := ⟨PySem.W.mg_of X G a_order_of, k_order_of, B_order_of, ok_order_of F_order_of T vc_order_of len_order_of G_span_of G_is_below ⟩
  have G_raised : Does l.prog w K mg base 1 "raised" ["number"] _ _ sp_raised := ⟨PySem.W.mg_of X G a_raised, k_raised, B_raised, ok_raised F_raised T vc_raised len_raised  ⟩
  have G_figures_between : Does l.prog w K mg base 5 "figures_between" ["base", "own", "least", "most"] _ _ sp_figures_between := ⟨PySem.W.mg_of X G a_figures_between, k_figures_between, B_figures_between, ok_figures_between F_figures_between T vc_figures_between len_figures_between G_power G_known_to G_frac G_worth_of G_raised G_minus G_times G_plus ⟩
  have G_based_right : Does l.prog w K mg base 6 "based_right" ["base", "other", "row", "own"] _ _ sp_based_right := ⟨PySem.W.mg_of X G a_based_right, k_based_right, B_based_right, ok_based_right F_based_right T vc_based_right len_based_right G_span_of G_figures_between ⟩
  have G_Teller_init : DoesI l.prog w K mg base 1 1 "Teller" ["self", "base", "other", "row", "begin", "most"] _ _ sp_Teller_init := ⟨PySem.W.mg_of X G aC_Teller, ⟨mk_Teller, a_Teller_init, i_Teller_init, kc_Teller⟩, ok_Teller_init F_Teller_init T vc_Teller_init len_Teller_init  ⟩
  have G_Teller_row : DoesM l.prog w K mg base 1 1 "row" ["self"] _ _ sp_Teller_row := ⟨T.k_Teller, ⟨a_Teller_row, i_Teller_row, k_Teller_row⟩, B_Teller_row, ok_Teller_row F_Teller_row T vc_Teller_row len_Teller_row  ⟩
  have G_Teller_next_figure : DoesM l.prog w K mg base 7 1 "next_figure" ["self"] _ _ sp_Teller_next_figure := ⟨T.k_Teller, ⟨a_Teller_next_figure, i_Teller_next_figure, k_Teller_next_figure⟩, B_Teller_next_figure, ok_Teller_next_figure F_Teller_next_figure zc TB T vc_Teller_next_figure len_Teller_next_figure G_cut_of G_based_right G_Teller_row ⟩
  have G_Teller_step : DoesM l.prog w K mg base 8 1 "step" ["self", "to"] _ _ sp_Teller_step := ⟨T.k_Teller, ⟨a_Teller_step, i_Teller_step, k_Teller_step⟩, B_Teller_step, ok_Teller_step F_Teller_step T vc_Teller_step len_Teller_step G_Teller_next_figure G_known_to ⟩
  have G_based_run : DoesK l.prog w K mg base 9 "based_run" ["base", "other", "row", "begin", "most", "to"] _ _ sp_based_run := ⟨PySem.W.mg_of X G a_based_run, k_based_run, ok_based_run F_based_run T vc_based_run len_based_run G_Teller_init G_Teller_step G_Teller_row kb_Teller_init_0⟩
  have G_reach_by : Does l.prog w K mg base 4 "reach_by" ["base", "begin", "most"] _ _ sp_reach_by := ⟨PySem.W.mg_of X G a_reach_by, k_reach_by, B_reach_by, ok_reach_by F_reach_by T vc_reach_by len_reach_by G_times G_power G_frac ⟩
  have G_based_fits : Does l.prog w K mg base 5 "based_fits" ["base", "other", "source", "begin", "most"] _ _ sp_based_fits := ⟨PySem.W.mg_of X G a_based_fits, k_based_fits, B_based_fits, ok_based_fits F_based_fits T vc_based_fits len_based_fits G_is_below G_reach_by ⟩
  have G_told_read : Does l.prog w K mg base 5 "told_read" ["base", "other", "mine", "most", "place"] _ _ sp_told_read := ⟨PySem.W.mg_of X G a_told_read, k_told_read, B_told_read, ok_told_read F_told_read T vc_told_read len_told_read G_times G_frac G_power G_least_power ⟩
  have G_Lcell_at : Does l.prog w K mg base 1 "_law_cell_at" ["_law_script", "_law_k"] _ _ sp_Lcell_at := ⟨PySem.W.mg_of X G a_Lcell_at, k_Lcell_at, B_Lcell_at, ok_Lcell_at F_Lcell_at T vc_Lcell_at len_Lcell_at  ⟩
  have G_Lbox : Does l.prog w K mg base 2 "_law_box" ["_law_script", "_law_k"] _ _ sp_Lbox := ⟨PySem.W.mg_of X G a_Lbox, k_Lbox, B_Lbox, ok_Lbox F_Lbox T vc_Lbox len_Lbox G_Lcell_at ⟩
  have G_Ltake : Does l.prog w K mg base 1 "_law_take" ["_law_box_here", "_law_size"] _ _ sp_Ltake := ⟨PySem.W.mg_of X G a_Ltake, k_Ltake, B_Ltake, ok_Ltake F_Ltake T vc_Ltake len_Ltake  ⟩
  have G_Lof : Does l.prog w K mg base 2 "_law_of" ["_law_box_here", "_law_some"] _ _ sp_Lof := ⟨PySem.W.mg_of X G a_Lof, k_Lof, B_Lof, ok_Lof F_Lof T vc_Lof len_Lof G_Ltake ⟩
  have G_Lfrac : Does l.prog w K mg base 1 "_law_frac" ["_law_top", "_law_under"] _ _ sp_Lfrac := ⟨PySem.W.mg_of X G a_Lfrac, k_Lfrac, B_Lfrac, ok_Lfrac F_Lfrac T vc_Lfrac len_Lfrac  ⟩
  have G_Lless : Does l.prog w K mg base 2 "_law_less" ["_law_first", "_law_second"] _ _ sp_Lless := ⟨PySem.W.mg_of X G a_Lless, k_Lless, B_Lless, ok_Lless F_Lless T vc_Lless len_Lless G_Lfrac ⟩
  have G_Lby : Does l.prog w K mg base 2 "_law_by" ["_law_first", "_law_second"] _ _ sp_Lby := ⟨PySem.W.mg_of X G a_Lby, k_Lby, B_Lby, ok_Lby F_Lby T vc_Lby len_Lby G_Lfrac ⟩
  have G_Lbelow : Does l.prog w K mg base 1 "_law_below" ["_law_first", "_law_second"] _ _ sp_Lbelow := ⟨PySem.W.mg_of X G a_Lbelow, k_Lbelow, B_Lbelow, ok_Lbelow F_Lbelow T vc_Lbelow len_Lbelow  ⟩
  have G_Lpower : Does l.prog w K mg base 1 "_law_power" ["_law_b", "_law_many"] _ _ sp_Lpower := ⟨PySem.W.mg_of X G a_Lpower, k_Lpower, B_Lpower, ok_Lpower F_Lpower T vc_Lpower len_Lpower  ⟩
  have G_Lmost : Does l.prog w K mg base 3 "_law_most" ["_law_box_here", "_law_b"] _ _ sp_Lmost := ⟨PySem.W.mg_of X G a_Lmost, k_Lmost, B_Lmost, ok_Lmost F_Lmost T vc_Lmost len_Lmost G_Lof G_Ltake ⟩
  have G_Lsigns : Does l.prog w K mg base 3 "_law_signs" ["_law_box_here", "_law_b", "_law_start", "_law_top", "_law_number", "_law_count"] _ _ sp_Lsigns := ⟨PySem.W.mg_of X G a_Lsigns, k_Lsigns, B_Lsigns, ok_Lsigns F_Lsigns T vc_Lsigns len_Lsigns G_Lpower G_Lby G_Lfrac G_Lless G_Lbelow G_Lof ⟩
  have G_Lon : Does l.prog w K mg base 10 "_law_on" ["_law_b", "_law_c", "_law_line", "_law_top"] _ _ sp_Lon := ⟨PySem.W.mg_of X G a_Lon, k_Lon, B_Lon, ok_Lon F_Lon T vc_Lon len_Lon G_based_fits G_based_run kb_based_run_0⟩
  have G_Lis_far : Does l.prog w K mg base 6 "_law_is_far" ["_law_b", "_law_c", "_law_line", "_law_found"] _ _ sp_Lis_far := ⟨PySem.W.mg_of X G a_Lis_far, k_Lis_far, B_Lis_far, ok_Lis_far F_Lis_far T vc_Lis_far len_Lis_far G_known_to G_told_read ⟩
  have G_Lchain : Does l.prog w K mg base 11 "_law_chain" ["_law_bases", "_law_tops", "_law_line"] _ _ sp_Lchain := ⟨PySem.W.mg_of X G a_Lchain, k_Lchain, B_Lchain, ok_Lchain F_Lchain T vc_Lchain len_Lchain G_Lon ⟩
  have G_Lright : Does l.prog w K mg base 12 "_law_right" ["_law_box_here"] _ _ sp_Lright := ⟨PySem.W.mg_of X G a_Lright, k_Lright, B_Lright, ok_Lright F_Lright T vc_Lright len_Lright G_Ltake G_Lmost G_Lby G_Lpower G_Lfrac G_Lsigns G_Lchain G_stands_for G_Lis_far G_order_of G_cut_of G_known_to G_Lless ⟩
  have G_law : Does l.prog w K mg base 13 "law" ["_law_script"] _ _ sp_law := ⟨PySem.W.mg_of X G a_law, k_law, B_law, ok_law F_law T vc_law len_law G_Lright G_Lbox ⟩
  exact G_law.ok.imp (law_upT _)
end K95
open PySem PySem.W PyProof.Rows
set_option maxHeartbeats 0 in
theorem PySem.Challenge.cw_firstfigures_k95_whole_there_and_back_holds : PySem.Challenge.rw_firstfigures_k95_whole_there_and_back.Holds := by
  w_on; o_law; k_head; (case hw => w_witness2)
  k_fill
  refine LamD.walk_ofT (l := PySem.Challenge.rw_firstfigures_k95_whole_there_and_back) (n := 63) (k := 13) (x := "_law_script") (CX := fun _ => L2.CX0) (sp := fun w P => DL.spLawT _ P) rfl (by decide) rfl ⟨⟨rfl, by decide, by decide⟩, rfl⟩ (fun w h Y => PySem.W.km_in_of Y) ?F (fun _ _ a P ns hl hP hS => ⟨a, ns, rfl, hP, hS, hl, fun _ => rfl⟩) (fun _ _ _ _ _ h => h)
  case F =>
    intro w mg fa h Y KX G hmg
    have hT8 := PySem.W.km_tabs_of Y
    refine' K95.all_mk KX G hmg ?aC_Teller ?pg_Teller ?hd_Teller ?po_Teller ?sa_Teller ?mk_Teller ?kc_Teller ?nA_Teller_own_base ?nA_Teller_own_begin ?nA_Teller_own_figures ?nA_Teller_own_most ?nA_Teller_own_other ?nA_Teller_own_read ?nA_Teller_own_row ?a_common ?l_common ?c_common ?k_common ?a_frac ?l_frac ?t_frac ?u_frac ?v_frac ?c_frac ?k_frac ?a_plus ?l_plus ?c_plus ?k_plus ?a_minus ?l_minus ?c_minus ?k_minus ?a_times ?l_times ?c_times ?k_times ?a_is_below ?l_is_below ?c_is_below ?k_is_below ?a_power ?l_power ?c_power ?k_power ?a_least_power ?l_least_power ?c_least_power ?k_least_power ?a_known_to ?l_known_to ?c_known_to ?k_known_to ?a_whole_of ?l_whole_of ?c_whole_of ?k_whole_of ?a_worth_of ?l_worth_of ?c_worth_of ?k_worth_of ?a_tail_of ?l_tail_of ?c_tail_of ?k_tail_of ?a_span_of ?l_span_of ?c_span_of ?k_span_of ?a_stands_for ?l_stands_for ?c_stands_for ?k_stands_for ?a_cut_of ?l_cut_of ?c_cut_of ?k_cut_of ?a_order_of ?l_order_of ?c_order_of ?k_order_of ?a_raised ?l_raised ?c_raised ?k_raised ?a_figures_between ?l_figures_between ?c_figures_between ?k_figures_between ?a_based_right ?l_based_right ?c_based_right ?k_based_right ?a_Teller_init ?i_Teller_init ?l_Teller_init ?c_Teller_init ?k_Teller_init ?a_Teller_row ?i_Teller_row ?l_Teller_row ?c_Teller_row ?k_Teller_row ?a_Teller_next_figure ?i_Teller_next_figure ?l_Teller_next_figure ?c_Teller_next_figure ?k_Teller_next_figure ?a_Teller_step ?i_Teller_step ?l_Teller_step ?c_Teller_step ?k_Teller_step ?a_based_run ?l_based_run ?c_based_run ?k_based_run ?a_reach_by ?l_reach_by ?c_reach_by ?k_reach_by ?a_based_fits ?l_based_fits ?c_based_fits ?k_based_fits ?a_told_read ?l_told_read ?c_told_read ?k_told_read ?a_Lcell_at ?l_Lcell_at ?c_Lcell_at ?k_Lcell_at ?a_Lbox ?l_Lbox ?c_Lbox ?k_Lbox ?a_Ltake ?l_Ltake ?c_Ltake ?k_Ltake ?a_Lof ?l_Lof ?c_Lof ?k_Lof ?a_Lfrac ?l_Lfrac ?c_Lfrac ?k_Lfrac ?a_Lless ?l_Lless ?c_Lless ?k_Lless ?a_Lby ?l_Lby ?c_Lby ?k_Lby ?a_Lbelow ?l_Lbelow ?c_Lbelow ?k_Lbelow ?a_Lpower ?l_Lpower ?c_Lpower ?k_Lpower ?a_Lmost ?l_Lmost ?c_Lmost ?k_Lmost ?a_Lsigns ?l_Lsigns ?c_Lsigns ?k_Lsigns ?a_Lon ?l_Lon ?c_Lon ?k_Lon ?a_Lis_far ?l_Lis_far ?c_Lis_far ?k_Lis_far ?a_Lchain ?l_Lchain ?c_Lchain ?k_Lchain ?a_Lright ?l_Lright ?c_Lright ?k_Lright ?a_law ?l_law ?c_law ?k_law ?zc ?zl ?zp ?zh ?zn ?zt ?z_abs ?z_all ?z_any ?z_enumerate ?z_int ?z_len ?z_list ?z_max ?z_min ?z_range ?z_tuple ?z_zip ?g_ABOVE ?g_BELOW
    (case aC_Teller => k_is)
    (case pg_Teller => k_is)
    (case hd_Teller => k_is)
    (case po_Teller => k_is)
    (case sa_Teller => k_is)
    (case mk_Teller => k_is)
    (case kc_Teller => k_is)
    (case nA_Teller_own_base => k_is)
    (case nA_Teller_own_begin => k_is)
    (case nA_Teller_own_figures => k_is)
    (case nA_Teller_own_most => k_is)
    (case nA_Teller_own_other => k_is)
    (case nA_Teller_own_read => k_is)
    (case nA_Teller_own_row => k_is)
    (case a_common => k_is)
    (case l_common => k_is)
    (case c_common => k_is)
    (case k_common => k_is)
    (case a_frac => k_is)
    (case l_frac => k_is)
    (case t_frac => k_is)
    (case u_frac => rfl)
    (case v_frac => exact .cons ⟨_, rfl⟩ .nil)
    (case c_frac => k_is)
    (case k_frac => k_is)
    (case a_plus => k_is)
    (case l_plus => k_is)
    (case c_plus => k_is)
    (case k_plus => k_is)
    (case a_minus => k_is)
    (case l_minus => k_is)
    (case c_minus => k_is)
    (case k_minus => k_is)
    (case a_times => k_is)
    (case l_times => k_is)
    (case c_times => k_is)
    (case k_times => k_is)
    (case a_is_below => k_is)
    (case l_is_below => k_is)
    (case c_is_below => k_is)
    (case k_is_below => k_is)
    (case a_power => k_is)
    (case l_power => k_is)
    (case c_power => k_is)
    (case k_power => k_is)
    (case a_least_power => k_is)
    (case l_least_power => k_is)
    (case c_least_power => k_is)
    (case k_least_power => k_is)
    (case a_known_to => k_is)
    (case l_known_to => k_is)
    (case c_known_to => k_is)
    (case k_known_to => k_is)
    (case a_whole_of => k_is)
    (case l_whole_of => k_is)
    (case c_whole_of => k_is)
    (case k_whole_of => k_is)
    (case a_worth_of => k_is)
    (case l_worth_of => k_is)
    (case c_worth_of => k_is)
    (case k_worth_of => k_is)
    (case a_tail_of => k_is)
    (case l_tail_of => k_is)
    (case c_tail_of => k_is)
    (case k_tail_of => k_is)
    (case a_span_of => k_is)
    (case l_span_of => k_is)
    (case c_span_of => k_is)
    (case k_span_of => k_is)
    (case a_stands_for => k_is)
    (case l_stands_for => k_is)
    (case c_stands_for => k_is)
    (case k_stands_for => k_is)
    (case a_cut_of => k_is)
    (case l_cut_of => k_is)
    (case c_cut_of => k_is)
    (case k_cut_of => k_is)
    (case a_order_of => k_is)
    (case l_order_of => k_is)
    (case c_order_of => k_is)
    (case k_order_of => k_is)
    (case a_raised => k_is)
    (case l_raised => k_is)
    (case c_raised => k_is)
    (case k_raised => k_is)
    (case a_figures_between => k_is)
    (case l_figures_between => k_is)
    (case c_figures_between => k_is)
    (case k_figures_between => k_is)
    (case a_based_right => k_is)
    (case l_based_right => k_is)
    (case c_based_right => k_is)
    (case k_based_right => k_is)
    (case a_Teller_init => k_is)
    (case i_Teller_init => k_is)
    (case l_Teller_init => k_is)
    (case c_Teller_init => k_is)
    (case k_Teller_init => k_is)
    (case a_Teller_row => k_is)
    (case i_Teller_row => k_is)
    (case l_Teller_row => k_is)
    (case c_Teller_row => k_is)
    (case k_Teller_row => k_is)
    (case a_Teller_next_figure => k_is)
    (case i_Teller_next_figure => k_is)
    (case l_Teller_next_figure => k_is)
    (case c_Teller_next_figure => k_is)
    (case k_Teller_next_figure => k_is)
    (case a_Teller_step => k_is)
    (case i_Teller_step => k_is)
    (case l_Teller_step => k_is)
    (case c_Teller_step => k_is)
    (case k_Teller_step => k_is)
    (case a_based_run => k_is)
    (case l_based_run => k_is)
    (case c_based_run => k_is)
    (case k_based_run => k_is)
    (case a_reach_by => k_is)
    (case l_reach_by => k_is)
    (case c_reach_by => k_is)
    (case k_reach_by => k_is)
    (case a_based_fits => k_is)
    (case l_based_fits => k_is)
    (case c_based_fits => k_is)
    (case k_based_fits => k_is)
    (case a_told_read => k_is)
    (case l_told_read => k_is)
    (case c_told_read => k_is)
    (case k_told_read => k_is)
    (case a_Lcell_at => k_is)
    (case l_Lcell_at => k_is)
    (case c_Lcell_at => k_is)
    (case k_Lcell_at => k_is)
    (case a_Lbox => k_is)
    (case l_Lbox => k_is)
    (case c_Lbox => k_is)
    (case k_Lbox => k_is)
    (case a_Ltake => k_is)
    (case l_Ltake => k_is)
    (case c_Ltake => k_is)
    (case k_Ltake => k_is)
    (case a_Lof => k_is)
    (case l_Lof => k_is)
    (case c_Lof => k_is)
    (case k_Lof => k_is)
    (case a_Lfrac => k_is)
    (case l_Lfrac => k_is)
    (case c_Lfrac => k_is)
    (case k_Lfrac => k_is)
    (case a_Lless => k_is)
    (case l_Lless => k_is)
    (case c_Lless => k_is)
    (case k_Lless => k_is)
    (case a_Lby => k_is)
    (case l_Lby => k_is)
    (case c_Lby => k_is)
    (case k_Lby => k_is)
    (case a_Lbelow => k_is)
    (case l_Lbelow => k_is)
    (case c_Lbelow => k_is)
    (case k_Lbelow => k_is)
    (case a_Lpower => k_is)
    (case l_Lpower => k_is)
    (case c_Lpower => k_is)
    (case k_Lpower => k_is)
    (case a_Lmost => k_is)
    (case l_Lmost => k_is)
    (case c_Lmost => k_is)
    (case k_Lmost => k_is)
    (case a_Lsigns => k_is)
    (case l_Lsigns => k_is)
    (case c_Lsigns => k_is)
    (case k_Lsigns => k_is)
    (case a_Lon => k_is)
    (case l_Lon => k_is)
    (case c_Lon => k_is)
    (case k_Lon => k_is)
    (case a_Lis_far => k_is)
    (case l_Lis_far => k_is)
    (case c_Lis_far => k_is)
    (case k_Lis_far => k_is)
    (case a_Lchain => k_is)
    (case l_Lchain => k_is)
    (case c_Lchain => k_is)
    (case k_Lchain => k_is)
    (case a_Lright => k_is)
    (case l_Lright => k_is)
    (case c_Lright => k_is)
    (case k_Lright => k_is)
    (case a_law => k_is)
    (case l_law => k_is)
    (case c_law => k_is)
    (case k_law => k_is)
    (case zc => rfl)
    (case zl => k_is)
    (case zp => rfl)
    (case zh => kernel_rfl)
    (case zn => kernel_rfl)
    (case zt => exact hT8 _ (by simp))
    (case z_abs => k_is)
    (case z_all => k_is)
    (case z_any => k_is)
    (case z_enumerate => k_is)
    (case z_int => k_is)
    (case z_len => k_is)
    (case z_list => k_is)
    (case z_max => k_is)
    (case z_min => k_is)
    (case z_range => k_is)
    (case z_tuple => k_is)
    (case z_zip => k_is)
    (case g_ABOVE => k_is)
    (case g_BELOW => k_is)
