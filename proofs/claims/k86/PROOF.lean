import PyProof.Rows.All
import Wide.All
import OpenK.AllK
import Wide.FinOn
import HandS.ForMost
import HandS.Wide
import HandS.Zip
import HandS.TupAny
import HandS.IsInst
import HandS.Style
import HandS.Defaults
import HandS.EndTab
import HandS.NoneIn
import OpenK.KMore
import KE.GoesMore
import KE.GoesEnumKw
import PyProof.Rows.NestShow
import PyProof.ReprLen
import HandS.Conv
import HandS.TupMul
import HandS.Deep
import HandS.More
import HandS.MakeKwOnly
import KE.DataMinKey
import KE.KMinKey
import HandS.SortKw
import PyProof.SeqI3
import KE.DatumOrd
import PySem.Challenge.RW_firstfigures_k86_whole_two_figures_as_on
set_option Elab.async false
set_option linter.all false
set_option maxRecDepth 100000
set_option maxHeartbeats 4000000
/-! Promises of defs where nothing is shown (repr) further up the stack. -/
namespace DG
open PySem PySem.Spec PyProof.Rows L2
/-- room, and no repr further up -/
structure RoomG (k : Nat) (A : Around) : Prop where
  r : Room k A
  g : A.guards = some []
theorem RoomG.mono {j k : Nat} {A : Around} (h : RoomG k A) (l : j ≤ k) : RoomG j A := ⟨h.r.mono l, h.g⟩
theorem RoomG.deeper {k : Nat} {A : Around} (h : RoomG (k + 1) A) (env : Env) : RoomG k (A.deeper env) := ⟨h.r.deeper env, h.g⟩
structure FnG (P : Program) (w : World) (K : PySem.W.Frag) (mg : Str → Option Value) (base : Heap) (CX : CXT) (k : Nat) (f : Addr) (fd : FuncData) (ps : List Str) (sp : Sp) : Prop where
  len : ∀ vs H Q E, sp vs H Q E → vs.length = ps.length
  run : ∀ (A : Around) (outer : List Env) (s : Shared) (H : Hp) (args : Args) (us : List Value) (vs : List V) (Q : VK) (E : XK), RoomG k A → Env0 P w K mg base A outer s H → BindsTo s fd args (ps.zip us) → Vals vs us → sp vs H Q E →
    codeAny (model P w) A (.call (.ref f) args) (CR CX outer P w H s Q E) s
theorem FnG.imp {P : Program} {w : World} {K : PySem.W.Frag} {mg : Str → Option Value} {base : Heap} {CX : CXT} {k : Nat} {f : Addr} {fd : FuncData} {ps : List Str} {sp sp' : Sp} (F : FnG P w K mg base CX k f fd ps sp)
    (h : ∀ vs H Q E, sp' vs H Q E → sp vs H Q E) : FnG P w K mg base CX k f fd ps sp' :=
  ⟨fun vs H Q E q => F.len vs H Q E (h _ _ _ _ q), fun A outer s H args us vs Q E hr he hb hv hs => F.run A outer s H args us vs Q E hr he hb hv (h _ _ _ _ hs)⟩
section
variable {X : Cx} {CX : CXT} {k n : Nat} {f C : Addr} {fd : FuncData} {ps ks : List Str} {sp : Sp} {dvs : List V} {ds : List Value} {E : XK} {x m : Str} {p pos apos : Pos} {e o : Expr} {es : List Expr} {ta : TE} {t tk : TA} {kws : List Keyword} {g : List Value → List Value → List Value} {gV : List V → List V → List V}
theorem run_fn {pins : List (Addr × Obj)} {σ : L2.St} {H : Hp} {s : Shared} {Q : VK} {us : List Value} {vs : List V} (F : FnG X.prog X.w X.K X.mg X.base CX k f fd ps sp) (hr : RoomG k X.A) (hb : Binds X.K fd ps ds) (hd : Vals dvs ds) (hx : Passes CX X E)
    (I : Inv X pins σ H s) (r : Vals vs us) (h : sp (vs ++ dvs) H Q E) : wpAny (model X.prog X.w) X.A (call (.ref f) us) (EP X pins σ Q) X.xe s := by
  have r2 : Vals (vs ++ dvs) (us ++ ds) := r.append hd
  have hl : (us ++ ds).length = ps.length := by rw [← r2.length]; exact F.len _ _ _ _ h
  refine wpAny_call (codeAny_mono (F.run X.A X.stack s H ⟨us, []⟩ (us ++ ds) (vs ++ dvs) Q E hr I.env0 (hb s us I.kIn hl) r2 h) fun r s' hq => ?_)
  cases r with
  | error e => exact hx pins σ H s e s' I hq
  | ok fl =>
    cases fl with
    | ret u => exact I.after hq
    | next => exact False.elim hq
    | brk => exact False.elim hq
    | cont => exact False.elim hq

theorem pe_call (F : FnG X.prog X.w X.K X.mg X.base CX k f fd ps sp) (hr : RoomG k X.A) (hg : Gl X x) (hm : X.mg x = some (.ref f)) (hk : PySem.W.keepIn X.K (.ref f) = true) (hb : Binds X.K fd ps ds) (hd : Vals dvs ds) (hx : Passes CX X E)
    (ha : PA X (e :: es) t) (hdb : (x == ("__debug__" : Str)) = false := by decide) (he : starEach (e :: es) X.env = (false, eval e X.env) :: starEach es X.env := by rfl) (hpl : (backTo pos (starEach es X.env)).any (·.1) = false := by rfl) :
    PE X (.Call (.Name x p) (e :: es) [] pos) (tCall sp dvs E t) := by
  refine ⟨fun pins s σ H Q I h => ?_⟩
  refine wpAny_Call_Name_kw (ld_glob I hg hm ?_ hdb)
  refine PySem.W.callWith_K (h₀ := X.base) I.ok.mod.kin hk (thn (ha.run pos pins s σ H _ I h) fun us s1 ⟨vs, H1, I1, r, q⟩ => ⟨I1.kIn, ?_⟩) he hpl
  exact run_fn F hr hb hd hx I1 r q
theorem run_fnN {pins : List (Addr × Obj)} {σ : L2.St} {H : Hp} {s : Shared} {Q : VK} {us ws : List Value} {vs zs : List V} (F : FnG X.prog X.w X.K X.mg X.base CX k f fd ps sp) (hr : RoomG k X.A) (hb : KBn X.K fd ps n ks g gV) (hx : Passes CX X E)
    (I : Inv X pins σ H s) (r : Vals vs us) (rz : Vals zs ws) (l1 : vs.length = n) (l2 : zs.length = ks.length) (h : sp (gV vs zs) H Q E) : wpAny (model X.prog X.w) X.A (call (.ref f) us (ks.zip ws)) (EP X pins σ Q) X.xe s := by
  have r2 := hb.rel r rz
  refine wpAny_call (codeAny_mono (F.run X.A X.stack s H ⟨us, ks.zip ws⟩ (g us ws) (gV vs zs) Q E hr I.env0 (hb.to s us ws I.kIn (r.length.symm.trans l1) (rz.length.symm.trans l2)) r2 h) fun r s' hq => ?_)
  cases r with
  | error e => exact hx pins σ H s e s' I hq
  | ok fl =>
    cases fl with
    | ret u => exact I.after hq
    | next => exact False.elim hq
    | brk => exact False.elim hq
    | cont => exact False.elim hq
/-- f(e, .., k = v, ..) -/
theorem pe_callN (F : FnG X.prog X.w X.K X.mg X.base CX k f fd ps sp) (hr : RoomG k X.A) (hg : Gl X x) (hm : X.mg x = some (.ref f)) (hk : PySem.W.keepIn X.K (.ref f) = true) (hb : KBn X.K fd ps n ks g gV) (hx : Passes CX X E)
    (ha : PA X (e :: es) t) (hkw : PK X kws tk) (hall : (backToKw pos (keywordEach kws X.env)).all (·.1.isSome) = true := by rfl) (hks : (backToKw pos (keywordEach kws X.env)).filterMap (·.1) = ks := by rfl)
    (hdb : (x == ("__debug__" : Str)) = false := by decide) (he : starEach (e :: es) X.env = (false, eval e X.env) :: starEach es X.env := by rfl)
    (hpl : ((backTo pos (starEach (e :: es) X.env)).any (·.1) || (backToKw pos (keywordEach kws X.env)).any (·.1.isNone)) = false := by rfl) :
    PE X (.Call (.Name x p) (e :: es) kws pos) (tCallN n ks.length sp gV E t tk) := by
  refine ⟨fun pins s σ H Q I h => ?_⟩
  refine wpAny_Call_Name_kw (ld_glob I hg hm ?_ hdb)
  refine PySem.W.callWith_KW (h₀ := X.base) I.ok.mod.kin hk hall (thn (ha.run pos pins s σ H _ I h) fun us s1 ⟨vs, H1, I1, r, q⟩ => ?_) hpl he
  refine thn (hkw.run pos pins s1 σ H1 _ I1 q) fun ws s2 ⟨zs, H2, I2, rz, l1, l2, q2⟩ => ⟨I2.kIn, ?_⟩
  rw [hks]
  exact run_fnN F hr hb hx I2 r rz l1 l2 q2
end
theorem fn_of {CX : CXT} {P : Program} {w : World} {K : PySem.W.Frag} {mg : Str → Option Value} {base : Heap} {k : Nat} {f : Addr} {name qual : Str} {params : Arguments} {body : List Stmt} {scope : Scope} {dV kV doc pm cdv ct oc : Value} {an od : Option Addr}
    {osl : Array (Option Value)} {N ps : List Str} {sp : Sp} (lk : K.lookup f = some ⟨oc, od, .func (PySem.W.fnOf name qual params body scope dV kV doc pm an cdv ct), osl⟩) (hcd : PySem.W.codeIn K cdv qual = true) (S : FnScope N ps scope)
    (len : ∀ vs H Q E, sp vs H Q E → vs.length = ps.length)
    (hbody : ∀ (A : Around) (outer : List Env) (s : Shared) (H : Hp) (vs : List V) (Q : VK) (E : XK), RoomG k (A.deeper (envOfC qual scope s.heap.objs.size f cdv)) → sp vs H Q E →
      ∃ t, PSs (cxOf CX P w K mg base N qual scope f cdv A outer s H E) body t ∧ t { nx := fun _ H' => Q .non H', rt := Q } (start N vs) H) :
    FnG P w K mg base CX (k + 1) f (PySem.W.fnOf name qual params body scope dV kV doc pm an cdv ct) ps sp := by
  refine ⟨len, fun A outer s H args us vs Q E hr e0 hb r hsp => ?_⟩
  have hl := len _ _ _ _ hsp
  have KX : K.In s.heap := e0.mod.kin.keeps fun b o e => (e0.bs b o e).1
  have lim : s.heap.NoLimit := e0.mod.nolimit.keeps fun b o e => (e0.bs b o e).1
  have hkind : ∀ y ∈ ps.zip us, scope.names.lookup y.1 = some .local ∨ (scope.names.lookup y.1 = some .cell ∧ ((cellsFrom (s.heap.objs.size + 1) scope.names []).lookup y.1).isSome = true) := fun ⟨n, v⟩ hy => by
    rcases S.par n (List.of_mem_zip hy).1 with q | q
    · exact .inl q
    · exact .inr ⟨q, PySem.W.cellsFrom_some _ _ _ (.inl q)⟩
  refine codeAny_call_function hr.r.depth (KX _ _ lk) rfl S.co S.gen rfl (PySem.W.codeRec_of KX hcd) (hb _ _ _ _ ?_)
  refine wpAny_newFunctionEnv_cells S.kind hkind fun env he s1 x => ?_
  subst he
  refine ⟨lim.keeps x.toInCall.keep, codeAny_func ?_⟩
  obtain ⟨t, ht, hq⟩ := hbody A outer s H vs Q E (hr.deeper _) hsp
  have I : Inv (cxOf CX P w K mg base N qual scope f cdv A outer s H E) [] (start N vs) H s1 := inv_start S hr.r.hd e0 hl r x
  refine wpAny_mono (ht.run [] s1 (start N vs) H _ I hq) (fun fl s' hs => ?_) fun e s' hs => hs
  have fin : ∀ {σ' : L2.St} {H' : Hp} {v : V} {u : Value}, Inv (cxOf CX P w K mg base N qual scope f cdv A outer s H E) [] σ' H' s' → RelV v u → Q v H' → CE outer P w H s Q u s' :=
    fun {σ' H' v u} J rv q => ⟨v, H', J.os, J.bare, J.base, J.hok, rv, q⟩
  cases fl with
  | ret u =>
    obtain ⟨v, σ', H', J, rv, q⟩ := hs
    exact fin J rv q
  | next =>
    obtain ⟨σ', H', J, q⟩ := hs
    exact fin (v := V.non) (u := Value.none) J rfl q
  | brk =>
    obtain ⟨_, _, _, q⟩ := hs
    exact False.elim q
  | cont =>
    obtain ⟨_, _, _, q⟩ := hs
    exact False.elim q

section
variable {P : Program} {w : World} {K : PySem.W.Frag} {mg : Str → Option Value} {base : Heap}
theorem fun_ok {x qual : Str} {st : Stmt} {f : Addr} {fd : FuncData} {N ps : List Str} {k : Nat} {sp : Sp} (F : Fun K x qual st f fd) (S : FnScope N ps (defScope st)) (len : ∀ vs H Q E, sp vs H Q E → vs.length = ps.length)
    (hbody : ∀ (cdv : Value) (A : Around) (outer : List Env) (s : Shared) (H : Hp) (vs : List V) (Q : VK) (E : XK), RoomG k (A.deeper (envOfC qual (defScope st) s.heap.objs.size f cdv)) → sp vs H Q E →
      ∃ t, PSs (cxOf CX0 P w K mg base N qual (defScope st) f cdv A outer s H E).nox (defBody st) t ∧ t { nx := fun _ H' => Q .non H', rt := Q } (start N vs) H) : FnG P w K mg base CX0 (k + 1) f fd ps sp := by
  obtain ⟨oc, od, kV, doc, pm, an, cdv, ct, osl, rfl, lk, hcd⟩ := F.ex
  refine fn_of lk hcd S len fun A outer s H vs Q E hr hsp => ?_
  obtain ⟨t, h, q⟩ := hbody cdv A outer s H vs Q E hr hsp
  exact ⟨t, h.nox, q⟩
theorem funD_ok {x qual : Str} {params : Arguments} {body : List Stmt} {scope : Scope} {dvs : List V} {kws : List (Str × V)} {f : Addr} {fd : FuncData} {CX : CXT} {N ps : List Str} {k : Nat} {sp : Sp} (F : FunD K x qual params body scope dvs kws f fd) (S : FnScope N ps scope) (len : ∀ vs H Q E, sp vs H Q E → vs.length = ps.length)
    (hbody : ∀ (cdv : Value) (A : Around) (outer : List Env) (s : Shared) (H : Hp) (vs : List V) (Q : VK) (E : XK), RoomG k (A.deeper (envOfC qual scope s.heap.objs.size f cdv)) → sp vs H Q E →
      ∃ t, PSs (cxOf CX P w K mg base N qual scope f cdv A outer s H E) body t ∧ t { nx := fun _ H' => Q .non H', rt := Q } (start N vs) H) : FnG P w K mg base CX (k + 1) f fd ps sp := by
  obtain ⟨oc, od, dV, kV, doc, pm, an, cdv, ct, osl, rfl, lk, hcd, _, _⟩ := F.ex
  exact fn_of lk hcd S len fun A outer s H vs Q E hr hsp => hbody cdv A outer s H vs Q E hr hsp
end
/-! ### the end -/
theorem law_call {P : Program} {w : World} {K : PySem.W.Frag} {mg mb : Str → Option Value} {CX : CXT} {k : Nat} {fa a : Addr} {fd : FuncData} {x : Str} {sp : Sp} {s₁ : Shared} {vs : List Value} {ns : List Int}
    (KX : K.In s₁.heap) (hns : s₁.heap.Ns mainGlobals mg) (hb : s₁.heap.Ns builtinsNs mb) (hbb : ∀ x : Str, x ≠ "__name__" → mb x = bootBuiltins x) (hlim : s₁.heap.NoLimit) (hg : s₁.gens = #[])
    (ha : s₁.heap.get? a = some { cls := .type "list", data := .seq vs.toArray }) (hi : IntsAre vs ns) (hl : ns.length ≤ sizeLine) (hr : RoomG k callerA)
    (F : ∀ base : Heap, K.In base → base.Ns mainGlobals mg → FnG P w K mg base CX k fa fd [x] sp) (hbind : ∀ (s : Shared) (u : Value), BindsTo s fd ⟨[u], []⟩ [(x, u)])
    (hsp : ∀ H : Hp, Only H → SqL K H a (ns.map V.int) → sp [.ref a] H (fun v _ => v = .bl true) fun _ _ _ => False)
    (hCX : ∀ H e s', CX [] H s₁ (fun _ _ _ => False) e s' → False) :
    codeAny (model P w) callerA (.call (.ref fa) ⟨[.ref a], []⟩) (fun r s' => r = .ok (.ret (.bool true)) ∧ OldK s₁.heap s'.heap ∧ s'.os = s₁.os ∧ AllBare s'.gens) s₁ := by
  have rv := vals_ints hi
  have lenV := hi.length
  -- from an abstract heap in which nothing but the script may be tracked
  have core : ∀ H : Hp, Only H → SqL K H a (ns.map V.int) → HOk P w H s₁.heap → (∀ b, H b ≠ none → b = a) → (H a ≠ none → K.lookup a = none) →
      codeAny (model P w) callerA (.call (.ref fa) ⟨[.ref a], []⟩) (fun r s' => r = .ok (.ret (.bool true)) ∧ OldK s₁.heap s'.heap ∧ s'.os = s₁.os ∧ AllBare s'.gens) s₁ := by
    intro H hO hS hok hA hK
    have base_of : ∀ {b : Addr} {o : Obj}, s₁.heap.get? b = some o → H b = none → (hidT s₁.heap H).get? b = some o := fun e n => hidT_get e n
    have noA : ∀ {b : Addr} {o : Obj} {es : Array DictEntry} {ep : Nat}, s₁.heap.get? b = some o → o.data = .dict es ep → H b = none := fun {b o es ep} e d => by
      cases q : H b with
      | none => rfl
      | some u =>
        have e' : b = a := hA b (by rw [q]; simp)
        subst e'
        rw [ha] at e; cases e
        have d' : Data.seq vs.toArray _ = Data.dict es ep := d
        cases d'
    have nsK : ∀ {b : Addr} {m : Str → Option Value}, s₁.heap.Ns b m → (hidT s₁.heap H).Ns b m := fun {b m} ⟨o, es, ep, e, d, r⟩ => ⟨o, es, ep, base_of e (noA e d), d, r⟩
    have hKb : K.In (hidT s₁.heap H) := fun b o e => base_of (KX b o e) (by
      cases q : H b with
      | none => rfl
      | some u =>
        have e' : b = a := hA b (by rw [q]; simp)
        subst e'
        rw [hK (by rw [q]; simp)] at e; cases e)
    have hM : Mod K mg (hidT s₁.heap H) := ⟨hKb, nsK hns, ⟨mb, nsK hb, hbb⟩, let ⟨mc, h1, h2⟩ := hlim; ⟨mc, nsK h1, h2⟩⟩
    have e0 : Env0 P w K mg (hidT s₁.heap H) callerA [] s₁ H := ⟨rfl, hM, fun b o e => of_hidT e, Nat.le_of_eq (hidT_size _ _), trivial, fun b hb => absurd (show b ∈ ([] : List Addr) from hb) (by simp), hok, .of_eq hg⟩
    refine codeAny_mono ((F _ hKb (nsK hns)).run callerA [] s₁ H ⟨[.ref a], []⟩ [.ref a] [.ref a] _ _ hr e0 (hbind s₁ (.ref a)) (.cons rfl .nil) (hsp H hO hS)) fun r s' h => ?_
    cases r with
    | error e => exact (hCX H e s' h).elim
    | ok fl =>
      cases fl with
      | next => exact False.elim h
      | brk => exact False.elim h
      | cont => exact False.elim h
      | ret u =>
        obtain ⟨v, H', os, bare, un, hok', r', q⟩ := h
        have q' : v = .bl true := q
        subst q'
        obtain rfl : u = Value.bool true := r'
        refine ⟨rfl, OldK.of_keep fun b o e => ?_, os, bare⟩
        cases q : H b with
        | none => exact un.keep b o e q (by intro z; exact absurd (show b ∈ ([] : List Addr) from z) (by simp)) (by simp)
        | some u =>
          rcases hO b with z | ⟨ob, xs, z⟩
          · rw [q] at z; cases z
          · have z2 := un.frzs b ob _ z
            obtain ⟨e1, _⟩ := hok b _ z
            obtain ⟨e2, _⟩ := hok' b _ z2
            rw [e] at e1; cases e1
            exact e2
  cases hk : K.lookup a with
  | some o =>
    -- the script is one of the module's own objects
    have e := KX a o hk
    rw [ha] at e
    cases e
    refine core (fun _ => none) (fun _ => .inl rfl) (.inr ⟨_, vs.toArray, _, hk, rfl, rfl, rfl, by rw [List.size_toArray, lenV]; exact hl, by simpa using rv⟩) (fun b u z => by have z' : (none : Option HO) = some u := z; cases z') (fun b z => absurd rfl z) fun z => absurd rfl z
  | none =>
    refine core (fun b => if b = a then some (.frz { cls := .type "list", data := .seq vs.toArray } (.lst (ns.map V.int))) else none) (fun b => ?_) (.inl (.inr ⟨{ cls := .type "list", data := .seq vs.toArray }, if_pos rfl⟩)) (fun b u z => ?_) (fun b z => ?_) fun _ => hk
    · by_cases hb : b = a
      · exact .inr ⟨_, _, if_pos hb⟩
      · exact .inl (if_neg hb)
    · by_cases hb : b = a
      · have z' := (if_pos hb).symm.trans z
        cases z'
        subst hb
        exact ⟨ha, by rw [List.length_map]; exact hl, vs, _, rv, ha⟩
      · have z' := (if_neg hb).symm.trans z
        cases z'
    · by_cases hb : b = a
      · exact hb
      · exact absurd (if_neg hb) z
theorem walk_of {l : PySem.W.OpenLaw} {n k : Nat} {q : Program} {loose : List Str} {XP : (Str → Option Value) → Heap → Prop} {YP : World → Heap → Prop} {d : DefRec} {K : Params → PySem.W.Frag} {CX : World → CXT} {sp : World → Sp} {x : Str}
    (hn : l.most = some n) (hn2 : n ≤ sizeLine) (hdf : d.params.defaults = []) (hr : RoomG k callerA)
    (hY : ∀ (w : World) (h : Heap), YP w h → (K w.params).In h)
    (F : ∀ (w : World) (mg : Str → Option Value) (fa : Addr) (h : Heap), (K w.params).In h → h.Ns mainGlobals mg → mg d.name = some (.ref fa) →
      ∃ fd : FuncData, (∀ (s : Shared) (u : Value), BindsTo s fd ⟨[u], []⟩ [(x, u)]) ∧
        ∀ base : Heap, (K w.params).In base → base.Ns mainGlobals mg → FnG l.prog w (K w.params) mg base (CX w) k fa fd [x] (sp w))
    (hsp : ∀ (w : World) (H : Hp) (a : Addr) (ns : List Int), ns.length ≤ n → Only H → SqL (K w.params) H a (ns.map V.int) → sp w [.ref a] H (fun v _ => v = .bl true) fun _ _ _ => False)
    (hCX : ∀ (w : World) (H : Hp) (s : Shared) (e : Value) (s' : Shared), CX w [] H s (fun _ _ _ => False) e s' → False) :
    PySem.W.WalkO q loose XP YP l.row.toRowW d [] (fun f vs => PySem.call f vs) := by
  refine Att.attach_call hn hdf fun w s₀ s₁ mg mb fa o pm cd doc a vs ns G Y ho hd hcd hmg hobj hints hlen hg => ?_
  have KX := hY w _ Y
  obtain ⟨fd, hb, hF⟩ := F w mg fa _ KX G.T.g hmg
  exact law_call KX G.T.g G.T.b G.T.builtins G.T.nolimit hg hobj hints (Nat.le_trans hlen hn2) hr hF hb (fun H hO hS => hsp w H a ns hlen hO hS) fun H e s' => hCX w H s₁ e s'
end DG

/-! A layer over the hand layer: values as data (no addresses but of what changes), readings as predicates over data. -/
namespace DL
open PySem PySem.Spec PyProof.Rows L2

/-- data: what a value is, all through; obj: a thing that may change, by its place -/
inductive D where
  | non | bl (b : Bool) | int (i : Int) | str (s : Str) | ty (n : String) | lst (xs : List D) | ext (xs : List D) | tup (xs : List D) | obj (a : Addr)

/-- a tuple as data: made in the run, or standing in the written part -/
def TupAt (K : PySem.W.Frag) (I : Hp) (a : Addr) (xs : List V) : Prop := I a = some (.tup xs) ∨
    ∃ (o : Obj) (its : Array Value) (n : Nat), K.lookup a = some o ∧ o.cls = .type "tuple" ∧ o.data = .seq its n ∧ its.size ≤ sizeLine ∧ Vals xs its.toList
mutual
def Rep (K : PySem.W.Frag) (I : Hp) : D → V → Prop
  | .non, v => v = .non
  | .bl b, v => v = .bl b
  | .int i, v => v = .int i
  | .str s, v => v = .str s
  | .ty n, v => v = .ty n
  | .lst ds, v => ∃ a xs, v = .ref a ∧ I a = some (.lst xs) ∧ RepL K I ds xs
  | .ext ds, v => ∃ a xs, v = .ref a ∧ SqL K I a xs ∧ RepL K I ds xs
  | .tup ds, v => ∃ a xs, v = .ref a ∧ TupAt K I a xs ∧ RepL K I ds xs
  | .obj a, v => v = .ref a
def RepL (K : PySem.W.Frag) (I : Hp) : List D → List V → Prop
  | [], vs => vs = []
  | d :: ds, vs => ∃ v r, vs = v :: r ∧ Rep K I d v ∧ RepL K I ds r
end

/-- what a changing thing holds -/
inductive MO where
  | lst (xs : List D)
  | ins (C : Addr) (fs : List (Str × D))
  | dK (kvs : List (Key × D))
  | dZ (o : Obj) (vs : List (Key × V)) (kvs : List (Key × D))
  | dT (kvs : List (List Key × D))
  | dU (o : Obj) (vs : List (List Key × V)) (kvs : List (List Key × D))
abbrev Store := Addr → Option MO
abbrev DSt := List (Option D)
def supd (S : Store) (a : Addr) (m : MO) : Store := fun b => if b = a then some m else S b
def RepF {κ : Type} (K : PySem.W.Frag) (I : Hp) : List (κ × D) → List (κ × V) → Prop
  | [], vs => vs = []
  | d :: ds, vs => ∃ v r, vs = (d.1, v) :: r ∧ Rep K I d.2 v ∧ RepF K I ds r
def RepM (K : PySem.W.Frag) (I H : Hp) (a : Addr) : MO → Prop
  | .lst ds => ∃ xs, H a = some (.lst xs) ∧ RepL K I ds xs
  | .ins C fs => ∃ dx vs, H a = some (.ins C dx vs) ∧ H dx = some (.own a) ∧ RepF K I fs vs
  | .dK kvs => ∃ vs, H a = some (.dK vs) ∧ RepF K I kvs vs
  | .dZ o vs kvs => H a = some (.frz o (.dK vs)) ∧ RepF K I kvs vs
  | .dT kvs => ∃ vs, H a = some (.dT vs) ∧ RepF K I kvs vs
  | .dU o vs kvs => H a = some (.frz o (.dT vs)) ∧ RepF K I kvs vs
/-- what is hidden is no instance's own dict, no tuple -/
def NoHid (o : HO) : Prop := (∀ y, o ≠ .own y) ∧ ∀ ys, o ≠ .tup ys

section
variable {K : PySem.W.Frag} {I I' I'' H H' F : Hp} {S S' : Store}
theorem tupAt_same {H H' : Hp} {a : Addr} {xs : List V} (e : Same H H') (h : TupAt K H a xs) : TupAt K H' a xs := by
  rcases h with h | h
  · exact .inl (e _ _ h)
  · exact .inr h
theorem sqT_same {H H' : Hp} {a : Addr} {xs : List V} (e : Same H H') (h : TupAt K H a xs) : SqT K H' a xs := by
  rcases h with h | h
  · exact .inl (.inl (e _ _ h))
  · exact .inr h
mutual
theorem Rep.mono (e : Same I I') : ∀ (d : D) (v : V), Rep K I d v → Rep K I' d v
  | .non, _, h => by simpa only [Rep] using h
  | .bl _, _, h => by simpa only [Rep] using h
  | .int _, _, h => by simpa only [Rep] using h
  | .str _, _, h => by simpa only [Rep] using h
  | .ty _, _, h => by simpa only [Rep] using h
  | .obj _, _, h => by simpa only [Rep] using h
  | .lst ds, v, h => by
    simp only [Rep] at h ⊢
    obtain ⟨a, xs, rfl, hs, hr⟩ := h
    exact ⟨a, xs, rfl, e _ _ hs, RepL.mono e ds xs hr⟩
  | .ext ds, v, h => by
    simp only [Rep] at h ⊢
    obtain ⟨a, xs, rfl, hs, hr⟩ := h
    exact ⟨a, xs, rfl, e.seq hs, RepL.mono e ds xs hr⟩
  | .tup ds, v, h => by
    simp only [Rep] at h ⊢
    obtain ⟨a, xs, rfl, hs, hr⟩ := h
    exact ⟨a, xs, rfl, tupAt_same e hs, RepL.mono e ds xs hr⟩
theorem RepL.mono (e : Same I I') : ∀ (ds : List D) (vs : List V), RepL K I ds vs → RepL K I' ds vs
  | [], _, h => by simpa only [RepL] using h
  | d :: ds, vs, h => by
    simp only [RepL] at h ⊢
    obtain ⟨v, r, rfl, h1, h2⟩ := h
    exact ⟨v, r, rfl, Rep.mono e d v h1, RepL.mono e ds r h2⟩
end
theorem RepF.mono {κ : Type} (e : Same I I') : ∀ (ds : List (κ × D)) (vs : List (κ × V)), RepF K I ds vs → RepF K I' ds vs
  | [], _, h => by simpa only [RepF] using h
  | d :: ds, vs, h => by
    simp only [RepF] at h ⊢
    obtain ⟨v, r, rfl, h1, h2⟩ := h
    exact ⟨v, r, rfl, Rep.mono e d.2 v h1, RepF.mono e ds r h2⟩
theorem RepL.len : ∀ {ds : List D} {vs : List V}, RepL K I ds vs → vs.length = ds.length
  | [], _, h => by
    simp only [RepL] at h
    subst h; rfl
  | d :: ds, vs, h => by
    simp only [RepL] at h
    obtain ⟨v, r, rfl, h1, h2⟩ := h
    simp [RepL.len h2]
theorem RepL.get : ∀ {ds : List D} {vs : List V} {i : Nat} {d : D}, RepL K I ds vs → ds[i]? = some d → ∃ v, vs[i]? = some v ∧ Rep K I d v
  | [], _, _, _, _, e => by simp at e
  | d :: ds, vs, 0, x, h, e => by
    simp only [RepL] at h
    obtain ⟨v, r, rfl, h1, h2⟩ := h
    simp at e; subst e
    exact ⟨v, rfl, h1⟩
  | d :: ds, vs, i + 1, x, h, e => by
    simp only [RepL] at h
    obtain ⟨v, r, rfl, h1, h2⟩ := h
    obtain ⟨w, e1, e2⟩ := RepL.get (i := i) h2 (by simpa using e)
    exact ⟨w, by simpa using e1, e2⟩
theorem RepL.app : ∀ {ds es : List D} {vs ws : List V}, RepL K I ds vs → RepL K I es ws → RepL K I (ds ++ es) (vs ++ ws)
  | [], _, _, _, h, h' => by
    simp only [RepL] at h
    subst h; simpa using h'
  | d :: ds, es, vs, ws, h, h' => by
    simp only [RepL] at h
    obtain ⟨v, r, rfl, h1, h2⟩ := h
    simp only [List.cons_append, RepL]
    exact ⟨v, r ++ ws, rfl, h1, h2.app h'⟩
theorem RepL.nil : RepL K I [] [] := by simp only [RepL]
theorem RepL.cons {d : D} {v : V} {ds : List D} {vs : List V} (h : Rep K I d v) (h' : RepL K I ds vs) : RepL K I (d :: ds) (v :: vs) := by
  simp only [RepL]
  exact ⟨v, vs, rfl, h, h'⟩
theorem RepL.one {d : D} {v : V} (h : Rep K I d v) : RepL K I [d] [v] := RepL.cons h RepL.nil
theorem RepL.set : ∀ {ds : List D} {vs : List V} {d : D} {v : V} (i : Nat), RepL K I ds vs → Rep K I d v → RepL K I (ds.set i d) (vs.set i v)
  | [], _, _, _, _, h, _ => by
    simp only [RepL] at h
    subst h; simp only [List.set_nil]; exact RepL.nil
  | d :: ds, vs, x, y, 0, h, h' => by
    simp only [RepL] at h
    obtain ⟨v, r, rfl, h1, h2⟩ := h
    exact RepL.cons h' h2
  | d :: ds, vs, x, y, i + 1, h, h' => by
    simp only [RepL] at h
    obtain ⟨v, r, rfl, h1, h2⟩ := h
    exact RepL.cons h1 (h2.set i h')
theorem RepL.drop : ∀ {ds : List D} {vs : List V} (n : Nat), RepL K I ds vs → RepL K I (ds.drop n) (vs.drop n)
  | _, _, 0, h => by simpa using h
  | [], _, n + 1, h => by
    simp only [RepL] at h
    subst h; simp only [List.drop_nil]; exact RepL.nil
  | d :: ds, vs, n + 1, h => by
    simp only [RepL] at h
    obtain ⟨v, r, rfl, h1, h2⟩ := h
    simpa using h2.drop n
theorem RepL.take : ∀ {ds : List D} {vs : List V} (n : Nat), RepL K I ds vs → RepL K I (ds.take n) (vs.take n)
  | _, _, 0, h => by simp only [List.take_zero]; exact RepL.nil
  | [], _, n + 1, h => by
    simp only [RepL] at h
    subst h; simp only [List.take_nil]; exact RepL.nil
  | d :: ds, vs, n + 1, h => by
    simp only [RepL] at h
    obtain ⟨v, r, rfl, h1, h2⟩ := h
    simp only [List.take_succ_cons]
    exact RepL.cons h1 (h2.take n)
theorem RepL.inv1 {d : D} {vs : List V} (h : RepL K I [d] vs) : ∃ v, vs = [v] ∧ Rep K I d v := by
  simp only [RepL] at h
  obtain ⟨v, r, rfl, h1, rfl⟩ := h
  exact ⟨v, rfl, h1⟩
theorem RepL.inv2 {d e : D} {vs : List V} (h : RepL K I [d, e] vs) : ∃ v w, vs = [v, w] ∧ Rep K I d v ∧ Rep K I e w := by
  simp only [RepL] at h
  obtain ⟨v, r, rfl, h1, w, r', rfl, h2, rfl⟩ := h
  exact ⟨v, w, rfl, h1, h2⟩
theorem RepL.inv3 {d e f : D} {vs : List V} (h : RepL K I [d, e, f] vs) : ∃ v w u, vs = [v, w, u] ∧ Rep K I d v ∧ Rep K I e w ∧ Rep K I f u := by
  simp only [RepL] at h
  obtain ⟨v, r, rfl, h1, w, r', rfl, h2, u, r'', rfl, h3, rfl⟩ := h
  exact ⟨v, w, u, rfl, h1, h2, h3⟩
theorem rep_int {i : Int} : Rep K I (.int i) (.int i) := by simp only [Rep]
theorem rep_bl {b : Bool} : Rep K I (.bl b) (.bl b) := by simp only [Rep]
theorem rep_str {s : Str} : Rep K I (.str s) (.str s) := by simp only [Rep]
theorem rep_non : Rep K I .non .non := by simp only [Rep]
theorem Rep.int_of {i : Int} {v : V} (h : Rep K I (.int i) v) : v = .int i := by simpa only [Rep] using h
theorem Rep.bl_of {i : Bool} {v : V} (h : Rep K I (.bl i) v) : v = .bl i := by simpa only [Rep] using h
theorem Rep.str_of {i : Str} {v : V} (h : Rep K I (.str i) v) : v = .str i := by simpa only [Rep] using h
theorem Rep.non_of {v : V} (h : Rep K I .non v) : v = .non := by simpa only [Rep] using h
theorem Rep.obj_of {a : Addr} {v : V} (h : Rep K I (.obj a) v) : v = .ref a := by simpa only [Rep] using h
theorem Rep.lst_of {ds : List D} {v : V} (h : Rep K I (.lst ds) v) : ∃ a xs, v = .ref a ∧ I a = some (.lst xs) ∧ RepL K I ds xs := by simpa only [Rep] using h
theorem Rep.ext_of {ds : List D} {v : V} (h : Rep K I (.ext ds) v) : ∃ a xs, v = .ref a ∧ SqL K I a xs ∧ RepL K I ds xs := by simpa only [Rep] using h
theorem Rep.tup_of {ds : List D} {v : V} (h : Rep K I (.tup ds) v) : ∃ a xs, v = .ref a ∧ TupAt K I a xs ∧ RepL K I ds xs := by simpa only [Rep] using h

/-! ### the heap behind the data -/
structure Ok (K : PySem.W.Frag) (I : Hp) (S : Store) (F H : Hp) : Prop where
  i : ∀ a o, I a = some o → H a = some o
  s : ∀ a m, S a = some m → I a = none ∧ RepM K I H a m
  f : ∀ a o, F a = some o → H a = some o ∧ I a = none ∧ S a = none ∧ NoHid o

theorem RepM.there {a : Addr} {m : MO} (h : RepM K I H a m) : ∃ o, H a = some o ∧ ∀ y, o ≠ .own y := by
  cases m with
  | lst ds => obtain ⟨xs, e, _⟩ := h; exact ⟨_, e, fun y z => by cases z⟩
  | ins C fs => obtain ⟨dx, vs, e, _⟩ := h; exact ⟨_, e, fun y z => by cases z⟩
  | dK kvs => obtain ⟨vs, e, _⟩ := h; exact ⟨_, e, fun y z => by cases z⟩
  | dZ o vs kvs => exact ⟨_, h.1, fun y z => by cases z⟩
  | dT kvs => obtain ⟨vs, e, _⟩ := h; exact ⟨_, e, fun y z => by cases z⟩
  | dU o vs kvs => exact ⟨_, h.1, fun y z => by cases z⟩
theorem RepM.mono {a : Addr} {m : MO} (h : RepM K I H a m) (e : Same I I') (ha : H' a = H a) (hd : ∀ dx, H dx = some (.own a) → H' dx = some (.own a)) : RepM K I' H' a m := by
  cases m with
  | lst ds => obtain ⟨xs, q, r⟩ := h; exact ⟨xs, ha.trans q, r.mono e⟩
  | ins C fs => obtain ⟨dx, vs, q, q2, r⟩ := h; exact ⟨dx, vs, ha.trans q, hd dx q2, r.mono e⟩
  | dK kvs => obtain ⟨vs, q, r⟩ := h; exact ⟨vs, ha.trans q, r.mono e⟩
  | dZ o vs kvs => exact ⟨ha.trans h.1, h.2.mono e⟩
  | dT kvs => obtain ⟨vs, q, r⟩ := h; exact ⟨vs, ha.trans q, r.mono e⟩
  | dU o vs kvs => exact ⟨ha.trans h.1, h.2.mono e⟩
theorem Ok.same (h : Ok K I S F H) : Same I H := h.i
theorem Ok.freshI (h : Ok K I S F H) {p : Addr} (n : H p = none) : I p = none := by
  cases e : I p with
  | none => rfl
  | some o => rw [h.i p o e] at n; cases n
theorem Ok.freshS (h : Ok K I S F H) {p : Addr} (n : H p = none) : S p = none := by
  cases e : S p with
  | none => rfl
  | some o =>
    obtain ⟨_, q, _⟩ := (h.s p o e).2.there
    rw [q] at n; cases n
theorem Ok.freshF (h : Ok K I S F H) {p : Addr} (n : H p = none) : F p = none := by
  cases e : F p with
  | none => rfl
  | some o => rw [(h.f p o e).1] at n; cases n
theorem same_new {p : Addr} {o : HO} (n : I p = none) : Same I (upd I p o) := fun b x e => by
  rw [upd_ne (ne_of_none e n)]
  exact e
/-- a new thing that never changes -/
theorem Ok.newI (h : Ok K I S F H) {p : Addr} {o : HO} (n : H p = none) : Ok K (upd I p o) S F (upd H p o) := by
  refine ⟨fun a x e => ?_, fun a m e => ?_, fun a x e => ?_⟩
  · by_cases q : a = p
    · subst q; rw [upd_same] at e ⊢; exact e
    · rw [upd_ne q] at e ⊢; exact h.i a x e
  · obtain ⟨h1, h2⟩ := h.s a m e
    obtain ⟨x, h3, _⟩ := h2.there
    have ne : a ≠ p := ne_of_none h3 n
    refine ⟨by rw [upd_ne ne]; exact h1, h2.mono (same_new (h.freshI n)) (upd_ne ne) fun dx q => ?_⟩
    rw [upd_ne (ne_of_none q n)]; exact q
  · obtain ⟨h1, h2, h3, h4⟩ := h.f a x e
    have ne : a ≠ p := ne_of_none h1 n
    exact ⟨by rw [upd_ne ne]; exact h1, by rw [upd_ne ne]; exact h2, h3, h4⟩
/-- a new list that may change -/
theorem Ok.newM (h : Ok K I S F H) {p : Addr} {xs : List V} {ds : List D} (n : H p = none) (r : RepL K I ds xs) : Ok K I (supd S p (.lst ds)) F (upd H p (.lst xs)) := by
  refine ⟨fun a x e => ?_, fun a m e => ?_, fun a x e => ?_⟩
  · rw [upd_ne (ne_of_none (h.i a x e) n)]; exact h.i a x e
  · unfold supd at e
    by_cases q : a = p
    · subst q
      rw [if_pos rfl] at e; cases e
      exact ⟨h.freshI n, xs, upd_same, r⟩
    · rw [if_neg q] at e
      obtain ⟨h1, h2⟩ := h.s a m e
      refine ⟨h1, h2.mono (Same.refl I) (upd_ne q) fun dx q => ?_⟩
      rw [upd_ne (ne_of_none q n)]; exact q
  · obtain ⟨h1, h2, h3, h4⟩ := h.f a x e
    have ne : a ≠ p := ne_of_none h1 n
    exact ⟨by rw [upd_ne ne]; exact h1, h2, by unfold supd; rw [if_neg ne]; exact h3, h4⟩
/-- a new thing that is hidden -/
theorem Ok.newF (h : Ok K I S F H) {p : Addr} {o : HO} (n : H p = none) (no : NoHid o) : Ok K I S (upd F p o) (upd H p o) := by
  refine ⟨fun a x e => ?_, fun a m e => ?_, fun a x e => ?_⟩
  · rw [upd_ne (ne_of_none (h.i a x e) n)]; exact h.i a x e
  · obtain ⟨h1, h2⟩ := h.s a m e
    obtain ⟨x, h3, _⟩ := h2.there
    have ne : a ≠ p := ne_of_none h3 n
    refine ⟨h1, h2.mono (Same.refl I) (upd_ne ne) fun dx q => ?_⟩
    rw [upd_ne (ne_of_none q n)]; exact q
  · by_cases q : a = p
    · subst q
      rw [upd_same] at e ⊢; cases e
      exact ⟨rfl, h.freshI n, h.freshS n, no⟩
    · rw [upd_ne q] at e
      obtain ⟨h1, h2, h3, h4⟩ := h.f a x e
      exact ⟨by rw [upd_ne q]; exact h1, h2, h3, h4⟩
/-- a changing list changes -/
theorem Ok.write (h : Ok K I S F H) {p : Addr} {m : MO} {o : HO} {m' : MO} (e : S p = some m) (no : ∀ y, H p ≠ some (.own y)) (r : RepM K I (upd H p o) p m') : Ok K I (supd S p m') F (upd H p o) := by
  obtain ⟨i0, m0⟩ := h.s p m e
  refine ⟨fun a x q => ?_, fun a m q => ?_, fun a x q => ?_⟩
  · rw [upd_ne (ne_of_none q i0)]; exact h.i a x q
  · unfold supd at q
    by_cases z : a = p
    · subst z
      rw [if_pos rfl] at q; cases q
      exact ⟨i0, r⟩
    · rw [if_neg z] at q
      obtain ⟨h1, h2⟩ := h.s a m q
      refine ⟨h1, h2.mono (Same.refl I) (upd_ne z) fun dx q => ?_⟩
      by_cases zz : dx = p
      · subst zz; exact absurd q (no _)
      · rw [upd_ne zz]; exact q
  · obtain ⟨h1, h2, h3, h4⟩ := h.f a x q
    have ne : a ≠ p := fun z => by subst z; rw [h3] at e; cases e
    exact ⟨by rw [upd_ne ne]; exact h1, h2, by unfold supd; rw [if_neg ne]; exact h3, h4⟩
theorem Ok.writeL (h : Ok K I S F H) {p : Addr} {m : MO} {xs : List V} {ds : List D} (e : S p = some m) (r : RepL K I ds xs) : Ok K I (supd S p (.lst ds)) F (upd H p (.lst xs)) := by
  refine h.write e (fun y z => ?_) ⟨xs, upd_same, r⟩
  obtain ⟨o, q, no⟩ := (h.s p m e).2.there
  rw [q] at z
  exact no y (Option.some.inj z)
/-- a hidden thing changes -/
theorem Ok.writeF (h : Ok K I S F H) {p : Addr} {o o' : HO} (e : F p = some o) (no : NoHid o') : Ok K I S (upd F p o') (upd H p o') := by
  obtain ⟨f1, f2, f3, f4⟩ := h.f p o e
  refine ⟨fun a x q => ?_, fun a m q => ?_, fun a x q => ?_⟩
  · rw [upd_ne (ne_of_none q f2)]; exact h.i a x q
  · obtain ⟨h1, h2⟩ := h.s a m q
    have ne : a ≠ p := fun z => by subst z; rw [f3] at q; cases q
    refine ⟨h1, h2.mono (Same.refl I) (upd_ne ne) fun dx q => ?_⟩
    by_cases zz : dx = p
    · subst zz
      rw [f1] at q
      exact absurd (Option.some.inj q) (f4.1 _)
    · rw [upd_ne zz]; exact q
  · by_cases z : a = p
    · subst z
      rw [upd_same] at q ⊢; cases q
      exact ⟨rfl, f2, f3, no⟩
    · rw [upd_ne z] at q
      obtain ⟨h1, h2, h3, h4⟩ := h.f a x q
      exact ⟨by rw [upd_ne z]; exact h1, h2, h3, h4⟩
/-- a hidden thing is laid with what never changes -/
theorem Ok.showF (h : Ok K I S F H) {p : Addr} {o : HO} (e : F p = some o) : Ok K (upd I p o) S (fun b => if b = p then none else F b) H := by
  obtain ⟨f1, f2, f3, f4⟩ := h.f p o e
  refine ⟨fun a x q => ?_, fun a m q => ?_, fun a x q => ?_⟩
  · by_cases z : a = p
    · subst z; rw [upd_same] at q; cases q; exact f1
    · rw [upd_ne z] at q; exact h.i a x q
  · obtain ⟨h1, h2⟩ := h.s a m q
    have ne : a ≠ p := fun z => by subst z; rw [f3] at q; cases q
    exact ⟨by rw [upd_ne ne]; exact h1, h2.mono (same_new f2) rfl fun _ q => q⟩
  · by_cases z : a = p
    · rw [if_pos z] at q; cases q
    · rw [if_neg z] at q
      obtain ⟨h1, h2, h3, h4⟩ := h.f a x q
      exact ⟨h1, by rw [upd_ne z]; exact h2, h3, h4⟩
theorem rep_new_lst {p : Addr} {xs : List V} {ds : List D} (n : I p = none) (r : RepL K I ds xs) : Rep K (upd I p (.lst xs)) (.lst ds) (.ref p) := by
  simp only [Rep]
  exact ⟨p, xs, rfl, upd_same, r.mono (same_new n)⟩
theorem rep_new_tup {p : Addr} {xs : List V} {ds : List D} (n : I p = none) (r : RepL K I ds xs) : Rep K (upd I p (.tup xs)) (.tup ds) (.ref p) := by
  simp only [Rep]
  exact ⟨p, xs, rfl, .inl upd_same, r.mono (same_new n)⟩
end

/-! ### slots -/
def RepS (K : PySem.W.Frag) (I : Hp) (ρ : DSt) (σ : L2.St) : Prop := ρ.length = σ.length ∧ ∀ (i : Nat) (d : D), ρ[i]? = some (some d) → ∃ v, σ[i]? = some (some v) ∧ Rep K I d v
section
variable {K : PySem.W.Frag} {I I' : Hp} {ρ : DSt} {σ : L2.St}
theorem RepS.mono (h : RepS K I ρ σ) (e : Same I I') : RepS K I' ρ σ := ⟨h.1, fun i d q => let ⟨v, a, b⟩ := h.2 i d q; ⟨v, a, b.mono e⟩⟩
theorem RepS.set (h : RepS K I ρ σ) {d : D} {v : V} (i : Nat) (r : Rep K I d v) : RepS K I (ρ.set i (some d)) (σ.set i (some v)) := by
  refine ⟨by simp [h.1], fun j x q => ?_⟩
  by_cases hj : i = j
  · subst hj
    by_cases hi : i < ρ.length
    · rw [List.getElem?_set_self hi] at q
      cases q
      exact ⟨v, by rw [List.getElem?_set_self (by rw [← h.1]; exact hi)], r⟩
    · rw [List.getElem?_eq_none (by simpa using hi)] at q; cases q
  · rw [List.getElem?_set_ne hj] at q
    obtain ⟨w, a, b⟩ := h.2 j x q
    exact ⟨w, by rw [List.getElem?_set_ne hj]; exact a, b⟩
theorem RepS.unset (h : RepS K I ρ σ) (i : Nat) : RepS K I (ρ.set i none) (σ.set i none) := by
  refine ⟨by simp [h.1], fun j x q => ?_⟩
  by_cases hj : i = j
  · subst hj
    by_cases hi : i < ρ.length
    · rw [List.getElem?_set_self hi] at q; cases q
    · rw [List.getElem?_eq_none (by simpa using hi)] at q; cases q
  · rw [List.getElem?_set_ne hj] at q
    obtain ⟨w, a, b⟩ := h.2 j x q
    exact ⟨w, by rw [List.getElem?_set_ne hj]; exact a, b⟩
def dwipe (ρ : DSt) : List Nat → DSt
  | [] => ρ
  | v :: vs => (dwipe ρ vs).set v none
theorem RepS.wipe (h : RepS K I ρ σ) : ∀ vs : List Nat, RepS K I (dwipe ρ vs) (L2.wipe σ vs)
  | [] => h
  | v :: vs => (h.wipe vs).unset v
theorem repS_start {N : List Str} {ds : List D} {vs : List V} (r : RepL K I ds vs) : RepS K I (ds.map some ++ List.replicate (N.length - ds.length) none) (L2.start N vs) := by
  have l := r.len
  refine ⟨by simp [L2.start, l], fun i d q => ?_⟩
  by_cases hi : i < ds.length
  · rw [List.getElem?_append_left (by simpa using hi)] at q
    rw [List.getElem?_map] at q
    cases e : ds[i]? with
    | none => rw [e] at q; cases q
    | some x =>
      rw [e] at q
      cases q
      obtain ⟨v, e1, e2⟩ := r.get e
      refine ⟨v, ?_, e2⟩
      unfold L2.start
      rw [List.getElem?_append_left (by simpa [l] using hi), List.getElem?_map, e1]
      rfl
  · rw [List.getElem?_append_right (by simpa using hi)] at q
    rw [List.getElem?_replicate] at q
    split at q <;> cases q
end
end DL

namespace DL
open PySem PySem.Spec PyProof.Rows L2

/-! ### readings over data -/
abbrev DE := DSt → Store → (D → Store → Prop) → Prop
abbrev DT := DSt → Store → (Bool → Store → Prop) → Prop
abbrev DA := DSt → Store → (List D → Store → Prop) → Prop
/-- what is walked: its data, what must stay as it is meanwhile -/
abbrev DI := DSt → Store → (List D → Option (Store → Prop) → Store → Prop) → Prop
structure DEnds where
  nx : DSt → Store → Prop
  rt : D → Store → Prop
  bk : DSt → Store → Prop := fun _ _ => False
  ct : DSt → Store → Prop := fun _ _ => False
abbrev DS := DEnds → DSt → Store → Prop
abbrev DSp := List D → Store → (D → Store → Prop) → Prop

section
variable (K : PySem.W.Frag)
def Sees (I F : Hp) (P : D → Store → Prop) (Q : VK) : Prop := ∀ x S' v I' H', P x S' → Same I I' → Ok K I' S' F H' → Rep K I' x v → Q v H'
def SeesT (I F : Hp) (P : Bool → Store → Prop) (Q : Bool → Hp → Prop) : Prop := ∀ b S' I' H', P b S' → Same I I' → Ok K I' S' F H' → Q b H'
def SeesA (I F : Hp) (P : List D → Store → Prop) (Q : List V → Hp → Prop) : Prop := ∀ xs S' vs I' H', P xs S' → Same I I' → Ok K I' S' F H' → RepL K I' xs vs → Q vs H'
def SeesS (I F : Hp) (P : DSt → Store → Prop) (Q : L2.St → Hp → Prop) : Prop := ∀ ρ S' σ I' H', P ρ S' → Same I I' → Ok K I' S' F H' → RepS K I' ρ σ → Q σ H'
def upE (d : DE) : TE := fun σ H Q => ∃ ρ I S F P, RepS K I ρ σ ∧ Ok K I S F H ∧ d ρ S P ∧ Sees K I F P Q
def upT (d : DT) : TT := fun σ H Q => ∃ ρ I S F P, RepS K I ρ σ ∧ Ok K I S F H ∧ d ρ S P ∧ SeesT K I F P Q
def upA (d : DA) : TA := fun σ H Q => ∃ ρ I S F P, RepS K I ρ σ ∧ Ok K I S F H ∧ d ρ S P ∧ SeesA K I F P Q
structure SeesD (I F : Hp) (DD : DEnds) (E : Ends) : Prop where
  nx : SeesS K I F DD.nx E.nx
  rt : Sees K I F DD.rt E.rt
  bk : SeesS K I F DD.bk E.bk
  ct : SeesS K I F DD.ct E.ct
def upS (d : DS) : TS := fun E σ H => ∃ ρ I S F DD, RepS K I ρ σ ∧ Ok K I S F H ∧ d DD ρ S ∧ SeesD K I F DD E
/-- a def's promise -/
def upSp (d : DSp) : Sp := fun vs H Q _ => ∃ ds I S F P, RepL K I ds vs ∧ Ok K I S F H ∧ d ds S P ∧ Sees K I F P Q
end
section
variable {K : PySem.W.Frag} {I I' F : Hp}
theorem Sees.mono {P : D → Store → Prop} {Q : VK} (h : Sees K I F P Q) (e : Same I I') : Sees K I' F P Q := fun x S' v I2 H' p e2 ok r => h x S' v I2 H' p (e.trans e2) ok r
theorem SeesT.mono {P : Bool → Store → Prop} {Q : Bool → Hp → Prop} (h : SeesT K I F P Q) (e : Same I I') : SeesT K I' F P Q := fun x S' I2 H' p e2 ok => h x S' I2 H' p (e.trans e2) ok
theorem SeesA.mono {P : List D → Store → Prop} {Q : List V → Hp → Prop} (h : SeesA K I F P Q) (e : Same I I') : SeesA K I' F P Q := fun x S' v I2 H' p e2 ok r => h x S' v I2 H' p (e.trans e2) ok r
theorem SeesS.mono {P : DSt → Store → Prop} {Q : L2.St → Hp → Prop} (h : SeesS K I F P Q) (e : Same I I') : SeesS K I' F P Q := fun x S' v I2 H' p e2 ok r => h x S' v I2 H' p (e.trans e2) ok r
theorem SeesD.mono {DD : DEnds} {E : Ends} (h : SeesD K I F DD E) (e : Same I I') : SeesD K I' F DD E := ⟨h.nx.mono e, h.rt.mono e, h.bk.mono e, h.ct.mono e⟩
end

abbrev JE (X : Cx) (e : Expr) (d : DE) : Prop := PE X e (upE X.K d)
abbrev JT (X : Cx) (e : Expr) (d : DT) : Prop := PT X e (upT X.K d)
abbrev JW (X : Cx) (e : Expr) (d : DT) : Prop := PW X e (upT X.K d)
abbrev JA (X : Cx) (es : List Expr) (d : DA) : Prop := PA X es (upA X.K d)
abbrev JS (X : Cx) (st : Stmt) (d : DS) : Prop := PS X st (upS X.K d)
abbrev JSs (X : Cx) (st : List Stmt) (d : DS) : Prop := PSs X st (upS X.K d)

theorem je_of {X : Cx} {e : Expr} {t u : TE} (h : PE X e t) (i : ∀ σ H Q, u σ H Q → t σ H Q) : PE X e u := ⟨fun pins s σ H Q I q => h.run pins s σ H Q I (i _ _ _ q)⟩
theorem jt_of {X : Cx} {e : Expr} {t u : TT} (h : PT X e t) (i : ∀ σ H Q, u σ H Q → t σ H Q) : PT X e u := ⟨fun pins s σ H Q I q => h.run pins s σ H Q I (i _ _ _ q)⟩
theorem jw_of {X : Cx} {e : Expr} {t u : TT} (h : PW X e t) (i : ∀ σ H Q, u σ H Q → t σ H Q) : PW X e u := ⟨fun wh pins s σ H Q I q => h.run wh pins s σ H Q I (i _ _ _ q)⟩
theorem ja_of {X : Cx} {e : List Expr} {t u : TA} (h : PA X e t) (i : ∀ σ H Q, u σ H Q → t σ H Q) : PA X e u := ⟨fun pos pins s σ H Q I q => h.run pos pins s σ H Q I (i _ _ _ q)⟩
theorem js_of {X : Cx} {e : Stmt} {t u : TS} (h : PS X e t) (i : ∀ D σ H, u D σ H → t D σ H) : PS X e u := ⟨fun pins s σ H Q I q => h.run pins s σ H Q I (i _ _ _ q)⟩
theorem jss_of {X : Cx} {e : List Stmt} {t u : TS} (h : PSs X e t) (i : ∀ D σ H, u D σ H → t D σ H) : PSs X e u := ⟨fun pins s σ H Q I q => h.run pins s σ H Q I (i _ _ _ q)⟩

/-! ### names, constants -/
def dVar (i : Nat) : DE := fun ρ S P => match ρ[i]? with
  | some (some x) => P x S
  | _ => False
def dC (x : D) : DE := fun _ S P => P x S
section
variable {X : Cx} {pos : Pos}
theorem je_var (i : Nat) {x : Str} (hN : X.N[i]? = some x := by rfl) (hv : Vis X.env.scope x := by first | exact Or.inl rfl | exact Or.inr (Or.inl rfl) | exact Or.inr (Or.inr rfl)) (hd : (x == ("__debug__" : Str)) = false := by decide)
    (hcd : (x == ("__classdict__" : Str)) = false := by decide) : JE X (.Name x pos) (dVar i) :=
  je_of (pe_var hN hv hd hcd) fun σ H Q ⟨ρ, I, S, F, P, rs, ok, h, q⟩ => by
    unfold dVar at h
    split at h
    · rename_i x e
      obtain ⟨v, e1, r⟩ := rs.2 i x e
      exact ⟨v, e1, q _ _ _ _ _ h (Same.refl I) ok r⟩
    · exact h.elim
theorem je_c {e : Expr} {x : D} {v : V} (h : PE X e (tC v)) (r : ∀ I, Rep X.K I x v) : JE X e (dC x) :=
  je_of h fun σ H Q ⟨ρ, I, S, F, P, rs, ok, h, q⟩ => q _ _ _ _ _ h (Same.refl I) ok (r I)
theorem je_int {i : Int} {j} : JE X (.Constant (.int i) j pos) (dC (.int i)) := je_c pe_int fun _ => rep_int
theorem je_bl {b : Bool} {j} : JE X (.Constant (.bool b) j pos) (dC (.bl b)) := je_c pe_bl fun _ => rep_bl
theorem je_non {j} : JE X (.Constant .none j pos) (dC .non) := je_c pe_non fun _ => rep_non
theorem je_str {x : Str} {j} : JE X (.Constant (.str x) j pos) (dC (.str x)) := je_c pe_str fun _ => rep_str
/-! ### operators -/
abbrev D2 := D → D → Store → (D → Store → Prop) → Prop
abbrev D1 := D → Store → (D → Store → Prop) → Prop
def dOp (o : D2) (a b : DE) : DE := fun ρ S P => a ρ S fun x S1 => b ρ S1 fun y S2 => o x y S2 P
def dUn (o : D1) (a : DE) : DE := fun ρ S P => a ρ S fun x S1 => o x S1 P
def Imp2 (K : PySem.W.Frag) (r : R2) (o : D2) : Prop := ∀ x y v w I S F H P Q, Ok K I S F H → Rep K I x v → Rep K I y w → o x y S P → Sees K I F P Q → r v w H Q
def Imp1 (K : PySem.W.Frag) (r : V → Hp → VK → Prop) (o : D1) : Prop := ∀ x v I S F H P Q, Ok K I S F H → Rep K I x v → o x S P → Sees K I F P Q → r v H Q
variable {a b : Expr} {da db : DE}
theorem up_op {K : PySem.W.Frag} {r : R2} {o : D2} (i : Imp2 K r o) : ∀ σ H Q, upE K (dOp o da db) σ H Q → tOp r (upE K da) (upE K db) σ H Q := fun σ H Q ⟨ρ, I, S, F, P, rs, ok, h, q⟩ =>
  ⟨ρ, I, S, F, _, rs, ok, h, fun x S1 v I1 H1 h1 e1 ok1 r1 => ⟨ρ, I1, S1, F, _, rs.mono e1, ok1, h1, fun y S2 w I2 H2 h2 e2 ok2 r2 =>
    i x y v w I2 S2 F H2 P Q ok2 (r1.mono e2) r2 h2 (q.mono (e1.trans e2))⟩⟩
theorem je_op {op : Operator} {r : R2} {o : D2} (h : OpR X (binaryOp op) r) (i : Imp2 X.K r o) (ha : JE X a da) (hb : JE X b db) : JE X (.BinOp a op b pos) (dOp o da db) := je_of (pe_op h ha hb) (up_op i)
theorem je_un {op : UnaryOp} {r : V → Hp → VK → Prop} {o : D1} (h : UnR X (unaryOp op) r) (i : Imp1 X.K r o) (ha : JE X a da) : JE X (.UnaryOp op a pos) (dUn o da) :=
  je_of (pe_un h ha) fun σ H Q ⟨ρ, I, S, F, P, rs, ok, h, q⟩ => ⟨ρ, I, S, F, _, rs, ok, h, fun x S1 v I1 H1 h1 e1 ok1 r1 => i x v I1 S1 F H1 P Q ok1 r1 h1 (q.mono e1)⟩
theorem je_cmp {op : CmpOp} {r : R2} {o : D2} (h : OpR X (compareOp op) r) (i : Imp2 X.K r o) (ha : JE X a da) (hb : JE X b db) (hm : behindInMarks op b = false) : JE X (.Compare a [op] [b] pos) (dOp o da db) := je_of (pe_cmpR h ha hb hm) (up_op i)
def dTest (d : DE) : DT := fun ρ S P => d ρ S fun x S1 => match x with
  | .bl k => P k S1
  | _ => False
theorem up_test {K : PySem.W.Frag} {t : TE} {d : DE} (h : ∀ σ H Q, upE K d σ H Q → t σ H Q) : ∀ σ H Q, upT K (dTest d) σ H Q → tTest t σ H Q := fun σ H Q ⟨ρ, I, S, F, P, rs, ok, hh, q⟩ =>
  h _ _ _ ⟨ρ, I, S, F, _, rs, ok, hh, fun x S1 v I1 H1 h1 e1 ok1 r1 => by
    cases x with
    | bl k => exact ⟨k, r1.bl_of, q k S1 I1 H1 h1 e1 ok1⟩
    | _ => exact h1.elim⟩
theorem jt_cmp {op : CmpOp} {r : R2} {o : D2} (h : OpR X (compareOp op) r) (i : Imp2 X.K r o) (ha : JE X a da) (hb : JE X b db) (hm : behindInMarks op b = false) : JT X (.Compare a [op] [b] pos) (dTest (dOp o da db)) := jt_of (pt_cmpR h ha hb hm) (up_test (up_op i))

/-! ### and, or, not, if -/
def dAnd (t u : DT) : DT := fun ρ S P => t ρ S fun c S1 => if c = true then u ρ S1 P else P false S1
def dOr (t u : DT) : DT := fun ρ S P => t ρ S fun c S1 => if c = true then P true S1 else u ρ S1 P
def dNot (t : DT) : DT := fun ρ S P => t ρ S fun c S1 => P (!c) S1
/-- and, or as values, truths all but the last -/
def dAndV (a b : DE) : DE := fun ρ S P => a ρ S fun x S1 => match x with
  | .bl c => if c = true then b ρ S1 P else P (.bl false) S1
  | _ => False
def dOrV (a b : DE) : DE := fun ρ S P => a ρ S fun x S1 => match x with
  | .bl c => if c = true then P (.bl true) S1 else b ρ S1 P
  | _ => False
def dNotV (a : DE) : DE := fun ρ S P => a ρ S fun x S1 => match x with
  | .bl c => P (.bl (!c)) S1
  | _ => False
def dIf (c : DT) (a b : DE) : DE := fun ρ S P => c ρ S fun k S1 => if k = true then a ρ S1 P else b ρ S1 P
variable {dt du : DT} {rest : List Expr}
theorem jw_or1 (ha : JT X a dt) : JW X (.BoolOp .Or [a] pos) dt := pw_or1 ha
theorem jw_or (ha : JT X a dt) (hb : JW X (.BoolOp .Or (b :: rest) pos) du) : JW X (.BoolOp .Or (a :: b :: rest) pos) (dOr dt du) :=
  jw_of (pw_or ha hb) fun σ H Q ⟨ρ, I, S, F, P, rs, ok, h, q⟩ => ⟨ρ, I, S, F, _, rs, ok, h, fun c S1 I1 H1 h1 e1 ok1 => by
    cases c with
    | false => exact ⟨ρ, I1, S1, F, P, rs.mono e1, ok1, h1, q.mono e1⟩
    | true => exact q _ _ _ _ h1 e1 ok1⟩
theorem jt_w (h : JW X a dt) : JT X a dt := h.pt
theorem jt_not (ha : JT X a dt) : JT X (.UnaryOp .Not a pos) (dNot dt) :=
  jt_of (pt_not ha) fun σ H Q ⟨ρ, I, S, F, P, rs, ok, h, q⟩ => ⟨ρ, I, S, F, _, rs, ok, h, fun c S1 I1 H1 h1 e1 ok1 => q _ _ _ _ h1 e1 ok1⟩
/-- an expression that gives a truth, as a test -/
theorem jt_val (h : JE X a da) (he : ∀ whole, isTrue a X.env whole = (do let v ← whole; standAt a.pos; holding [v] (truthy v)) := by intro _; rfl) : JT X a (dTest da) :=
  jt_of (pt_val h he) fun σ H Q ⟨ρ, I, S, F, P, rs, ok, hh, q⟩ => ⟨ρ, I, S, F, _, rs, ok, hh, fun x S1 v I1 H1 h1 e1 ok1 r1 => by
    cases x with
    | bl k => exact ⟨k, r1.bl_of, q k S1 I1 H1 h1 e1 ok1⟩
    | _ => exact h1.elim⟩
theorem je_one {op} (h : JE X a da) : JE X (.BoolOp op [a] pos) da := pe_one h
theorem je_and (ha : JE X a da) (hb : JE X (.BoolOp .And (b :: rest) pos) db) : JE X (.BoolOp .And (a :: b :: rest) pos) (dAndV da db) :=
  je_of (pe_and ha hb) fun σ H Q ⟨ρ, I, S, F, P, rs, ok, h, q⟩ => ⟨ρ, I, S, F, _, rs, ok, h, fun x S1 v I1 H1 h1 e1 ok1 r1 => by
    cases x with
    | bl c =>
      refine ⟨c, r1.bl_of, ?_⟩
      cases c with
      | true => exact ⟨ρ, I1, S1, F, P, rs.mono e1, ok1, h1, q.mono e1⟩
      | false => exact q _ _ _ _ _ h1 e1 ok1 rep_bl
    | _ => exact h1.elim⟩
theorem je_not (ha : JE X a da) : JE X (.UnaryOp .Not a pos) (dNotV da) :=
  je_of (pe_not ha) fun σ H Q ⟨ρ, I, S, F, P, rs, ok, h, q⟩ => ⟨ρ, I, S, F, _, rs, ok, h, fun x S1 v I1 H1 h1 e1 ok1 r1 => by
    cases x with
    | bl c => exact ⟨c, r1.bl_of, q _ _ _ _ _ h1 e1 ok1 rep_bl⟩
    | _ => exact h1.elim⟩
theorem je_ifE {c : Expr} (hc : JT X c dt) (ha : JE X a da) (hb : JE X b db) : JE X (.IfExp c a b pos) (dIf dt da db) :=
  je_of (pe_ifExp hc ha hb) fun σ H Q ⟨ρ, I, S, F, P, rs, ok, h, q⟩ => ⟨ρ, I, S, F, _, rs, ok, h, fun c S1 I1 H1 h1 e1 ok1 => by
    cases c with
    | true => exact ⟨ρ, I1, S1, F, P, rs.mono e1, ok1, h1, q.mono e1⟩
    | false => exact ⟨ρ, I1, S1, F, P, rs.mono e1, ok1, h1, q.mono e1⟩⟩

/-! ### arguments, displays -/
def dNil : DA := fun _ S P => P [] S
def dCons (a : DE) (r : DA) : DA := fun ρ S P => a ρ S fun x S1 => r ρ S1 fun xs S2 => P (x :: xs) S2
variable {es : List Expr} {ds : DA}
theorem ja_nil : JA X [] dNil := ja_of pa_nil fun σ H Q ⟨ρ, I, S, F, P, rs, ok, h, q⟩ => q _ _ _ _ _ h (Same.refl I) ok RepL.nil
theorem ja_cons (ha : JE X a da) (hr : JA X es ds) (hs : starEach (a :: es) X.env = (false, eval a X.env) :: starEach es X.env := by rfl) : JA X (a :: es) (dCons da ds) :=
  ja_of (pa_cons ha hr hs) fun σ H Q ⟨ρ, I, S, F, P, rs, ok, h, q⟩ => ⟨ρ, I, S, F, _, rs, ok, h, fun x S1 v I1 H1 h1 e1 ok1 r1 => ⟨ρ, I1, S1, F, _, rs.mono e1, ok1, h1, fun xs S2 vs I2 H2 h2 e2 ok2 r2 =>
    q _ _ _ _ _ h2 (e1.trans e2) ok2 (RepL.cons (r1.mono e2) r2)⟩⟩
def dTup (a : DA) : DE := fun ρ S P => a ρ S fun xs S1 => xs.length ≤ 100000 ∧ P (.tup xs) S1
def dLst (a : DA) : DE := fun ρ S P => a ρ S fun xs S1 => xs.length ≤ 100000 ∧ P (.lst xs) S1
/-- a list that is to change -/
def dLstM (a : DA) : DE := fun ρ S P => a ρ S fun xs S1 => xs.length ≤ 100000 ∧ ∀ p, S1 p = none → P (.obj p) (supd S1 p (.lst xs))
theorem line5 {n : Nat} (h : n ≤ 100000) : n ≤ sizeLine := Nat.le_trans h (by decide)
theorem je_tup {x1} (h : JA X es ds) : JE X (.Tuple es x1 pos) (dTup ds) :=
  je_of (pe_tup h) fun σ H Q ⟨ρ, I, S, F, P, rs, ok, hh, q⟩ => ⟨ρ, I, S, F, _, rs, ok, hh, fun xs S1 vs I1 H1 ⟨hl, h1⟩ e1 ok1 r1 =>
    ⟨line5 (by rw [r1.len]; exact hl), fun p hp => q _ _ _ _ _ h1 (e1.trans (same_new (ok1.freshI hp))) (ok1.newI hp) (rep_new_tup (ok1.freshI hp) r1)⟩⟩
theorem je_lst (h : JA X es ds) : JE X (.List es pos) (dLst ds) :=
  je_of (pe_lst h) fun σ H Q ⟨ρ, I, S, F, P, rs, ok, hh, q⟩ => ⟨ρ, I, S, F, _, rs, ok, hh, fun xs S1 vs I1 H1 ⟨hl, h1⟩ e1 ok1 r1 =>
    ⟨line5 (by rw [r1.len]; exact hl), fun p hp => q _ _ _ _ _ h1 (e1.trans (same_new (ok1.freshI hp))) (ok1.newI hp) (rep_new_lst (ok1.freshI hp) r1)⟩⟩
theorem je_lstM (h : JA X es ds) : JE X (.List es pos) (dLstM ds) :=
  je_of (pe_lst h) fun σ H Q ⟨ρ, I, S, F, P, rs, ok, hh, q⟩ => ⟨ρ, I, S, F, _, rs, ok, hh, fun xs S1 vs I1 H1 ⟨hl, h1⟩ e1 ok1 r1 =>
    ⟨line5 (by rw [r1.len]; exact hl), fun p hp => q _ _ _ _ _ (h1 p (ok1.freshS hp)) e1 (ok1.newM hp r1) (by simp only [Rep])⟩⟩

/-! ### calls -/
def dCall (sp : DSp) (dv : List D) (a : DA) : DE := fun ρ S P => a ρ S fun xs S1 => sp (xs ++ dv) S1 P
abbrev FnD (P : Program) (w : World) (K : PySem.W.Frag) (mg : Str → Option Value) (base : Heap) (k : Nat) (f : Addr) (fd : FuncData) (ps : List Str) (sp : DSp) : Prop := DG.FnG P w K mg base CX0 k f fd ps (upSp K sp)
theorem je_call {k : Nat} {f : Addr} {fd : FuncData} {ps : List Str} {sp : DSp} {dv : List D} {dvs : List V} {dd : List Value} {x : Str} {p : Pos} (G : FnD X.prog X.w X.K X.mg X.base k f fd ps sp) (hr : DG.RoomG k X.A) (hg : Gl X x) (hm : X.mg x = some (.ref f)) (hk : PySem.W.keepIn X.K (.ref f) = true)
    (hb : Binds X.K fd ps dd) (hd : Vals dvs dd) (hdv : ∀ I, RepL X.K I dv dvs) (ha : JA X (a :: es) ds) (hdb : (x == ("__debug__" : Str)) = false := by decide) (he : starEach (a :: es) X.env = (false, eval a X.env) :: starEach es X.env := by rfl)
    (hpl : (backTo pos (starEach es X.env)).any (·.1) = false := by rfl) : JE X (.Call (.Name x p) (a :: es) [] pos) (dCall sp dv ds) :=
  je_of (DG.pe_call G hr hg hm hk hb hd pass0 ha hdb he hpl) fun σ H Q ⟨ρ, I, S, F, P, rs, ok, h, q⟩ => ⟨ρ, I, S, F, _, rs, ok, h, fun xs S1 vs I1 H1 h1 e1 ok1 r1 => ⟨_, I1, S1, F, P, r1.app (hdv I1), ok1, h1, q.mono e1⟩⟩
/-- a built-in's call, by its rule -/
abbrev DC := List D → Store → (D → Store → Prop) → Prop
def ImpC (K : PySem.W.Frag) (r : List V → Hp → VK → Prop) (o : DC) : Prop := ∀ xs vs I S F H P Q, Ok K I S F H → RepL K I xs vs → o xs S P → Sees K I F P Q → r vs H Q
def dCB (o : DC) (a : DA) : DE := fun ρ S P => a ρ S fun xs S1 => o xs S1 P
theorem up_cb {K : PySem.W.Frag} {r : List V → Hp → VK → Prop} {o : DC} (i : ImpC K r o) : ∀ σ H Q, upE K (dCB o ds) σ H Q → tCB r (upA K ds) σ H Q := fun σ H Q ⟨ρ, I, S, F, P, rs, ok, h, q⟩ =>
  ⟨ρ, I, S, F, _, rs, ok, h, fun xs S1 vs I1 H1 h1 e1 ok1 r1 => i xs vs I1 S1 F H1 P Q ok1 r1 h1 (q.mono e1)⟩
theorem je_callB {r : List V → Hp → VK → Prop} {o : DC} {id : String} {x : Str} {p : Pos} (hc : CallR X (.builtin id) r) (i : ImpC X.K r o) (hg : Gl X x) (hm : X.mg x = none) (hv : bootBuiltins x = some (.builtin id)) (ha : JA X (a :: es) ds) (hn : x ≠ "__name__" := by decide) (hdb : (x == ("__debug__" : Str)) = false := by decide)
    (hs : starEach (a :: es) X.env = (false, eval a X.env) :: starEach es X.env := by rfl) (hpl : (backTo pos (starEach es X.env)).any (·.1) = false := by rfl) : JE X (.Call (.Name x p) (a :: es) [] pos) (dCB o ds) := je_of (pe_callB hc hg hm hv ha hn hdb hs hpl) (up_cb i)
theorem je_callTy {r : List V → Hp → VK → Prop} {o : DC} {T : String} {x : Str} {p : Pos} (hc : CallR X (.type T) r) (i : ImpC X.K r o) (hg : Gl X x) (hm : X.mg x = none) (hv : bootBuiltins x = some (.type T)) (ha : JA X (a :: es) ds) (hn : x ≠ "__name__" := by decide) (hdb : (x == ("__debug__" : Str)) = false := by decide)
    (hs : starEach (a :: es) X.env = (false, eval a X.env) :: starEach es X.env := by rfl) (hpl : (backTo pos (starEach es X.env)).any (·.1) = false := by rfl) : JE X (.Call (.Name x p) (a :: es) [] pos) (dCB o ds) := je_of (pe_callTy hc hg hm hv ha hn hdb hs hpl) (up_cb i)
end
end DL

namespace DL
open PySem PySem.Spec PyProof.Rows L2

/-! ### statements -/
def dNext : DS := fun DD ρ S => DD.nx ρ S
def dSeq (t u : DS) : DS := fun DD ρ S => t { DD with nx := u DD } ρ S
def dCont : DS := fun DD ρ S => DD.ct ρ S
def dDrop (d : DE) : DS := fun DD ρ S => d ρ S fun _ S1 => DD.nx ρ S1
def dRet (d : DE) : DS := fun DD ρ S => d ρ S DD.rt
def dRetN : DS := fun DD _ S => DD.rt .non S
def dIfS (c : DT) (t u : DS) : DS := fun DD ρ S => c ρ S fun b S1 => if b = true then t DD ρ S1 else u DD ρ S1
section
variable {X : Cx} {pos : Pos} {st : Stmt} {sts : List Stmt} {t u : DS} {e : Expr} {de : DE} {dc : DT}
theorem jss_nil : JSs X [] dNext := jss_of pss_nil fun D σ H ⟨ρ, I, S, F, DD, rs, ok, h, q⟩ => q.nx _ _ _ _ _ h (Same.refl I) ok rs
theorem jss_cons (h1 : JS X st t) (h2 : JSs X sts u) : JSs X (st :: sts) (dSeq t u) :=
  jss_of (pss_cons h1 h2) fun D σ H ⟨ρ, I, S, F, DD, rs, ok, h, q⟩ =>
    ⟨ρ, I, S, F, _, rs, ok, h, ⟨fun ρ1 S1 σ1 I1 H1 h1 e1 ok1 rs1 => ⟨ρ1, I1, S1, F, DD, rs1, ok1, h1, q.mono e1⟩, q.rt, q.bk, q.ct⟩⟩
theorem jss_one (h1 : JS X st t) : JSs X [st] t := pss_one h1
theorem js_continue : JS X (.Continue pos) dCont := js_of ps_continue fun D σ H ⟨ρ, I, S, F, DD, rs, ok, h, q⟩ => q.ct _ _ _ _ _ h (Same.refl I) ok rs
theorem js_expr (he : JE X e de) (hs : swapsWith e none pos.line X.env = pure false := by rfl) : JS X (.Expr e pos) (dDrop de) :=
  js_of (ps_expr he hs) fun D σ H ⟨ρ, I, S, F, DD, rs, ok, h, q⟩ => ⟨ρ, I, S, F, _, rs, ok, h, fun x S1 v I1 H1 h1 e1 ok1 r1 => q.nx _ _ _ _ _ h1 e1 ok1 (rs.mono e1)⟩
theorem js_ret (he : JE X e de) : JS X (.Return (some e) pos) (dRet de) :=
  js_of (ps_ret he) fun D σ H ⟨ρ, I, S, F, DD, rs, ok, h, q⟩ => ⟨ρ, I, S, F, _, rs, ok, h, q.rt⟩
theorem js_if {c : Expr} {a b : List Stmt} (hc : JT X c dc) (ha : JSs X a t) (hb : JSs X b u) : JS X (.If c a b pos) (dIfS dc t u) :=
  js_of (ps_if hc ha hb) fun D σ H ⟨ρ, I, S, F, DD, rs, ok, h, q⟩ => ⟨ρ, I, S, F, _, rs, ok, h, fun c S1 I1 H1 h1 e1 ok1 => by
    cases c with
    | true => exact ⟨ρ, I1, S1, F, DD, rs.mono e1, ok1, h1, q.mono e1⟩
    | false => exact ⟨ρ, I1, S1, F, DD, rs.mono e1, ok1, h1, q.mono e1⟩⟩
/-! ### targets -/
/-- names, and tuples of such -/
inductive Tgt where
  | nm (i : Nat)
  | tp (ts : List Tgt)
mutual
def Tgt.slots : Tgt → List Nat
  | .nm i => [i]
  | .tp ts => Tgt.slotsL ts
def Tgt.slotsL : List Tgt → List Nat
  | [] => []
  | t :: ts => t.slots ++ Tgt.slotsL ts
end
mutual
def Tgt.put : Tgt → D → DSt → Option DSt
  | .nm i, x, ρ => some (ρ.set i (some x))
  | .tp ts, .tup xs, ρ => Tgt.putL ts xs ρ
  | .tp ts, .lst xs, ρ => Tgt.putL ts xs ρ
  | .tp _, _, _ => none
def Tgt.putL : List Tgt → List D → DSt → Option DSt
  | [], [], ρ => some ρ
  | t :: ts, x :: xs, ρ => (t.put x ρ).bind fun ρ' => Tgt.putL ts xs ρ'
  | _, _, _ => none
end
/-- σ' is σ but at the slots vs -/
def But (vs : List Nat) (σ σ' : L2.St) : Prop := σ'.length = σ.length ∧ ∀ i, i ∉ vs → σ'[i]? = σ[i]?
theorem wipe_get (σ : L2.St) (i : Nat) : ∀ vs : List Nat, (L2.wipe σ vs)[i]? = if i ∈ vs then (if i < σ.length then some none else none) else σ[i]?
  | [] => by simp [L2.wipe]
  | v :: vs => by
    have ih := wipe_get σ i vs
    unfold L2.wipe
    by_cases h : v = i
    · subst h
      by_cases hl : v < σ.length
      · rw [List.getElem?_set_self (by rw [L2.wipe_length]; exact hl), if_pos (by simp), if_pos hl]
      · rw [List.getElem?_eq_none (by rw [List.length_set, L2.wipe_length]; omega), if_pos (by simp), if_neg hl]
    · rw [List.getElem?_set_ne h, ih]
      have : (i ∈ v :: vs) ↔ i ∈ vs := by simp [Ne.symm h]
      simp only [this]
theorem But.wipe {vs : List Nat} {σ σ' : L2.St} (h : But vs σ σ') : L2.wipe σ' vs = L2.wipe σ vs := by
  apply List.ext_getElem?
  intro i
  rw [wipe_get, wipe_get, h.1]
  split
  · rfl
  · rename_i hi; exact h.2 i hi
def upG (K : PySem.W.Frag) (t : Tgt) : TG := fun v σ H Q => ∃ ρ ρ' I S F x, RepS K I ρ σ ∧ Ok K I S F H ∧ Rep K I x v ∧ t.put x ρ = some ρ' ∧ ∀ σ', RepS K I ρ' σ' → But t.slots σ σ' → Q σ' H
def upGs (K : PySem.W.Frag) (ts : List Tgt) : TGs := fun vs σ H Q => ∃ ρ ρ' I S F xs, RepS K I ρ σ ∧ Ok K I S F H ∧ RepL K I xs vs ∧ Tgt.putL ts xs ρ = some ρ' ∧ ∀ σ', RepS K I ρ' σ' → But (Tgt.slotsL ts) σ σ' → Q σ' H
abbrev JG (X : Cx) (e : Expr) (t : Tgt) : Prop := PG X e (upG X.K t)
abbrev JGs (X : Cx) (es : List Expr) (ts : List Tgt) : Prop := PGs X es (upGs X.K ts)
theorem jg_of {X : Cx} {e : Expr} {t u : TG} (h : PG X e t) (i : ∀ v σ H Q, u v σ H Q → t v σ H Q) : PG X e u := ⟨by
  intro pins s σ H v x Q I r q
  exact h.run pins s σ H v x Q I r (i _ _ _ _ q)⟩
theorem jgs_of {X : Cx} {e : List Expr} {t u : TGs} (h : PGs X e t) (i : ∀ v σ H Q, u v σ H Q → t v σ H Q) : PGs X e u := ⟨by
  intro pins s σ H v x Q I r q
  exact h.run pins s σ H v x Q I r (i _ _ _ _ q)⟩
theorem jg_name (i : Nat) {x : Str} (hN : X.N.Nodup) (hi : X.N[i]? = some x) (hx : Loc X.env.scope x) (hf : X.fn x = true ∨ X.env.scope.names.lookup x = some .local := by first | exact .inl rfl | exact .inr rfl | assumption) : JG X (.Name x pos) (.nm i) :=
  jg_of (pg_name hN hi hx hf) fun v σ H Q ⟨ρ, ρ', I, S, F, x, rs, ok, r, hp, q⟩ => by
    simp only [Tgt.put, Option.some.injEq] at hp
    subst hp
    refine q _ (rs.set i r) ⟨by simp, fun j hj => ?_⟩
    rw [List.getElem?_set_ne]
    intro e
    exact hj (by simp [Tgt.slots, e])
theorem jgs_nil : JGs X [] [] := jgs_of pgs_nil fun v σ H Q ⟨ρ, ρ', I, S, F, xs, rs, ok, r, hp, q⟩ => by
  cases xs with
  | nil =>
    simp only [Tgt.putL, Option.some.injEq] at hp
    subst hp
    simp only [RepL] at r
    exact ⟨r, q σ rs ⟨rfl, fun _ _ => rfl⟩⟩
  | cons x xs => simp [Tgt.putL] at hp
theorem jgs_cons {es : List Expr} {t : Tgt} {ts : List Tgt} (h1 : JG X e t) (h2 : JGs X es ts) (hs : (assignEach (e :: es) X.env).map (·.2) = assign e X.env :: (assignEach es X.env).map (·.2) := by rfl) : JGs X (e :: es) (t :: ts) :=
  jgs_of (pgs_cons h1 h2 hs) fun v σ H Q ⟨ρ, ρ', I, S, F, xs, rs, ok, r, hp, q⟩ => by
    cases xs with
    | nil => simp [Tgt.putL] at hp
    | cons x xs =>
      simp only [Tgt.putL] at hp
      cases e1 : t.put x ρ with
      | none => rw [e1] at hp; cases hp
      | some ρ1 =>
        rw [e1] at hp
        have hp : Tgt.putL ts xs ρ1 = some ρ' := hp
        simp only [RepL] at r
        obtain ⟨w, rr, rfl, r1, r2⟩ := r
        refine ⟨w, rr, rfl, ρ, ρ1, I, S, F, x, rs, ok, r1, e1, fun σ1 rs1 b1 => ⟨ρ1, ρ', I, S, F, xs, rs1, ok, r2, hp, fun σ2 rs2 b2 => q σ2 rs2 ⟨b2.1.trans b1.1, fun i hi => ?_⟩⟩⟩
        have hi2 : i ∉ t.slots ∧ i ∉ Tgt.slotsL ts := by
          simp only [Tgt.slotsL, List.mem_append, not_or] at hi
          exact hi
        rw [b2.2 i hi2.2, b1.2 i hi2.1]
theorem pg_or {X : Cx} {e : Expr} {t u : TG} (h : PG X e t) (h' : PG X e u) : PG X e (fun v σ H Q => t v σ H Q ∨ u v σ H Q) := ⟨by
  intro pins s σ H v w Q I r hw
  rcases hw with hw | hw
  · exact h.run pins s σ H v w Q I r hw
  · exact h'.run pins s σ H v w Q I r hw⟩
theorem jg_tup {es : List Expr} {k : Nat} {ts : List Tgt} {n : Nat} (hc : X.calm = true) (h : JGs X es ts) (hl : ts.length = n := by rfl)
    (hn : (assignEach es X.env).length = n := by rfl) (hst : (assignEach es X.env).findIdx? (·.1) = none := by rfl) : JG X (.Tuple es k pos) (.tp ts) :=
  jg_of (pg_or (pg_tup hc h hn hst) (pg_unl hc h hn hst)) fun v σ H Q ⟨ρ, ρ', I, S, F, x, rs, ok, r, hp, q⟩ => by
    have key : ∀ (ts : List Tgt) (xs : List D) (ρ : DSt), Tgt.putL ts xs ρ = some ρ' → xs.length = ts.length := by
      intro ts
      induction ts with
      | nil => intro xs ρ h; cases xs with
        | nil => rfl
        | cons _ _ => simp [Tgt.putL] at h
      | cons t ts ih => intro xs ρ h; cases xs with
        | nil => simp [Tgt.putL] at h
        | cons y ys =>
          simp only [Tgt.putL] at h
          cases e1 : t.put y ρ with
          | none => rw [e1] at h; cases h
          | some ρ1 => rw [e1] at h; simp [ih ys ρ1 h]
    cases x with
    | tup xs =>
      simp only [Tgt.put] at hp
      obtain ⟨a, vs, rfl, hs, rl⟩ := r.tup_of
      have hle := key ts xs ρ hp
      refine .inl ⟨a, vs, rfl, sqT_same ok.same hs, by rw [rl.len, hle, hl], ρ, ρ', I, S, F, xs, rs, ok, rl, hp, fun σ' rs' b => q σ' rs' b⟩
    | lst xs =>
      simp only [Tgt.put] at hp
      obtain ⟨a, vs, rfl, hs, rl⟩ := r.lst_of
      have hle := key ts xs ρ hp
      refine .inr ⟨a, vs, rfl, .of (ok.i _ _ hs), by rw [rl.len, hle, hl], ρ, ρ', I, S, F, xs, rs, ok, rl, hp, fun σ' rs' b => q σ' rs' b⟩
    | _ => simp [Tgt.put] at hp

/-! ### assignments -/
def dSet (i : Nat) (d : DE) : DS := fun DD ρ S => d ρ S fun x S1 => DD.nx (ρ.set i (some x)) S1
def dAsg (t : Tgt) (d : DE) : DS := fun DD ρ S => d ρ S fun x S1 => match t.put x ρ with
  | some ρ' => DD.nx ρ' S1
  | none => False
theorem js_set (i : Nat) {x : Str} {pos' : Pos} (hN : X.N.Nodup) (hi : X.N[i]? = some x) (hx : Loc X.env.scope x) (he : JE X e de) (hs : swapsWith e (some (.Name x pos')) pos.line X.env = pure false := by rfl) (hf : X.fn x = true ∨ X.env.scope.names.lookup x = some .local := by first | exact .inl rfl | exact .inr rfl | assumption) :
    JS X (.Assign [.Name x pos'] e pos) (dSet i de) :=
  js_of (ps_set (i := i) hN hi hx he hs hf) fun D σ H ⟨ρ, I, S, F, DD, rs, ok, h, q⟩ => ⟨ρ, I, S, F, _, rs, ok, h, fun x S1 v I1 H1 h1 e1 ok1 r1 => q.nx _ _ _ _ _ h1 e1 ok1 ((rs.mono e1).set i r1)⟩
theorem js_asg {tg : Expr} {t : Tgt} (he : JE X e de) (hg : JG X tg t) (hs : swapsWithSole [tg] e pos.line X.env = pure false := by rfl) (hw : swappedStores [tg] e X.env = pure none := by rfl)
    (h1 : (assignEach [tg] X.env).map (·.2) = [assign tg X.env] := by rfl) : JS X (.Assign [tg] e pos) (dAsg t de) :=
  js_of (ps_asg he hg hs hw h1) fun D σ H ⟨ρ, I, S, F, DD, rs, ok, h, q⟩ => ⟨ρ, I, S, F, _, rs, ok, h, fun x S1 v I1 H1 h1 e1 ok1 r1 => by
    cases e2 : t.put x ρ with
    | none => rw [e2] at h1; exact h1.elim
    | some ρ' =>
      rw [e2] at h1
      exact ⟨ρ, ρ', I1, S1, F, x, rs.mono e1, ok1, r1, e2, fun σ' rs' _ => q.nx _ _ _ _ _ h1 e1 ok1 rs'⟩⟩
def dPar (i j : Nat) (a : DA) : DS := fun DD ρ S => a ρ S fun xs S1 => match xs with
  | [x, y] => DD.nx ((ρ.set i (some x)).set j (some y)) S1
  | _ => False
theorem js_par (i j : Nat) {x y : Str} {a b : Expr} {da : DA} {px py pt : Pos} {kt k2 pt2} (hc : X.calm = true) (hN : X.N.Nodup) (hi : X.N[i]? = some x) (hj : X.N[j]? = some y) (hij : i ≠ j)
    (hx : X.env.scope.names.lookup x = some .local) (hy : X.env.scope.names.lookup y = some .local) (ha : JA X [a, b] da)
    (hw : swappedStores [.Tuple [.Name x px, .Name y py] kt pt] (.Tuple [a, b] k2 pt2) X.env = pure (some [x, y]))
    (hs : swapsWithSole [.Tuple [.Name x px, .Name y py] kt pt] (.Tuple [a, b] k2 pt2) pos.line X.env = pure false := by rfl) :
    JS X (.Assign [.Tuple [.Name x px, .Name y py] kt pt] (.Tuple [a, b] k2 pt2) pos) (dPar i j da) :=
  js_of (ps_par hc hN hi hj hij hx hy ha hw hs) fun D σ H ⟨ρ, I, S, F, DD, rs, ok, h, q⟩ => ⟨ρ, I, S, F, _, rs, ok, h, fun xs S1 vs I1 H1 h1 e1 ok1 r1 => by
    match xs, h1 with
    | [x, y], h1 =>
      obtain ⟨v, w, rfl, ra, rb⟩ := r1.inv2
      exact ⟨v, w, rfl, q.nx _ _ _ _ _ h1 e1 ok1 (((rs.mono e1).set i ra).set j rb)⟩⟩
/-- x op= e -/
def ImpIp (K : PySem.W.Frag) (r : TIp) (o : D2) : Prop := ∀ x y v w I S F H P Q, Ok K I S F H → Rep K I x v → Rep K I y w → o x y S P → Sees K I F P Q → r v w H Q
def dAug (i : Nat) (o : D2) (d : DE) : DS := fun DD ρ S => match ρ[i]? with
  | some (some x) => d ρ S fun y S1 => o x y S1 fun z S2 => DD.nx (ρ.set i (some z)) S2
  | _ => False
theorem js_aug (i : Nat) {x : Str} {op : Operator} {ti : TIp} {o : D2} {pos' : Pos} (hN : X.N.Nodup) (hi : X.N[i]? = some x) (hx : Loc X.env.scope x) (he : JE X e de) (ho : PIp X op ti) (im : ImpIp X.K ti o) (hf : X.fn x = true ∨ X.env.scope.names.lookup x = some .local := by first | exact .inl rfl | exact .inr rfl | assumption) :
    JS X (.AugAssign (.Name x pos') op e pos) (dAug i o de) :=
  js_of (ps_aug (i := i) hN hi hx he ho hf) fun D σ H ⟨ρ, I, S, F, DD, rs, ok, h, q⟩ => by
    unfold dAug at h
    split at h
    · rename_i x ex
      obtain ⟨v, e1, r⟩ := rs.2 i x ex
      refine ⟨v, e1, ρ, I, S, F, _, rs, ok, h, fun y S1 w I1 H1 h1 e1 ok1 r1 => ?_⟩
      exact im x y v w I1 S1 F H1 _ _ ok1 (r.mono e1) r1 h1 fun z S2 u I2 H2 h2 e2 ok2 r2 => q.nx _ _ _ _ _ h2 (e1.trans e2) ok2 ((rs.mono (e1.trans e2)).set i r2)
    · exact h.elim

/-! ### while -/
def dWhile (c : DT) (b : DS) : DS := fun DD ρ S => ∃ W : Nat → DSt → Store → Prop, (∃ m, W m ρ S) ∧ ∀ m ρ S, W m ρ S →
  c ρ S fun k S1 => if k = true then b { DD with nx := fun ρ' S' => ∃ m', m' < m ∧ W m' ρ' S', ct := fun ρ' S' => ∃ m', m' < m ∧ W m' ρ' S', bk := DD.nx } ρ S1 else DD.nx ρ S1
theorem js_while {c : Expr} {body : List Stmt} (hp : PassesOwn (model X.prog X.w) X.A X.env X.xe) (hc : JT X c dc) (hb : JSs X body t) : JS X (.While c body [] pos) (dWhile dc t) :=
  js_of (ps_while hp hc hb) fun D σ H ⟨ρ, I, S, F, DD, rs, ok, ⟨W, ⟨m0, w0⟩, turn⟩, q⟩ => by
    refine ⟨fun m σ H => ∃ ρ I' S, Same I I' ∧ RepS X.K I' ρ σ ∧ Ok X.K I' S F H ∧ W m ρ S, ⟨m0, ρ, I, S, Same.refl I, rs, ok, w0⟩, ?_⟩
    rintro m σ1 H1 ⟨ρ1, I1, S1, e1, rs1, ok1, w1⟩
    refine ⟨ρ1, I1, S1, F, _, rs1, ok1, turn m ρ1 S1 w1, fun k S2 I2 H2 h2 e2 ok2 => ?_⟩
    cases k with
    | true =>
      rw [if_pos rfl] at h2 ⊢
      refine ⟨fun σ' H' => ∃ m', m' < m ∧ ∃ ρ I' S, Same I I' ∧ RepS X.K I' ρ σ' ∧ Ok X.K I' S F H' ∧ W m' ρ S, fun σ' H' h => h, ρ1, I2, S2, F, _, rs1.mono e2, ok2, h2, ⟨?_, ?_, ?_, ?_⟩⟩
      · intro ρ3 S3 σ3 I3 H3 ⟨m', hm, w3⟩ e3 ok3 rs3
        exact ⟨m', hm, ρ3, I3, S3, (e1.trans e2).trans e3, rs3, ok3, w3⟩
      · exact q.rt.mono (e1.trans e2)
      · exact q.nx.mono (e1.trans e2)
      · intro ρ3 S3 σ3 I3 H3 ⟨m', hm, w3⟩ e3 ok3 rs3
        exact ⟨m', hm, ρ3, I3, S3, (e1.trans e2).trans e3, rs3, ok3, w3⟩
    | false =>
      rw [if_neg Bool.false_ne_true] at h2 ⊢
      exact q.nx _ _ _ _ _ h2 (e1.trans e2) ok2 (rs1.mono e2)

/-! ### what is walked -/
/-- a list that may change is walked: it stays meanwhile -/
def PinOk : Option (Store → Prop) → Store → Prop
  | none, _ => True
  | some p, S => p S
/-- J walks the data ds -/
structure ItOk (K : PySem.W.Frag) (I : Hp) (J : It) (ds : List D) (pin : Option (Store → Prop)) : Prop where
  go : ∀ I2 S F H, Same I I2 → Ok K I2 S F H → PinOk pin S → ∀ i d, ds[i]? = some d → J.go i H ∧ ∀ x H', J.yld i H x H' → ∃ I3, Same I2 I3 ∧ Ok K I3 S F H' ∧ Rep K I3 d x
  stop : ∀ I2 S F H, Same I I2 → Ok K I2 S F H → PinOk pin S → ∀ i, i = ds.length → J.stop i H
theorem ItOk.mono {K : PySem.W.Frag} {I I' : Hp} {J : It} {ds : List D} {pin : Option (Store → Prop)} (h : ItOk K I J ds pin) (e : Same I I') : ItOk K I' J ds pin :=
  ⟨fun I2 S F H e2 => h.go I2 S F H (e.trans e2), fun I2 S F H e2 => h.stop I2 S F H (e.trans e2)⟩
def SeesI (K : PySem.W.Frag) (I F : Hp) (P : List D → Option (Store → Prop) → Store → Prop) (R : It → Hp → Prop) : Prop := ∀ ds pin S' I' H' J, P ds pin S' → Same I I' → Ok K I' S' F H' → ItOk K I' J ds pin → R J H'
theorem SeesI.mono {K : PySem.W.Frag} {I I' F : Hp} {P : List D → Option (Store → Prop) → Store → Prop} {R : It → Hp → Prop} (h : SeesI K I F P R) (e : Same I I') : SeesI K I' F P R := fun ds pin S' I2 H' J p e2 => h ds pin S' I2 H' J p (e.trans e2)
def upI (K : PySem.W.Frag) (d : DI) : TI := fun σ H R => ∃ ρ I S F P, RepS K I ρ σ ∧ Ok K I S F H ∧ d ρ S P ∧ SeesI K I F P R
abbrev JI (X : Cx) (tg iter : Expr) (d : DI) : Prop := PI X tg iter (upI X.K d)
theorem ji_of {X : Cx} {tg e : Expr} {t u : TI} (h : PI X tg e t) (i : ∀ σ H R, u σ H R → t σ H R) : PI X tg e u := ⟨fun pins s σ H R I q => h.run pins s σ H R I (i _ _ _ q)⟩

/-! ### for -/
/-- a loop over the data ds: W by the turn -/
def ForB (t : Tgt) (b : DS) (DD : DEnds) (ds : List D) (ρ : DSt) (S1 : Store) : Prop := ∃ W : Nat → DSt → Store → Prop, W 0 ρ S1 ∧
  (∀ i d ρ S, ds[i]? = some d → W i ρ S → ∃ ρ', t.put d ρ = some ρ' ∧ b { DD with nx := W (i + 1), ct := W (i + 1), bk := DD.nx } ρ' S) ∧ ∀ ρ S, W ds.length ρ S → DD.nx ρ S
/-- the same, of a list that may change: p, that it stays -/
def ForP (t : Tgt) (b : DS) (DD : DEnds) (ds : List D) (p : Store → Prop) (ρ : DSt) (S1 : Store) : Prop := ∃ W : Nat → DSt → Store → Prop, W 0 ρ S1 ∧ (∀ i ρ S, W i ρ S → p S) ∧
  (∀ i d ρ S, ds[i]? = some d → W i ρ S → ∃ ρ', t.put d ρ = some ρ' ∧ b { DD with nx := W (i + 1), ct := W (i + 1), bk := DD.nx } ρ' S) ∧ ∀ ρ S, W ds.length ρ S → DD.nx ρ S
def ForN (t : Tgt) (b : DS) (DD : DEnds) (ds : List D) (pin : Option (Store → Prop)) (ρ : DSt) (S1 : Store) : Prop := match pin with
  | none => ForB t b DD ds ρ S1
  | some p => ForP t b DD ds p ρ S1
theorem ForN.all {t : Tgt} {b : DS} {DD : DEnds} {ds : List D} {pin : Option (Store → Prop)} {ρ : DSt} {S1 : Store} (h : ForN t b DD ds pin ρ S1) : ∃ W : Nat → DSt → Store → Prop, W 0 ρ S1 ∧ (∀ i ρ S, W i ρ S → PinOk pin S) ∧
    (∀ i d ρ S, ds[i]? = some d → W i ρ S → ∃ ρ', t.put d ρ = some ρ' ∧ b { DD with nx := W (i + 1), ct := W (i + 1), bk := DD.nx } ρ' S) ∧ ∀ ρ S, W ds.length ρ S → DD.nx ρ S := by
  cases pin with
  | none => obtain ⟨W, w0, w1, w2⟩ := h; exact ⟨W, w0, fun _ _ _ _ => trivial, w1, w2⟩
  | some p => exact h
def dFor (di : DI) (t : Tgt) (b : DS) : DS := fun DD ρ S => di ρ S fun ds pin S1 => ForN t b DD ds pin ρ S1
theorem js_for {tg iter : Expr} {body : List Stmt} {di : DI} {tt : Tgt} (hp : PassesOwn (model X.prog X.w) X.A X.env X.xe) (hc : X.calm = true) (hi : JI X tg iter di) (hg : JG X tg tt) (hb : JSs X body t)
    (hs : ∀ x, foldedSetIterable iter X.env x = pure x := by intro _; rfl) : JS X (.For tg iter body [] pos) (dFor di tt t) :=
  js_of (ps_for hp hc hi hg hb hs) fun D σ H ⟨ρ, I, S, F, DD, rs, ok, h, q⟩ => by
    refine ⟨ρ, I, S, F, _, rs, ok, h, fun ds pin S1 I1 H1 J hB e1 ok1 it => ?_⟩
    obtain ⟨W, w0, hpin, turn, fin⟩ := ForN.all hB
    refine ⟨fun i m σ H => m + i = ds.length ∧ ∃ ρ I' S, Same I1 I' ∧ RepS X.K I' ρ σ ∧ Ok X.K I' S F H ∧ W i ρ S, ⟨ds.length, by simp, ρ, I1, S1, Same.refl I1, rs.mono e1, ok1, w0⟩, ?_⟩
    rintro i m σ2 H2 ⟨em, ρ2, I2, S2, e2, rs2, ok2, w2⟩
    by_cases hi : i < ds.length
    · refine .inr ?_
      obtain ⟨g1, g2⟩ := it.go I2 S2 F H2 e2 ok2 (hpin _ _ _ w2) i ds[i] (List.getElem?_eq_getElem hi)
      obtain ⟨ρ3, hput, hbody⟩ := turn i ds[i] ρ2 S2 (List.getElem?_eq_getElem hi) w2
      refine ⟨g1, fun σ' H' => ∃ ρ I' S, Same I1 I' ∧ RepS X.K I' ρ σ' ∧ Ok X.K I' S F H' ∧ W (i + 1) ρ S, fun σ' H' h => ⟨m - 1, by omega, by omega, h⟩, fun x H3 hy => ?_⟩
      obtain ⟨I3, e3, ok3, r3⟩ := g2 x H3 hy
      refine ⟨ρ2, ρ3, I3, S2, F, ds[i], rs2.mono e3, ok3, r3, hput, fun σ3 rs3 _ => ?_⟩
      refine ⟨ρ3, I3, S2, F, _, rs3, ok3, hbody, ⟨?_, ?_, ?_, ?_⟩⟩
      · intro ρ4 S4 σ4 I4 H4 w4 e4 ok4 rs4
        exact ⟨ρ4, I4, S4, (e2.trans e3).trans e4, rs4, ok4, w4⟩
      · exact q.rt.mono (((e1.trans e2)).trans e3)
      · exact q.nx.mono (((e1.trans e2)).trans e3)
      · intro ρ4 S4 σ4 I4 H4 w4 e4 ok4 rs4
        exact ⟨ρ4, I4, S4, (e2.trans e3).trans e4, rs4, ok4, w4⟩
    · have e : i = ds.length := by omega
      subst e
      exact .inl ⟨it.stop I2 S2 F H2 e2 ok2 (hpin _ _ _ w2) _ rfl, q.nx _ _ _ _ _ (fin ρ2 S2 w2) (e1.trans e2) ok2 rs2⟩

/-! ### comprehensions -/
def dYes : DT := fun _ S P => P true S
abbrev JTs (X : Cx) (ifs : List Expr) (d : DT) : Prop := PTs X ifs (upT X.K d)
theorem jts_of {X : Cx} {e : List Expr} {t u : TT} (h : PTs X e t) (i : ∀ σ H Q, u σ H Q → t σ H Q) : PTs X e u := ⟨fun pins s σ H Q I q => h.run pins s σ H Q I (i _ _ _ q)⟩
theorem jts_nil : JTs X [] dYes := jts_of pts_nil fun σ H Q ⟨ρ, I, S, F, P, rs, ok, h, q⟩ => q _ _ _ _ h (Same.refl I) ok
/-- the new list is one that changes no more -/
def LcB (t : Tgt) (tt : DT) (de : DE) (P : D → Store → Prop) (ds : List D) (ρ : DSt) (S1 : Store) : Prop := ds.length ≤ 100000 ∧ ∃ W : Nat → List D → Store → Prop, W 0 [] S1 ∧
  (∀ i d acc S, ds[i]? = some d → W i acc S → ∃ ρ', t.put d (dwipe ρ t.slots) = some ρ' ∧ tt ρ' S fun b S2 => if b = true then de ρ' S2 fun y S3 => W (i + 1) (acc ++ [y]) S3 else W (i + 1) acc S2) ∧ ∀ acc S, W ds.length acc S → P (.lst acc) S
def LcP (t : Tgt) (tt : DT) (de : DE) (P : D → Store → Prop) (ds : List D) (p : Store → Prop) (ρ : DSt) (S1 : Store) : Prop := ds.length ≤ 100000 ∧ ∃ W : Nat → List D → Store → Prop, W 0 [] S1 ∧ (∀ i acc S, W i acc S → p S) ∧
  (∀ i d acc S, ds[i]? = some d → W i acc S → ∃ ρ', t.put d (dwipe ρ t.slots) = some ρ' ∧ tt ρ' S fun b S2 => if b = true then de ρ' S2 fun y S3 => W (i + 1) (acc ++ [y]) S3 else W (i + 1) acc S2) ∧ ∀ acc S, W ds.length acc S → P (.lst acc) S
def LcN (t : Tgt) (tt : DT) (de : DE) (P : D → Store → Prop) (ds : List D) (pin : Option (Store → Prop)) (ρ : DSt) (S1 : Store) : Prop := match pin with
  | none => LcB t tt de P ds ρ S1
  | some p => LcP t tt de P ds p ρ S1
theorem LcN.all {t : Tgt} {tt : DT} {de : DE} {P : D → Store → Prop} {ds : List D} {pin : Option (Store → Prop)} {ρ : DSt} {S1 : Store} (h : LcN t tt de P ds pin ρ S1) : ds.length ≤ 100000 ∧ ∃ W : Nat → List D → Store → Prop, W 0 [] S1 ∧ (∀ i acc S, W i acc S → PinOk pin S) ∧
    (∀ i d acc S, ds[i]? = some d → W i acc S → ∃ ρ', t.put d (dwipe ρ t.slots) = some ρ' ∧ tt ρ' S fun b S2 => if b = true then de ρ' S2 fun y S3 => W (i + 1) (acc ++ [y]) S3 else W (i + 1) acc S2) ∧ ∀ acc S, W ds.length acc S → P (.lst acc) S := by
  cases pin with
  | none => obtain ⟨hl, W, w0, w1, w2⟩ := h; exact ⟨hl, W, w0, fun _ _ _ _ => trivial, w1, w2⟩
  | some p => exact h
def dLc (di : DI) (t : Tgt) (tt : DT) (de : DE) : DE := fun ρ S P => di ρ S fun ds pin S1 => LcN t tt de P ds pin ρ S1
theorem up_lc {X : Cx} {di : DI} {t : Tgt} {tt : DT} {de : DE} : ∀ σ H Q, upE X.K (dLc di t tt de) σ H Q → tLc (upI X.K di) (upG X.K t) (upT X.K tt) (upE X.K de) t.slots σ H Q := fun σ H Q ⟨ρ, I, S, F, P, rs, ok, h, q⟩ => by
  refine ⟨ρ, I, S, F, _, rs, ok, h, fun ds pin S1 I1 H1 J hB e1 ok1 it => fun Dd hD => ?_⟩
  obtain ⟨hlen, W, w0, hpin, turn, fin⟩ := LcN.all hB
  have fI : I1 Dd = none := ok1.freshI hD
  refine ⟨fun i m H => m + i = ds.length ∧ ∃ I' S' acc vs, Same I1 I' ∧ Ok X.K I' S' (upd F Dd (.lst vs)) H ∧ RepL X.K I' acc vs ∧ acc.length ≤ i ∧ W i acc S', ⟨ds.length, by simp, I1, S1, [], [], Same.refl I1, ok1.newF hD ⟨fun y z => (by cases z), fun y z => (by cases z)⟩, RepL.nil, Nat.le_refl _, w0⟩, ?_⟩
  rintro i m H2 ⟨em, I2, S2, acc, vs, e2, ok2, rl, hacc, w2⟩
  by_cases hi : i < ds.length
  · refine .inr ?_
    obtain ⟨g1, g2⟩ := it.go I2 S2 _ H2 e2 ok2 (hpin _ _ _ w2) i ds[i] (List.getElem?_eq_getElem hi)
    obtain ⟨ρ3, hput, hbody⟩ := turn i ds[i] acc S2 (List.getElem?_eq_getElem hi) w2
    refine ⟨g1, fun H' => ∃ I' S' acc vs, Same I1 I' ∧ Ok X.K I' S' (upd F Dd (.lst vs)) H' ∧ RepL X.K I' acc vs ∧ acc.length ≤ i + 1 ∧ W (i + 1) acc S', fun H' h => ⟨m - 1, by omega, by omega, h⟩, fun x H3 hy => ?_⟩
    obtain ⟨I3, e3, ok3, r3⟩ := g2 x H3 hy
    refine ⟨dwipe ρ t.slots, ρ3, I3, S2, _, ds[i], ((rs.mono e1).mono (e2.trans e3)).wipe _, ok3, r3, hput, fun σ3 rs3 b3 => ⟨by
      rw [b3.wipe]
      apply List.ext_getElem?
      intro j
      rw [wipe_get, wipe_get, L2.wipe_length]
      split <;> simp_all, ?_⟩⟩
    refine ⟨ρ3, I3, S2, _, _, rs3, ok3, hbody, fun b S4 I4 H4 h4 e4 ok4 => ?_⟩
    cases b with
    | true =>
      rw [if_pos rfl] at h4 ⊢
      refine ⟨ρ3, I4, S4, _, _, rs3.mono e4, ok4, h4, fun y S5 v I5 H5 h5 e5 ok5 r5 => ?_⟩
      have hF : (upd F Dd (.lst vs)) Dd = some (.lst vs) := upd_same
      refine ⟨vs, (ok5.f Dd _ hF).1, ?_, I5, S5, acc ++ [y], vs ++ [v], (((e2.trans e3).trans e4).trans e5), ?_, (rl.mono ((e3.trans e4).trans e5)).app (RepL.one r5), by simp; omega, h5⟩
      · rw [rl.len]
        have : (100000 : Nat) < sizeLine := by decide
        omega
      · have := ok5.writeF (o' := .lst (vs ++ [v])) hF ⟨fun y z => (by cases z), fun y z => (by cases z)⟩
        rwa [upd_upd] at this
    | false =>
      rw [if_neg Bool.false_ne_true] at h4 ⊢
      exact ⟨I4, S4, acc, vs, ((e2.trans e3).trans e4), ok4, rl.mono (e3.trans e4), by omega, h4⟩
  · have e : i = ds.length := by omega
    subst e
    refine .inl ⟨it.stop I2 S2 _ H2 e2 ok2 (hpin _ _ _ w2) _ rfl, ?_⟩
    have hF : (upd F Dd (.lst vs)) Dd = some (.lst vs) := upd_same
    have i2 : I2 Dd = none := (ok2.f Dd _ hF).2.1
    have ok3 := ok2.showF hF
    have ok4 : Ok X.K (upd I2 Dd (.lst vs)) S2 F H2 := by
      refine ⟨ok3.i, ok3.s, fun a x q => ?_⟩
      have ne : a ≠ Dd := fun z => by
        subst z
        rw [(ok1.freshF hD)] at q; cases q
      exact ok3.f a x (by show (if a = Dd then none else upd F Dd (.lst vs) a) = some x; rw [if_neg ne, upd_ne ne]; exact q)
    exact q _ _ _ _ _ (fin acc S2 w2) ((e1.trans e2).trans (same_new i2)) ok4 (rep_new_lst i2 rl)
theorem je_lc {elt tg iter : Expr} {ifs : List Expr} {scope : Scope} (own : List (Str × Nat)) {di : DI} {t : Tgt} {tt : DT} {de : DE} (hc : X.calm = true) (hN : X.N.Nodup) (hi : JI X tg iter di) (ok : BlkOk X.N X.env.scope scope own) (ho : own.map (·.2) = t.slots)
    (hg : ∀ (s : Shared) (H : Hp) (C : Addr) (cl : List (Str × Addr)) (fp : List Addr), JG (X.blk s H scope (compEnvC scope cl C X.env) fp) tg t) (ht : ∀ (s : Shared) (H : Hp) (C : Addr) (cl : List (Str × Addr)) (fp : List Addr), JTs (X.blk s H scope (compEnvC scope cl C X.env) fp) ifs tt)
    (he : ∀ (s : Shared) (H : Hp) (C : Addr) (cl : List (Str × Addr)) (fp : List Addr), JE (X.blk s H scope (compEnvC scope cl C X.env) fp) elt de) (hs : ∀ x, foldedSetIterable iter X.env x = pure x := by intro _; rfl) :
    JE X (.ListComp elt [⟨tg, iter, ifs, 0⟩] scope pos) (dLc di t tt de) :=
  je_of (pe_lc hc hN hi ok hg ht he hs) fun σ H Q h => by
    rw [ho]
    exact up_lc σ H Q h
theorem js_setLc (i : Nat) {y : Str} {py : Pos} {elt tg iter : Expr} {ifs : List Expr} {scope : Scope} (own : List (Str × Nat)) {spos : Pos} {di : DI} {t : Tgt} {tt : DT} {de : DE} (hc : X.calm = true) (hN : X.N.Nodup) (hy : X.N[i]? = some y) (hyl : X.env.scope.names.lookup y = some .local)
    (hsw : swapsWith (.ListComp elt [⟨tg, iter, ifs, 0⟩] scope pos) (some (.Name y py)) spos.line X.env = pure true) (hi : JI X tg iter di) (ok : BlkOk X.N X.env.scope scope own) (ho : own.map (·.2) = t.slots)
    (hg : ∀ (s : Shared) (H : Hp) (C : Addr) (cl : List (Str × Addr)) (fp : List Addr), JG (X.blk s H scope (compEnvC scope cl C X.env) fp) tg t) (ht : ∀ (s : Shared) (H : Hp) (C : Addr) (cl : List (Str × Addr)) (fp : List Addr), JTs (X.blk s H scope (compEnvC scope cl C X.env) fp) ifs tt)
    (he : ∀ (s : Shared) (H : Hp) (C : Addr) (cl : List (Str × Addr)) (fp : List Addr), JE (X.blk s H scope (compEnvC scope cl C X.env) fp) elt de) (hs : ∀ x, foldedSetIterable iter X.env x = pure x := by intro _; rfl) :
    JS X (.Assign [.Name y py] (.ListComp elt [⟨tg, iter, ifs, 0⟩] scope pos) spos) (dSet i (dLc di t tt de)) :=
  js_of (ps_setLc hc hN hy hyl hsw hi ok hg ht he hs) fun D σ H ⟨ρ, I, S, F, DD, rs, ok, h, q⟩ => by
    rw [ho]
    exact up_lc (X := X) σ H _ ⟨ρ, I, S, F, _, rs, ok, h, fun x S1 v I1 H1 h1 e1 ok1 r1 => q.nx _ _ _ _ _ h1 e1 ok1 ((rs.mono e1).set i r1)⟩
end

/-! ### a def keeps its promise -/
section
variable {P : Program} {w : World} {K : PySem.W.Frag} {mg : Str → Option Value} {base : Heap}
def dEnd (Q : D → Store → Prop) : DEnds := { nx := fun _ S => Q .non S, rt := Q }
theorem fn_d {x qual : Str} {st : Stmt} {f : Addr} {fd : FuncData} {N ps : List Str} {k : Nat} {sp : DSp} (F : Fun K x qual st f fd) (S : FnScope N ps (defScope st)) (len : ∀ ds S P, sp ds S P → ds.length = ps.length)
    (hbody : ∀ (cdv : Value) (A : Around) (outer : List Env) (s : Shared) (H : Hp) (E : XK), DG.RoomG k (A.deeper (envOfC qual (defScope st) s.heap.objs.size f cdv)) →
      ∃ d : DS, JSs (cxOf CX0 P w K mg base N qual (defScope st) f cdv A outer s H E).nox (defBody st) d ∧ ∀ ds S P, sp ds S P → d (dEnd P) (ds.map some ++ List.replicate (N.length - ds.length) none) S) : FnD P w K mg base (k + 1) f fd ps sp := by
  refine DG.fun_ok F S (fun vs H Q E h => ?_) (fun cdv A outer s H vs Q E hr h => ?_)
  · obtain ⟨ds, I, S, F, P, r, ok, h, q⟩ := h
    rw [r.len]
    exact len _ _ _ h
  · obtain ⟨ds, I, S', F', P', r, ok, h, q⟩ := h
    obtain ⟨d, h1, h2⟩ := hbody cdv A outer s H E hr
    refine ⟨_, h1, _, I, S', F', _, repS_start r, ok, h2 ds S' P' h, ⟨?_, q, ?_, ?_⟩⟩
    · intro ρ S2 σ I2 H2 p e2 ok2 _
      exact q _ _ _ _ _ p e2 ok2 rep_non
    · intro ρ S2 σ I2 H2 p e2 ok2 _
      exact p.elim
    · intro ρ S2 σ I2 H2 p e2 ok2 _
      exact p.elim
end
end DL

namespace DL
open PySem PySem.Spec PyProof.Rows L2

/-! ### lists and tuples as data -/
def lstOf (S : Store) : D → Option (List D)
  | .lst ds => some ds
  | .ext ds => some ds
  | .obj a => match S a with
    | some (.lst ds) => some ds
    | _ => none
  | _ => none
def seqOf (S : Store) : D → Option (List D)
  | .tup ds => some ds
  | x => lstOf S x
section
variable {K : PySem.W.Frag} {I F H : Hp} {S : Store}
theorem lst_sq (ok : Ok K I S F H) {x : D} {v : V} {ds : List D} (r : Rep K I x v) (h : lstOf S x = some ds) : ∃ a xs, v = .ref a ∧ SqL K H a xs ∧ RepL K I ds xs := by
  cases x with
  | lst es =>
    simp only [lstOf, Option.some.injEq] at h; subst h
    obtain ⟨a, xs, rfl, e, rl⟩ := r.lst_of
    exact ⟨a, xs, rfl, .of (ok.i _ _ e), rl⟩
  | ext es =>
    simp only [lstOf, Option.some.injEq] at h; subst h
    obtain ⟨a, xs, rfl, e, rl⟩ := r.ext_of
    exact ⟨a, xs, rfl, ok.same.seq e, rl⟩
  | obj a =>
    unfold lstOf at h
    cases e : S a with
    | none => simp [e] at h
    | some m =>
      cases m with
      | lst es =>
        simp [e] at h; subst h
        obtain ⟨_, xs, q, rl⟩ := ok.s a _ e
        exact ⟨a, xs, r.obj_of, .of q, rl⟩
      | _ => simp [e] at h
  | _ => simp [lstOf] at h
/-- one that can be added to, repeated: tracked by itself -/
theorem lst_hp (ok : Ok K I S F H) {x : D} {v : V} {ds : List D} (r : Rep K I x v) (h : lstOf S x = some ds) (ne : ∀ es, x ≠ .ext es) : ∃ a xs, v = .ref a ∧ H a = some (.lst xs) ∧ RepL K I ds xs := by
  cases x with
  | lst es =>
    simp only [lstOf, Option.some.injEq] at h; subst h
    obtain ⟨a, xs, rfl, e, rl⟩ := r.lst_of
    exact ⟨a, xs, rfl, ok.i _ _ e, rl⟩
  | ext es => exact absurd rfl (ne es)
  | obj a =>
    unfold lstOf at h
    cases e : S a with
    | none => simp [e] at h
    | some m =>
      cases m with
      | lst es =>
        simp [e] at h; subst h
        obtain ⟨_, xs, q, rl⟩ := ok.s a _ e
        exact ⟨a, xs, r.obj_of, q, rl⟩
      | _ => simp [e] at h
  | _ => simp [lstOf] at h
theorem tup_sq (ok : Ok K I S F H) {v : V} {ds : List D} (r : Rep K I (.tup ds) v) : ∃ a xs, v = .ref a ∧ SqT K H a xs ∧ RepL K I ds xs := by
  obtain ⟨a, xs, rfl, e, rl⟩ := r.tup_of
  exact ⟨a, xs, rfl, sqT_same ok.same e, rl⟩
end

/-! ### arithmetic -/
def MulB (i j : Int) : Prop := CMul i j ∨ CMulW i j
def DivB (j : Int) : Prop := j ≠ 0 ∧ j.natAbs.log2 < 9000
def dAdd : D2 := fun x y S P => match x, y with
  | .int i, .int j => P (.int (i + j)) S
  | .str a, .str b => a.length + b.length ≤ 100000 ∧ P (.str (a ++ b)) S
  | .tup xs, .tup ys => xs.length + ys.length ≤ 100000 ∧ P (.tup (xs ++ ys)) S
  | .ext _, _ => False
  | _, .ext _ => False
  | x, y => match lstOf S x, lstOf S y with
    | some xs, some ys => xs.length + ys.length ≤ 100000 ∧ P (.lst (xs ++ ys)) S
    | _, _ => False
def dSub : D2 := fun x y S P => match x, y with
  | .int i, .int j => P (.int (i - j)) S
  | _, _ => False
def dMul : D2 := fun x y S P => match x, y with
  | .int i, .int j => MulB i j ∧ P (.int (i * j)) S
  | .lst xs, .int k => -(2 ^ 63) ≤ k ∧ k < 2 ^ 63 ∧ xs.length * k.toNat ≤ 100000 ∧ P (.lst (List.replicate k.toNat xs).flatten) S
  | _, _ => False
def dFdiv : D2 := fun x y S P => match x, y with
  | .int i, .int j => DivB j ∧ P (.int (i.fdiv j)) S
  | _, _ => False
def dMod : D2 := fun x y S P => match x, y with
  | .int i, .int j => 0 < j ∧ P (.int (i % j)) S
  | _, _ => False
def dPow : D2 := fun x y S P => match x, y with
  | .int i, .int j => CPow i j ∧ P (.int (i ^ j.toNat)) S
  | _, _ => False
def dNeg : D1 := fun x S P => match x with
  | .int i => P (.int (-i)) S
  | _ => False
def dLt : D2 := fun x y S P => match x, y with
  | .int i, .int j => P (.bl (decide (i < j))) S
  | _, _ => False
def dLe : D2 := fun x y S P => match x, y with
  | .int i, .int j => P (.bl (decide (i ≤ j))) S
  | _, _ => False
def dGt : D2 := fun x y S P => match x, y with
  | .int i, .int j => P (.bl (decide (j < i))) S
  | _, _ => False
def dGe : D2 := fun x y S P => match x, y with
  | .int i, .int j => P (.bl (decide (j ≤ i))) S
  | _, _ => False
section
variable {X : Cx} {pos : Pos} {a b : Expr} {da db : DE}
theorem op_mulA : OpR X (binaryOp .Mult) (rI MulB fun i j => .int (i * j)) := opI fun i j _ _ _ _ _ hc q => by
  rcases hc with h | h
  · exact mul_int q h.ok
  · exact mul_int q h.ok
theorem op_fdivA : OpR X (binaryOp .FloorDiv) (rI (fun _ j => DivB j) fun i j => .int (i.fdiv j)) := opI fun i j _ _ _ _ _ hc q => floordiv_int hc.1 q (.inl (PyProof.noPylong_of_log2 hc.2))
theorem i_add {K : PySem.W.Frag} : Imp2 K (fun x y H Q => (rI0 fun i j => .int (i + j)) x y H Q ∨ (∃ i j, x = .str i ∧ y = .str j ∧ i.length + j.length ≤ sizeLine ∧ Q (.str (i ++ j)) H) ∨ rCatA K x y H Q ∨ rCat x y H Q) dAdd := by
  intro x y v w I S F H P Q ok rx ry h q
  have lists : ∀ xs ys, lstOf S x = some xs → lstOf S y = some ys → (∀ es, x ≠ .ext es) → (∀ es, y ≠ .ext es) → xs.length + ys.length ≤ 100000 → P (.lst (xs ++ ys)) S → rCat v w H Q := fun xs ys ex ey nx ny hl p => by
    obtain ⟨l, xs', rfl, h1, r1⟩ := lst_hp ok rx ex nx
    obtain ⟨l', ys', rfl, h2, r2⟩ := lst_hp ok ry ey ny
    exact ⟨l, l', xs', ys', rfl, rfl, h1, h2, line5 (by rw [r1.len, r2.len]; exact hl), fun p' hp => q _ _ _ _ _ p (same_new (ok.freshI hp)) (ok.newI hp) (rep_new_lst (ok.freshI hp) (r1.app r2))⟩
  unfold dAdd at h
  split at h
  · cases rx.int_of; cases ry.int_of
    exact .inl ⟨_, _, rfl, rfl, q _ _ _ _ _ h (Same.refl I) ok rep_int⟩
  · cases rx.str_of; cases ry.str_of
    exact .inr (.inl ⟨_, _, rfl, rfl, line5 h.1, q _ _ _ _ _ h.2 (Same.refl I) ok rep_str⟩)
  · rename_i xs ys
    obtain ⟨l, xs', rfl, h1, r1⟩ := tup_sq ok rx
    obtain ⟨l', ys', rfl, h2, r2⟩ := tup_sq ok ry
    refine .inr (.inr (.inl ⟨l, l', xs', ys', rfl, rfl, h1, h2, line5 (by rw [r1.len, r2.len]; exact h.1), fun e => ?_, fun _ e => ?_, fun _ _ p hp => ?_⟩))
    · have : xs = [] := by
        have := r1.len; rw [e] at this
        exact List.eq_nil_of_length_eq_zero this.symm
      subst this
      exact q _ _ _ _ _ h.2 (Same.refl I) ok (by simpa using ry)
    · have : ys = [] := by
        have := r2.len; rw [e] at this
        exact List.eq_nil_of_length_eq_zero this.symm
      subst this
      exact q _ _ _ _ _ h.2 (Same.refl I) ok (by simpa using rx)
    · exact q _ _ _ _ _ h.2 (same_new (ok.freshI hp)) (ok.newI hp) (rep_new_tup (ok.freshI hp) (r1.app r2))
  · exact h.elim
  · exact h.elim
  · split at h
    · rename_i xs ys e1 e2
      refine .inr (.inr (.inr (lists xs ys e1 e2 (fun es z => ?_) (fun es z => ?_) h.1 h.2)))
      · simp_all
      · simp_all
    · exact h.elim
theorem je_add (ha : JE X a da) (hb : JE X b db) : JE X (.BinOp a .Add b pos) (dOp dAdd da db) := je_op (op_add.or (op_add_str.or (op_catA.or op_cat))) i_add ha hb
theorem i_sub {K : PySem.W.Frag} : Imp2 K (rI0 fun i j => .int (i - j)) dSub := by
  intro x y v w I S F H P Q ok rx ry h q
  unfold dSub at h
  split at h
  · cases rx.int_of; cases ry.int_of
    exact ⟨_, _, rfl, rfl, q _ _ _ _ _ h (Same.refl I) ok rep_int⟩
  · exact h.elim
theorem je_sub (ha : JE X a da) (hb : JE X b db) : JE X (.BinOp a .Sub b pos) (dOp dSub da db) := je_op op_sub i_sub ha hb
theorem repL_rep {K : PySem.W.Frag} {I : Hp} {ds : List D} {vs : List V} (h : RepL K I ds vs) : ∀ k : Nat, RepL K I (List.replicate k ds).flatten (List.replicate k vs).flatten
  | 0 => by simpa using RepL.nil
  | k + 1 => by
    simp only [List.replicate_succ, List.flatten_cons]
    exact h.app (repL_rep h k)
theorem i_mul {K : PySem.W.Frag} : Imp2 K (fun x y H Q => (rI MulB fun i j => .int (i * j)) x y H Q ∨ rRep x y H Q) dMul := by
  intro x y v w I S F H P Q ok rx ry h q
  unfold dMul at h
  split at h
  · cases rx.int_of; cases ry.int_of
    exact .inl ⟨_, _, rfl, rfl, h.1, q _ _ _ _ _ h.2 (Same.refl I) ok rep_int⟩
  · rename_i xs k
    obtain ⟨l, xs', rfl, h1, r1⟩ := rx.lst_of
    cases ry.int_of
    exact .inr ⟨l, k, xs', rfl, rfl, ok.i _ _ h1, h.1, h.2.1, line5 (by rw [r1.len]; exact h.2.2.1), fun p hp => q _ _ _ _ _ h.2.2.2 (same_new (ok.freshI hp)) (ok.newI hp) (rep_new_lst (ok.freshI hp) (repL_rep r1 _))⟩
  · exact h.elim
theorem je_mul (ha : JE X a da) (hb : JE X b db) : JE X (.BinOp a .Mult b pos) (dOp dMul da db) := je_op (op_mulA.or op_rep) i_mul ha hb
theorem i_fdiv {K : PySem.W.Frag} : Imp2 K (rI (fun _ j => DivB j) fun i j => .int (i.fdiv j)) dFdiv := by
  intro x y v w I S F H P Q ok rx ry h q
  unfold dFdiv at h
  split at h
  · cases rx.int_of; cases ry.int_of
    exact ⟨_, _, rfl, rfl, h.1, q _ _ _ _ _ h.2 (Same.refl I) ok rep_int⟩
  · exact h.elim
theorem je_fdiv (ha : JE X a da) (hb : JE X b db) : JE X (.BinOp a .FloorDiv b pos) (dOp dFdiv da db) := je_op op_fdivA i_fdiv ha hb
theorem i_mod {K : PySem.W.Frag} : Imp2 K (rI (fun _ j => 0 < j) fun i j => .int (i % j)) dMod := by
  intro x y v w I S F H P Q ok rx ry h q
  unfold dMod at h
  split at h
  · cases rx.int_of; cases ry.int_of
    exact ⟨_, _, rfl, rfl, h.1, q _ _ _ _ _ h.2 (Same.refl I) ok rep_int⟩
  · exact h.elim
theorem je_mod (ha : JE X a da) (hb : JE X b db) : JE X (.BinOp a .Mod b pos) (dOp dMod da db) := je_op op_mod i_mod ha hb
theorem i_pow {K : PySem.W.Frag} : Imp2 K (rI CPow fun i j => .int (i ^ j.toNat)) dPow := by
  intro x y v w I S F H P Q ok rx ry h q
  unfold dPow at h
  split at h
  · cases rx.int_of; cases ry.int_of
    exact ⟨_, _, rfl, rfl, h.1, q _ _ _ _ _ h.2 (Same.refl I) ok rep_int⟩
  · exact h.elim
theorem je_pow (ha : JE X a da) (hb : JE X b db) : JE X (.BinOp a .Pow b pos) (dOp dPow da db) := je_op op_pow i_pow ha hb
theorem i_neg {K : PySem.W.Frag} : Imp1 K (rU fun i => .int (-i)) dNeg := by
  intro x v I S F H P Q ok rx h q
  unfold dNeg at h
  split at h
  · cases rx.int_of
    exact ⟨_, rfl, q _ _ _ _ _ h (Same.refl I) ok rep_int⟩
  · exact h.elim
theorem je_neg (ha : JE X a da) : JE X (.UnaryOp .USub a pos) (dUn dNeg da) := je_un un_neg i_neg ha
theorem i_lt {K : PySem.W.Frag} : Imp2 K (rI0 fun i j => .bl (decide (i < j))) dLt := by
  intro x y v w I S F H P Q ok rx ry h q
  unfold dLt at h
  split at h
  · cases rx.int_of; cases ry.int_of
    exact ⟨_, _, rfl, rfl, q _ _ _ _ _ h (Same.refl I) ok rep_bl⟩
  · exact h.elim
theorem i_gt {K : PySem.W.Frag} : Imp2 K (rI0 fun i j => .bl (decide (j < i))) dGt := by
  intro x y v w I S F H P Q ok rx ry h q
  unfold dGt at h
  split at h
  · cases rx.int_of; cases ry.int_of
    exact ⟨_, _, rfl, rfl, q _ _ _ _ _ h (Same.refl I) ok rep_bl⟩
  · exact h.elim
theorem i_ge {K : PySem.W.Frag} : Imp2 K (rI0 fun i j => .bl (decide (j ≤ i))) dGe := by
  intro x y v w I S F H P Q ok rx ry h q
  unfold dGe at h
  split at h
  · cases rx.int_of; cases ry.int_of
    exact ⟨_, _, rfl, rfl, q _ _ _ _ _ h (Same.refl I) ok rep_bl⟩
  · exact h.elim
theorem je_lt (ha : JE X a da) (hb : JE X b db) : JE X (.Compare a [.Lt] [b] pos) (dOp dLt da db) := je_cmp op_lt i_lt ha hb (nomark _)
theorem je_gt (ha : JE X a da) (hb : JE X b db) : JE X (.Compare a [.Gt] [b] pos) (dOp dGt da db) := je_cmp op_gt i_gt ha hb (nomark _)
theorem je_ge (ha : JE X a da) (hb : JE X b db) : JE X (.Compare a [.GtE] [b] pos) (dOp dGe da db) := je_cmp op_ge i_ge ha hb (nomark _)
theorem jt_lt (ha : JE X a da) (hb : JE X b db) : JT X (.Compare a [.Lt] [b] pos) (dTest (dOp dLt da db)) := jt_cmp op_lt i_lt ha hb (nomark _)
theorem jt_gt (ha : JE X a da) (hb : JE X b db) : JT X (.Compare a [.Gt] [b] pos) (dTest (dOp dGt da db)) := jt_cmp op_gt i_gt ha hb (nomark _)
theorem jt_ge (ha : JE X a da) (hb : JE X b db) : JT X (.Compare a [.GtE] [b] pos) (dTest (dOp dGe da db)) := jt_cmp op_ge i_ge ha hb (nomark _)

end

/-! ### == and != -/
mutual
def D.py : D → Option PyData
  | .non => some .none
  | .bl b => some (.bool b)
  | .int i => some (.int i)
  | .str s => some (.str s)
  | .lst ds => (D.pyL ds).map .list
  | .ext ds => (D.pyL ds).map .list
  | .tup ds => (D.pyL ds).map .tuple
  | .ty _ => none
  | .obj _ => none
def D.pyL : List D → Option (List PyData)
  | [] => some []
  | d :: ds => match d.py, D.pyL ds with
    | some p, some ps => some (p :: ps)
    | _, _ => none
end
section
variable {K : PySem.W.Frag} {I H : Hp}
mutual
theorem rep_dp (e : Same I H) : ∀ (d : D) (v : V) (p : PyData), Rep K I d v → d.py = some p → Dp K H v p
  | .non, v, p, h, q => by cases h.non_of; simp only [D.py, Option.some.injEq] at q; subst q; exact .non
  | .bl b, v, p, h, q => by cases h.bl_of; simp only [D.py, Option.some.injEq] at q; subst q; exact .bl b
  | .int b, v, p, h, q => by cases h.int_of; simp only [D.py, Option.some.injEq] at q; subst q; exact .int b
  | .str b, v, p, h, q => by cases h.str_of; simp only [D.py, Option.some.injEq] at q; subst q; exact .str b
  | .lst ds, v, p, h, q => by
    obtain ⟨a, xs, rfl, h1, r⟩ := h.lst_of
    simp only [D.py] at q
    cases z : D.pyL ds with
    | none => rw [z] at q; cases q
    | some ps =>
      rw [z] at q; simp only [Option.map_some, Option.some.injEq] at q; subst q
      exact .lst (.of (e _ _ h1)) (rep_dpL e ds xs ps r z)
  | .ext ds, v, p, h, q => by
    obtain ⟨a, xs, rfl, h1, r⟩ := h.ext_of
    simp only [D.py] at q
    cases z : D.pyL ds with
    | none => rw [z] at q; cases q
    | some ps =>
      rw [z] at q; simp only [Option.map_some, Option.some.injEq] at q; subst q
      exact .lst (e.seq h1) (rep_dpL e ds xs ps r z)
  | .tup ds, v, p, h, q => by
    obtain ⟨a, xs, rfl, h1, r⟩ := h.tup_of
    simp only [D.py] at q
    cases z : D.pyL ds with
    | none => rw [z] at q; cases q
    | some ps =>
      rw [z] at q; simp only [Option.map_some, Option.some.injEq] at q; subst q
      exact .tup (sqT_same e h1) (rep_dpL e ds xs ps r z)
  | .ty _, v, p, h, q => by simp [D.py] at q
  | .obj _, v, p, h, q => by simp [D.py] at q
theorem rep_dpL (e : Same I H) : ∀ (ds : List D) (vs : List V) (ps : List PyData), RepL K I ds vs → D.pyL ds = some ps → DpAll K H vs ps
  | [], vs, ps, h, q => by
    simp only [RepL] at h
    simp only [D.pyL, Option.some.injEq] at q
    subst h q; exact .nil
  | d :: ds, vs, ps, h, q => by
    simp only [RepL] at h
    obtain ⟨v, r, rfl, h1, h2⟩ := h
    simp only [D.pyL] at q
    cases e1 : d.py with
    | none => rw [e1] at q; cases q
    | some p =>
      cases e2 : D.pyL ds with
      | none => rw [e1, e2] at q; cases q
      | some ps' =>
        rw [e1, e2] at q; simp only [Option.some.injEq] at q; subst q
        exact .cons (rep_dp e d v p h1 e1) (rep_dpL e ds r ps' h2 e2)
end
end
/-- what == gives of two data -/
def dEqB : D → D → Option Bool
  | .int i, .int j => some (decide (i = j))
  | .bl i, .bl j => some (decide (i = j))
  | .str i, .str j => some (decide (i = j))
  | .non, .non => some true
  | .non, .int _ => some false
  | .int _, .non => some false
  | .non, .str _ => some false
  | .str _, .non => some false
  | .non, .bl _ => some false
  | .bl _, .non => some false
  | .int _, .str _ => some false
  | .str _, .int _ => some false
  | .bl _, .str _ => some false
  | .str _, .bl _ => some false
  | x, y => match x.py, y.py with
    | some p, some q => if SeqAt.shaped p = true ∧ SeqAt.shaped q = true then some (PyData.eqv p q) else none
    | _, _ => none
def dEq : D2 := fun x y S P => match dEqB x y with
  | some k => P (.bl k) S
  | none => False
def dNe : D2 := fun x y S P => match dEqB x y with
  | some k => P (.bl (!k)) S
  | none => False
section
variable {K : PySem.W.Frag}
theorem eqB_of {I H : Hp} {x y : D} {v w : V} {k : Bool} (e : Same I H) (rx : Rep K I x v) (ry : Rep K I y w) (h : dEqB x y = some k) :
    (scal v w = true ∧ decide (v = w) = k) ∨ ∃ p q, Dp K H v p ∧ Dp K H w q ∧ SeqAt.shaped p = true ∧ SeqAt.shaped q = true ∧ PyData.eqv p q = k := by
  unfold dEqB at h
  split at h
  case h_1 => cases rx.int_of; cases ry.int_of; cases h; exact .inl ⟨rfl, by simp⟩
  case h_2 => cases rx.bl_of; cases ry.bl_of; cases h; exact .inl ⟨rfl, by simp⟩
  case h_3 => cases rx.str_of; cases ry.str_of; cases h; exact .inl ⟨rfl, by simp⟩
  case h_4 => cases rx.non_of; cases ry.non_of; cases h; exact .inl ⟨rfl, by simp⟩
  case h_5 => cases rx.non_of; cases ry.int_of; cases h; exact .inl ⟨rfl, by simp⟩
  case h_6 => cases rx.int_of; cases ry.non_of; cases h; exact .inl ⟨rfl, by simp⟩
  case h_7 => cases rx.non_of; cases ry.str_of; cases h; exact .inl ⟨rfl, by simp⟩
  case h_8 => cases rx.str_of; cases ry.non_of; cases h; exact .inl ⟨rfl, by simp⟩
  case h_9 => cases rx.non_of; cases ry.bl_of; cases h; exact .inl ⟨rfl, by simp⟩
  case h_10 => cases rx.bl_of; cases ry.non_of; cases h; exact .inl ⟨rfl, by simp⟩
  case h_11 => cases rx.int_of; cases ry.str_of; cases h; exact .inl ⟨rfl, by simp⟩
  case h_12 => cases rx.str_of; cases ry.int_of; cases h; exact .inl ⟨rfl, by simp⟩
  case h_13 => cases rx.bl_of; cases ry.str_of; cases h; exact .inl ⟨rfl, by simp⟩
  case h_14 => cases rx.str_of; cases ry.bl_of; cases h; exact .inl ⟨rfl, by simp⟩
  case h_15 =>
    split at h
    · rename_i p q e1 e2
      split at h
      · rename_i hs
        cases h
        exact .inr ⟨p, q, rep_dp e _ _ _ rx e1, rep_dp e _ _ _ ry e2, hs.1, hs.2, rfl⟩
      · cases h
    · cases h
theorem i_eq : Imp2 K (fun x y H Q => rEq x y H Q ∨ rEqD K x y H Q) dEq := by
  intro x y v w I S F H P Q ok rx ry h q
  unfold dEq at h
  split at h
  · rename_i k e
    rcases eqB_of ok.same rx ry e with ⟨h1, h2⟩ | ⟨p, p', h1, h2, h3, h4, h5⟩
    · exact .inl ⟨h1, by rw [h2]; exact q _ _ _ _ _ h (Same.refl I) ok rep_bl⟩
    · exact .inr ⟨p, p', h1, h2, h3, h4, by rw [h5]; exact q _ _ _ _ _ h (Same.refl I) ok rep_bl⟩
  · exact h.elim
theorem i_ne : Imp2 K (fun x y H Q => rNe x y H Q ∨ rNeD K x y H Q) dNe := by
  intro x y v w I S F H P Q ok rx ry h q
  unfold dNe at h
  split at h
  · rename_i k e
    rcases eqB_of ok.same rx ry e with ⟨h1, h2⟩ | ⟨p, p', h1, h2, h3, h4, h5⟩
    · exact .inl ⟨h1, by rw [h2]; exact q _ _ _ _ _ h (Same.refl I) ok rep_bl⟩
    · exact .inr ⟨p, p', h1, h2, h3, h4, by rw [h5]; exact q _ _ _ _ _ h (Same.refl I) ok rep_bl⟩
  · exact h.elim
variable {X : Cx} {pos : Pos} {a b : Expr} {da db : DE}
theorem je_eq {k : Nat} (hr : DG.RoomG k X.A) (ha : JE X a da) (hb : JE X b db) : JE X (.Compare a [.Eq] [b] pos) (dOp dEq da db) := je_cmp (op_eq.or (op_eqD hr.r.units)) i_eq ha hb (nomark _)
theorem jt_eq {k : Nat} (hr : DG.RoomG k X.A) (ha : JE X a da) (hb : JE X b db) : JT X (.Compare a [.Eq] [b] pos) (dTest (dOp dEq da db)) := jt_cmp (op_eq.or (op_eqD hr.r.units)) i_eq ha hb (nomark _)
theorem jt_ne {k : Nat} (hr : DG.RoomG k X.A) (ha : JE X a da) (hb : JE X b db) : JT X (.Compare a [.NotEq] [b] pos) (dTest (dOp dNe da db)) := jt_cmp (op_ne.or (op_neD hr.r.units)) i_ne ha hb (nomark _)
end

/-! ### is None, in -/
def isNon : D → Bool
  | .non => true
  | _ => false
def dIsN : D2 := fun x y S P => match y with
  | .non => P (.bl (isNon x)) S
  | _ => False
def dNotN : D2 := fun x y S P => match y with
  | .non => P (.bl (!isNon x)) S
  | _ => False
def isFlat : D → Bool
  | .non | .bl _ | .int _ | .str _ => true
  | _ => false
/-- y is in the list, as == has it, of flat things -/
def eqFlat : D → D → Bool
  | .non, .non => true
  | .bl a, .bl b => a == b
  | .bl a, .int j => (if a then 1 else 0) == j
  | .int i, .bl b => i == (if b then 1 else 0)
  | .int i, .int j => decide (i = j)
  | .str x, .str y => decide (x = y)
  | _, _ => false
def dIn (neg : Bool) : D2 := fun x y S P => match seqOf S y with
  | some ys => isFlat x = true ∧ ys.all isFlat = true ∧ P (.bl (if neg then !(ys.any fun z => eqFlat z x) else ys.any fun z => eqFlat z x)) S
  | none => False
section
variable {K : PySem.W.Frag} {I F H : Hp}
theorem flat_rep {x : D} {v : V} (r : Rep K I x v) (h : isFlat x = true) : flatV v = true := by
  cases x with
  | non => cases r.non_of; rfl
  | bl b => cases r.bl_of; rfl
  | int i => cases r.int_of; rfl
  | str s => cases r.str_of; rfl
  | _ => simp [isFlat] at h
theorem eqFlat_rep {x y : D} {v w : V} (rx : Rep K I x v) (ry : Rep K I y w) (hx : isFlat x = true) (hy : isFlat y = true) : eqV v w = eqFlat x y := by
  cases x <;> simp only [isFlat, Bool.false_eq_true] at hx <;> cases y <;> simp only [isFlat, Bool.false_eq_true] at hy <;>
    simp only [Rep] at rx ry <;> subst rx <;> subst ry <;> first | rfl | simp [eqV, eqFlat] | (simp [eqV, eqFlat]; done)
theorem flats_rep : ∀ {xs : List D} {vs : List V}, RepL K I xs vs → xs.all isFlat = true → vs.all flatV = true
  | [], vs, r, _ => by
    simp only [RepL] at r
    subst r; rfl
  | x :: xs, vs, r, h => by
    simp only [RepL] at r
    obtain ⟨v, r', rfl, h1, h2⟩ := r
    simp only [List.all_cons, Bool.and_eq_true] at h ⊢
    exact ⟨flat_rep h1 h.1, flats_rep h2 h.2⟩
theorem anys_rep {x : D} {v : V} (rx : Rep K I x v) (fx : isFlat x = true) : ∀ {xs : List D} {vs : List V}, RepL K I xs vs → xs.all isFlat = true → inV v vs = xs.any fun z => eqFlat z x
  | [], vs, r, _ => by
    simp only [RepL] at r
    subst r; rfl
  | y :: xs, vs, r, h => by
    simp only [RepL] at r
    obtain ⟨w, r', rfl, h1, h2⟩ := r
    simp only [List.all_cons, Bool.and_eq_true] at h
    show (eqV w v || inV v r') = _
    rw [eqFlat_rep h1 rx h.1 fx, anys_rep rx fx h2 h.2]
    rfl
theorem seq_sq (ok : Ok K I S F H) {x : D} {v : V} {ds : List D} (r : Rep K I x v) (h : seqOf S x = some ds) : ∃ a xs, v = .ref a ∧ (SqL K H a xs ∨ SqT K H a xs) ∧ RepL K I ds xs := by
  cases x with
  | tup es =>
    simp only [seqOf, Option.some.injEq] at h; subst h
    obtain ⟨a, xs, e, q, rl⟩ := tup_sq ok r
    exact ⟨a, xs, e, .inr q, rl⟩
  | _ =>
    simp only [seqOf] at h
    obtain ⟨a, xs, e, q, rl⟩ := lst_sq ok r h
    exact ⟨a, xs, e, .inl q, rl⟩
theorem i_in (neg : Bool) : Imp2 K (rIn K neg) (dIn neg) := by
  intro x y v w I S F H P Q ok rx ry h q
  unfold dIn at h
  split at h
  · rename_i ys e
    obtain ⟨a, vs, rfl, hs, rl⟩ := seq_sq ok ry e
    refine ⟨a, vs, rfl, hs, flat_rep rx h.1, flats_rep rl h.2.1, ?_⟩
    rw [anys_rep rx h.1 rl h.2.1]
    exact q _ _ _ _ _ h.2.2 (Same.refl I) ok rep_bl
  · exact h.elim
theorem isNon_rep {I : Hp} {x : D} {v : V} (r : Rep K I x v) : decide (v = .non) = isNon x := by
  cases x with
  | non => cases r.non_of; rfl
  | bl b => cases r.bl_of; rfl
  | int i => cases r.int_of; rfl
  | str s => cases r.str_of; rfl
  | ty n => simp only [Rep] at r; subst r; rfl
  | obj a => cases r.obj_of; rfl
  | lst ds => obtain ⟨a, xs, rfl, _⟩ := r.lst_of; rfl
  | ext ds => obtain ⟨a, xs, rfl, _⟩ := r.ext_of; rfl
  | tup ds => obtain ⟨a, xs, rfl, _⟩ := r.tup_of; rfl
theorem i_isN : Imp2 K (fun x y H Q => y = .non ∧ Q (.bl (decide (x = .non))) H) dIsN := by
  intro x y v w I S F H P Q ok rx ry h q
  unfold dIsN at h
  split at h
  · refine ⟨ry.non_of, ?_⟩
    rw [isNon_rep rx]
    exact q _ _ _ _ _ h (Same.refl I) ok rep_bl
  · exact h.elim
theorem i_notN : Imp2 K (fun x y H Q => y = .non ∧ Q (.bl (!decide (x = .non))) H) dNotN := by
  intro x y v w I S F H P Q ok rx ry h q
  unfold dNotN at h
  split at h
  · refine ⟨ry.non_of, ?_⟩
    rw [isNon_rep rx]
    exact q _ _ _ _ _ h (Same.refl I) ok rep_bl
  · exact h.elim
variable {X : Cx} {pos : Pos} {a b : Expr} {da db : DE}
theorem je_notin (ha : JE X a da) (hb : JE X b db) (hm : behindInMarks .NotIn b = false := by rfl) : JE X (.Compare a [.NotIn] [b] pos) (dOp (dIn true) da db) := je_cmp op_notIn_seq (i_in true) ha hb hm
theorem jt_in (ha : JE X a da) (hb : JE X b db) (hm : behindInMarks .In b = false := by rfl) : JT X (.Compare a [.In] [b] pos) (dTest (dOp (dIn false) da db)) := jt_cmp op_in_seq (i_in false) ha hb hm
theorem je_notN (ha : JE X a da) (hb : JE X b db) : JE X (.Compare a [.IsNot] [b] pos) (dOp dNotN da db) := je_cmp op_notN i_notN ha hb (nomark _)
theorem jt_isN (ha : JE X a da) (hb : JE X b db) : JT X (.Compare a [.Is] [b] pos) (dTest (dOp dIsN da db)) := jt_cmp op_isN i_isN ha hb (nomark _)
theorem jt_notN (ha : JE X a da) (hb : JE X b db) : JT X (.Compare a [.IsNot] [b] pos) (dTest (dOp dNotN da db)) := jt_cmp op_notN i_notN ha hb (nomark _)
end

/-! ### subscripts -/
def dIx : D2 := fun x y S P => match y with
  | .int i => match x with
    | .str z => z.length ≤ 100000 ∧ (match atI z.cps.toList i with
      | some c => P (.str ⟨#[c]⟩) S
      | none => False)
    | x => match seqOf S x with
      | some ds => match atI ds i with
        | some d => P d S
        | none => False
      | none => False
  | _ => False
def dcut (xs : List D) (lo hi : Option Int) : List D := (xs.drop (HT.sIx xs.length 0 lo)).take (HT.sIx xs.length xs.length hi - HT.sIx xs.length 0 lo)
abbrev DO := DSt → Store → (Option Int → Store → Prop) → Prop
def dNoPart : DO := fun _ S P => P none S
def dPart (d : DE) : DO := fun ρ S P => d ρ S fun x S1 => match x with
  | .int i => P (some i) S1
  | _ => False
def dSl (d : DE) (lo hi : DO) : DE := fun ρ S P => d ρ S fun x S1 => lo ρ S1 fun l S2 => hi ρ S2 fun u S3 => match x with
  | .tup ds => P (.tup (dcut ds l u)) S3
  | x => match lstOf S3 x with
    | some ds => P (.lst (dcut ds l u)) S3
    | none => False
section
variable {K : PySem.W.Frag} {I F H : Hp} {S : Store}
theorem atI_rep {ds : List D} {vs : List V} {i : Int} {d : D} (r : RepL K I ds vs) (h : atI ds i = some d) : ∃ v, atI vs i = some v ∧ Rep K I d v := by
  unfold atI at h ⊢
  rw [r.len]
  cases e : ixN ds.length i with
  | none => rw [e] at h; cases h
  | some j =>
    rw [e] at h
    exact r.get (i := j) h
theorem i_ix : Imp2 K (rIx K) dIx := by
  intro x y v w I S F H P Q ok rx ry h q
  unfold dIx at h
  split at h
  · rename_i i
    cases ry.int_of
    split at h
    · rename_i z
      cases rx.str_of
      obtain ⟨hl, h⟩ := h
      split at h
      · rename_i c e
        exact .inr (.inr ⟨_, _, c, rfl, rfl, line5 hl, e, q _ _ _ _ _ h (Same.refl I) ok rep_str⟩)
      · exact h.elim
    · split at h
      · rename_i ds e
        split at h
        · rename_i d e2
          obtain ⟨a, xs, rfl, hs, rl⟩ := seq_sq ok rx e
          obtain ⟨u, e3, r3⟩ := atI_rep rl e2
          rcases hs with hs | hs
          · exact .inl ⟨a, xs, i, u, rfl, rfl, hs, e3, q _ _ _ _ _ h (Same.refl I) ok r3⟩
          · exact .inr (.inl ⟨a, xs, i, u, rfl, rfl, hs, e3, q _ _ _ _ _ h (Same.refl I) ok r3⟩)
        · exact h.elim
      · exact h.elim
  · exact h.elim
theorem cut_rep {ds : List D} {vs : List V} (lo hi : Option Int) (r : RepL K I ds vs) : RepL K I (dcut ds lo hi) (cutV vs lo hi) := by
  unfold dcut cutV
  rw [r.len]
  exact (r.drop _).take _
variable {X : Cx} {pos : Pos} {a b : Expr} {da db : DE}
theorem je_ix (ha : JE X a da) (hb : JE X b db) (hs : PlainIx b := by exact fun _ _ => rfl) : JE X (.Subscript a b pos) (dOp dIx da db) := je_of (pe_ix ix_seq ha hb hs) (up_op i_ix)
def upO (K : PySem.W.Frag) (d : DO) : TO := fun σ H Q => ∃ ρ I S F P, RepS K I ρ σ ∧ Ok K I S F H ∧ d ρ S P ∧ ∀ o S' I' H', P o S' → Same I I' → Ok K I' S' F H' → Q o H'
abbrev JO (X : Cx) (e : Option Expr) (d : DO) : Prop := PO X e (upO X.K d)
theorem jo_of {X : Cx} {e : Option Expr} {t u : TO} (h : PO X e t) (i : ∀ σ H Q, u σ H Q → t σ H Q) : PO X e u := ⟨by
  intro pins s σ H Q I q
  exact h.run pins s σ H Q I (i _ _ _ q)⟩
theorem jo_none : JO X none dNoPart := jo_of po_none fun σ H Q ⟨ρ, I, S, F, P, rs, ok, h, q⟩ => q _ _ _ _ h (Same.refl I) ok
theorem jo_some (h : JE X a da) : JO X (some a) (dPart da) := jo_of (po_some h) fun σ H Q ⟨ρ, I, S, F, P, rs, ok, hh, q⟩ => ⟨ρ, I, S, F, _, rs, ok, hh, fun x S1 v I1 H1 h1 e1 ok1 r1 => by
  cases x with
  | int i => exact ⟨i, r1.int_of, q _ _ _ _ h1 e1 ok1⟩
  | _ => exact h1.elim⟩
theorem je_sl {lo hi : Option Expr} {dl dh : DO} {p2 : Pos} (he : JE X a da) (hl : JO X lo dl) (hu : JO X hi dh) : JE X (.Subscript a (.Slice lo hi none p2) pos) (dSl da dl dh) :=
  je_of (pe_slice (sl_list.or sl_tupA) he hl hu) fun σ H Q ⟨ρ, I, S, F, P, rs, ok, h, q⟩ =>
    ⟨ρ, I, S, F, _, rs, ok, h, fun x S1 v I1 H1 h1 e1 ok1 r1 => ⟨ρ, I1, S1, F, _, rs.mono e1, ok1, h1, fun l S2 I2 H2 h2 e2 ok2 => ⟨ρ, I2, S2, F, _, rs.mono (e1.trans e2), ok2, h2, fun u S3 I3 H3 h3 e3 ok3 => by
      have r3 : Rep X.K I3 x v := r1.mono (e2.trans e3)
      have e13 := (e1.trans e2).trans e3
      split at h3
      · rename_i ds
        obtain ⟨a, xs, rfl, hs, rl⟩ := tup_sq ok3 r3
        refine .inr ⟨a, xs, rfl, hs, fun ew => ?_, fun _ p hp => q _ _ _ _ _ h3 (e13.trans (same_new (ok3.freshI hp))) (ok3.newI hp) (rep_new_tup (ok3.freshI hp) (cut_rep _ _ rl))⟩
        have hw : dcut ds l u = ds := by
          unfold dcut
          rw [← rl.len, ew.1, ew.2, rl.len]
          simp
        rw [hw] at h3
        exact q _ _ _ _ _ h3 e13 ok3 r3
      · split at h3
        · rename_i ds e
          obtain ⟨a, xs, rfl, hs, rl⟩ := lst_sq ok3 r3 e
          exact .inl ⟨a, xs, rfl, hs, fun p hp => q _ _ _ _ _ h3 (e13.trans (same_new (ok3.freshI hp))) (ok3.newI hp) (rep_new_lst (ok3.freshI hp) (cut_rep _ _ rl))⟩
        · exact h3.elim⟩⟩⟩
/-- xs[::-1] -/
def dRevL (d : DE) : DE := fun ρ S P => d ρ S fun x S1 => match lstOf S1 x with
  | some ds => P (.lst ds.reverse) S1
  | none => False
end
end DL

namespace DL
open PySem PySem.Spec PyProof.Rows L2

/-! ### keywords -/
def pick {α : Type} (perm : List Nat) (us ws : List α) : List α := perm.filterMap fun i => (us ++ ws)[i]?
theorem pick_rep {K : PySem.W.Frag} {I : Hp} {ds : List D} {vs : List V} (r : RepL K I ds vs) : ∀ perm : List Nat, RepL K I (perm.filterMap fun i => ds[i]?) (perm.filterMap fun i => vs[i]?)
  | [] => RepL.nil
  | i :: p => by
    cases e : ds[i]? with
    | none =>
      have e2 : vs[i]? = none := by
        rw [List.getElem?_eq_none_iff] at e ⊢
        rw [r.len]; exact e
      simp only [List.filterMap_cons, e, e2]
      exact pick_rep r p
    | some d =>
      obtain ⟨v, e2, r2⟩ := r.get e
      simp only [List.filterMap_cons, e, e2]
      exact RepL.cons r2 (pick_rep r p)
theorem pick_vals {vs : List V} {us : List Value} (r : Vals vs us) : ∀ perm : List Nat, Vals (perm.filterMap fun i => vs[i]?) (perm.filterMap fun i => us[i]?)
  | [] => .nil
  | i :: p => by
    cases e : vs[i]? with
    | none =>
      have e2 := r.none_of e
      simp only [List.filterMap_cons, e, e2]
      exact pick_vals r p
    | some v =>
      obtain ⟨u, e2, r2⟩ := r.get e
      simp only [List.filterMap_cons, e, e2]
      exact .cons r2 (pick_vals r p)
/-- a def without defaults called with n values and keywords ks, put in order by perm -/
theorem kbn_mk {K : PySem.W.Frag} {x qual : Str} {st : Stmt} {f : Addr} {fd : FuncData} {ps ks : List Str} {n : Nat} {perm : List Nat} (F : Fun K x qual st f fd)
    (h : ∀ (kV doc pm : Value) (an : Option Addr) (cdv ct : Value) (us ws : List Value), us.length = n → ws.length = ks.length → bindArgs (PySem.W.fnOf x qual (defArgs st) (defBody st) (defScope st) .none kV doc pm an cdv ct) ⟨us, ks.zip ws⟩ = pure (ps.zip (pick perm us ws))) :
    KBn K fd ps n ks (pick perm) (pick perm) := by
  obtain ⟨oc, od, kV, doc, pm, an, cdv, ct, osl, rfl, lk, hcd⟩ := F.ex
  exact ⟨fun s us ws _ h1 h2 => .of_eq (h kV doc pm an cdv ct us ws h1 h2), fun r1 r2 => pick_vals (r1.append r2) perm⟩
abbrev JK (X : Cx) (kws : List Keyword) (d : DA) : Prop := PK X kws (upA X.K d)
theorem jk_of {X : Cx} {e : List Keyword} {t u : TA} (h : PK X e t) (i : ∀ σ H Q, u σ H Q → t σ H Q) : PK X e u := ⟨fun pos pins s σ H Q I q => h.run pos pins s σ H Q I (i _ _ _ q)⟩
def dCallK (sp : DSp) (n m : Nat) (perm : List Nat) (a kw : DA) : DE := fun ρ S P => a ρ S fun xs S1 => kw ρ S1 fun ys S2 => xs.length = n ∧ ys.length = m ∧ sp (pick perm xs ys) S2 P
section
variable {X : Cx} {pos kpos : Pos} {a b : Expr} {da db : DE} {es : List Expr} {ds dk : DA} {kws : List Keyword} {nm : Option Str}
theorem jk_nil : JK X [] dNil := jk_of pk_nil fun σ H Q ⟨ρ, I, S, F, P, rs, ok, h, q⟩ => q _ _ _ _ _ h (Same.refl I) ok RepL.nil
theorem jk_cons (ha : JE X a da) (hr : JK X kws ds) : JK X (⟨nm, a, kpos⟩ :: kws) (dCons da ds) :=
  jk_of (pk_cons ha hr) fun σ H Q ⟨ρ, I, S, F, P, rs, ok, h, q⟩ => ⟨ρ, I, S, F, _, rs, ok, h, fun x S1 v I1 H1 h1 e1 ok1 r1 => ⟨ρ, I1, S1, F, _, rs.mono e1, ok1, h1, fun xs S2 vs I2 H2 h2 e2 ok2 r2 =>
    q _ _ _ _ _ h2 (e1.trans e2) ok2 (RepL.cons (r1.mono e2) r2)⟩⟩
variable {k n : Nat} {f : Addr} {fd : FuncData} {ps ks : List Str} {sp : DSp} {x : Str} {p : Pos} {perm : List Nat}
theorem up_callN : ∀ σ H Q, upE X.K (dCallK sp n ks.length perm ds dk) σ H Q → tCallN n ks.length (upSp X.K sp) (pick perm) E0 (upA X.K ds) (upA X.K dk) σ H Q := fun σ H Q ⟨ρ, I, S, F, P, rs, ok, h, q⟩ =>
  ⟨ρ, I, S, F, _, rs, ok, h, fun xs S1 vs I1 H1 h1 e1 ok1 r1 => ⟨ρ, I1, S1, F, _, rs.mono e1, ok1, h1, fun ys S2 ws I2 H2 ⟨l1, l2, h2⟩ e2 ok2 r2 =>
    ⟨by rw [r1.len]; exact l1, by rw [r2.len]; exact l2, _, I2, S2, F, P, pick_rep ((r1.mono e2).app r2) perm, ok2, h2, q.mono (e1.trans e2)⟩⟩⟩
theorem je_callK (G : FnD X.prog X.w X.K X.mg X.base k f fd ps sp) (hr : DG.RoomG k X.A) (hg : Gl X x) (hm : X.mg x = some (.ref f)) (hk : PySem.W.keepIn X.K (.ref f) = true) (hb : KBn X.K fd ps n ks (pick perm) (pick perm))
    (ha : JA X (a :: es) ds) (hkw : JK X kws dk) (hall : (backToKw pos (keywordEach kws X.env)).all (·.1.isSome) = true := by rfl) (hks : (backToKw pos (keywordEach kws X.env)).filterMap (·.1) = ks := by rfl)
    (hdb : (x == ("__debug__" : Str)) = false := by decide) (he : starEach (a :: es) X.env = (false, eval a X.env) :: starEach es X.env := by rfl)
    (hpl : ((backTo pos (starEach (a :: es) X.env)).any (·.1) || (backToKw pos (keywordEach kws X.env)).any (·.1.isNone)) = false := by rfl) :
    JE X (.Call (.Name x p) (a :: es) kws pos) (dCallK sp n ks.length perm ds dk) := je_of (DG.pe_callN G hr hg hm hk hb pass0 ha hkw hall hks hdb he hpl) up_callN
end

/-! ### built-ins -/
def dInts : List D → Option (List Int)
  | [] => some []
  | .int i :: r => (dInts r).map (i :: ·)
  | _ => none
def dBools : List D → Option (List Bool)
  | [] => some []
  | .bl i :: r => (dBools r).map (i :: ·)
  | _ => none
theorem dInts_map : ∀ ns : List Int, dInts (ns.map .int) = some ns
  | [] => rfl
  | n :: ns => by simp [dInts, dInts_map ns]
theorem dBools_map : ∀ ns : List Bool, dBools (ns.map .bl) = some ns
  | [] => rfl
  | n :: ns => by simp [dBools, dBools_map ns]
theorem dInts_rep {K : PySem.W.Frag} {I : Hp} : ∀ {ds : List D} {vs : List V} {ns : List Int}, RepL K I ds vs → dInts ds = some ns → vs = ns.map V.int
  | [], vs, ns, r, h => by
    simp only [RepL] at r
    simp only [dInts, Option.some.injEq] at h
    subst r h; rfl
  | d :: ds, vs, ns, r, h => by
    simp only [RepL] at r
    obtain ⟨v, r', rfl, h1, h2⟩ := r
    cases d with
    | int i =>
      simp only [dInts] at h
      cases e : dInts ds with
      | none => rw [e] at h; cases h
      | some ms =>
        rw [e] at h
        simp only [Option.map_some, Option.some.injEq] at h
        subst h
        rw [dInts_rep h2 e, h1.int_of]; rfl
    | _ => simp [dInts] at h
theorem dBools_rep {K : PySem.W.Frag} {I : Hp} : ∀ {ds : List D} {vs : List V} {ns : List Bool}, RepL K I ds vs → dBools ds = some ns → vs = ns.map V.bl
  | [], vs, ns, r, h => by
    simp only [RepL] at r
    simp only [dBools, Option.some.injEq] at h
    subst r h; rfl
  | d :: ds, vs, ns, r, h => by
    simp only [RepL] at r
    obtain ⟨v, r', rfl, h1, h2⟩ := r
    cases d with
    | bl i =>
      simp only [dBools] at h
      cases e : dBools ds with
      | none => rw [e] at h; cases h
      | some ms =>
        rw [e] at h
        simp only [Option.map_some, Option.some.injEq] at h
        subst h
        rw [dBools_rep h2 e, h1.bl_of]; rfl
    | _ => simp [dBools] at h
def cAbs : DC := fun xs S P => match xs with
  | [.int i] => P (.int (if i < 0 then -i else i)) S
  | _ => False
def cMax2 : DC := fun xs S P => match xs with
  | [.int i, .int j] => P (.int (if j > i then j else i)) S
  | _ => False
def cMin2 : DC := fun xs S P => match xs with
  | [.int i, .int j] => P (.int (if j < i then j else i)) S
  | _ => False
def cMaxL : DC := fun xs S P => match xs with
  | [x] => match (lstOf S x).bind dInts with
    | some ns => 0 < ns.length ∧ ∀ m, m ∈ ns → (∀ y, y ∈ ns → y ≤ m) → P (.int m) S
    | none => False
  | _ => False
def cMinL : DC := fun xs S P => match xs with
  | [x] => match (lstOf S x).bind dInts with
    | some ns => 0 < ns.length ∧ ∀ m, m ∈ ns → (∀ y, y ∈ ns → m ≤ y) → P (.int m) S
    | none => False
  | _ => False
def cSum : DC := fun xs S P => match xs with
  | [x] => match (lstOf S x).bind dInts with
    | some ns => P (.int ns.sum) S
    | none => False
  | _ => False
def cAll : DC := fun xs S P => match xs with
  | [x] => match (lstOf S x).bind dBools with
    | some ns => P (.bl (ns.all id)) S
    | none => False
  | _ => False
def cInt : DC := fun xs S P => match xs with
  | [.int i] => P (.int i) S
  | [.bl k] => P (.int (if k then 1 else 0)) S
  | _ => False
def cLen : DC := fun xs S P => match xs with
  | [.str z] => z.length ≤ 100000 ∧ P (.int z.length) S
  | [x] => match seqOf S x with
    | some ds => P (.int ds.length) S
    | none => False
  | _ => False
def cList : DC := fun xs S P => match xs with
  | [x] => match seqOf S x with
    | some ds => P (.lst ds) S
    | none => False
  | _ => False
def cTuple : DC := fun xs S P => match xs with
  | [x] => match seqOf S x with
    | some ds => P (.tup ds) S
    | none => False
  | _ => False
section
variable {K : PySem.W.Frag}
theorem i_abs : ImpC K (fun xs H Q => ∃ i, xs = [.int i] ∧ Q (.int (if i < 0 then -i else i)) H) cAbs := by
  intro xs vs I S F H P Q ok r h q
  unfold cAbs at h
  split at h
  · obtain ⟨v, rfl, rv⟩ := r.inv1
    cases rv.int_of
    exact ⟨_, rfl, q _ _ _ _ _ h (Same.refl I) ok rep_int⟩
  · exact h.elim
theorem i_max2 : ImpC K (fun xs H Q => ∃ i j, xs = [.int i, .int j] ∧ Q (.int (if j > i then j else i)) H) cMax2 := by
  intro xs vs I S F H P Q ok r h q
  unfold cMax2 at h
  split at h
  · obtain ⟨v, w, rfl, rv, rw⟩ := r.inv2
    cases rv.int_of; cases rw.int_of
    exact ⟨_, _, rfl, q _ _ _ _ _ h (Same.refl I) ok rep_int⟩
  · exact h.elim
theorem i_min2 : ImpC K (fun xs H Q => ∃ i j, xs = [.int i, .int j] ∧ Q (.int (if j < i then j else i)) H) cMin2 := by
  intro xs vs I S F H P Q ok r h q
  unfold cMin2 at h
  split at h
  · obtain ⟨v, w, rfl, rv, rw⟩ := r.inv2
    cases rv.int_of; cases rw.int_of
    exact ⟨_, _, rfl, q _ _ _ _ _ h (Same.refl I) ok rep_int⟩
  · exact h.elim
theorem lstInts {I F H : Hp} {S : Store} (ok : Ok K I S F H) {x : D} {v : V} {ns : List Int} (r : Rep K I x v) (h : (lstOf S x).bind dInts = some ns) : ∃ a, v = .ref a ∧ SqL K H a (ns.map V.int) := by
  cases e : lstOf S x with
  | none => rw [e] at h; cases h
  | some ds =>
    rw [e] at h
    obtain ⟨a, xs, rfl, hs, rl⟩ := lst_sq ok r e
    exact ⟨a, rfl, by rw [← dInts_rep rl h]; exact hs⟩
theorem lstBools {I F H : Hp} {S : Store} (ok : Ok K I S F H) {x : D} {v : V} {ns : List Bool} (r : Rep K I x v) (h : (lstOf S x).bind dBools = some ns) : ∃ a, v = .ref a ∧ SqL K H a (ns.map V.bl) := by
  cases e : lstOf S x with
  | none => rw [e] at h; cases h
  | some ds =>
    rw [e] at h
    obtain ⟨a, xs, rfl, hs, rl⟩ := lst_sq ok r e
    exact ⟨a, rfl, by rw [← dBools_rep rl h]; exact hs⟩
theorem i_maxL : ImpC K (rMax K) cMaxL := by
  intro xs vs I S F H P Q ok r h q
  unfold cMaxL at h
  split at h
  · split at h
    · rename_i ns e
      obtain ⟨v, rfl, rv⟩ := r.inv1
      obtain ⟨a, rfl, hs⟩ := lstInts ok rv e
      exact ⟨a, ns, rfl, hs, h.1, fun m hm hy => q _ _ _ _ _ (h.2 m hm hy) (Same.refl I) ok rep_int⟩
    · exact h.elim
  · exact h.elim
theorem i_minL : ImpC K (rMin K) cMinL := by
  intro xs vs I S F H P Q ok r h q
  unfold cMinL at h
  split at h
  · split at h
    · rename_i ns e
      obtain ⟨v, rfl, rv⟩ := r.inv1
      obtain ⟨a, rfl, hs⟩ := lstInts ok rv e
      exact ⟨a, ns, rfl, hs, h.1, fun m hm hy => q _ _ _ _ _ (h.2 m hm hy) (Same.refl I) ok rep_int⟩
    · exact h.elim
  · exact h.elim
theorem i_sum : ImpC K (rSum K) cSum := by
  intro xs vs I S F H P Q ok r h q
  unfold cSum at h
  split at h
  · split at h
    · rename_i ns e
      obtain ⟨v, rfl, rv⟩ := r.inv1
      obtain ⟨a, rfl, hs⟩ := lstInts ok rv e
      exact ⟨a, ns, rfl, hs, q _ _ _ _ _ h (Same.refl I) ok rep_int⟩
    · exact h.elim
  · exact h.elim
theorem i_all : ImpC K (rAll K) cAll := by
  intro xs vs I S F H P Q ok r h q
  unfold cAll at h
  split at h
  · split at h
    · rename_i ns e
      obtain ⟨v, rfl, rv⟩ := r.inv1
      obtain ⟨a, rfl, hs⟩ := lstBools ok rv e
      exact ⟨a, ns, rfl, hs, q _ _ _ _ _ h (Same.refl I) ok rep_bl⟩
    · exact h.elim
  · exact h.elim
theorem i_int : ImpC K (fun xs H Q => (∃ i, xs = [.int i] ∧ Q (.int i) H) ∨ ∃ k, xs = [.bl k] ∧ Q (.int (if k then 1 else 0)) H) cInt := by
  intro xs vs I S F H P Q ok r h q
  unfold cInt at h
  split at h
  · obtain ⟨v, rfl, rv⟩ := r.inv1
    cases rv.int_of
    exact .inl ⟨_, rfl, q _ _ _ _ _ h (Same.refl I) ok rep_int⟩
  · obtain ⟨v, rfl, rv⟩ := r.inv1
    cases rv.bl_of
    exact .inr ⟨_, rfl, q _ _ _ _ _ h (Same.refl I) ok rep_int⟩
  · exact h.elim
theorem i_len : ImpC K (fun xs H Q => (∃ p ys, xs = [.ref p] ∧ (SqL K H p ys ∨ SqT K H p ys) ∧ Q (.int ys.length) H) ∨ ∃ z, xs = [.str z] ∧ z.length ≤ sizeLine ∧ Q (.int z.length) H) cLen := by
  intro xs vs I S F H P Q ok r h q
  unfold cLen at h
  split at h
  · obtain ⟨v, rfl, rv⟩ := r.inv1
    cases rv.str_of
    exact .inr ⟨_, rfl, line5 h.1, q _ _ _ _ _ h.2 (Same.refl I) ok rep_int⟩
  · split at h
    · rename_i ds e
      obtain ⟨v, rfl, rv⟩ := r.inv1
      obtain ⟨a, xs, rfl, hs, rl⟩ := seq_sq ok rv e
      exact .inl ⟨a, xs, rfl, hs, by rw [rl.len]; exact q _ _ _ _ _ h (Same.refl I) ok rep_int⟩
    · exact h.elim
  · exact h.elim
theorem i_tuple : ImpC K (fun xs H Q => ∃ p ys, xs = [.ref p] ∧ ((SqL K H p ys ∧ ∀ l, H l = none → Q (.ref l) (upd H l (.tup ys))) ∨ (SqT K H p ys ∧ Q (.ref p) H))) cTuple := by
  intro xs vs I S F H P Q ok r h q
  unfold cTuple at h
  split at h
  · rename_i x
    split at h
    · rename_i ds e
      obtain ⟨v, rfl, rv⟩ := r.inv1
      cases x with
      | tup es =>
        simp only [seqOf, Option.some.injEq] at e; subst e
        obtain ⟨a, xs, rfl, hs, rl⟩ := tup_sq ok rv
        exact ⟨a, xs, rfl, .inr ⟨hs, q _ _ _ _ _ h (Same.refl I) ok rv⟩⟩
      | _ =>
        simp only [seqOf] at e
        obtain ⟨a, xs, rfl, hs, rl⟩ := lst_sq ok rv e
        exact ⟨a, xs, rfl, .inl ⟨hs, fun l hl => q _ _ _ _ _ h (same_new (ok.freshI hl)) (ok.newI hl) (rep_new_tup (ok.freshI hl) rl)⟩⟩
    · exact h.elim
  · exact h.elim
/-! isinstance -/
def tyName (S : Store) : D → Option String
  | .non => some "NoneType"
  | .bl _ => some "bool"
  | .int _ => some "int"
  | .str _ => some "str"
  | .lst _ => some "list"
  | .tup _ => some "tuple"
  | .obj a => match S a with
    | some (.lst _) => some "list"
    | some (.dK _) => some "dict"
    | _ => none
  | _ => none
def isTy (m n : String) : Bool := m == n || (m == "bool" && n == "int")
def knownTy (n : String) : Bool := n == "bool" || n == "int" || n == "str" || n == "list" || n == "tuple" || n == "dict"
def tys : List D → Option (List String)
  | [] => some []
  | .ty n :: r => if knownTy n = true then (tys r).map (n :: ·) else none
  | _ => none
def cIsi : DC := fun xs S P => match xs with
  | [x, .ty n] => match tyName S x with
    | some m => knownTy n = true ∧ P (.bl (isTy m n)) S
    | none => False
  | [x, .tup cs] => match tyName S x, tys cs with
    | some m, some ns => P (.bl (ns.any fun n => isTy m n)) S
    | _, _ => False
  | _ => False
end
end DL

namespace DL
open PySem PySem.Spec PyProof.Rows L2

/-! ### built-ins by name -/
theorem b_abs : bootBuiltins "abs" = some (.builtin "abs") := by decide +kernel
theorem b_max : bootBuiltins "max" = some (.builtin "max") := by decide +kernel
theorem b_min : bootBuiltins "min" = some (.builtin "min") := by decide +kernel
theorem b_len : bootBuiltins "len" = some (.builtin "len") := by decide +kernel
theorem b_sum : bootBuiltins "sum" = some (.builtin "sum") := by decide +kernel
theorem b_all : bootBuiltins "all" = some (.builtin "all") := by decide +kernel
theorem b_int : bootBuiltins "int" = some (.type "int") := by decide +kernel
theorem b_tuple : bootBuiltins "tuple" = some (.type "tuple") := by decide +kernel
section
variable {X : Cx} {pos p : Pos} {a b : Expr} {da db : DE} {es : List Expr} {ds : DA}
theorem je_abs (hm : X.mg "abs" = none) (ha : JA X [a] ds) (hg : Gl X "abs" := by rfl) (hs : starEach [a] X.env = [(false, eval a X.env)] := by rfl) : JE X (.Call (.Name "abs" p) [a] [] pos) (dCB cAbs ds) := je_callB call_abs i_abs hg hm b_abs ha (hs := hs) (hpl := by rfl)
theorem je_max2 (hm : X.mg "max" = none) (ha : JA X [a, b] ds) (hc : X.calm = true := by rfl) (hg : Gl X "max" := by rfl) (hs : starEach [a, b] X.env = (false, eval a X.env) :: starEach [b] X.env := by rfl) (hpl : (backTo pos (starEach [b] X.env)).any (·.1) = false := by rfl) : JE X (.Call (.Name "max" p) [a, b] [] pos) (dCB cMax2 ds) := je_callB (call_max2 hc) i_max2 hg hm b_max ha (hs := hs) (hpl := hpl)
theorem je_min2 (hm : X.mg "min" = none) (ha : JA X [a, b] ds) (hc : X.calm = true := by rfl) (hg : Gl X "min" := by rfl) (hs : starEach [a, b] X.env = (false, eval a X.env) :: starEach [b] X.env := by rfl) (hpl : (backTo pos (starEach [b] X.env)).any (·.1) = false := by rfl) : JE X (.Call (.Name "min" p) [a, b] [] pos) (dCB cMin2 ds) := je_callB (call_min2 hc) i_min2 hg hm b_min ha (hs := hs) (hpl := hpl)
theorem je_maxL (hm : X.mg "max" = none) (ha : JA X [a] ds) (hc : X.calm = true := by rfl) (hg : Gl X "max" := by rfl) (hs : starEach [a] X.env = [(false, eval a X.env)] := by rfl) : JE X (.Call (.Name "max" p) [a] [] pos) (dCB cMaxL ds) := je_callB (cr_max hc) i_maxL hg hm b_max ha (hs := hs) (hpl := by rfl)
theorem je_minL (hm : X.mg "min" = none) (ha : JA X [a] ds) (hc : X.calm = true := by rfl) (hg : Gl X "min" := by rfl) (hs : starEach [a] X.env = [(false, eval a X.env)] := by rfl) : JE X (.Call (.Name "min" p) [a] [] pos) (dCB cMinL ds) := je_callB (cr_min hc) i_minL hg hm b_min ha (hs := hs) (hpl := by rfl)
theorem je_sum (hm : X.mg "sum" = none) (ha : JA X [a] ds) (hc : X.calm = true := by rfl) (hg : Gl X "sum" := by rfl) (hs : starEach [a] X.env = [(false, eval a X.env)] := by rfl) : JE X (.Call (.Name "sum" p) [a] [] pos) (dCB cSum ds) := je_callB (cr_sum hc) i_sum hg hm b_sum ha (hs := hs) (hpl := by rfl)
theorem je_all (hm : X.mg "all" = none) (ha : JA X [a] ds) (hc : X.calm = true := by rfl) (hg : Gl X "all" := by rfl) (hs : starEach [a] X.env = [(false, eval a X.env)] := by rfl) : JE X (.Call (.Name "all" p) [a] [] pos) (dCB cAll ds) := je_callB (cr_all hc) i_all hg hm b_all ha (hs := hs) (hpl := by rfl)
theorem je_len (hm : X.mg "len" = none) (ha : JA X [a] ds) (hg : Gl X "len" := by rfl) (hs : starEach [a] X.env = [(false, eval a X.env)] := by rfl) : JE X (.Call (.Name "len" p) [a] [] pos) (dCB cLen ds) := je_callB (call_len_seq.or call_len_str) i_len hg hm b_len ha (hs := hs) (hpl := by rfl)
theorem je_intC (hm : X.mg "int" = none) (ha : JA X [a] ds) (hg : Gl X "int" := by rfl) (hs : starEach [a] X.env = [(false, eval a X.env)] := by rfl) : JE X (.Call (.Name "int" p) [a] [] pos) (dCB cInt ds) := je_callTy call_int1 i_int hg hm b_int ha (hs := hs) (hpl := by rfl)
theorem je_tupC (hm : X.mg "tuple" = none) (ha : JA X [a] ds) (hg : Gl X "tuple" := by rfl) (hs : starEach [a] X.env = [(false, eval a X.env)] := by rfl) : JE X (.Call (.Name "tuple" p) [a] [] pos) (dCB cTuple ds) := je_callTy call_tuple_of i_tuple hg hm b_tuple ha (hs := hs) (hpl := by rfl)
end

/-! ### what is walked -/
/-- a list that may change, walked, is to stay -/
def pinOf (S : Store) : D → Option (Store → Prop)
  | .obj l => some fun S' => S' l = S l
  | _ => none
def dItSeq (d : DE) : DI := fun ρ S P => d ρ S fun x S1 => match seqOf S1 x with
  | some ds => P ds (pinOf S1 x) S1
  | none => False
def rng (lo : Int) (n : Nat) : List D := (List.range n).map fun (i : Nat) => .int (lo + (i : Int))
theorem rng_len (lo : Int) (n : Nat) : (rng lo n).length = n := by simp [rng]
theorem rng_get {lo : Int} {n i : Nat} {d : D} (h : (rng lo n)[i]? = some d) : i < n ∧ d = .int (lo + (i : Int)) := by
  unfold rng at h
  rw [List.getElem?_map] at h
  by_cases hi : i < n
  · rw [List.getElem?_range hi] at h
    cases h
    exact ⟨hi, rfl⟩
  · rw [List.getElem?_eq_none (by simpa using hi)] at h; cases h
def dRng1 (a : DA) : DI := fun ρ S P => a ρ S fun xs S1 => match xs with
  | [.int j] => -(2 ^ 62) ≤ j ∧ j < 2 ^ 62 ∧ P (rng 0 j.toNat) none S1
  | _ => False
def dRng2 (a : DA) : DI := fun ρ S P => a ρ S fun xs S1 => match xs with
  | [.int i, .int j] => (-(2 ^ 62) ≤ i ∧ i < 2 ^ 62 ∧ -(2 ^ 62) ≤ j ∧ j < 2 ^ 62) ∧ P (rng i (j - i).toNat) none S1
  | _ => False
def rngC (lo c : Int) (n : Nat) : List D := (List.range n).map fun (i : Nat) => .int (lo + (i : Int) * c)
def dRng3 (a : DA) : DI := fun ρ S P => a ρ S fun xs S1 => match xs with
  | [.int i, .int j, .int c] => ∃ n, RgC i j c n ∧ P (rngC i c n) none S1
  | _ => False
def zipD (as bs : List D) : List D := List.zipWith (fun a b => .tup [a, b]) as bs
section
variable {X : Cx} {pos p : Pos} {tg a b c : Expr} {da db : DE} {es : List Expr} {ds : DA}
/-- a list or a tuple -/
theorem pi_seq {l : Expr} {tl : TE} (hl : PE X l tl) : PI X tg l (fun σ H R => tl σ H fun x H1 => ∃ a, x = .ref a ∧ (((∃ xs, SqL X.K H1 a xs) ∧ R (Itl X.K a) H1) ∨ ((∃ xs, SqT X.K H1 a xs) ∧ R (Itt X.K a) H1))) := by
  refine ⟨fun pins s σ H R I h => ?_⟩
  refine thn (hl.run pins s σ H _ I h) fun v s1 ⟨x, H1, I1, r1, q1⟩ => ?_
  obtain ⟨a, e, q1⟩ := q1
  subst e
  cases r1
  rcases q1 with ⟨⟨xs, hq⟩, q⟩ | ⟨⟨xs, hq⟩, q⟩
  · obtain ⟨its, rv, p, hz⟩ := I1.list hq
    refine wpAny_pyIter_list p.isList ?_
    refine ⟨s1.heap.objs.size, [s1.heap.objs.size], _, _, H1, rfl, I1.kept (t' := s1.toks) fun b o e => Heap.get?_push_of_some _ e, turn_list a _, ⟨_, Heap.get?_push_size _ rfl, rfl, rfl⟩, fun b hb => ?_, q⟩
    have e : b = s1.heap.objs.size := by simpa using hb
    subst e
    exact I1.fpOk (Nat.le_refl _) (I1.hok.fresh (Nat.le_refl _))
  · obtain ⟨its, rv, p, hz⟩ := I1.tuple hq
    refine wpAny_pyIter_tuple (show s1.heap.IsTuple a its.toArray from p) ?_
    refine ⟨s1.heap.objs.size, [s1.heap.objs.size], _, _, H1, rfl, I1.kept (t' := s1.toks) fun b o e => Heap.get?_push_of_some _ e, turn_tuple a _, ⟨_, Heap.get?_push_size _ rfl, rfl, rfl⟩, fun b hb => ?_, q⟩
    have e : b = s1.heap.objs.size := by simpa using hb
    subst e
    exact I1.fpOk (Nat.le_refl _) (I1.hok.fresh (Nat.le_refl _))
theorem itl_ok {K : PySem.W.Frag} {I : Hp} {a : Addr} {ds : List D} {pin : Option (Store → Prop)} (hs : ∀ I2 S F H, Same I I2 → Ok K I2 S F H → PinOk pin S → ∃ xs, SqL K H a xs ∧ RepL K I2 ds xs) : ItOk K I (Itl K a) ds pin where
  go I2 S F H e ok pk i d hd := by
    obtain ⟨xs, h2, rl⟩ := hs I2 S F H e ok pk
    obtain ⟨v, e1, r1⟩ := rl.get hd
    refine ⟨⟨xs, v, h2, e1⟩, fun x H' hy => ?_⟩
    obtain ⟨rfl, hy⟩ := hy
    have := hy xs h2
    rw [e1] at this
    cases this
    exact ⟨I2, Same.refl _, ok, r1⟩
  stop I2 S F H e ok pk i hi := by
    obtain ⟨xs, h2, rl⟩ := hs I2 S F H e ok pk
    exact ⟨xs, h2, by rw [rl.len]; exact Nat.le_of_eq hi.symm⟩
theorem itt_ok {K : PySem.W.Frag} {I : Hp} {a : Addr} {ds : List D} {pin : Option (Store → Prop)} (hs : ∀ I2 S F H, Same I I2 → Ok K I2 S F H → PinOk pin S → ∃ xs, SqT K H a xs ∧ RepL K I2 ds xs) : ItOk K I (Itt K a) ds pin where
  go I2 S F H e ok pk i d hd := by
    obtain ⟨xs, h2, rl⟩ := hs I2 S F H e ok pk
    obtain ⟨v, e1, r1⟩ := rl.get hd
    refine ⟨⟨xs, v, h2, e1⟩, fun x H' hy => ?_⟩
    obtain ⟨rfl, hy⟩ := hy
    have := hy xs h2
    rw [e1] at this
    cases this
    exact ⟨I2, Same.refl _, ok, r1⟩
  stop I2 S F H e ok pk i hi := by
    obtain ⟨xs, h2, rl⟩ := hs I2 S F H e ok pk
    exact ⟨xs, h2, by rw [rl.len]; exact Nat.le_of_eq hi.symm⟩
/-- a list (b false) or a tuple (b true) -/
def Sq (b : Bool) (K : PySem.W.Frag) (H : Hp) (a : Addr) (xs : List V) : Prop := match b with | true => SqT K H a xs | false => SqL K H a xs
theorem src_sq {K : PySem.W.Frag} {I F H : Hp} {S : Store} {x : D} {v : V} {ds : List D} (ok : Ok K I S F H) (r : Rep K I x v) (h : seqOf S x = some ds) :
    ∃ b a, v = .ref a ∧ ∀ I2 S2 F2 H2, Same I I2 → Ok K I2 S2 F2 H2 → PinOk (pinOf S x) S2 → ∃ xs, Sq b K H2 a xs ∧ RepL K I2 ds xs := by
  cases x with
  | tup es =>
    simp only [seqOf, Option.some.injEq] at h; subst h
    obtain ⟨a, xs, rfl, hs, rl⟩ := r.tup_of
    exact ⟨true, a, rfl, fun I2 S2 F2 H2 e ok2 _ => ⟨xs, sqT_same ok2.same (tupAt_same e hs), rl.mono e⟩⟩
  | lst es =>
    simp only [seqOf, lstOf, Option.some.injEq] at h; subst h
    obtain ⟨a, xs, rfl, hs, rl⟩ := r.lst_of
    exact ⟨false, a, rfl, fun I2 S2 F2 H2 e ok2 _ => ⟨xs, ok2.same.seq (e.seq (.of hs)), rl.mono e⟩⟩
  | ext es =>
    simp only [seqOf, lstOf, Option.some.injEq] at h; subst h
    obtain ⟨a, xs, rfl, hs, rl⟩ := r.ext_of
    exact ⟨false, a, rfl, fun I2 S2 F2 H2 e ok2 _ => ⟨xs, ok2.same.seq (e.seq hs), rl.mono e⟩⟩
  | obj l =>
    simp only [seqOf, lstOf] at h
    cases e : S l with
    | none => simp [e] at h
    | some m =>
      cases m with
      | lst es =>
        simp [e] at h; subst h
        refine ⟨false, l, r.obj_of, fun I2 S2 F2 H2 e2 ok2 pk => ?_⟩
        have pk' : S2 l = S l := pk
        rw [e] at pk'
        obtain ⟨_, ys, q2, rl⟩ := ok2.s l _ pk'
        exact ⟨ys, .of q2, rl⟩
      | _ => simp [e] at h
  | _ => simp [seqOf, lstOf] at h
theorem pin_self (S : Store) (x : D) : PinOk (pinOf S x) S := by
  cases x <;> first | trivial | rfl
theorem ji_seq (h : JE X a da) : JI X tg a (dItSeq da) :=
  ji_of (pi_seq h) fun σ H R ⟨ρ, I, S, F, P, rs, ok, hh, q⟩ => ⟨ρ, I, S, F, _, rs, ok, hh, fun x S1 v I1 H1 h1 e1 ok1 r1 => by
    split at h1
    · rename_i ds hds
      obtain ⟨b, a, rfl, hs⟩ := src_sq ok1 r1 hds
      obtain ⟨xs, q1, _⟩ := hs _ _ _ _ (Same.refl _) ok1 (pin_self _ _)
      cases b
      · exact ⟨a, rfl, .inl ⟨⟨xs, q1⟩, q _ _ _ _ _ _ h1 e1 ok1 (itl_ok hs)⟩⟩
      · exact ⟨a, rfl, .inr ⟨⟨xs, q1⟩, q _ _ _ _ _ _ h1 e1 ok1 (itt_ok hs)⟩⟩
    · exact h1.elim⟩
theorem itr_ok {K : PySem.W.Frag} {I : Hp} (lo : Int) (n : Nat) : ItOk K I (Itr lo n) (rng lo n) none where
  go I2 S F H e ok _ i d hd := by
    obtain ⟨hi, rfl⟩ := rng_get hd
    exact ⟨hi, fun x H' ⟨e1, e2⟩ => ⟨I2, Same.refl _, by rw [e1]; exact ok, by rw [e2]; exact rep_int⟩⟩
  stop I2 S F H e ok _ i hi := by rw [rng_len] at hi; exact Nat.le_of_eq hi.symm
theorem ji_range1 (hm : X.mg "range" = none) (ha : JA X [a] ds) (hg : Gl X "range" := by rfl) (hs : starEach [a] X.env = [(false, eval a X.env)] := by rfl) : JI X tg (.Call (.Name "range" p) [a] [] pos) (dRng1 ds) :=
  ji_of (pi_range1 hg hm ha hs) fun σ H R ⟨ρ, I, S, F, P, rs, ok, hh, q⟩ => ⟨ρ, I, S, F, _, rs, ok, hh, fun xs S1 v I1 H1 h1 e1 ok1 r1 => by
    split at h1
    · obtain ⟨v, rfl, rv⟩ := r1.inv1
      cases rv.int_of
      exact ⟨_, rfl, h1.1, h1.2.1, q _ _ _ _ _ _ h1.2.2 e1 ok1 (itr_ok _ _)⟩
    · exact h1.elim⟩
theorem ji_range2 (hm : X.mg "range" = none) (ha : JA X [a, b] ds) (hg : Gl X "range" := by rfl) (hs : starEach [a, b] X.env = [(false, eval a X.env), (false, eval b X.env)] := by rfl) (hs2 : starEach [b] X.env = [(false, eval b X.env)] := by rfl) : JI X tg (.Call (.Name "range" p) [a, b] [] pos) (dRng2 ds) :=
  ji_of (pi_range2 hg hm ha hs hs2) fun σ H R ⟨ρ, I, S, F, P, rs, ok, hh, q⟩ => ⟨ρ, I, S, F, _, rs, ok, hh, fun xs S1 v I1 H1 h1 e1 ok1 r1 => by
    split at h1
    · obtain ⟨v, w, rfl, rv, rw⟩ := r1.inv2
      cases rv.int_of; cases rw.int_of
      exact ⟨_, _, rfl, h1.1, q _ _ _ _ _ _ h1.2 e1 ok1 (itr_ok _ _)⟩
    · exact h1.elim⟩
theorem rngC_len (lo c : Int) (n : Nat) : (rngC lo c n).length = n := by simp [rngC]
theorem itc_ok {K : PySem.W.Frag} {I : Hp} (lo c : Int) (n : Nat) : ItOk K I (Itc lo c n) (rngC lo c n) none where
  go I2 S F H e ok _ i d hd := by
    unfold rngC at hd
    rw [List.getElem?_map] at hd
    by_cases hi : i < n
    · rw [List.getElem?_range hi] at hd
      cases hd
      exact ⟨hi, fun x H' ⟨e1, e2⟩ => ⟨I2, Same.refl _, by rw [e1]; exact ok, by rw [e2]; exact rep_int⟩⟩
    · rw [List.getElem?_eq_none (by simpa using hi)] at hd; cases hd
  stop I2 S F H e ok _ i hi := by rw [rngC_len] at hi; exact Nat.le_of_eq hi.symm
theorem ji_range3 (hm : X.mg "range" = none) (ha : JA X [a, b, c] ds) (hg : Gl X "range" := by rfl) (hs : starEach [a, b, c] X.env = (false, eval a X.env) :: starEach [b, c] X.env := by rfl) (hpl : (backTo pos (starEach [b, c] X.env)).any (·.1) = false := by rfl) : JI X tg (.Call (.Name "range" p) [a, b, c] [] pos) (dRng3 ds) :=
  ji_of (pi_range3 hg hm ha hs hpl) fun σ H R ⟨ρ, I, S, F, P, rs, ok, hh, q⟩ => ⟨ρ, I, S, F, _, rs, ok, hh, fun xs S1 v I1 H1 h1 e1 ok1 r1 => by
    split at h1
    · obtain ⟨v, w, u, rfl, rv, rw, ru⟩ := r1.inv3
      cases rv.int_of; cases rw.int_of; cases ru.int_of
      obtain ⟨n, hr, h1⟩ := h1
      exact ⟨_, _, _, n, rfl, hr, q _ _ _ _ _ _ h1 e1 ok1 (itc_ok _ _ _)⟩
    · exact h1.elim⟩
theorem rep_tup2 {K : PySem.W.Frag} {I : Hp} {T : Addr} {x y : V} {d e : D} (n : I T = none) (h1 : Rep K I d x) (h2 : Rep K I e y) : Rep K (upd I T (.tup [x, y])) (.tup [d, e]) (.ref T) := rep_new_tup n (RepL.cons h1 (RepL.one h2))
end

/-! ### changes -/
section
variable {X : Cx} {pos p apos : Pos} {tg a b c o i : Expr} {da db d1 d2 : DE} {es : List Expr} {ds : DA}
def dAppend (a b : DE) : DE := fun ρ S P => a ρ S fun x S1 => match x with
  | .obj l => ∃ es, S1 l = some (.lst es) ∧ b ρ S1 fun y S2 => ∃ ds, S2 l = some (.lst ds) ∧ ds.length < 100000 ∧ P .non (supd S2 l (.lst (ds ++ [y])))
  | _ => False
theorem je_append (ha : JE X o da) (hb : JE X a db) (hbase : attributeBase o "append" X.env (eval o X.env) = eval o X.env := by rfl) (hs0 : starEach [a] X.env = [(false, eval a X.env)] := by rfl)
    (hfew : ((backTo pos (starEach [a] X.env)).all (fun x => !x.1) && (backToKw pos (keywordEach [] X.env)).all (fun x => x.1.isSome)
      && decide ([a].length + ([] : List Keyword).length + (if ([] : List Keyword).isEmpty then 0 else 1) < 30)) = true := by rfl)
    (hline : (apos.endLine == pos.line) = true := by rfl) : JE X (.Call (.Attribute o "append" apos) [a] [] pos) (dAppend da db) :=
  je_of (pe_bm PySem.F.plainAttrs_list PySem.F.slot_list_append PySem.F.type_list_append mt_append ha (pa_cons hb pa_nil hs0) hbase hfew hline (hs := hs0) (hplain := by rfl)) fun σ H Q ⟨ρ, I, S, F, P, rs, ok, hh, q⟩ =>
    ⟨ρ, I, S, F, _, rs, ok, hh, fun x S1 v I1 H1 h1 e1 ok1 r1 => by
      cases x with
      | obj l =>
        obtain ⟨es, e2, h2⟩ := h1
        obtain ⟨_, ys, q2, _⟩ := ok1.s l _ e2
        cases r1.obj_of
        refine ⟨.inl ⟨rfl, ys, .of q2⟩, ρ, I1, S1, F, _, rs.mono e1, ok1, h2, fun y S2 w I2 H2 h3 e3 ok2 r2 => ?_⟩
        obtain ⟨ds, e4, hl, h4⟩ := h3
        obtain ⟨_, zs, q4, rl⟩ := ok2.s l _ e4
        refine ⟨l, zs, w, rfl, rfl, q4, ?_, q _ _ _ _ _ h4 (e1.trans e3) (ok2.writeL e4 (rl.app (RepL.one r2))) rep_non⟩
        rw [rl.len]
        exact Nat.lt_of_lt_of_le hl (by decide)
      | _ => exact h1.elim⟩
/-- o[i] = e -/
def dSetIx (de d1 d2 : DE) : DS := fun DD ρ S => de ρ S fun x S1 => d1 ρ S1 fun o S2 => d2 ρ S2 fun i S3 => match o, i with
  | .obj l, .int k => match S3 l with
    | some (.lst ds) => match ixN ds.length k with
      | some j => DD.nx ρ (supd S3 l (.lst (ds.set j x)))
      | none => False
    | _ => False
  | _, _ => False
theorem js_setIx {e : Expr} {de : DE} (he : JE X e de) (ho : JE X o d1) (hi : JE X i d2)
    (ha : ∀ v, assign (.Subscript o i p) X.env v = (do
      let ov ← holding [v] (eval o X.env)
      let iv ← holding [v, ov] (eval i X.env)
      standAt p
      holding [v, ov, iv] (setItem ov iv v)
      release [v, ov, iv] []) := by intro _; rfl)
    (hs : swapsWithSole [.Subscript o i p] e pos.line X.env = pure false := by rfl) (hw : swappedStores [.Subscript o i p] e X.env = pure none := by rfl)
    (h1 : (assignEach [.Subscript o i p] X.env).map (·.2) = [assign (.Subscript o i p) X.env] := by rfl) : JS X (.Assign [.Subscript o i p] e pos) (dSetIx de d1 d2) :=
  js_of (ps_asg he (pg_sub ho hi set_list ha) hs hw h1) fun D σ H ⟨ρ, I, S, F, DD, rs, ok, h, q⟩ => ⟨ρ, I, S, F, _, rs, ok, h, fun x S1 v I1 H1 h1 e1 ok1 r1 =>
    ⟨ρ, I1, S1, F, _, rs.mono e1, ok1, h1, fun o S2 w I2 H2 h2 e2 ok2 r2 => ⟨ρ, I2, S2, F, _, rs.mono (e1.trans e2), ok2, h2, fun i S3 u I3 H3 h3 e3 ok3 r3 => by
      have rx := r1.mono (e2.trans e3)
      have ro := r2.mono e3
      split at h3
      · rename_i l k
        split at h3
        · rename_i ds eS
          split at h3
          · rename_i j ej
            obtain ⟨_, zs, q4, rl⟩ := ok3.s l _ eS
            cases ro.obj_of
            cases r3.int_of
            refine ⟨l, zs, k, j, rfl, rfl, q4, by rw [rl.len]; exact ej, q.nx _ _ _ _ _ h3 ((e1.trans e2).trans e3) (ok3.writeL eS (rl.set j rx)) (rs.mono ((e1.trans e2).trans e3))⟩
          · exact h3.elim
        · exact h3.elim
      · exact h3.elim⟩⟩⟩
/-! in-place operators on a name -/
theorem i_iadd {K : PySem.W.Frag} : ImpIp K (rI0 fun i j => .int (i + j)) (fun x y S P => match x, y with
  | .int i, .int j => P (.int (i + j)) S
  | _, _ => False) := by
  intro x y v w I S F H P Q ok rx ry h q
  split at h
  · cases rx.int_of; cases ry.int_of
    exact ⟨_, _, rfl, rfl, q _ _ _ _ _ h (Same.refl I) ok rep_int⟩
  · exact h.elim
theorem iop_mulA : OpR X (inplaceOp .Mult) (rI MulB fun i j => .int (i * j)) := opI fun i j _ _ _ _ _ hc q => by
  rcases hc with h | h
  · exact imul_int q h.ok
  · exact imul_int q h.ok
def dIAdd : D2 := fun x y S P => match x, y with
  | .int i, .int j => P (.int (i + j)) S
  | _, _ => False
def dIMul : D2 := fun x y S P => match x, y with
  | .int i, .int j => MulB i j ∧ P (.int (i * j)) S
  | _, _ => False
theorem i_imul {K : PySem.W.Frag} : ImpIp K (rI MulB fun i j => .int (i * j)) dIMul := by
  intro x y v w I S F H P Q ok rx ry h q
  unfold dIMul at h
  split at h
  · cases rx.int_of; cases ry.int_of
    exact ⟨_, _, rfl, rfl, h.1, q _ _ _ _ _ h.2 (Same.refl I) ok rep_int⟩
  · exact h.elim
variable {e : Expr} {de : DE} {x : Str} {pos' : Pos}
theorem js_iadd (i : Nat) (hN : X.N.Nodup) (hi : X.N[i]? = some x) (hx : Loc X.env.scope x) (he : JE X e de) (hf : X.fn x = true ∨ X.env.scope.names.lookup x = some .local := by first | exact .inl rfl | exact .inr rfl | assumption) : JS X (.AugAssign (.Name x pos') .Add e pos) (dAug i dIAdd de) := js_aug i hN hi hx he (ti := rI0 fun i j => .int (i + j)) iop_add i_iadd hf
theorem js_isub (i : Nat) (hN : X.N.Nodup) (hi : X.N[i]? = some x) (hx : Loc X.env.scope x) (he : JE X e de) (hf : X.fn x = true ∨ X.env.scope.names.lookup x = some .local := by first | exact .inl rfl | exact .inr rfl | assumption) : JS X (.AugAssign (.Name x pos') .Sub e pos) (dAug i dSub de) := js_aug i hN hi hx he (ti := rI0 fun i j => .int (i - j)) iop_sub i_sub hf
theorem js_imul (i : Nat) (hN : X.N.Nodup) (hi : X.N[i]? = some x) (hx : Loc X.env.scope x) (he : JE X e de) (hf : X.fn x = true ∨ X.env.scope.names.lookup x = some .local := by first | exact .inl rfl | exact .inr rfl | assumption) : JS X (.AugAssign (.Name x pos') .Mult e pos) (dAug i dIMul de) := js_aug i hN hi hx he (ti := rI MulB fun i j => .int (i * j)) iop_mulA i_imul hf
end
end DL

namespace DL
open PySem PySem.Spec PyProof.Rows L2

/-- the def called x keeps its promise sp, called with every argument by its place -/
structure Does (P : Program) (w : World) (K : PySem.W.Frag) (mg : Str → Option Value) (base : Heap) (k : Nat) (x : Str) (ps : List Str) (f : Addr) (fd : FuncData) (sp : DSp) : Prop where
  g : mg x = some (.ref f)
  kp : PySem.W.keepIn K (.ref f) = true
  b : Binds K fd ps []
  ok : FnD P w K mg base k f fd ps sp
section
variable {X : Cx} {pos p : Pos} {a : Expr} {es : List Expr} {ds : DA} {k j : Nat} {x : Str} {ps : List Str} {f : Addr} {fd : FuncData} {sp : DSp}
theorem je_f (G : Does X.prog X.w X.K X.mg X.base k x ps f fd sp) (hr : DG.RoomG j X.A) (ha : JA X (a :: es) ds) (hk : k ≤ j := by decide) (hg : Gl X x := by rfl) (hdb : (x == ("__debug__" : Str)) = false := by decide) (he : starEach (a :: es) X.env = (false, eval a X.env) :: starEach es X.env := by rfl)
    (hpl : (backTo pos (starEach es X.env)).any (·.1) = false := by rfl) : JE X (.Call (.Name x p) (a :: es) [] pos) (dCB sp ds) :=
  je_of (je_call G.ok (hr.mono hk) hg G.g G.kp G.b .nil (fun _ => RepL.nil) ha hdb he hpl) fun σ H Q ⟨ρ, I, S, F, P, rs, ok, h, q⟩ => ⟨ρ, I, S, F, P, rs, ok, by simpa only [dCall, dCB, List.append_nil] using h, q⟩
variable {ks : List Str} {n m : Nat} {perm : List Nat} {kws : List Keyword} {dk : DA}
end
/-- a def with positional defaults: its body's promise -/
theorem fn_dD {P : Program} {w : World} {K : PySem.W.Frag} {mg : Str → Option Value} {base : Heap} {x qual : Str} {st : Stmt} {f : Addr} {fd : FuncData} {N ps : List Str} {k : Nat} {sp : DSp} {dvs : List V} {kws : List (Str × V)}
    (F : FunD K x qual (defArgs st) (defBody st) (defScope st) dvs kws f fd) (S : FnScope N ps (defScope st)) (len : ∀ ds S P, sp ds S P → ds.length = ps.length)
    (hbody : ∀ (cdv : Value) (A : Around) (outer : List Env) (s : Shared) (H : Hp) (E : XK), DG.RoomG k (A.deeper (envOfC qual (defScope st) s.heap.objs.size f cdv)) →
      ∃ d : DS, JSs (cxOf CX0 P w K mg base N qual (defScope st) f cdv A outer s H E).nox (defBody st) d ∧ ∀ ds S P, sp ds S P → d (dEnd P) (ds.map some ++ List.replicate (N.length - ds.length) none) S) : FnD P w K mg base (k + 1) f fd ps sp := by
  refine DG.funD_ok F S (fun vs H Q E h => ?_) (fun cdv A outer s H vs Q E hr h => ?_)
  · obtain ⟨ds, I, S, F, P, r, ok, h, q⟩ := h
    rw [r.len]
    exact len _ _ _ h
  · obtain ⟨ds, I, S', F', P', r, ok, h, q⟩ := h
    obtain ⟨d, h1, h2⟩ := hbody cdv A outer s H E hr
    refine ⟨_, h1.nox, _, I, S', F', _, repS_start r, ok, h2 ds S' P' h, ⟨?_, q, ?_, ?_⟩⟩
    · intro ρ S2 σ I2 H2 p e2 ok2 _
      exact q _ _ _ _ _ p e2 ok2 rep_non
    · intro ρ S2 σ I2 H2 p e2 ok2 _
      exact p.elim
    · intro ρ S2 σ I2 H2 p e2 ok2 _
      exact p.elim

/-! ### chains -/
section
variable {X : Cx} {pos : Pos} {a b c : Expr} {da db dc : DE} {op op' : CmpOp} {r r' : R2} {o o' : D2}
def dChainR (o o' : D2) (da db dc : DE) : DE := fun ρ S P => da ρ S fun x S1 => db ρ S1 fun y S2 => o x y S2 fun z S3 => match z with
  | .bl k => if k = true then dc ρ S3 fun u S4 => o' y u S4 P else P (.bl false) S3
  | _ => False
end
end DL

namespace DL
open PySem PySem.Spec PyProof.Rows L2

/-! ### the law's own promise -/
def sp_law : DSp := fun ds S P => ∃ ns : List Int, ds = [.ext (ns.map .int)] ∧ ns.length ≤ 63 ∧ ∀ S', P (.bl true) S'
def spLaw (K : PySem.W.Frag) : Sp := fun vs H Q _ => ∃ (a : Addr) (ns : List Int), vs = [.ref a] ∧ SqL K H a (ns.map V.int) ∧ ns.length ≤ 63 ∧ ∀ H', Q (.bl true) H'
theorem repL_ints {K : PySem.W.Frag} {I : Hp} : ∀ ns : List Int, RepL K I (ns.map .int) (ns.map V.int)
  | [] => RepL.nil
  | n :: ns => RepL.cons rep_int (repL_ints ns)
theorem law_up {K : PySem.W.Frag} : ∀ vs H Q E, spLaw K vs H Q E → upSp K sp_law vs H Q E := fun vs H Q E ⟨a, ns, e, hs, hl, q⟩ => by
  subst e
  refine ⟨[.ext (ns.map .int)], fun b => if b = a then H b else none, fun _ => none, fun _ => none, fun x _ => x = .bl true, RepL.one ?_, ⟨fun b o e => ?_, fun b m e => (nomatch e), fun b o e => (nomatch e)⟩, ⟨ns, rfl, hl, fun _ => rfl⟩, fun x S' v I' H' p _ _ r => ?_⟩
  · simp only [Rep]
    refine ⟨a, _, rfl, ?_, repL_ints ns⟩
    rcases hs with (h | ⟨o, h⟩) | h
    · exact .inl (.inl (by simpa using h))
    · exact .inl (.inr ⟨o, by simpa using h⟩)
    · exact .inr h
  · by_cases z : b = a
    · rw [if_pos z] at e; exact e
    · rw [if_neg z] at e; cases e
  · subst p
    rw [r.bl_of]
    exact q H'
theorem law_len : ∀ ds S P, sp_law ds S P → ds.length = 1 := fun ds S P ⟨ns, e, _⟩ => by rw [e]; rfl
/-- a def of one positional default or more: the whole is given -/
theorem funD_mk {K : PySem.W.Frag} {x qual : Str} {st : Stmt} {f : Addr} {oc : Value} {od an : Option Addr} {osl : Array (Option Value)} {dV kV doc pm cdv ct : Value} {dvs : List V} (l : K.lookup f = some ⟨oc, od, .func (PySem.W.fnOf x qual (defArgs st) (defBody st) (defScope st) dV kV doc pm an cdv ct), osl⟩)
    (c : PySem.W.codeIn K cdv qual = true) (k : PySem.W.keepIn K (.ref f) = true) (d : DflV K dV dvs) : FunD K x qual (defArgs st) (defBody st) (defScope st) dvs [] f (PySem.W.fnOf x qual (defArgs st) (defBody st) (defScope st) dV kV doc pm an cdv ct) :=
  ⟨⟨oc, od, dV, kV, doc, pm, an, cdv, ct, osl, rfl, l, c, d, .inl rfl⟩, k⟩
theorem bindsAll {K : PySem.W.Frag} {x qual : Str} {st : Stmt} {f : Addr} {fd : FuncData} {dvs : List V} {ps : List Str} (F : FunD K x qual (defArgs st) (defBody st) (defScope st) dvs [] f fd) (n : Nat) (hd : dvs ≠ []) (hn : n = ps.length)
    (h : ∀ (T : Addr) (kV doc pm : Value) (an : Option Addr) (cdv ct : Value) (us its : List Value), us.length = n → its.length = dvs.length →
      ∃ k, bindArgs (PySem.W.fnOf x qual (defArgs st) (defBody st) (defScope st) (.ref T) kV doc pm an cdv ct) ⟨us, []⟩ = seqItems? (.ref T) >>= k ∧ k (some its.toArray) = pure (ps.zip us)) : Binds K fd ps [] := by
  obtain ⟨ds, v, b⟩ := F.binds1 (ps := ps) n dvs.length hd (by omega) fun T kV doc pm an cdv ct us its h1 h2 => by
    obtain ⟨k, e1, e2⟩ := h T kV doc pm an cdv ct us its h1 h2
    refine ⟨k, e1, ?_⟩
    rw [e2, ← h2, List.drop_length, List.append_nil]
  rw [List.drop_length] at v
  cases v
  exact b
end DL

namespace DZ
open PySem PySem.Spec PyProof.Rows L2
open Sem (wp)
/-! zip(a, b, strict=True) -/
abbrev IsZipS (h : Heap) (z TI TO : Addr) (f0 : Value) : Prop :=
  h.get? z = some { cls := .type "zip", dict := none, data := .fields #[f0, .bool false, .bool true, .ref TI, .ref TO], slots := #[] }
section
variable {prog : Program} {w : World} {A : Around} {E : Value → Shared → Prop} {s : Shared}
theorem orEnd_item {it : Addr} {fp : List Addr} {n i : Nat} {P : Nat → Value → Prop} {St : Nat → Heap → Prop} {Q : Option Value → Shared → Prop} (D : Draws prog w A it fp n P St) (hi : i < n) (st : St i s.heap)
    (hQ : ∀ x h' tk, P i x → St (i + 1) h' → Heap.SameBut it s.heap h' → Q (some x) { s with heap := h', toks := tk }) : wpAny (model prog w) A (Builtin.SmallTypes.nextOrEnd (.ref it)) Q E s := by
  unfold Builtin.SmallTypes.nextOrEnd
  exact wpAny_bind (wpAny_attempt (D.item i _ _ _ hi st fun x h' tk a b c => wpAny_pure (hQ x h' tk a b c)))
theorem orEnd_done {it : Addr} {fp : List Addr} {n : Nat} {P : Nat → Value → Prop} {St : Nat → Heap → Prop} {Q : Option Value → Shared → Prop} (D : Draws prog w A it fp n P St) (st : St n s.heap)
    (hQ : ∀ h', Heap.ExtBut it s.heap h' → Q none { s with heap := h' }) : wpAny (model prog w) A (Builtin.SmallTypes.nextOrEnd (.ref it)) Q E s := by
  unfold Builtin.SmallTypes.nextOrEnd
  refine wpAny_bind (wpAny_attempt (D.done s _ _ st fun h' e hk he => ?_))
  obtain ⟨o, ho, hc⟩ := he
  exact wpAny_bind (wpAny_isInstance (T := "StopIteration") (b := true) ⟨o, ho, hc⟩ isSubtype_stop (wpAny_pure (hQ _ hk)))
theorem stop_raises {α : Type} {Q : α → Shared → Prop} (hh : A.handled = none)
    (hE : ∀ h' e, (∀ c o, s.heap.get? c = some o → h'.get? c = some o) → (∃ o, h'.get? e = some o ∧ o.cls = .type "StopIteration") → E (.ref e) { s with heap := h' }) : wpAny (model prog w) A (Builtin.SmallTypes.stopIteration : Sem α) Q E s := by
  unfold Builtin.SmallTypes.stopIteration
  refine wpAny_bind ?_
  simp only [newExc, newTuple]
  refine wpAny_bind (wpAny_newObj_type ?_ (by size_fits))
  refine wpAny_bind (m := firstArgMember _ _) (wpAny_of_eq (a := Value.none) (by first | rfl | (simp only [firstArgMember]; rfl)) ?_)
  refine wpAny_newObj_type ?_ (by size_fits)
  simp only [raiseNew]
  refine wpAny_bind (wpAny_handled ?_)
  rw [hh]
  refine wpAny_bind (wpAny_pure (wpAny_throw ?_))
  exact hE _ _ (fun c o e => Heap.get?_push_of_some _ (Heap.get?_push_of_some _ e)) ⟨_, Heap.get?_push_size _ rfl, rfl⟩
end
section
variable {prog : Program} {w : World} {A : Around} {E : Value → Shared → Prop} {s : Shared} {z TI TO i1 i2 : Addr} {fp1 fp2 : List Addr} {n1 n2 i : Nat} {P1 P2 : Nat → Value → Prop} {St1 St2 : Nat → Heap → Prop} {a1 a2 : Value}
theorem zS_next_item {Q : Value → Shared → Prop} (S : ZipSep2 z TI TO i1 i2 fp1 fp2) (D1 : Draws prog w A i1 fp1 n1 P1 St1) (D2 : Draws prog w A i2 fp2 n2 P2 St2)
    (hz : IsZipS s.heap z TI TO .none) (hTI : IsTupOf2 s.heap TI (.ref i1) (.ref i2)) (hTO : IsTupOf2 s.heap TO a1 a2) (st1 : St1 i s.heap) (st2 : St2 i s.heap) (hlt1 : i < n1) (hlt2 : i < n2)
    (hQ : ∀ x1 x2 h' tk, P1 i x1 → P2 i x2 → IsZipS h' z TI TO (rawInt s.heap.objs.size) → IsTupOf2 h' TO x1 x2 → St1 (i + 1) h' → St2 (i + 1) h' → IsTupOf2 h' s.heap.objs.size x1 x2 → h'.objs.size = s.heap.objs.size + 1 →
      (∀ c o, c ≠ z → c ≠ TO → c ≠ i1 → c ≠ i2 → s.heap.get? c = some o → h'.get? c = some o) → Q (.ref s.heap.objs.size) { s with heap := h', toks := tk }) :
    wpAny (model prog w) A (Builtin.«zip.__next__» ⟨[.ref z], []⟩) (fun fin s' => ∃ v, fin = .done (.ret v) ∧ Q v s') E s := by
  obtain ⟨hp, g, d, tk0, os⟩ := s
  show wpAny _ _ (field (.ref z) 2 >>= _) _ _ _
  refine wpAny_bind (wpAny_field hz rfl (x := .bool true) rfl ?_)
  show wpAny _ _ (field (.ref z) 3 >>= _) _ _ _
  refine wpAny_bind (wpAny_field hz rfl (x := .ref TI) rfl ?_)
  refine wpAny_bind (wpAny_seqItems hTI rfl ?_)
  show wpAny _ _ (Builtin.SmallTypes.ownedTupleIsFree (.ref z) >>= _) _ _ _
  refine wpAny_bind ?_
  unfold Builtin.SmallTypes.ownedTupleIsFree
  refine wpAny_bind (wpAny_field hz rfl (x := .none) rfl (wpAny_pure ?_))
  simp only [if_true]
  refine wpAny_bind (wpAny_rule ?_)
  refine wpAny_bind (wpAny_field hz rfl (x := .ref TO) rfl ?_)
  refine wpAny_bind (wpAny_setField_rec hz (by simp) fun g0 hz0 hs0 => ?_)
  replace hz0 : IsZipS g0 z TI TO .ellipsis := hz0
  replace hs0 : Heap.SameBut z hp g0 := hs0
  refine wpAny_bind ?_
  simp only [List.zipIdx_cons, List.zipIdx_nil, List.forIn_cons, List.forIn_nil]
  refine wpAny_bind (wpAny_bind (wpAny_onRaise ?_))
  show wpAny _ _ (Builtin.SmallTypes.nextOrEnd (.ref i1)) _ _ ⟨g0, g, d, tk0, os⟩
  refine orEnd_item (s := ⟨g0, g, d, tk0, os⟩) D1 hlt1 (D1.over st1 hs0 S.zf1) fun x1 p1 tk1 hx1 sn1 hp1 => ?_
  replace hp1 : Heap.SameBut i1 g0 p1 := hp1
  have hU1 : IsTupOf2 p1 TO a1 a2 := hp1.extBut _ _ S.Ti1 (hs0.extBut _ _ S.TOz hTO)
  refine wpAny_bind (wpAny_seqItems (s := ⟨p1, g, d, tk1, os⟩) hU1 rfl ?_)
  refine wpAny_bind (updateSeq_IsTupOf2 (s := ⟨p1, g, d, tk1, os⟩) hU1 fun g1 hT1 hs1 => ?_)
  replace hT1 : IsTupOf2 g1 TO x1 a2 := hT1
  replace hs1 : Heap.SameBut TO p1 g1 := hs1
  refine wpAny_bind (wpAny_letGo (wpAny_pure ?_))
  refine wpAny_bind (wpAny_bind (wpAny_onRaise ?_))
  show wpAny _ _ (Builtin.SmallTypes.nextOrEnd (.ref i2)) _ _ ⟨g1, g, d, tk1, os⟩
  refine orEnd_item (s := ⟨g1, g, d, tk1, os⟩) D2 hlt2 (D2.over (D2.over (D2.over st2 hs0 S.zf2) hp1 S.sep1_2) hs1 S.Tf2) fun x2 p2 tk2 hx2 sn2 hp2 => ?_
  replace hp2 : Heap.SameBut i2 g1 p2 := hp2
  have hU2 : IsTupOf2 p2 TO x1 a2 := hp2.extBut _ _ S.Ti2 hT1
  refine wpAny_bind (wpAny_seqItems (s := ⟨p2, g, d, tk2, os⟩) hU2 rfl ?_)
  refine wpAny_bind (updateSeq_IsTupOf2 (s := ⟨p2, g, d, tk2, os⟩) hU2 fun g2 hT2 hs2 => ?_)
  replace hT2 : IsTupOf2 g2 TO x1 x2 := hT2
  replace hs2 : Heap.SameBut TO p2 g2 := hs2
  refine wpAny_bind (wpAny_letGo (wpAny_pure (wpAny_pure ?_)))
  refine wpAny_bind (wpAny_seqItems (s := ⟨g2, g, d, tk2, os⟩) hT2 rfl ?_)
  refine wpAny_bind (wpAny_newTuple ?_)
  have hsz : g2.objs.size = hp.objs.size := by rw [hs2.1, hp2.1, hs1.1, hp1.1, hs0.1]
  have hzz : IsZipS g2 z TI TO .ellipsis := (hs2.extBut _ _ S.TOz.symm (hp2.extBut _ _ S.zi2 (hs1.extBut _ _ S.TOz.symm (hp1.extBut _ _ S.zi1 hz0))))
  have hkk : ∀ c o, c ≠ z → c ≠ TO → c ≠ i1 → c ≠ i2 → hp.get? c = some o → g2.get? c = some o := fun c o cz cT c1 c2 e =>
    (hs2.extBut _ _ cT (hp2.extBut _ _ c2 (hs1.extBut _ _ cT (hp1.extBut _ _ c1 (hs0.extBut _ _ cz e)))))
  have hj1 : St1 (i + 1) g2 := (D1.over (D1.over (D1.over sn1 hs1 S.Tf1) hp2 S.sep2_1) hs2 S.Tf1)
  have hj2 : St2 (i + 1) g2 := (D2.over sn2 hs2 S.Tf2)
  have hzlt : z < g2.objs.size := Heap.lt_size hzz
  show wpAny _ _ (Builtin.SmallTypes.ownedTupleHandOut (.ref z) (.ref g2.objs.size) >>= _) _ _ ⟨g2.push { cls := .type "tuple", data := .seq #[x1, x2] }, g, d, tk2, os⟩
  refine wpAny_bind ?_
  unfold Builtin.SmallTypes.ownedTupleHandOut
  have hz₆ : IsZipS (g2.push { cls := .type "tuple", data := .seq #[x1, x2] }) z TI TO .ellipsis := Heap.get?_push_of_some _ hzz
  refine wpAny_bind (wpAny_setField_rec hz₆ (by simp) fun h₇ hz₇ hs₇ => ?_)
  replace hz₇ : IsZipS h₇ z TI TO (rawInt g2.objs.size) := hz₇
  refine wpAny_setField_rec hz₇ (by simp) fun h₈ hz₈ hs₈ => ?_
  replace hz₈ : IsZipS h₈ z TI TO (rawInt g2.objs.size) := hz₈
  replace hs₇ : Heap.SameBut z (g2.push { cls := .type "tuple", data := .seq #[x1, x2] }) h₇ := hs₇
  replace hs₈ : Heap.SameBut z h₇ h₈ := hs₈
  have up : ∀ c o, c ≠ z → g2.get? c = some o → h₈.get? c = some o := fun c o c1 e => hs₈.extBut _ _ c1 (hs₇.extBut _ _ c1 (Heap.get?_push_of_some _ e))
  have hT₈ : IsTupOf2 h₈ g2.objs.size x1 x2 := hs₈.extBut _ _ (Nat.ne_of_gt hzlt) (hs₇.extBut _ _ (Nat.ne_of_gt hzlt) (Heap.get?_push_size _ rfl))
  have hz8 : h₈.objs.size = g2.objs.size + 1 := by rw [hs₈.1, hs₇.1, Heap.size_push]
  rw [hsz] at hz₈ hT₈ hz8
  refine wpAny_pure ⟨_, rfl, ?_⟩
  show Q (.ref g2.objs.size) ⟨h₈, g, d, tk2, os⟩
  rw [hsz]
  exact hQ x1 x2 h₈ tk2 hx1 hx2 hz₈ (up _ _ S.TOz hT2) (D1.frame _ _ _ hj1 fun b hb o e => up b o (fun q => S.zf1 (q ▸ hb)) e) (D2.frame _ _ _ hj2 fun b hb o e => up b o (fun q => S.zf2 (q ▸ hb)) e) hT₈ hz8 fun c o cz cT c1 c2 e => up c o cz (hkk c o cz cT c1 c2 e)

theorem zS_next_end {Q : Fin → Shared → Prop} (hh : A.handled = none) (S : ZipSep2 z TI TO i1 i2 fp1 fp2) (D1 : Draws prog w A i1 fp1 n1 P1 St1) (D2 : Draws prog w A i2 fp2 n2 P2 St2)
    (hz : IsZipS s.heap z TI TO .none) (hTI : IsTupOf2 s.heap TI (.ref i1) (.ref i2)) (hTO : IsTupOf2 s.heap TO a1 a2) (st1 : St1 n1 s.heap) (st2 : St2 n2 s.heap)
    (hE : ∀ h' tk e, (∀ c o, c ≠ z → c ≠ TO → c ≠ i1 → c ≠ i2 → s.heap.get? c = some o → h'.get? c = some o) → (∃ o, h'.get? e = some o ∧ o.cls = .type "StopIteration") → E (.ref e) { s with heap := h', toks := tk }) :
    wpAny (model prog w) A (Builtin.«zip.__next__» ⟨[.ref z], []⟩) Q E s := by
  obtain ⟨hp, g, d, tk0, os⟩ := s
  show wpAny _ _ (field (.ref z) 2 >>= _) _ _ _
  refine wpAny_bind (wpAny_field hz rfl (x := .bool true) rfl ?_)
  show wpAny _ _ (field (.ref z) 3 >>= _) _ _ _
  refine wpAny_bind (wpAny_field hz rfl (x := .ref TI) rfl ?_)
  refine wpAny_bind (wpAny_seqItems hTI rfl ?_)
  show wpAny _ _ (Builtin.SmallTypes.ownedTupleIsFree (.ref z) >>= _) _ _ _
  refine wpAny_bind ?_
  unfold Builtin.SmallTypes.ownedTupleIsFree
  refine wpAny_bind (wpAny_field hz rfl (x := .none) rfl (wpAny_pure ?_))
  simp only [if_true]
  refine wpAny_bind (wpAny_rule ?_)
  refine wpAny_bind (wpAny_field hz rfl (x := .ref TO) rfl ?_)
  refine wpAny_bind (wpAny_setField_rec hz (by simp) fun g0 hz0 hs0 => ?_)
  replace hz0 : IsZipS g0 z TI TO .ellipsis := hz0
  replace hs0 : Heap.SameBut z hp g0 := hs0
  refine wpAny_bind ?_
  simp only [List.zipIdx_cons, List.zipIdx_nil, List.forIn_cons, List.forIn_nil]
  refine wpAny_bind (wpAny_bind (wpAny_onRaise ?_))
  show wpAny _ _ (Builtin.SmallTypes.nextOrEnd (.ref i1)) _ _ ⟨g0, g, d, tk0, os⟩
  refine orEnd_done (s := ⟨g0, g, d, tk0, os⟩) D1 (D1.over st1 hs0 S.zf1) fun p1 hp1 => ?_
  replace hp1 : Heap.ExtBut i1 g0 p1 := hp1
  have hz1 : IsZipS p1 z TI TO .ellipsis := hp1 _ _ S.zi1 hz0
  refine wpAny_bind (wpAny_setField_rec (s := ⟨p1, g, d, tk0, os⟩) hz1 (by simp) fun g1 hz1' hs1 => ?_)
  replace hs1 : Heap.SameBut z p1 g1 := hs1
  refine wpAny_bind ?_
  show wpAny _ _ (((Builtin.SmallTypes.nextOrEnd (.ref i2) >>= _) >>= _) >>= _) _ _ ⟨g1, g, d, tk0, os⟩
  have st2' : St2 n2 g1 := D2.over (D2.frame _ _ _ (D2.over st2 hs0 S.zf2) fun b hb o e => hp1 b o (fun q => S.sep1_2 (q ▸ hb)) e) hs1 S.zf2
  refine wpAny_bind (wpAny_bind (wpAny_bind (orEnd_done (s := ⟨g1, g, d, tk0, os⟩) D2 st2' fun p2 hp2 => ?_)))
  replace hp2 : Heap.ExtBut i2 g1 p2 := hp2
  simp only [Option.isSome_none, Bool.false_eq_true, if_false]
  refine wpAny_pure (wpAny_pure (wpAny_bind (wpAny_rule ?_)))
  refine stop_raises hh fun h' e hk he => ?_
  exact hE h' tk0 e (fun c o cz cT c1 c2 x => hk _ _ (hp2 _ _ c2 (hs1.extBut _ _ cz (hp1 _ _ c1 (hs0.extBut _ _ cz x))))) he

theorem pyNext_zS_item {Q : Option Value → Shared → Prop} (S : ZipSep2 z TI TO i1 i2 fp1 fp2) (D1 : Draws prog w A.in1 i1 fp1 n1 P1 St1) (D2 : Draws prog w A.in1 i2 fp2 n2 P2 St2)
    (hz : IsZipS s.heap z TI TO .none) (hTI : IsTupOf2 s.heap TI (.ref i1) (.ref i2)) (hTO : IsTupOf2 s.heap TO a1 a2) (st1 : St1 i s.heap) (st2 : St2 i s.heap) (hlt1 : i < n1) (hlt2 : i < n2)
    (hQ : ∀ x1 x2 h' tk, P1 i x1 → P2 i x2 → IsZipS h' z TI TO (rawInt s.heap.objs.size) → IsTupOf2 h' TO x1 x2 → St1 (i + 1) h' → St2 (i + 1) h' → IsTupOf2 h' s.heap.objs.size x1 x2 → h'.objs.size = s.heap.objs.size + 1 →
      (∀ c o, c ≠ z → c ≠ TO → c ≠ i1 → c ≠ i2 → s.heap.get? c = some o → h'.get? c = some o) → Q (some (.ref s.heap.objs.size)) { s with heap := h', toks := tk }) :
    wpAny (model prog w) A (pyNext (.ref z)) Q E s := by
  have hT : s.TypeIs (.ref z) "zip" := ⟨_, hz, rfl⟩
  unfold pyNext
  exact wpAny_bind (wpAny_attempt (wpAny_callSpecial?_slot (name := Str.ofString "__next__") hT F.slot_zip_next
    (wpAny_call_entry F.slot_zip_next hT F.entry_zip_next
      (zS_next_item S D1 D2 hz hTI hTO st1 st2 hlt1 hlt2 fun x1 x2 h' tk y1 y2 b1 b2 d1 d2 b5 b6 b7 => wpAny_pure (hQ x1 x2 h' tk y1 y2 b1 b2 d1 d2 b5 b6 b7)) (F.args_zip_next_1 _))))
theorem pyNext_zS_end {Q : Option Value → Shared → Prop} (hh : A.in1.handled = none) (S : ZipSep2 z TI TO i1 i2 fp1 fp2) (D1 : Draws prog w A.in1 i1 fp1 n1 P1 St1) (D2 : Draws prog w A.in1 i2 fp2 n2 P2 St2)
    (hz : IsZipS s.heap z TI TO .none) (hTI : IsTupOf2 s.heap TI (.ref i1) (.ref i2)) (hTO : IsTupOf2 s.heap TO a1 a2) (st1 : St1 n1 s.heap) (st2 : St2 n2 s.heap)
    (hQ : ∀ h' tk, (∀ c o, c ≠ z → c ≠ TO → c ≠ i1 → c ≠ i2 → s.heap.get? c = some o → h'.get? c = some o) → Q none { s with heap := h', toks := tk }) : wpAny (model prog w) A (pyNext (.ref z)) Q E s := by
  have hT : s.TypeIs (.ref z) "zip" := ⟨_, hz, rfl⟩
  unfold pyNext
  refine wpAny_bind (wpAny_attempt (wpAny_callSpecial?_slot (name := Str.ofString "__next__") hT F.slot_zip_next
    (wpAny_call_entry F.slot_zip_next hT F.entry_zip_next (zS_next_end hh S D1 D2 hz hTI hTO st1 st2 fun h' tk e hk he => ?_) (F.args_zip_next_1 _))))
  obtain ⟨o, ho, hc⟩ := he
  refine wpAny_bind (wpAny_isInstance (T := "StopIteration") (b := true) ⟨o, ho, hc⟩ isSubtype_stop ?_)
  exact wpAny_pure (hQ _ _ hk)
theorem letGo_zS {elts : List Expr} {x1} {pos : Pos} {z TI TO T : Addr} {Q : Unit → Shared → Prop} (hz : IsZipS s.heap z TI TO (rawInt T))
    (hQ : ∀ h', IsZipS h' z TI TO .none → Heap.SameBut z s.heap h' → Q () { s with heap := h' }) :
    wpAny (model prog w) A (letOwnedTupleGo (.Tuple elts x1 pos) (.ref z) (.ref T)) Q E s := by
  unfold letOwnedTupleGo
  refine wpAny_bind (wpAny_load hz ?_)
  show wpAny _ _ (if (["enumerate", "zip", "dict_itemiterator", "dict_reverseitemiterator", "odict_iterator", "itertools.zip_longest", "itertools.pairwise"].contains "zip" &&
      (#[rawInt T, .bool false, .bool true, .ref TI, .ref TO] : Array Value)[0]? == some (rawInt T)) = true then _ else _) Q E s
  rw [if_pos (by simp)]
  refine wpAny_bind (wpAny_rule ?_)
  show wpAny _ _ (setField (.ref z) 0 .none) Q E s
  exact wpAny_setField_rec hz (by simp) fun h' hz' hs' => hQ h' hz' hs'
theorem pyIter_zS {z TI TO : Addr} {f0 : Value} {Q : Value → Shared → Prop} (hz : IsZipS s.heap z TI TO f0) (h : Q (.ref z) s) : wpAny (model prog w) A (pyIter (.ref z)) Q E s := by
  have hT : s.TypeIs (.ref z) "zip" := ⟨_, hz, rfl⟩
  refine wpAny_pyIter_slot hT F.slot_zip_iter (wpAny_call_entry F.slot_zip_iter hT F.entry_zip_iter ?_ (F.args_zip_iter_1 _))
  show wpAny _ _ (ret (.ref z)) _ _ s
  exact wpAny_pure ⟨_, rfl, "zip", _, hT, F.slot_zip_next.lookup, h⟩
end

/-! ### zip(v1, v2, strict=True) begins -/
theorem typeCall_zS (a b : Value) : checkTypeCall "zip" ⟨[a, b], [(Str.ofString "strict", .bool true)]⟩ = pure () := by kernel_rfl
theorem newCall_zS (a b : Value) : checkBuiltinCall "zip.__new__" ⟨[.type "zip", a, b], [(Str.ofString "strict", .bool true)]⟩ = pure () := by kernel_rfl
theorem args_object_init_zS (obj a b : Value) : argsOk "object.__init__" ⟨[obj, a, b], [(Str.ofString "strict", .bool true)]⟩ := by unfold argsOk; kernel_rfl
abbrev zsZ (h : Heap) (o1 o2 : Obj) : Heap := (gzO2 h o1 o2).push { cls := .type "zip", data := .fields #[.none, .bool false, .bool true, .ref ((h.push o1).push o2).objs.size, .ref (gzT2 h o1 o2).objs.size] }
theorem meets_zS {v1 v2 : Value} {o1 o2 : Obj} {H1 H2 : Heap → Prop} (B1 : Begins v1 o1 H1) (B2 : Begins v2 o2 H2) :
    Meets (Builtin.«zip.__new__» ⟨[.type "zip", v1, v2], [(Str.ofString "strict", .bool true)]⟩) (fun _ R s => (H1 s.heap ∧ H2 s.heap) ∧
      R (.ok (.ret (.ref (gzO2 s.heap o1 o2).objs.size))) { s with heap := zsZ s.heap o1 o2 }) :=
  .of_wp fun prog w A R s h => by
    obtain ⟨hp, g, d, tk, os⟩ := s; obtain ⟨⟨h1, h2⟩, h⟩ := h
    have hsub := sub_zip
    have e1 : (Str.ofString "strict" == ("strict" : Str)) = true := by decide +kernel
    have e2 : (Str.ofString "strict" != ("strict" : Str)) = false := by decide +kernel
    have q1 : ∀ {A' : Around} {E : Value → Shared → Prop} {Q : Value → Shared → Prop}, Q (.ref hp.objs.size) ⟨(hp.push o1), g, d, tk, os⟩ → wpAny (model prog w) A' (pyIter v1) Q E ⟨hp, g, d, tk, os⟩ :=
      fun q => B1.iter prog w _ _ ⟨hp, g, d, tk, os⟩ _ (B1.keeps _ _ h1 fun b o' e => e) q
    have q2 : ∀ {A' : Around} {E : Value → Shared → Prop} {Q : Value → Shared → Prop}, Q (.ref (hp.push o1).objs.size) ⟨((hp.push o1).push o2), g, d, tk, os⟩ → wpAny (model prog w) A' (pyIter v2) Q E ⟨(hp.push o1), g, d, tk, os⟩ :=
      fun q => B2.iter prog w _ _ ⟨(hp.push o1), g, d, tk, os⟩ _ (B2.keeps _ _ h2 fun b o' e => (Heap.get?_push_of_some _ e)) q
    wp_walk using q1, q2
    exact ⟨_, rfl, h⟩
end DZ
namespace DL
open PySem PySem.Spec PyProof.Rows L2 DZ
/-! ### zip of lists and tuples, in any mix, strict or not -/
def IterAt (b : Bool) (h : Heap) (it a : Addr) (i : Nat) : Prop := match b with | true => h.IsTupleIter it a i | false => h.IsListIter it a i
def SrcAt (b : Bool) (h : Heap) (a : Addr) (items : Array Value) : Prop := match b with | true => h.IsTuple a items | false => h.IsList a items
def iterOf (b : Bool) (a : Addr) : Obj := match b with | true => { cls := .type "tuple_iterator", data := .fields #[.ref a, .int 0 0] } | false => { cls := .type "list_iterator", data := .fields #[.ref a, .int 0 0] }
abbrev ZipAt (st : Bool) (h : Heap) (z TI TO : Addr) (f0 : Value) : Prop :=
  h.get? z = some { cls := .type "zip", dict := none, data := .fields #[f0, .bool false, .bool st, .ref TI, .ref TO], slots := #[] }
theorem draws_src {prog : Program} {w : World} {A : Around} (hh : A.handled = none) (b : Bool) (it a : Addr) (hne : a ≠ it) (items : Array Value) :
    Draws prog w A it [it, a] items.size (fun i v => items[i]? = some v) (fun i h => IterAt b h it a i ∧ SrcAt b h a items) := by
  cases b
  · exact .list hh it a hne items
  · exact .tuple hh it a hne items
theorem begins_src (b : Bool) (a : Addr) (items : Array Value) : Begins (.ref a) (iterOf b a) fun h => SrcAt b h a items := by
  cases b
  · exact begins_list a items
  · exact begins_tuple a items
theorem iterAt_new {b : Bool} {h : Heap} {it a : Addr} (e : h.get? it = some (iterOf b a)) : IterAt b h it a 0 := by
  cases b
  · exact ⟨_, e, rfl, rfl⟩
  · exact ⟨_, e, rfl, rfl⟩
theorem IterAt.live {b : Bool} {h : Heap} {it a : Addr} {i : Nat} (e : IterAt b h it a i) : ∃ o, h.get? it = some o := by
  cases b
  · obtain ⟨o, e, _⟩ := e; exact ⟨o, e⟩
  · obtain ⟨o, e, _⟩ := e; exact ⟨o, e⟩
theorem IterAt.at {b : Bool} {h h' : Heap} {it a : Addr} {i : Nat} (e : IterAt b h it a i) (k : ∀ o, h.get? it = some o → h'.get? it = some o) : IterAt b h' it a i := by
  cases b
  · exact Heap.IsListIter.at e k
  · exact Heap.IsTupleIter.at e k
theorem inv_src {X : Cx} {pins : List (Addr × Obj)} {σ : L2.St} {H : Hp} {s : Shared} {b : Bool} {a : Addr} {xs : List V} (I : Inv X pins σ H s) (h : Sq b X.K H a xs) : ∃ its : List Value, Vals xs its ∧ SrcAt b s.heap a its.toArray := by
  cases b
  · obtain ⟨its, rv, p, _⟩ := I.list h
    exact ⟨its, rv, p.isList⟩
  · obtain ⟨its, rv, p, _⟩ := I.tuple h
    exact ⟨its, rv, p⟩
theorem inv_src_inj {X : Cx} {pins : List (Addr × Obj)} {σ : L2.St} {H : Hp} {s : Shared} {b : Bool} {a : Addr} {xs ys : List V} (I : Inv X pins σ H s) (h : Sq b X.K H a xs) (h' : Sq b X.K H a ys) : xs = ys := by
  cases b
  · exact I.list_inj h h'
  · exact I.tuple_inj h h'
theorem SrcAt.lt {b : Bool} {h : Heap} {a : Addr} {its : Array Value} (p : SrcAt b h a its) : a < h.objs.size := by
  cases b
  · obtain ⟨o, e, _⟩ := p; exact Heap.lt_size e
  · obtain ⟨o, e, _⟩ := p; exact Heap.lt_size e
theorem zipSep {z TI TO i1 i2 a b : Addr} (D : ZipApart z TI TO i1 i2 a b) : ZipSep2 z TI TO i1 i2 [i1, a] [i2, b] where
  TIz := D.TIz
  TOz := D.TOz
  TITO := D.TITO
  TIi1 := D.TIi1
  mem1 := by simp
  zf1 := by simp [D.i1z.symm, D.l1z.symm]
  Tf1 := by simp [D.TOi1, D.l1TO.symm]
  TIi2 := D.TIi2
  mem2 := by simp
  zf2 := by simp [D.i2z.symm, D.l2z.symm]
  Tf2 := by simp [D.TOi2, D.l2TO.symm]
  sep1_2 := by simp [D.i12, D.l2i1.symm]
  sep2_1 := by simp [D.i12.symm, D.l1i2.symm]
section
variable {prog : Program} {w : World} {A : Around} {E : Value → Shared → Prop} {s : Shared} {z TI TO i1 i2 : Addr} {fp1 fp2 : List Addr} {n1 n2 i : Nat} {P1 P2 : Nat → Value → Prop} {St1 St2 : Nat → Heap → Prop} {a1 a2 : Value}
theorem pyNext_zA_item (st : Bool) {Q : Option Value → Shared → Prop} (S : ZipSep2 z TI TO i1 i2 fp1 fp2) (D1 : Draws prog w A.in1 i1 fp1 n1 P1 St1) (D2 : Draws prog w A.in1 i2 fp2 n2 P2 St2)
    (hz : ZipAt st s.heap z TI TO .none) (hTI : IsTupOf2 s.heap TI (.ref i1) (.ref i2)) (hTO : IsTupOf2 s.heap TO a1 a2) (st1 : St1 i s.heap) (st2 : St2 i s.heap) (hlt1 : i < n1) (hlt2 : i < n2)
    (hQ : ∀ x1 x2 h' tk, P1 i x1 → P2 i x2 → ZipAt st h' z TI TO (rawInt s.heap.objs.size) → IsTupOf2 h' TO x1 x2 → St1 (i + 1) h' → St2 (i + 1) h' → IsTupOf2 h' s.heap.objs.size x1 x2 → h'.objs.size = s.heap.objs.size + 1 →
      (∀ c o, c ≠ z → c ≠ TO → c ≠ i1 → c ≠ i2 → s.heap.get? c = some o → h'.get? c = some o) → Q (some (.ref s.heap.objs.size)) { s with heap := h', toks := tk }) :
    wpAny (model prog w) A (pyNext (.ref z)) Q E s := by
  cases st
  · exact wpAny_pyNext_zipD2_item S D1 D2 hz hTI hTO st1 st2 hlt1 hlt2 hQ
  · exact pyNext_zS_item S D1 D2 hz hTI hTO st1 st2 hlt1 hlt2 hQ
theorem pyNext_zA_end (st : Bool) {Q : Option Value → Shared → Prop} (hh : A.in1.handled = none) (S : ZipSep2 z TI TO i1 i2 fp1 fp2) (D1 : Draws prog w A.in1 i1 fp1 n1 P1 St1) (D2 : Draws prog w A.in1 i2 fp2 n2 P2 St2)
    (hz : ZipAt st s.heap z TI TO .none) (hTI : IsTupOf2 s.heap TI (.ref i1) (.ref i2)) (hTO : IsTupOf2 s.heap TO a1 a2) (st1 : St1 i s.heap) (st2 : St2 i s.heap) (hle1 : i ≤ n1) (hle2 : i ≤ n2) (hend : i = n1 ∨ i = n2) (hst : st = true → i = n1 ∧ i = n2)
    (hQ : ∀ h' tk, (∀ c o, c ≠ z → c ≠ TO → c ≠ i1 → c ≠ i2 → s.heap.get? c = some o → h'.get? c = some o) → Q none { s with heap := h', toks := tk }) : wpAny (model prog w) A (pyNext (.ref z)) Q E s := by
  cases st
  · exact wpAny_pyNext_zipD2_end S D1 D2 hz hTI hTO st1 st2 hle1 hle2 hend hQ
  · obtain ⟨e1, e2⟩ := hst rfl
    exact pyNext_zS_end hh S D1 D2 hz hTI hTO (e1 ▸ st1) (e2 ▸ st2) hQ
theorem letGo_zA (st : Bool) {elts : List Expr} {x1} {pos : Pos} {z TI TO T : Addr} {Q : Unit → Shared → Prop} (hz : ZipAt st s.heap z TI TO (rawInt T))
    (hQ : ∀ h', ZipAt st h' z TI TO .none → Heap.SameBut z s.heap h' → Q () { s with heap := h' }) :
    wpAny (model prog w) A (letOwnedTupleGo (.Tuple elts x1 pos) (.ref z) (.ref T)) Q E s := by
  cases st
  · exact wpAny_letOwnedTupleGo_zip hz hQ
  · exact letGo_zS hz hQ
theorem pyIter_zA (st : Bool) {z TI TO : Addr} {f0 : Value} {Q : Value → Shared → Prop} (hz : ZipAt st s.heap z TI TO f0) (h : Q (.ref z) s) : wpAny (model prog w) A (pyIter (.ref z)) Q E s := by
  cases st
  · exact wpAny_pyIter_zip hz h
  · exact pyIter_zS hz h
end
/-- the lists and tuples at a and b as they stand at each turn, the items in new pairs -/
def ItZ (st b1 b2 : Bool) (K : PySem.W.Frag) (a b : Addr) : It :=
  ⟨fun i H => ∃ (xs ys : List V) (x y : V), Sq b1 K H a xs ∧ Sq b2 K H b ys ∧ xs[i]? = some x ∧ ys[i]? = some y,
    fun i H v H' => ∃ T x y, v = .ref T ∧ H T = none ∧ H' = upd H T (.tup [x, y]) ∧ (∀ xs, Sq b1 K H a xs → xs[i]? = some x) ∧ ∀ ys, Sq b2 K H b ys → ys[i]? = some y,
    fun i H => ∃ xs ys : List V, Sq b1 K H a xs ∧ Sq b2 K H b ys ∧ i ≤ xs.length ∧ i ≤ ys.length ∧ (i = xs.length ∨ i = ys.length) ∧ (st = true → i = xs.length ∧ i = ys.length)⟩
theorem turn_zA {st b1 b2 : Bool} {P : Program} {w : World} {K : PySem.W.Frag} {elts : List Expr} {kk : Nat} {tpos : Pos} {a b z TI TO i1 i2 : Addr} (D : ZipApart z TI TO i1 i2 a b) :
    Turn P w K (.Tuple elts kk tpos) (ItZ st b1 b2 K a b) [z, TI, TO, i1, i2] z (fun i h => ZipAt st h z TI TO .none ∧ IsPair h TI (.ref i1) (.ref i2) ∧ (∃ x y, IsPair h TO x y) ∧ IterAt b1 h i1 a i ∧ IterAt b2 h i2 b i) where
  mem := by simp
  obj := fun i h st c hc => by
    obtain ⟨hz, hTI, ⟨x, y, hTO⟩, h1, h2⟩ := st
    have e' : c = z ∨ c = TI ∨ c = TO ∨ c = i1 ∨ c = i2 := by simpa using hc
    rcases e' with q | q | q | q | q
    · rw [q]; exact ⟨_, hz, fun v q => nomatch q⟩
    · rw [q]; exact ⟨_, hTI, fun v q => nomatch q⟩
    · rw [q]; exact ⟨_, hTO, fun v q => nomatch q⟩
    · rw [q]
      cases b1
      · obtain ⟨o1, e1, _, d1⟩ := h1
        exact ⟨o1, e1, fun v q => by rw [d1] at q; cases q⟩
      · obtain ⟨o1, e1, _, d1⟩ := h1
        exact ⟨o1, e1, fun v q => by rw [d1] at q; cases q⟩
    · rw [q]
      cases b2
      · obtain ⟨o1, e1, _, d1⟩ := h2
        exact ⟨o1, e1, fun v q => by rw [d1] at q; cases q⟩
      · obtain ⟨o1, e1, _, d1⟩ := h2
        exact ⟨o1, e1, fun v q => by rw [d1] at q; cases q⟩
  keep := fun i h h' st k => by
    obtain ⟨hz, hTI, ⟨x, y, hTO⟩, h1, h2⟩ := st
    exact ⟨k z (by simp) _ hz, k TI (by simp) _ hTI, ⟨x, y, k TO (by simp) _ hTO⟩, h1.at fun o q => k i1 (by simp) o q, h2.at fun o q => k i2 (by simp) o q⟩
  item := by
    intro X hP hw hK hc i pins s σ H E I hf hst hg
    subst hP hw hK
    have hh1 : X.A.in1.handled = none := I.ok.hd hc
    obtain ⟨hz, hTI, ⟨x0, y0, hTO⟩, h1, h2⟩ := hst
    obtain ⟨xs, ys, x, y, hqx, hqy, hx, hy⟩ := hg
    obtain ⟨its, rv, p⟩ := inv_src I hqx
    obtain ⟨its2, rv2, p2⟩ := inv_src I hqy
    obtain ⟨u, hu, ru⟩ := rv.get hx
    obtain ⟨u2, hu2, ru2⟩ := rv2.get hy
    have hzl : z < s.heap.objs.size := Heap.lt_size hz
    have l1 : i < its.toArray.size := by
      have := (List.getElem?_eq_some_iff.mp hu).1
      simpa using this
    have l2 : i < its2.toArray.size := by
      have := (List.getElem?_eq_some_iff.mp hu2).1
      simpa using this
    refine pyNext_zA_item st (zipSep D) (draws_src hh1 b1 i1 a D.l1i1 its.toArray) (draws_src hh1 b2 i2 b D.l2i2 its2.toArray) hz hTI hTO ⟨h1, p⟩ ⟨h2, p2⟩ l1 l2 fun w1 w2 h' tk q1 q2 z' TO' h1' h2' hT hsz hk => ?_
    have ew1 : u = w1 := by rw [List.getElem?_toArray, hu] at q1; exact Option.some.inj q1
    have ew2 : u2 = w2 := by rw [List.getElem?_toArray, hu2] at q2; exact Option.some.inj q2
    subst ew1 ew2
    refine ⟨_, rfl, letGo_zA st (s := { s with heap := h', toks := tk }) z' fun h'' z'' sb => ?_⟩
    have hT2 : h''.get? s.heap.objs.size = some { cls := .type "tuple", data := .seq #[u, u2] } := (sb.2 _ (Nat.ne_of_gt hzl)).trans hT
    have new : ObjOk X.prog X.w (upd H s.heap.objs.size (.tup [x, y])) h'' s.heap.objs.size (.tup [x, y]) :=
      ⟨by show 2 ≤ sizeLine; decide, [u, u2], .cons ru (.cons ru2 .nil), ⟨_, hT2, rfl, _, rfl⟩⟩
    have I1 : Inv X pins σ (upd H s.heap.objs.size (.tup [x, y])) { s with heap := h'', toks := tk } :=
      I.turnedNew (t' := tk) (ch := [z, TI, TO, i1, i2]) (fun c o hb q => (sb.2 c (fun q' => hb (by simp [q']))).trans (hk c o (fun q' => hb (by simp [q'])) (fun q' => hb (by simp [q'])) (fun q' => hb (by simp [q'])) (fun q' => hb (by simp [q'])) q)) hf (Nat.le_refl _) new
    refine ⟨.ref s.heap.objs.size, _, I1, rfl, ⟨_, x, y, rfl, I.hok.fresh (Nat.le_refl _), rfl, fun l hl => by rw [inv_src_inj I hl hqx]; exact hx, fun l hl => by rw [inv_src_inj I hl hqy]; exact hy⟩, ⟨z'', ?_, ⟨u, u2, ?_⟩, ?_, ?_⟩, fun c hcm => ?_⟩
    · exact (sb.2 _ D.TIz).trans (hk _ _ D.TIz D.TITO D.TIi1 D.TIi2 hTI)
    · exact (sb.2 _ D.TOz).trans TO'
    · exact h1'.1.at fun o q => (sb.2 _ D.i1z).trans q
    · exact h2'.1.at fun o q => (sb.2 _ D.i2z).trans q
    · have hlt : c < s.heap.objs.size := by
        have e' : c = z ∨ c = TI ∨ c = TO ∨ c = i1 ∨ c = i2 := by simpa using hcm
        rcases e' with q | q | q | q | q
        · rw [q]; exact hzl
        · rw [q]; exact Heap.lt_size hTI
        · rw [q]; exact Heap.lt_size hTO
        · rw [q]; obtain ⟨_, e1⟩ := h1.live; exact Heap.lt_size e1
        · rw [q]; obtain ⟨_, e2⟩ := h2.live; exact Heap.lt_size e2
      rw [upd_ne (Nat.ne_of_lt hlt)]
      exact (hf c hcm).1
  done := by
    intro X hP hw hK hc i pins s σ H E I hf hst hg
    subst hP hw hK
    have hh1 : X.A.in1.handled = none := I.ok.hd hc
    obtain ⟨hz, hTI, ⟨x0, y0, hTO⟩, h1, h2⟩ := hst
    obtain ⟨xs, ys, hqx, hqy, hle1, hle2, hend, hs⟩ := hg
    obtain ⟨its, rv, p⟩ := inv_src I hqx
    obtain ⟨its2, rv2, p2⟩ := inv_src I hqy
    have l1 := rv.length
    have l2 := rv2.length
    refine pyNext_zA_end st hh1 (zipSep D) (draws_src hh1 b1 i1 a D.l1i1 its.toArray) (draws_src hh1 b2 i2 b D.l2i2 its2.toArray) hz hTI hTO ⟨h1, p⟩ ⟨h2, p2⟩ (by simp; omega) (by simp; omega) (by simp; omega) (fun e => by have := hs e; simp; omega) fun h' tk hk => ⟨rfl, I.turnedL (t' := tk) (ch := [z, TI, TO, i1, i2]) (fun c o hb q =>
      hk c o (fun q' => hb (by simp [q'])) (fun q' => hb (by simp [q'])) (fun q' => hb (by simp [q'])) (fun q' => hb (by simp [q'])) q) hf⟩
  self := fun A i s Q E st' h => pyIter_zA st st'.1 h
end DL
namespace DZ
open PySem PySem.Spec PyProof.Rows L2
section
variable {prog : Program} {w : World} {A : Around} {E : Value → Shared → Prop} {s : Shared}
/-- zip of 2, strict: its 5 new cells -/
theorem zS_begins2 {v1 v2 : Value} {o1 o2 : Obj} {H1 H2 : Heap → Prop} {Q : Value → Shared → Prop} (B1 : Begins v1 o1 H1) (B2 : Begins v2 o2 H2) (h1 : H1 s.heap) (h2 : H2 s.heap)
    (h : ∀ h', IsZipS h' (s.heap.objs.size + 4) (s.heap.objs.size + 2) (s.heap.objs.size + 3) .none → IsTupOf2 h' (s.heap.objs.size + 2) (.ref s.heap.objs.size) (.ref (s.heap.objs.size + 1)) →
      IsTupOf2 h' (s.heap.objs.size + 3) .none .none → h'.get? s.heap.objs.size = some o1 → h'.get? (s.heap.objs.size + 1) = some o2 → h'.objs.size = s.heap.objs.size + 5 →
      (∀ c o, s.heap.get? c = some o → h'.get? c = some o) → Q (.ref (s.heap.objs.size + 4)) { s with heap := h' }) :
    wpAny (model prog w) A (call (.type "zip") [v1, v2] [(Str.ofString "strict", .bool true)]) Q E s := by
  refine callType_newKw F.called_zip (by decide) (typeCall_zS _ _) (newCall_zS _ _) (fun obj => args_object_init_zS obj _ _) F.entry_zip_new
    (meets_zS B1 B2) ⟨⟨h1, h2⟩, ?_⟩
  have z1 : (s.heap.push o1).objs.size = s.heap.objs.size + 1 := by rw [Heap.size_push]
  have z2 : ((s.heap.push o1).push o2).objs.size = s.heap.objs.size + 2 := by rw [Heap.size_push, z1]
  have zT : (gzT2 s.heap o1 o2).objs.size = s.heap.objs.size + 3 := by rw [Heap.size_push, z2]
  have zO : (gzO2 s.heap o1 o2).objs.size = s.heap.objs.size + 4 := by rw [Heap.size_push, zT]
  have zZ : (zsZ s.heap o1 o2).objs.size = s.heap.objs.size + 5 := by rw [Heap.size_push, zO]
  have gZ : (zsZ s.heap o1 o2).get? (gzO2 s.heap o1 o2).objs.size = some { cls := .type "zip", data := .fields #[.none, .bool false, .bool true, .ref ((s.heap.push o1).push o2).objs.size, .ref (gzT2 s.heap o1 o2).objs.size] } := Heap.get?_push_size _ rfl
  have gO : (zsZ s.heap o1 o2).get? (gzT2 s.heap o1 o2).objs.size = some { cls := .type "tuple", data := .seq #[.none, .none] } := Heap.get?_push_of_some _ (Heap.get?_push_size _ rfl)
  have gT : (zsZ s.heap o1 o2).get? ((s.heap.push o1).push o2).objs.size = some { cls := .type "tuple", data := .seq #[.ref s.heap.objs.size, .ref (s.heap.push o1).objs.size] } := Heap.get?_push_of_some _ (Heap.get?_push_of_some _ (Heap.get?_push_size _ rfl))
  have g1 : (zsZ s.heap o1 o2).get? s.heap.objs.size = some o1 := Heap.get?_push_of_some _ (Heap.get?_push_of_some _ (Heap.get?_push_of_some _ (Heap.get?_push_of_some _ (Heap.get?_push_size _ B1.free))))
  have g2 : (zsZ s.heap o1 o2).get? (s.heap.push o1).objs.size = some o2 := Heap.get?_push_of_some _ (Heap.get?_push_of_some _ (Heap.get?_push_of_some _ (Heap.get?_push_size _ B2.free)))
  rw [zO, zT, z2] at gZ
  rw [zT] at gO
  rw [z2, z1] at gT
  rw [z1] at g2
  show _ ∧ _
  rw [zO]
  exact ⟨⟨_, gZ, rfl⟩, h _ gZ gT gO g1 g2 zZ fun c o e => Heap.get?_push_of_some _ (Heap.get?_push_of_some _ (Heap.get?_push_of_some _ (Heap.get?_push_of_some _ (Heap.get?_push_of_some _ e))))⟩
end
section
variable {M : Model} {A : Around} {E : Value → Shared → Prop} {s : Shared} {env : Env}
theorem callWith_type_kw {pos : Pos} {id : String} {e : Expr} {rest : List Expr} {kws : List Keyword} {Q : Value → Shared → Prop}
    (h : wpAny M A (spliced (backTo pos (starEach (e :: rest) env))) (fun vs s₁ => wpAny M A (evalAll ((backToKw pos (keywordEach kws env)).map (·.2)))
      (fun kvs s₂ => wpAny M A (call (.type id) vs (((backToKw pos (keywordEach kws env)).filterMap (·.1)).zip kvs)) Q E s₂) E s₁) E s)
    (he : backTo pos (starEach (e :: rest) env) = (false, eval e env) :: backTo pos (starEach rest env) := by rfl)
    (hplain : (backTo pos (starEach (e :: rest) env)).any (·.1) = false := by rfl)
    (hall : (backToKw pos (keywordEach kws env)).all (·.1.isSome) = true := by rfl)
    (hkw : (backToKw pos (keywordEach kws env)).any (·.1.isNone) = false := by rfl) :
    wpAny M A (callWith pos (.type id) [] (backTo pos (starEach (e :: rest) env)) (backToKw pos (keywordEach kws env))) Q E s := by
  rw [he] at h
  have h2 := evalArgs_kwB (f := .type id) (Q := fun a s₁ => wpAny M A (call (.type id) ([] ++ a.pos) a.kw) Q E s₁) hall h
  rw [← he] at h2
  unfold callWith
  refine wpAny_bind (wpAny_holding (wpAny_mono h2 (fun a s₁ h₁ => wpAny_bind (wpAny_standAt ?_)) fun _ _ x => x))
  simp only [hplain, hkw, Bool.or_false]
  refine wpAny_bind (wpAny_pure ?_)
  exact wpAny_bind (wpAny_mono h₁ (fun r s₂ hr => wpAny_bind (wpAny_holding (wpAny_point (wpAny_pure hr)))) fun _ _ x => x)
end
end DZ
namespace DL
open PySem PySem.Spec PyProof.Rows L2 DZ
def iZA (st : Bool) (K : PySem.W.Frag) (ta : TA) : TI := fun σ H R => ta σ H fun vs H1 => ∃ b1 b2 a b xs ys, vs = [.ref a, .ref b] ∧ Sq b1 K H1 a xs ∧ Sq b2 K H1 b ys ∧ R (ItZ st b1 b2 K a b) H1
section
variable {X : Cx} {e e2 k : Expr} {ta : TA} {p pos tpos kpos : Pos} {elts : List Expr} {kk : Nat}
theorem zA_of {st b1 b2 : Bool} {pins : List (Addr × Obj)} {σ : L2.St} {H1 : Hp} {s1 : Shared} {a b : Addr} {R : It → Hp → Prop} {h' : Heap} {its its2 : Array Value} (I1 : Inv X pins σ H1 s1) (p1 : SrcAt b1 s1.heap a its) (p2 : SrcAt b2 s1.heap b its2) (q : R (ItZ st b1 b2 X.K a b) H1)
    (hz : ZipAt st h' (s1.heap.objs.size + 4) (s1.heap.objs.size + 2) (s1.heap.objs.size + 3) .none) (hTI : IsTupOf2 h' (s1.heap.objs.size + 2) (.ref s1.heap.objs.size) (.ref (s1.heap.objs.size + 1))) (hTO : IsTupOf2 h' (s1.heap.objs.size + 3) .none .none)
    (g1 : h'.get? s1.heap.objs.size = some (iterOf b1 a)) (g2 : h'.get? (s1.heap.objs.size + 1) = some (iterOf b2 b)) (hk : ∀ c o, s1.heap.get? c = some o → h'.get? c = some o) :
    PIE X pins σ (.Tuple elts kk tpos) R (.ref (s1.heap.objs.size + 4)) { s1 with heap := h' } := by
  have I2 : Inv X pins σ H1 { s1 with heap := h' } := I1.kept (t' := s1.toks) hk
  have fresh5 : ∀ c, c ∈ [s1.heap.objs.size + 4, s1.heap.objs.size + 2, s1.heap.objs.size + 3, s1.heap.objs.size, s1.heap.objs.size + 1] → FpOk X pins H1 c := fun c hcm => by
    have e' : c = s1.heap.objs.size + 4 ∨ c = s1.heap.objs.size + 2 ∨ c = s1.heap.objs.size + 3 ∨ c = s1.heap.objs.size ∨ c = s1.heap.objs.size + 1 := by simpa using hcm
    have hle : s1.heap.objs.size ≤ c := by
      rcases e' with z | z | z | z | z
      · rw [z]; exact Nat.le_add_right _ _
      · rw [z]; exact Nat.le_add_right _ _
      · rw [z]; exact Nat.le_add_right _ _
      · rw [z]; exact Nat.le_refl _
      · rw [z]; exact Nat.le_add_right _ _
    exact I1.fpOk hle (I1.hok.fresh hle)
  exact ⟨s1.heap.objs.size + 4, [s1.heap.objs.size + 4, s1.heap.objs.size + 2, s1.heap.objs.size + 3, s1.heap.objs.size, s1.heap.objs.size + 1], _, _, H1, rfl, I2, turn_zA (PySem.W.ktu_apart s1.heap.objs.size a b p1.lt p2.lt), ⟨hz, hTI, ⟨_, _, hTO⟩, iterAt_new g1, iterAt_new g2⟩, fresh5, q⟩
theorem pi_zA0 (hg : Gl X "zip") (hm : X.mg "zip" = none) (ha : PA X [e, e2] ta)
    (hs : starEach [e, e2] X.env = (false, eval e X.env) :: starEach [e2] X.env := by rfl) (hpl : (backTo pos (starEach [e2] X.env)).any (·.1) = false := by rfl) :
    PI X (.Tuple elts kk tpos) (.Call (.Name "zip" p) [e, e2] [] pos) (iZA false X.K ta) := by
  refine ⟨fun pins s σ H R I h => ?_⟩
  refine Call_ (ld_blt I hg hm PyProof.Rows.boot_zip (PyProof.Rows.callWith_type1 (thn (ha.run pos pins s σ H _ I h) fun us s1 ⟨vs, H1, I1, r1, q1⟩ => ?_) hs hpl))
  obtain ⟨b1, b2, a, b, xs, ys, ex, hqx, hqy, q⟩ := q1
  subst ex
  cases r1 with
  | cons r rr =>
    cases rr with
    | cons r' rr =>
      cases rr
      cases r
      cases r'
      obtain ⟨its, rv, p1⟩ := inv_src I1 hqx
      obtain ⟨its2, rv2, p2⟩ := inv_src I1 hqy
      exact zip_begins2 (begins_src b1 a its.toArray) (begins_src b2 b its2.toArray) p1 p2 fun h' hz hTI hTO g1 g2 hsz hk => pyIter_zA false hz (zA_of I1 p1 p2 q hz hTI hTO g1 g2 hk)
theorem pi_zA1 (hg : Gl X "zip") (hm : X.mg "zip" = none) (ha : PA X [e, e2] ta) (ht : ∀ {E : Value → Shared → Prop} {s : Shared} {Q : Value → Shared → Prop}, Q (.bool true) s → wpAny (model X.prog X.w) X.A (eval k X.env) Q E s)
    (hs : starEach [e, e2] X.env = (false, eval e X.env) :: starEach [e2] X.env := by rfl) (hpl : (backTo pos (starEach [e2] X.env)).any (·.1) = false := by rfl) :
    PI X (.Tuple elts kk tpos) (.Call (.Name "zip" p) [e, e2] [⟨some (Str.ofString "strict"), k, kpos⟩] pos) (iZA true X.K ta) := by
  refine ⟨fun pins s σ H R I h => ?_⟩
  refine wpAny_Call_Name_kw (ld_blt I hg hm PyProof.Rows.boot_zip ?_)
  refine callWith_type_kw (thn (ha.run pos pins s σ H _ I h) fun us s1 ⟨vs, H1, I1, r1, q1⟩ => ?_) (by rw [hs]; rfl) (by rw [hs]; show (false || (backTo pos (starEach [e2] X.env)).any (·.1)) = false; rw [hpl]; rfl)
  refine PyProof.Rows.kws_cons (ht (PyProof.Rows.kws_nil ?_))
  obtain ⟨b1, b2, a, b, xs, ys, ex, hqx, hqy, q⟩ := q1
  subst ex
  cases r1 with
  | cons r rr =>
    cases rr with
    | cons r' rr =>
      cases rr
      cases r
      cases r'
      obtain ⟨its, rv, p1⟩ := inv_src I1 hqx
      obtain ⟨its2, rv2, p2⟩ := inv_src I1 hqy
      exact zS_begins2 (begins_src b1 a its.toArray) (begins_src b2 b its2.toArray) p1 p2 fun h' hz hTI hTO g1 g2 hsz hk => pyIter_zA true hz (zA_of I1 p1 p2 q hz hTI hTO g1 g2 hk)
end
section
variable {X : Cx} {e e2 k : Expr} {ta : TA} {p pos tpos kpos : Pos} {elts : List Expr} {kk : Nat}
end
/-! ### the same over data -/
def enumD (k : Int) (ds : List D) : List D := ds.mapIdx fun i d => .tup [.int (k + (i : Int)), d]
def dEnum (a : DA) : DI := fun ρ S P => a ρ S fun xs S1 => match xs with
  | [x] => match seqOf S1 x with
    | some ds => P (enumD 0 ds) (pinOf S1 x) S1
    | none => False
  | _ => False
def dEnum2 (a : DA) : DI := fun ρ S P => a ρ S fun xs S1 => match xs with
  | [x, .int k] => match seqOf S1 x with
    | some ds => (-(2 ^ 63) ≤ k ∧ k < 2 ^ 63) ∧ P (enumD k ds) (pinOf S1 x) S1
    | none => False
  | _ => False
theorem zipD_get {as bs : List D} {i : Nat} {d : D} (h : (zipD as bs)[i]? = some d) : ∃ x y, as[i]? = some x ∧ bs[i]? = some y ∧ d = .tup [x, y] := by
  unfold zipD at h
  rw [List.getElem?_zipWith] at h
  cases e1 : as[i]? with
  | none => simp [e1] at h
  | some x =>
    cases e2 : bs[i]? with
    | none => simp [e1, e2] at h
    | some y =>
      simp only [e1, e2, Option.some.injEq] at h
      exact ⟨x, y, rfl, rfl, h.symm⟩
/-- both stay -/
def pin2 : Option (Store → Prop) → Option (Store → Prop) → Option (Store → Prop)
  | none, q => q
  | p, none => p
  | some p, some q => some fun S => p S ∧ q S
theorem pin2_ok {p q : Option (Store → Prop)} {S : Store} (h : PinOk (pin2 p q) S) : PinOk p S ∧ PinOk q S := by
  cases p with
  | none => exact ⟨trivial, h⟩
  | some p =>
    cases q with
    | none => exact ⟨h, trivial⟩
    | some q => exact h
theorem itz_ok {st : Bool} {K : PySem.W.Frag} {I : Hp} {b1 b2 : Bool} {a b : Addr} {as bs : List D} {p1 p2 : Option (Store → Prop)} (h1 : ∀ I2 S F H, Same I I2 → Ok K I2 S F H → PinOk p1 S → ∃ xs, Sq b1 K H a xs ∧ RepL K I2 as xs) (h2 : ∀ I2 S F H, Same I I2 → Ok K I2 S F H → PinOk p2 S → ∃ ys, Sq b2 K H b ys ∧ RepL K I2 bs ys)
    (hst : st = true → as.length = bs.length) : ItOk K I (ItZ st b1 b2 K a b) (zipD as bs) (pin2 p1 p2) where
  go I2 S F H e ok pk i d hd := by
    obtain ⟨x, y, ex, ey, rfl⟩ := zipD_get hd
    obtain ⟨xs, q1, r1⟩ := h1 I2 S F H e ok (pin2_ok pk).1
    obtain ⟨ys, q2, r2⟩ := h2 I2 S F H e ok (pin2_ok pk).2
    obtain ⟨v, ev, rv⟩ := r1.get ex
    obtain ⟨u, eu, ru⟩ := r2.get ey
    refine ⟨⟨xs, ys, v, u, q1, q2, ev, eu⟩, fun z H' hy => ?_⟩
    obtain ⟨T, x0, y0, rfl, nT, rfl, f1, f2⟩ := hy
    have e1 := f1 xs q1
    have e2 := f2 ys q2
    rw [ev] at e1; rw [eu] at e2
    cases e1; cases e2
    exact ⟨upd I2 T (.tup [v, u]), same_new (ok.freshI nT), ok.newI nT, rep_tup2 (ok.freshI nT) rv ru⟩
  stop I2 S F H e ok pk i hi := by
    obtain ⟨xs, q1, r1⟩ := h1 I2 S F H e ok (pin2_ok pk).1
    obtain ⟨ys, q2, r2⟩ := h2 I2 S F H e ok (pin2_ok pk).2
    have l1 := r1.len
    have l2 := r2.len
    simp only [zipD, List.length_zipWith] at hi
    exact ⟨xs, ys, q1, q2, by omega, by omega, by omega, fun q => by have := hst q; omega⟩
def dZip (a : DA) : DI := fun ρ S P => a ρ S fun xs S1 => match xs with
  | [x, y] => match seqOf S1 x, seqOf S1 y with
    | some as, some bs => P (zipD as bs) (pin2 (pinOf S1 x) (pinOf S1 y)) S1
    | _, _ => False
  | _ => False
def dZipS (a : DA) : DI := fun ρ S P => a ρ S fun xs S1 => match xs with
  | [x, y] => match seqOf S1 x, seqOf S1 y with
    | some as, some bs => as.length = bs.length ∧ P (zipD as bs) (pin2 (pinOf S1 x) (pinOf S1 y)) S1
    | _, _ => False
  | _ => False
section
variable {X : Cx} {e e2 : Expr} {ds : DA} {p pos tpos kpos cpos : Pos} {elts : List Expr} {kk ck : Nat}
theorem ji_zip (hm : X.mg "zip" = none) (ha : JA X [e, e2] ds) (hg : Gl X "zip" := by rfl) (hs : starEach [e, e2] X.env = (false, eval e X.env) :: starEach [e2] X.env := by rfl) (hpl : (backTo pos (starEach [e2] X.env)).any (·.1) = false := by rfl) :
    JI X (.Tuple elts kk tpos) (.Call (.Name "zip" p) [e, e2] [] pos) (dZip ds) :=
  ji_of (pi_zA0 hg hm ha hs hpl) fun σ H R ⟨ρ, I, S, F, P, rs, ok, hh, q⟩ => ⟨ρ, I, S, F, _, rs, ok, hh, fun xs S1 v I1 H1 h1 e1 ok1 r1 => by
    split at h1
    · rename_i x y
      obtain ⟨v, u, rfl, rv, ru⟩ := r1.inv2
      split at h1
      · rename_i as bs e3 e4
        obtain ⟨b1, a, rfl, hs1⟩ := src_sq ok1 rv e3
        obtain ⟨b2, b, rfl, hs2⟩ := src_sq ok1 ru e4
        obtain ⟨xs, q1, _⟩ := hs1 _ _ _ _ (Same.refl _) ok1 (pin_self _ _)
        obtain ⟨ys, q2, _⟩ := hs2 _ _ _ _ (Same.refl _) ok1 (pin_self _ _)
        exact ⟨b1, b2, a, b, xs, ys, rfl, q1, q2, q _ _ _ _ _ _ h1 e1 ok1 (itz_ok hs1 hs2 (fun e => nomatch e))⟩
      · exact h1.elim
    · exact h1.elim⟩
theorem ji_zipS (hm : X.mg "zip" = none) (ha : JA X [e, e2] ds) (hg : Gl X "zip" := by rfl) (hs : starEach [e, e2] X.env = (false, eval e X.env) :: starEach [e2] X.env := by rfl) (hpl : (backTo pos (starEach [e2] X.env)).any (·.1) = false := by rfl) :
    JI X (.Tuple elts kk tpos) (.Call (.Name "zip" p) [e, e2] [⟨some "strict", .Constant (.bool true) ck cpos, kpos⟩] pos) (dZipS ds) :=
  ji_of (pi_zA1 hg hm ha (fun h => Constant_bool h) hs hpl) fun σ H R ⟨ρ, I, S, F, P, rs, ok, hh, q⟩ => ⟨ρ, I, S, F, _, rs, ok, hh, fun xs S1 v I1 H1 h1 e1 ok1 r1 => by
    split at h1
    · rename_i x y
      obtain ⟨v, u, rfl, rv, ru⟩ := r1.inv2
      split at h1
      · rename_i as bs e3 e4
        obtain ⟨hl, h1⟩ := h1
        obtain ⟨b1, a, rfl, hs1⟩ := src_sq ok1 rv e3
        obtain ⟨b2, b, rfl, hs2⟩ := src_sq ok1 ru e4
        obtain ⟨xs, q1, _⟩ := hs1 _ _ _ _ (Same.refl _) ok1 (pin_self _ _)
        obtain ⟨ys, q2, _⟩ := hs2 _ _ _ _ (Same.refl _) ok1 (pin_self _ _)
        exact ⟨b1, b2, a, b, xs, ys, rfl, q1, q2, q _ _ _ _ _ _ h1 e1 ok1 (itz_ok hs1 hs2 (fun _ => hl))⟩
      · exact h1.elim
    · exact h1.elim⟩
end
end DL

namespace DL
open PySem PySem.Spec PyProof.Rows L2

/-! ### is True, is False -/
def dIsB : D2 := fun x y S P => match x, y with
  | .bl a, .bl b => P (.bl (decide (a = b))) S
  | _, _ => False
def dNotB : D2 := fun x y S P => match x, y with
  | .bl a, .bl b => P (.bl (!decide (a = b))) S
  | _, _ => False
section
variable {X : Cx} {pos p : Pos} {a b : Expr} {da db : DE} {x : Str}
/-! ### a module's constants -/
theorem je_globC {v : V} {u : Value} {d : D} (hm : X.mg x = some u) (r : RelV v u) (hd : ∀ I, Rep X.K I d v) (hg : Gl X x := by rfl) (hdb : (x == ("__debug__" : Str)) = false := by decide) : JE X (.Name x p) (dC d) :=
  je_of (pe_glob hg hm r hdb) fun σ H Q ⟨ρ, I, S, F, P, rs, ok, h, q⟩ => q _ _ _ _ _ h (Same.refl I) ok (hd I)
theorem je_cI {i : Int} (h : ∃ t, X.mg x = some (.int i t)) (hg : Gl X x := by rfl) (hdb : (x == ("__debug__" : Str)) = false := by decide) : JE X (.Name x p) (dC (.int i)) := by
  obtain ⟨t, h⟩ := h
  exact je_globC (v := .int i) h ⟨t, rfl⟩ (fun I => rep_int) hg hdb
theorem je_cS {z : Str} (h : ∃ t, X.mg x = some (.str z t)) (hg : Gl X x := by rfl) (hdb : (x == ("__debug__" : Str)) = false := by decide) : JE X (.Name x p) (dC (.str z)) := by
  obtain ⟨t, h⟩ := h
  exact je_globC (v := .str z) h ⟨t, rfl⟩ (fun I => by simp only [Rep]) hg hdb
/-- a tuple of the module's, of flat things -/
def TupK (K : PySem.W.Frag) (u : Value) (xs : List V) : Prop := ∃ a, u = .ref a ∧ ∃ (o : Obj) (its : Array Value) (n : Nat), K.lookup a = some o ∧ o.cls = .type "tuple" ∧ o.data = .seq its n ∧ its.size ≤ sizeLine ∧ Vals xs its.toList
theorem je_cT {ds : List D} {xs : List V} (h : ∃ u, X.mg x = some u ∧ TupK X.K u xs) (hd : ∀ I, RepL X.K I ds xs) (hg : Gl X x := by rfl) (hdb : (x == ("__debug__" : Str)) = false := by decide) : JE X (.Name x p) (dC (.tup ds)) := by
  obtain ⟨u, h, a, rfl, hk⟩ := h
  exact je_globC (v := .ref a) h rfl (fun I => by
    simp only [Rep]
    exact ⟨a, xs, rfl, .inr hk, hd I⟩) hg hdb
end

/-! ### repr -/
mutual
def pyD : D → Option PyData
  | .non => some .none
  | .bl b => some (.bool b)
  | .int i => some (.int i)
  | .str x => some (.str x)
  | .lst ds => (pyDL ds).map .list
  | .ext ds => (pyDL ds).map .list
  | .tup ds => (pyDL ds).map .tuple
  | .ty _ => none
  | .obj _ => none
def pyDL : List D → Option (List PyData)
  | [] => some []
  | d :: ds => (pyD d).bind fun p => (pyDL ds).map (p :: ·)
end
section
variable {X : Cx} {pins : List (Addr × Obj)} {σ : L2.St} {H I F : Hp} {s : Shared} {S : Store}
mutual
theorem reads_of (J : Inv X pins σ H s) (ok : Ok X.K I S F H) : ∀ (x : D) (v : V) (u : Value) (p : PyData), Rep X.K I x v → RelV v u → pyD x = some p → ∃ as, Reads s.heap u p as
  | .non, v, u, p, r, rv, h => by
    simp only [pyD, Option.some.injEq] at h; subst h
    cases r.non_of; cases (show u = Value.none from rv)
    exact ⟨_, .none⟩
  | .bl b, v, u, p, r, rv, h => by
    simp only [pyD, Option.some.injEq] at h; subst h
    cases r.bl_of; cases (show u = Value.bool b from rv)
    exact ⟨_, .bool b⟩
  | .int i, v, u, p, r, rv, h => by
    simp only [pyD, Option.some.injEq] at h; subst h
    cases r.int_of; obtain ⟨t, rfl⟩ := rv
    exact ⟨_, .int i t⟩
  | .str z, v, u, p, r, rv, h => by
    simp only [pyD, Option.some.injEq] at h; subst h
    cases r.str_of; obtain ⟨t, rfl⟩ := rv
    exact ⟨_, .str z t⟩
  | .lst ds, v, u, p, r, rv, h => by
    simp only [pyD, Option.map_eq_some_iff] at h
    obtain ⟨ps, h, rfl⟩ := h
    obtain ⟨a, xs, rfl, e, rl⟩ := r.lst_of
    cases rv
    obtain ⟨its, q, ⟨o, n, e1, e2, _, e3⟩, _⟩ := J.list (.of (ok.i _ _ e))
    obtain ⟨as, ra⟩ := reads_ofL J ok ds xs its ps rl q h
    exact ⟨_, .list e1 e2 e3 (by simpa using ra)⟩
  | .ext ds, v, u, p, r, rv, h => by
    simp only [pyD, Option.map_eq_some_iff] at h
    obtain ⟨ps, h, rfl⟩ := h
    obtain ⟨a, xs, rfl, e, rl⟩ := r.ext_of
    cases rv
    obtain ⟨its, q, ⟨o, n, e1, e2, _, e3⟩, _⟩ := J.list (ok.same.seq e)
    obtain ⟨as, ra⟩ := reads_ofL J ok ds xs its ps rl q h
    exact ⟨_, .list e1 e2 e3 (by simpa using ra)⟩
  | .tup ds, v, u, p, r, rv, h => by
    simp only [pyD, Option.map_eq_some_iff] at h
    obtain ⟨ps, h, rfl⟩ := h
    obtain ⟨a, xs, rfl, e, rl⟩ := r.tup_of
    cases rv
    obtain ⟨its, q, ⟨o, e1, e2, n, e3⟩, _⟩ := J.tuple (sqT_same ok.same e)
    obtain ⟨as, ra⟩ := reads_ofL J ok ds xs its ps rl q h
    exact ⟨_, .tuple e1 e2 e3 (by simpa using ra)⟩
  | .ty _, _, _, _, _, _, h => by simp [pyD] at h
  | .obj _, _, _, _, _, _, h => by simp [pyD] at h
theorem reads_ofL (J : Inv X pins σ H s) (ok : Ok X.K I S F H) : ∀ (ds : List D) (vs : List V) (us : List Value) (ps : List PyData), RepL X.K I ds vs → Vals vs us → pyDL ds = some ps → ∃ as, ReadsAll s.heap us ps as
  | [], vs, us, ps, r, rv, h => by
    simp only [pyDL, Option.some.injEq] at h; subst h
    simp only [RepL] at r; subst r
    cases rv
    exact ⟨_, .nil⟩
  | d :: ds, vs, us, ps, r, rv, h => by
    simp only [pyDL, Option.bind_eq_some_iff, Option.map_eq_some_iff] at h
    obtain ⟨p, h1, ps', h2, rfl⟩ := h
    simp only [RepL] at r
    obtain ⟨v, vs', rfl, r1, r2⟩ := r
    cases rv with
    | cons q qs =>
      obtain ⟨as, ra⟩ := reads_of J ok d v _ p r1 q h1
      obtain ⟨bs, rb⟩ := reads_ofL J ok ds vs' _ ps' r2 qs h2
      exact ⟨_, .cons ra rb⟩
end
mutual
theorem pyD_noDict : ∀ (x : D) (p : PyData), pyD x = some p → p.hasDict = false
  | .non, p, h => by simp only [pyD, Option.some.injEq] at h; subst h; rfl
  | .bl b, p, h => by simp only [pyD, Option.some.injEq] at h; subst h; rfl
  | .int i, p, h => by simp only [pyD, Option.some.injEq] at h; subst h; rfl
  | .str z, p, h => by simp only [pyD, Option.some.injEq] at h; subst h; rfl
  | .lst ds, p, h => by
    simp only [pyD, Option.map_eq_some_iff] at h
    obtain ⟨ps, h, rfl⟩ := h
    simp only [PyData.hasDict]; exact pyDL_noDict ds ps h
  | .ext ds, p, h => by
    simp only [pyD, Option.map_eq_some_iff] at h
    obtain ⟨ps, h, rfl⟩ := h
    simp only [PyData.hasDict]; exact pyDL_noDict ds ps h
  | .tup ds, p, h => by
    simp only [pyD, Option.map_eq_some_iff] at h
    obtain ⟨ps, h, rfl⟩ := h
    simp only [PyData.hasDict]; exact pyDL_noDict ds ps h
  | .ty _, _, h => by simp [pyD] at h
  | .obj _, _, h => by simp [pyD] at h
theorem pyDL_noDict : ∀ (ds : List D) (ps : List PyData), pyDL ds = some ps → PyData.hasDictAll ps = false
  | [], ps, h => by simp only [pyDL, Option.some.injEq] at h; subst h; rfl
  | d :: ds, ps, h => by
    simp only [pyDL, Option.bind_eq_some_iff, Option.map_eq_some_iff] at h
    obtain ⟨p, h1, ps', h2, rfl⟩ := h
    simp only [PyData.hasDictAll, pyD_noDict d p h1, pyDL_noDict ds ps' h2, Bool.or_false]
end
end
/-- what repr tells, with depth and length at most -/
structure Rp (d c : Nat) (x : D) (p : PyData) : Prop where
  e : pyD x = some p
  s : p.showable = true
  d : p.depth ≤ d
  c : p.shown.length ≤ c
def Rpd (d c : Nat) (x : D) : Prop := ∃ p, Rp d c x p
theorem Rpd.mono {d c d' c' : Nat} {x : D} (h : Rpd d c x) (h1 : d ≤ d') (h2 : c ≤ c') : Rpd d' c' x := by
  obtain ⟨p, h⟩ := h
  exact ⟨p, h.e, h.s, Nat.le_trans h.d h1, Nat.le_trans h.c h2⟩
theorem rp_int {i : Int} (h : i.natAbs < 10 ^ 12) : Rpd 1 13 (.int i) := ⟨.int i, by simp [pyD], by
  simp only [PyData.showable, decide_eq_true_eq]
  have : i.natAbs.log2 < 64 := PySem.Flt.log2_lt_of (by decide) (show i.natAbs < 2 ^ 64 by omega)
  omega, by simp [PyData.depth], PyData.shown_int_le h⟩
theorem rp_all {d c : Nat} : ∀ {ds : List D}, (∀ y, y ∈ ds → Rpd d c y) → ∃ ps, pyDL ds = some ps ∧ PyData.showableAll ps = true ∧ PyData.depthAll ps ≤ d ∧ ((PyData.shownAll ps).map (·.length)).sum ≤ ds.length * c ∧ (PyData.shownAll ps).length = ds.length
  | [], _ => ⟨[], by simp [pyDL], by simp [PyData.showableAll], by simp [PyData.depthAll], by simp [PyData.shownAll], by simp [PyData.shownAll]⟩
  | y :: ds, h => by
    obtain ⟨p, h1⟩ := h y (by simp)
    obtain ⟨ps, e1, e2, e3, e4, e5⟩ := rp_all (ds := ds) (fun z hz => h z (by simp [hz]))
    refine ⟨p :: ps, by simp [pyDL, h1.e, e1], by simp [PyData.showableAll, h1.s, e2], ?_, ?_, by simp [PyData.shownAll, e5]⟩
    · have := h1.d
      simp only [PyData.depthAll]
      omega
    · have := h1.c
      simp only [PyData.shownAll, List.map_cons, List.sum_cons, List.length_cons, Nat.succ_mul]
      omega
theorem rp_tup {d c n : Nat} {ds : List D} (h : ∀ y, y ∈ ds → Rpd d c y) (hn : ds.length ≤ n) : Rpd (d + 1) (n * (c + 2) + 3) (.tup ds) := by
  obtain ⟨ps, e1, e2, e3, e4, e5⟩ := rp_all h
  refine ⟨.tuple ps, by simp [pyD, e1], by simp [PyData.showable, e2], by simp only [PyData.depth]; omega, ?_⟩
  have := tupleText_len_le (PyData.shownAll ps)
  simp only [PyData.shown]
  have h2 := Nat.mul_le_mul_right (c + 2) hn
  rw [Nat.mul_add] at h2
  omega
end DL
namespace DL
open PySem PySem.Spec PyProof.Rows L2
section
variable {X : Cx} {pos : Pos} {a b c : Expr} {da db dc : DE} {op op' : CmpOp} {r r' : R2} {o o' : D2}
end
end DL
namespace DL
open PySem PySem.Spec PyProof.Rows L2
def dPar3 (i j l : Nat) (a : DA) : DS := fun DD ρ S => a ρ S fun xs S1 => match xs with
  | [x, y, z] => DD.nx (((ρ.set i (some x)).set j (some y)).set l (some z)) S1
  | _ => False
end DL
namespace DL
open PySem PySem.Spec PyProof.Rows L2
/-! ### isinstance of data -/
theorem isi_non_int  {S : Store} {P : D → Store → Prop} : cIsi [.non, .ty "int"] S P = P (.bl false) S := propext ⟨fun h => h.2, fun h => ⟨by decide, h⟩⟩
theorem isi_non_bool  {S : Store} {P : D → Store → Prop} : cIsi [.non, .ty "bool"] S P = P (.bl false) S := propext ⟨fun h => h.2, fun h => ⟨by decide, h⟩⟩
theorem isi_non_str  {S : Store} {P : D → Store → Prop} : cIsi [.non, .ty "str"] S P = P (.bl false) S := propext ⟨fun h => h.2, fun h => ⟨by decide, h⟩⟩
theorem isi_non_list  {S : Store} {P : D → Store → Prop} : cIsi [.non, .ty "list"] S P = P (.bl false) S := propext ⟨fun h => h.2, fun h => ⟨by decide, h⟩⟩
theorem isi_non_tuple  {S : Store} {P : D → Store → Prop} : cIsi [.non, .ty "tuple"] S P = P (.bl false) S := propext ⟨fun h => h.2, fun h => ⟨by decide, h⟩⟩
theorem isi_non_lt  {S : Store} {P : D → Store → Prop} : cIsi [.non, .tup [.ty "list", .ty "tuple"]] S P = P (.bl false) S := rfl
theorem isi_bl_int {k : Bool} {S : Store} {P : D → Store → Prop} : cIsi [(.bl k), .ty "int"] S P = P (.bl true) S := propext ⟨fun h => h.2, fun h => ⟨by decide, h⟩⟩
theorem isi_bl_bool {k : Bool} {S : Store} {P : D → Store → Prop} : cIsi [(.bl k), .ty "bool"] S P = P (.bl true) S := propext ⟨fun h => h.2, fun h => ⟨by decide, h⟩⟩
theorem isi_bl_str {k : Bool} {S : Store} {P : D → Store → Prop} : cIsi [(.bl k), .ty "str"] S P = P (.bl false) S := propext ⟨fun h => h.2, fun h => ⟨by decide, h⟩⟩
theorem isi_bl_list {k : Bool} {S : Store} {P : D → Store → Prop} : cIsi [(.bl k), .ty "list"] S P = P (.bl false) S := propext ⟨fun h => h.2, fun h => ⟨by decide, h⟩⟩
theorem isi_bl_tuple {k : Bool} {S : Store} {P : D → Store → Prop} : cIsi [(.bl k), .ty "tuple"] S P = P (.bl false) S := propext ⟨fun h => h.2, fun h => ⟨by decide, h⟩⟩
theorem isi_bl_lt {k : Bool} {S : Store} {P : D → Store → Prop} : cIsi [(.bl k), .tup [.ty "list", .ty "tuple"]] S P = P (.bl false) S := rfl
theorem isi_int_int {i : Int} {S : Store} {P : D → Store → Prop} : cIsi [(.int i), .ty "int"] S P = P (.bl true) S := propext ⟨fun h => h.2, fun h => ⟨by decide, h⟩⟩
theorem isi_int_bool {i : Int} {S : Store} {P : D → Store → Prop} : cIsi [(.int i), .ty "bool"] S P = P (.bl false) S := propext ⟨fun h => h.2, fun h => ⟨by decide, h⟩⟩
theorem isi_int_str {i : Int} {S : Store} {P : D → Store → Prop} : cIsi [(.int i), .ty "str"] S P = P (.bl false) S := propext ⟨fun h => h.2, fun h => ⟨by decide, h⟩⟩
theorem isi_int_list {i : Int} {S : Store} {P : D → Store → Prop} : cIsi [(.int i), .ty "list"] S P = P (.bl false) S := propext ⟨fun h => h.2, fun h => ⟨by decide, h⟩⟩
theorem isi_int_tuple {i : Int} {S : Store} {P : D → Store → Prop} : cIsi [(.int i), .ty "tuple"] S P = P (.bl false) S := propext ⟨fun h => h.2, fun h => ⟨by decide, h⟩⟩
theorem isi_int_lt {i : Int} {S : Store} {P : D → Store → Prop} : cIsi [(.int i), .tup [.ty "list", .ty "tuple"]] S P = P (.bl false) S := rfl
theorem isi_str_int {z : Str} {S : Store} {P : D → Store → Prop} : cIsi [(.str z), .ty "int"] S P = P (.bl false) S := propext ⟨fun h => h.2, fun h => ⟨by decide, h⟩⟩
theorem isi_str_bool {z : Str} {S : Store} {P : D → Store → Prop} : cIsi [(.str z), .ty "bool"] S P = P (.bl false) S := propext ⟨fun h => h.2, fun h => ⟨by decide, h⟩⟩
theorem isi_str_str {z : Str} {S : Store} {P : D → Store → Prop} : cIsi [(.str z), .ty "str"] S P = P (.bl true) S := propext ⟨fun h => h.2, fun h => ⟨by decide, h⟩⟩
theorem isi_str_list {z : Str} {S : Store} {P : D → Store → Prop} : cIsi [(.str z), .ty "list"] S P = P (.bl false) S := propext ⟨fun h => h.2, fun h => ⟨by decide, h⟩⟩
theorem isi_str_tuple {z : Str} {S : Store} {P : D → Store → Prop} : cIsi [(.str z), .ty "tuple"] S P = P (.bl false) S := propext ⟨fun h => h.2, fun h => ⟨by decide, h⟩⟩
theorem isi_str_lt {z : Str} {S : Store} {P : D → Store → Prop} : cIsi [(.str z), .tup [.ty "list", .ty "tuple"]] S P = P (.bl false) S := rfl
theorem isi_lst_int {ds : List D} {S : Store} {P : D → Store → Prop} : cIsi [(.lst ds), .ty "int"] S P = P (.bl false) S := propext ⟨fun h => h.2, fun h => ⟨by decide, h⟩⟩
theorem isi_lst_bool {ds : List D} {S : Store} {P : D → Store → Prop} : cIsi [(.lst ds), .ty "bool"] S P = P (.bl false) S := propext ⟨fun h => h.2, fun h => ⟨by decide, h⟩⟩
theorem isi_lst_str {ds : List D} {S : Store} {P : D → Store → Prop} : cIsi [(.lst ds), .ty "str"] S P = P (.bl false) S := propext ⟨fun h => h.2, fun h => ⟨by decide, h⟩⟩
theorem isi_lst_list {ds : List D} {S : Store} {P : D → Store → Prop} : cIsi [(.lst ds), .ty "list"] S P = P (.bl true) S := propext ⟨fun h => h.2, fun h => ⟨by decide, h⟩⟩
theorem isi_lst_tuple {ds : List D} {S : Store} {P : D → Store → Prop} : cIsi [(.lst ds), .ty "tuple"] S P = P (.bl false) S := propext ⟨fun h => h.2, fun h => ⟨by decide, h⟩⟩
theorem isi_lst_lt {ds : List D} {S : Store} {P : D → Store → Prop} : cIsi [(.lst ds), .tup [.ty "list", .ty "tuple"]] S P = P (.bl true) S := rfl
theorem isi_tup_int {ds : List D} {S : Store} {P : D → Store → Prop} : cIsi [(.tup ds), .ty "int"] S P = P (.bl false) S := propext ⟨fun h => h.2, fun h => ⟨by decide, h⟩⟩
theorem isi_tup_bool {ds : List D} {S : Store} {P : D → Store → Prop} : cIsi [(.tup ds), .ty "bool"] S P = P (.bl false) S := propext ⟨fun h => h.2, fun h => ⟨by decide, h⟩⟩
theorem isi_tup_str {ds : List D} {S : Store} {P : D → Store → Prop} : cIsi [(.tup ds), .ty "str"] S P = P (.bl false) S := propext ⟨fun h => h.2, fun h => ⟨by decide, h⟩⟩
theorem isi_tup_list {ds : List D} {S : Store} {P : D → Store → Prop} : cIsi [(.tup ds), .ty "list"] S P = P (.bl false) S := propext ⟨fun h => h.2, fun h => ⟨by decide, h⟩⟩
theorem isi_tup_tuple {ds : List D} {S : Store} {P : D → Store → Prop} : cIsi [(.tup ds), .ty "tuple"] S P = P (.bl true) S := propext ⟨fun h => h.2, fun h => ⟨by decide, h⟩⟩
theorem isi_tup_lt {ds : List D} {S : Store} {P : D → Store → Prop} : cIsi [(.tup ds), .tup [.ty "list", .ty "tuple"]] S P = P (.bl true) S := rfl
end DL
namespace DL
open PySem PySem.Spec PyProof.Rows L2
def dLcM (di : DI) (t : Tgt) (tt : DT) (de : DE) : DE := fun ρ S P => dLc di t tt de ρ S fun x S1 => match x with
  | .lst acc => ∀ p, S1 p = none → P (.obj p) (supd S1 p (.lst acc))
  | _ => False
section
variable {X : Cx} {pos : Pos}
end
end DL

/-! fractions as data, their sizes -/
namespace Lb
open PySem PySem.Spec PyProof.Rows L2 DL

theorem supd_same0 {S : Store} {p : Addr} {m : MO} : supd S p m p = some m := by unfold supd; rw [if_pos rfl]
theorem put_nm {i : Nat} {x : D} {ρ : DSt} : Tgt.put (.nm i) x ρ = some (ρ.set i (some x)) := by simp only [Tgt.put]
theorem put_tp {ts : List Tgt} {xs : List D} {ρ : DSt} : Tgt.put (.tp ts) (.tup xs) ρ = Tgt.putL ts xs ρ := by simp only [Tgt.put]
theorem put_tl {ts : List Tgt} {xs : List D} {ρ : DSt} : Tgt.put (.tp ts) (.lst xs) ρ = Tgt.putL ts xs ρ := by simp only [Tgt.put]
theorem putL_nil {ρ : DSt} : Tgt.putL [] [] ρ = some ρ := by simp only [Tgt.putL]
theorem putL_cons {t : Tgt} {ts : List Tgt} {x : D} {xs : List D} {ρ : DSt} : Tgt.putL (t :: ts) (x :: xs) ρ = (t.put x ρ).bind fun ρ' => Tgt.putL ts xs ρ' := by simp only [Tgt.putL]
def encR (q : Rat) : D := .tup [.int q.num, .int (q.den : Int)]
/-- so many bits at most -/
def Sz (n : Nat) (q : Rat) : Prop := q.num.natAbs < 2 ^ n ∧ q.den < 2 ^ n
theorem Sz.mono {n m : Nat} {q : Rat} (h : Sz n q) (hm : n ≤ m) : Sz m q := ⟨Nat.lt_of_lt_of_le h.1 (Nat.pow_le_pow_right (by decide) hm), Nat.lt_of_lt_of_le h.2 (Nat.pow_le_pow_right (by decide) hm)⟩
theorem sz_int {n : Nat} {k : Int} (h : k.natAbs < 2 ^ n) (h1 : 1 ≤ n := by decide) : Sz n (k : Rat) := ⟨h, by show 1 < 2 ^ n; exact Nat.one_lt_two_pow (by omega)⟩
theorem frac_num {a b : Int} (hb : b ≠ 0) : ((a : Rat) / (b : Rat)).num = b.sign * a / (Int.gcd a b : Int) ∧ (((a : Rat) / (b : Rat)).den : Int) = (b.natAbs : Int) / (Int.gcd a b : Int) := by
  rw [← Rat.divInt_eq_div, Rat.num_divInt, Rat.den_divInt, if_neg hb, Int.gcd_comm b a]
  exact ⟨rfl, by simp⟩
theorem gcd_pos_r {a b : Int} (hb : b ≠ 0) : 0 < (Int.gcd a b : Int) := by
  have := Int.gcd_pos_of_ne_zero_right a hb
  omega
theorem natAbs_div_le (a : Int) (g : Int) (hg : 0 < g) : (a / g).natAbs ≤ a.natAbs := by
  exact Int.natAbs_ediv_le_natAbs a g
/-- the size of a quotient of whole numbers -/
theorem sz_frac {n : Nat} {a b : Int} (hb : b ≠ 0) (h1 : a.natAbs < 2 ^ n) (h2 : b.natAbs < 2 ^ n) : Sz n ((a : Rat) / (b : Rat)) := by
  obtain ⟨e1, e2⟩ := frac_num (a := a) hb
  have hg := gcd_pos_r (a := a) hb
  have hdvd : (Int.gcd a b : Int) ∣ a := Int.gcd_dvd_left a b
  refine ⟨?_, ?_⟩
  · rw [e1]
    refine Nat.lt_of_le_of_lt (natAbs_div_le _ _ hg) ?_
    rw [Int.natAbs_mul]
    have : b.sign.natAbs ≤ 1 := by
      rcases Int.lt_trichotomy b 0 with h | h | h
      · simp [Int.sign_eq_neg_one_of_neg h]
      · exact absurd h hb
      · simp [Int.sign_eq_one_of_pos h]
    calc b.sign.natAbs * a.natAbs ≤ 1 * a.natAbs := Nat.mul_le_mul_right _ this
      _ < 2 ^ n := by omega
  · have : (((a : Rat) / (b : Rat)).den : Int).natAbs ≤ b.natAbs := by
      rw [e2]
      exact Nat.le_trans (natAbs_div_le _ _ hg) (by simp)
    omega
theorem rat_eq (q : Rat) : q = (q.num : Rat) / ((q.den : Int) : Rat) := by
  rw [← Rat.divInt_eq_div, Rat.num_divInt_den]
theorem den_ne (q : Rat) : ((q.den : Int) : Rat) ≠ 0 := by
  have : (q.den : Int) ≠ 0 := by have := q.den_pos; omega
  intro h
  exact this (by exact_mod_cast h)
theorem rat_add (q r : Rat) : q + r = ((q.num * (r.den : Int) + r.num * (q.den : Int) : Int) : Rat) / (((q.den : Int) * (r.den : Int) : Int) : Rat) := by
  rw [← Rat.divInt_eq_div, Rat.add_def', ← Rat.divInt_ofNat, Int.natCast_mul]
theorem rat_sub (q r : Rat) : q - r = ((q.num * (r.den : Int) - r.num * (q.den : Int) : Int) : Rat) / (((q.den : Int) * (r.den : Int) : Int) : Rat) := by
  rw [← Rat.divInt_eq_div, Rat.sub_def', ← Rat.divInt_ofNat, Int.natCast_mul]
theorem rat_mul (q r : Rat) : q * r = ((q.num * r.num : Int) : Rat) / (((q.den : Int) * (r.den : Int) : Int) : Rat) := by
  rw [← Rat.divInt_eq_div, Rat.mul_def', ← Rat.divInt_ofNat, Int.natCast_mul]
theorem rat_div (q r : Rat) (h : r ≠ 0) : q / r = ((q.num * (r.den : Int) : Int) : Rat) / (((q.den : Int) * r.num : Int) : Rat) := by
  have hr : (r.num : Rat) ≠ 0 := by
    intro z
    exact h (Rat.num_eq_zero.mp (by exact_mod_cast z))
  have h1 := den_ne q
  have h2 := den_ne r
  have e1 := rat_eq q
  have e2 := rat_eq r
  generalize hqn : (q.num : Rat) = qn at *
  generalize hqd : ((q.den : Int) : Rat) = qd at *
  generalize hrn : (r.num : Rat) = rn at *
  generalize hrd : ((r.den : Int) : Rat) = rd at *
  rw [Rat.intCast_mul, Rat.intCast_mul, hqn, hqd, hrn, hrd, e1, e2]
  grind
theorem pow_bound {a b n m : Nat} (h1 : a < 2 ^ n) (h2 : b < 2 ^ m) : a * b < 2 ^ (n + m) := by
  rw [Nat.pow_add]
  exact Nat.mul_lt_mul'' h1 h2
theorem den_nz (q : Rat) : (q.den : Int) ≠ 0 := by have := q.den_pos; omega
theorem add_bound {q r : Rat} {n m : Nat} (h1 : Sz n q) (h2 : Sz m r) (s : Int) (hs : s.natAbs = 1) : (q.num * (r.den : Int) + s * (r.num * (q.den : Int))).natAbs < 2 ^ (n + m + 1) ∧ ((q.den : Int) * (r.den : Int)).natAbs < 2 ^ (n + m + 1) := by
  have a1 := pow_bound h1.1 h2.2
  have a2 := pow_bound h2.1 h1.2
  have a3 := pow_bound h1.2 h2.2
  have e : 2 ^ (n + m + 1) = 2 * 2 ^ (n + m) := by rw [Nat.pow_succ]; omega
  have e2 : 2 ^ (m + n) = 2 ^ (n + m) := by rw [Nat.add_comm]
  rw [e2] at a2
  constructor
  · refine Nat.lt_of_le_of_lt (Int.natAbs_add_le _ _) ?_
    rw [Int.natAbs_mul, Int.natAbs_mul, Int.natAbs_mul, hs]
    simp only [Int.natAbs_natCast, Nat.one_mul]
    omega
  · rw [Int.natAbs_mul]
    simp only [Int.natAbs_natCast]
    omega
theorem sz_add {q r : Rat} {n m : Nat} (h1 : Sz n q) (h2 : Sz m r) : Sz (n + m + 1) (q + r) := by
  rw [rat_add]
  have := add_bound h1 h2 1 rfl
  exact sz_frac (Int.mul_ne_zero (den_nz q) (den_nz r)) (by simpa using this.1) this.2
theorem sz_sub {q r : Rat} {n m : Nat} (h1 : Sz n q) (h2 : Sz m r) : Sz (n + m + 1) (q - r) := by
  rw [rat_sub]
  have := add_bound h1 h2 (-1) rfl
  exact sz_frac (Int.mul_ne_zero (den_nz q) (den_nz r)) (by
    have e : q.num * (r.den : Int) - r.num * (q.den : Int) = q.num * (r.den : Int) + -1 * (r.num * (q.den : Int)) := by omega
    rw [e]; exact this.1) this.2
theorem mul_bound {q r : Rat} {n m : Nat} (h1 : Sz n q) (h2 : Sz m r) : (q.num * r.num).natAbs < 2 ^ (n + m) ∧ ((q.den : Int) * (r.den : Int)).natAbs < 2 ^ (n + m) := by
  constructor
  · rw [Int.natAbs_mul]; exact pow_bound h1.1 h2.1
  · rw [Int.natAbs_mul]; simp only [Int.natAbs_natCast]; exact pow_bound h1.2 h2.2
theorem sz_mul {q r : Rat} {n m : Nat} (h1 : Sz n q) (h2 : Sz m r) : Sz (n + m) (q * r) := by
  rw [rat_mul]
  have := mul_bound h1 h2
  exact sz_frac (Int.mul_ne_zero (den_nz q) (den_nz r)) this.1 this.2
theorem div_bound {q r : Rat} {n m : Nat} (h1 : Sz n q) (h2 : Sz m r) : (q.num * (r.den : Int)).natAbs < 2 ^ (n + m) ∧ ((q.den : Int) * r.num).natAbs < 2 ^ (n + m) := by
  constructor
  · rw [Int.natAbs_mul]; exact pow_bound h1.1 h2.2
  · rw [Int.natAbs_mul]; simp only [Int.natAbs_natCast]; exact pow_bound h1.2 h2.1
theorem num_nz {r : Rat} (h : r ≠ 0) : r.num ≠ 0 := fun z => h (Rat.num_eq_zero.mp z)
theorem sz_div {q r : Rat} {n m : Nat} (h : r ≠ 0) (h1 : Sz n q) (h2 : Sz m r) : Sz (n + m) (q / r) := by
  rw [rat_div _ _ h]
  have := div_bound h1 h2
  exact sz_frac (Int.mul_ne_zero (den_nz q) (num_nz h)) this.1 this.2
theorem sz_neg {q : Rat} {n : Nat} (h : Sz n q) : Sz n (-q) := by
  refine ⟨?_, ?_⟩
  · rw [Rat.neg_num, Int.natAbs_neg]; exact h.1
  · rw [Rat.neg_den]; exact h.2
theorem log_lt {a n : Nat} (h : a < 2 ^ n) (hn : 0 < n) : a.log2 < n := PySem.Flt.log2_lt_of hn h
theorem mulB {i j : Int} {n m : Nat} (h1 : i.natAbs < 2 ^ n) (h2 : j.natAbs < 2 ^ m) (h : n + m ≤ 900000) : MulB i j := by
  refine .inr ?_
  unfold CMulW
  have a := log_lt (n := n + 1) (Nat.lt_trans h1 (Nat.pow_lt_pow_right (by decide) (by omega))) (by omega)
  have b := log_lt (n := m + 1) (Nat.lt_trans h2 (Nat.pow_lt_pow_right (by decide) (by omega))) (by omega)
  omega
theorem mulS {i j : Int} (h : -(2 ^ 64) < i ∧ i < 2 ^ 64 := by omega) : MulB i j := .inl (.inl h)
theorem mulS2 {i j : Int} (h : -(2 ^ 64) < j ∧ j < 2 ^ 64 := by omega) : MulB i j := .inl (.inr h)
theorem divB {j : Int} {n : Nat} (h0 : j ≠ 0) (h1 : j.natAbs < 2 ^ n) (h : n ≤ 8999) : DivB j := by
  have a := log_lt (n := n + 1) (Nat.lt_trans h1 (Nat.pow_lt_pow_right (by decide) (by omega))) (by omega)
  exact ⟨h0, by omega⟩
theorem divS {j : Int} (h0 : j ≠ 0) (h : j.natAbs < 2 ^ 60 := by omega) : DivB j := divB (n := 60) h0 h (by decide)

/-! powers of a base -/
theorem zpow_of_nat (b : Rat) (n : Nat) : b ^ (n : Int) = b ^ n := rfl
theorem intpow_cast (b : Int) (n : Nat) : ((b ^ n : Int) : Rat) = (b : Rat) ^ n := by
  induction n with
  | zero => simp
  | succ n ih => rw [Int.pow_succ, Rat.pow_succ, Rat.intCast_mul, ih]
theorem encR_zpow_nn (b : Int) (k : Int) (h : 0 ≤ k) : encR ((b : Rat) ^ k) = .tup [.int (b ^ k.toNat), .int 1] := by
  have : (b : Rat) ^ k = ((b ^ k.toNat : Int) : Rat) := by
    rw [intpow_cast, ← zpow_of_nat]
    congr 1; omega
  rw [this]; rfl
theorem encR_zpow_neg (b : Int) (k : Int) (hb : 0 < b) (h : k < 0) : encR ((b : Rat) ^ k) = .tup [.int 1, .int (b ^ (-k).toNat)] := by
  have hp : 0 < b ^ (-k).toNat := Int.pow_pos hb
  have : (b : Rat) ^ k = ((1 : Int) : Rat) / ((b ^ (-k).toNat : Int) : Rat) := by
    rw [intpow_cast, ← zpow_of_nat]
    have e : k = -(((-k).toNat : Nat) : Int) := by omega
    conv => lhs; rw [e, Rat.zpow_neg]
    simp [Rat.div_def]
  obtain ⟨e1, e2⟩ := frac_num (a := 1) (b := b ^ (-k).toNat) (by omega)
  unfold encR
  rw [this, e1, e2]
  have s : (b ^ (-k).toNat).sign = 1 := Int.sign_eq_one_of_pos hp
  have g1 : Int.gcd 1 (b ^ (-k).toNat) = 1 := by simp
  rw [s, g1]
  have e3 : ((b ^ (-k).toNat).natAbs : Int) = b ^ (-k).toNat := by omega
  rw [e3]
  simp
theorem sz_zpow {b k : Int} (hb : 0 < b) (hb2 : b ≤ 16) : Sz (4 * k.natAbs + 1) ((b : Rat) ^ k) := by
  have key : ∀ n : Nat, (b ^ n).natAbs < 2 ^ (4 * n + 1) := fun n => by
    rw [Int.natAbs_pow]
    have h1 : b.natAbs ≤ 2 ^ 4 := by omega
    calc b.natAbs ^ n ≤ (2 ^ 4) ^ n := Nat.pow_le_pow_left h1 n
      _ = 2 ^ (4 * n) := by rw [Nat.pow_mul]
      _ < 2 ^ (4 * n + 1) := Nat.pow_lt_pow_right (by decide) (by omega)
  by_cases h : 0 ≤ k
  · have e := encR_zpow_nn b k h
    unfold encR at e
    simp only [D.tup.injEq, List.cons.injEq, D.int.injEq, and_true] at e
    have hk : k.toNat = k.natAbs := by omega
    refine ⟨by rw [e.1, hk]; exact key _, ?_⟩
    have : ((b : Rat) ^ k).den = 1 := by omega
    rw [this]
    exact Nat.one_lt_two_pow (by omega)
  · have e := encR_zpow_neg b k hb (by omega)
    unfold encR at e
    simp only [D.tup.injEq, List.cons.injEq, D.int.injEq, and_true] at e
    have hk : (-k).toNat = k.natAbs := by omega
    refine ⟨by rw [e.1]; exact Nat.one_lt_two_pow (by omega), ?_⟩
    have h2 := key k.natAbs
    rw [hk] at e
    have h3 : ((((b : Rat) ^ k).den : Int)).natAbs < 2 ^ (4 * k.natAbs + 1) := by rw [e.2]; exact h2
    omega
end Lb

namespace Lb
open PySem PySem.Spec PyProof.Rows L2 DL
theorem atI_0 {α : Type} (a : α) (l : List α) : atI (a :: l) 0 = some a := by
  unfold atI ixN
  rw [if_pos (by decide), if_pos (by simp only [List.length_cons]; omega)]
  rfl
theorem atI_1 {α : Type} (a b : α) (l : List α) : atI (a :: b :: l) 1 = some b := by
  unfold atI ixN
  rw [if_pos (by decide), if_pos (by simp only [List.length_cons]; omega)]
  rfl
theorem atI_2 {α : Type} (a b c : α) (l : List α) : atI (a :: b :: c :: l) 2 = some c := by
  unfold atI ixN
  rw [if_pos (by decide), if_pos (by simp only [List.length_cons]; omega)]
  rfl
theorem atI_3 {α : Type} (a b c d : α) (l : List α) : atI (a :: b :: c :: d :: l) 3 = some d := by
  unfold atI ixN
  rw [if_pos (by decide), if_pos (by simp only [List.length_cons]; omega)]
  rfl
theorem eqB_ii {i j : Int} : dEqB (.int i) (.int j) = some (decide (i = j)) := rfl
theorem eqB_bb {i j : Bool} : dEqB (.bl i) (.bl j) = some (decide (i = j)) := rfl
theorem eqB_ss {i j : Str} : dEqB (.str i) (.str j) = some (decide (i = j)) := rfl
theorem eqB_nn : dEqB .non .non = some true := rfl
theorem eqB_ni {j : Int} : dEqB .non (.int j) = some false := rfl
theorem eqB_in {j : Int} : dEqB (.int j) .non = some false := rfl
theorem eqB_ns {j : Str} : dEqB .non (.str j) = some false := rfl
theorem eqB_sn {j : Str} : dEqB (.str j) .non = some false := rfl
theorem eqB_is {i : Int} {j : Str} : dEqB (.int i) (.str j) = some false := rfl
theorem eqB_si {i : Int} {j : Str} : dEqB (.str j) (.int i) = some false := rfl
theorem eqB_nb {j : Bool} : dEqB .non (.bl j) = some false := rfl
theorem eqB_bn {j : Bool} : dEqB (.bl j) .non = some false := rfl
theorem map_toNat_inj : ∀ (l m : List Char), l.map Char.toNat = m.map Char.toNat → l = m
  | [], [], _ => rfl
  | [], _ :: _, h => by simp at h
  | _ :: _, [], h => by simp at h
  | a :: l, b :: m, h => by
    simp only [List.map_cons, List.cons.injEq] at h
    rw [map_toNat_inj l m h.2, Char.toNat_inj.mp h.1]
theorem ofString_inj (a b : String) : (Str.ofString a = Str.ofString b) = (a = b) := by
  apply propext
  constructor
  · intro h
    rw [Str.ofString_eq_toList, Str.ofString_eq_toList] at h
    have h : List.map Char.toNat a.toList = List.map Char.toNat b.toList := congrArg (fun z : Str => z.cps.toList) h
    have : a.toList = b.toList := map_toNat_inj _ _ h
    exact String.ext this
  · intro h; rw [h]
local macro_rules | `(tactic| walk_at "dgo") => `(tactic| try simp only [dSeq, dSet, dPar, dOp, dUn, dVar, dC, dCB, dCons, dNil, dTup, dLst, dLstM, dIfS, dIf, dTest, dNot, dAnd, dOr, dAndV, dOrV, dNotV, dRet, dRetN, dEnd, dNext, dAdd, dSub, dMul, dFdiv, dMod, dPow, dNeg, dLt, dLe, dGt, dGe, dEq, dNe, eqB_ii, eqB_bb, eqB_ss, eqB_nn, eqB_ni, eqB_in, eqB_ns, eqB_sn, eqB_is, eqB_si, eqB_nb, eqB_bn, dIx, dIn, dIsN, dNotN, DL.isNon, cAbs, cMax2, cMin2, cInt, cLen, cList, cTuple, dIsB, dNotB, dPar3, ForN, LcN, pinOf, pin2, dEnum2, dAppend, supd_same0, isi_non_int, isi_non_bool, isi_non_str, isi_non_list, isi_non_tuple, isi_non_lt, isi_bl_int, isi_bl_bool, isi_bl_str, isi_bl_list, isi_bl_tuple, isi_bl_lt, isi_int_int, isi_int_bool, isi_int_str, isi_int_list, isi_int_tuple, isi_int_lt, isi_str_int, isi_str_bool, isi_str_str, isi_str_list, isi_str_tuple, isi_str_lt, isi_lst_int, isi_lst_bool, isi_lst_str, isi_lst_list, isi_lst_tuple, isi_lst_lt, isi_tup_int, isi_tup_bool, isi_tup_str, isi_tup_list, isi_tup_tuple, isi_tup_lt, dAug, dIAdd, dIMul, dDrop, dSl, dPart, dNoPart, dRevL, dCallK, dChainR, dAsg, put_nm, put_tp, put_tl, putL_nil, putL_cons, Option.bind, seqOf, lstOf, dFor, dLc, dLcM, dItSeq, dZip, dZipS, dEnum, dRng1, dRng2, dYes, dwipe, Tgt.slots, Tgt.slotsL,
  atI_0, atI_1, atI_2, atI_3, List.getElem?_cons_zero, List.getElem?_cons_succ, List.set_cons_zero, List.set_cons_succ, decide_eq_true_eq, List.length_cons, List.length_nil, List.cons_append, List.nil_append, List.append_nil, ofString_inj, String.reduceEq, decide_true, decide_false, reduceIte, Bool.false_eq_true, Bool.not_true, Bool.not_false, eqFlat, isFlat, List.any_cons, List.any_nil, List.all_cons, List.all_nil, Bool.or_false, Bool.or_true, Bool.false_or, Bool.true_or, Bool.and_true, Bool.true_and, true_and, and_true, Nat.reduceAdd, Nat.reduceLeDiff, Int.reduceLT, Int.reduceLE, Int.reduceNeg])
/-! ### fractions -/
def sp_common : DSp := fun ds S P => ∃ a b : Int, ds = [.int a, .int b] ∧ 0 ≤ a ∧ 0 ≤ b ∧ P (.int (Int.gcd a b)) S
def rd_common : DS :=
  (dSeq (dWhile (dTest (dOp dGt (dVar 1) (dC (.int 0)))) (dPar 0 1 (dCons (dVar 1) (dCons (dOp dMod (dVar 0) (dVar 1)) dNil))))
  (dRet (dVar 0)))
def goal_common : Prop := ∀ (x0 x1 : D) (S : Store) (P : D → Store → Prop), sp_common [x0, x1] S P → rd_common (dEnd P) [some x0, some x1] S
theorem len_common : ∀ ds S P, sp_common ds S P → ds.length = 2 := by
  rintro ds S P ⟨a, b, rfl, _⟩; rfl
theorem gcd_step (c d : Int) (h : 0 < d) : Int.gcd d (c % d) = Int.gcd c d := by
  have hc : Int.gcd d (c % d) = Int.gcd d c := by
    have e : c = d * (c / d) + c % d := by have := Int.emod_add_mul_ediv c d; omega
    conv => rhs; rw [e]
    simp
  rw [hc, Int.gcd_comm]
theorem vc_common : goal_common := by
  rintro x0 x1 S P ⟨a, b, e, ha, hb, h⟩
  cases e
  unfold rd_common
  walk_at "dgo"
  refine ⟨fun m ρ S' => ∃ c d : Int, m = d.toNat ∧ ρ = [some (.int c), some (.int d)] ∧ S' = S ∧ 0 ≤ c ∧ 0 ≤ d ∧ Int.gcd c d = Int.gcd a b, ⟨_, a, b, rfl, rfl, rfl, ha, hb, rfl⟩, ?_⟩
  rintro m ρ S' ⟨c, d, rfl, rfl, rfl, hc, hd, hg⟩
  walk_at "dgo"
  split
  · rename_i h0
    have h1 := Int.emod_nonneg c (b := d) (by omega)
    have h2 := Int.emod_lt_of_pos c h0
    exact ⟨h0, (c % d).toNat, by omega, d, c % d, rfl, rfl, hd, h1, by rw [← hg]; exact gcd_step c d h0⟩
  · have : d = 0 := by omega
    subst this
    have e : (c : Int) = (Int.gcd a b : Int) := by
      rw [← hg, Int.gcd_zero_right]; omega
    rw [e]; exact h
def sp_frac : DSp := fun ds S P => ∃ a b : Int, ds = [.int a, .int b] ∧ b ≠ 0 ∧ a.natAbs < 2 ^ 8900 ∧ b.natAbs < 2 ^ 8900 ∧ P (encR ((a : Rat) / (b : Rat))) S
def rd_frac : DS :=
  (dSeq (dSet 2 (dCB sp_common (dCons (dCB cAbs (dCons (dVar 0) dNil)) (dCons (dCB cAbs (dCons (dVar 1) dNil)) dNil))))
  (dSeq (dSet 2 (dIf (dTest (dOp dGt (dVar 1) (dC (.int 0)))) (dVar 2) (dUn dNeg (dVar 2))))
  (dRet (dTup (dCons (dOp dFdiv (dVar 0) (dVar 2)) (dCons (dOp dFdiv (dVar 1) (dVar 2)) dNil))))))
def goal_frac : Prop := ∀ (x0 x1 : D) (S : Store) (P : D → Store → Prop), sp_frac [x0, x1] S P → rd_frac (dEnd P) [some x0, some x1, none] S
theorem len_frac : ∀ ds S P, sp_frac ds S P → ds.length = 2 := by
  rintro ds S P ⟨a, b, rfl, _⟩; rfl
theorem abs_if (a : Int) : (if a < 0 then -a else a) = (a.natAbs : Int) := by split <;> omega
theorem gcd_abs (a b : Int) : Int.gcd (a.natAbs : Int) (b.natAbs : Int) = Int.gcd a b := by simp [Int.gcd]
theorem gcd_le_r {a b : Int} (hb : b ≠ 0) : Int.gcd a b ≤ b.natAbs := Nat.le_of_dvd (by omega) (by have := Int.natAbs_dvd_natAbs.mpr (Int.gcd_dvd_right a b); simpa using this)
theorem fdiv_dvd {a g k : Int} (hg : g ≠ 0) (e : a = g * k) : a.fdiv g = k := by
  subst e
  exact Int.mul_fdiv_cancel_left k hg
theorem encR_frac {a b : Int} (hb : b ≠ 0) : encR ((a : Rat) / (b : Rat)) = .tup [.int (b.sign * a / (Int.gcd a b : Int)), .int ((b.natAbs : Int) / (Int.gcd a b : Int))] := by
  obtain ⟨e1, e2⟩ := frac_num (a := a) hb
  unfold encR
  rw [e1, e2]
theorem vc_frac : goal_frac := by
  rintro x0 x1 S P ⟨a, b, e, hb, h1, h2, h⟩
  cases e
  unfold rd_frac
  walk_at "dgo"
  refine ⟨_, _, rfl, by rw [abs_if]; omega, by rw [abs_if]; omega, ?_⟩
  rw [abs_if, abs_if, gcd_abs]
  have hg := gcd_pos_r (a := a) hb
  obtain ⟨k, ek⟩ : (Int.gcd a b : Int) ∣ a := Int.gcd_dvd_left a b
  obtain ⟨l, el⟩ : (Int.gcd a b : Int) ∣ b := Int.gcd_dvd_right a b
  have hgl := gcd_le_r (a := a) hb
  rw [encR_frac hb] at h
  generalize hG : (Int.gcd a b : Int) = g at *
  have hgs : g.natAbs < 2 ^ 8900 := by omega
  walk_at "dgo"
  by_cases hp : 0 < b
  · rw [if_pos hp]
    refine ⟨divB (n := 8900) (by omega) hgs (by decide), divB (n := 8900) (by omega) hgs (by decide), ?_⟩
    rw [Int.sign_eq_one_of_pos hp, Int.one_mul] at h
    have e1 : a.fdiv g = a / g := by rw [Int.fdiv_eq_ediv_of_nonneg _ (by omega)]
    have e2 : b.fdiv g = (b.natAbs : Int) / g := by
      rw [Int.fdiv_eq_ediv_of_nonneg _ (by omega)]
      congr 1; omega
    rw [e1, e2]; exact h
  · rw [if_neg hp]
    refine ⟨divB (n := 8900) (by omega) (by rw [Int.natAbs_neg]; exact hgs) (by decide), divB (n := 8900) (by omega) (by rw [Int.natAbs_neg]; exact hgs) (by decide), ?_⟩
    rw [Int.sign_eq_neg_one_of_neg (show b < 0 by omega)] at h
    have e1 : a.fdiv (-g) = -1 * a / g := by
      rw [fdiv_dvd (k := -k) (by omega) (by rw [Int.neg_mul_neg]; exact ek)]
      rw [show -1 * a = g * (-k) by rw [ek]; simp [Int.mul_neg]]
      rw [Int.mul_ediv_cancel_left _ (by omega)]
    have e2 : b.fdiv (-g) = (b.natAbs : Int) / g := by
      rw [fdiv_dvd (k := -l) (by omega) (by rw [Int.neg_mul_neg]; exact el)]
      rw [show (b.natAbs : Int) = g * (-l) by rw [Int.mul_neg, ← el]; omega]
      rw [Int.mul_ediv_cancel_left _ (by omega)]
    rw [e1, e2]; exact h
theorem bound_mono {x : Nat} {n m : Nat} (h : x < 2 ^ n) (hm : n ≤ m := by decide) : x < 2 ^ m := Nat.lt_of_lt_of_le h (Nat.pow_le_pow_right (by decide) hm)
/-- two fractions of moderate size -/
def sp_plus : DSp := fun ds S P => ∃ q r : Rat, ds = [encR q, encR r] ∧ Sz 4000 q ∧ Sz 4000 r ∧ P (encR (q + r)) S
def rd_plus : DS :=
  (dRet (dCB sp_frac (dCons (dOp dAdd (dOp dMul (dOp dIx (dVar 0) (dC (.int 0))) (dOp dIx (dVar 1) (dC (.int 1)))) (dOp dMul (dOp dIx (dVar 1) (dC (.int 0))) (dOp dIx (dVar 0) (dC (.int 1))))) (dCons (dOp dMul (dOp dIx (dVar 0) (dC (.int 1))) (dOp dIx (dVar 1) (dC (.int 1)))) dNil))))
def goal_plus : Prop := ∀ (x0 x1 : D) (S : Store) (P : D → Store → Prop), sp_plus [x0, x1] S P → rd_plus (dEnd P) [some x0, some x1] S
theorem len_plus : ∀ ds S P, sp_plus ds S P → ds.length = 2 := by
  rintro ds S P ⟨a, b, rfl, _⟩; rfl
theorem szmul {q : Rat} {r : Rat} {n m : Nat} (h1 : Sz n q) (h2 : Sz m r) (h : n + m ≤ 900000) : MulB q.num (r.den : Int) := mulB h1.1 (by simpa using h2.2) h
theorem szmulN {q : Rat} {r : Rat} {n m : Nat} (h1 : Sz n q) (h2 : Sz m r) (h : n + m ≤ 900000) : MulB q.num r.num := mulB h1.1 h2.1 h
theorem szmulD {q : Rat} {r : Rat} {n m : Nat} (h1 : Sz n q) (h2 : Sz m r) (h : n + m ≤ 900000) : MulB (q.den : Int) (r.den : Int) := mulB (by simpa using h1.2) (by simpa using h2.2) h
theorem szmulDN {q : Rat} {r : Rat} {n m : Nat} (h1 : Sz n q) (h2 : Sz m r) (h : n + m ≤ 900000) : MulB (q.den : Int) r.num := mulB (by simpa using h1.2) h2.1 h
theorem vc_plus : goal_plus := by
  rintro x0 x1 S P ⟨q, r, e, h1, h2, h⟩
  cases e
  unfold rd_plus encR
  walk_at "dgo"
  obtain ⟨b1, b2⟩ := add_bound h1 h2 1 rfl
  refine ⟨szmul h1 h2 (by decide), szmul h2 h1 (by decide), szmulD h1 h2 (by decide), _, _, rfl, Int.mul_ne_zero (den_nz q) (den_nz r), bound_mono (by rw [Int.one_mul] at b1; exact b1), bound_mono b2, ?_⟩
  rw [← rat_add]; exact h
def sp_minus : DSp := fun ds S P => ∃ q r : Rat, ds = [encR q, encR r] ∧ Sz 4000 q ∧ Sz 4000 r ∧ P (encR (q - r)) S
def rd_minus : DS :=
  (dRet (dCB sp_frac (dCons (dOp dSub (dOp dMul (dOp dIx (dVar 0) (dC (.int 0))) (dOp dIx (dVar 1) (dC (.int 1)))) (dOp dMul (dOp dIx (dVar 1) (dC (.int 0))) (dOp dIx (dVar 0) (dC (.int 1))))) (dCons (dOp dMul (dOp dIx (dVar 0) (dC (.int 1))) (dOp dIx (dVar 1) (dC (.int 1)))) dNil))))
def goal_minus : Prop := ∀ (x0 x1 : D) (S : Store) (P : D → Store → Prop), sp_minus [x0, x1] S P → rd_minus (dEnd P) [some x0, some x1] S
theorem len_minus : ∀ ds S P, sp_minus ds S P → ds.length = 2 := by
  rintro ds S P ⟨a, b, rfl, _⟩; rfl
theorem vc_minus : goal_minus := by
  rintro x0 x1 S P ⟨q, r, e, h1, h2, h⟩
  cases e
  unfold rd_minus encR
  walk_at "dgo"
  obtain ⟨b1, b2⟩ := add_bound h1 h2 (-1) rfl
  refine ⟨szmul h1 h2 (by decide), szmul h2 h1 (by decide), szmulD h1 h2 (by decide), _, _, rfl, Int.mul_ne_zero (den_nz q) (den_nz r), bound_mono (by
    have e : q.num * (r.den : Int) - r.num * (q.den : Int) = q.num * (r.den : Int) + -1 * (r.num * (q.den : Int)) := by omega
    rw [e]; exact b1), bound_mono b2, ?_⟩
  rw [← rat_sub]; exact h
def sp_times : DSp := fun ds S P => ∃ q r : Rat, ds = [encR q, encR r] ∧ Sz 4000 q ∧ Sz 4000 r ∧ P (encR (q * r)) S
def rd_times : DS :=
  (dRet (dCB sp_frac (dCons (dOp dMul (dOp dIx (dVar 0) (dC (.int 0))) (dOp dIx (dVar 1) (dC (.int 0)))) (dCons (dOp dMul (dOp dIx (dVar 0) (dC (.int 1))) (dOp dIx (dVar 1) (dC (.int 1)))) dNil))))
def goal_times : Prop := ∀ (x0 x1 : D) (S : Store) (P : D → Store → Prop), sp_times [x0, x1] S P → rd_times (dEnd P) [some x0, some x1] S
theorem len_times : ∀ ds S P, sp_times ds S P → ds.length = 2 := by
  rintro ds S P ⟨a, b, rfl, _⟩; rfl
theorem vc_times : goal_times := by
  rintro x0 x1 S P ⟨q, r, e, h1, h2, h⟩
  cases e
  unfold rd_times encR
  walk_at "dgo"
  obtain ⟨b1, b2⟩ := mul_bound h1 h2
  refine ⟨szmulN h1 h2 (by decide), szmulD h1 h2 (by decide), _, _, rfl, Int.mul_ne_zero (den_nz q) (den_nz r), bound_mono b1, bound_mono b2, ?_⟩
  rw [← rat_mul]; exact h
def sp_over : DSp := fun ds S P => ∃ q r : Rat, ds = [encR q, encR r] ∧ r ≠ 0 ∧ Sz 4000 q ∧ Sz 4000 r ∧ P (encR (q / r)) S
def rd_over : DS :=
  (dRet (dCB sp_frac (dCons (dOp dMul (dOp dIx (dVar 0) (dC (.int 0))) (dOp dIx (dVar 1) (dC (.int 1)))) (dCons (dOp dMul (dOp dIx (dVar 0) (dC (.int 1))) (dOp dIx (dVar 1) (dC (.int 0)))) dNil))))
def goal_over : Prop := ∀ (x0 x1 : D) (S : Store) (P : D → Store → Prop), sp_over [x0, x1] S P → rd_over (dEnd P) [some x0, some x1] S
theorem len_over : ∀ ds S P, sp_over ds S P → ds.length = 2 := by
  rintro ds S P ⟨a, b, rfl, _⟩; rfl
theorem vc_over : goal_over := by
  rintro x0 x1 S P ⟨q, r, e, h0, h1, h2, h⟩
  cases e
  unfold rd_over encR
  walk_at "dgo"
  obtain ⟨b1, b2⟩ := div_bound h1 h2
  refine ⟨szmul h1 h2 (by decide), szmulDN h1 h2 (by decide), _, _, rfl, Int.mul_ne_zero (den_nz q) (num_nz h0), bound_mono b1, bound_mono b2, ?_⟩
  rw [← rat_div _ _ h0]; exact h
def sp_is_below : DSp := fun ds S P => ∃ q r : Rat, ds = [encR q, encR r] ∧ Sz 400000 q ∧ Sz 400000 r ∧ P (.bl (decide (q < r))) S
def rd_is_below : DS :=
  (dRet (dOp dLt (dOp dMul (dOp dIx (dVar 0) (dC (.int 0))) (dOp dIx (dVar 1) (dC (.int 1)))) (dOp dMul (dOp dIx (dVar 1) (dC (.int 0))) (dOp dIx (dVar 0) (dC (.int 1))))))
def goal_is_below : Prop := ∀ (x0 x1 : D) (S : Store) (P : D → Store → Prop), sp_is_below [x0, x1] S P → rd_is_below (dEnd P) [some x0, some x1] S
theorem len_is_below : ∀ ds S P, sp_is_below ds S P → ds.length = 2 := by
  rintro ds S P ⟨a, b, rfl, _⟩; rfl
theorem vc_is_below : goal_is_below := by
  rintro x0 x1 S P ⟨q, r, e, h1, h2, h⟩
  cases e
  unfold rd_is_below encR
  walk_at "dgo"
  refine ⟨szmul h1 h2 (by decide), szmul h2 h1 (by decide), ?_⟩
  have e : decide (q < r) = decide (q.num * (r.den : Int) < r.num * (q.den : Int)) := by
    congr 1
    exact propext (Rat.lt_iff q r)
  rw [← e]; exact h
def sp_lesser : DSp := fun ds S P => ∃ q r : Rat, ds = [encR q, encR r] ∧ Sz 400000 q ∧ Sz 400000 r ∧ P (encR (min q r)) S
def rd_lesser : DS :=
  (dRet (dIf (dTest (dCB sp_is_below (dCons (dVar 1) (dCons (dVar 0) dNil)))) (dVar 1) (dVar 0)))
def goal_lesser : Prop := ∀ (x0 x1 : D) (S : Store) (P : D → Store → Prop), sp_lesser [x0, x1] S P → rd_lesser (dEnd P) [some x0, some x1] S
theorem len_lesser : ∀ ds S P, sp_lesser ds S P → ds.length = 2 := by
  rintro ds S P ⟨a, b, rfl, _⟩; rfl
theorem min_if (q r : Rat) : min q r = if r < q then r else q := by
  rw [Rat.instMin.eq_1] <;> first | rfl | grind
theorem vc_lesser : goal_lesser := by
  rintro x0 x1 S P ⟨q, r, e, h1, h2, h⟩
  cases e
  unfold rd_lesser
  walk_at "dgo"
  refine ⟨_, _, rfl, h2, h1, ?_⟩
  walk_at "dgo"
  rw [min_if] at h
  split
  · rename_i hh; rw [if_pos hh] at h; exact h
  · rename_i hh; rw [if_neg hh] at h; exact h
def sp_greater : DSp := fun ds S P => ∃ q r : Rat, ds = [encR q, encR r] ∧ Sz 400000 q ∧ Sz 400000 r ∧ P (encR (max q r)) S
def rd_greater : DS :=
  (dRet (dIf (dTest (dCB sp_is_below (dCons (dVar 0) (dCons (dVar 1) dNil)))) (dVar 1) (dVar 0)))
def goal_greater : Prop := ∀ (x0 x1 : D) (S : Store) (P : D → Store → Prop), sp_greater [x0, x1] S P → rd_greater (dEnd P) [some x0, some x1] S
theorem len_greater : ∀ ds S P, sp_greater ds S P → ds.length = 2 := by
  rintro ds S P ⟨a, b, rfl, _⟩; rfl
theorem max_if (q r : Rat) : max q r = if q < r then r else q := by
  rw [Rat.instMax.eq_1] <;> first | rfl | grind
theorem vc_greater : goal_greater := by
  rintro x0 x1 S P ⟨q, r, e, h1, h2, h⟩
  cases e
  unfold rd_greater
  walk_at "dgo"
  refine ⟨_, _, rfl, h1, h2, ?_⟩
  walk_at "dgo"
  rw [max_if] at h
  split
  · rename_i hh; rw [if_pos hh] at h; exact h
  · rename_i hh; rw [if_neg hh] at h; exact h
def sp_power : DSp := fun ds S P => ∃ b k : Int, ds = [.int b, .int k] ∧ 0 < b ∧ b ≤ 16 ∧ k.natAbs ≤ 900 ∧ P (encR ((b : Rat) ^ k)) S
def rd_power : DS :=
  (dSeq (dSet 2 (dC (.int 1)))
  (dSeq (dFor (dRng1 (dCons (dCB cAbs (dCons (dVar 1) dNil)) dNil)) (.nm 3) (dAug 2 dIMul (dVar 0)))
  (dRet (dIf (dTest (dOp dGe (dVar 1) (dC (.int 0)))) (dTup (dCons (dVar 2) (dCons (dC (.int 1)) dNil))) (dTup (dCons (dC (.int 1)) (dCons (dVar 2) dNil)))))))
def goal_power : Prop := ∀ (x0 x1 : D) (S : Store) (P : D → Store → Prop), sp_power [x0, x1] S P → rd_power (dEnd P) [some x0, some x1, none, none] S
theorem len_power : ∀ ds S P, sp_power ds S P → ds.length = 2 := by
  rintro ds S P ⟨a, b, rfl, _⟩; rfl
theorem vc_power : goal_power := by
  rintro x0 x1 S P ⟨b, k, e, h1, h2, h3, h⟩
  cases e
  unfold rd_power
  walk_at "dgo"
  rw [abs_if]
  refine ⟨by omega, by omega, fun i ρ S' => ∃ z, ρ = [some (.int b), some (.int k), some (.int (b ^ i)), z] ∧ S' = S, ⟨none, by simp, rfl⟩, ?_, ?_⟩
  · rintro i d ρ S' hd ⟨z, rfl, rfl⟩
    refine ⟨_, rfl, ?_⟩
    walk_at "dgo"
    refine ⟨mulS2, some d, ?_⟩
    rw [Int.pow_succ]
  · rintro ρ S' ⟨z, rfl, rfl⟩
    rw [rng_len]
    walk_at "dgo"
    by_cases hk : 0 ≤ k
    · rw [if_pos hk]
      rw [encR_zpow_nn b k hk] at h
      rw [show ((k.natAbs : Int)).toNat = k.toNat by omega]; exact h
    · rw [if_neg hk]
      rw [encR_zpow_neg b k h1 (by omega)] at h
      rw [show ((k.natAbs : Int)).toNat = (-k).toNat by omega]; exact h
end Lb

namespace Lb
open PySem PySem.Spec PyProof.Rows L2 DL
local macro_rules | `(tactic| walk_at "dgo") => `(tactic| try simp only [dSeq, dSet, dPar, dOp, dUn, dVar, dC, dCB, dCons, dNil, dTup, dLst, dLstM, dIfS, dIf, dTest, dNot, dAnd, dOr, dAndV, dOrV, dNotV, dRet, dRetN, dEnd, dNext, dAdd, dSub, dMul, dFdiv, dMod, dPow, dNeg, dLt, dLe, dGt, dGe, dEq, dNe, eqB_ii, eqB_bb, eqB_ss, eqB_nn, eqB_ni, eqB_in, eqB_ns, eqB_sn, eqB_is, eqB_si, eqB_nb, eqB_bn, dIx, dIn, dIsN, dNotN, DL.isNon, cAbs, cMax2, cMin2, cInt, cLen, cList, cTuple, dIsB, dNotB, dPar3, ForN, LcN, pinOf, pin2, dEnum2, dAppend, supd_same0, isi_non_int, isi_non_bool, isi_non_str, isi_non_list, isi_non_tuple, isi_non_lt, isi_bl_int, isi_bl_bool, isi_bl_str, isi_bl_list, isi_bl_tuple, isi_bl_lt, isi_int_int, isi_int_bool, isi_int_str, isi_int_list, isi_int_tuple, isi_int_lt, isi_str_int, isi_str_bool, isi_str_str, isi_str_list, isi_str_tuple, isi_str_lt, isi_lst_int, isi_lst_bool, isi_lst_str, isi_lst_list, isi_lst_tuple, isi_lst_lt, isi_tup_int, isi_tup_bool, isi_tup_str, isi_tup_list, isi_tup_tuple, isi_tup_lt, dAug, dIAdd, dIMul, dDrop, dSl, dPart, dNoPart, dRevL, dCallK, dChainR, dAsg, put_nm, put_tp, put_tl, putL_nil, putL_cons, Option.bind, seqOf, lstOf, dFor, dLc, dLcM, dItSeq, dZip, dZipS, dEnum, dRng1, dRng2, dYes, dwipe, Tgt.slots, Tgt.slotsL,
  atI_0, atI_1, atI_2, atI_3, List.getElem?_cons_zero, List.getElem?_cons_succ, List.set_cons_zero, List.set_cons_succ, decide_eq_true_eq, List.length_cons, List.length_nil, List.cons_append, List.nil_append, List.append_nil, ofString_inj, String.reduceEq, decide_true, decide_false, reduceIte, Bool.false_eq_true, Bool.not_true, Bool.not_false, eqFlat, isFlat, List.any_cons, List.any_nil, List.all_cons, List.all_nil, Bool.or_false, Bool.or_true, Bool.false_or, Bool.true_or, Bool.and_true, Bool.true_and, true_and, and_true, Nat.reduceAdd, Nat.reduceLeDiff, Int.reduceLT, Int.reduceLE, Int.reduceNeg])
/-! ### draws -/
def BoxAt (S : Store) (p : Addr) (n : Nat) : Prop := ∃ a s t : Int, S p = some (.lst [.int a, .int s, .int t]) ∧ 0 ≤ a ∧ 0 ≤ s ∧ s < 2 ^ 62 ∧ 0 ≤ t ∧ t ≤ n
def Drew (S S' : Store) (p : Addr) (n : Nat) : Prop := ∃ a s t : Int, S' = supd S p (.lst [.int a, .int s, .int t]) ∧ 0 ≤ a ∧ 0 ≤ s ∧ s < 2 ^ 62 ∧ 0 ≤ t ∧ t ≤ n
theorem supd_same {S : Store} {p : Addr} {m : MO} : supd S p m p = some m := by unfold supd; rw [if_pos rfl]
theorem supd_ne {S : Store} {p q : Addr} {m : MO} (h : q ≠ p) : supd S p m q = S q := by unfold supd; rw [if_neg h]
theorem supd_supd {S : Store} {p : Addr} {m m' : MO} : supd (supd S p m) p m' = supd S p m' := by
  funext q; unfold supd; split <;> rfl
theorem Drew.box {S S' : Store} {p : Addr} {n : Nat} (h : Drew S S' p n) : BoxAt S' p n := by
  obtain ⟨a, s, t, rfl, h⟩ := h
  exact ⟨a, s, t, supd_same, h⟩
theorem Drew.trans {S S1 S2 : Store} {p : Addr} {n m : Nat} (h : Drew S S1 p n) (h2 : Drew S1 S2 p m) : Drew S S2 p m := by
  obtain ⟨a, s, t, rfl, _⟩ := h
  obtain ⟨a, s, t, rfl, h⟩ := h2
  exact ⟨a, s, t, supd_supd, h⟩
theorem Drew.other {S S' : Store} {p q : Addr} {n : Nat} (h : Drew S S' p n) (hq : q ≠ p) : S' q = S q := by
  obtain ⟨a, s, t, rfl, _⟩ := h
  exact supd_ne hq
theorem Drew.mono {S S' : Store} {p : Addr} {n m : Nat} (h : Drew S S' p n) (hm : n ≤ m) : Drew S S' p m := by
  obtain ⟨a, s, t, e, h1, h2, h3, h4, h5⟩ := h
  exact ⟨a, s, t, e, h1, h2, h3, h4, by omega⟩
theorem BoxAt.mono {S : Store} {p : Addr} {n m : Nat} (h : BoxAt S p n) (hm : n ≤ m) : BoxAt S p m := by
  obtain ⟨a, s, t, e, h1, h2, h3, h4, h5⟩ := h
  exact ⟨a, s, t, e, h1, h2, h3, h4, by omega⟩
theorem BoxAt.refl {S : Store} {p : Addr} {n : Nat} (h : BoxAt S p n) : Drew S S p n := by
  obtain ⟨a, s, t, e, h⟩ := h
  refine ⟨a, s, t, ?_, h⟩
  funext q; unfold supd; split
  · rename_i z; rw [z, e]
  · rfl
def sp_Lcell_at : DSp := fun ds S P => ∃ (ns : List Int) (k : Int), ds = [.ext (ns.map .int), .int k] ∧ 0 ≤ k ∧ ∀ c, P (.int c) S
def rd_Lcell_at : DS :=
  (dSeq (dIfS (dTest (dOp dLt (dVar 1) (dCB cLen (dCons (dVar 0) dNil)))) (dRet (dOp dIx (dVar 0) (dVar 1))) dNext)
  (dRet (dC (.int 0))))
def goal_Lcell_at : Prop := ∀ (x0 x1 : D) (S : Store) (P : D → Store → Prop), sp_Lcell_at [x0, x1] S P → rd_Lcell_at (dEnd P) [some x0, some x1] S
theorem len_Lcell_at : ∀ ds S P, sp_Lcell_at ds S P → ds.length = 2 := by
  rintro ds S P ⟨a, b, rfl, _⟩; rfl
theorem atI_at {α : Type} {l : List α} {k : Int} (h0 : 0 ≤ k) (h1 : k < (l.length : Int)) : atI l k = l[k.toNat]? := by
  unfold atI ixN
  rw [if_pos h0, if_pos h1]
  rfl
theorem vc_Lcell_at : goal_Lcell_at := by
  rintro x0 x1 S P ⟨ns, k, e, h0, h⟩
  cases e
  unfold rd_Lcell_at
  walk_at "dgo"
  split
  · rename_i hk
    rw [atI_at h0 hk]
    rw [List.length_map] at hk
    have : k.toNat < ns.length := by omega
    rw [List.getElem?_map, List.getElem?_eq_getElem this]
    exact h _
  · exact h _
def sp_Lbox : DSp := fun ds S P => ∃ (ns : List Int) (k : Int), ds = [.ext (ns.map .int), .int k] ∧ 0 ≤ k ∧ k ≤ 1000 ∧ ∀ p S', S p = none → Drew S S' p 0 → P (.obj p) S'
def rd_Lbox : DS :=
  (dSeq (dSet 2 (dCB sp_Lcell_at (dCons (dVar 0) (dCons (dVar 1) dNil))))
  (dRet (dLstM (dCons (dOp dMul (dCB cAbs (dCons (dVar 2) dNil)) (dCB cInt (dCons (dOp dGe (dCB cAbs (dCons (dVar 2) dNil)) (dOp dPow (dC (.int 10)) (dC (.int 18)))) dNil))) (dCons (dOp dAdd (dOp dAdd (dOp dMod (dVar 2) (dC (.int 2305843009213693951))) (dOp dMul (dC (.int 39373)) (dVar 1))) (dC (.int 17))) (dCons (dC (.int 0)) dNil))))))
def goal_Lbox : Prop := ∀ (x0 x1 : D) (S : Store) (P : D → Store → Prop), sp_Lbox [x0, x1] S P → rd_Lbox (dEnd P) [some x0, some x1, none] S
theorem len_Lbox : ∀ ds S P, sp_Lbox ds S P → ds.length = 2 := by
  rintro ds S P ⟨a, b, rfl, _⟩; rfl
theorem vc_Lbox : goal_Lbox := by
  rintro x0 x1 S P ⟨ns, k, e, h0, h1, h⟩
  cases e
  unfold rd_Lbox
  walk_at "dgo"
  refine ⟨ns, k, rfl, h0, fun c => ?_⟩
  walk_at "dgo"
  refine ⟨⟨by decide, by decide, by decide⟩, mulS2 (by (repeat' split) <;> decide), mulS, fun p hp => h p _ hp ⟨_, _, 0, rfl, ?_, ?_, ?_, by decide, by decide⟩⟩
  · rw [abs_if]
    split <;> simp
  · have := Int.emod_nonneg c (show (2305843009213693951 : Int) ≠ 0 by decide)
    omega
  · have := Int.emod_lt_of_pos c (show (0 : Int) < 2305843009213693951 by decide)
    omega
def sp_Ltake : DSp := fun ds S P => ∃ (p : Addr) (size : Int) (n : Nat), ds = [.obj p, .int size] ∧ 0 < size ∧ size ≤ 2 ^ 40 ∧ BoxAt S p n ∧ n ≤ 1000000000 ∧ ∀ x S', 0 ≤ x → x < size → Drew S S' p (n + 1) → P (.int x) S'
def rd_Ltake : DS :=
  (dSeq (dIfS (dTest (dOp dGt (dOp dIx (dVar 0) (dC (.int 0))) (dC (.int 0)))) (dSeq (dSet 2 (dOp dMod (dOp dIx (dVar 0) (dC (.int 0))) (dVar 1)))
  (dSeq (dSetIx (dOp dFdiv (dOp dIx (dVar 0) (dC (.int 0))) (dVar 1)) (dVar 0) (dC (.int 0)))
  (dRet (dVar 2)))) dNext)
  (dSeq (dSetIx (dOp dAdd (dOp dIx (dVar 0) (dC (.int 2))) (dC (.int 1))) (dVar 0) (dC (.int 2)))
  (dSeq (dSet 3 (dOp dMod (dOp dMul (dOp dAdd (dOp dIx (dVar 0) (dC (.int 1))) (dOp dMul (dC (.int 48271)) (dOp dIx (dVar 0) (dC (.int 2))))) (dOp dAdd (dC (.int 39373)) (dOp dIx (dVar 0) (dC (.int 2))))) (dC (.int 2147483647))))
  (dSeq (dSet 4 (dOp dMod (dOp dMul (dOp dAdd (dOp dAdd (dVar 3) (dOp dIx (dVar 0) (dC (.int 2)))) (dOp dFdiv (dOp dIx (dVar 0) (dC (.int 1))) (dC (.int 1000003)))) (dOp dAdd (dOp dMod (dVar 3) (dC (.int 40009))) (dC (.int 7)))) (dC (.int 2147483629))))
  (dRet (dOp dMod (dOp dFdiv (dOp dMod (dOp dAdd (dOp dMul (dVar 4) (dC (.int 48271))) (dVar 3)) (dC (.int 2147483587))) (dC (.int 64))) (dVar 1)))))))
def goal_Ltake : Prop := ∀ (x0 x1 : D) (S : Store) (P : D → Store → Prop), sp_Ltake [x0, x1] S P → rd_Ltake (dEnd P) [some x0, some x1, none, none, none] S
theorem len_Ltake : ∀ ds S P, sp_Ltake ds S P → ds.length = 2 := by
  rintro ds S P ⟨a, b, n, rfl, _⟩; rfl
theorem vc_Ltake : goal_Ltake := by
  rintro x0 x1 S P ⟨p, size, n, e, h0, h1, ⟨a, s, t, eb, b1, b2, b3, b4, b5⟩, hn, h⟩
  cases e
  unfold rd_Ltake dSetIx
  walk_at "dgo"
  simp only [eb]
  walk_at "dgo"
  have hx : ∀ y : Int, 0 ≤ y % size ∧ y % size < size := fun y => ⟨Int.emod_nonneg y (by omega), Int.emod_lt_of_pos y h0⟩
  split
  · rename_i ha
    refine ⟨h0, divS (by omega) (by omega), ?_⟩
    have e0 : ixN (0 + 1 + 1 + 1) 0 = some 0 := rfl
    simp only [e0, List.set_cons_zero]
    walk_at "dgo"
    exact h _ _ (hx a).1 (hx a).2 ⟨_, _, _, rfl, by rw [Int.fdiv_eq_ediv_of_nonneg _ (by omega)]; exact Int.ediv_nonneg b1 (by omega), b2, b3, b4, by omega⟩
  · have e2 : ixN (0 + 1 + 1 + 1) 2 = some 2 := rfl
    simp only [e2, List.set_cons_zero, List.set_cons_succ]
    walk_at "dgo"
    try simp only [supd_same]
    walk_at "dgo"
    have ht : t ≤ 1000000000 := by
      have hn2 : n ≤ 1000000000 := hn
      omega
    generalize hy1 : (s + 48271 * (t + 1)) * (39373 + (t + 1)) = y1
    have m1 : 0 ≤ y1 % 2147483647 ∧ y1 % 2147483647 < 2147483647 := ⟨Int.emod_nonneg _ (by decide), Int.emod_lt_of_pos _ (by decide)⟩
    generalize y1 % 2147483647 = z1 at *
    have hd : 0 ≤ s.fdiv 1000003 ∧ s.fdiv 1000003 ≤ s := by
      rw [Int.fdiv_eq_ediv_of_nonneg _ (by decide)]
      constructor
      · exact Int.ediv_nonneg b2 (by decide)
      · exact Int.ediv_le_self _ b2
    generalize s.fdiv 1000003 = z2 at *
    have m2 : 0 ≤ z1 % 40009 ∧ z1 % 40009 < 40009 := ⟨Int.emod_nonneg _ (by decide), Int.emod_lt_of_pos _ (by decide)⟩
    generalize z1 % 40009 = z3 at *
    generalize hy2 : (z1 + (t + 1) + z2) * (z3 + 7) = y2
    have m3 : 0 ≤ y2 % 2147483629 ∧ y2 % 2147483629 < 2147483629 := ⟨Int.emod_nonneg _ (by decide), Int.emod_lt_of_pos _ (by decide)⟩
    generalize y2 % 2147483629 = z4 at *
    refine ⟨mulS, mulS (by omega), divS (by decide) (by decide), mulS (by omega), mulS (by omega), divS (by decide) (by decide), h0, ?_⟩
    exact h _ _ (hx _).1 (hx _).2 ⟨_, _, _, rfl, b1, b2, b3, by omega, by omega⟩
def sp_Lof : DSp := fun ds S P => ∃ (p : Addr) (y : D) (xs : List D) (n : Nat), ds = [.obj p, y] ∧ (y = .lst xs ∨ y = .tup xs) ∧ 0 < xs.length ∧ xs.length ≤ 100000 ∧ BoxAt S p n ∧ n ≤ 1000000000 ∧ ∀ x S', x ∈ xs → Drew S S' p (n + 1) → P x S'
def rd_Lof : DS :=
  (dRet (dOp dIx (dVar 1) (dCB sp_Ltake (dCons (dVar 0) (dCons (dCB cLen (dCons (dVar 1) dNil)) dNil)))))
def goal_Lof : Prop := ∀ (x0 x1 : D) (S : Store) (P : D → Store → Prop), sp_Lof [x0, x1] S P → rd_Lof (dEnd P) [some x0, some x1] S
theorem len_Lof : ∀ ds S P, sp_Lof ds S P → ds.length = 2 := by
  rintro ds S P ⟨a, b, xs, n, rfl, _⟩; rfl
theorem vc_Lof : goal_Lof := by
  rintro x0 x1 S P ⟨p, y, xs, n, e, hy, h0, h1, hb, hn, h⟩
  cases e
  unfold rd_Lof
  rcases hy with rfl | rfl
  all_goals
    walk_at "dgo"
    refine ⟨p, _, n, rfl, by omega, by omega, hb, hn, fun x S' hx1 hx2 hd => ?_⟩
    walk_at "dgo"
    have hl : x.toNat < xs.length := by omega
    rw [atI_at hx1 hx2, List.getElem?_eq_getElem hl]
    exact h _ _ (List.getElem_mem hl) hd
end Lb

namespace Lb
open PySem PySem.Spec PyProof.Rows L2 DL
local macro_rules | `(tactic| walk_at "dgo") => `(tactic| try simp only [dSeq, dSet, dPar, dOp, dUn, dVar, dC, dCB, dCons, dNil, dTup, dLst, dLstM, dIfS, dIf, dTest, dNot, dAnd, dOr, dAndV, dOrV, dNotV, dRet, dRetN, dEnd, dNext, dAdd, dSub, dMul, dFdiv, dMod, dPow, dNeg, dLt, dLe, dGt, dGe, dEq, dNe, eqB_ii, eqB_bb, eqB_ss, eqB_nn, eqB_ni, eqB_in, eqB_ns, eqB_sn, eqB_is, eqB_si, eqB_nb, eqB_bn, dIx, dIn, dIsN, dNotN, DL.isNon, cAbs, cMax2, cMin2, cInt, cLen, cList, cTuple, dIsB, dNotB, dPar3, ForN, LcN, pinOf, pin2, dEnum2, dAppend, supd_same0, isi_non_int, isi_non_bool, isi_non_str, isi_non_list, isi_non_tuple, isi_non_lt, isi_bl_int, isi_bl_bool, isi_bl_str, isi_bl_list, isi_bl_tuple, isi_bl_lt, isi_int_int, isi_int_bool, isi_int_str, isi_int_list, isi_int_tuple, isi_int_lt, isi_str_int, isi_str_bool, isi_str_str, isi_str_list, isi_str_tuple, isi_str_lt, isi_lst_int, isi_lst_bool, isi_lst_str, isi_lst_list, isi_lst_tuple, isi_lst_lt, isi_tup_int, isi_tup_bool, isi_tup_str, isi_tup_list, isi_tup_tuple, isi_tup_lt, dAug, dIAdd, dIMul, dDrop, dSl, dPart, dNoPart, dRevL, dCallK, dChainR, dAsg, put_nm, put_tp, put_tl, putL_nil, putL_cons, Option.bind, seqOf, lstOf, dFor, dLc, dLcM, dItSeq, dZip, dZipS, dEnum, dRng1, dRng2, dYes, dwipe, Tgt.slots, Tgt.slotsL,
  atI_0, atI_1, atI_2, atI_3, List.getElem?_cons_zero, List.getElem?_cons_succ, List.set_cons_zero, List.set_cons_succ, decide_eq_true_eq, List.length_cons, List.length_nil, List.cons_append, List.nil_append, List.append_nil, ofString_inj, String.reduceEq, decide_true, decide_false, reduceIte, Bool.false_eq_true, Bool.not_true, Bool.not_false, eqFlat, isFlat, List.any_cons, List.any_nil, List.all_cons, List.all_nil, Bool.or_false, Bool.or_true, Bool.false_or, Bool.true_or, Bool.and_true, Bool.true_and, true_and, and_true, Nat.reduceAdd, Nat.reduceLeDiff, Int.reduceLT, Int.reduceLE, Int.reduceNeg])
/-! ### powers and order -/
theorem ratpos {b : Int} (h : 0 < b) : (0 : Rat) < (b : Rat) := Rat.intCast_pos.mpr h
theorem one_le_pow {b : Rat} (h : 1 ≤ b) : ∀ n : Nat, 1 ≤ b ^ n
  | 0 => by simp
  | n + 1 => by
    rw [Rat.pow_succ]
    have h1 := one_le_pow h n
    have h2 := Rat.mul_le_mul_of_nonneg_left (c := b ^ n) h (by grind)
    grind
theorem zpow_mono {b : Int} (hb : 1 ≤ b) {m n : Int} (h : m ≤ n) : (b : Rat) ^ m ≤ (b : Rat) ^ n := by
  have hp : (0 : Rat) < (b : Rat) := ratpos (by omega)
  have e : n = m + ((n - m).toNat : Int) := by omega
  rw [e, Rat.zpow_add (by grind)]
  have h1 : (1 : Rat) ≤ (b : Rat) ^ (((n - m).toNat : Nat) : Int) := one_le_pow (by
    have : (1 : Rat) = ((1 : Int) : Rat) := rfl
    rw [this]; exact Rat.intCast_le_intCast.mpr hb) _
  have h2 := Rat.mul_le_mul_of_nonneg_left (c := (b : Rat) ^ m) h1 (Rat.le_of_lt (Rat.zpow_pos hp))
  grind
/-- a fraction above 0 of so many bits lies between such powers of two -/
theorem sz_lt {q : Rat} {n : Nat} (h : Sz n q) (hq : 0 < q) : q < (2 : Rat) ^ n ∧ 1 < q * (2 : Rat) ^ n := by
  have hn : 0 < q.num := by simpa using (Rat.lt_iff 0 q).mp hq
  have hd : (0 : Rat) < ((q.den : Int) : Rat) := ratpos (by have := q.den_pos; omega)
  have e := rat_eq q
  have p2 : ((2 ^ n : Nat) : Rat) = (2 : Rat) ^ n := by
    have := intpow_cast 2 n
    rw [← Rat.intCast_natCast]
    exact_mod_cast this
  have h1 : (q.num : Rat) < (2 : Rat) ^ n := by
    rw [← p2, ← Rat.intCast_natCast]
    exact Rat.intCast_lt_intCast.mpr (by have := h.1; omega)
  have h2 : ((q.den : Int) : Rat) < (2 : Rat) ^ n := by
    rw [← p2, ← Rat.intCast_natCast]
    exact Rat.intCast_lt_intCast.mpr (by have := h.2; omega)
  have h3 : (1 : Rat) ≤ (q.num : Rat) := by
    have : (1 : Rat) = ((1 : Int) : Rat) := rfl
    rw [this]; exact Rat.intCast_le_intCast.mpr hn
  have h4 : (1 : Rat) ≤ ((q.den : Int) : Rat) := by
    have : (1 : Rat) = ((1 : Int) : Rat) := rfl
    rw [this]; exact Rat.intCast_le_intCast.mpr (by have := q.den_pos; omega)
  have em : q * ((q.den : Int) : Rat) = (q.num : Rat) := by
    conv => lhs; lhs; rw [e]
    exact Rat.div_mul_cancel (den_ne q)
  constructor
  · have := Rat.mul_le_mul_of_nonneg_left (c := q) h4 (Rat.le_of_lt hq)
    grind
  · have := Rat.mul_lt_mul_of_pos_left h2 hq
    grind
/-! ### the least power that is enough -/
def IsLp (b room : Int) (need : Rat) (d : Int) : Prop := need ≤ (b : Rat) ^ d * (room : Rat) ∧ (b : Rat) ^ (d - 1) * (room : Rat) < need
def sp_least_power : DSp := fun ds S P => ∃ (b room : Int) (need : Rat), ds = [.int b, .int room, encR need] ∧ 2 ≤ b ∧ b ≤ 16 ∧ 1 ≤ room ∧ room < 2 ^ 20 ∧ 0 < need ∧ Sz 800 need ∧ ∀ d, IsLp b room need d → -830 ≤ d → d ≤ 830 → P (.int d) S
def rd_least_power : DS :=
  (dSeq (dSet 3 (dC (.int 0)))
  (dSeq (dWhile (dTest (dCB sp_is_below (dCons (dCB sp_times (dCons (dCB sp_power (dCons (dVar 0) (dCons (dVar 3) dNil))) (dCons (dTup (dCons (dVar 1) (dCons (dC (.int 1)) dNil))) dNil))) (dCons (dVar 2) dNil)))) (dAug 3 dIAdd (dC (.int 1))))
  (dSeq (dWhile (dNot (dTest (dCB sp_is_below (dCons (dCB sp_times (dCons (dCB sp_power (dCons (dVar 0) (dCons (dOp dSub (dVar 3) (dC (.int 1))) dNil))) (dCons (dTup (dCons (dVar 1) (dCons (dC (.int 1)) dNil))) dNil))) (dCons (dVar 2) dNil))))) (dAug 3 dSub (dC (.int 1))))
  (dRet (dVar 3)))))
def goal_least_power : Prop := ∀ (x0 x1 x2 : D) (S : Store) (P : D → Store → Prop), sp_least_power [x0, x1, x2] S P → rd_least_power (dEnd P) [some x0, some x1, some x2, none] S
theorem len_least_power : ∀ ds S P, sp_least_power ds S P → ds.length = 3 := by
  rintro ds S P ⟨a, b, n, rfl, _⟩; rfl
theorem pow2_le {b : Int} (hb : 2 ≤ b) (n : Nat) : (2 : Rat) ^ n ≤ (b : Rat) ^ n := by
  induction n with
  | zero => simp
  | succ n ih =>
    rw [Rat.pow_succ, Rat.pow_succ]
    have h2 : (2 : Rat) ≤ (b : Rat) := by
      have : (2 : Rat) = ((2 : Int) : Rat) := rfl
      rw [this]; exact Rat.intCast_le_intCast.mpr hb
    have p : (0 : Rat) < (2 : Rat) ^ n := Rat.pow_pos (by decide)
    have a1 := Rat.mul_le_mul_of_nonneg_left (c := (2 : Rat) ^ n) h2 (Rat.le_of_lt p)
    have a2 := Rat.mul_le_mul_of_nonneg_right (c := (b : Rat)) ih (by grind)
    grind
theorem lp_high {b room : Int} {need : Rat} (hb : 2 ≤ b) (hr : 1 ≤ room) (h : Sz 800 need) (h0 : 0 < need) {d : Int} (hd : 800 ≤ d) : ¬ (b : Rat) ^ d * (room : Rat) < need := by
  intro hl
  have h1 := (sz_lt h h0).1
  have h2 := pow2_le hb 800
  have h3 := zpow_mono (show (1 : Int) ≤ b by omega) (show ((800 : Nat) : Int) ≤ d by omega)
  rw [zpow_of_nat] at h3
  have hr1 : (1 : Rat) ≤ (room : Rat) := by
    have : (1 : Rat) = ((1 : Int) : Rat) := rfl
    rw [this]; exact Rat.intCast_le_intCast.mpr hr
  have h4 : (0 : Rat) < (b : Rat) ^ d := Rat.zpow_pos (ratpos (by omega))
  have h5 := Rat.mul_le_mul_of_nonneg_left (c := (b : Rat) ^ d) hr1 (Rat.le_of_lt h4)
  generalize (2 : Rat) ^ 800 = z at *
  generalize (b : Rat) ^ 800 = y at *
  grind
theorem lp_low {b room : Int} {need : Rat} (hb : 2 ≤ b) (hr : 1 ≤ room) (hr2 : room < 2 ^ 20) (h : Sz 800 need) (h0 : 0 < need) {d : Int} (hd : d ≤ -820) : (b : Rat) ^ d * (room : Rat) < need := by
  have h1 := (sz_lt h h0).2
  have h2 := pow2_le hb 820
  have h3 := zpow_mono (show (1 : Int) ≤ b by omega) (show d ≤ -((820 : Nat) : Int) by omega)
  rw [Rat.zpow_neg, zpow_of_nat] at h3
  have hp : (0 : Rat) < (b : Rat) ^ 820 := Rat.pow_pos (ratpos (by omega))
  have hr1 : (room : Rat) < (2 : Rat) ^ 20 := by
    have e : (2 : Rat) ^ 20 = ((2 ^ 20 : Int) : Rat) := by rw [intpow_cast]; rfl
    rw [e]; exact Rat.intCast_lt_intCast.mpr hr2
  have hr0 : (0 : Rat) < (room : Rat) := ratpos (by omega)
  have e2 : (2 : Rat) ^ 820 = (2 : Rat) ^ 800 * (2 : Rat) ^ 20 := by
    have := Rat.zpow_add (q := 2) (by decide) ((800 : Nat) : Int) ((20 : Nat) : Int)
    exact this
  rw [e2] at h2
  have hz : (0 : Rat) < (2 : Rat) ^ 800 := Rat.pow_pos (by decide)
  have hw : (0 : Rat) < (2 : Rat) ^ 20 := Rat.pow_pos (by decide)
  generalize (2 : Rat) ^ 800 = z at *
  generalize (2 : Rat) ^ 20 = w at *
  generalize (b : Rat) ^ 820 = y at *
  -- b^d ≤ 1/y ≤ 1/(z w), room < w, so b^d room < 1/z < need
  have a1 : (b : Rat) ^ d * y ≤ 1 := by
    have := Rat.mul_le_mul_of_nonneg_right (c := y) h3 (Rat.le_of_lt hp)
    rw [Rat.inv_mul_cancel _ (by grind)] at this
    exact this
  have hbd : (0 : Rat) < (b : Rat) ^ d := Rat.zpow_pos (ratpos (by omega))
  generalize (b : Rat) ^ d = x at *
  have a2 : x * (z * w) ≤ 1 := by
    have := Rat.mul_le_mul_of_nonneg_left (c := x) h2 (Rat.le_of_lt hbd)
    grind
  have a3 : x * (room : Rat) * z < 1 := by
    have t1 := Rat.mul_lt_mul_of_pos_left hr1 (show (0 : Rat) < x * z from Rat.mul_pos hbd hz)
    grind
  have a4 : x * (room : Rat) * z < need * z := by grind
  exact Rat.lt_of_mul_lt_mul_right a4 (Rat.le_of_lt hz)
theorem vc_least_power : goal_least_power := by
  rintro x0 x1 x2 S P ⟨b, room, need, e, h1, h2, h3, h4, h5, h6, h⟩
  cases e
  unfold rd_least_power
  have szr : Sz 21 ((room : Int) : Rat) := sz_int (by omega)
  have szp : ∀ d : Int, -830 ≤ d → d ≤ 830 → Sz 4000 ((b : Rat) ^ d) := fun d a1 a2 => (sz_zpow (k := d) (by omega) h2).mono (by omega)
  have szm : ∀ d : Int, -830 ≤ d → d ≤ 830 → Sz 400000 ((b : Rat) ^ d * (room : Rat)) := fun d a1 a2 => (sz_mul (szp d a1 a2) szr).mono (by decide)
  have szn : Sz 400000 need := h6.mono (by decide)
  -- one look
  have look : ∀ (d : Int) (Q : D → Store → Prop) (S : Store), -830 ≤ d → d ≤ 830 → Q (.bl (decide ((b : Rat) ^ d * (room : Rat) < need))) S →
      sp_power [.int b, .int d] S fun x S1 => sp_times [x, .tup [.int room, .int 1]] S1 fun y S2 => sp_is_below [y, encR need] S2 Q := fun d Q S a1 a2 q =>
    ⟨b, d, rfl, by omega, h2, by omega, _, ((room : Int) : Rat), rfl, szp d a1 a2, szr.mono (by decide), _, _, rfl, szm d a1 a2, szn, q⟩
  unfold dWhile
  walk_at "dgo"
  refine ⟨fun m ρ S' => ∃ lag : Int, ρ = [some (.int b), some (.int room), some (encR need), some (.int lag)] ∧ S' = S ∧ 0 ≤ lag ∧ lag ≤ 800 ∧ m = (800 - lag).toNat, ⟨800, 0, rfl, rfl, by decide, by decide, by decide⟩, ?_⟩
  rintro m ρ S' ⟨lag, rfl, rfl, l0, l1, rfl⟩
  walk_at "dgo"
  refine look lag _ _ (by omega) (by omega) ?_
  walk_at "dgo"
  split
  · rename_i hlt
    have : ¬ 800 ≤ lag := fun z => lp_high h1 h3 h6 h5 z hlt
    exact ⟨_, by omega, lag + 1, rfl, by omega, by omega, rfl⟩
  · rename_i hge
    refine ⟨fun m ρ S'' => ∃ lag : Int, ρ = [some (.int b), some (.int room), some (encR need), some (.int lag)] ∧ S'' = S' ∧ -820 ≤ lag ∧ lag ≤ 800 ∧ ¬ (b : Rat) ^ lag * (room : Rat) < need ∧ m = (lag + 820).toNat, ⟨_, lag, rfl, rfl, by omega, by omega, hge, rfl⟩, ?_⟩
    rintro m ρ S'' ⟨lag, rfl, rfl, l0, l1, hl, rfl⟩
    walk_at "dgo"
    refine look (lag - 1) _ _ (by omega) (by omega) ?_
    walk_at "dgo"
    by_cases hc : (b : Rat) ^ (lag - 1) * (room : Rat) < need
    · simp only [hc, decide_true, Bool.not_true, Bool.false_eq_true, reduceIte]
      exact h lag ⟨Rat.not_lt.mp hl, hc⟩ (by omega) (by omega)
    · simp only [hc, decide_false, Bool.not_false, reduceIte]
      have : ¬ lag - 1 ≤ -820 := fun z => hc (lp_low h1 h3 h4 h6 h5 z)
      exact ⟨_, by omega, lag - 1, rfl, by omega, by omega, hc, rfl⟩
end Lb

namespace Lb
open PySem PySem.Spec PyProof.Rows L2 DL
local macro_rules | `(tactic| walk_at "dgo") => `(tactic| try simp only [dSeq, dSet, dPar, dOp, dUn, dVar, dC, dCB, dCons, dNil, dTup, dLst, dLstM, dIfS, dIf, dTest, dNot, dAnd, dOr, dAndV, dOrV, dNotV, dRet, dRetN, dEnd, dNext, dAdd, dSub, dMul, dFdiv, dMod, dPow, dNeg, dLt, dLe, dGt, dGe, dEq, dNe, eqB_ii, eqB_bb, eqB_ss, eqB_nn, eqB_ni, eqB_in, eqB_ns, eqB_sn, eqB_is, eqB_si, eqB_nb, eqB_bn, dIx, dIn, dIsN, dNotN, DL.isNon, cAbs, cMax2, cMin2, cInt, cLen, cList, cTuple, dIsB, dNotB, dPar3, ForN, LcN, pinOf, pin2, dEnum2, dAppend, supd_same0, isi_non_int, isi_non_bool, isi_non_str, isi_non_list, isi_non_tuple, isi_non_lt, isi_bl_int, isi_bl_bool, isi_bl_str, isi_bl_list, isi_bl_tuple, isi_bl_lt, isi_int_int, isi_int_bool, isi_int_str, isi_int_list, isi_int_tuple, isi_int_lt, isi_str_int, isi_str_bool, isi_str_str, isi_str_list, isi_str_tuple, isi_str_lt, isi_lst_int, isi_lst_bool, isi_lst_str, isi_lst_list, isi_lst_tuple, isi_lst_lt, isi_tup_int, isi_tup_bool, isi_tup_str, isi_tup_list, isi_tup_tuple, isi_tup_lt, dAug, dIAdd, dIMul, dDrop, dSl, dPart, dNoPart, dRevL, dCallK, dChainR, dAsg, put_nm, put_tp, put_tl, putL_nil, putL_cons, Option.bind, seqOf, lstOf, dFor, dLc, dLcM, dItSeq, dZip, dZipS, dEnum, dRng1, dRng2, dYes, dwipe, Tgt.slots, Tgt.slotsL,
  atI_0, atI_1, atI_2, atI_3, List.getElem?_cons_zero, List.getElem?_cons_succ, List.set_cons_zero, List.set_cons_succ, decide_eq_true_eq, List.length_cons, List.length_nil, List.cons_append, List.nil_append, List.append_nil, ofString_inj, String.reduceEq, decide_true, decide_false, reduceIte, Bool.false_eq_true, Bool.not_true, Bool.not_false, eqFlat, isFlat, List.any_cons, List.any_nil, List.all_cons, List.all_nil, Bool.or_false, Bool.or_true, Bool.false_or, Bool.true_or, Bool.and_true, Bool.true_and, true_and, and_true, Nat.reduceAdd, Nat.reduceLeDiff, Int.reduceLT, Int.reduceLE, Int.reduceNeg])
/-! ### list comprehensions -/
/-- over the data of some things, the data of others, nothing drawn -/
theorem lc_mapA {α : Type} {t : Tgt} {de : DE} {P : D → Store → Prop} {xs : List α} {ρ : DSt} {S : Store} (f g : α → D) (hl : xs.length ≤ 100000)
    (h : ∀ a, a ∈ xs → ∃ ρ', t.put (f a) (dwipe ρ t.slots) = some ρ' ∧ ∀ Q : D → Store → Prop, Q (g a) S → de ρ' S Q) (q : P (.lst (xs.map g)) S) : LcB t dYes de P (xs.map f) ρ S := by
  refine ⟨by simpa using hl, fun i acc S' => acc = (xs.take i).map g ∧ S' = S, ⟨rfl, rfl⟩, ?_, ?_⟩
  · rintro i d acc S' hd ⟨rfl, rfl⟩
    rw [List.getElem?_map] at hd
    cases e : xs[i]? with
    | none => rw [e] at hd; cases hd
    | some a =>
      rw [e] at hd
      cases hd
      obtain ⟨ρ', h1, h2⟩ := h a (List.mem_of_getElem? e)
      refine ⟨ρ', h1, ?_⟩
      simp only [dYes, reduceIte]
      refine h2 _ ⟨?_, rfl⟩
      rw [List.take_add_one, e]
      simp
  · rintro acc S' ⟨rfl, rfl⟩
    rw [List.length_map, List.take_length]
    exact q
/-- each item by itself, with draws on the way: R of each, St between -/
theorem lc_st {t : Tgt} {de : DE} {P : D → Store → Prop} {ds : List D} {ρ : DSt} {S : Store} (R : Nat → D → Prop) (St : Nat → Store → Prop) (hl : ds.length ≤ 100000) (h0 : St 0 S)
    (h : ∀ (i : Nat) (d : D) (S' : Store), ds[i]? = some d → St i S' → ∃ ρ', t.put d (dwipe ρ t.slots) = some ρ' ∧ ∀ Q : D → Store → Prop, (∀ y S'', R i y → St (i + 1) S'' → Q y S'') → de ρ' S' Q)
    (q : ∀ ys S', ys.length = ds.length → (∀ i y, ys[i]? = some y → R i y) → St ds.length S' → P (.lst ys) S') : LcB t dYes de P ds ρ S := by
  refine ⟨hl, fun i acc S' => acc.length = i ∧ (∀ j y, acc[j]? = some y → R j y) ∧ St i S', ⟨rfl, by simp, h0⟩, ?_, ?_⟩
  · rintro i d acc S' hd ⟨rfl, hr, hs⟩
    obtain ⟨ρ', h1, h2⟩ := h _ d S' hd hs
    refine ⟨ρ', h1, ?_⟩
    simp only [dYes, reduceIte]
    refine h2 _ fun y S'' r s => ⟨by simp, fun j z hz => ?_, s⟩
    by_cases hj : j < acc.length
    · rw [List.getElem?_append_left hj] at hz
      exact hr j z hz
    · rw [List.getElem?_append_right (by omega)] at hz
      have hj2 : j = acc.length := by
        have := (List.getElem?_eq_some_iff.mp hz).1
        simp at this
        omega
      subst hj2
      simp at hz
      exact hz ▸ r
  · rintro acc S' ⟨h1, h2, h3⟩
    exact q acc S' h1 h2 h3
/-- lists of data with a property are data of things -/
theorem ex_map {α : Type} {f : α → D} {R : α → Prop} : ∀ {ys : List D}, (∀ y, y ∈ ys → ∃ a, y = f a ∧ R a) → ∃ as : List α, ys = as.map f ∧ ∀ a, a ∈ as → R a
  | [], _ => ⟨[], rfl, by simp⟩
  | y :: ys, h => by
    obtain ⟨a, rfl, ra⟩ := h y (by simp)
    obtain ⟨as, rfl, ras⟩ := ex_map (f := f) (R := R) (ys := ys) (fun z hz => h z (by simp [hz]))
    exact ⟨a :: as, rfl, fun b hb => by
      rcases List.mem_cons.mp hb with rfl | hb
      · exact ra
      · exact ras b hb⟩
/-- all([right(..) for ..]), each of them true, whatever is drawn -/
theorem all_true {t : Tgt} {de : DE} {P : D → Store → Prop} {ds : List D} {ρ : DSt} {S : Store} (hl : ds.length ≤ 100000)
    (h : ∀ (i : Nat) (d : D) (S' : Store), ds[i]? = some d → ∃ ρ', t.put d (dwipe ρ t.slots) = some ρ' ∧ ∀ Q : D → Store → Prop, (∀ S'', Q (.bl true) S'') → de ρ' S' Q)
    (q : ∀ S', P (.bl true) S') : LcB t dYes de (fun x S1 => cAll [x] S1 P) ds ρ S :=
  lc_st (fun _ y => y = .bl true) (fun _ _ => True) hl trivial (fun i d S' hd _ => by
    obtain ⟨ρ', h1, h2⟩ := h i d S' hd
    exact ⟨ρ', h1, fun Q hq => h2 Q fun S'' => hq _ _ rfl trivial⟩) fun ys S' hy hr _ => by
    obtain ⟨bs, rfl, hb⟩ := ex_map (f := D.bl) (R := fun b => b = true) (ys := ys) fun y hy => by
      obtain ⟨i, hi⟩ := List.mem_iff_getElem?.mp hy
      exact ⟨true, hr i y hi, rfl⟩
    unfold cAll
    simp only [lstOf, Option.bind, dBools_map]
    have e : bs.all id = true := List.all_eq_true.mpr fun b hb' => hb b hb'
    rw [e]; exact q _
/-! ### draws, only the box looked at -/
theorem take_ok {p : Addr} {n : Nat} {size : Int} {S : Store} {P : D → Store → Prop} (hb : BoxAt S p n) (h0 : 0 < size) (h1 : size ≤ 2 ^ 40) (hn : n ≤ 1000000000) (h : ∀ x S', 0 ≤ x → x < size → BoxAt S' p (n + 1) → P (.int x) S') : sp_Ltake [.obj p, .int size] S P :=
  ⟨p, size, n, rfl, h0, h1, hb, hn, fun x S' a b d => h x S' a b d.box⟩
/-- all things of a list comprehension with a property -/
theorem all_ints {ys : List D} {R : Int → Prop} (h : ∀ (i : Nat) (y : D), ys[i]? = some y → ∃ z, y = D.int z ∧ R z) : ∃ ns : List Int, ys = ns.map .int ∧ ∀ z, z ∈ ns → R z :=
  ex_map fun y hy => by
    obtain ⟨i, hi⟩ := List.mem_iff_getElem?.mp hy
    exact h i y hi
/-! ### the greatest of a list -/
def maxI (ms : List Int) : Int := ms.foldr (fun a b => max a b) 0
theorem maxI_ge : ∀ {ms : List Int} {m : Int}, m ∈ ms → m ≤ maxI ms
  | a :: r, m, h => by
    have e : maxI (a :: r) = max a (maxI r) := rfl
    rcases List.mem_cons.mp h with rfl | h
    · rw [e]; omega
    · have := maxI_ge h
      rw [e]; omega
theorem maxI_mem : ∀ {ms : List Int}, ms ≠ [] → (∀ m ∈ ms, 0 ≤ m) → maxI ms ∈ ms
  | [a], _, h => by
    have e : maxI [a] = max a 0 := rfl
    have := h a (by simp)
    rw [e]; simp; omega
  | a :: b :: r, _, h => by
    have e : maxI (a :: b :: r) = max a (maxI (b :: r)) := rfl
    have ih := maxI_mem (ms := b :: r) (by simp) (fun m hm => h m (by simp [hm]))
    rcases Int.le_total a (maxI (b :: r)) with q | q
    · have : max a (maxI (b :: r)) = maxI (b :: r) := by omega
      rw [e, this]
      exact List.mem_cons_of_mem _ ih
    · have : max a (maxI (b :: r)) = a := by omega
      rw [e, this]; simp
/-! ### kinds, sources, widths -/
inductive Kd where
  | sum (ws : List Int) (o : Int)
  | least
  | most
  | times
  | over (k : Int)
def Kd.d : Kd → D
  | .sum ws o => .tup [.str "sum", .tup (ws.map .int), .int o]
  | .least => .tup [.str "least"]
  | .most => .tup [.str "most"]
  | .times => .tup [.str "times"]
  | .over k => .tup [.str "over", .int k]
def srcD (q : Int × Int) : D := .tup [.int q.1, .int q.2]
def abI (a : Int) : Int := if a < 0 then -a else a
def sumW (ws ms : List Int) : Int := (List.zipWith (fun w m => abI w * m) ws ms).sum
def Kd.wide (b : Int) (ss : List (Int × Int)) : Kd → Rat
  | .sum ws o => ((sumW ws (ss.map (·.2)) : Int) : Rat) / (o : Rat)
  | .times => match ss with
    | [(e0, m0), (e1, m1)] => ((m0 * m1 : Int) : Rat) / ((b - 1 : Int) : Rat) * ((b : Rat) ^ e0 + (b : Rat) ^ e1)
    | _ => 0
  | .over k => match ss with
    | [(e0, m0), (_, m1)] => ((m0 : Int) : Rat) * (b : Rat) ^ k * (((1 : Int) : Rat) + ((m1 : Int) : Rat) / ((b - 1 : Int) : Rat) * (b : Rat) ^ k * (b : Rat) ^ e0)
    | _ => 0
  | _ => ((maxI (ss.map (·.2)) : Int) : Rat)
def Kd.Ok (ss : List (Int × Int)) : Kd → Prop
  | .sum ws o => ws.length = ss.length ∧ 0 < o ∧ o < 2 ^ 20 ∧ ∀ w ∈ ws, w ≠ 0 ∧ w.natAbs ≤ 100
  | .times => ss.length = 2
  | .over k => ss.length = 2 ∧ 0 ≤ k ∧ k ≤ 6
  | _ => True
structure SsOk (b : Int) (ss : List (Int × Int)) : Prop where
  b0 : 2 ≤ b
  b1 : b ≤ 16
  n0 : 1 ≤ ss.length
  n1 : ss.length ≤ 8
  each : ∀ q ∈ ss, (-30 ≤ q.1 ∧ q.1 ≤ 30) ∧ 1 ≤ q.2 ∧ q.2 ≤ 60
theorem sumW_bound : ∀ (ws ms : List Int) (n : Nat), ws.length ≤ n → (∀ w ∈ ws, w ≠ 0 ∧ w.natAbs ≤ 100) → (∀ m ∈ ms, 1 ≤ m ∧ m ≤ 60) → 0 ≤ sumW ws ms ∧ sumW ws ms ≤ 6000 * (n : Int) ∧ (ws ≠ [] → ms ≠ [] → 0 < sumW ws ms)
  | [], ms, n, _, _, _ => by
    have e : sumW [] ms = 0 := by unfold sumW; simp
    rw [e]; exact ⟨by omega, by omega, fun h => absurd rfl h⟩
  | w :: ws, [], n, _, _, _ => by
    have e : sumW (w :: ws) [] = 0 := by unfold sumW; simp
    rw [e]; exact ⟨by omega, by omega, fun _ h => absurd rfl h⟩
  | w :: ws, m :: ms, n, hn, hw, hm => by
    have e : sumW (w :: ws) (m :: ms) = abI w * m + sumW ws ms := by unfold sumW; simp
    obtain ⟨i1, i2, i3⟩ := sumW_bound ws ms (n - 1) (by simp at hn; omega) (fun x hx => hw x (by simp [hx])) (fun x hx => hm x (by simp [hx]))
    obtain ⟨w0, w1⟩ := hw w (by simp)
    obtain ⟨m0, m1⟩ := hm m (by simp)
    have a0 : 1 ≤ abI w ∧ abI w ≤ 100 := by unfold abI; split <;> omega
    have p1 : 1 * 1 ≤ abI w * m := Int.mul_le_mul a0.1 m0 (by decide) (by omega)
    have p2 : abI w * m ≤ 100 * 60 := Int.mul_le_mul a0.2 m1 (by omega) (by decide)
    have hn1 : 1 ≤ n := by simp at hn; omega
    rw [e]
    exact ⟨by omega, by omega, fun _ _ => by omega⟩
theorem div_pos' {x y : Rat} (hx : 0 < x) (hy : 0 < y) : 0 < x / y := by
  rw [Rat.div_def]
  exact Rat.mul_pos hx (Rat.inv_pos.mpr hy)
theorem SsOk.mosts {b : Int} {ss : List (Int × Int)} (h : SsOk b ss) : ∀ m ∈ ss.map (·.2), 1 ≤ m ∧ m ≤ 60 := fun m hm => by
  obtain ⟨q, hq, rfl⟩ := List.mem_map.mp hm
  exact (h.each q hq).2
theorem SsOk.max {b : Int} {ss : List (Int × Int)} (h : SsOk b ss) : 1 ≤ maxI (ss.map (·.2)) ∧ maxI (ss.map (·.2)) ≤ 60 := by
  have hne : ss.map (·.2) ≠ [] := by
    have n0 := h.n0
    intro z
    have z2 : ss = [] := by simpa using z
    rw [z2] at n0
    exact absurd n0 (by decide)
  exact h.mosts _ (maxI_mem hne fun m hm => by have := h.mosts m hm; omega)
section
variable {b : Int} {ss : List (Int × Int)}
theorem SsOk.bp (h : SsOk b ss) : (0 : Rat) < (b : Rat) := ratpos (by have := h.b0; omega)
theorem SsOk.cp (h : SsOk b ss) : (0 : Rat) < ((b - 1 : Int) : Rat) := ratpos (by have := h.b0; omega)
theorem SsOk.cne (h : SsOk b ss) : (b - 1 : Int) ≠ 0 := by have := h.b0; omega
theorem SsOk.sb (h : SsOk b ss) {e : Int} (h1 : -30 ≤ e) (h2 : e ≤ 30) : Sz 121 ((b : Rat) ^ e) := (sz_zpow (k := e) (by have := h.b0; omega) (by have := h.b1; omega)).mono (by omega)
theorem SsOk.sf (h : SsOk b ss) {m : Int} (hm : m.natAbs < 2 ^ 12) : Sz 12 ((m : Rat) / ((b - 1 : Int) : Rat)) := sz_frac h.cne hm (by have := h.b0; have := h.b1; omega)
theorem mm_bound {m0 m1 : Int} (h0 : 1 ≤ m0 ∧ m0 ≤ 60) (h1 : 1 ≤ m1 ∧ m1 ≤ 60) : (m0 * m1).natAbs < 2 ^ 12 := by
  rw [Int.natAbs_mul]
  have := Nat.mul_le_mul (show m0.natAbs ≤ 60 by omega) (show m1.natAbs ≤ 60 by omega)
  omega
theorem SsOk.wide (h : SsOk b ss) {kd : Kd} (hk : kd.Ok ss) : 0 < kd.wide b ss ∧ Sz 398 (kd.wide b ss) := by
  have mx := h.max
  have mr : (0 : Rat) < ((maxI (ss.map (·.2)) : Int) : Rat) ∧ Sz 398 ((maxI (ss.map (·.2)) : Int) : Rat) := ⟨ratpos (by omega), (sz_int (n := 6) (by omega)).mono (by decide)⟩
  cases kd with
  | least => exact mr
  | most => exact mr
  | sum ws o =>
    obtain ⟨h1, h2, h3, h4⟩ := hk
    obtain ⟨s0, s1, s2⟩ := sumW_bound ws (ss.map (·.2)) 8 (by have := h.n1; omega) h4 h.mosts
    have s3 := s2 (by
      intro z; subst z
      have := h.n0; simp at h1; omega) (by
      have n0 := h.n0
      intro z
      have z2 : ss = [] := by simpa using z
      rw [z2] at n0
      exact absurd n0 (by decide))
    refine ⟨div_pos' (ratpos s3) (ratpos h2), (sz_frac (n := 20) (by omega) ?_ ?_).mono (by decide)⟩
    · omega
    · omega
  | times =>
    match ss, hk, h with
    | [(e0, m0), (e1, m1)], _, h =>
      obtain ⟨q0, q1⟩ := h.each (e0, m0) (by simp)
      obtain ⟨r0, r1⟩ := h.each (e1, m1) (by simp)
      simp only at q0 q1 r0 r1
      have p0 := Rat.zpow_pos (n := e0) h.bp
      have p1 := Rat.zpow_pos (n := e1) h.bp
      have mmp : (0 : Rat) < ((m0 * m1 : Int) : Rat) := ratpos (Int.mul_pos (by omega) (by omega))
      exact ⟨Rat.mul_pos (div_pos' mmp h.cp) (by grind), (sz_mul (h.sf (mm_bound q1 r1)) (sz_add (h.sb q0.1 q0.2) (h.sb r0.1 r0.2))).mono (by decide)⟩
  | over k =>
    obtain ⟨hl, k0, k1⟩ := hk
    match ss, hl, h with
    | [(e0, m0), (e1, m1)], _, h =>
      obtain ⟨q0, q1⟩ := h.each (e0, m0) (by simp)
      obtain ⟨r0, r1⟩ := h.each (e1, m1) (by simp)
      simp only at q0 q1 r0 r1
      have p0 := Rat.zpow_pos (n := e0) h.bp
      have pk := Rat.zpow_pos (n := k) h.bp
      have m0p : (0 : Rat) < (m0 : Rat) := ratpos (by omega)
      have m1p : (0 : Rat) < (m1 : Rat) := ratpos (by omega)
      have := Rat.mul_pos (Rat.mul_pos (div_pos' m1p h.cp) pk) p0
      have one : ((1 : Int) : Rat) = 1 := rfl
      have sk : Sz 25 ((b : Rat) ^ k) := (sz_zpow (k := k) (by have := h.b0; omega) (by have := h.b1; omega)).mono (by omega)
      have n0 : Sz 12 (m0 : Rat) := sz_int (by omega)
      have f1 := h.sf (m := m1) (by omega)
      have o1 : Sz 1 ((1 : Int) : Rat) := sz_int (by decide)
      exact ⟨Rat.mul_pos (Rat.mul_pos m0p pk) (by rw [one]; grind), (sz_mul (sz_mul n0 sk) (sz_add o1 (sz_mul (sz_mul f1 sk) (h.sb q0.1 q0.2)))).mono (by decide)⟩
/-- twice the width -/
def Kd.need (b : Int) (ss : List (Int × Int)) (kd : Kd) : Rat := ((2 : Int) : Rat) * kd.wide b ss
theorem SsOk.need (h : SsOk b ss) {kd : Kd} (hk : kd.Ok ss) : 0 < kd.need b ss ∧ Sz 400 (kd.need b ss) :=
  ⟨Rat.mul_pos (by decide) (h.wide hk).1, (sz_mul (sz_int (n := 2) (k := 2) (by decide)) (h.wide hk).2).mono (by decide)⟩
end
theorem IsLp.up {b room d : Int} {q : Rat} (hb : 1 ≤ b) (h : IsLp b room q d) : IsLp b room (q * (b : Rat)) (d + 1) := by
  have hp : (0 : Rat) < (b : Rat) := ratpos (by omega)
  have hn : (b : Rat) ≠ 0 := by grind
  have e2 : (b : Rat) ^ (d + 1 - 1) = (b : Rat) ^ (d - 1) * (b : Rat) := by
    rw [← Rat.zpow_add_one hn]; congr 1; omega
  obtain ⟨h1, h2⟩ := h
  constructor
  · rw [Rat.zpow_add_one hn]
    have := Rat.mul_le_mul_of_nonneg_right h1 (Rat.le_of_lt hp)
    grind
  · rw [e2]
    have := Rat.mul_lt_mul_of_pos_right h2 hp
    grind
/-! ### promises -/
/-- the sources, in a list or a tuple -/
def srcsD (tu : Bool) (ss : List (Int × Int)) : D := if tu then .tup (ss.map srcD) else .lst (ss.map srcD)
def sp_width_of : DSp := fun ds S P => ∃ (b : Int) (ss : List (Int × Int)) (tu : Bool) (kd : Kd), ds = [.int b, kd.d, srcsD tu ss] ∧ SsOk b ss ∧ kd.Ok ss ∧ P (encR (kd.wide b ss)) S
/-- what told_lag is asked about -/
inductive TKd where
  | kd (k : Kd)
  | loose (xs : List D)
  | told (x : D)
  | choose
  | moved (k : Int)
def TKd.d : TKd → D
  | .kd k => k.d
  | .loose xs => .tup [.str "loose", .tup xs]
  | .told x => .tup [.str "told", x]
  | .choose => .tup [.str "choose"]
  | .moved k => .tup [.str "moved", .int k]
def TKd.Lag (b : Int) (ss : List (Int × Int)) (most : Int) : TKd → D → Prop
  | .kd k, x => ∃ d : Int, x = .int d ∧ IsLp b (2 * most - b + 1) (k.need b ss) d ∧ -830 ≤ d ∧ d ≤ 830
  | .loose _, x => x = .int 0
  | .told _, x => x = .non
  | .choose, x => x = .non
  | .moved k, x => x = .int k
def TKd.Ok (b : Int) (ss : List (Int × Int)) (most : Int) : TKd → Prop
  | .kd k => SsOk b ss ∧ k.Ok ss ∧ b ≤ 2 * most ∧ most ≤ 60
  | _ => True
def sp_told_lag : DSp := fun ds S P => ∃ (b begin most : Int) (ss : List (Int × Int)) (tu : Bool) (kd : TKd), ds = [.int b, kd.d, srcsD tu ss, .int begin, .int most] ∧ kd.Ok b ss most ∧ ∀ x, kd.Lag b ss most x → P x S
def rd_width_of : DS :=
  (dSeq (dPar 3 4 (dCons (dOp dIx (dVar 1) (dC (.int 0))) (dCons (dLc (dItSeq (dVar 2)) (.tp [(.nm 5), (.nm 6)]) dYes (dVar 6)) dNil)))
  (dSeq (dIfS (dTest (dOp dEq (dVar 3) (dC (.str "sum")))) (dRet (dCB sp_frac (dCons (dCB cSum (dCons (dLc (dZipS (dCons (dOp dIx (dVar 1) (dC (.int 1))) (dCons (dVar 4) dNil))) (.tp [(.nm 7), (.nm 6)]) dYes (dOp dMul (dCB cAbs (dCons (dVar 7) dNil)) (dVar 6))) dNil)) (dCons (dOp dIx (dVar 1) (dC (.int 2))) dNil)))) dNext)
  (dSeq (dIfS (dTest (dOp (dIn false) (dVar 3) (dTup (dCons (dC (.str "least")) (dCons (dC (.str "most")) dNil))))) (dRet (dTup (dCons (dCB cMaxL (dCons (dVar 4) dNil)) (dCons (dC (.int 1)) dNil)))) dNext)
  (dSeq (dSet 8 (dLc (dItSeq (dVar 2)) (.tp [(.nm 5), (.nm 6)]) dYes (dCB sp_power (dCons (dVar 0) (dCons (dVar 5) dNil)))))
  (dSeq (dIfS (dTest (dOp dEq (dVar 3) (dC (.str "times")))) (dRet (dCB sp_times (dCons (dCB sp_frac (dCons (dOp dMul (dOp dIx (dVar 4) (dC (.int 0))) (dOp dIx (dVar 4) (dC (.int 1)))) (dCons (dOp dSub (dVar 0) (dC (.int 1))) dNil))) (dCons (dCB sp_plus (dCons (dOp dIx (dVar 8) (dC (.int 0))) (dCons (dOp dIx (dVar 8) (dC (.int 1))) dNil))) dNil)))) dNext)
  (dSeq (dSet 9 (dCB sp_power (dCons (dVar 0) (dCons (dOp dIx (dVar 1) (dC (.int 1))) dNil))))
  (dRet (dCB sp_times (dCons (dCB sp_times (dCons (dTup (dCons (dOp dIx (dVar 4) (dC (.int 0))) (dCons (dC (.int 1)) dNil))) (dCons (dVar 9) dNil))) (dCons (dCB sp_plus (dCons (dTup (dCons (dC (.int 1)) (dCons (dC (.int 1)) dNil))) (dCons (dCB sp_times (dCons (dCB sp_times (dCons (dCB sp_frac (dCons (dOp dIx (dVar 4) (dC (.int 1))) (dCons (dOp dSub (dVar 0) (dC (.int 1))) dNil))) (dCons (dVar 9) dNil))) (dCons (dOp dIx (dVar 8) (dC (.int 0))) dNil))) dNil))) dNil))))))))))
def goal_width_of : Prop := ∀ (x0 x1 x2 : D) (S : Store) (P : D → Store → Prop), sp_width_of [x0, x1, x2] S P → rd_width_of (dEnd P) [some x0, some x1, some x2, none, none, none, none, none, none, none] S
def rd_told_lag : DS :=
  (dSeq (dIfS (dTest (dOp dEq (dOp dIx (dVar 1) (dC (.int 0))) (dC (.str "moved")))) (dRet (dOp dIx (dVar 1) (dC (.int 1)))) dNext)
  (dSeq (dIfS (dTest (dOp (dIn false) (dOp dIx (dVar 1) (dC (.int 0))) (dTup (dCons (dC (.str "loose")) (dCons (dC (.str "told")) (dCons (dC (.str "choose")) dNil)))))) (dRet (dIf (dTest (dOp dEq (dOp dIx (dVar 1) (dC (.int 0))) (dC (.str "loose")))) (dC (.int 0)) (dC .non))) dNext)
  (dRet (dCB sp_least_power (dCons (dVar 0) (dCons (dOp dAdd (dOp dSub (dOp dMul (dC (.int 2)) (dVar 4)) (dVar 0)) (dC (.int 1))) (dCons (dCB sp_times (dCons (dTup (dCons (dC (.int 2)) (dCons (dC (.int 1)) dNil))) (dCons (dCB sp_width_of (dCons (dVar 0) (dCons (dVar 1) (dCons (dVar 2) dNil)))) dNil))) dNil)))))))
def goal_told_lag : Prop := ∀ (x0 x1 x2 x3 x4 : D) (S : Store) (P : D → Store → Prop), sp_told_lag [x0, x1, x2, x3, x4] S P → rd_told_lag (dEnd P) [some x0, some x1, some x2, some x3, some x4] S
theorem len_width_of : ∀ ds S P, sp_width_of ds S P → ds.length = 3 := by
  rintro ds S P ⟨a, b, c, d, rfl, _⟩; rfl
theorem len_told_lag : ∀ ds S P, sp_told_lag ds S P → ds.length = 5 := by
  rintro ds S P ⟨a, b, c, d, e, f, rfl, _⟩; rfl
theorem zipD_map {α β : Type} (f : α → D) (g : β → D) : ∀ (xs : List α) (ys : List β), zipD (xs.map f) (ys.map g) = (xs.zip ys).map fun p => .tup [f p.1, g p.2]
  | [], _ => by simp [zipD]
  | _ :: _, [] => by simp [zipD]
  | x :: xs, y :: ys => by
    have := zipD_map f g xs ys
    unfold zipD at this ⊢
    simp [this]
theorem dInts_mapF {α : Type} (F : α → Int) (xs : List α) : dInts (xs.map fun a => .int (F a)) = some (xs.map F) := by
  have := dInts_map (xs.map F)
  rwa [List.map_map] at this
theorem dBools_mapF {α : Type} (F : α → Bool) (xs : List α) : dBools (xs.map fun a => .bl (F a)) = some (xs.map F) := by
  have := dBools_map (xs.map F)
  rwa [List.map_map] at this
theorem sumW_zip : ∀ (ws : List Int) (ss : List (Int × Int)), ((ws.zip ss).map fun p => abI p.1 * p.2.2).sum = sumW ws (ss.map (·.2))
  | [], _ => by simp [sumW]
  | _ :: _, [] => by simp [sumW]
  | w :: ws, q :: ss => by
    have := sumW_zip ws ss
    unfold sumW at this ⊢
    simp [this]
theorem vc_width_of : goal_width_of := by
  rintro x0 x1 x2 S P ⟨b, ss, tu, kd, e, hs, hk, h⟩
  cases e
  unfold rd_width_of
  have hl : ss.length ≤ 100000 := by have := hs.n1; omega
  have mosts : ∀ (ρ : DSt) (P : D → Store → Prop), P (.lst (ss.map fun q => .int q.2)) S → ρ.length = 10 → LcB (.tp [.nm 5, .nm 6]) dYes (dVar 6) P (ss.map srcD) ρ S := fun ρ P q hl2 => by
    refine lc_mapA srcD (fun q => .int q.2) hl (fun a ha => ?_) q
    match ρ, hl2 with
    | [r0, r1, r2, r3, r4, r5, r6, r7, r8, r9], _ => exact ⟨_, rfl, fun Q q => q⟩
  have begins : ∀ (ρ : DSt) (P : D → Store → Prop), P (.lst (ss.map fun q => encR ((b : Rat) ^ q.1))) S → ρ.length = 10 → ρ[0]? = some (some (.int b)) → LcB (.tp [.nm 5, .nm 6]) dYes (dCB sp_power (dCons (dVar 0) (dCons (dVar 5) dNil))) P (ss.map srcD) ρ S := fun ρ P q hl2 h0 => by
    refine lc_mapA srcD (fun q => encR ((b : Rat) ^ q.1)) hl (fun a ha => ?_) q
    match ρ, hl2 with
    | [r0, r1, r2, r3, r4, r5, r6, r7, r8, r9], _ =>
      cases h0
      have hb := hs.each a ha
      exact ⟨_, rfl, fun Q q => ⟨b, a.1, rfl, by have := hs.b0; omega, by have := hs.b1; omega, by omega, q⟩⟩
  have mx := hs.max
  have mxl : ss.map (fun q => q.2) ≠ [] := by
    have n0 := hs.n0
    intro z
    have z2 : ss = [] := by simpa using z
    rw [z2] at n0
    exact absurd n0 (by decide)
  have hmax : ∀ (P : D → Store → Prop), P (.int (maxI (ss.map (·.2)))) S → cMaxL [.lst (ss.map fun q => .int q.2)] S P := fun P q => by
    unfold cMaxL
    simp only [lstOf, Option.bind, dInts_mapF]
    refine ⟨by have := hs.n0; rw [List.length_map]; omega, fun m hm hge => ?_⟩
    have e : m = maxI (ss.map (·.2)) := by
      have a1 : m ≤ maxI (ss.map (·.2)) := maxI_ge hm
      have a2 : maxI (ss.map (·.2)) ≤ m := hge _ (maxI_mem mxl fun m hm => by have := hs.mosts m hm; omega)
      omega
    rw [e]; exact q
  cases tu
  all_goals
    unfold srcsD
    simp only [Bool.false_eq_true, reduceIte]
    walk_at "dgo"
    cases kd with
    | sum ws o =>
      obtain ⟨h1, h2, h3, h4⟩ := hk
      unfold Kd.d
      walk_at "dgo"
      refine mosts _ _ ?_ rfl
      walk_at "dgo"
      refine ⟨by simpa using h1, ?_⟩
      rw [zipD_map]
      refine lc_mapA _ (fun p => .int (abI p.1 * p.2.2)) (by simp; omega) (fun p hp => ⟨_, rfl, fun Q q => ?_⟩) ?_
      · walk_at "dgo"
        obtain ⟨p1, p2⟩ := List.of_mem_zip hp
        have a1 := h4 _ p1
        refine ⟨mulS (by unfold abI at *; split <;> omega), q⟩
      · unfold cSum
        simp only [lstOf, Option.bind, dInts_mapF]
        rw [sumW_zip]
        obtain ⟨s0, s1, s2⟩ := sumW_bound ws (ss.map (·.2)) 8 (by have := hs.n1; omega) h4 hs.mosts
        exact ⟨_, o, rfl, by omega, bound_mono (n := 20) (by omega), bound_mono (n := 20) (by omega), h⟩
    | least =>
      unfold Kd.d
      walk_at "dgo"
      refine mosts _ _ ?_ rfl
      walk_at "dgo"
      exact hmax _ h
    | most =>
      unfold Kd.d
      walk_at "dgo"
      refine mosts _ _ ?_ rfl
      walk_at "dgo"
      exact hmax _ h
    | times =>
      unfold Kd.d
      walk_at "dgo"
      refine mosts _ _ ?_ rfl
      walk_at "dgo"
      refine begins _ _ ?_ rfl rfl
      match ss, hk, hs, h with
      | [(e0, m0), (e1, m1)], _, hs, h =>
        obtain ⟨q0, q1⟩ := hs.each (e0, m0) (by simp)
        obtain ⟨r0, r1⟩ := hs.each (e1, m1) (by simp)
        simp only [List.map_cons, List.map_nil] at q0 q1 r0 r1 ⊢
        have b0 := hs.b0; have b1 := hs.b1
        have s0 := hs.sb q0.1 q0.2
        have s1 := hs.sb r0.1 r0.2
        have mm := mm_bound q1 r1
        walk_at "dgo"
        refine ⟨mulS, _, _, rfl, by omega, bound_mono mm, bound_mono (n := 12) (by omega), _, _, rfl, s0.mono (by decide), s1.mono (by decide), _, _, rfl, (hs.sf mm).mono (by decide), (sz_add s0 s1).mono (by decide), ?_⟩
        exact h
    | over k =>
      obtain ⟨hk, k0, k1⟩ := hk
      unfold Kd.d
      walk_at "dgo"
      refine mosts _ _ ?_ rfl
      walk_at "dgo"
      refine begins _ _ ?_ rfl rfl
      match ss, hk, hs, h with
      | [(e0, m0), (e1, m1)], _, hs, h =>
        obtain ⟨q0, q1⟩ := hs.each (e0, m0) (by simp)
        obtain ⟨r0, r1⟩ := hs.each (e1, m1) (by simp)
        simp only [List.map_cons, List.map_nil] at q0 q1 r0 r1 ⊢
        have b0 := hs.b0; have b1 := hs.b1
        have s0 := hs.sb q0.1 q0.2
        have sk := hs.sb (e := k) (by omega) (by omega)
        have n0 : Sz 12 (m0 : Rat) := sz_int (by omega)
        have f1 := hs.sf (m := m1) (by omega)
        have o1 : Sz 1 ((1 : Int) : Rat) := sz_int (by decide)
        walk_at "dgo"
        refine ⟨b, k, rfl, by omega, by omega, by omega, ?_⟩
        walk_at "dgo"
        refine ⟨(m0 : Rat), _, rfl, n0.mono (by decide), sk.mono (by decide), ?_⟩
        walk_at "dgo"
        refine ⟨m1, b - 1, rfl, by omega, bound_mono (n := 12) (by omega), bound_mono (n := 12) (by omega), _, _, rfl, f1.mono (by decide), sk.mono (by decide), _, _, rfl, (sz_mul f1 sk).mono (by decide), s0.mono (by decide), ((1 : Int) : Rat), _, rfl, o1.mono (by decide), (sz_mul (sz_mul f1 sk) s0).mono (by decide), ?_⟩
        exact ⟨_, _, rfl, (sz_mul n0 sk).mono (by decide), (sz_add o1 (sz_mul (sz_mul f1 sk) s0)).mono (by decide), h⟩
theorem vc_told_lag : goal_told_lag := by
  rintro x0 x1 x2 x3 x4 S P ⟨b, begin, most, ss, tu, kd, e, hk, h⟩
  cases e
  unfold rd_told_lag
  cases kd with
  | loose xs => unfold TKd.d; walk_at "dgo"; exact h _ rfl
  | told x => unfold TKd.d; walk_at "dgo"; exact h _ rfl
  | choose => unfold TKd.d; walk_at "dgo"; exact h _ rfl
  | moved k => unfold TKd.d; walk_at "dgo"; exact h _ rfl
  | kd k =>
    obtain ⟨hs, hk, h1, h2⟩ := hk
    have b0 := hs.b0; have b1 := hs.b1
    have nn := hs.need hk
    have ww := hs.wide hk
    have fin : sp_width_of [.int b, k.d, srcsD tu ss] S fun y S1 => sp_times [.tup [.int 2, .int 1], y] S1 fun z S2 => sp_least_power [.int b, .int (2 * most - b + 1), z] S2 P := by
      refine ⟨b, ss, tu, k, rfl, hs, hk, ((2 : Int) : Rat), _, rfl, (sz_int (n := 2) (by decide)).mono (by decide), ww.2.mono (by decide), ?_⟩
      exact ⟨b, _, _, rfl, b0, b1, by omega, by omega, nn.1, nn.2.mono (by decide), fun d hd d0 d1 => h _ ⟨d, rfl, hd, d0, d1⟩⟩
    cases k <;> (unfold TKd.d Kd.d; unfold Kd.d at fin; walk_at "dgo"; exact ⟨mulS, fin⟩)
end Lb

namespace Lb
open PySem PySem.Spec PyProof.Rows L2 DL
local macro_rules | `(tactic| walk_at "dgo") => `(tactic| try simp only [dSeq, dSet, dPar, dOp, dUn, dVar, dC, dCB, dCons, dNil, dTup, dLst, dLstM, dIfS, dIf, dTest, dNot, dAnd, dOr, dAndV, dOrV, dNotV, dRet, dRetN, dEnd, dNext, dAdd, dSub, dMul, dFdiv, dMod, dPow, dNeg, dLt, dLe, dGt, dGe, dEq, dNe, eqB_ii, eqB_bb, eqB_ss, eqB_nn, eqB_ni, eqB_in, eqB_ns, eqB_sn, eqB_is, eqB_si, eqB_nb, eqB_bn, dIx, dIn, dIsN, dNotN, DL.isNon, cAbs, cMax2, cMin2, cInt, cLen, cList, cTuple, dIsB, dNotB, dPar3, ForN, LcN, pinOf, pin2, dEnum2, dAppend, supd_same0, isi_non_int, isi_non_bool, isi_non_str, isi_non_list, isi_non_tuple, isi_non_lt, isi_bl_int, isi_bl_bool, isi_bl_str, isi_bl_list, isi_bl_tuple, isi_bl_lt, isi_int_int, isi_int_bool, isi_int_str, isi_int_list, isi_int_tuple, isi_int_lt, isi_str_int, isi_str_bool, isi_str_str, isi_str_list, isi_str_tuple, isi_str_lt, isi_lst_int, isi_lst_bool, isi_lst_str, isi_lst_list, isi_lst_tuple, isi_lst_lt, isi_tup_int, isi_tup_bool, isi_tup_str, isi_tup_list, isi_tup_tuple, isi_tup_lt, dAug, dIAdd, dIMul, dDrop, dSl, dPart, dNoPart, dRevL, dCallK, dChainR, dAsg, put_nm, put_tp, put_tl, putL_nil, putL_cons, Option.bind, seqOf, lstOf, dFor, dLc, dLcM, dItSeq, dZip, dZipS, dEnum, dRng1, dRng2, dYes, dwipe, Tgt.slots, Tgt.slotsL,
  atI_0, atI_1, atI_2, atI_3, List.getElem?_cons_zero, List.getElem?_cons_succ, List.set_cons_zero, List.set_cons_succ, decide_eq_true_eq, List.length_cons, List.length_nil, List.cons_append, List.nil_append, List.append_nil, ofString_inj, String.reduceEq, decide_true, decide_false, reduceIte, Bool.false_eq_true, Bool.not_true, Bool.not_false, eqFlat, isFlat, List.any_cons, List.any_nil, List.all_cons, List.all_nil, Bool.or_false, Bool.or_true, Bool.false_or, Bool.true_or, Bool.and_true, Bool.true_and, true_and, and_true, Nat.reduceAdd, Nat.reduceLeDiff, Int.reduceLT, Int.reduceLE, Int.reduceNeg])
/-! ### plain data -/
inductive Plain : Nat → D → Prop
  | non {n} : Plain n .non
  | bl {n b} : Plain n (.bl b)
  | int {n i} : Plain n (.int i)
  | str {n z} : Plain n (.str z)
  | lst {n ds} (hl : ds.length ≤ 100000) (h : ∀ y, y ∈ ds → Plain n y) : Plain (n + 1) (.lst ds)
  | tup {n ds} (hl : ds.length ≤ 100000) (h : ∀ y, y ∈ ds → Plain n y) : Plain (n + 1) (.tup ds)
theorem Plain.mono {n : Nat} {x : D} (h : Plain n x) : ∀ {m : Nat}, n ≤ m → Plain m x := by
  induction h with
  | non => intro m _; exact .non
  | bl => intro m _; exact .bl
  | int => intro m _; exact .int
  | str => intro m _; exact .str
  | lst hl h ih => intro m hm; cases m with
    | zero => omega
    | succ m => exact .lst hl fun y hy => ih y hy (by omega)
  | tup hl h ih => intro m hm; cases m with
    | zero => omega
    | succ m => exact .tup hl fun y hy => ih y hy (by omega)
/-- plain, of a text so long at most -/
def Gd (n c : Nat) (x : D) : Prop := Plain n x ∧ Rpd (n + 1) c x
theorem Gd.mono {n c n' c' : Nat} {x : D} (h : Gd n c x) (h1 : n ≤ n') (h2 : c ≤ c') : Gd n' c' x := ⟨h.1.mono h1, h.2.mono (by omega) h2⟩
theorem gd_int {i : Int} (h : i.natAbs < 10 ^ 12 := by omega) : Gd 0 13 (.int i) := ⟨.int, rp_int h⟩
theorem gd_tup {n c : Nat} (k : Nat) {ds : List D} (h : ∀ y, y ∈ ds → Gd n c y) (hl : ds.length ≤ k) (hk : k ≤ 100000 := by decide) : Gd (n + 1) (k * (c + 2) + 3) (.tup ds) := ⟨.tup (by omega) fun y hy => (h y hy).1, rp_tup (fun y hy => (h y hy).2) hl⟩
/-! ### rows -/
structure Rw where
  e : Int
  m : Int
  fs : List Int
def Rw.d (r : Rw) : D := .tup [.int r.e, .int r.m, .tup (r.fs.map .int)]
/-- rows as they are drawn -/
structure Rw.Drawn (b : Int) (r : Rw) : Prop where
  e0 : -12 ≤ r.e
  e1 : r.e ≤ 12
  m0 : b ≤ 2 * r.m
  m1 : r.m ≤ 60
  l : r.fs.length ≤ 60
  f : ∀ f, f ∈ r.fs → -r.m ≤ f ∧ f ≤ r.m
/-- what a drawn row's parts are -/
theorem Rw.Drawn.figs {b : Int} {r : Rw} (h : r.Drawn b) : ∀ y, y ∈ r.fs.map D.int → Gd 0 13 y := fun y hy => by
  obtain ⟨f, hf, rfl⟩ := List.mem_map.mp hy
  have := h.f f hf
  have := h.m1
  exact gd_int
theorem Rw.Drawn.gd {b : Int} {r : Rw} (h : r.Drawn b) (hb : 2 ≤ b) : Gd 2 3000 r.d := by
  unfold Rw.d
  have h1 := h.e0; have h2 := h.e1; have h3 := h.m0; have h4 := h.m1
  refine (gd_tup (n := 1) (c := 903) 3 (fun y hy => ?_) (by simp)).mono (by decide) (by decide)
  simp only [List.mem_cons, List.not_mem_nil, or_false] at hy
  rcases hy with rfl | rfl | rfl
  · exact (gd_int).mono (by decide) (by decide)
  · exact (gd_int).mono (by decide) (by decide)
  · exact (gd_tup 60 h.figs (by rw [List.length_map]; exact h.l)).mono (by decide) (by decide)
def sp_Lfigures : DSp := fun ds S P => ∃ (p : Addr) (n : Nat) (m k : Int), ds = [.obj p, .int m, .int k] ∧ BoxAt S p n ∧ n ≤ 100000000 ∧ 1 ≤ m ∧ m ≤ 60 ∧ 0 ≤ k ∧ k ≤ 60 ∧ ∀ (fs : List Int) S', fs.length = k.toNat → (∀ f, f ∈ fs → -m ≤ f ∧ f ≤ m) → BoxAt S' p (n + 61) → P (.tup (fs.map .int)) S'
def rd_Lfigures : DS :=
  (dSeq (dSet 3 (dCB sp_Ltake (dCons (dVar 0) (dCons (dC (.int 5)) dNil))))
  (dSeq (dIfS (dTest (dOp dLt (dVar 3) (dC (.int 2)))) (dRet (dCB cTuple (dCons (dOp dMul (dLst (dCons (dOp dIx (dLst (dCons (dVar 1) (dCons (dUn dNeg (dVar 1)) dNil))) (dVar 3)) dNil)) (dVar 2)) dNil))) dNext)
  (dSeq (dIfS (dTest (dOp dEq (dVar 3) (dC (.int 2)))) (dRet (dCB cTuple (dCons (dLc (dRng1 (dCons (dVar 2) dNil)) (.nm 4) dYes (dOp dSub (dCB sp_Ltake (dCons (dVar 0) (dCons (dC (.int 3)) dNil))) (dC (.int 1)))) dNil))) dNext)
  (dRet (dCB cTuple (dCons (dLc (dRng1 (dCons (dVar 2) dNil)) (.nm 4) dYes (dOp dSub (dCB sp_Ltake (dCons (dVar 0) (dCons (dOp dAdd (dOp dMul (dC (.int 2)) (dVar 1)) (dC (.int 1))) dNil))) (dVar 1))) dNil))))))
def goal_Lfigures : Prop := ∀ (x0 x1 x2 : D) (S : Store) (P : D → Store → Prop), sp_Lfigures [x0, x1, x2] S P → rd_Lfigures (dEnd P) [some x0, some x1, some x2, none, none] S
theorem len_Lfigures : ∀ ds S P, sp_Lfigures ds S P → ds.length = 3 := by
  rintro ds S P ⟨a, b, c, d, rfl, _⟩; rfl
theorem flat_rep {α : Type} (a : α) : ∀ n : Nat, (List.replicate n [a]).flatten = List.replicate n a
  | 0 => rfl
  | n + 1 => by rw [List.replicate_succ, List.flatten_cons, flat_rep a n]; rfl
/-- figures one by one by draws -/
theorem draw_figs {t : Tgt} {de : DE} {P : D → Store → Prop} {p : Addr} {n k : Nat} {ρ : DSt} {S : Store} {lo : Int} (R : Int → Prop) (hb : BoxAt S p n) (hk : k ≤ 100)
    (h : ∀ (d : D) (j : Nat) S', j < k → BoxAt S' p (n + j) → ∃ ρ', t.put d (dwipe ρ t.slots) = some ρ' ∧ ∀ Q : D → Store → Prop, (∀ z S'', R z → BoxAt S'' p (n + j + 1) → Q (.int z) S'') → de ρ' S' Q)
    (q : ∀ (fs : List Int) S', fs.length = k → (∀ f, f ∈ fs → R f) → BoxAt S' p (n + k) → P (.lst (fs.map .int)) S') : LcB t dYes de P (rng lo k) ρ S := by
  refine lc_st (fun _ y => ∃ z : Int, y = .int z ∧ R z) (fun i S' => BoxAt S' p (n + i)) (by rw [rng_len]; omega) hb (fun i d S' hd hs => ?_) fun ys S' hl hy hs => ?_
  · obtain ⟨ρ', h1, h2⟩ := h d i S' (rng_get hd).1 hs
    exact ⟨ρ', h1, fun Q hq => h2 Q fun z S'' hz hb' => hq _ _ ⟨z, rfl, hz⟩ hb'⟩
  · obtain ⟨fs, rfl, hfs⟩ := all_ints hy
    rw [rng_len] at hl hs
    rw [List.length_map] at hl
    exact q fs S' hl hfs hs
theorem vc_Lfigures : goal_Lfigures := by
  rintro x0 x1 x2 S P ⟨p, n, m, k, e, hb, hn, m0, m1, k0, k1, h⟩
  cases e
  unfold rd_Lfigures
  walk_at "dgo"
  refine take_ok hb (by decide) (by decide) (by omega) fun x S1 x0 x1 hb1 => ?_
  walk_at "dgo"
  split
  · walk_at "dgo"
    have hx : x = 0 ∨ x = 1 := by omega
    have rep : ∀ z : Int, (-m ≤ z ∧ z ≤ m) → P (.tup (List.replicate k.toNat (D.int z))) S1 := fun z hz => by
      have := h (List.replicate k.toNat z) S1 (by simp) (fun f hf => by rw [List.eq_of_mem_replicate hf]; exact hz) (hb1.mono (by omega))
      rwa [List.map_replicate] at this
    rcases hx with rfl | rfl
    · walk_at "dgo"
      rw [flat_rep]
      exact ⟨by omega, by omega, by omega, rep m (by omega)⟩
    · walk_at "dgo"
      rw [flat_rep]
      exact ⟨by omega, by omega, by omega, rep (-m) (by omega)⟩
  · walk_at "dgo"
    split
    · refine ⟨by omega, by omega, ?_⟩
      refine draw_figs (fun z => -m ≤ z ∧ z ≤ m) hb1 (by omega) (fun d j S' hj hs => ⟨_, rfl, fun Q hq => ?_⟩) fun fs S' hl hf hs => ?_
      · walk_at "dgo"
        refine take_ok hs (by decide) (by decide) (by omega) fun y S2 y0 y1 hb2 => ?_
        walk_at "dgo"
        exact hq _ _ (by omega) hb2
      · walk_at "dgo"
        exact h fs S' hl hf (hs.mono (by omega))
    · refine ⟨by omega, by omega, ?_⟩
      refine draw_figs (fun z => -m ≤ z ∧ z ≤ m) hb1 (by omega) (fun d j S' hj hs => ⟨_, rfl, fun Q hq => ?_⟩) fun fs S' hl hf hs => ?_
      · walk_at "dgo"
        refine ⟨mulS, ?_⟩
        refine take_ok hs (by omega) (by omega) (by omega) fun y S2 y0 y1 hb2 => ?_
        walk_at "dgo"
        exact hq _ _ (by omega) hb2
      · walk_at "dgo"
        exact h fs S' hl hf (hs.mono (by omega))
end Lb

namespace Lb
open PySem PySem.Spec PyProof.Rows L2 DL
local macro_rules | `(tactic| walk_at "dgo") => `(tactic| try simp only [dSeq, dSet, dPar, dOp, dUn, dVar, dC, dCB, dCons, dNil, dTup, dLst, dLstM, dIfS, dIf, dTest, dNot, dAnd, dOr, dAndV, dOrV, dNotV, dRet, dRetN, dEnd, dNext, dAdd, dSub, dMul, dFdiv, dMod, dPow, dNeg, dLt, dLe, dGt, dGe, dEq, dNe, eqB_ii, eqB_bb, eqB_ss, eqB_nn, eqB_ni, eqB_in, eqB_ns, eqB_sn, eqB_is, eqB_si, eqB_nb, eqB_bn, dIx, dIn, dIsN, dNotN, DL.isNon, cAbs, cMax2, cMin2, cInt, cLen, cList, cTuple, dIsB, dNotB, dPar3, ForN, LcN, pinOf, pin2, dEnum2, dAppend, supd_same0, isi_non_int, isi_non_bool, isi_non_str, isi_non_list, isi_non_tuple, isi_non_lt, isi_bl_int, isi_bl_bool, isi_bl_str, isi_bl_list, isi_bl_tuple, isi_bl_lt, isi_int_int, isi_int_bool, isi_int_str, isi_int_list, isi_int_tuple, isi_int_lt, isi_str_int, isi_str_bool, isi_str_str, isi_str_list, isi_str_tuple, isi_str_lt, isi_lst_int, isi_lst_bool, isi_lst_str, isi_lst_list, isi_lst_tuple, isi_lst_lt, isi_tup_int, isi_tup_bool, isi_tup_str, isi_tup_list, isi_tup_tuple, isi_tup_lt, dAug, dIAdd, dIMul, dDrop, dSl, dPart, dNoPart, dRevL, dCallK, dChainR, dAsg, put_nm, put_tp, put_tl, putL_nil, putL_cons, Option.bind, seqOf, lstOf, dFor, dLc, dLcM, dItSeq, dZip, dZipS, dEnum, dRng1, dRng2, dYes, dwipe, Tgt.slots, Tgt.slotsL,
  atI_0, atI_1, atI_2, atI_3, List.getElem?_cons_zero, List.getElem?_cons_succ, List.set_cons_zero, List.set_cons_succ, decide_eq_true_eq, List.length_cons, List.length_nil, List.cons_append, List.nil_append, List.append_nil, ofString_inj, String.reduceEq, decide_true, decide_false, reduceIte, Bool.false_eq_true, Bool.not_true, Bool.not_false, eqFlat, isFlat, List.any_cons, List.any_nil, List.all_cons, List.all_nil, Bool.or_false, Bool.or_true, Bool.false_or, Bool.true_or, Bool.and_true, Bool.true_and, true_and, and_true, Nat.reduceAdd, Nat.reduceLeDiff, Int.reduceLT, Int.reduceLE, Int.reduceNeg])
theorem BoxAt.other {S : Store} {p q : Addr} {n : Nat} {m : MO} (h : BoxAt S p n) (hq : p ≠ q) : BoxAt (supd S q m) p n := by
  obtain ⟨a, s, t, e, h⟩ := h
  exact ⟨a, s, t, by rw [supd_ne hq]; exact e, h⟩
theorem BoxAt.ne {S : Store} {p q : Addr} {n : Nat} (h : BoxAt S p n) (hq : S q = none) : p ≠ q := by
  obtain ⟨a, s, t, e, h⟩ := h
  intro z; rw [z, hq] at e; cases e
end Lb

namespace Lb
open PySem PySem.Spec PyProof.Rows L2 DL
local macro_rules | `(tactic| walk_at "dgo") => `(tactic| try simp only [dSeq, dSet, dPar, dOp, dUn, dVar, dC, dCB, dCons, dNil, dTup, dLst, dLstM, dIfS, dIf, dTest, dNot, dAnd, dOr, dAndV, dOrV, dNotV, dRet, dRetN, dEnd, dNext, dAdd, dSub, dMul, dFdiv, dMod, dPow, dNeg, dLt, dLe, dGt, dGe, dEq, dNe, eqB_ii, eqB_bb, eqB_ss, eqB_nn, eqB_ni, eqB_in, eqB_ns, eqB_sn, eqB_is, eqB_si, eqB_nb, eqB_bn, dIx, dIn, dIsN, dNotN, DL.isNon, cAbs, cMax2, cMin2, cInt, cLen, cList, cTuple, dIsB, dNotB, dPar3, ForN, LcN, pinOf, pin2, dEnum2, dAppend, supd_same0, isi_non_int, isi_non_bool, isi_non_str, isi_non_list, isi_non_tuple, isi_non_lt, isi_bl_int, isi_bl_bool, isi_bl_str, isi_bl_list, isi_bl_tuple, isi_bl_lt, isi_int_int, isi_int_bool, isi_int_str, isi_int_list, isi_int_tuple, isi_int_lt, isi_str_int, isi_str_bool, isi_str_str, isi_str_list, isi_str_tuple, isi_str_lt, isi_lst_int, isi_lst_bool, isi_lst_str, isi_lst_list, isi_lst_tuple, isi_lst_lt, isi_tup_int, isi_tup_bool, isi_tup_str, isi_tup_list, isi_tup_tuple, isi_tup_lt, dAug, dIAdd, dIMul, dDrop, dSl, dPart, dNoPart, dRevL, dCallK, dChainR, dAsg, put_nm, put_tp, put_tl, putL_nil, putL_cons, Option.bind, seqOf, lstOf, dFor, dLc, dLcM, dItSeq, dZip, dZipS, dEnum, dRng1, dRng2, dYes, dwipe, Tgt.slots, Tgt.slotsL,
  atI_0, atI_1, atI_2, atI_3, List.getElem?_cons_zero, List.getElem?_cons_succ, List.set_cons_zero, List.set_cons_succ, decide_eq_true_eq, List.length_cons, List.length_nil, List.cons_append, List.nil_append, List.append_nil, ofString_inj, String.reduceEq, decide_true, decide_false, reduceIte, Bool.false_eq_true, Bool.not_true, Bool.not_false, eqFlat, isFlat, List.any_cons, List.any_nil, List.all_cons, List.all_nil, Bool.or_false, Bool.or_true, Bool.false_or, Bool.true_or, Bool.and_true, Bool.true_and, true_and, and_true, Nat.reduceAdd, Nat.reduceLeDiff, Int.reduceLT, Int.reduceLE, Int.reduceNeg])
/-! ### what rows may come to -/
def whole (b : Int) (fs : List Int) : Int := fs.foldl (fun a f => a * b + f) 0
def Rw.pw (b : Int) (r : Rw) : Rat := (b : Rat) ^ (r.e - (r.fs.length : Int))
def Rw.worth (b : Int) (r : Rw) : Rat := ((whole b r.fs : Int) : Rat) * r.pw b
def Rw.tail (b : Int) (r : Rw) : Rat := (r.m : Rat) / ((b - 1 : Int) : Rat) * r.pw b
def Rw.lo (b : Int) (r : Rw) : Rat := r.worth b - r.tail b
def Rw.hi (b : Int) (r : Rw) : Rat := r.worth b + r.tail b
def Rw.cut (r : Rw) (k : Int) : Rw := ⟨r.e, r.m, r.fs.take (k + r.e).toNat⟩
structure Rw.Ok (b : Int) (r : Rw) : Prop where
  b0 : 2 ≤ b
  b1 : b ≤ 16
  e0 : -40 ≤ r.e
  e1 : r.e ≤ 40
  m0 : 0 ≤ r.m
  m1 : r.m ≤ 1000
  l : r.fs.length ≤ 80
  f : ∀ f, f ∈ r.fs → f.natAbs ≤ 1000
theorem Rw.Drawn.ok {b : Int} {r : Rw} (h : r.Drawn b) (b0 : 2 ≤ b) (b1 : b ≤ 16) : r.Ok b :=
  ⟨b0, b1, by have := h.e0; omega, by have := h.e1; omega, by have := h.m0; omega, by have := h.m1; omega, by have := h.l; omega, fun f hf => by have := h.f f hf; have := h.m1; omega⟩
theorem fold_bound {b : Int} (b0 : 2 ≤ b) (b1 : b ≤ 16) : ∀ (fs : List Int) (a : Int), (∀ f, f ∈ fs → f.natAbs ≤ 1000) → (fs.foldl (fun a f => a * b + f) a).natAbs + 1000 ≤ (a.natAbs + 1000) * 16 ^ fs.length
  | [], a, _ => by simp
  | f :: fs, a, h => by
    have ih := fold_bound b0 b1 fs (a * b + f) (fun z hz => h z (by simp [hz]))
    have h1 := h f (by simp)
    have h2 : (a * b).natAbs ≤ a.natAbs * 16 := by
      rw [Int.natAbs_mul]
      exact Nat.mul_le_mul_left _ (by omega)
    have h3 : (a * b + f).natAbs + 1000 ≤ (a.natAbs + 1000) * 16 := by
      have := Int.natAbs_add_le (a * b) f
      omega
    rw [List.foldl_cons, List.length_cons, Nat.pow_succ]
    refine Nat.le_trans ih (Nat.le_trans (Nat.mul_le_mul_right _ h3) ?_)
    rw [Nat.mul_assoc, Nat.mul_comm 16]
    exact Nat.le_refl _
section
variable {b : Int} {r : Rw}
theorem Rw.Ok.whole (h : r.Ok b) : (whole b r.fs).natAbs < 2 ^ 331 := by
  have h1 := fold_bound h.b0 h.b1 r.fs 0 h.f
  have h2 : (16 : Nat) ^ r.fs.length ≤ 16 ^ 80 := Nat.pow_le_pow_right (by decide) h.l
  have h3 : (1000 : Nat) * 16 ^ 80 < 2 ^ 331 := by decide
  unfold Lb.whole
  have h4 := Nat.mul_le_mul_left 1000 h2
  simp only [Int.natAbs_zero, Nat.zero_add] at h1
  generalize (16 : Nat) ^ r.fs.length = x at *
  generalize (16 : Nat) ^ 80 = y at *
  generalize (2 : Nat) ^ 331 = z at *
  omega
theorem Rw.Ok.pw (h : r.Ok b) : Sz 481 (r.pw b) := (sz_zpow (k := r.e - (r.fs.length : Int)) (by have := h.b0; omega) (by have := h.b1; omega)).mono (by
  have := h.e0; have := h.e1; have := h.l; omega)
theorem Rw.Ok.bp (h : r.Ok b) : (0 : Rat) < (b : Rat) := ratpos (by have := h.b0; omega)
theorem Rw.Ok.pwp (h : r.Ok b) : 0 < r.pw b := Rat.zpow_pos h.bp
theorem Rw.Ok.cne (h : r.Ok b) : (b - 1 : Int) ≠ 0 := by have := h.b0; omega
theorem Rw.Ok.cp (h : r.Ok b) : (0 : Rat) < ((b - 1 : Int) : Rat) := ratpos (by have := h.b0; omega)
theorem Rw.Ok.worth (h : r.Ok b) : Sz 820 (r.worth b) := (sz_mul (sz_int h.whole) h.pw).mono (by decide)
theorem Rw.Ok.fr (h : r.Ok b) : Sz 11 ((r.m : Rat) / ((b - 1 : Int) : Rat)) := sz_frac h.cne (by have := h.m0; have := h.m1; omega) (by have := h.b0; have := h.b1; omega)
theorem Rw.Ok.tail (h : r.Ok b) : Sz 500 (r.tail b) := (sz_mul h.fr h.pw).mono (by decide)
theorem Rw.Ok.lo (h : r.Ok b) : Sz 1330 (r.lo b) := (sz_sub h.worth h.tail).mono (by decide)
theorem Rw.Ok.hi (h : r.Ok b) : Sz 1330 (r.hi b) := (sz_add h.worth h.tail).mono (by decide)
theorem Rw.Ok.cut (h : r.Ok b) (k : Int) : (r.cut k).Ok b := ⟨h.b0, h.b1, h.e0, h.e1, h.m0, h.m1, by
  have := h.l
  show (r.fs.take _).length ≤ 80
  rw [List.length_take]; omega, fun f hf => h.f f (List.mem_of_mem_take hf)⟩
end
theorem dcut_take {xs : List D} {k : Int} (h : 0 ≤ k) : dcut xs none (some k) = xs.take k.toNat := by
  unfold dcut HT.sIx
  simp only [List.drop_zero, Nat.sub_zero]
  rw [if_neg (by omega)]
  rw [List.take_eq_take_iff]
  omega
def spanD (b : Int) (r : Rw) : D := .tup [encR (r.lo b), encR (r.hi b)]
def sp_known_to : DSp := fun ds S P => ∃ r : Rw, ds = [r.d] ∧ P (.int ((r.fs.length : Int) - r.e)) S
def sp_whole_of : DSp := fun ds S P => ∃ (b : Int) (fs : List Int), ds = [.int b, .tup (fs.map .int)] ∧ b.natAbs ≤ 1000 ∧ P (.int (whole b fs)) S
def sp_worth_of : DSp := fun ds S P => ∃ (b : Int) (r : Rw), ds = [.int b, r.d] ∧ r.Ok b ∧ P (encR (r.worth b)) S
def sp_tail_of : DSp := fun ds S P => ∃ (b : Int) (r : Rw), ds = [.int b, r.d] ∧ r.Ok b ∧ P (encR (r.tail b)) S
def sp_span_of : DSp := fun ds S P => ∃ (b : Int) (r : Rw), ds = [.int b, r.d] ∧ r.Ok b ∧ P (spanD b r) S
def sp_cut_of : DSp := fun ds S P => ∃ (r : Rw) (k : Int), ds = [r.d, .int k] ∧ P (r.cut k).d S
def rd_known_to : DS :=
  (dSeq (dAsg (.tp [(.nm 1), (.nm 2), (.nm 3)]) (dVar 0))
  (dRet (dOp dSub (dCB cLen (dCons (dVar 3) dNil)) (dVar 1))))
def goal_known_to : Prop := ∀ (x0 : D) (S : Store) (P : D → Store → Prop), sp_known_to [x0] S P → rd_known_to (dEnd P) [some x0, none, none, none] S
def rd_whole_of : DS :=
  (dSeq (dSet 2 (dC (.int 0)))
  (dSeq (dFor (dItSeq (dVar 1)) (.nm 3) (dSet 2 (dOp dAdd (dOp dMul (dVar 2) (dVar 0)) (dVar 3))))
  (dRet (dVar 2))))
def goal_whole_of : Prop := ∀ (x0 x1 : D) (S : Store) (P : D → Store → Prop), sp_whole_of [x0, x1] S P → rd_whole_of (dEnd P) [some x0, some x1, none, none] S
def rd_worth_of : DS :=
  (dRet (dCB sp_times (dCons (dTup (dCons (dCB sp_whole_of (dCons (dVar 0) (dCons (dOp dIx (dVar 1) (dC (.int 2))) dNil))) (dCons (dC (.int 1)) dNil))) (dCons (dCB sp_power (dCons (dVar 0) (dCons (dUn dNeg (dCB sp_known_to (dCons (dVar 1) dNil))) dNil))) dNil))))
def goal_worth_of : Prop := ∀ (x0 x1 : D) (S : Store) (P : D → Store → Prop), sp_worth_of [x0, x1] S P → rd_worth_of (dEnd P) [some x0, some x1] S
def rd_tail_of : DS :=
  (dRet (dCB sp_times (dCons (dCB sp_frac (dCons (dOp dIx (dVar 1) (dC (.int 1))) (dCons (dOp dSub (dVar 0) (dC (.int 1))) dNil))) (dCons (dCB sp_power (dCons (dVar 0) (dCons (dUn dNeg (dCB sp_known_to (dCons (dVar 1) dNil))) dNil))) dNil))))
def goal_tail_of : Prop := ∀ (x0 x1 : D) (S : Store) (P : D → Store → Prop), sp_tail_of [x0, x1] S P → rd_tail_of (dEnd P) [some x0, some x1] S
def rd_span_of : DS :=
  (dSeq (dPar 2 3 (dCons (dCB sp_worth_of (dCons (dVar 0) (dCons (dVar 1) dNil))) (dCons (dCB sp_tail_of (dCons (dVar 0) (dCons (dVar 1) dNil))) dNil)))
  (dRet (dTup (dCons (dCB sp_minus (dCons (dVar 2) (dCons (dVar 3) dNil))) (dCons (dCB sp_plus (dCons (dVar 2) (dCons (dVar 3) dNil))) dNil)))))
def goal_span_of : Prop := ∀ (x0 x1 : D) (S : Store) (P : D → Store → Prop), sp_span_of [x0, x1] S P → rd_span_of (dEnd P) [some x0, some x1, none, none] S
def rd_cut_of : DS :=
  (dSeq (dAsg (.tp [(.nm 2), (.nm 3), (.nm 4)]) (dVar 0))
  (dRet (dTup (dCons (dVar 2) (dCons (dVar 3) (dCons (dSl (dVar 4) dNoPart (dPart (dCB cMax2 (dCons (dC (.int 0)) (dCons (dOp dAdd (dVar 1) (dVar 2)) dNil))))) dNil))))))
def goal_cut_of : Prop := ∀ (x0 x1 : D) (S : Store) (P : D → Store → Prop), sp_cut_of [x0, x1] S P → rd_cut_of (dEnd P) [some x0, some x1, none, none, none] S
theorem len_known_to : ∀ ds S P, sp_known_to ds S P → ds.length = 1 := by
  rintro ds S P ⟨a, rfl, _⟩; rfl
theorem len_whole_of : ∀ ds S P, sp_whole_of ds S P → ds.length = 2 := by
  rintro ds S P ⟨a, b, rfl, _⟩; rfl
theorem len_worth_of : ∀ ds S P, sp_worth_of ds S P → ds.length = 2 := by
  rintro ds S P ⟨a, b, rfl, _⟩; rfl
theorem len_tail_of : ∀ ds S P, sp_tail_of ds S P → ds.length = 2 := by
  rintro ds S P ⟨a, b, rfl, _⟩; rfl
theorem len_span_of : ∀ ds S P, sp_span_of ds S P → ds.length = 2 := by
  rintro ds S P ⟨a, b, rfl, _⟩; rfl
theorem len_cut_of : ∀ ds S P, sp_cut_of ds S P → ds.length = 2 := by
  rintro ds S P ⟨a, b, rfl, _⟩; rfl
theorem vc_known_to : goal_known_to := by
  rintro x0 S P ⟨r, e, h⟩
  cases e
  unfold rd_known_to Rw.d
  walk_at "dgo"
  rw [List.length_map]
  exact h
theorem vc_whole_of : goal_whole_of := by
  rintro x0 x1 S P ⟨b, fs, e, hb, h⟩
  cases e
  unfold rd_whole_of
  walk_at "dgo"
  refine ⟨fun i ρ S' => S' = S ∧ ∃ z, ρ = [some (.int b), some (.tup (fs.map .int)), some (.int (whole b (fs.take i))), z], ⟨rfl, none, rfl⟩, ?_, ?_⟩
  · rintro i d ρ S' hd ⟨rfl, z, rfl⟩
    rw [List.getElem?_map] at hd
    cases e : fs[i]? with
    | none => rw [e] at hd; cases hd
    | some f =>
      rw [e] at hd; cases hd
      refine ⟨_, rfl, ?_⟩
      walk_at "dgo"
      refine ⟨mulS2, some (.int f), ?_⟩
      rw [List.take_add_one, e]
      unfold whole
      simp
  · rintro ρ S' ⟨rfl, z, rfl⟩
    rw [List.length_map, List.take_length]
    walk_at "dgo"
    exact h
theorem vc_worth_of : goal_worth_of := by
  rintro x0 x1 S P ⟨b, r, e, hr, h⟩
  cases e
  unfold rd_worth_of
  have b0 := hr.b0; have b1 := hr.b1; have e0 := hr.e0; have e1 := hr.e1; have hl := hr.l
  walk_at "dgo"
  simp only [Rw.d]
  walk_at "dgo"
  refine ⟨b, r.fs, rfl, by omega, r, rfl, ?_⟩
  walk_at "dgo"
  refine ⟨b, _, rfl, by omega, by omega, by omega, ((whole b r.fs : Int) : Rat), _, rfl, (sz_int hr.whole).mono (by decide), ?_, ?_⟩
  · have := hr.pw
    rw [show -((r.fs.length : Int) - r.e) = r.e - (r.fs.length : Int) by omega]
    exact this.mono (by decide)
  · rw [show -((r.fs.length : Int) - r.e) = r.e - (r.fs.length : Int) by omega]
    exact h
theorem vc_tail_of : goal_tail_of := by
  rintro x0 x1 S P ⟨b, r, e, hr, h⟩
  cases e
  unfold rd_tail_of
  have b0 := hr.b0; have b1 := hr.b1; have e0 := hr.e0; have e1 := hr.e1; have hl := hr.l; have m0 := hr.m0; have m1 := hr.m1
  walk_at "dgo"
  simp only [Rw.d]
  walk_at "dgo"
  refine ⟨r.m, b - 1, rfl, by omega, bound_mono (n := 12) (by omega), bound_mono (n := 12) (by omega), r, rfl, ?_⟩
  walk_at "dgo"
  refine ⟨b, _, rfl, by omega, by omega, by omega, _, _, rfl, hr.fr.mono (by decide), ?_, ?_⟩
  · have := hr.pw
    rw [show -((r.fs.length : Int) - r.e) = r.e - (r.fs.length : Int) by omega]
    exact this.mono (by decide)
  · rw [show -((r.fs.length : Int) - r.e) = r.e - (r.fs.length : Int) by omega]
    exact h
theorem vc_span_of : goal_span_of := by
  rintro x0 x1 S P ⟨b, r, e, hr, h⟩
  cases e
  unfold rd_span_of
  walk_at "dgo"
  refine ⟨b, r, rfl, hr, b, r, rfl, hr, ?_⟩
  walk_at "dgo"
  refine ⟨_, _, rfl, hr.worth.mono (by decide), hr.tail.mono (by decide), _, _, rfl, hr.worth.mono (by decide), hr.tail.mono (by decide), ?_⟩
  exact h
theorem vc_cut_of : goal_cut_of := by
  rintro x0 x1 S P ⟨r, k, e, h⟩
  cases e
  unfold rd_cut_of Rw.d
  walk_at "dgo"
  have e : (if k + r.e > 0 then k + r.e else 0).toNat = (k + r.e).toNat := by split <;> omega
  rw [dcut_take (by split <;> omega), e]
  have e2 : (r.cut k).d = .tup [.int r.e, .int r.m, .tup ((r.fs.map .int).take (k + r.e).toNat)] := by
    unfold Rw.d Rw.cut
    simp only [List.map_take]
  rw [e2] at h
  exact h
end Lb

namespace Lb
open PySem PySem.Spec PyProof.Rows L2 DL
local macro_rules | `(tactic| walk_at "dgo") => `(tactic| try simp only [dSeq, dSet, dPar, dOp, dUn, dVar, dC, dCB, dCons, dNil, dTup, dLst, dLstM, dIfS, dIf, dTest, dNot, dAnd, dOr, dAndV, dOrV, dNotV, dRet, dRetN, dEnd, dNext, dAdd, dSub, dMul, dFdiv, dMod, dPow, dNeg, dLt, dLe, dGt, dGe, dEq, dNe, eqB_ii, eqB_bb, eqB_ss, eqB_nn, eqB_ni, eqB_in, eqB_ns, eqB_sn, eqB_is, eqB_si, eqB_nb, eqB_bn, dIx, dIn, dIsN, dNotN, DL.isNon, cAbs, cMax2, cMin2, cInt, cLen, cList, cTuple, dIsB, dNotB, dPar3, ForN, LcN, pinOf, pin2, dEnum2, dAppend, supd_same0, isi_non_int, isi_non_bool, isi_non_str, isi_non_list, isi_non_tuple, isi_non_lt, isi_bl_int, isi_bl_bool, isi_bl_str, isi_bl_list, isi_bl_tuple, isi_bl_lt, isi_int_int, isi_int_bool, isi_int_str, isi_int_list, isi_int_tuple, isi_int_lt, isi_str_int, isi_str_bool, isi_str_str, isi_str_list, isi_str_tuple, isi_str_lt, isi_lst_int, isi_lst_bool, isi_lst_str, isi_lst_list, isi_lst_tuple, isi_lst_lt, isi_tup_int, isi_tup_bool, isi_tup_str, isi_tup_list, isi_tup_tuple, isi_tup_lt, dAug, dIAdd, dIMul, dDrop, dSl, dPart, dNoPart, dRevL, dCallK, dChainR, dAsg, put_nm, put_tp, put_tl, putL_nil, putL_cons, Option.bind, seqOf, lstOf, dFor, dLc, dLcM, dItSeq, dZip, dZipS, dEnum, dRng1, dRng2, dYes, dwipe, Tgt.slots, Tgt.slotsL,
  atI_0, atI_1, atI_2, atI_3, List.getElem?_cons_zero, List.getElem?_cons_succ, List.set_cons_zero, List.set_cons_succ, decide_eq_true_eq, List.length_cons, List.length_nil, List.cons_append, List.nil_append, List.append_nil, ofString_inj, String.reduceEq, decide_true, decide_false, reduceIte, Bool.false_eq_true, Bool.not_true, Bool.not_false, eqFlat, isFlat, List.any_cons, List.any_nil, List.all_cons, List.all_nil, Bool.or_false, Bool.or_true, Bool.false_or, Bool.true_or, Bool.and_true, Bool.true_and, true_and, and_true, Nat.reduceAdd, Nat.reduceLeDiff, Int.reduceLT, Int.reduceLE, Int.reduceNeg])
/-! ### one figure more -/
def Rw.snoc (r : Rw) (f : Int) : Rw := ⟨r.e, r.m, r.fs ++ [f]⟩
theorem whole_snoc (b : Int) (fs : List Int) (f : Int) : whole b (fs ++ [f]) = whole b fs * b + f := by unfold whole; simp
/-- the next place's power -/
def Rw.nx (b : Int) (r : Rw) : Rat := (b : Rat) ^ (r.e - (r.fs.length : Int) - 1)
section
variable {b : Int} {r : Rw}
theorem Rw.snoc_pw (r : Rw) (f : Int) : (r.snoc f).pw b = r.nx b := by
  unfold Rw.pw Rw.nx Rw.snoc
  simp only [List.length_append, List.length_cons, List.length_nil]
  congr 1; omega
theorem Rw.pw_nx (h : b ≠ 0) : r.pw b = r.nx b * (b : Rat) := by
  unfold Rw.pw Rw.nx
  have hb : (b : Rat) ≠ 0 := by exact_mod_cast h
  rw [← Rat.zpow_add_one hb]
  congr 1; omega
theorem Rw.snoc_worth (h : b ≠ 0) (f : Int) : (r.snoc f).worth b = r.worth b + (f : Rat) * r.nx b := by
  unfold Rw.worth
  rw [Rw.snoc_pw, Rw.pw_nx h]
  show ((whole b (r.fs ++ [f]) : Int) : Rat) * _ = _
  rw [whole_snoc, Rat.intCast_add, Rat.intCast_mul]
  grind
theorem Rw.snoc_tail (f : Int) : (r.snoc f).tail b = (r.m : Rat) / ((b - 1 : Int) : Rat) * r.nx b := by
  unfold Rw.tail
  rw [Rw.snoc_pw]; rfl
theorem cast_sub1 (b : Int) : ((b - 1 : Int) : Rat) = (b : Rat) - 1 := by
  rw [Rat.intCast_sub]; rfl
/-- the tail is what the next figure at its greatest and its tail are -/
theorem Rw.tail_nx (h : 2 ≤ b) : r.tail b = (r.m : Rat) * r.nx b + (r.m : Rat) / ((b - 1 : Int) : Rat) * r.nx b := by
  unfold Rw.tail
  rw [Rw.pw_nx (by omega), cast_sub1]
  have hb : (b : Rat) - 1 ≠ 0 := by
    have := ratpos (b := b - 1) (by omega)
    rw [cast_sub1] at this
    grind
  generalize r.nx b = u
  generalize (r.m : Rat) = m
  generalize (b : Rat) = c at *
  grind
theorem Rw.Ok.snoc (h : r.Ok b) (hl : r.fs.length ≤ 79) {f : Int} (hf : f.natAbs ≤ 1000) : (r.snoc f).Ok b :=
  ⟨h.b0, h.b1, h.e0, h.e1, h.m0, h.m1, by show (r.fs ++ [f]).length ≤ 80; simp; omega, fun z hz => by
    rcases List.mem_append.mp hz with hz | hz
    · exact h.f z hz
    · simp only [List.mem_singleton] at hz
      subst hz; exact hf⟩
theorem Rw.Ok.nxp (h : r.Ok b) : 0 < r.nx b := Rat.zpow_pos h.bp
/-- the ends of the next figure f's span -/
theorem Rw.snoc_lo (h : 2 ≤ b) (f : Int) : (r.snoc f).lo b = r.worth b + (f : Rat) * r.nx b - (r.m : Rat) / ((b - 1 : Int) : Rat) * r.nx b := by
  unfold Rw.lo; rw [Rw.snoc_worth (by omega), Rw.snoc_tail]
theorem Rw.snoc_hi (h : 2 ≤ b) (f : Int) : (r.snoc f).hi b = r.worth b + (f : Rat) * r.nx b + (r.m : Rat) / ((b - 1 : Int) : Rat) * r.nx b := by
  unfold Rw.hi; rw [Rw.snoc_worth (by omega), Rw.snoc_tail]
/-- twice the most is the base less 1 at least -/
theorem half_le (h : 2 ≤ b) (hm : b - 1 ≤ 2 * r.m) : (1 : Rat) ≤ 2 * ((r.m : Rat) / ((b - 1 : Int) : Rat)) := by
  have hp := ratpos (b := b - 1) (by omega)
  have h1 : ((b - 1 : Int) : Rat) ≤ ((2 * r.m : Int) : Rat) := Rat.intCast_le_intCast.mpr hm
  rw [Rat.intCast_mul] at h1
  have e2 : ((2 : Int) : Rat) = 2 := rfl
  rw [e2] at h1
  have h2 := Rat.mul_le_mul_of_nonneg_right (c := ((b - 1 : Int) : Rat)⁻¹) h1 (Rat.le_of_lt (Rat.inv_pos.mpr hp))
  rw [Rat.mul_inv_cancel _ (by grind)] at h2
  rw [Rat.div_def]
  grind
end
end Lb
namespace Lb
open PySem PySem.Spec PyProof.Rows L2 DL
/-! ### items and lengths of what is known, one rule each -/
theorem g_ix_tup {ds : List D} {i : Int} {S : Store} {P : D → Store → Prop} : dIx (.tup ds) (.int i) S P = (match atI ds i with | some d => P d S | none => False) := rfl
theorem g_ix_lst {ds : List D} {i : Int} {S : Store} {P : D → Store → Prop} : dIx (.lst ds) (.int i) S P = (match atI ds i with | some d => P d S | none => False) := rfl
theorem g_ix_ext {ds : List D} {i : Int} {S : Store} {P : D → Store → Prop} : dIx (.ext ds) (.int i) S P = (match atI ds i with | some d => P d S | none => False) := rfl
theorem g_ln_tup {ds : List D} {S : Store} {P : D → Store → Prop} : cLen [.tup ds] S P = P (.int ds.length) S := rfl
theorem g_ln_lst {ds : List D} {S : Store} {P : D → Store → Prop} : cLen [.lst ds] S P = P (.int ds.length) S := rfl
theorem g_ln_ext {ds : List D} {S : Store} {P : D → Store → Prop} : cLen [.ext ds] S P = P (.int ds.length) S := rfl
theorem g_nn_non {S : Store} {P : D → Store → Prop} : dNotN .non .non S P = P (.bl false) S := rfl
theorem g_nn_int {i : Int} {S : Store} {P : D → Store → Prop} : dNotN (.int i) .non S P = P (.bl true) S := rfl
theorem g_nn_tup {ds : List D} {S : Store} {P : D → Store → Prop} : dNotN (.tup ds) .non S P = P (.bl true) S := rfl
theorem g_in_non {S : Store} {P : D → Store → Prop} : dIsN .non .non S P = P (.bl true) S := rfl
theorem g_in_int {i : Int} {S : Store} {P : D → Store → Prop} : dIsN (.int i) .non S P = P (.bl false) S := rfl
theorem g_in_tup {ds : List D} {S : Store} {P : D → Store → Prop} : dIsN (.tup ds) .non S P = P (.bl false) S := rfl
theorem g_ix_row0 {r : Rw} {S : Store} {P : D → Store → Prop} : dIx r.d (.int 0) S P = P (.int r.e) S := rfl
theorem g_ix_row1 {r : Rw} {S : Store} {P : D → Store → Prop} : dIx r.d (.int 1) S P = P (.int r.m) S := rfl
theorem g_ix_row2 {r : Rw} {S : Store} {P : D → Store → Prop} : dIx r.d (.int 2) S P = P (.tup (r.fs.map .int)) S := rfl
theorem g_ix_span0 {b : Int} {r : Rw} {S : Store} {P : D → Store → Prop} : dIx (spanD b r) (.int 0) S P = P (encR (r.lo b)) S := rfl
theorem g_ix_span1 {b : Int} {r : Rw} {S : Store} {P : D → Store → Prop} : dIx (spanD b r) (.int 1) S P = P (encR (r.hi b)) S := rfl
theorem g_nn_span {b : Int} {r : Rw} {S : Store} {P : D → Store → Prop} : dNotN (spanD b r) .non S P = P (.bl true) S := rfl
theorem g_nn_encR {q : Rat} {S : Store} {P : D → Store → Prop} : dNotN (encR q) .non S P = P (.bl true) S := rfl
theorem g_in_span {b : Int} {r : Rw} {S : Store} {P : D → Store → Prop} : dIsN (spanD b r) .non S P = P (.bl false) S := rfl
theorem g_put_row {ts : List Tgt} {r : Rw} {ρ : DSt} : Tgt.put (.tp ts) r.d ρ = Tgt.putL ts [.int r.e, .int r.m, .tup (r.fs.map .int)] ρ := by unfold Rw.d; exact put_tp
theorem g_put_span {ts : List Tgt} {b : Int} {r : Rw} {ρ : DSt} : Tgt.put (.tp ts) (spanD b r) ρ = Tgt.putL ts [encR (r.lo b), encR (r.hi b)] ρ := by unfold spanD; exact put_tp
end Lb

namespace Lb
open PySem PySem.Spec PyProof.Rows L2 DL
local macro_rules | `(tactic| walk_at "dg2") => `(tactic| try simp only [dSeq, dSet, dPar, dOp, dUn, dVar, dC, dCB, dCons, dNil, dTup, dLst, dLstM, dIfS, dIf, dTest, dNot, dAnd, dOr, dAndV, dOrV, dNotV, dRet, dRetN, dEnd, dNext, dAdd, dSub, dMul, dFdiv, dMod, dPow, dNeg, dLt, dLe, dGt, dGe, dEq, dNe, eqB_ii, eqB_bb, eqB_ss, eqB_nn, eqB_ni, eqB_in, eqB_ns, eqB_sn, eqB_is, eqB_si, eqB_nb, eqB_bn, dIn, g_ix_tup, g_ix_lst, g_ix_ext, g_ln_tup, g_ln_lst, g_ln_ext, g_nn_non, g_nn_int, g_nn_tup, g_in_non, g_in_int, g_in_tup, g_ix_row0, g_ix_row1, g_ix_row2, g_ix_span0, g_ix_span1, g_nn_span, g_nn_encR, g_in_span, cAbs, cMax2, cMin2, cInt, cList, cTuple, dIsB, dNotB, dPar3, ForN, LcN, pinOf, pin2, dEnum2, dAppend, supd_same0, isi_non_int, isi_non_bool, isi_non_str, isi_non_list, isi_non_tuple, isi_non_lt, isi_bl_int, isi_bl_bool, isi_bl_str, isi_bl_list, isi_bl_tuple, isi_bl_lt, isi_int_int, isi_int_bool, isi_int_str, isi_int_list, isi_int_tuple, isi_int_lt, isi_str_int, isi_str_bool, isi_str_str, isi_str_list, isi_str_tuple, isi_str_lt, isi_lst_int, isi_lst_bool, isi_lst_str, isi_lst_list, isi_lst_tuple, isi_lst_lt, isi_tup_int, isi_tup_bool, isi_tup_str, isi_tup_list, isi_tup_tuple, isi_tup_lt, dAug, dIAdd, dIMul, dDrop, dSl, dPart, dNoPart, dRevL, dCallK, dChainR, dAsg, put_nm, put_tp, put_tl, g_put_row, g_put_span, putL_nil, putL_cons, Option.bind, seqOf, lstOf, dFor, dLc, dLcM, dItSeq, dZip, dZipS, dEnum, dRng1, dRng2, dYes, dwipe, Tgt.slots, Tgt.slotsL,
  atI_0, atI_1, atI_2, atI_3, List.getElem?_cons_zero, List.getElem?_cons_succ, List.set_cons_zero, List.set_cons_succ, decide_eq_true_eq, List.length_cons, List.length_nil, List.cons_append, List.nil_append, List.append_nil, ofString_inj, String.reduceEq, decide_true, decide_false, reduceIte, Bool.false_eq_true, Bool.not_true, Bool.not_false, eqFlat, isFlat, List.any_cons, List.any_nil, List.all_cons, List.all_nil, Bool.or_false, Bool.or_true, Bool.false_or, Bool.true_or, Bool.and_true, Bool.true_and, true_and, and_true, Nat.reduceAdd, Nat.reduceLeDiff, Int.reduceLT, Int.reduceLE, Int.reduceNeg])
/-! ### standing for a number, order, being told apart -/
def Rw.Has (b : Int) (r : Rw) (q : Rat) : Prop := r.lo b ≤ q ∧ q ≤ r.hi b
instance (b : Int) (r : Rw) (q : Rat) : Decidable (r.Has b q) := inferInstanceAs (Decidable (_ ∧ _))
def ordD (b : Int) (r s : Rw) : D := if s.hi b < r.lo b then .int 1 else if r.hi b < s.lo b then .int (-1) else .non
/-- their spans touch -/
def Meet (b : Int) (r s : Rw) : Prop := r.lo b ≤ s.hi b ∧ s.lo b ≤ r.hi b
theorem ordD_non {b : Int} {r s : Rw} : ordD b r s = .non ↔ Meet b r s := by
  unfold ordD Meet
  rw [← Rat.not_lt, ← Rat.not_lt]
  by_cases h1 : s.hi b < r.lo b
  · rw [if_pos h1]; exact ⟨fun z => (nomatch z), fun z => absurd h1 z.1⟩
  · rw [if_neg h1]
    by_cases h2 : r.hi b < s.lo b
    · rw [if_pos h2]; exact ⟨fun z => (nomatch z), fun z => absurd h2 z.2⟩
    · rw [if_neg h2]; exact ⟨fun _ => ⟨h1, h2⟩, fun _ => rfl⟩
def sp_order_of : DSp := fun ds S P => ∃ (b : Int) (r s : Rw), ds = [.int b, r.d, s.d] ∧ r.Ok b ∧ s.Ok b ∧ P (ordD b r s) S
def rd_order_of : DS :=
  (dSeq (dPar 3 4 (dCons (dCB sp_span_of (dCons (dVar 0) (dCons (dVar 1) dNil))) (dCons (dCB sp_span_of (dCons (dVar 0) (dCons (dVar 2) dNil))) dNil)))
  (dSeq (dIfS (dTest (dCB sp_is_below (dCons (dOp dIx (dVar 4) (dC (.int 1))) (dCons (dOp dIx (dVar 3) (dC (.int 0))) dNil)))) (dRet (dC (.int 1))) dNext)
  (dRet (dIf (dTest (dCB sp_is_below (dCons (dOp dIx (dVar 3) (dC (.int 1))) (dCons (dOp dIx (dVar 4) (dC (.int 0))) dNil)))) (dC (.int (-1))) (dC .non)))))
def goal_order_of : Prop := ∀ (x0 x1 x2 : D) (S : Store) (P : D → Store → Prop), sp_order_of [x0, x1, x2] S P → rd_order_of (dEnd P) [some x0, some x1, some x2, none, none] S
theorem len_order_of : ∀ ds S P, sp_order_of ds S P → ds.length = 3 := by
  rintro ds S P ⟨a, b, c, rfl, _⟩; rfl
theorem vc_order_of : goal_order_of := by
  rintro x0 x1 x2 S P ⟨b, r, s, e, hr, hs, h⟩
  cases e
  unfold rd_order_of
  walk_at "dg2"
  refine ⟨b, r, rfl, hr, b, s, rfl, hs, ?_⟩
  walk_at "dg2"
  refine ⟨_, _, rfl, hs.hi.mono (by decide), hr.lo.mono (by decide), ?_⟩
  unfold ordD at h
  by_cases h1 : s.hi b < r.lo b
  · simp only [h1, decide_true, reduceIte] at h ⊢
    walk_at "dg2"
    exact h
  · simp only [h1, decide_false, reduceIte] at h ⊢
    walk_at "dg2"
    refine ⟨_, _, rfl, hr.hi.mono (by decide), hs.lo.mono (by decide), ?_⟩
    by_cases h2 : r.hi b < s.lo b
    · simp only [h2, decide_true, reduceIte] at h ⊢
      walk_at "dg2"
      exact h
    · simp only [h2, decide_false, reduceIte] at h ⊢
      walk_at "dg2"
      exact h
end Lb

namespace Lb
open PySem PySem.Spec PyProof.Rows L2 DL
local macro_rules | `(tactic| walk_at "dg2") => `(tactic| try simp only [dSeq, dSet, dPar, dOp, dUn, dVar, dC, dCB, dCons, dNil, dTup, dLst, dLstM, dIfS, dIf, dTest, dNot, dAnd, dOr, dAndV, dOrV, dNotV, dRet, dRetN, dEnd, dNext, dAdd, dSub, dMul, dFdiv, dMod, dPow, dNeg, dLt, dLe, dGt, dGe, dEq, dNe, eqB_ii, eqB_bb, eqB_ss, eqB_nn, eqB_ni, eqB_in, eqB_ns, eqB_sn, eqB_is, eqB_si, eqB_nb, eqB_bn, dIn, g_ix_tup, g_ix_lst, g_ix_ext, g_ln_tup, g_ln_lst, g_ln_ext, g_nn_non, g_nn_int, g_nn_tup, g_in_non, g_in_int, g_in_tup, g_ix_row0, g_ix_row1, g_ix_row2, g_ix_span0, g_ix_span1, g_nn_span, g_nn_encR, g_in_span, cAbs, cMax2, cMin2, cInt, cList, cTuple, dIsB, dNotB, dPar3, ForN, LcN, pinOf, pin2, dEnum2, dAppend, supd_same0, isi_non_int, isi_non_bool, isi_non_str, isi_non_list, isi_non_tuple, isi_non_lt, isi_bl_int, isi_bl_bool, isi_bl_str, isi_bl_list, isi_bl_tuple, isi_bl_lt, isi_int_int, isi_int_bool, isi_int_str, isi_int_list, isi_int_tuple, isi_int_lt, isi_str_int, isi_str_bool, isi_str_str, isi_str_list, isi_str_tuple, isi_str_lt, isi_lst_int, isi_lst_bool, isi_lst_str, isi_lst_list, isi_lst_tuple, isi_lst_lt, isi_tup_int, isi_tup_bool, isi_tup_str, isi_tup_list, isi_tup_tuple, isi_tup_lt, dAug, dIAdd, dIMul, dDrop, dSl, dPart, dNoPart, dRevL, dCallK, dChainR, dAsg, put_nm, put_tp, put_tl, g_put_row, g_put_span, putL_nil, putL_cons, Option.bind, seqOf, lstOf, dFor, dLc, dLcM, dItSeq, dZip, dZipS, dEnum, dRng1, dRng2, dYes, dwipe, Tgt.slots, Tgt.slotsL,
  atI_0, atI_1, atI_2, atI_3, List.getElem?_cons_zero, List.getElem?_cons_succ, List.set_cons_zero, List.set_cons_succ, decide_eq_true_eq, List.length_cons, List.length_nil, List.cons_append, List.nil_append, List.append_nil, ofString_inj, String.reduceEq, decide_true, decide_false, reduceIte, Bool.false_eq_true, Bool.not_true, Bool.not_false, eqFlat, isFlat, List.any_cons, List.any_nil, List.all_cons, List.all_nil, Bool.or_false, Bool.or_true, Bool.false_or, Bool.true_or, Bool.and_true, Bool.true_and, true_and, and_true, Nat.reduceAdd, Nat.reduceLeDiff, Int.reduceLT, Int.reduceLE, Int.reduceNeg])
/-! ### == of plain data without texts -/
inductive Pi : Nat → D → Prop
  | non {n} : Pi n .non
  | bl {n b} : Pi n (.bl b)
  | int {n i} : Pi n (.int i)
  | lst {n ds} (h : ∀ y, y ∈ ds → Pi n y) : Pi (n + 1) (.lst ds)
  | tup {n ds} (h : ∀ y, y ∈ ds → Pi n y) : Pi (n + 1) (.tup ds)
theorem Pi.mono {n : Nat} {x : D} (h : Pi n x) : ∀ {m : Nat}, n ≤ m → Pi m x := by
  induction h with
  | non => intro m _; exact .non
  | bl => intro m _; exact .bl
  | int => intro m _; exact .int
  | lst h ih => intro m hm; cases m with
    | zero => omega
    | succ m => exact .lst fun y hy => ih y hy (by omega)
  | tup h ih => intro m hm; cases m with
    | zero => omega
    | succ m => exact .tup fun y hy => ih y hy (by omega)
/-- its Python data -/
structure PyI (n : Nat) (x : D) (p : PyData) : Prop where
  e : x.py = some p
  l : p.canLay0 = true
  d : p.depth ≤ n
  r : PyData.eqv p p = true
theorem py_all {n : Nat} : ∀ {ds : List D}, (∀ y, y ∈ ds → ∃ p, PyI n y p) → ∃ ps, D.pyL ds = some ps ∧ PyData.canLayAll0 ps = true ∧ PyData.depthAll ps ≤ n ∧ PyData.eqvAll ps ps = true ∧ ps.length = ds.length
  | [], _ => ⟨[], by simp [D.pyL], by simp [PyData.canLayAll0], by simp [PyData.depthAll], by simp [PyData.eqvAll], rfl⟩
  | y :: ds, h => by
    obtain ⟨p, h1⟩ := h y (by simp)
    obtain ⟨ps, e1, e2, e3, e4, e5⟩ := py_all (ds := ds) (fun z hz => h z (by simp [hz]))
    refine ⟨p :: ps, by simp [D.pyL, h1.e, e1], by simp [PyData.canLayAll0, h1.l, e2], ?_, by simp [PyData.eqvAll, h1.r, e4], by simp [e5]⟩
    have := h1.d
    simp only [PyData.depthAll]
    omega
theorem Pi.py {n : Nat} {x : D} (h : Pi n x) : ∃ p, PyI n x p := by
  induction h with
  | non => exact ⟨.none, by simp [D.py], by simp [PyData.canLay0], by simp [PyData.depth], by simp [PyData.eqv]⟩
  | @bl n b => exact ⟨.bool b, by simp [D.py], by simp [PyData.canLay0], by simp [PyData.depth], by simp [PyData.eqv]⟩
  | @int n i => exact ⟨.int i, by simp [D.py], by simp [PyData.canLay0], by simp [PyData.depth], by simp [PyData.eqv]⟩
  | lst h ih =>
    obtain ⟨ps, e1, e2, e3, e4, e5⟩ := py_all ih
    exact ⟨.list ps, by simp [D.py, e1], by simp [PyData.canLay0, e2], by simp only [PyData.depth]; omega, by simp [PyData.eqv, e4]⟩
  | tup h ih =>
    obtain ⟨ps, e1, e2, e3, e4, e5⟩ := py_all ih
    exact ⟨.tuple ps, by simp [D.py, e1], by simp [PyData.canLay0, e2], by simp only [PyData.depth]; omega, by simp [PyData.eqv, e4]⟩
theorem PyI.shaped {n : Nat} {x : D} {p : PyData} (h : PyI n x p) (hn : n ≤ 64) : SeqAt.shaped p = true := by
  unfold SeqAt.shaped
  rw [h.l]
  have := h.d
  simp; omega
/-! ### some next figure is right -/
section
variable {b : Int} {r : Rw}
end
/-! ### beginnings lie in one another -/
theorem snoc_in' {b : Int} {r : Rw} (b0 : 2 ≤ b) {f : Int} (h1 : -r.m ≤ f) (h2 : f ≤ r.m) : r.lo b ≤ (r.snoc f).lo b ∧ (r.snoc f).hi b ≤ r.hi b := by
  have up : 0 < r.nx b := Rat.zpow_pos (ratpos (by omega))
  have a1 : (0 : Rat) ≤ ((f + r.m : Int) : Rat) := by
    have : ((0 : Int) : Rat) ≤ ((f + r.m : Int) : Rat) := Rat.intCast_le_intCast.mpr (by omega)
    exact this
  have a2 : (0 : Rat) ≤ ((r.m - f : Int) : Rat) := by
    have : ((0 : Int) : Rat) ≤ ((r.m - f : Int) : Rat) := Rat.intCast_le_intCast.mpr (by omega)
    exact this
  rw [Rat.intCast_add] at a1
  rw [Rat.intCast_sub] at a2
  have p1 := Rat.mul_nonneg a1 (Rat.le_of_lt up)
  have p2 := Rat.mul_nonneg a2 (Rat.le_of_lt up)
  rw [Rw.snoc_lo b0, Rw.snoc_hi b0]
  unfold Rw.lo Rw.hi
  rw [Rw.tail_nx b0]
  generalize (r.m : Rat) / ((b - 1 : Int) : Rat) * r.nx b = q
  generalize r.nx b = u at *
  generalize (r.m : Rat) = m at *
  generalize (f : Rat) = g at *
  generalize r.worth b = w
  constructor <;> grind
theorem Meet.symm {b : Int} {r s : Rw} (h : Meet b r s) : Meet b s r := ⟨h.2, h.1⟩
end Lb

namespace DL
open PySem PySem.Spec PyProof.Rows L2

def dLstR2 (a b : DE) : DE := fun ρ S P => a ρ S fun x S1 => b ρ S1 fun y S2 => match x, y with
  | .int i, .int j => RgOk i j ∧ P (.lst (rng i (j - i).toNat)) S2
  | _, _ => False
def dLstR2M (a b : DE) : DE := fun ρ S P => a ρ S fun x S1 => b ρ S1 fun y S2 => match x, y with
  | .int i, .int j => RgOk i j ∧ ∀ l, S2 l = none → P (.obj l) (supd S2 l (.lst (rng i (j - i).toNat)))
  | _, _ => False
theorem repL_map {K : PySem.W.Frag} {I : Hp} {α : Type} {f : α → D} {g : α → V} (h : ∀ x, Rep K I (f x) (g x)) : ∀ l : List α, RepL K I (l.map f) (l.map g)
  | [] => RepL.nil
  | x :: r => RepL.cons (h x) (repL_map h r)
theorem repL_rng {K : PySem.W.Frag} {I : Hp} (a b : Int) : RepL K I (rng a (b - a).toNat) (rgV a b) := repL_map (fun _ => rep_int) _
section
variable {X : Cx} {pos p p2 pos2 : Pos} {a b : Expr} {da db : DE}
theorem je_listR2 (hm : X.mg "list" = none) (hm2 : X.mg "range" = none) (ha : JE X a da) (hb : JE X b db) (hc : X.calm = true := by rfl) (hg : Gl X "list" := by rfl) (hg2 : Gl X "range" := by rfl)
    (hs : starEach [a, b] X.env = (false, eval a X.env) :: starEach [b] X.env := by rfl) (hs2 : starEach [b] X.env = (false, eval b X.env) :: starEach [] X.env := by rfl) (hpl : (backTo pos2 (starEach [b] X.env)).any (·.1) = false := by rfl) :
    JE X (.Call (.Name "list" p) [.Call (.Name "range" p2) [a, b] [] pos2] [] pos) (dLstR2 da db) :=
  je_of (pe_listRg hc hg hm (prg_2 hg2 hm2 ha hb hs hs2 hpl)) fun σ H Q ⟨ρ, I, S, F, P, rs, ok, h, q⟩ => ⟨ρ, I, S, F, _, rs, ok, h, fun x S1 v I1 H1 h1 e1 ok1 r1 => ⟨ρ, I1, S1, F, _, rs.mono e1, ok1, h1, fun y S2 w I2 H2 h2 e2 ok2 r2 => by
    split at h2
    · rename_i i j
      cases r1.int_of
      cases r2.int_of
      have rl := repL_rng (K := X.K) (I := I2) i j
      exact ⟨_, _, rfl, rfl, h2.1, fun l hl => q _ _ _ _ _ h2.2 ((e1.trans e2).trans (same_new (ok2.freshI hl))) (ok2.newI hl) (rep_new_lst (ok2.freshI hl) rl)⟩
    · exact h2.elim⟩⟩
end

section
variable {X : Cx} {pos : Pos} {a b : Expr} {da db : DE}
end
end DL

namespace DL
open PySem PySem.Spec PyProof.Rows L2

/-! ### two fors in a comprehension -/
theorem But.wipe_sub {ts vs : List Nat} {σ σ2 : L2.St} (h : But ts (L2.wipe σ vs) σ2) (sub : ∀ i, i ∈ ts → i ∈ vs) : L2.wipe σ2 vs = L2.wipe σ vs := by
  apply List.ext_getElem?
  intro j
  have hl := h.1
  rw [L2.wipe_length] at hl
  rw [wipe_get, wipe_get, hl]
  split
  · rfl
  · rename_i hj
    rw [h.2 j fun z => hj (sub j z), wipe_get, if_neg hj]
def dLc2 (di : DI) (t : Tgt) (tt : DT) (di1 : DI) (t1 : Tgt) (tt1 : DT) (de : DE) : DE := fun ρ S P => di ρ S fun ds pin S1 =>
  ∃ W : Nat → List D → Store → Prop, W 0 [] S1 ∧ (∀ i acc S, W i acc S → PinOk pin S) ∧
  (∀ i d acc S, ds[i]? = some d → W i acc S → ∃ ρ', t.put d (dwipe ρ (t.slots ++ t1.slots)) = some ρ' ∧ tt ρ' S fun b S2 => if b = true then di1 ρ' S2 fun ds1 pin1 S3 =>
    ∃ W1 : Nat → List D → Store → Prop, W1 0 acc S3 ∧ (∀ j acc S, W1 j acc S → PinOk pin1 S) ∧
      (∀ j d1 acc1 S4, ds1[j]? = some d1 → W1 j acc1 S4 → ∃ ρ'', t1.put d1 (dwipe ρ' t1.slots) = some ρ'' ∧ tt1 ρ'' S4 fun b S5 => if b = true then de ρ'' S5 fun y S6 => acc1.length < 100000 ∧ W1 (j + 1) (acc1 ++ [y]) S6 else W1 (j + 1) acc1 S5) ∧
      ∀ acc1 S4, W1 ds1.length acc1 S4 → W (i + 1) acc1 S4
    else W (i + 1) acc S2) ∧ ∀ acc S, W ds.length acc S → P (.lst acc) S
theorem up_lc2 {X : Cx} {di di1 : DI} {t t1 : Tgt} {tt tt1 : DT} {de : DE} : ∀ σ H Q, upE X.K (dLc2 di t tt di1 t1 tt1 de) σ H Q → tLc2 (upI X.K di) (upG X.K t) (upT X.K tt) (upI X.K di1) (upG X.K t1) (upT X.K tt1) (upE X.K de) (t.slots ++ t1.slots) t1.slots σ H Q := fun σ H Q ⟨ρ, I, S, F, P, rs, ok, h, q⟩ => by
  refine ⟨ρ, I, S, F, _, rs, ok, h, fun ds pin S1 I1 H1 J hB e1 ok1 it => fun Dd hD => ?_⟩
  obtain ⟨W, w0, hpin, turn, fin⟩ := hB
  refine ⟨fun i m H => m + i = ds.length ∧ ∃ I' S' acc vs, Same I1 I' ∧ Ok X.K I' S' (upd F Dd (.lst vs)) H ∧ RepL X.K I' acc vs ∧ W i acc S', ⟨ds.length, by simp, I1, S1, [], [], Same.refl I1, ok1.newF hD ⟨fun y z => (by cases z), fun y z => (by cases z)⟩, RepL.nil, w0⟩, ?_⟩
  rintro i m H2 ⟨em, I2, S2, acc, vs, e2, ok2, rl, w2⟩
  by_cases hi : i < ds.length
  · refine .inr ?_
    obtain ⟨g1, g2⟩ := it.go I2 S2 _ H2 e2 ok2 (hpin _ _ _ w2) i ds[i] (List.getElem?_eq_getElem hi)
    obtain ⟨ρ3, hput, hbody⟩ := turn i ds[i] acc S2 (List.getElem?_eq_getElem hi) w2
    refine ⟨g1, fun H' => ∃ I' S' acc vs, Same I1 I' ∧ Ok X.K I' S' (upd F Dd (.lst vs)) H' ∧ RepL X.K I' acc vs ∧ W (i + 1) acc S', fun H' h => ⟨m - 1, by omega, by omega, h⟩, fun x H3 hy => ?_⟩
    obtain ⟨I3, e3, ok3, r3⟩ := g2 x H3 hy
    refine ⟨dwipe ρ (t.slots ++ t1.slots), ρ3, I3, S2, _, ds[i], ((rs.mono e1).mono (e2.trans e3)).wipe _, ok3, r3, hput, fun σ3 rs3 b3 => ⟨b3.wipe_sub fun i hi => List.mem_append_left _ hi, ?_⟩⟩
    refine ⟨ρ3, I3, S2, _, _, rs3, ok3, hbody, fun b S4 I4 H4 h4 e4 ok4 => ?_⟩
    cases b with
    | true =>
      rw [if_pos rfl] at h4 ⊢
      refine ⟨ρ3, I4, S4, _, _, rs3.mono e4, ok4, h4, fun ds1 pin1 S5 I5 H5 J1 h5 e5 ok5 it1 => ?_⟩
      obtain ⟨W1, v0, vpin, vturn, vfin⟩ := h5
      refine ⟨fun j k H => k + j = ds1.length ∧ ∃ I' S' acc vs, Same I5 I' ∧ Ok X.K I' S' (upd F Dd (.lst vs)) H ∧ RepL X.K I' acc vs ∧ W1 j acc S', ⟨ds1.length, by simp, I5, S5, acc, vs, Same.refl I5, ok5, rl.mono ((e3.trans e4).trans e5), v0⟩, ?_⟩
      rintro j k H6 ⟨ek, I6, S6, acc6, vs6, e6, ok6, rl6, w6⟩
      by_cases hj : j < ds1.length
      · refine .inr ?_
        obtain ⟨g3, g4⟩ := it1.go I6 S6 _ H6 e6 ok6 (vpin _ _ _ w6) j ds1[j] (List.getElem?_eq_getElem hj)
        obtain ⟨ρ7, hput7, hbody7⟩ := vturn j ds1[j] acc6 S6 (List.getElem?_eq_getElem hj) w6
        refine ⟨g3, fun H' => ∃ I' S' acc vs, Same I5 I' ∧ Ok X.K I' S' (upd F Dd (.lst vs)) H' ∧ RepL X.K I' acc vs ∧ W1 (j + 1) acc S', fun H' h => ⟨k - 1, by omega, by omega, h⟩, fun x H7 hy7 => ?_⟩
        obtain ⟨I7, e7, ok7, r7⟩ := g4 x H7 hy7
        refine ⟨dwipe ρ3 t1.slots, ρ7, I7, S6, _, ds1[j], (rs3.mono (((e4.trans e5).trans e6).trans e7)).wipe _, ok7, r7, hput7, fun σ7 rs7 b7 => ⟨b7.wipe_sub fun i hi => hi, ?_⟩⟩
        refine ⟨ρ7, I7, S6, _, _, rs7, ok7, hbody7, fun b S8 I8 H8 h8 e8 ok8 => ?_⟩
        cases b with
        | true =>
          rw [if_pos rfl] at h8 ⊢
          refine ⟨ρ7, I8, S8, _, _, rs7.mono e8, ok8, h8, fun y S9 v I9 H9 h9 e9 ok9 r9 => ?_⟩
          have hF : (upd F Dd (.lst vs6)) Dd = some (.lst vs6) := upd_same
          refine ⟨vs6, (ok9.f Dd _ hF).1, ?_, I9, S9, acc6 ++ [y], vs6 ++ [v], (((e6.trans e7).trans e8).trans e9), ?_, (rl6.mono ((e7.trans e8).trans e9)).app (RepL.one r9), h9.2⟩
          · rw [rl6.len]
            have : (100000 : Nat) < sizeLine := by decide
            have := h9.1
            omega
          · have := ok9.writeF (o' := .lst (vs6 ++ [v])) hF ⟨fun y z => (by cases z), fun y z => (by cases z)⟩
            rwa [upd_upd] at this
        | false =>
          rw [if_neg Bool.false_ne_true] at h8 ⊢
          exact ⟨I8, S8, acc6, vs6, ((e6.trans e7).trans e8), ok8, rl6.mono (e7.trans e8), h8⟩
      · have e : j = ds1.length := by omega
        subst e
        exact .inl ⟨it1.stop I6 S6 _ H6 e6 ok6 (vpin _ _ _ w6) _ rfl, I6, S6, acc6, vs6, (((e2.trans e3).trans e4).trans e5).trans e6, ok6, rl6, vfin acc6 S6 w6⟩
    | false =>
      rw [if_neg Bool.false_ne_true] at h4 ⊢
      exact ⟨I4, S4, acc, vs, ((e2.trans e3).trans e4), ok4, rl.mono (e3.trans e4), h4⟩
  · have e : i = ds.length := by omega
    subst e
    refine .inl ⟨it.stop I2 S2 _ H2 e2 ok2 (hpin _ _ _ w2) _ rfl, ?_⟩
    have hF : (upd F Dd (.lst vs)) Dd = some (.lst vs) := upd_same
    have i2 : I2 Dd = none := (ok2.f Dd _ hF).2.1
    have ok3 := ok2.showF hF
    have ok4 : Ok X.K (upd I2 Dd (.lst vs)) S2 F H2 := by
      refine ⟨ok3.i, ok3.s, fun a x q => ?_⟩
      have ne : a ≠ Dd := fun z => by
        subst z
        rw [(ok1.freshF hD)] at q; cases q
      exact ok3.f a x (by show (if a = Dd then none else upd F Dd (.lst vs) a) = some x; rw [if_neg ne, upd_ne ne]; exact q)
    exact q _ _ _ _ _ (fin acc S2 w2) ((e1.trans e2).trans (same_new i2)) ok4 (rep_new_lst i2 rl)
section
variable {X : Cx} {pos : Pos}
theorem js_setLc2 (i : Nat) {y : Str} {py spos : Pos} {elt tg iter tg1 iter1 : Expr} {ifs ifs1 : List Expr} {scope : Scope} (own : List (Str × Nat)) {di di1 : DI} {t t1 : Tgt} {tt tt1 : DT} {de : DE} (ho : own.map (·.2) = t.slots ++ t1.slots) (hN : X.N.Nodup) (hy : X.N[i]? = some y) (hyl : X.env.scope.names.lookup y = some .local)
    (hsw : swapsWith (.ListComp elt [⟨tg, iter, ifs, 0⟩, ⟨tg1, iter1, ifs1, 0⟩] scope pos) (some (.Name y py)) spos.line X.env = pure true) (hi : JI X tg iter di) (ok : BlkOk X.N X.env.scope scope own)
    (hc : X.calm = true)
    (hg : ∀ (s : Shared) (H : Hp) (C : Addr) (cl : List (Str × Addr)) (fp : List Addr), JG (X.blk s H scope (compEnvC scope cl C X.env) fp) tg t) (ht : ∀ (s : Shared) (H : Hp) (C : Addr) (cl : List (Str × Addr)) (fp : List Addr), JTs (X.blk s H scope (compEnvC scope cl C X.env) fp) ifs tt)
    (hi1 : ∀ (s : Shared) (H : Hp) (C : Addr) (cl : List (Str × Addr)) (fp : List Addr), JI (X.blk s H scope (compEnvC scope cl C X.env) fp) tg1 iter1 di1)
    (hg1 : ∀ (s : Shared) (H : Hp) (C : Addr) (cl : List (Str × Addr)) (fp : List Addr), JG (X.blk s H scope (compEnvC scope cl C X.env) fp) tg1 t1) (ht1 : ∀ (s : Shared) (H : Hp) (C : Addr) (cl : List (Str × Addr)) (fp : List Addr), JTs (X.blk s H scope (compEnvC scope cl C X.env) fp) ifs1 tt1)
    (he : ∀ (s : Shared) (H : Hp) (C : Addr) (cl : List (Str × Addr)) (fp : List Addr), JE (X.blk s H scope (compEnvC scope cl C X.env) fp) elt de) (hs : ∀ x, foldedSetIterable iter X.env x = pure x := by intro _; rfl) (hs1 : ∀ env x, foldedSetIterable iter1 env x = pure x := by intro _ _; rfl) :
    JS X (.Assign [.Name y py] (.ListComp elt [⟨tg, iter, ifs, 0⟩, ⟨tg1, iter1, ifs1, 0⟩] scope pos) spos) (dSet i (dLc2 di t tt di1 t1 tt1 de)) :=
  js_of (ps_setLc2 (vs1 := t1.slots) hc hN hy hyl hsw hi ok (fun i hi => by rw [ho]; exact List.mem_append_right _ hi) hg ht hi1 hg1 ht1 he hs hs1) fun D σ H ⟨ρ, I, S, F, DD, rs, ok, h, q⟩ => by
    rw [ho]
    exact up_lc2 (X := X) σ H _ ⟨ρ, I, S, F, _, rs, ok, h, fun x S1 v I1 H1 h1 e1 ok1 r1 => q.nx _ _ _ _ _ h1 e1 ok1 ((rs.mono e1).set i r1)⟩

variable {a b : Expr} {da db : DE}
end
end DL

/-! every other item of a tuple -/
namespace L2
open PySem PySem.Spec PyProof.Rows HT
def every2 {α : Type} : List α → List α
  | [] => []
  | [x] => [x]
  | x :: _ :: r => x :: every2 r
theorem every2_len {α : Type} : ∀ xs : List α, (every2 xs).length = (xs.length + 1) / 2
  | [] => by simp [every2]
  | [x] => by simp [every2]
  | x :: y :: r => by
    simp only [every2, List.length_cons, every2_len r]
    omega
theorem every2_pick {α : Type} : ∀ xs : List α, (List.range ((xs.length + 1) / 2)).filterMap (fun (k : Nat) => xs[2 * k]?) = every2 xs
  | [] => by simp [every2]
  | [x] => by simp [every2, List.range_succ]
  | x :: y :: r => by
    have e : ((x :: y :: r).length + 1) / 2 = (r.length + 1) / 2 + 1 := by simp only [List.length_cons]; omega
    rw [e, List.range_succ_eq_map, List.filterMap_cons]
    simp only [Nat.mul_zero, List.getElem?_cons_zero, List.filterMap_map]
    have e2 : ((fun (k : Nat) => (x :: y :: r)[2 * k]?) ∘ Nat.succ) = fun (k : Nat) => r[2 * k]? := by
      funext k
      show (x :: y :: r)[2 * (k + 1)]? = _
      rw [show 2 * (k + 1) = 2 * k + 1 + 1 by omega]
      simp
    rw [e2, every2_pick r]
    rfl
theorem vals_every2 : ∀ {vs : List V} {us : List Value}, Vals vs us → Vals (every2 vs) (every2 us)
  | [], _, .nil => .nil
  | [_], _, .cons r .nil => .cons r .nil
  | _ :: _ :: _, _, .cons r (.cons _ t) => .cons r (vals_every2 t)
section
variable {prog : Program} {w : World} {A : Around} {E : Value → Shared → Prop} {s : Shared}
theorem places_step (i n : Nat) (h : i ≤ n) : Builtin.Slice.slicePlaces (i : Int) (n : Int) 2 = (n - i + 1) / 2 := by
  unfold Builtin.Slice.slicePlaces
  have h1 : (2 : Int) > 0 := by decide
  simp only [h1, if_true]
  split <;> omega
theorem adjust_step {lo : Option Int} (hl : lo = none ∨ ∃ i, lo = some i ∧ 0 ≤ i) (n : Nat) : Builtin.Slice.sliceAdjust lo none 2 (n : Int) = (((sIx n 0 lo : Nat) : Int), (n : Int)) := by
  have h1 : ¬ ((2 : Int) < 0) := by omega
  unfold Builtin.Slice.sliceAdjust
  simp only [h1, if_false]
  refine Prod.ext ?_ rfl
  cases lo with
  | none => rfl
  | some v => exact clip_eq v n 0
theorem sliceApplied_step {sl : Addr} {vl vu vs : Value} {lo : Option Int} {n : Nat} {Q : Int × Int × Nat → Shared → Prop} (hs : s.heap.IsSliceOf sl vl vu vs) (pl : IsPart vl lo) (pu : IsPart vu none) (ps : IsPart vs (some 2)) (hl : lo = none ∨ ∃ i, lo = some i ∧ 0 ≤ i)
    (h : Q (((sIx n 0 lo : Nat) : Int), 2, (n - sIx n 0 lo + 1) / 2) s) : wpAny (model prog w) A (Builtin.Slice.sliceApplied (.ref sl) (pure (n : Int))) Q E s := by
  obtain ⟨os, hos, hcs, hds⟩ := id hs
  unfold Builtin.Slice.sliceApplied Builtin.Slice.sliceFields
  refine wpAny_bind (wpAny_bind (wpAny_field hos hds (x := vl) rfl (wpAny_bind (wpAny_field hos hds (x := vu) rfl (wpAny_bind (wpAny_field hos hds (x := vs) rfl (wpAny_pure ?_)))))))
  refine wpAny_bind (slicePart_ ps ?_)
  show wpAny _ _ (if ((2 : Int) == 0) = true then _ else _) _ _ s
  rw [if_neg (by decide)]
  refine wpAny_bind (slicePart_ pl (wpAny_bind (slicePart_ pu (wpAny_bind (wpAny_pure ?_)))))
  show wpAny _ _ (match Builtin.Slice.sliceAdjust lo none 2 (n : Int) with | (lo, hi) => pure (lo, (2 : Int), Builtin.Slice.slicePlaces lo hi 2)) _ _ s
  rw [adjust_step hl n]
  show wpAny _ _ (pure (((sIx n 0 lo : Nat) : Int), (2 : Int), Builtin.Slice.slicePlaces ((sIx n 0 lo : Nat) : Int) (n : Int) 2)) _ _ s
  rw [places_step _ _ (sIx_le _ _ (Nat.zero_le _) _)]
  exact wpAny_pure h
theorem pick_step (xs : Array Value) (i : Nat) : ((List.range ((xs.size - i + 1) / 2)).filterMap fun (m : Nat) => xs[((i : Int) + (m : Int) * 2).toNat]?).toArray = (every2 (xs.toList.drop i)).toArray := by
  have e : (fun (m : Nat) => xs[((i : Int) + (m : Int) * 2).toNat]?) = fun (m : Nat) => (xs.toList.drop i)[2 * m]? := by
    funext m
    have : ((i : Int) + (m : Int) * 2).toNat = i + 2 * m := by omega
    rw [this, List.getElem?_drop]
    simp
  rw [e, show xs.size - i = (xs.toList.drop i).length by simp, every2_pick]
theorem getItem_tuple_step {t sl : Addr} {items : Array Value} {vl vu vs : Value} {lo : Option Int} {Q : Value → Shared → Prop} (ht : IsTup s.heap t items) (hs : s.heap.IsSliceOf sl vl vu vs) (pl : IsPart vl lo) (pu : IsPart vu none) (ps : IsPart vs (some 2)) (hl : lo = none ∨ ∃ i, lo = some i ∧ 0 ≤ i)
    (h : Q (.ref s.heap.objs.size) { s with heap := s.heap.push { cls := .type "tuple", data := .seq (every2 (items.toList.drop (sIx items.size 0 lo))).toArray } })
    (hsz : items.size ≤ sizeLine) : wpAny (model prog w) A (getItem (.ref t) (.ref sl)) Q E s := by
  have htake : sizeOk (.seq (every2 (items.toList.drop (sIx items.size 0 lo))).toArray) := by
    show (every2 (items.toList.drop (sIx items.size 0 lo))).toArray.size ≤ sizeLine
    rw [List.size_toArray, every2_len, List.length_drop, Array.length_toList]
    omega
  obtain ⟨os, hos, hcs, hds⟩ := id hs
  have hTs : s.TypeIs (.ref sl) "slice" := ⟨os, hos, hcs⟩
  unfold getItem
  try with_reducible refine wpAny_holding ?_
  first | refine wpAny_bind (wpAny_pure ?_) | skip
  refine wpAny_bind (wpAny_sequenceKey ht.typeIs (by decide) ?_)
  refine wpAny_bind (wpAny_callSpecial?_slot (name := Str.ofString "__getitem__") ht.typeIs PyProof.Rows.slot_tuple_getitem
    (wpAny_call_entry PyProof.Rows.slot_tuple_getitem ht.typeIs entry_tuple_getitem ?_ (args_tuple_getitem _ _)))
  show wpAny _ _ (Builtin.Tuple.tupleItemsOf (.ref t) >>= _) _ _ s
  refine wpAny_bind (tupleItemsOf_ ht ?_)
  refine wpAny_bind (wpAny_typeOf hTs ?_)
  rw [if_pos (by decide)]
  refine wpAny_bind (sliceApplied_step hs pl pu ps hl ?_)
  have hno : ¬ ((((sIx items.size 0 lo : Nat) : Int) == 0 && (2 : Int) == 1 && (items.size - sIx items.size 0 lo + 1) / 2 == items.size) = true) := by
    intro q
    rw [Bool.and_eq_true, Bool.and_eq_true] at q
    exact absurd (eq_of_beq q.1.2) (by decide)
  show wpAny _ _ (if (((sIx items.size 0 lo : Nat) : Int) == 0 && (2 : Int) == 1 && (items.size - sIx items.size 0 lo + 1) / 2 == items.size) = true then _ else _) _ _ s
  rw [if_neg hno, pick_step]
  first
    | exact wpAny_bind (m := Builtin.Tuple.tupleExact _) (wpAny_newObj_type (wpAny_pure ⟨_, rfl, wpAny_pure h⟩) htake)
    | exact wpAny_bind (m := Builtin.Tuple.tupleExact _) (wpAny_newObj_type (wpAny_bind (wpAny_pure (wpAny_pure ⟨_, rfl, wpAny_pure h⟩))) htake)
    | exact wpAny_bind (wpAny_bind (m := Builtin.Tuple.tupleExact _) (wpAny_newObj_type (wpAny_pure (wpAny_pure ⟨_, rfl, wpAny_pure h⟩)) htake))
    | exact wpAny_bind (wpAny_bind (m := Builtin.Tuple.tupleExact _) (wpAny_newObj_type (wpAny_pure ⟨_, rfl, wpAny_pure h⟩) htake))
end
section
variable {X : Cx}
def tEv (K : PySem.W.Frag) (te : TE) (tl : TO) : TE := fun σ H Q => te σ H fun x H1 => tl σ H1 fun l H2 => ∃ a xs, x = .ref a ∧ SqT K H2 a xs ∧ (l = none ∨ ∃ i, l = some i ∧ 0 ≤ i) ∧ ∀ p, H2 p = none → Q (.ref p) (upd H2 p (.tup (every2 (xs.drop (sIx xs.length 0 l)))))
theorem pe_ev {e : Expr} {te : TE} {lo : Option Expr} {tl : TO} {k : Nat} {p1 p3 pos : Pos} (he : PE X e te) (hl : PO X lo tl) : PE X (.Subscript e (.Slice lo none (some (.Constant (.int 2) k p1)) p3) pos) (tEv X.K te tl) := by
  refine ⟨fun pins s σ H Q I h => ?_⟩
  refine Subscript_ (thn (he.run pins s σ H _ I h) fun v s1 ⟨x, H1, I1, r1, q1⟩ => ?_)
  have hst : PO X (some (.Constant (.int 2) k p1)) (tPart (tC (.int 2))) := po_some pe_int
  refine wpAny_Slice (thn (hl.run pins s1 σ H1 _ I1 q1) fun vl s2 ⟨l, H2, I2, pl, q2⟩ => ?_)
  refine thn (po_none.run pins s2 σ H2 (fun o H3 => o = none ∧ H3 = H2) I2 ⟨rfl, rfl⟩) fun vu s3 ⟨u, H3, I3, pu, eu, e3⟩ => ?_
  subst eu e3
  refine thn (hst.run pins s3 σ H3 (fun o H4 => o = some 2 ∧ H4 = H3) I3 ⟨2, rfl, rfl, rfl⟩) fun vs s4 ⟨o, H4, I4, ps, eo, e4⟩ => ?_
  subst eo e4
  obtain ⟨a, xs, ex, hx, hl0, q⟩ := q2
  subst ex
  cases r1
  have I5 : Inv X pins σ H4 { s4 with heap := s4.heap.push { cls := .type "slice", data := .fields #[vl, vu, vs] } } := I4.kept (t' := s4.toks) fun b ob q => Heap.get?_push_of_some _ q
  obtain ⟨its, r, ht, hz⟩ := I5.tuple hx
  have hlen : its.toArray.size = xs.length := by rw [List.size_toArray]; exact r.length.symm
  show wpAny (model X.prog X.w) X.A (subscriptTail e (.Slice lo none (some (.Constant (.int 2) k p1)) p3) (.ref a) (.ref s4.heap.objs.size)) (EP X pins σ Q) X.xe { s4 with heap := s4.heap.push { cls := .type "slice", data := .fields #[vl, vu, vs] } }
  refine tail_any (ops := [.ref a, .ref s4.heap.objs.size]) ht.typeIs PyProof.Rows.slot_tuple_getitem.lookup ?_ (by with_unfolding_all rfl)
  refine getItem_tuple_step ht (Heap.IsSliceOf.new _ vl vu vs) pl pu ps hl0 ?_ (by rw [hlen]; exact hz)
  rw [hlen]
  refine ⟨.ref _, _, I5.laid (t' := s4.toks) (o := .tup (every2 (xs.drop (sIx xs.length 0 l)))) (fun b ob q => Heap.get?_push_of_some _ q) (Nat.le_refl _) ?_, rfl, q _ (I5.hok.fresh (Nat.le_refl _))⟩
  exact ⟨by rw [every2_len, List.length_drop]; omega, _, vals_every2 (r.drop _), IsTup.new _ _⟩
end
section
end
end L2
namespace DL
open PySem PySem.Spec PyProof.Rows L2
theorem RepL.every2 {K : PySem.W.Frag} {I : Hp} : ∀ {ds : List D} {vs : List V}, RepL K I ds vs → RepL K I (L2.every2 ds) (L2.every2 vs)
  | [], vs, h => by
    simp only [RepL] at h
    subst h; exact RepL.nil
  | [d], vs, h => by
    obtain ⟨v, rfl, r⟩ := h.inv1
    exact RepL.one r
  | d :: e :: ds, vs, h => by
    simp only [RepL] at h
    obtain ⟨v, r, rfl, h1, w, r', rfl, h2, h3⟩ := h
    exact RepL.cons h1 (RepL.every2 h3)
/-- t[lo::2] -/
def dEv (d : DE) (lo : DO) : DE := fun ρ S P => d ρ S fun x S1 => lo ρ S1 fun l S2 => match x with
  | .tup ds => (match l with | none => True | some i => 0 ≤ i) ∧ P (.tup (every2 (ds.drop (HT.sIx ds.length 0 l)))) S2
  | _ => False
theorem je_ev {X : Cx} {pos p1 p3 : Pos} {k : Nat} {a : Expr} {da : DE} {lo : Option Expr} {dl : DO} (he : JE X a da) (hl : JO X lo dl) : JE X (.Subscript a (.Slice lo none (some (.Constant (.int 2) k p1)) p3) pos) (dEv da dl) :=
  je_of (pe_ev he hl) fun σ H Q ⟨ρ, I, S, F, P, rs, ok, h, q⟩ =>
    ⟨ρ, I, S, F, _, rs, ok, h, fun x S1 v I1 H1 h1 e1 ok1 r1 => ⟨ρ, I1, S1, F, _, rs.mono e1, ok1, h1, fun l S2 I2 H2 h2 e2 ok2 => by
      have r2 : Rep X.K I2 x v := r1.mono e2
      split at h2
      · rename_i ds
        obtain ⟨a, xs, rfl, hs, rl⟩ := tup_sq ok2 r2
        refine ⟨a, xs, rfl, hs, ?_, fun p hp => ?_⟩
        · cases l with
          | none => exact .inl rfl
          | some i => exact .inr ⟨i, rfl, h2.1⟩
        · rw [rl.len]
          exact q _ _ _ _ _ h2.2 ((e1.trans e2).trans (same_new (ok2.freshI hp))) (ok2.newI hp) (rep_new_tup (ok2.freshI hp) (RepL.every2 (rl.drop _)))
      · exact h2.elim⟩⟩
end DL

namespace DL
open PySem PySem.Spec PyProof.Rows L2

/-! ### {'a': 1, ..}.get(x, y) of a written dict -/
def dictAt : List (Str × Int) → Str → Option Int
  | [], _ => none
  | (k, v) :: r, z => if k = z then some v else dictAt r z
def kvV (p : Str × Int) : Key × V := (.inr p.1, .int p.2)
theorem dictAt_val (z : Str) : ∀ kvs : List (Str × Int), valV (kvs.map kvV) (.inr z) = (dictAt kvs z).map V.int
  | [] => rfl
  | (k, v) :: r => by
    have ih := dictAt_val z r
    unfold valV at ih ⊢
    rw [List.map_cons, List.find?_cons]
    by_cases h : k = z
    · subst h
      simp [kvV, dictAt]
    · have : decide ((kvV (k, v)).1 = (Sum.inr z : Key)) = false := by
        simp [kvV, h]
      rw [this]
      simp only [dictAt, if_neg h]
      exact ih
def tKV (p : Str × Int) : TE × TE := (tC (.str p.1), tC (.int p.2))
theorem pairs_kv {σ : L2.St} {Q : List (V × V) → Hp → Prop} : ∀ (kvs : List (Str × Int)) {H : Hp}, Q (kvs.map fun p => (V.str p.1, V.int p.2)) H → tPairs (kvs.map tKV) σ H Q
  | [], H, h => h
  | p :: r, H, h => by
    show tPairs (r.map tKV) σ H fun ps H3 => Q ((V.str p.1, V.int p.2) :: ps) H3
    exact pairs_kv r h
theorem Ok.less {K : PySem.W.Frag} {I F F' H : Hp} {S : Store} (h : Ok K I S F' H) (le : ∀ a o, F a = some o → F' a = some o) : Ok K I S F H := ⟨h.i, h.s, fun a o e => h.f a o (le a o e)⟩
def dDispGet (kvs : List (Str × Int)) (dk dd : DE) : DE := fun ρ S P => dk ρ S fun x S1 => dd ρ S1 fun y S2 => match x with
  | .str z => (match dictAt kvs z with
    | some i => P (.int i) S2
    | none => P y S2)
  | _ => False
section
variable {X : Cx} {pos p1 apos cpos : Pos} {e f : Expr} {dk dd : DE}
theorem je_dispGet {k : Nat} (kvs : List (Str × Int)) {keys : List (Option Expr)} {values : List Expr} (hr : DG.RoomG k X.A) (hp : PPs X p1 keys values (kvs.map tKV)) (hk : JE X e dk) (hd : JE X f dd) (m : M2 X (.Dict keys values p1) "get" apos e f cpos)
    (hm : mergeK [] (kvs.map kvV) = kvs.map kvV) (hall : keys.all (·.isSome) = true := by rfl) (hl : keys.length = values.length := by rfl) (h0 : keys ≠ [] := by exact fun z => nomatch z) (h15 : keys.length ≤ 15 := by decide) (hkl : kvs.length ≤ 15 := by decide) :
    JE X (.Call (.Attribute (.Dict keys values p1) "get" apos) [e, f] [] cpos) (dDispGet kvs dk dd) :=
  je_of (pe_dget2 (by have := hr.r.un; omega) (pe_disp hp hall hl h0 h15) hk hd m) fun σ H Q ⟨ρ, I, S, F, P, rs, ok, h, q⟩ => by
    intro p hp
    refine pairs_kv kvs ⟨upd_same, kvs.map kvV, by rw [List.map_map]; rfl, by rw [List.length_map]; exact hkl, ?_⟩
    rw [upd_upd, hm]
    have ok1 : Ok X.K I S (upd F p (.dK (kvs.map kvV))) (upd H p (.dK (kvs.map kvV))) := ok.newF hp ⟨fun y z => (by cases z), fun y z => (by cases z)⟩
    have hF : (upd F p (.dK (kvs.map kvV))) p = some (.dK (kvs.map kvV)) := upd_same
    have hn : F p = none := ok.freshF hp
    refine ⟨p, rfl, .inl ⟨_, .inl upd_same⟩, ρ, I, S, _, _, rs, ok1, h, fun x S1 v I1 H1 h1 e1 ok2 r1 => ⟨ρ, I1, S1, _, _, rs.mono e1, ok2, h1, fun y S2 w I2 H2 h2 e2 ok3 r2 => ?_⟩⟩
    have hd := (ok3.f p _ hF).1
    have ok4 : Ok X.K I2 S2 F H2 := ok3.less fun a o ea => by
      rw [upd_ne (fun z => by rw [z, hn] at ea; cases ea)]; exact ea
    split at h2
    · rename_i z
      cases (r1.mono e2).str_of
      refine ⟨valV (kvs.map kvV) (.inr z), DGet.k (k := .inr z) hd, ?_⟩
      rw [dictAt_val]
      split at h2
      · rename_i i ei
        rw [ei]
        exact q _ _ _ _ _ h2 (e1.trans e2) ok4 rep_int
      · rename_i ei
        rw [ei]
        exact q _ _ _ _ _ h2 (e1.trans e2) ok4 r2
    · exact h2.elim

variable {o a : Expr} {da db : DE} {pos : Pos}
end
end DL

namespace Lb
open PySem PySem.Spec PyProof.Rows L2 DL
/-- what stood stands -/
def Kept (S S' : Store) : Prop := ∀ q m, S q = some m → S' q = some m
theorem Kept.refl (S : Store) : Kept S S := fun _ _ h => h
theorem Kept.trans {S S1 S2 : Store} (h : Kept S S1) (h2 : Kept S1 S2) : Kept S S2 := fun q m e => h2 q m (h q m e)
theorem BoxAt.kept {S S' : Store} {p : Addr} {n : Nat} (h : BoxAt S p n) (k : Kept S S') : BoxAt S' p n := by
  obtain ⟨a, s, t, e, h⟩ := h
  exact ⟨a, s, t, k _ _ e, h⟩
theorem ix_obj {S : Store} {l : Addr} {ds : List D} {k : Int} {P : D → Store → Prop} (h : S l = some (.lst ds)) : dIx (.obj l) (.int k) S P = (match atI ds k with | some d => P d S | none => False) := by
  unfold dIx
  simp only [seqOf, lstOf, h]
  all_goals rfl
theorem lo_le_hi {b : Int} {r : Rw} (hr : r.Ok b) : r.lo b ≤ r.hi b := by
  have h1 : 0 ≤ r.tail b := by
    unfold Rw.tail
    refine Rat.mul_nonneg ?_ (Rat.le_of_lt hr.pwp)
    rw [Rat.div_def]
    exact Rat.mul_nonneg (by exact_mod_cast hr.m0) (Rat.le_of_lt (Rat.inv_pos.mpr hr.cp))
  unfold Rw.lo Rw.hi
  grind
end Lb

namespace Lb
open PySem PySem.Spec PyProof.Rows L2 DL
local macro_rules | `(tactic| walk_at "dg2") => `(tactic| try simp only [dSeq, dSet, dPar, dOp, dUn, dVar, dC, dCB, dCons, dNil, dTup, dLst, dLstM, dIfS, dIf, dTest, dNot, dAnd, dOr, dAndV, dOrV, dNotV, dRet, dRetN, dEnd, dNext, dAdd, dSub, dMul, dFdiv, dMod, dPow, dNeg, dLt, dLe, dGt, dGe, dEq, dNe, eqB_ii, eqB_bb, eqB_ss, eqB_nn, eqB_ni, eqB_in, eqB_ns, eqB_sn, eqB_is, eqB_si, eqB_nb, eqB_bn, dIn, g_ix_tup, g_ix_lst, g_ix_ext, g_ln_tup, g_ln_lst, g_ln_ext, g_nn_non, g_nn_int, g_nn_tup, g_in_non, g_in_int, g_in_tup, g_ix_row0, g_ix_row1, g_ix_row2, g_ix_span0, g_ix_span1, g_nn_span, g_nn_encR, g_in_span, cAbs, cMax2, cMin2, cInt, cList, cTuple, dIsB, dNotB, dPar3, ForN, LcN, pinOf, pin2, dEnum2, dAppend, supd_same0, isi_non_int, isi_non_bool, isi_non_str, isi_non_list, isi_non_tuple, isi_non_lt, isi_bl_int, isi_bl_bool, isi_bl_str, isi_bl_list, isi_bl_tuple, isi_bl_lt, isi_int_int, isi_int_bool, isi_int_str, isi_int_list, isi_int_tuple, isi_int_lt, isi_str_int, isi_str_bool, isi_str_str, isi_str_list, isi_str_tuple, isi_str_lt, isi_lst_int, isi_lst_bool, isi_lst_str, isi_lst_list, isi_lst_tuple, isi_lst_lt, isi_tup_int, isi_tup_bool, isi_tup_str, isi_tup_list, isi_tup_tuple, isi_tup_lt, dAug, dIAdd, dIMul, dDrop, dSl, dPart, dNoPart, dRevL, dCallK, dChainR, dAsg, put_nm, put_tp, put_tl, g_put_row, g_put_span, putL_nil, putL_cons, Option.bind, seqOf, lstOf, dFor, dLc, dLcM, dItSeq, dZip, dZipS, dEnum, dRng1, dRng2, dYes, dwipe, Tgt.slots, Tgt.slotsL,
  atI_0, atI_1, atI_2, atI_3, List.getElem?_cons_zero, List.getElem?_cons_succ, List.set_cons_zero, List.set_cons_succ, decide_eq_true_eq, List.length_cons, List.length_nil, List.cons_append, List.nil_append, List.append_nil, ofString_inj, String.reduceEq, decide_true, decide_false, reduceIte, Bool.false_eq_true, Bool.not_true, Bool.not_false, eqFlat, isFlat, List.any_cons, List.any_nil, List.all_cons, List.all_nil, Bool.or_false, Bool.or_true, Bool.false_or, Bool.true_or, Bool.and_true, Bool.true_and, true_and, and_true, Nat.reduceAdd, Nat.reduceLeDiff, Int.reduceLT, Int.reduceLE, Int.reduceNeg])
/-! ### kinds -/
inductive Kn where
  | sum (ws : List Int) (v : Int) | loose (ws : List Int) | moved (e : Int) | told (q : Rat) | times | over (k : Int) | least | most | choose
def Kn.d : Kn → D
  | .sum ws v => .tup [.str "sum", .tup (ws.map .int), .int v]
  | .loose ws => .tup [.str "loose", .tup (ws.map .int)]
  | .moved e => .tup [.str "moved", .int e]
  | .told q => .tup [.str "told", encR q]
  | .times => .tup [.str "times"]
  | .over k => .tup [.str "over", .int k]
  | .least => .tup [.str "least"]
  | .most => .tup [.str "most"]
  | .choose => .tup [.str "choose"]
def Kn.word : Kn → Str
  | .sum .. => "sum"
  | .loose .. => "loose"
  | .moved .. => "moved"
  | .told .. => "told"
  | .times => "times"
  | .over .. => "over"
  | .least => "least"
  | .most => "most"
  | .choose => "choose"
def Kn.many : Kn → Nat
  | .sum ws _ => ws.length
  | .loose ws => ws.length
  | .moved _ => 1
  | .told _ => 0
  | .choose => 3
  | _ => 2
def Kn.Ok : Kn → Prop
  | .sum ws v => ws.length ≤ 4 ∧ (∀ w, w ∈ ws → w.natAbs ≤ 100) ∧ 1 ≤ v ∧ v ≤ 1000
  | .loose ws => ws.length ≤ 4 ∧ ∀ w, w ∈ ws → w.natAbs ≤ 100
  | .moved e => e.natAbs ≤ 30
  | .told q => Sz 100 q
  | .over k => k.natAbs ≤ 20
  | _ => True
def wsum : List Int → List Rat → Rat
  | w :: ws, x :: xs => (w : Rat) * x + wsum ws xs
  | _, _ => 0
/-- what comes of numbers -/
def Kn.app (b : Int) : Kn → List Rat → Rat
  | .sum ws v, xs => wsum ws xs / ((v : Int) : Rat)
  | .loose ws, xs => wsum ws xs
  | .moved e, x :: _ => x * (b : Rat) ^ e
  | .told q, _ => q
  | .times, [x, y] => x * y
  | .over k, [x, y] => x / max y ((b : Rat) ^ (-k))
  | .least, [x, y] => min x y
  | .most, [x, y] => max x y
  | .choose, [x, y, z] => if x < 0 then z else y
  | _, _ => 0
theorem wsum_take : ∀ (ws : List Int) (xs : List Rat) (i : Nat) (w : Int) (x : Rat), ws[i]? = some w → xs[i]? = some x → wsum (ws.take (i + 1)) (xs.take (i + 1)) = wsum (ws.take i) (xs.take i) + (w : Rat) * x
  | w :: ws, x :: xs, 0, w', x', h1, h2 => by
    simp at h1 h2
    subst h1 h2
    simp [wsum]; grind
  | w :: ws, x :: xs, i + 1, w', x', h1, h2 => by
    have := wsum_take ws xs i w' x' (by simpa using h1) (by simpa using h2)
    simp only [List.take_succ_cons, wsum, this]
    grind
  | [], _, _, _, _, h1, _ => by simp at h1
  | _ :: _, [], _, _, _, _, h2 => by simp at h2
theorem wsum_zero (ws : List Int) (xs : List Rat) : wsum (ws.take 0) (xs.take 0) = 0 := by simp [wsum]
theorem wsum_sz {z : Nat} {ws : List Int} {xs : List Rat} (hw : ∀ w, w ∈ ws → w.natAbs ≤ 100) (hx : ∀ x, x ∈ xs → Sz z x) : ∀ i, i ≤ ws.length → i ≤ xs.length → Sz (i * (z + 12) + 2) (wsum (ws.take i) (xs.take i))
  | 0, _, _ => by rw [wsum_zero]; exact (sz_int (n := 2) (k := 0) (by decide)).mono (by omega)
  | i + 1, h1, h2 => by
    have ih := wsum_sz hw hx i (by omega) (by omega)
    have e1 : ws[i]? = some ws[i] := List.getElem?_eq_getElem (by omega)
    have e2 : xs[i]? = some xs[i] := List.getElem?_eq_getElem (by omega)
    rw [wsum_take ws xs i _ _ e1 e2]
    have hw1 := hw ws[i] (List.getElem_mem _)
    have s1 : Sz 8 ((ws[i] : Int) : Rat) := sz_int (by omega)
    have s2 := sz_mul s1 (hx xs[i] (List.getElem_mem _))
    refine (sz_add ih s2).mono ?_
    rw [Nat.add_mul]
    omega
theorem max_pos {x y : Rat} (h : 0 < y) : 0 < max x y := by
  rw [max_if]; split <;> grind
theorem sz_max {n : Nat} {x y : Rat} (h1 : Sz n x) (h2 : Sz n y) : Sz n (max x y) := by rw [max_if]; split <;> assumption
theorem sz_min {n : Nat} {x y : Rat} (h1 : Sz n x) (h2 : Sz n y) : Sz n (min x y) := by rw [min_if]; split <;> assumption
theorem Kn.app_sz {b : Int} {kn : Kn} {xs : List Rat} {z : Nat} (b0 : 2 ≤ b) (b1 : b ≤ 16) (hk : kn.Ok) (hl : xs.length = kn.many) (hz : 100 ≤ z) (hx : ∀ x, x ∈ xs → Sz z x) : Sz (4 * z + 100) (kn.app b xs) := by
  have bp : (0 : Int) < b := by omega
  cases kn with
  | sum ws v =>
    obtain ⟨h1, h2, h3, h4⟩ := hk
    have := wsum_sz h2 hx ws.length (Nat.le_refl _) (by have : xs.length = ws.length := hl; omega)
    rw [List.take_length, show xs.take ws.length = xs from by rw [← show xs.length = ws.length from hl, List.take_length]] at this
    have hv : Sz 11 ((v : Int) : Rat) := sz_int (by omega)
    have vn : ((v : Int) : Rat) ≠ 0 := by
      have : v ≠ 0 := by omega
      exact_mod_cast this
    refine (sz_div vn this hv).mono ?_
    have : ws.length * (z + 12) ≤ 4 * (z + 12) := Nat.mul_le_mul_right _ h1
    omega
  | loose ws =>
    obtain ⟨h1, h2⟩ := hk
    have := wsum_sz h2 hx ws.length (Nat.le_refl _) (by have : xs.length = ws.length := hl; omega)
    rw [List.take_length, show xs.take ws.length = xs from by rw [← show xs.length = ws.length from hl, List.take_length]] at this
    refine this.mono ?_
    have : ws.length * (z + 12) ≤ 4 * (z + 12) := Nat.mul_le_mul_right _ h1
    omega
  | moved e =>
    match xs, hl with
    | [x], _ =>
      have he : e.natAbs ≤ 30 := hk
      exact (sz_mul (hx x (by simp)) (sz_zpow (k := e) bp b1)).mono (by omega)
  | told q => exact Sz.mono (show Sz 100 q from hk) (by omega)
  | times =>
    match xs, hl with
    | [x, y], _ => exact (sz_mul (hx x (by simp)) (hx y (by simp))).mono (by omega)
  | over k =>
    match xs, hl with
    | [x, y], _ =>
      have he : k.natAbs ≤ 20 := hk
      have p := Rat.zpow_pos (n := -k) (ratpos bp)
      have hp := max_pos (x := y) p
      exact (sz_div (by grind) (hx x (by simp)) (sz_max (hx y (by simp)) ((sz_zpow (k := -k) bp b1).mono (by omega)))).mono (by omega)
  | least =>
    match xs, hl with
    | [x, y], _ => exact (sz_min (hx x (by simp)) (hx y (by simp))).mono (by omega)
  | most =>
    match xs, hl with
    | [x, y], _ => exact (sz_max (hx x (by simp)) (hx y (by simp))).mono (by omega)
  | choose =>
    match xs, hl with
    | [x, y, w], _ =>
      show Sz _ (if x < 0 then w else y)
      split
      · exact (hx w (by simp)).mono (by omega)
      · exact (hx y (by simp)).mono (by omega)
/-- corners: which end of each -/
def cor : Nat → List (List Int)
  | 0 => [[]]
  | n + 1 => (cor n).flatMap fun o => [o ++ [0], o ++ [1]]
def intsD (o : List Int) : D := .tup (o.map .int)
def spD (s : Rat × Rat) : D := .tup [encR s.1, encR s.2]
def pickAt (ss : List (Rat × Rat)) (o : List Int) : List Rat := (ss.zip o).map fun p => if p.2 = 0 then p.1.1 else p.1.2
theorem cor_len : ∀ n, (cor n).length = 2 ^ n
  | 0 => rfl
  | n + 1 => by
    show ((cor n).flatMap fun o => [o ++ [0], o ++ [1]]).length = _
    rw [List.length_flatMap]
    have : ((cor n).map fun o => [o ++ [0], o ++ [1]].length) = List.replicate (cor n).length 2 := by
      rw [← List.map_const']; rfl
    rw [this, List.sum_replicate_nat, cor_len n, Nat.pow_succ]
theorem mem_cor : ∀ {n : Nat} {o : List Int}, o ∈ cor n ↔ o.length = n ∧ ∀ e, e ∈ o → e = 0 ∨ e = 1
  | 0, o => by
    constructor
    · intro h
      simp only [cor, List.mem_singleton] at h
      subst h; simp
    · rintro ⟨h, _⟩
      rw [List.eq_nil_of_length_eq_zero h]
      simp [cor]
  | n + 1, o => by
    show o ∈ (cor n).flatMap (fun o => [o ++ [0], o ++ [1]]) ↔ _
    rw [List.mem_flatMap]
    constructor
    · rintro ⟨p, hp, h⟩
      obtain ⟨h1, h2⟩ := mem_cor.mp hp
      simp only [List.mem_cons, List.not_mem_nil, or_false] at h
      rcases h with rfl | rfl
      · refine ⟨by simp [h1], fun e he => ?_⟩
        rcases List.mem_append.mp he with he | he
        · exact h2 e he
        · simp only [List.mem_singleton] at he
          exact .inl he
      · refine ⟨by simp [h1], fun e he => ?_⟩
        rcases List.mem_append.mp he with he | he
        · exact h2 e he
        · simp only [List.mem_singleton] at he
          exact .inr he
    · rintro ⟨h1, h2⟩
      have hne : o ≠ [] := fun z => by rw [z] at h1; cases h1
      have e : o = o.dropLast ++ [o.getLast hne] := (List.dropLast_concat_getLast hne).symm
      refine ⟨o.dropLast, mem_cor.mpr ⟨by rw [List.length_dropLast]; omega, fun x hx => h2 x (List.dropLast_subset o hx)⟩, ?_⟩
      rcases h2 (o.getLast hne) (List.getLast_mem hne) with h | h
      · rw [h] at e; rw [← e]; simp
      · rw [h] at e; rw [← e]; simp
def Kn.vals (b : Int) (kn : Kn) (ss : List (Rat × Rat)) : List Rat := (cor ss.length).map fun o => kn.app b (pickAt ss o)
def minL : List Rat → Rat
  | [] => 0
  | x :: xs => xs.foldl min x
def maxL : List Rat → Rat
  | [] => 0
  | x :: xs => xs.foldl max x
def reachD (b : Int) (kn : Kn) (ss : List (Rat × Rat)) : D := .tup [encR (minL (kn.vals b ss)), encR (maxL (kn.vals b ss))]
theorem pickAt_len {ss : List (Rat × Rat)} {o : List Int} (h : o.length = ss.length) : (pickAt ss o).length = ss.length := by
  unfold pickAt; rw [List.length_map, List.length_zip]; omega
theorem pickAt_mem {ss : List (Rat × Rat)} {o : List Int} {x : Rat} (h : x ∈ pickAt ss o) : ∃ s, s ∈ ss ∧ (x = s.1 ∨ x = s.2) := by
  unfold pickAt at h
  obtain ⟨⟨s, e⟩, hm, rfl⟩ := List.mem_map.mp h
  refine ⟨s, (List.of_mem_zip hm).1, ?_⟩
  simp only
  split
  · exact .inl rfl
  · exact .inr rfl
/-! ### promises -/
def NumsD (y : D) (xs : List Rat) : Prop := y = .lst (xs.map encR) ∨ y = .tup (xs.map encR)
def sp_weighed : DSp := fun ds S P => ∃ (ws : List Int) (xs : List Rat) (v : Int) (z : Nat) (y : D), ds = [.tup (ws.map .int), y, .int v] ∧ NumsD y xs ∧ ws.length = xs.length ∧ ws.length ≤ 4 ∧ (∀ w, w ∈ ws → w.natAbs ≤ 100) ∧ 1 ≤ v ∧ v ≤ 1000 ∧ z ≤ 970 ∧ (∀ x, x ∈ xs → Sz z x) ∧ P (encR (wsum ws xs / ((v : Int) : Rat))) S
def sp_applied : DSp := fun ds S P => ∃ (b : Int) (kn : Kn) (xs : List Rat) (z : Nat) (y : D), ds = [.int b, kn.d, y] ∧ NumsD y xs ∧ kn.Ok ∧ xs.length = kn.many ∧ 2 ≤ b ∧ b ≤ 16 ∧ 100 ≤ z ∧ z ≤ 970 ∧ (∀ x, x ∈ xs → Sz z x) ∧ P (encR (kn.app b xs)) S
def sp_corners_of : DSp := fun ds S P => ∃ n : Nat, ds = [.int n] ∧ n ≤ 6 ∧ P (.lst ((cor n).map intsD)) S
def sp_numbers_at : DSp := fun ds S P => ∃ (ss : List (Rat × Rat)) (o : List Int), ds = [.lst (ss.map spD), intsD o] ∧ ss.length = o.length ∧ (∀ e, e ∈ o → e = 0 ∨ e = 1) ∧ ss.length ≤ 100 ∧ P (.lst ((pickAt ss o).map encR)) S
def spanQ (b : Int) (r : Rw) : Rat × Rat := (r.lo b, r.hi b)
/-- rows, in a list that may change or not -/
def RowsD (S : Store) (y : D) (rs : List Rw) : Prop := y = .lst (rs.map Rw.d) ∨ y = .tup (rs.map Rw.d) ∨ ∃ l, y = .obj l ∧ S l = some (.lst (rs.map Rw.d))
def RsOk (b : Int) (z : Nat) (rs : List Rw) : Prop := ∀ r, r ∈ rs → r.Ok b ∧ Sz z (r.lo b) ∧ Sz z (r.hi b)
def sp_reach_of : DSp := fun ds S P => ∃ (b : Int) (kn : Kn) (rs : List Rw) (z : Nat) (y : D), ds = [.int b, kn.d, y] ∧ RowsD S y rs ∧ kn.Ok ∧ rs.length = kn.many ∧ 2 ≤ b ∧ b ≤ 16 ∧ 100 ≤ z ∧ z ≤ 970 ∧ RsOk b z rs ∧ P (reachD b kn (rs.map (spanQ b))) S
def rd_weighed : DS :=
  (dSeq (dSet 3 (dC (.tup [(.int 0), (.int 1)])))
  (dSeq (dFor (dZipS (dCons (dVar 0) (dCons (dVar 1) dNil))) (.tp [(.nm 4), (.nm 5)]) (dSet 3 (dCB sp_plus (dCons (dVar 3) (dCons (dCB sp_times (dCons (dTup (dCons (dVar 4) (dCons (dC (.int 1)) dNil))) (dCons (dVar 5) dNil))) dNil)))))
  (dRet (dCB sp_over (dCons (dVar 3) (dCons (dTup (dCons (dVar 2) (dCons (dC (.int 1)) dNil))) dNil))))))
def goal_weighed : Prop := ∀ (x0 x1 x2 : D) (S : Store) (P : D → Store → Prop), sp_weighed [x0, x1, x2] S P → rd_weighed (dEnd P) [some x0, some x1, some x2, none, none, none] S
def rd_applied : DS :=
  (dSeq (dSet 3 (dOp dIx (dVar 1) (dC (.int 0))))
  (dSeq (dIfS (dTest (dOp dEq (dVar 3) (dC (.str "sum")))) (dRet (dCB sp_weighed (dCons (dOp dIx (dVar 1) (dC (.int 1))) (dCons (dVar 2) (dCons (dOp dIx (dVar 1) (dC (.int 2))) dNil))))) dNext)
  (dSeq (dIfS (dTest (dOp dEq (dVar 3) (dC (.str "loose")))) (dRet (dCB sp_weighed (dCons (dOp dIx (dVar 1) (dC (.int 1))) (dCons (dVar 2) (dCons (dC (.int 1)) dNil))))) dNext)
  (dSeq (dIfS (dTest (dOp dEq (dVar 3) (dC (.str "moved")))) (dRet (dCB sp_times (dCons (dOp dIx (dVar 2) (dC (.int 0))) (dCons (dCB sp_power (dCons (dVar 0) (dCons (dOp dIx (dVar 1) (dC (.int 1))) dNil))) dNil)))) dNext)
  (dSeq (dIfS (dTest (dOp dEq (dVar 3) (dC (.str "told")))) (dRet (dOp dIx (dVar 1) (dC (.int 1)))) dNext)
  (dSeq (dIfS (dTest (dOp dEq (dVar 3) (dC (.str "choose")))) (dRet (dIf (dTest (dOp dLt (dOp dIx (dOp dIx (dVar 2) (dC (.int 0))) (dC (.int 0))) (dC (.int 0)))) (dOp dIx (dVar 2) (dC (.int 2))) (dOp dIx (dVar 2) (dC (.int 1))))) dNext)
  (dSeq (dAsg (.tp [(.nm 4), (.nm 5)]) (dVar 2))
  (dSeq (dIfS (dTest (dOp dEq (dVar 3) (dC (.str "times")))) (dRet (dCB sp_times (dCons (dVar 4) (dCons (dVar 5) dNil)))) dNext)
  (dSeq (dIfS (dTest (dOp dEq (dVar 3) (dC (.str "over")))) (dRet (dCB sp_over (dCons (dVar 4) (dCons (dCB sp_greater (dCons (dVar 5) (dCons (dCB sp_power (dCons (dVar 0) (dCons (dUn dNeg (dOp dIx (dVar 1) (dC (.int 1)))) dNil))) dNil))) dNil)))) dNext)
  (dRet (dIf (dTest (dOp dEq (dVar 3) (dC (.str "least")))) (dCB sp_lesser (dCons (dVar 4) (dCons (dVar 5) dNil))) (dCB sp_greater (dCons (dVar 4) (dCons (dVar 5) dNil))))))))))))))
def goal_applied : Prop := ∀ (x0 x1 x2 : D) (S : Store) (P : D → Store → Prop), sp_applied [x0, x1, x2] S P → rd_applied (dEnd P) [some x0, some x1, some x2, none, none, none] S
def rd_corners_of : DS :=
  (dSeq (dSet 1 (dLst (dCons (dTup dNil) dNil)))
  (dSeq (dFor (dRng1 (dCons (dVar 0) dNil)) (.nm 2) (dSet 1 (dLc2 (dItSeq (dVar 1)) (.nm 3) dYes (dItSeq (dTup (dCons (dC (.int 0)) (dCons (dC (.int 1)) dNil)))) (.nm 4) dYes (dOp dAdd (dVar 3) (dTup (dCons (dVar 4) dNil))))))
  (dRet (dVar 1))))
def goal_corners_of : Prop := ∀ (x0 : D) (S : Store) (P : D → Store → Prop), sp_corners_of [x0] S P → rd_corners_of (dEnd P) [some x0, none, none, none, none] S
def rd_numbers_at : DS :=
  (dRet (dLc (dZipS (dCons (dVar 0) (dCons (dVar 1) dNil))) (.tp [(.nm 2), (.nm 3)]) dYes (dOp dIx (dVar 2) (dVar 3))))
def goal_numbers_at : Prop := ∀ (x0 x1 : D) (S : Store) (P : D → Store → Prop), sp_numbers_at [x0, x1] S P → rd_numbers_at (dEnd P) [some x0, some x1, none, none] S
def rd_reach_of : DS :=
  (dSeq (dSet 3 (dLc (dItSeq (dVar 2)) (.nm 4) dYes (dCB sp_span_of (dCons (dVar 0) (dCons (dVar 4) dNil)))))
  (dSeq (dSet 5 (dLc (dItSeq (dCB sp_corners_of (dCons (dCB cLen (dCons (dVar 3) dNil)) dNil))) (.nm 6) dYes (dCB sp_applied (dCons (dVar 0) (dCons (dVar 1) (dCons (dCB sp_numbers_at (dCons (dVar 3) (dCons (dVar 6) dNil))) dNil))))))
  (dSeq (dPar 7 8 (dCons (dOp dIx (dVar 5) (dC (.int 0))) (dCons (dOp dIx (dVar 5) (dC (.int 0))) dNil)))
  (dSeq (dFor (dItSeq (dVar 5)) (.nm 9) (dPar 7 8 (dCons (dCB sp_lesser (dCons (dVar 7) (dCons (dVar 9) dNil))) (dCons (dCB sp_greater (dCons (dVar 8) (dCons (dVar 9) dNil))) dNil))))
  (dRet (dTup (dCons (dVar 7) (dCons (dVar 8) dNil))))))))
def goal_reach_of : Prop := ∀ (x0 x1 x2 : D) (S : Store) (P : D → Store → Prop), sp_reach_of [x0, x1, x2] S P → rd_reach_of (dEnd P) [some x0, some x1, some x2, none, none, none, none, none, none, none] S
theorem len_weighed : ∀ ds S P, sp_weighed ds S P → ds.length = 3 := by
  rintro ds S P ⟨a, b, c, d, e, rfl, _⟩; rfl
theorem len_applied : ∀ ds S P, sp_applied ds S P → ds.length = 3 := by
  rintro ds S P ⟨a, b, c, d, e, rfl, _⟩; rfl
theorem len_corners_of : ∀ ds S P, sp_corners_of ds S P → ds.length = 1 := by
  rintro ds S P ⟨a, rfl, _⟩; rfl
theorem len_numbers_at : ∀ ds S P, sp_numbers_at ds S P → ds.length = 2 := by
  rintro ds S P ⟨a, b, rfl, _⟩; rfl
theorem len_reach_of : ∀ ds S P, sp_reach_of ds S P → ds.length = 3 := by
  rintro ds S P ⟨a, b, c, d, e, rfl, _⟩; rfl
theorem NumsD.seq {y : D} {xs : List Rat} (h : NumsD y xs) (S : Store) : seqOf S y = some (xs.map encR) := by
  rcases h with rfl | rfl <;> rfl
theorem NumsD.pin {y : D} {xs : List Rat} (h : NumsD y xs) (S : Store) : pinOf S y = none := by
  rcases h with rfl | rfl <;> rfl
theorem vc_weighed : goal_weighed := by
  rintro x0 x1 x2 S P ⟨ws, xs, v, z, y, e, hy, hl, hl4, hw, v0, v1, hz, hx, h⟩
  cases e
  unfold rd_weighed
  have fin : ForB (.tp [.nm 4, .nm 5]) (dSet 3 (dCB sp_plus (dCons (dVar 3) (dCons (dCB sp_times (dCons (dTup (dCons (dVar 4) (dCons (dC (.int 1)) dNil))) (dCons (dVar 5) dNil))) dNil)))) { nx := dRet (dCB sp_over (dCons (dVar 3) (dCons (dTup (dCons (dVar 2) (dCons (dC (.int 1)) dNil))) dNil))) (dEnd P), rt := P } (zipD (ws.map .int) (xs.map encR)) [some (.tup (ws.map .int)), some x1, some (.int v), some (encR 0), none, none] S := by
    refine ⟨fun i ρ S' => S' = S ∧ ∃ z4 z5, ρ = [some (.tup (ws.map .int)), some x1, some (.int v), some (encR (wsum (ws.take i) (xs.take i))), z4, z5], ⟨rfl, none, none, by rw [wsum_zero]⟩, ?_, ?_⟩
    · rintro i d ρ S' hd ⟨rfl, z4, z5, rfl⟩
      obtain ⟨a, c, h1, h2, rfl⟩ := zipD_get hd
      rw [List.getElem?_map] at h1 h2
      obtain ⟨w, hw1, rfl⟩ := Option.map_eq_some_iff.mp h1
      obtain ⟨x, hx1, rfl⟩ := Option.map_eq_some_iff.mp h2
      refine ⟨_, rfl, ?_⟩
      walk_at "dg2"
      have ew : D.tup [.int w, .int 1] = encR ((w : Int) : Rat) := rfl
      rw [ew]
      have wb := hw w (List.mem_of_getElem? hw1)
      have sw : Sz 8 ((w : Int) : Rat) := sz_int (by omega)
      have sx := hx x (List.mem_of_getElem? hx1)
      have il := (List.getElem?_eq_some_iff.mp hw1).1
      have ss := wsum_sz hw hx i (by omega) (by omega)
      have ib : i * (z + 12) ≤ 3 * (z + 12) := Nat.mul_le_mul_right _ (by omega)
      refine ⟨_, _, rfl, sw.mono (by decide), sx.mono (by omega), ?_⟩
      refine ⟨_, _, rfl, ss.mono (by omega), (sz_mul sw sx).mono (by omega), ?_⟩
      rw [← wsum_take ws xs i w x hw1 hx1]
      exact ⟨rfl, _, _, rfl⟩
    · rintro ρ S' ⟨rfl, z4, z5, rfl⟩
      have zl : (zipD (ws.map D.int) (xs.map encR)).length = ws.length := by
        unfold zipD; rw [List.length_zipWith, List.length_map, List.length_map]; omega
      rw [zl, List.take_length, show xs.take ws.length = xs from by rw [hl, List.take_length]]
      walk_at "dg2"
      have ev : D.tup [.int v, .int 1] = encR ((v : Int) : Rat) := rfl
      rw [ev]
      have ss := wsum_sz hw hx ws.length (Nat.le_refl _) (by omega)
      rw [List.take_length, show xs.take ws.length = xs from by rw [hl, List.take_length]] at ss
      have ib : ws.length * (z + 12) ≤ 4 * (z + 12) := Nat.mul_le_mul_right _ hl4
      have vn : ((v : Int) : Rat) ≠ 0 := by
        have : v ≠ 0 := by omega
        exact_mod_cast this
      exact ⟨_, _, rfl, vn, ss.mono (by omega), (sz_int (n := 11) (by omega)).mono (by decide), h⟩
  have e0 : D.tup [.int 0, .int 1] = encR 0 := rfl
  walk_at "dg2"
  rw [e0]
  rcases hy with rfl | rfl
  · walk_at "dg2"
    refine ⟨by simp [hl], fin⟩
  · walk_at "dg2"
    refine ⟨by simp [hl], fin⟩
theorem nums_ix {y : D} {xs : List Rat} (h : NumsD y xs) {i : Nat} {k : Int} {x : Rat} (hk : k = (i : Int)) (hx : xs[i]? = some x) (S : Store) (P : D → Store → Prop) : dIx y (.int k) S P = P (encR x) S := by
  have hi := (List.getElem?_eq_some_iff.mp hx).1
  have e : atI (xs.map encR) k = some (encR x) := by
    rw [atI_at (by omega) (by rw [List.length_map]; omega), List.getElem?_map, hk, Int.toNat_natCast, hx]; rfl
  rcases h with rfl | rfl
  · rw [g_ix_lst, e]
  · rw [g_ix_tup, e]
theorem num_lt (x : Rat) : (x.num < 0) = (x < 0) := propext ⟨fun h => Rat.not_le.mp fun z => by
  have := Rat.num_nonneg.mpr z
  omega, fun h => Int.not_le.mp fun z => Rat.not_le.mpr h (Rat.num_nonneg.mp z)⟩
theorem g_ix_enc0 {q : Rat} {S : Store} {P : D → Store → Prop} : dIx (encR q) (.int 0) S P = P (.int q.num) S := rfl
theorem g_ix_enc1 {q : Rat} {S : Store} {P : D → Store → Prop} : dIx (encR q) (.int 1) S P = P (.int (q.den : Int)) S := rfl
theorem g_ix_sp0 {q : Rat × Rat} {S : Store} {P : D → Store → Prop} : dIx (spD q) (.int 0) S P = P (encR q.1) S := rfl
theorem g_ix_sp1 {q : Rat × Rat} {S : Store} {P : D → Store → Prop} : dIx (spD q) (.int 1) S P = P (encR q.2) S := rfl
theorem vc_applied : goal_applied := by
  rintro x0 x1 x2 S P ⟨b, kn, xs, z, y, e, hy, hk, hl, b0, b1, z0, z1, hx, h⟩
  cases e
  have bp : (0 : Int) < b := by omega
  unfold rd_applied
  cases kn with
  | sum ws v =>
    simp only [Kn.d]
    walk_at "dg2"
    exact ⟨ws, xs, v, z, _, rfl, hy, hl.symm, hk.1, hk.2.1, hk.2.2.1, hk.2.2.2, z1, hx, h⟩
  | loose ws =>
    simp only [Kn.d]
    walk_at "dg2"
    refine ⟨ws, xs, 1, z, _, rfl, hy, hl.symm, hk.1, hk.2, by decide, by decide, z1, hx, ?_⟩
    have : wsum ws xs / ((1 : Int) : Rat) = wsum ws xs := by
      have e : ((1 : Int) : Rat) = 1 := rfl
      rw [e]; grind
    rw [this]; exact h
  | moved e =>
    have he : e.natAbs ≤ 30 := hk
    match xs, hl with
    | [x], _ =>
      simp only [Kn.d]
      walk_at "dg2"
      rw [nums_ix hy (i := 0) (k := 0) rfl rfl]
      exact ⟨b, e, rfl, bp, b1, by omega, _, _, rfl, (hx x (by simp)).mono (by omega), (sz_zpow bp b1).mono (by omega), h⟩
  | told q =>
    simp only [Kn.d]
    walk_at "dg2"
    exact h
  | choose =>
    match xs, hl with
    | [x, u, w], _ =>
      simp only [Kn.d]
      walk_at "dg2"
      rw [nums_ix hy (i := 0) (k := 0) rfl rfl, g_ix_enc0]
      have e : Kn.app b .choose [x, u, w] = if x < 0 then w else u := rfl
      rw [e] at h
      simp only [num_lt]
      by_cases hc : x < 0
      · simp only [hc, reduceIte] at h ⊢
        rw [nums_ix hy (i := 2) (k := 2) rfl rfl]
        exact h
      · simp only [hc, reduceIte] at h ⊢
        rw [nums_ix hy (i := 1) (k := 1) rfl rfl]
        exact h
  | times =>
    match xs, hl with
    | [x, u], _ =>
      have sx := hx x (by simp)
      have su := hx u (by simp)
      simp only [Kn.d]
      rcases hy with rfl | rfl <;> simp only [List.map_cons, List.map_nil] <;> walk_at "dg2" <;> exact ⟨_, _, rfl, sx.mono (by omega), su.mono (by omega), h⟩
  | over k =>
    have he : k.natAbs ≤ 20 := hk
    have p := Rat.zpow_pos (n := -k) (ratpos bp)
    match xs, hl with
    | [x, u], _ =>
      have sx := hx x (by simp)
      have su := hx u (by simp)
      have sp := sz_zpow (k := -k) bp b1
      have hp := max_pos (x := u) p
      simp only [Kn.d]
      rcases hy with rfl | rfl <;> simp only [List.map_cons, List.map_nil] <;> walk_at "dg2" <;> exact ⟨b, -k, rfl, bp, b1, by omega, _, _, rfl, su.mono (by omega), sp.mono (by omega), _, _, rfl, by grind, sx.mono (by omega), (sz_max (su.mono (n := z) (m := 4000) (by omega)) (sp.mono (by omega))), h⟩
  | least =>
    match xs, hl with
    | [x, u], _ =>
      have sx := hx x (by simp)
      have su := hx u (by simp)
      simp only [Kn.d]
      rcases hy with rfl | rfl <;> simp only [List.map_cons, List.map_nil] <;> walk_at "dg2" <;> exact ⟨_, _, rfl, sx.mono (by omega), su.mono (by omega), h⟩
  | most =>
    match xs, hl with
    | [x, u], _ =>
      have sx := hx x (by simp)
      have su := hx u (by simp)
      simp only [Kn.d]
      rcases hy with rfl | rfl <;> simp only [List.map_cons, List.map_nil] <;> walk_at "dg2" <;> exact ⟨_, _, rfl, sx.mono (by omega), su.mono (by omega), h⟩
theorem vc_corners_of : goal_corners_of := by
  rintro x0 S P ⟨n, e, hn, h⟩
  cases e
  unfold rd_corners_of
  walk_at "dg2"
  refine ⟨by omega, by omega, fun i ρ S' => S' = S ∧ ∃ z2 z3 z4, ρ = [some (.int n), some (.lst ((cor i).map intsD)), z2, z3, z4], ⟨rfl, none, none, none, rfl⟩, ?_, ?_⟩
  · rintro i d ρ S' hd ⟨rfl, z2, z3, z4, rfl⟩
    have hi := (rng_get hd).1
    refine ⟨_, rfl, ?_⟩
    simp only [dSet, dLc2]
    walk_at "dg2"
    refine ⟨fun j acc S2 => acc = (((cor i).take j).flatMap fun o => [o ++ [0], o ++ [1]]).map intsD ∧ S2 = S', ⟨by simp, rfl⟩, fun _ _ _ _ => trivial, ?_, ?_⟩
    · rintro j d2 acc S2 hd2 ⟨rfl, rfl⟩
      rw [List.getElem?_map] at hd2
      obtain ⟨o, ho, rfl⟩ := Option.map_eq_some_iff.mp hd2
      have omem := mem_cor.mp (List.mem_of_getElem? ho)
      refine ⟨_, rfl, ?_⟩
      have hj := (List.getElem?_eq_some_iff.mp ho).1
      rw [cor_len] at hj
      have hp2 : 2 ^ i ≤ 2 ^ 6 := Nat.pow_le_pow_right (by decide) (by omega)
      have tl : ((((cor i).take j).flatMap fun o => [o ++ [0], o ++ [1]]).map intsD).length ≤ 2 * j := by
        rw [List.length_map, List.length_flatMap]
        have : (((cor i).take j).map fun o => [o ++ [0], o ++ [1]].length) = List.replicate ((cor i).take j).length 2 := by
          rw [← List.map_const']; rfl
        rw [this, List.sum_replicate_nat, List.length_take]
        omega
      refine ⟨fun l acc S3 => S3 = S2 ∧ acc = (((cor i).take j).flatMap fun o => [o ++ [0], o ++ [1]]).map intsD ++ (([o ++ [0], o ++ [1]] : List (List Int)).take l).map intsD, ⟨rfl, by simp⟩, fun _ _ _ _ => trivial, ?_, ?_⟩
      · rintro l d1 acc1 S4 hd1 ⟨rfl, rfl⟩
        match l, hd1 with
        | 0, hd1 =>
          cases hd1
          refine ⟨_, rfl, ?_⟩
          unfold intsD at tl ⊢
          walk_at "dg2"
          simp only [List.length_map]
          refine ⟨by omega, by simp at tl ⊢; omega, ?_⟩
          simp
        | 1, hd1 =>
          cases hd1
          refine ⟨_, rfl, ?_⟩
          unfold intsD at tl ⊢
          walk_at "dg2"
          simp only [List.length_map]
          refine ⟨by omega, by simp at tl ⊢; omega, ?_⟩
          simp
        | l + 2, hd1 => cases l <;> cases hd1
      · rintro acc1 S4 ⟨rfl, rfl⟩
        refine ⟨?_, rfl⟩
        have et : (cor i).take (j + 1) = (cor i).take j ++ [o] := by rw [List.take_add_one, ho]; rfl
        rw [et, List.flatMap_append, List.map_append]
        simp
    · rintro acc S2 ⟨rfl, rfl⟩
      rw [List.length_map, List.take_length]
      exact ⟨rfl, _, _, _, rfl⟩
  · rintro ρ S' ⟨rfl, z2, z3, z4, rfl⟩
    rw [rng_len]
    walk_at "dg2"
    have : ((n : Int)).toNat = n := by omega
    rw [this]
    exact h
theorem vc_numbers_at : goal_numbers_at := by
  rintro x0 x1 S P ⟨ss, o, e, hl, ho, h100, h⟩
  cases e
  unfold rd_numbers_at intsD
  walk_at "dg2"
  rw [List.length_map, List.length_map]
  refine ⟨hl, ?_⟩
  rw [zipD_map]
  refine lc_mapA (fun (p : (Rat × Rat) × Int) => D.tup [spD p.1, .int p.2]) (fun p => encR (if p.2 = 0 then p.1.1 else p.1.2)) (by rw [List.length_zip]; omega) (fun p hp => ⟨_, rfl, fun Q q => ?_⟩) ?_
  · walk_at "dg2"
    rcases ho p.2 (List.of_mem_zip hp).2 with e | e
    · rw [e] at q ⊢
      rw [g_ix_sp0]; exact q
    · rw [e] at q ⊢
      rw [g_ix_sp1]; exact q
  have e : (ss.zip o).map (fun p => encR (if p.2 = 0 then p.1.1 else p.1.2)) = (pickAt ss o).map encR := by
    unfold pickAt; rw [List.map_map]; rfl
  rw [e]
  exact h
theorem fold_min_sz {n : Nat} : ∀ {xs : List Rat} {v : Rat}, Sz n v → (∀ x, x ∈ xs → Sz n x) → Sz n (xs.foldl min v) ∧ Sz n (xs.foldl max v)
  | [], v, h, _ => ⟨h, h⟩
  | x :: xs, v, h, hx => by
    have h1 := hx x (by simp)
    have h2 : ∀ y, y ∈ xs → Sz n y := fun y hy => hx y (by simp [hy])
    exact ⟨(fold_min_sz (sz_min h h1) h2).1, (fold_min_sz (sz_max h h1) h2).2⟩
theorem lc_mapP {α : Type} {t : Tgt} {de : DE} {P : D → Store → Prop} {p : Store → Prop} {xs : List α} {ρ : DSt} {S : Store} (f g : α → D) (hl : xs.length ≤ 100000) (hp : p S)
    (h : ∀ a, a ∈ xs → ∃ ρ', t.put (f a) (dwipe ρ t.slots) = some ρ' ∧ ∀ Q : D → Store → Prop, Q (g a) S → de ρ' S Q) (q : P (.lst (xs.map g)) S) : LcP t dYes de P (xs.map f) p ρ S := by
  refine ⟨by simpa using hl, fun i acc S' => acc = (xs.take i).map g ∧ S' = S, ⟨rfl, rfl⟩, fun i acc S' h => by rw [h.2]; exact hp, ?_, ?_⟩
  · rintro i d acc S' hd ⟨rfl, rfl⟩
    rw [List.getElem?_map] at hd
    cases e : xs[i]? with
    | none => rw [e] at hd; cases hd
    | some a =>
      rw [e] at hd
      cases hd
      obtain ⟨ρ', h1, h2⟩ := h a (List.mem_of_getElem? e)
      refine ⟨ρ', h1, ?_⟩
      simp only [dYes, reduceIte]
      refine h2 _ ⟨?_, rfl⟩
      rw [List.take_add_one, e]
      simp
  · rintro acc S' ⟨rfl, rfl⟩
    rw [List.length_map, List.take_length]
    exact q
theorem vals_len {b : Int} {kn : Kn} {ss : List (Rat × Rat)} : (kn.vals b ss).length = 2 ^ ss.length := by unfold Kn.vals; rw [List.length_map, cor_len]
theorem min_self (x : Rat) : min x x = x := by rw [min_if, if_neg (by grind)]
theorem max_self (x : Rat) : max x x = x := by rw [max_if, if_neg (by grind)]
theorem vc_reach_of : goal_reach_of := by
  rintro x0 x1 x2 S P ⟨b, kn, rs, z, y, e, hy, hk, hl, b0, b1, z0, z1, hr, h⟩
  cases e
  unfold rd_reach_of
  have many4 : kn.many ≤ 4 := by
    cases kn with
    | sum ws v => exact hk.1
    | loose ws => exact hk.1
    | _ => simp [Kn.many]
  obtain ⟨ss, hss⟩ : ∃ ss, ss = rs.map (spanQ b) := ⟨_, rfl⟩
  have ssl : ss.length = kn.many := by rw [hss, List.length_map]; exact hl
  rw [← hss] at h
  have szs : ∀ s, s ∈ ss → Sz z s.1 ∧ Sz z s.2 := fun s hs => by
    rw [hss] at hs
    obtain ⟨r, hr', rfl⟩ := List.mem_map.mp hs
    exact (hr r hr').2
  have body : dSeq (dSet 5 (dLc (dItSeq (dCB sp_corners_of (dCons (dCB cLen (dCons (dVar 3) dNil)) dNil))) (.nm 6) dYes (dCB sp_applied (dCons (dVar 0) (dCons (dVar 1) (dCons (dCB sp_numbers_at (dCons (dVar 3) (dCons (dVar 6) dNil))) dNil))))))
      (dSeq (dPar 7 8 (dCons (dOp dIx (dVar 5) (dC (.int 0))) (dCons (dOp dIx (dVar 5) (dC (.int 0))) dNil)))
      (dSeq (dFor (dItSeq (dVar 5)) (.nm 9) (dPar 7 8 (dCons (dCB sp_lesser (dCons (dVar 7) (dCons (dVar 9) dNil))) (dCons (dCB sp_greater (dCons (dVar 8) (dCons (dVar 9) dNil))) dNil))))
      (dRet (dTup (dCons (dVar 7) (dCons (dVar 8) dNil)))))) (dEnd P) [some (.int b), some kn.d, some x2, some (.lst (ss.map spD)), none, none, none, none, none, none] S := by
    walk_at "dg2"
    rw [List.length_map]
    refine ⟨ss.length, rfl, by omega, ?_⟩
    walk_at "dg2"
    refine lc_mapA intsD (fun o => encR (kn.app b (pickAt ss o))) (by
      rw [cor_len]
      have : 2 ^ ss.length ≤ 2 ^ 4 := Nat.pow_le_pow_right (by decide) (by omega)
      omega) (fun o ho => ⟨_, rfl, fun Q q => ?_⟩) ?_
    · obtain ⟨o1, o2⟩ := mem_cor.mp ho
      walk_at "dg2"
      refine ⟨ss, o, rfl, o1.symm, o2, by omega, ?_⟩
      refine ⟨b, kn, pickAt ss o, z, _, rfl, .inl rfl, hk, by rw [pickAt_len o1]; exact ssl, b0, b1, z0, z1, fun x hx => ?_, q⟩
      obtain ⟨s, hs, hx | hx⟩ := pickAt_mem hx
      · rw [hx]; exact (szs s hs).1
      · rw [hx]; exact (szs s hs).2
    have ev : (cor ss.length).map (fun o => encR (kn.app b (pickAt ss o))) = (kn.vals b ss).map encR := by unfold Kn.vals; rw [List.map_map]; rfl
    rw [ev]
    have vsz : ∀ v, v ∈ kn.vals b ss → Sz 4000 v := fun v hv => by
      unfold Kn.vals at hv
      obtain ⟨o, ho, rfl⟩ := List.mem_map.mp hv
      obtain ⟨o1, o2⟩ := mem_cor.mp ho
      refine (Kn.app_sz (z := z) b0 b1 hk (by rw [pickAt_len o1]; exact ssl) z0 fun x hx => ?_).mono (by omega)
      obtain ⟨s, hs, hx | hx⟩ := pickAt_mem hx
      · rw [hx]; exact (szs s hs).1
      · rw [hx]; exact (szs s hs).2
    obtain ⟨v0, vs, hvs⟩ : ∃ v0 vs, kn.vals b ss = v0 :: vs := by
      have hlen := vals_len (b := b) (kn := kn) (ss := ss)
      cases hv : kn.vals b ss with
      | nil =>
        rw [hv] at hlen
        have : 0 < 2 ^ ss.length := Nat.pow_pos (by decide)
        simp at hlen
        omega
      | cons v0 vs => exact ⟨v0, vs, rfl⟩
    have em : (v0 :: vs).foldl min v0 = minL (kn.vals b ss) := by rw [hvs]; show vs.foldl min (min v0 v0) = vs.foldl min v0; rw [min_self]
    have ex : (v0 :: vs).foldl max v0 = maxL (kn.vals b ss) := by rw [hvs]; show vs.foldl max (max v0 v0) = vs.foldl max v0; rw [max_self]
    have ev2 : (kn.vals b ss).map encR = (v0 :: vs).map encR := by rw [hvs]
    rw [hvs] at vsz
    rw [ev2]
    have e0 : atI ((v0 :: vs).map encR) 0 = some (encR v0) := by
      rw [atI_at (by decide) (by simp only [List.map_cons, List.length_cons]; omega)]; rfl
    walk_at "dg2"
    rw [e0]
    walk_at "dg2"
    refine ⟨fun i ρ S' => S' = S ∧ ∃ z9, ρ = [some (.int b), some kn.d, some x2, some (.lst (ss.map spD)), none, some (.lst ((v0 :: vs).map encR)), none, some (encR (((v0 :: vs).take i).foldl min v0)), some (encR (((v0 :: vs).take i).foldl max v0)), z9], ⟨rfl, none, rfl⟩, ?_, ?_⟩
    · rintro i d ρ S' hd ⟨rfl, z9, rfl⟩
      rw [List.getElem?_map] at hd
      obtain ⟨v, hv, rfl⟩ := Option.map_eq_some_iff.mp hd
      refine ⟨_, rfl, ?_⟩
      walk_at "dg2"
      have sv := vsz v (List.mem_of_getElem? hv)
      have s0 := vsz v0 (by simp)
      have st := fold_min_sz (n := 4000) (xs := (v0 :: vs).take i) s0 fun x hx => vsz x (List.mem_of_mem_take hx)
      refine ⟨_, _, rfl, st.1.mono (by decide), sv.mono (by decide), _, _, rfl, st.2.mono (by decide), sv.mono (by decide), rfl, some (encR v), ?_⟩
      rw [List.take_add_one, hv]
      simp
    · rintro ρ S' ⟨rfl, z9, rfl⟩
      rw [List.length_map, List.take_length, em, ex]
      walk_at "dg2"
      exact h
  have sp1 : ∀ r, r ∈ rs → ∀ Q : D → Store → Prop, Q (spD (spanQ b r)) S → sp_span_of [.int b, r.d] S Q := fun r hr' Q q => ⟨b, r, rfl, (hr r hr').1, q⟩
  have esp : rs.map (fun r => spD (spanQ b r)) = ss.map spD := by rw [hss, List.map_map]; rfl
  rcases hy with rfl | rfl | ⟨l, rfl, hS⟩
  · rw [dSeq]
    walk_at "dg2"
    refine lc_mapA Rw.d (fun r => spD (spanQ b r)) (by omega) (fun r hr' => ⟨_, rfl, fun Q q => ?_⟩) ?_
    · walk_at "dg2"
      exact sp1 r hr' Q q
    rw [esp]
    exact body
  · rw [dSeq]
    walk_at "dg2"
    refine lc_mapA Rw.d (fun r => spD (spanQ b r)) (by omega) (fun r hr' => ⟨_, rfl, fun Q q => ?_⟩) ?_
    · walk_at "dg2"
      exact sp1 r hr' Q q
    rw [esp]
    exact body
  · rw [dSeq]
    walk_at "dg2"
    simp only [hS]
    refine lc_mapP Rw.d (fun r => spD (spanQ b r)) (by omega) hS (fun r hr' => ⟨_, rfl, fun Q q => ?_⟩) ?_
    · walk_at "dg2"
      exact sp1 r hr' Q q
    rw [esp]
    exact body
end Lb

namespace Lb
open PySem PySem.Spec PyProof.Rows L2 DL
/-! ### the least and the greatest of corners -/
theorem foldl_min_le : ∀ (xs : List Rat) (v : Rat), xs.foldl min v ≤ v ∧ (∀ x, x ∈ xs → xs.foldl min v ≤ x) ∧ (xs.foldl min v = v ∨ xs.foldl min v ∈ xs)
  | [], v => ⟨Rat.le_refl, by simp, .inl rfl⟩
  | x :: xs, v => by
    obtain ⟨h1, h2, h3⟩ := foldl_min_le xs (min v x)
    have m1 : min v x ≤ v ∧ min v x ≤ x ∧ (min v x = v ∨ min v x = x) := by
      rw [min_if]
      split
      · exact ⟨by grind, Rat.le_refl, .inr rfl⟩
      · exact ⟨Rat.le_refl, by grind, .inl rfl⟩
    refine ⟨Rat.le_trans h1 m1.1, fun y hy => ?_, ?_⟩
    · rcases List.mem_cons.mp hy with rfl | hy
      · exact Rat.le_trans h1 m1.2.1
      · exact h2 y hy
    · rcases h3 with h3 | h3
      · show xs.foldl min (min v x) = v ∨ xs.foldl min (min v x) ∈ x :: xs
        rw [h3]
        rcases m1.2.2 with e | e
        · exact .inl e
        · exact .inr (by rw [e]; simp)
      · exact .inr (List.mem_cons_of_mem _ h3)
theorem foldl_max_le : ∀ (xs : List Rat) (v : Rat), v ≤ xs.foldl max v ∧ (∀ x, x ∈ xs → x ≤ xs.foldl max v) ∧ (xs.foldl max v = v ∨ xs.foldl max v ∈ xs)
  | [], v => ⟨Rat.le_refl, by simp, .inl rfl⟩
  | x :: xs, v => by
    obtain ⟨h1, h2, h3⟩ := foldl_max_le xs (max v x)
    have m1 : v ≤ max v x ∧ x ≤ max v x ∧ (max v x = v ∨ max v x = x) := by
      rw [max_if]
      split
      · exact ⟨by grind, Rat.le_refl, .inr rfl⟩
      · exact ⟨Rat.le_refl, by grind, .inl rfl⟩
    refine ⟨Rat.le_trans m1.1 h1, fun y hy => ?_, ?_⟩
    · rcases List.mem_cons.mp hy with rfl | hy
      · exact Rat.le_trans m1.2.1 h1
      · exact h2 y hy
    · rcases h3 with h3 | h3
      · show xs.foldl max (max v x) = v ∨ xs.foldl max (max v x) ∈ x :: xs
        rw [h3]
        rcases m1.2.2 with e | e
        · exact .inl e
        · exact .inr (by rw [e]; simp)
      · exact .inr (List.mem_cons_of_mem _ h3)
theorem minL_is {xs : List Rat} (h : xs ≠ []) : minL xs ∈ xs ∧ ∀ x, x ∈ xs → minL xs ≤ x := by
  match xs, h with
  | v :: xs, _ =>
    obtain ⟨h1, h2, h3⟩ := foldl_min_le xs v
    refine ⟨?_, fun x hx => ?_⟩
    · show xs.foldl min v ∈ v :: xs
      rcases h3 with e | e
      · rw [e]; simp
      · exact List.mem_cons_of_mem _ e
    · rcases List.mem_cons.mp hx with rfl | hx
      · exact h1
      · exact h2 x hx
theorem maxL_is {xs : List Rat} (h : xs ≠ []) : maxL xs ∈ xs ∧ ∀ x, x ∈ xs → x ≤ maxL xs := by
  match xs, h with
  | v :: xs, _ =>
    obtain ⟨h1, h2, h3⟩ := foldl_max_le xs v
    refine ⟨?_, fun x hx => ?_⟩
    · show xs.foldl max v ∈ v :: xs
      rcases h3 with e | e
      · rw [e]; simp
      · exact List.mem_cons_of_mem _ e
    · rcases List.mem_cons.mp hx with rfl | hx
      · exact h1
      · exact h2 x hx
theorem minL_eq {xs : List Rat} {m : Rat} (hm : m ∈ xs) (hl : ∀ x, x ∈ xs → m ≤ x) : minL xs = m := by
  obtain ⟨h1, h2⟩ := minL_is (List.ne_nil_of_mem hm)
  exact Rat.le_antisymm (h2 m hm) (hl _ h1)
theorem maxL_eq {xs : List Rat} {m : Rat} (hm : m ∈ xs) (hl : ∀ x, x ∈ xs → x ≤ m) : maxL xs = m := by
  obtain ⟨h1, h2⟩ := maxL_is (List.ne_nil_of_mem hm)
  exact Rat.le_antisymm (hl _ h1) (h2 m hm)
/-- an end of each -/
def Ch : List (Rat × Rat) → List Rat → Prop
  | [], [] => True
  | s :: ss, x :: xs => (x = s.1 ∨ x = s.2) ∧ Ch ss xs
  | _, _ => False
/-- a number of each -/
def Ins : List (Rat × Rat) → List Rat → Prop
  | [], [] => True
  | s :: ss, x :: xs => (s.1 ≤ x ∧ x ≤ s.2) ∧ Ins ss xs
  | _, _ => False
def Up (ss : List (Rat × Rat)) : Prop := ∀ s, s ∈ ss → s.1 ≤ s.2
theorem ch_pick : ∀ {ss : List (Rat × Rat)} {o : List Int}, o.length = ss.length → Ch ss (pickAt ss o)
  | [], [], _ => by simp [pickAt, Ch]
  | s :: ss, e :: o, h => by
    have ih := ch_pick (ss := ss) (o := o) (by simpa using h)
    show Ch (s :: ss) ((if e = 0 then s.1 else s.2) :: pickAt ss o)
    refine ⟨?_, ih⟩
    split
    · exact .inl rfl
    · exact .inr rfl
theorem pick_ch : ∀ {ss : List (Rat × Rat)} {xs : List Rat}, Ch ss xs → ∃ o : List Int, o ∈ cor ss.length ∧ pickAt ss o = xs
  | [], [], _ => ⟨[], by simp [cor], rfl⟩
  | [], _ :: _, h => h.elim
  | _ :: _, [], h => h.elim
  | s :: ss, x :: xs, ⟨hx, h⟩ => by
    obtain ⟨o, ho, e⟩ := pick_ch h
    obtain ⟨o1, o2⟩ := mem_cor.mp ho
    rcases hx with rfl | rfl
    · refine ⟨0 :: o, mem_cor.mpr ⟨by simp [o1], fun e he => ?_⟩, ?_⟩
      · rcases List.mem_cons.mp he with rfl | he
        · exact .inl rfl
        · exact o2 e he
      · show (if (0 : Int) = 0 then s.1 else s.2) :: pickAt ss o = _
        rw [e]; rfl
    · refine ⟨1 :: o, mem_cor.mpr ⟨by simp [o1], fun e he => ?_⟩, ?_⟩
      · rcases List.mem_cons.mp he with rfl | he
        · exact .inr rfl
        · exact o2 e he
      · show (if (1 : Int) = 0 then s.1 else s.2) :: pickAt ss o = _
        rw [e]; rfl
theorem mem_vals {b : Int} {kn : Kn} {ss : List (Rat × Rat)} {v : Rat} : v ∈ kn.vals b ss ↔ ∃ xs, Ch ss xs ∧ v = kn.app b xs := by
  unfold Kn.vals
  rw [List.mem_map]
  constructor
  · rintro ⟨o, ho, rfl⟩
    exact ⟨_, ch_pick (mem_cor.mp ho).1, rfl⟩
  · rintro ⟨xs, hx, rfl⟩
    obtain ⟨o, ho, e⟩ := pick_ch hx
    exact ⟨o, ho, by rw [e]⟩
theorem ch_ins : ∀ {ss : List (Rat × Rat)} {xs : List Rat}, Up ss → Ch ss xs → Ins ss xs
  | [], [], _, _ => trivial
  | [], _ :: _, _, h => h.elim
  | _ :: _, [], _, h => h.elim
  | s :: ss, x :: xs, hu, ⟨hx, h⟩ => by
    have h1 := hu s (by simp)
    refine ⟨?_, ch_ins (fun t ht => hu t (by simp [ht])) h⟩
    rcases hx with rfl | rfl
    · exact ⟨Rat.le_refl, h1⟩
    · exact ⟨h1, Rat.le_refl⟩
theorem Ch.len : ∀ {ss : List (Rat × Rat)} {xs : List Rat}, Ch ss xs → xs.length = ss.length
  | [], [], _ => rfl
  | [], _ :: _, h => h.elim
  | _ :: _, [], h => h.elim
  | s :: ss, x :: xs, ⟨_, h⟩ => by simp [h.len]
/-- what of sums is least, greatest -/
def sumLo (ws : List Int) (ss : List (Rat × Rat)) : List Rat := (ss.zip ws).map fun p => if p.2 < 0 then p.1.2 else p.1.1
def sumHi (ws : List Int) (ss : List (Rat × Rat)) : List Rat := (ss.zip ws).map fun p => if p.2 < 0 then p.1.1 else p.1.2
theorem sumLo_ch : ∀ {ws : List Int} {ss : List (Rat × Rat)}, ws.length = ss.length → Ch ss (sumLo ws ss) ∧ Ch ss (sumHi ws ss)
  | [], [], _ => ⟨trivial, trivial⟩
  | w :: ws, s :: ss, h => by
    have ih := sumLo_ch (ws := ws) (ss := ss) (by simpa using h)
    refine ⟨⟨?_, ih.1⟩, ⟨?_, ih.2⟩⟩
    · show (if w < 0 then s.2 else s.1) = s.1 ∨ (if w < 0 then s.2 else s.1) = s.2
      split
      · exact .inr rfl
      · exact .inl rfl
    · show (if w < 0 then s.1 else s.2) = s.1 ∨ (if w < 0 then s.1 else s.2) = s.2
      split
      · exact .inl rfl
      · exact .inr rfl
theorem mul_ge {w : Int} {a x c : Rat} (h1 : a ≤ x) (h2 : x ≤ c) : (w : Rat) * (if w < 0 then c else a) ≤ (w : Rat) * x ∧ (w : Rat) * x ≤ (w : Rat) * (if w < 0 then a else c) := by
  by_cases hw : w < 0
  · simp only [hw, reduceIte]
    have p : (0 : Rat) ≤ ((-w : Int) : Rat) := Rat.le_of_lt (ratpos (by omega))
    rw [Rat.intCast_neg] at p
    have m1 := Rat.mul_le_mul_of_nonneg_left h2 p
    have m2 := Rat.mul_le_mul_of_nonneg_left h1 p
    constructor <;> grind
  · simp only [hw, reduceIte]
    have p : ((0 : Int) : Rat) ≤ (w : Rat) := Rat.intCast_le_intCast.mpr (by omega)
    exact ⟨Rat.mul_le_mul_of_nonneg_left h1 p, Rat.mul_le_mul_of_nonneg_left h2 p⟩
theorem sumLo_le : ∀ {ws : List Int} {ss : List (Rat × Rat)} {xs : List Rat}, ws.length = ss.length → Ins ss xs → wsum ws (sumLo ws ss) ≤ wsum ws xs ∧ wsum ws xs ≤ wsum ws (sumHi ws ss)
  | [], [], xs, _, h => ⟨by show (0 : Rat) ≤ 0; exact Rat.le_refl, by show (0 : Rat) ≤ 0; exact Rat.le_refl⟩
  | w :: ws, s :: ss, [], _, h => h.elim
  | w :: ws, s :: ss, x :: xs, hl, ⟨⟨h1, h2⟩, h⟩ => by
    have ih := sumLo_le (ws := ws) (ss := ss) (xs := xs) (by simpa using hl) h
    have m := mul_ge (w := w) h1 h2
    have e1 : sumLo (w :: ws) (s :: ss) = (if w < 0 then s.2 else s.1) :: sumLo ws ss := rfl
    have e2 : sumHi (w :: ws) (s :: ss) = (if w < 0 then s.1 else s.2) :: sumHi ws ss := rfl
    rw [e1, e2]
    simp only [wsum]
    constructor <;> grind
/-- products: by ends -/
theorem mul_low {a c x y : Rat} (h1 : a ≤ x) (h2 : x ≤ c) : (a * y ≤ x * y ∨ c * y ≤ x * y) ∧ (x * y ≤ a * y ∨ x * y ≤ c * y) := by
  by_cases hy : 0 ≤ y
  · exact ⟨.inl (Rat.mul_le_mul_of_nonneg_right h1 hy), .inr (Rat.mul_le_mul_of_nonneg_right h2 hy)⟩
  · have p : 0 ≤ -y := by grind
    have m1 := Rat.mul_le_mul_of_nonneg_right h1 p
    have m2 := Rat.mul_le_mul_of_nonneg_right h2 p
    exact ⟨.inr (by grind), .inl (by grind)⟩
/-- some corner is as low, some as high -/
theorem corner_low {b : Int} {kn : Kn} {ss : List (Rat × Rat)} {xs : List Rat} (b0 : 2 ≤ b) (hk : kn.Ok) (hl : ss.length = kn.many) (hi : Ins ss xs) (hu : Up ss) :
    (∃ c, Ch ss c ∧ kn.app b c ≤ kn.app b xs) ∧ ∃ c, Ch ss c ∧ kn.app b xs ≤ kn.app b c := by
  have bp : (0 : Int) < b := by omega
  cases kn with
  | sum ws v =>
    have hl' : ws.length = ss.length := hl.symm
    have c := sumLo_ch hl'
    have m := sumLo_le hl' hi
    have vp : (0 : Rat) ≤ ((v : Int) : Rat)⁻¹ := Rat.le_of_lt (Rat.inv_pos.mpr (ratpos (by have := hk.2.2.1; omega)))
    refine ⟨⟨_, c.1, ?_⟩, ⟨_, c.2, ?_⟩⟩
    · show wsum ws _ / _ ≤ wsum ws _ / _
      rw [Rat.div_def, Rat.div_def]
      exact Rat.mul_le_mul_of_nonneg_right m.1 vp
    · show wsum ws _ / _ ≤ wsum ws _ / _
      rw [Rat.div_def, Rat.div_def]
      exact Rat.mul_le_mul_of_nonneg_right m.2 vp
  | loose ws =>
    have hl' : ws.length = ss.length := hl.symm
    have c := sumLo_ch hl'
    have m := sumLo_le hl' hi
    exact ⟨⟨_, c.1, m.1⟩, ⟨_, c.2, m.2⟩⟩
  | moved e =>
    match ss, xs, hl, hi with
    | [s], [x], _, ⟨h, _⟩ =>
      have p := Rat.le_of_lt (Rat.zpow_pos (n := e) (ratpos bp))
      exact ⟨⟨[s.1], ⟨.inl rfl, trivial⟩, Rat.mul_le_mul_of_nonneg_right h.1 p⟩, ⟨[s.2], ⟨.inr rfl, trivial⟩, Rat.mul_le_mul_of_nonneg_right h.2 p⟩⟩
    | [s], _ :: _ :: _, _, ⟨_, h⟩ => exact h.elim
  | told q =>
    match ss, xs, hl, hi with
    | [], [], _, _ => exact ⟨⟨[], trivial, Rat.le_refl⟩, ⟨[], trivial, Rat.le_refl⟩⟩
  | times =>
    match ss, xs, hl, hi with
    | [s, t], [x, y], _, ⟨hx, hy, _⟩ =>
      have m1 := mul_low (y := y) hx.1 hx.2
      have lo : ∀ u, u = s.1 ∨ u = s.2 → u * y ≤ x * y → ∃ c, Ch [s, t] c ∧ Kn.app b .times c ≤ x * y := fun u hu h => by
        have m2 := mul_low (y := u) hy.1 hy.2
        rcases m2.1 with h2 | h2
        · exact ⟨[u, t.1], ⟨hu, .inl rfl, trivial⟩, by show u * t.1 ≤ x * y; grind⟩
        · exact ⟨[u, t.2], ⟨hu, .inr rfl, trivial⟩, by show u * t.2 ≤ x * y; grind⟩
      have up : ∀ u, u = s.1 ∨ u = s.2 → x * y ≤ u * y → ∃ c, Ch [s, t] c ∧ x * y ≤ Kn.app b .times c := fun u hu h => by
        have m2 := mul_low (y := u) hy.1 hy.2
        rcases m2.2 with h2 | h2
        · exact ⟨[u, t.1], ⟨hu, .inl rfl, trivial⟩, by show x * y ≤ u * t.1; grind⟩
        · exact ⟨[u, t.2], ⟨hu, .inr rfl, trivial⟩, by show x * y ≤ u * t.2; grind⟩
      refine ⟨?_, ?_⟩
      · rcases m1.1 with h | h
        · exact lo s.1 (.inl rfl) h
        · exact lo s.2 (.inr rfl) h
      · rcases m1.2 with h | h
        · exact up s.1 (.inl rfl) h
        · exact up s.2 (.inr rfl) h
    | [s, t], [x], _, ⟨_, h⟩ => exact h.elim
    | [s, t], _ :: _ :: _ :: _, _, ⟨_, _, h⟩ => exact h.elim
  | over k =>
    match ss, xs, hl, hi with
    | [s, t], [x, y], _, ⟨hx, hy, _⟩ =>
      have p := Rat.zpow_pos (n := -k) (ratpos bp)
      generalize ec : (b : Rat) ^ (-k) = c at p
      have inv : ∀ {u v : Rat}, u ≤ v → 0 < (max u c)⁻¹ ∧ (max v c)⁻¹ ≤ (max u c)⁻¹ := fun {u v} h => by
        have pu := max_pos (x := u) p
        have pv := max_pos (x := v) p
        have le : max u c ≤ max v c := by
          rw [max_if, max_if]
          split <;> split <;> grind
        have iu := Rat.inv_pos.mpr pu
        have iv := Rat.inv_pos.mpr pv
        refine ⟨iu, ?_⟩
        have m := Rat.mul_le_mul_of_nonneg_left le (Rat.le_of_lt (Rat.mul_pos iu iv))
        have e1 : (max u c)⁻¹ * (max v c)⁻¹ * max u c = (max v c)⁻¹ := by
          have : (max u c)⁻¹ * max u c = 1 := Rat.inv_mul_cancel _ (by grind)
          grind
        have e2 : (max u c)⁻¹ * (max v c)⁻¹ * max v c = (max u c)⁻¹ := by
          have : (max v c)⁻¹ * max v c = 1 := Rat.inv_mul_cancel _ (by grind)
          grind
        rw [e1, e2] at m
        exact m
      have ap : ∀ u v : Rat, Kn.app b (.over k) [u, v] = u * (max v c)⁻¹ := fun u v => by
        show u / max v ((b : Rat) ^ (-k)) = _
        rw [ec, Rat.div_def]
      have i1 := inv hy.1
      have i2 := inv hy.2
      obtain ⟨gy, hgy⟩ : ∃ g, g = (max y c)⁻¹ := ⟨_, rfl⟩
      obtain ⟨g1, hg1⟩ : ∃ g, g = (max t.1 c)⁻¹ := ⟨_, rfl⟩
      obtain ⟨g2, hg2⟩ : ∃ g, g = (max t.2 c)⁻¹ := ⟨_, rfl⟩
      rw [← hgy, ← hg1] at i1
      rw [← hgy, ← hg2] at i2
      have m1 := mul_low (y := gy) hx.1 hx.2
      have bnd : ∀ u : Rat, (u * g2 ≤ u * gy ∨ u * g1 ≤ u * gy) ∧ (u * gy ≤ u * g2 ∨ u * gy ≤ u * g1) := fun u => by
        have := mul_low (y := u) i2.2 i1.2
        constructor
        · rcases this.1 with h | h
          · exact .inl (by grind)
          · exact .inr (by grind)
        · rcases this.2 with h | h
          · exact .inl (by grind)
          · exact .inr (by grind)
      have lo : ∀ u, u = s.1 ∨ u = s.2 → u * gy ≤ x * gy → ∃ c', Ch [s, t] c' ∧ Kn.app b (.over k) c' ≤ x * gy := fun u hu h => by
        rcases (bnd u).1 with h2 | h2
        · exact ⟨[u, t.2], ⟨hu, .inr rfl, trivial⟩, by rw [ap, ← hg2]; grind⟩
        · exact ⟨[u, t.1], ⟨hu, .inl rfl, trivial⟩, by rw [ap, ← hg1]; grind⟩
      have up : ∀ u, u = s.1 ∨ u = s.2 → x * gy ≤ u * gy → ∃ c', Ch [s, t] c' ∧ x * gy ≤ Kn.app b (.over k) c' := fun u hu h => by
        rcases (bnd u).2 with h2 | h2
        · exact ⟨[u, t.2], ⟨hu, .inr rfl, trivial⟩, by rw [ap, ← hg2]; grind⟩
        · exact ⟨[u, t.1], ⟨hu, .inl rfl, trivial⟩, by rw [ap, ← hg1]; grind⟩
      rw [ap, ← hgy]
      refine ⟨?_, ?_⟩
      · rcases m1.1 with h | h
        · exact lo s.1 (.inl rfl) h
        · exact lo s.2 (.inr rfl) h
      · rcases m1.2 with h | h
        · exact up s.1 (.inl rfl) h
        · exact up s.2 (.inr rfl) h
    | [s, t], [x], _, ⟨_, h⟩ => exact h.elim
    | [s, t], _ :: _ :: _ :: _, _, ⟨_, _, h⟩ => exact h.elim
  | least =>
    match ss, xs, hl, hi with
    | [s, t], [x, y], _, ⟨hx, hy, _⟩ =>
      refine ⟨⟨[s.1, t.1], ⟨.inl rfl, .inl rfl, trivial⟩, ?_⟩, ⟨[s.2, t.2], ⟨.inr rfl, .inr rfl, trivial⟩, ?_⟩⟩
      · show min s.1 t.1 ≤ min x y
        rw [min_if, min_if]; split <;> split <;> grind
      · show min x y ≤ min s.2 t.2
        rw [min_if, min_if]; split <;> split <;> grind
    | [s, t], [x], _, ⟨_, h⟩ => exact h.elim
    | [s, t], _ :: _ :: _ :: _, _, ⟨_, _, h⟩ => exact h.elim
  | most =>
    match ss, xs, hl, hi with
    | [s, t], [x, y], _, ⟨hx, hy, _⟩ =>
      refine ⟨⟨[s.1, t.1], ⟨.inl rfl, .inl rfl, trivial⟩, ?_⟩, ⟨[s.2, t.2], ⟨.inr rfl, .inr rfl, trivial⟩, ?_⟩⟩
      · show max s.1 t.1 ≤ max x y
        rw [max_if, max_if]; split <;> split <;> grind
      · show max x y ≤ max s.2 t.2
        rw [max_if, max_if]; split <;> split <;> grind
    | [s, t], [x], _, ⟨_, h⟩ => exact h.elim
    | [s, t], _ :: _ :: _ :: _, _, ⟨_, _, h⟩ => exact h.elim
  | choose =>
    match ss, xs, hl, hi with
    | [s, t, u], [x, y, w], _, ⟨hx, hy, hw, _⟩ =>
      by_cases hc : x < 0
      · have e : Kn.app b .choose [x, y, w] = w := by show (if x < 0 then w else y) = w; rw [if_pos hc]
        have hs : s.1 < 0 := by grind
        have e1 : Kn.app b .choose [s.1, t.1, u.1] = u.1 := by show (if s.1 < 0 then u.1 else t.1) = u.1; rw [if_pos hs]
        have e2 : Kn.app b .choose [s.1, t.1, u.2] = u.2 := by show (if s.1 < 0 then u.2 else t.1) = u.2; rw [if_pos hs]
        rw [e]
        exact ⟨⟨[s.1, t.1, u.1], ⟨.inl rfl, .inl rfl, .inl rfl, trivial⟩, by rw [e1]; exact hw.1⟩, ⟨[s.1, t.1, u.2], ⟨.inl rfl, .inl rfl, .inr rfl, trivial⟩, by rw [e2]; exact hw.2⟩⟩
      · have e : Kn.app b .choose [x, y, w] = y := by show (if x < 0 then w else y) = y; rw [if_neg hc]
        have hs : ¬ s.2 < 0 := by grind
        have e1 : Kn.app b .choose [s.2, t.1, u.1] = t.1 := by show (if s.2 < 0 then u.1 else t.1) = t.1; rw [if_neg hs]
        have e2 : Kn.app b .choose [s.2, t.2, u.1] = t.2 := by show (if s.2 < 0 then u.1 else t.2) = t.2; rw [if_neg hs]
        rw [e]
        exact ⟨⟨[s.2, t.1, u.1], ⟨.inr rfl, .inl rfl, .inl rfl, trivial⟩, by rw [e1]; exact hy.1⟩, ⟨[s.2, t.2, u.1], ⟨.inr rfl, .inr rfl, .inl rfl, trivial⟩, by rw [e2]; exact hy.2⟩⟩
    | [s, t, u], [x], _, ⟨_, h⟩ => exact h.elim
    | [s, t, u], [x, y], _, ⟨_, _, h⟩ => exact h.elim
    | [s, t, u], _ :: _ :: _ :: _ :: _, _, ⟨_, _, _, h⟩ => exact h.elim
/-- all that comes is between -/
theorem vals_within {b : Int} {kn : Kn} {ss : List (Rat × Rat)} {xs : List Rat} (b0 : 2 ≤ b) (hk : kn.Ok) (hl : ss.length = kn.many) (hi : Ins ss xs) (hu : Up ss) :
    minL (kn.vals b ss) ≤ kn.app b xs ∧ kn.app b xs ≤ maxL (kn.vals b ss) := by
  obtain ⟨⟨c, c1, c2⟩, d, d1, d2⟩ := corner_low b0 hk hl hi hu
  have m1 : kn.app b c ∈ kn.vals b ss := mem_vals.mpr ⟨c, c1, rfl⟩
  have m2 : kn.app b d ∈ kn.vals b ss := mem_vals.mpr ⟨d, d1, rfl⟩
  exact ⟨Rat.le_trans ((minL_is (List.ne_nil_of_mem m1)).2 _ m1) c2, Rat.le_trans d2 ((maxL_is (List.ne_nil_of_mem m2)).2 _ m2)⟩
end Lb

namespace Lb
open PySem PySem.Spec PyProof.Rows L2 DL
/-! ### isinstance of dict, of (bool, str) -/
theorem isi_non_dict {S : Store} {P : D → Store → Prop} : cIsi [.non, .ty "dict"] S P = P (.bl false) S := propext ⟨fun h => h.2, fun h => ⟨by decide, h⟩⟩
theorem isi_bl_dict {k : Bool} {S : Store} {P : D → Store → Prop} : cIsi [(.bl k), .ty "dict"] S P = P (.bl false) S := propext ⟨fun h => h.2, fun h => ⟨by decide, h⟩⟩
theorem isi_int_dict {k : Int} {S : Store} {P : D → Store → Prop} : cIsi [(.int k), .ty "dict"] S P = P (.bl false) S := propext ⟨fun h => h.2, fun h => ⟨by decide, h⟩⟩
theorem isi_str_dict {k : Str} {S : Store} {P : D → Store → Prop} : cIsi [(.str k), .ty "dict"] S P = P (.bl false) S := propext ⟨fun h => h.2, fun h => ⟨by decide, h⟩⟩
theorem isi_lst_dict {k : List D} {S : Store} {P : D → Store → Prop} : cIsi [(.lst k), .ty "dict"] S P = P (.bl false) S := propext ⟨fun h => h.2, fun h => ⟨by decide, h⟩⟩
theorem isi_tup_dict {k : List D} {S : Store} {P : D → Store → Prop} : cIsi [(.tup k), .ty "dict"] S P = P (.bl false) S := propext ⟨fun h => h.2, fun h => ⟨by decide, h⟩⟩
theorem isi_non_bs {S : Store} {P : D → Store → Prop} : cIsi [.non, .tup [.ty "bool", .ty "str"]] S P = P (.bl false) S := rfl
theorem isi_bl_bs {k : Bool} {S : Store} {P : D → Store → Prop} : cIsi [(.bl k), .tup [.ty "bool", .ty "str"]] S P = P (.bl true) S := rfl
theorem isi_int_bs {k : Int} {S : Store} {P : D → Store → Prop} : cIsi [(.int k), .tup [.ty "bool", .ty "str"]] S P = P (.bl false) S := rfl
theorem isi_str_bs {k : Str} {S : Store} {P : D → Store → Prop} : cIsi [(.str k), .tup [.ty "bool", .ty "str"]] S P = P (.bl true) S := rfl
theorem isi_lst_bs {k : List D} {S : Store} {P : D → Store → Prop} : cIsi [(.lst k), .tup [.ty "bool", .ty "str"]] S P = P (.bl false) S := rfl
theorem isi_tup_bs {k : List D} {S : Store} {P : D → Store → Prop} : cIsi [(.tup k), .tup [.ty "bool", .ty "str"]] S P = P (.bl false) S := rfl
theorem ln_obj {l : Addr} {ds : List D} {S : Store} {P : D → Store → Prop} (h : S l = some (.lst ds)) : cLen [(.obj l)] S P = P (.int ds.length) S := by
  unfold cLen
  simp only [seqOf, lstOf, h]
theorem g_put_sp {ts : List Tgt} {s : Rat × Rat} {ρ : DSt} : Tgt.put (.tp ts) (spD s) ρ = Tgt.putL ts [encR s.1, encR s.2] ρ := by unfold spD; exact put_tp
end Lb
namespace Lb
open PySem PySem.Spec PyProof.Rows L2 DL
local macro_rules | `(tactic| walk_at "dg3") => `(tactic| try simp only [dDispGet, dictAt, isi_non_dict, isi_bl_dict, isi_int_dict, isi_str_dict, isi_lst_dict, isi_tup_dict, isi_non_bs, isi_bl_bs, isi_int_bs, isi_str_bs, isi_lst_bs, isi_tup_bs, g_ix_enc0, g_ix_enc1, g_ix_sp0, g_ix_sp1, g_put_sp, Int.reduceEq, dSeq, dSet, dPar, dOp, dUn, dVar, dC, dCB, dCons, dNil, dTup, dLst, dLstM, dIfS, dIf, dTest, dNot, dAnd, dOr, dAndV, dOrV, dNotV, dRet, dRetN, dEnd, dNext, dAdd, dSub, dMul, dFdiv, dMod, dPow, dNeg, dLt, dLe, dGt, dGe, dEq, dNe, eqB_ii, eqB_bb, eqB_ss, eqB_nn, eqB_ni, eqB_in, eqB_ns, eqB_sn, eqB_is, eqB_si, eqB_nb, eqB_bn, dIn, g_ix_tup, g_ix_lst, g_ix_ext, g_ln_tup, g_ln_lst, g_ln_ext, g_nn_non, g_nn_int, g_nn_tup, g_in_non, g_in_int, g_in_tup, g_ix_row0, g_ix_row1, g_ix_row2, g_ix_span0, g_ix_span1, g_nn_span, g_nn_encR, g_in_span, cAbs, cMax2, cMin2, cInt, cList, cTuple, dIsB, dNotB, dPar3, ForN, LcN, pinOf, pin2, dEnum2, dAppend, supd_same0, isi_non_int, isi_non_bool, isi_non_str, isi_non_list, isi_non_tuple, isi_non_lt, isi_bl_int, isi_bl_bool, isi_bl_str, isi_bl_list, isi_bl_tuple, isi_bl_lt, isi_int_int, isi_int_bool, isi_int_str, isi_int_list, isi_int_tuple, isi_int_lt, isi_str_int, isi_str_bool, isi_str_str, isi_str_list, isi_str_tuple, isi_str_lt, isi_lst_int, isi_lst_bool, isi_lst_str, isi_lst_list, isi_lst_tuple, isi_lst_lt, isi_tup_int, isi_tup_bool, isi_tup_str, isi_tup_list, isi_tup_tuple, isi_tup_lt, dAug, dIAdd, dIMul, dDrop, dSl, dPart, dNoPart, dRevL, dCallK, dChainR, dAsg, put_nm, put_tp, put_tl, g_put_row, g_put_span, putL_nil, putL_cons, Option.bind, seqOf, lstOf, dFor, dLc, dLcM, dItSeq, dZip, dZipS, dEnum, dRng1, dRng2, dYes, dwipe, Tgt.slots, Tgt.slotsL,
  atI_0, atI_1, atI_2, atI_3, List.getElem?_cons_zero, List.getElem?_cons_succ, List.set_cons_zero, List.set_cons_succ, decide_eq_true_eq, List.length_cons, List.length_nil, List.cons_append, List.nil_append, List.append_nil, ofString_inj, String.reduceEq, decide_true, decide_false, reduceIte, Bool.false_eq_true, Bool.not_true, Bool.not_false, eqFlat, isFlat, List.any_cons, List.any_nil, List.all_cons, List.all_nil, Bool.or_false, Bool.or_true, Bool.false_or, Bool.true_or, Bool.and_true, Bool.true_and, true_and, and_true, Nat.reduceAdd, Nat.reduceLeDiff, Int.reduceLT, Int.reduceLE, Int.reduceNeg])
/-! ### powers, worths, spans, tight -/
theorem lo_eq {b : Int} {r : Rw} (hr : r.Ok b) : r.lo b = (((whole b r.fs * (b - 1) - r.m : Int) : Rat) / ((b - 1 : Int) : Rat)) * r.pw b ∧ r.hi b = (((whole b r.fs * (b - 1) + r.m : Int) : Rat) / ((b - 1 : Int) : Rat)) * r.pw b := by
  have c := hr.cp
  unfold Rw.lo Rw.hi Rw.worth Rw.tail
  rw [Rat.intCast_sub (whole b r.fs * (b - 1)) r.m, Rat.intCast_add (whole b r.fs * (b - 1)) r.m, Rat.intCast_mul]
  generalize ((b - 1 : Int) : Rat) = q at c ⊢
  generalize ((whole b r.fs : Int) : Rat) = w
  generalize (r.m : Rat) = m
  generalize r.pw b = p
  have hc : q ≠ 0 := by grind
  constructor <;> grind
theorem Rw.Ok.tight {b : Int} {r : Rw} (hr : r.Ok b) : Sz 840 (r.lo b) ∧ Sz 840 (r.hi b) := by
  obtain ⟨e1, e2⟩ := lo_eq hr
  have h1 := hr.whole
  have b0 := hr.b0; have b1 := hr.b1; have m0 := hr.m0; have m1 := hr.m1
  have wb : (Lb.whole b r.fs * (b - 1)).natAbs < 2 ^ 335 := by
    rw [Int.natAbs_mul]
    have := pow_bound (n := 331) (m := 4) h1 (show (b - 1).natAbs < 2 ^ 4 by omega)
    exact this
  have c1 : (Lb.whole b r.fs * (b - 1) - r.m).natAbs < 2 ^ 336 := by
    have e : (2 : Nat) ^ 336 = 2 ^ 335 + 2 ^ 335 := by decide
    have e3 : 2000 < 2 ^ 335 := by decide
    generalize (2 : Nat) ^ 335 = z at *
    generalize (2 : Nat) ^ 336 = y at *
    omega
  have c2 : (Lb.whole b r.fs * (b - 1) + r.m).natAbs < 2 ^ 336 := by
    have e : (2 : Nat) ^ 336 = 2 ^ 335 + 2 ^ 335 := by decide
    have e3 : 2000 < 2 ^ 335 := by decide
    generalize (2 : Nat) ^ 335 = z at *
    generalize (2 : Nat) ^ 336 = y at *
    omega
  have d1 : (b - 1 : Int).natAbs < 2 ^ 336 := bound_mono (n := 4) (by omega)
  rw [e1, e2]
  exact ⟨(sz_mul (sz_frac hr.cne c1 d1) hr.pw).mono (by decide), (sz_mul (sz_frac hr.cne c2 d1) hr.pw).mono (by decide)⟩
theorem rsOk_of {b : Int} {rs : List Rw} (h : ∀ r, r ∈ rs → r.Ok b) : RsOk b 840 rs := fun r hr => ⟨h r hr, (h r hr).tight⟩
end Lb

namespace Lb
open PySem PySem.Spec PyProof.Rows L2 DL
local macro_rules | `(tactic| walk_at "dg3") => `(tactic| try simp only [dDispGet, dictAt, isi_non_dict, isi_bl_dict, isi_int_dict, isi_str_dict, isi_lst_dict, isi_tup_dict, isi_non_bs, isi_bl_bs, isi_int_bs, isi_str_bs, isi_lst_bs, isi_tup_bs, g_ix_enc0, g_ix_enc1, g_ix_sp0, g_ix_sp1, g_put_sp, Int.reduceEq, dSeq, dSet, dPar, dOp, dUn, dVar, dC, dCB, dCons, dNil, dTup, dLst, dLstM, dIfS, dIf, dTest, dNot, dAnd, dOr, dAndV, dOrV, dNotV, dRet, dRetN, dEnd, dNext, dAdd, dSub, dMul, dFdiv, dMod, dPow, dNeg, dLt, dLe, dGt, dGe, dEq, dNe, eqB_ii, eqB_bb, eqB_ss, eqB_nn, eqB_ni, eqB_in, eqB_ns, eqB_sn, eqB_is, eqB_si, eqB_nb, eqB_bn, dIn, g_ix_tup, g_ix_lst, g_ix_ext, g_ln_tup, g_ln_lst, g_ln_ext, g_nn_non, g_nn_int, g_nn_tup, g_in_non, g_in_int, g_in_tup, g_ix_row0, g_ix_row1, g_ix_row2, g_ix_span0, g_ix_span1, g_nn_span, g_nn_encR, g_in_span, cAbs, cMax2, cMin2, cInt, cList, cTuple, dIsB, dNotB, dPar3, ForN, LcN, pinOf, pin2, dEnum2, dAppend, supd_same0, isi_non_int, isi_non_bool, isi_non_str, isi_non_list, isi_non_tuple, isi_non_lt, isi_bl_int, isi_bl_bool, isi_bl_str, isi_bl_list, isi_bl_tuple, isi_bl_lt, isi_int_int, isi_int_bool, isi_int_str, isi_int_list, isi_int_tuple, isi_int_lt, isi_str_int, isi_str_bool, isi_str_str, isi_str_list, isi_str_tuple, isi_str_lt, isi_lst_int, isi_lst_bool, isi_lst_str, isi_lst_list, isi_lst_tuple, isi_lst_lt, isi_tup_int, isi_tup_bool, isi_tup_str, isi_tup_list, isi_tup_tuple, isi_tup_lt, dAug, dIAdd, dIMul, dDrop, dSl, dPart, dNoPart, dRevL, dCallK, dChainR, dAsg, put_nm, put_tp, put_tl, g_put_row, g_put_span, putL_nil, putL_cons, Option.bind, seqOf, lstOf, dFor, dLc, dLcM, dItSeq, dZip, dZipS, dEnum, dRng1, dRng2, dYes, dwipe, Tgt.slots, Tgt.slotsL,
  atI_0, atI_1, atI_2, atI_3, List.getElem?_cons_zero, List.getElem?_cons_succ, List.set_cons_zero, List.set_cons_succ, decide_eq_true_eq, List.length_cons, List.length_nil, List.cons_append, List.nil_append, List.append_nil, ofString_inj, String.reduceEq, decide_true, decide_false, reduceIte, Bool.false_eq_true, Bool.not_true, Bool.not_false, eqFlat, isFlat, List.any_cons, List.any_nil, List.all_cons, List.all_nil, Bool.or_false, Bool.or_true, Bool.false_or, Bool.true_or, Bool.and_true, Bool.true_and, true_and, and_true, Nat.reduceAdd, Nat.reduceLeDiff, Int.reduceLT, Int.reduceLE, Int.reduceNeg])
/-! ### draws, what stood stands -/
/-- drawn, what stood stands, something new beside -/
def Dk (S S' : Store) (p : Addr) (n : Nat) : Prop := BoxAt S' p n ∧ ∀ q m, q ≠ p → S q = some m → S' q = some m
theorem Drew.dk {S S' : Store} {p : Addr} {n : Nat} (h : Drew S S' p n) : Dk S S' p n := ⟨h.box, fun q m hq e => by rw [h.other hq]; exact e⟩
theorem Dk.trans {S S1 S2 : Store} {p : Addr} {n m : Nat} (h : Dk S S1 p n) (h2 : Dk S1 S2 p m) : Dk S S2 p m := ⟨h2.1, fun q x hq e => h2.2 q x hq (h.2 q x hq e)⟩
theorem Dk.mono {S S' : Store} {p : Addr} {n m : Nat} (h : Dk S S' p n) (hm : n ≤ m) : Dk S S' p m := ⟨h.1.mono hm, h.2⟩
theorem Dk.refl {S : Store} {p : Addr} {n : Nat} (h : BoxAt S p n) : Dk S S p n := ⟨h, fun _ _ _ e => e⟩
theorem Dk.new {S S1 : Store} {p q : Addr} {n : Nat} {m : MO} (h : Dk S S1 p n) (hq : S1 q = none) : Dk S (supd S1 q m) p n :=
  ⟨h.1.other (h.1.ne hq), fun r x hr e => by
    have := h.2 r x hr e
    rw [supd_ne fun z => by rw [z, hq] at this; cases this]
    exact this⟩
theorem Dk.put {S S1 : Store} {p q : Addr} {n : Nat} {m : MO} (h : Dk S S1 p n) (hp : p ≠ q) (hq : S q = none) : Dk S (supd S1 q m) p n :=
  ⟨h.1.other hp, fun r x hr e => by
    rw [supd_ne fun z => by rw [z, hq] at e; cases e]
    exact h.2 r x hr e⟩
theorem takeK {p : Addr} {n : Nat} {size : Int} {S0 S : Store} {P : D → Store → Prop} (hb : Dk S0 S p n) (h0 : 0 < size) (h1 : size ≤ 2 ^ 40) (hn : n ≤ 1000000000) (h : ∀ x S', 0 ≤ x → x < size → Dk S0 S' p (n + 1) → P (.int x) S') : sp_Ltake [.obj p, .int size] S P :=
  ⟨p, size, n, rfl, h0, h1, hb.1, hn, fun x S' a b d => h x S' a b (hb.trans d.dk)⟩
/-! ### bases, mosts, figures, rows -/
structure Small (b k : Int) (r : Rw) : Prop where
  e0 : -2 ≤ r.e
  e1 : r.e ≤ 3
  m0 : b ≤ 2 * r.m
  m1 : r.m ≤ 15
  l : (r.fs.length : Int) ≤ k
  f : ∀ f, f ∈ r.fs → -r.m ≤ f ∧ f ≤ r.m
theorem Small.ok {b k : Int} {r : Rw} (h : Small b k r) (b0 : 2 ≤ b) (b1 : b ≤ 16) (hk : k ≤ 60) : r.Ok b :=
  ⟨b0, b1, by have := h.e0; omega, by have := h.e1; omega, by have := h.m0; omega, by have := h.m1; omega, by have := h.l; omega, fun f hf => by have := h.f f hf; have := h.m1; omega⟩
def sp_LfiguresQ : DSp := fun ds S P => ∃ (p : Addr) (n : Nat) (m k : Int), ds = [.obj p, .int m, .int k] ∧ BoxAt S p n ∧ n ≤ 100000000 ∧ 1 ≤ m ∧ m ≤ 60 ∧ 0 ≤ k ∧ k ≤ 100 ∧ ∀ (fs : List Int) S', fs.length = k.toNat → (∀ f, f ∈ fs → -m ≤ f ∧ f ≤ m) → Dk S S' p (n + 201) → P (.tup (fs.map .int)) S'
def rd_LfiguresQ_1 : DS :=
  (dSeq (dSet 6 (dOp dSub (dCB sp_Ltake (dCons (dVar 0) (dCons (dOp dAdd (dOp dMul (dC (.int 2)) (dVar 1)) (dC (.int 1))) dNil))) (dVar 1)))
  (dDrop (dAppend (dVar 4) (dOp dIx (dLst (dCons (dVar 6) (dCons (dVar 6) (dCons (dOp dIx (dLst (dCons (dVar 1) (dCons (dOp dSub (dC (.int 0)) (dVar 1)) dNil))) (dOp dMod (dVar 6) (dC (.int 2)))) (dCons (dC (.int 0)) dNil))))) (dIf (dTest (dOp dGt (dCB sp_Ltake (dCons (dVar 0) (dCons (dC (.int 5)) dNil))) (dC (.int 0)))) (dVar 3) (dC (.int 0)))))))
def rd_LfiguresQ : DS :=
  (dSeq (dSet 3 (dCB sp_Ltake (dCons (dVar 0) (dCons (dC (.int 4)) dNil))))
  (dSeq (dSet 4 (dLstM dNil))
  (dSeq (dFor (dRng1 (dCons (dVar 2) dNil)) (.nm 5) rd_LfiguresQ_1)
  (dRet (dCB cTuple (dCons (dVar 4) dNil))))))
def goal_LfiguresQ : Prop := ∀ (x0 x1 x2 : D) (S : Store) (P : D → Store → Prop), sp_LfiguresQ [x0, x1, x2] S P → rd_LfiguresQ (dEnd P) [some x0, some x1, some x2, none, none, none, none] S
theorem len_LfiguresQ : ∀ ds S P, sp_LfiguresQ ds S P → ds.length = 3 := by
  rintro ds S P ⟨a, b, c, d, rfl, _⟩; rfl
theorem vc_LfiguresQ : goal_LfiguresQ := by
  rintro x0 x1 x2 S P ⟨p, n, m, k, e, hb, hn, m0, m1, k0, k1, h⟩
  cases e
  unfold rd_LfiguresQ
  walk_at "dg3"
  refine takeK (.refl hb) (by decide) (by decide) (by omega) fun w S1 w0 w1 hb1 => ?_
  walk_at "dg3"
  intro L hL
  have hpL := hb1.1.ne hL
  have hL0 : S L = none := by
    cases e : S L with
    | none => rfl
    | some x =>
      have := hb1.2 L x (fun z => hpL z.symm) e
      rw [hL] at this; cases this
  refine ⟨by omega, by omega, fun i ρ S' => Dk S S' p (n + 1 + 2 * i) ∧ ∃ (fs : List Int) (z5 z6 : Option D), S' L = some (.lst (fs.map .int)) ∧ fs.length = i ∧ (∀ f, f ∈ fs → -m ≤ f ∧ f ≤ m) ∧ ρ = [some (.obj p), some (.int m), some (.int k), some (.int w), some (.obj L), z5, z6], ⟨hb1.new hL, [], none, none, supd_same, rfl, by simp, rfl⟩, ?_, ?_⟩
  · rintro i d ρ S2 hd ⟨hb2, fs, z5, z6, hS, hfl, hff, rfl⟩
    obtain ⟨hi, rfl⟩ := rng_get hd
    refine ⟨_, rfl, ?_⟩
    unfold rd_LfiguresQ_1
    walk_at "dg3"
    refine ⟨mulS, ?_⟩
    refine takeK (.refl hb2.1) (by omega) (by omega) (by omega) fun x S3 x0 x1 hb3 => ?_
    walk_at "dg3"
    have hS3 := hb3.2 L _ (fun z => hpL z.symm) hS
    refine ⟨_, hS3, ?_⟩
    obtain ⟨y, hy, hy0, hy1⟩ : ∃ y, y = x - m ∧ -m ≤ y ∧ y ≤ m := ⟨_, rfl, by omega, by omega⟩
    rw [← hy]
    have fin : ∀ (v : Int) (S4 : Store), -m ≤ v → v ≤ m → Dk S3 S4 p (n + 1 + 2 * i + 1 + 1) → ∃ ds, S4 L = some (.lst ds) ∧ ds.length < 100000 ∧ Dk S (supd S4 L (.lst (ds ++ [.int v]))) p (n + 1 + 2 * (i + 1)) ∧ ∃ (gs : List Int) (z5 z6 : Option D), some (MO.lst (ds ++ [.int v])) = some (.lst (gs.map .int)) ∧ gs.length = i + 1 ∧ (∀ f, f ∈ gs → -m ≤ f ∧ f ≤ m) ∧ [some (D.obj p), some (.int m), some (.int k), some (.int w), some (.obj L), some (.int (0 + (i : Int))), some (.int y)] = [some (.obj p), some (.int m), some (.int k), some (.int w), some (.obj L), z5, z6] := fun v S4 h1 h2 hk => by
      refine ⟨_, hk.2 L _ (fun z => hpL z.symm) hS3, by rw [List.length_map]; omega, ((hb2.trans (hb3.trans hk)).mono (by omega)).put hpL hL0, fs ++ [v], _, _, by simp, by simp [hfl], fun f hf => ?_, rfl⟩
      rcases List.mem_append.mp hf with hf | hf
      · exact hff f hf
      · simp only [List.mem_singleton] at hf
        omega
    have hm2 : y % 2 = 0 ∨ y % 2 = 1 := by omega
    obtain ⟨d, hd2, v, rfl, hv0, hv1⟩ : ∃ d, atI [D.int m, D.int (0 - m)] (y % 2) = some d ∧ ∃ v, d = .int v ∧ -m ≤ v ∧ v ≤ m := by
      rcases hm2 with e | e
      · rw [e]; exact ⟨_, rfl, _, rfl, by omega, by omega⟩
      · rw [e]; exact ⟨_, rfl, _, rfl, by omega, by omega⟩
    simp only [hd2]
    refine takeK (.refl hb3.1) (by decide) (by decide) (by omega) fun u S4 u0 u1 hb4 => ?_
    walk_at "dg3"
    by_cases hu : 0 < u
    · simp only [hu, reduceIte]
      have hw : w = 0 ∨ w = 1 ∨ w = 2 ∨ w = 3 := by omega
      rcases hw with rfl | rfl | rfl | rfl
      · exact fin y S4 hy0 hy1 hb4
      · exact fin y S4 hy0 hy1 hb4
      · exact fin v S4 hv0 hv1 hb4
      · exact fin 0 S4 (by omega) (by omega) hb4
    · simp only [hu, reduceIte]
      exact fin y S4 hy0 hy1 hb4
  · rintro ρ S2 ⟨hb2, fs, z5, z6, hS, hfl, hff, rfl⟩
    rw [rng_len] at hb2 hfl
    unfold cTuple
    walk_at "dg3"
    simp only [hS]
    exact h fs S2 hfl hff (hb2.mono (by omega))
/-! ### kinds by draws -/
def Kn.Dr : Kn → Prop
  | .sum ws v => 1 ≤ ws.length ∧ ws.length ≤ 3 ∧ (∀ w, w ∈ ws → w ≠ 0 ∧ w.natAbs ≤ 9) ∧ 1 ≤ v ∧ v ≤ 1000
  | .loose ws => 1 ≤ ws.length ∧ ws.length ≤ 3 ∧ ∀ w, w ∈ ws → w ≠ 0 ∧ w.natAbs ≤ 1
  | .moved e => e.natAbs ≤ 4
  | .told q => Sz 10 q
  | .over k => 0 ≤ k ∧ k ≤ 3
  | _ => True
theorem Kn.Dr.ok {kn : Kn} (h : kn.Dr) : kn.Ok := by
  cases kn with
  | sum ws v => exact ⟨by have := h.2.1; omega, fun w hw => by have := (h.2.2.1 w hw).2; omega, h.2.2.2.1, h.2.2.2.2⟩
  | loose ws => exact ⟨by have := h.2.1; omega, fun w hw => by have := (h.2.2 w hw).2; omega⟩
  | moved e => exact Nat.le_trans h (by decide)
  | told q => exact Sz.mono (show Sz 10 q from h) (by decide)
  | over k =>
    have h1 : 0 ≤ k ∧ k ≤ 3 := h
    show k.natAbs ≤ 20
    omega
  | _ => trivial
theorem Kn.Dr.many {kn : Kn} (h : kn.Dr) : kn.many ≤ 3 := by
  cases kn with
  | sum ws v => exact h.2.1
  | loose ws => exact h.2.1
  | _ => simp [Kn.many]
end Lb

namespace Lb
open PySem PySem.Spec PyProof.Rows L2 DL
local macro_rules | `(tactic| walk_at "dg3") => `(tactic| try simp only [dDispGet, dictAt, isi_non_dict, isi_bl_dict, isi_int_dict, isi_str_dict, isi_lst_dict, isi_tup_dict, isi_non_bs, isi_bl_bs, isi_int_bs, isi_str_bs, isi_lst_bs, isi_tup_bs, g_ix_enc0, g_ix_enc1, g_ix_sp0, g_ix_sp1, g_put_sp, Int.reduceEq, dSeq, dSet, dPar, dOp, dUn, dVar, dC, dCB, dCons, dNil, dTup, dLst, dLstM, dIfS, dIf, dTest, dNot, dAnd, dOr, dAndV, dOrV, dNotV, dRet, dRetN, dEnd, dNext, dAdd, dSub, dMul, dFdiv, dMod, dPow, dNeg, dLt, dLe, dGt, dGe, dEq, dNe, eqB_ii, eqB_bb, eqB_ss, eqB_nn, eqB_ni, eqB_in, eqB_ns, eqB_sn, eqB_is, eqB_si, eqB_nb, eqB_bn, dIn, g_ix_tup, g_ix_lst, g_ix_ext, g_ln_tup, g_ln_lst, g_ln_ext, g_nn_non, g_nn_int, g_nn_tup, g_in_non, g_in_int, g_in_tup, g_ix_row0, g_ix_row1, g_ix_row2, g_ix_span0, g_ix_span1, g_nn_span, g_nn_encR, g_in_span, cAbs, cMax2, cMin2, cInt, cList, cTuple, dIsB, dNotB, dPar3, ForN, LcN, pinOf, pin2, dEnum2, dAppend, supd_same0, isi_non_int, isi_non_bool, isi_non_str, isi_non_list, isi_non_tuple, isi_non_lt, isi_bl_int, isi_bl_bool, isi_bl_str, isi_bl_list, isi_bl_tuple, isi_bl_lt, isi_int_int, isi_int_bool, isi_int_str, isi_int_list, isi_int_tuple, isi_int_lt, isi_str_int, isi_str_bool, isi_str_str, isi_str_list, isi_str_tuple, isi_str_lt, isi_lst_int, isi_lst_bool, isi_lst_str, isi_lst_list, isi_lst_tuple, isi_lst_lt, isi_tup_int, isi_tup_bool, isi_tup_str, isi_tup_list, isi_tup_tuple, isi_tup_lt, dAug, dIAdd, dIMul, dDrop, dSl, dPart, dNoPart, dRevL, dCallK, dChainR, dAsg, put_nm, put_tp, put_tl, g_put_row, g_put_span, putL_nil, putL_cons, Option.bind, seqOf, lstOf, dFor, dLc, dLcM, dItSeq, dZip, dZipS, dEnum, dRng1, dRng2, dYes, dwipe, Tgt.slots, Tgt.slotsL,
  atI_0, atI_1, atI_2, atI_3, List.getElem?_cons_zero, List.getElem?_cons_succ, List.set_cons_zero, List.set_cons_succ, decide_eq_true_eq, List.length_cons, List.length_nil, List.cons_append, List.nil_append, List.append_nil, ofString_inj, String.reduceEq, decide_true, decide_false, reduceIte, Bool.false_eq_true, Bool.not_true, Bool.not_false, eqFlat, isFlat, List.any_cons, List.any_nil, List.all_cons, List.all_nil, Bool.or_false, Bool.or_true, Bool.false_or, Bool.true_or, Bool.and_true, Bool.true_and, true_and, and_true, Nat.reduceAdd, Nat.reduceLeDiff, Int.reduceLT, Int.reduceLE, Int.reduceNeg])
end Lb

namespace Lb
open PySem PySem.Spec PyProof.Rows L2 DL
local macro_rules | `(tactic| walk_at "dg3") => `(tactic| try simp only [dDispGet, dictAt, isi_non_dict, isi_bl_dict, isi_int_dict, isi_str_dict, isi_lst_dict, isi_tup_dict, isi_non_bs, isi_bl_bs, isi_int_bs, isi_str_bs, isi_lst_bs, isi_tup_bs, g_ix_enc0, g_ix_enc1, g_ix_sp0, g_ix_sp1, g_put_sp, Int.reduceEq, dSeq, dSet, dPar, dOp, dUn, dVar, dC, dCB, dCons, dNil, dTup, dLst, dLstM, dIfS, dIf, dTest, dNot, dAnd, dOr, dAndV, dOrV, dNotV, dRet, dRetN, dEnd, dNext, dAdd, dSub, dMul, dFdiv, dMod, dPow, dNeg, dLt, dLe, dGt, dGe, dEq, dNe, eqB_ii, eqB_bb, eqB_ss, eqB_nn, eqB_ni, eqB_in, eqB_ns, eqB_sn, eqB_is, eqB_si, eqB_nb, eqB_bn, dIn, g_ix_tup, g_ix_lst, g_ix_ext, g_ln_tup, g_ln_lst, g_ln_ext, g_nn_non, g_nn_int, g_nn_tup, g_in_non, g_in_int, g_in_tup, g_ix_row0, g_ix_row1, g_ix_row2, g_ix_span0, g_ix_span1, g_nn_span, g_nn_encR, g_in_span, cAbs, cMax2, cMin2, cInt, cList, cTuple, dIsB, dNotB, dPar3, ForN, LcN, pinOf, pin2, dEnum2, dAppend, supd_same0, isi_non_int, isi_non_bool, isi_non_str, isi_non_list, isi_non_tuple, isi_non_lt, isi_bl_int, isi_bl_bool, isi_bl_str, isi_bl_list, isi_bl_tuple, isi_bl_lt, isi_int_int, isi_int_bool, isi_int_str, isi_int_list, isi_int_tuple, isi_int_lt, isi_str_int, isi_str_bool, isi_str_str, isi_str_list, isi_str_tuple, isi_str_lt, isi_lst_int, isi_lst_bool, isi_lst_str, isi_lst_list, isi_lst_tuple, isi_lst_lt, isi_tup_int, isi_tup_bool, isi_tup_str, isi_tup_list, isi_tup_tuple, isi_tup_lt, dAug, dIAdd, dIMul, dDrop, dSl, dPart, dNoPart, dRevL, dCallK, dChainR, dAsg, put_nm, put_tp, put_tl, g_put_row, g_put_span, putL_nil, putL_cons, Option.bind, seqOf, lstOf, dFor, dLc, dLcM, dItSeq, dZip, dZipS, dEnum, dRng1, dRng2, dYes, dwipe, Tgt.slots, Tgt.slotsL,
  atI_0, atI_1, atI_2, atI_3, List.getElem?_cons_zero, List.getElem?_cons_succ, List.set_cons_zero, List.set_cons_succ, decide_eq_true_eq, List.length_cons, List.length_nil, List.cons_append, List.nil_append, List.append_nil, ofString_inj, String.reduceEq, decide_true, decide_false, reduceIte, Bool.false_eq_true, Bool.not_true, Bool.not_false, eqFlat, isFlat, List.any_cons, List.any_nil, List.all_cons, List.all_nil, Bool.or_false, Bool.or_true, Bool.false_or, Bool.true_or, Bool.and_true, Bool.true_and, true_and, and_true, Nat.reduceAdd, Nat.reduceLeDiff, Int.reduceLT, Int.reduceLE, Int.reduceNeg])
theorem up_spans {b : Int} {rs : List Rw} (h : ∀ r, r ∈ rs → r.Ok b) : Up (rs.map (spanQ b)) := fun s hs => by
  obtain ⟨r, hr, rfl⟩ := List.mem_map.mp hs
  exact lo_le_hi (h r hr)
theorem ch_sz {z : Nat} : ∀ {ss : List (Rat × Rat)}, (∀ s, s ∈ ss → Sz z s.1 ∧ Sz z s.2) → ∀ (xs : List Rat), Ch ss xs → ∀ x, x ∈ xs → Sz z x
  | [], _, [], _, x, hx => by cases hx
  | [], _, _ :: _, h, _, _ => h.elim
  | _ :: _, _, [], h, _, _ => h.elim
  | s :: ss, hs, y :: ys, h, x, hx => by
    rcases List.mem_cons.mp hx with rfl | hx
    · rcases h.1 with e | e
      · rw [e]; exact (hs s (by simp)).1
      · rw [e]; exact (hs s (by simp)).2
    · exact ch_sz (fun t ht => hs t (by simp [ht])) ys h.2 x hx
end Lb

namespace Lb
open PySem PySem.Spec PyProof.Rows L2 DL
local macro_rules | `(tactic| walk_at "dg3") => `(tactic| try simp only [dDispGet, dictAt, isi_non_dict, isi_bl_dict, isi_int_dict, isi_str_dict, isi_lst_dict, isi_tup_dict, isi_non_bs, isi_bl_bs, isi_int_bs, isi_str_bs, isi_lst_bs, isi_tup_bs, g_ix_enc0, g_ix_enc1, g_ix_sp0, g_ix_sp1, g_put_sp, Int.reduceEq, dSeq, dSet, dPar, dOp, dUn, dVar, dC, dCB, dCons, dNil, dTup, dLst, dLstM, dIfS, dIf, dTest, dNot, dAnd, dOr, dAndV, dOrV, dNotV, dRet, dRetN, dEnd, dNext, dAdd, dSub, dMul, dFdiv, dMod, dPow, dNeg, dLt, dLe, dGt, dGe, dEq, dNe, eqB_ii, eqB_bb, eqB_ss, eqB_nn, eqB_ni, eqB_in, eqB_ns, eqB_sn, eqB_is, eqB_si, eqB_nb, eqB_bn, dIn, g_ix_tup, g_ix_lst, g_ix_ext, g_ln_tup, g_ln_lst, g_ln_ext, g_nn_non, g_nn_int, g_nn_tup, g_in_non, g_in_int, g_in_tup, g_ix_row0, g_ix_row1, g_ix_row2, g_ix_span0, g_ix_span1, g_nn_span, g_nn_encR, g_in_span, cAbs, cMax2, cMin2, cInt, cList, cTuple, dIsB, dNotB, dPar3, ForN, LcN, pinOf, pin2, dEnum2, dAppend, supd_same0, isi_non_int, isi_non_bool, isi_non_str, isi_non_list, isi_non_tuple, isi_non_lt, isi_bl_int, isi_bl_bool, isi_bl_str, isi_bl_list, isi_bl_tuple, isi_bl_lt, isi_int_int, isi_int_bool, isi_int_str, isi_int_list, isi_int_tuple, isi_int_lt, isi_str_int, isi_str_bool, isi_str_str, isi_str_list, isi_str_tuple, isi_str_lt, isi_lst_int, isi_lst_bool, isi_lst_str, isi_lst_list, isi_lst_tuple, isi_lst_lt, isi_tup_int, isi_tup_bool, isi_tup_str, isi_tup_list, isi_tup_tuple, isi_tup_lt, dAug, dIAdd, dIMul, dDrop, dSl, dPart, dNoPart, dRevL, dCallK, dChainR, dAsg, put_nm, put_tp, put_tl, g_put_row, g_put_span, putL_nil, putL_cons, Option.bind, seqOf, lstOf, dFor, dLc, dLcM, dItSeq, dZip, dZipS, dEnum, dRng1, dRng2, dYes, dwipe, Tgt.slots, Tgt.slotsL,
  atI_0, atI_1, atI_2, atI_3, List.getElem?_cons_zero, List.getElem?_cons_succ, List.set_cons_zero, List.set_cons_succ, decide_eq_true_eq, List.length_cons, List.length_nil, List.cons_append, List.nil_append, List.append_nil, ofString_inj, String.reduceEq, decide_true, decide_false, reduceIte, Bool.false_eq_true, Bool.not_true, Bool.not_false, eqFlat, isFlat, List.any_cons, List.any_nil, List.all_cons, List.all_nil, Bool.or_false, Bool.or_true, Bool.false_or, Bool.true_or, Bool.and_true, Bool.true_and, true_and, and_true, Nat.reduceAdd, Nat.reduceLeDiff, Int.reduceLT, Int.reduceLE, Int.reduceNeg])
/-! ### rows with figures behind -/
def Rw.app (r : Rw) (gs : List Int) : Rw := ⟨r.e, r.m, r.fs ++ gs⟩
theorem Rw.app_nil (r : Rw) : r.app [] = r := by unfold Rw.app; simp
theorem Rw.app_cons (r : Rw) (g : Int) (gs : List Int) : r.app (g :: gs) = (r.snoc g).app gs := by unfold Rw.app Rw.snoc; simp
theorem app_in {b : Int} (b0 : 2 ≤ b) : ∀ (gs : List Int) (r : Rw), (∀ g, g ∈ gs → -r.m ≤ g ∧ g ≤ r.m) → r.lo b ≤ (r.app gs).lo b ∧ (r.app gs).hi b ≤ r.hi b
  | [], r, _ => by rw [Rw.app_nil]; exact ⟨Rat.le_refl, Rat.le_refl⟩
  | g :: gs, r, h => by
    rw [Rw.app_cons]
    have h1 := snoc_in' (r := r) b0 (h g (by simp)).1 (h g (by simp)).2
    have h2 := app_in b0 gs (r.snoc g) fun z hz => h z (by simp [hz])
    exact ⟨Rat.le_trans h1.1 h2.1, Rat.le_trans h2.2 h1.2⟩
theorem Small.app {b k : Int} {r : Rw} {gs : List Int} (h : Small b k r) (hg : ∀ g, g ∈ gs → -r.m ≤ g ∧ g ≤ r.m) {j : Int} (hj : (gs.length : Int) ≤ j) : Small b (k + j) (r.app gs) :=
  ⟨h.e0, h.e1, h.m0, h.m1, by have := h.l; show ((r.fs ++ gs).length : Int) ≤ _; rw [List.length_append]; omega, fun f hf => by
    rcases List.mem_append.mp hf with hf | hf
    · exact h.f f hf
    · exact hg f hf⟩
theorem Small.mono {b k j : Int} {r : Rw} (h : Small b k r) (hj : k ≤ j) : Small b j r := ⟨h.e0, h.e1, h.m0, h.m1, by have := h.l; omega, h.f⟩
/-! ### spans within spans -/
def Sub : List (Rat × Rat) → List (Rat × Rat) → Prop
  | [], [] => True
  | t :: ts, s :: ss => (s.1 ≤ t.1 ∧ t.2 ≤ s.2) ∧ Sub ts ss
  | _, _ => False
theorem Sub.refl : ∀ ss, Sub ss ss
  | [] => trivial
  | _ :: ss => ⟨⟨Rat.le_refl, Rat.le_refl⟩, Sub.refl ss⟩
theorem Sub.len : ∀ {ts ss}, Sub ts ss → ts.length = ss.length
  | [], [], _ => rfl
  | [], _ :: _, h => h.elim
  | _ :: _, [], h => h.elim
  | _ :: ts, _ :: ss, h => by have := Sub.len h.2; simp [this]
theorem Sub.ins : ∀ {ts ss xs}, Sub ts ss → Ins ts xs → Ins ss xs
  | [], [], [], _, _ => trivial
  | [], [], _ :: _, _, h => h.elim
  | [], _ :: _, _, h, _ => h.elim
  | _ :: _, [], _, h, _ => h.elim
  | _ :: _, _ :: _, [], _, h => h.elim
  | _ :: ts, _ :: ss, x :: xs, h, g => ⟨⟨Rat.le_trans h.1.1 g.1.1, Rat.le_trans g.1.2 h.1.2⟩, Sub.ins h.2 g.2⟩
def reachQ (b : Int) (kn : Kn) (ss : List (Rat × Rat)) : Rat × Rat := (minL (kn.vals b ss), maxL (kn.vals b ss))
theorem reachQ_d (b : Int) (kn : Kn) (ss : List (Rat × Rat)) : reachD b kn ss = spD (reachQ b kn ss) := rfl
theorem pk {s : Rat × Rat} {e : Int} : (if e = 0 then s.1 else s.2) = s.1 ∨ (if e = 0 then s.1 else s.2) = s.2 := by
  split
  · exact .inl rfl
  · exact .inr rfl
theorem some_ch : ∀ ss : List (Rat × Rat), ∃ xs, Ch ss xs
  | [] => ⟨[], trivial⟩
  | s :: ss => by
    obtain ⟨xs, h⟩ := some_ch ss
    exact ⟨s.1 :: xs, .inl rfl, h⟩
theorem reach_ends (b : Int) (kn : Kn) (ss : List (Rat × Rat)) : (∃ c, Ch ss c ∧ (reachQ b kn ss).1 = kn.app b c) ∧ ∃ c, Ch ss c ∧ (reachQ b kn ss).2 = kn.app b c := by
  have hv : kn.vals b ss ≠ [] := by
    obtain ⟨xs, hx⟩ := some_ch ss
    exact List.ne_nil_of_mem (mem_vals.mpr ⟨xs, hx, rfl⟩)
  exact ⟨mem_vals.mp (minL_is hv).1, mem_vals.mp (maxL_is hv).1⟩
theorem reach_sub {b : Int} {kn : Kn} {ts ss : List (Rat × Rat)} (b0 : 2 ≤ b) (hk : kn.Ok) (hl : ss.length = kn.many) (hu : Up ss) (ht : Up ts) (h : Sub ts ss) : (reachQ b kn ss).1 ≤ (reachQ b kn ts).1 ∧ (reachQ b kn ts).2 ≤ (reachQ b kn ss).2 := by
  obtain ⟨⟨c1, h1, e1⟩, c2, h2, e2⟩ := reach_ends b kn ts
  rw [e1, e2]
  exact ⟨(vals_within b0 hk hl (h.ins (ch_ins ht h1)) hu).1, (vals_within b0 hk hl (h.ins (ch_ins ht h2)) hu).2⟩
theorem reach_sz {b : Int} {kn : Kn} {ss : List (Rat × Rat)} (b0 : 2 ≤ b) (b1 : b ≤ 16) (hk : kn.Ok) (hl : ss.length = kn.many) (hs : ∀ s, s ∈ ss → Sz 840 s.1 ∧ Sz 840 s.2) : Sz 3600 (reachQ b kn ss).1 ∧ Sz 3600 (reachQ b kn ss).2 := by
  obtain ⟨⟨c1, h1, e1⟩, c2, h2, e2⟩ := reach_ends b kn ss
  rw [e1, e2]
  exact ⟨(Kn.app_sz b0 b1 hk (by rw [h1.len]; exact hl) (by decide) (ch_sz hs c1 h1)).mono (by decide), (Kn.app_sz b0 b1 hk (by rw [h2.len]; exact hl) (by decide) (ch_sz hs c2 h2)).mono (by decide)⟩
theorem tights {b : Int} {rs : List Rw} (h : ∀ r, r ∈ rs → r.Ok b) : ∀ s, s ∈ rs.map (spanQ b) → Sz 840 s.1 ∧ Sz 840 s.2 := fun s hs => by
  obtain ⟨r, hr, rfl⟩ := List.mem_map.mp hs
  exact (h r hr).tight
/-- rows, each with figures behind, by the ways of a corner -/
structure Beh (j : Int) (q : Int × Rw) (y : D) (gs : List Int) : Prop where
  e : y = (q.2.app gs).d
  l : gs.length = 5
  f : ∀ g, g ∈ gs → -q.2.m ≤ g ∧ g ≤ q.2.m
  lo : j / q.1 % 2 = 0 → ∀ g, g ∈ gs → g = -q.2.m
  hi : j / q.1 % 2 = 1 → ∀ g, g ∈ gs → g = q.2.m
end Lb

namespace Lb
open PySem PySem.Spec PyProof.Rows L2 DL
local macro_rules | `(tactic| walk_at "dg3") => `(tactic| try simp only [dDispGet, dictAt, isi_non_dict, isi_bl_dict, isi_int_dict, isi_str_dict, isi_lst_dict, isi_tup_dict, isi_non_bs, isi_bl_bs, isi_int_bs, isi_str_bs, isi_lst_bs, isi_tup_bs, g_ix_enc0, g_ix_enc1, g_ix_sp0, g_ix_sp1, g_put_sp, Int.reduceEq, dSeq, dSet, dPar, dOp, dUn, dVar, dC, dCB, dCons, dNil, dTup, dLst, dLstM, dIfS, dIf, dTest, dNot, dAnd, dOr, dAndV, dOrV, dNotV, dRet, dRetN, dEnd, dNext, dAdd, dSub, dMul, dFdiv, dMod, dPow, dNeg, dLt, dLe, dGt, dGe, dEq, dNe, eqB_ii, eqB_bb, eqB_ss, eqB_nn, eqB_ni, eqB_in, eqB_ns, eqB_sn, eqB_is, eqB_si, eqB_nb, eqB_bn, dIn, g_ix_tup, g_ix_lst, g_ix_ext, g_ln_tup, g_ln_lst, g_ln_ext, g_nn_non, g_nn_int, g_nn_tup, g_in_non, g_in_int, g_in_tup, g_ix_row0, g_ix_row1, g_ix_row2, g_ix_span0, g_ix_span1, g_nn_span, g_nn_encR, g_in_span, cAbs, cMax2, cMin2, cInt, cList, cTuple, dIsB, dNotB, dPar3, ForN, LcN, pinOf, pin2, dEnum2, dAppend, supd_same0, isi_non_int, isi_non_bool, isi_non_str, isi_non_list, isi_non_tuple, isi_non_lt, isi_bl_int, isi_bl_bool, isi_bl_str, isi_bl_list, isi_bl_tuple, isi_bl_lt, isi_int_int, isi_int_bool, isi_int_str, isi_int_list, isi_int_tuple, isi_int_lt, isi_str_int, isi_str_bool, isi_str_str, isi_str_list, isi_str_tuple, isi_str_lt, isi_lst_int, isi_lst_bool, isi_lst_str, isi_lst_list, isi_lst_tuple, isi_lst_lt, isi_tup_int, isi_tup_bool, isi_tup_str, isi_tup_list, isi_tup_tuple, isi_tup_lt, dAug, dIAdd, dIMul, dDrop, dSl, dPart, dNoPart, dRevL, dCallK, dChainR, dAsg, put_nm, put_tp, put_tl, g_put_row, g_put_span, putL_nil, putL_cons, Option.bind, seqOf, lstOf, dFor, dLc, dLcM, dItSeq, dZip, dZipS, dEnum, dRng1, dRng2, dYes, dwipe, Tgt.slots, Tgt.slotsL,
  atI_0, atI_1, atI_2, atI_3, List.getElem?_cons_zero, List.getElem?_cons_succ, List.set_cons_zero, List.set_cons_succ, decide_eq_true_eq, List.length_cons, List.length_nil, List.cons_append, List.nil_append, List.append_nil, ofString_inj, String.reduceEq, decide_true, decide_false, reduceIte, Bool.false_eq_true, Bool.not_true, Bool.not_false, eqFlat, isFlat, List.any_cons, List.any_nil, List.all_cons, List.all_nil, Bool.or_false, Bool.or_true, Bool.false_or, Bool.true_or, Bool.and_true, Bool.true_and, true_and, and_true, Nat.reduceAdd, Nat.reduceLeDiff, Int.reduceLT, Int.reduceLE, Int.reduceNeg])
/-! ### whole numbers in a stretch -/
def ivl (a : Int) (n : Nat) : List Int := (List.range n).map fun (i : Nat) => a + (i : Int)
theorem ivl_zero (a : Int) : ivl a 0 = [] := rfl
theorem ivl_succ (a : Int) (n : Nat) : ivl a (n + 1) = a :: ivl (a + 1) n := by
  unfold ivl
  rw [List.range_succ_eq_map, List.map_cons, List.map_map]
  congr 1
  · simp
  · refine List.map_congr_left fun i _ => ?_
    show a + ((i + 1 : Nat) : Int) = a + 1 + (i : Int)
    omega
theorem ivl_filter {L H : Int} {c : Int → Bool} (hc : ∀ d, c d = decide (L ≤ d ∧ d ≤ H)) : ∀ (n : Nat) (a lo : Int) (k : Nat), lo = (if L ≤ a then a else L) → k = ((if H < a + (n : Int) - 1 then H else a + (n : Int) - 1) + 1 - lo).toNat → (ivl a n).filter c = ivl lo k
  | 0, a, lo, k, h1, h2 => by
    have : k = 0 := by
      subst h1
      split at h2 <;> split at h2 <;> omega
    subst this
    simp [ivl_zero]
  | n + 1, a, lo, k, h1, h2 => by
    rw [ivl_succ, List.filter_cons, hc]
    by_cases h : L ≤ a ∧ a ≤ H
    · have e : lo = a := by rw [h1, if_pos h.1]
      subst e
      obtain ⟨k', hk⟩ : ∃ k', k = k' + 1 := ⟨k - 1, by
        have : 1 ≤ k := by
          rw [h2]
          split <;> omega
        omega⟩
      simp only [h, decide_true, reduceIte, and_self]
      rw [hk, ivl_succ, ivl_filter hc n (lo + 1) (lo + 1) k' (by rw [if_pos (by omega)]) (by
        have : ((k' + 1 : Nat) : Int) = ((if H < lo + ((n + 1 : Nat) : Int) - 1 then H else lo + ((n + 1 : Nat) : Int) - 1) + 1 - lo).toNat := by rw [← hk, h2]
        split at this <;> split <;> omega)]
    · simp only [h, decide_false, Bool.false_eq_true, reduceIte]
      by_cases hL : L ≤ a
      · have hH : H < a := by omega
        have k0 : k = 0 := by
          rw [h2, h1, if_pos hL]
          split <;> omega
        rw [ivl_filter hc n (a + 1) (a + 1) 0 (by rw [if_pos (by omega)]) (by split <;> omega), k0]
        rfl
      · have e : lo = L := by rw [h1, if_neg hL]
        refine ivl_filter hc n (a + 1) lo k ?_ ?_
        · split <;> omega
        · rw [h2]
          congr 1
          split <;> split <;> omega
/-! ### a number's floor and ceiling -/
theorem int_le_rat {d : Int} {q : Rat} : (d : Rat) ≤ q ↔ d * (q.den : Int) ≤ q.num := by
  rw [Rat.le_iff]
  show d * (q.den : Int) ≤ q.num * ((1 : Nat) : Int) ↔ _
  simp
theorem rat_le_int {d : Int} {q : Rat} : q ≤ (d : Rat) ↔ q.num ≤ d * (q.den : Int) := by
  rw [Rat.le_iff]
  show q.num * ((1 : Nat) : Int) ≤ d * (q.den : Int) ↔ _
  simp
theorem den_pos (q : Rat) : (0 : Int) < (q.den : Int) := by have := q.den_pos; omega
theorem floor_le {d : Int} {q : Rat} : d ≤ q.num.fdiv (q.den : Int) ↔ (d : Rat) ≤ q := by
  rw [int_le_rat, Int.fdiv_eq_ediv_of_nonneg _ (Int.le_of_lt (den_pos q))]
  exact Int.le_ediv_iff_mul_le (den_pos q)
theorem le_ceil {d : Int} {q : Rat} : -((-q.num).fdiv (q.den : Int)) ≤ d ↔ q ≤ (d : Rat) := by
  rw [rat_le_int, Int.fdiv_eq_ediv_of_nonneg _ (Int.le_of_lt (den_pos q))]
  have := Int.le_ediv_iff_mul_le (den_pos q) (a := -d) (b := -q.num)
  rw [Int.neg_mul] at this
  omega
/-! ### the right figures -/
def figOk (b : Int) (r : Rw) (q : Rat × Rat) (d : Int) : Bool := decide ((r.snoc d).lo b ≤ q.1 ∧ q.2 ≤ (r.snoc d).hi b)
def figsR (b : Int) (r : Rw) (q : Rat × Rat) : List Int := (ivl (-r.m) (2 * r.m + 1).toNat).filter (figOk b r q)
structure Own (b : Int) (r : Rw) : Prop where
  e0 : 0 ≤ r.e
  e1 : r.e ≤ 10
  m0 : b ≤ 2 * r.m
  m1 : r.m ≤ 15
  l : r.fs.length ≤ 11
  k : (r.fs.length : Int) - r.e ≤ 8
  f : ∀ f, f ∈ r.fs → -r.m ≤ f ∧ f ≤ r.m
theorem Own.ok {b : Int} {r : Rw} (h : Own b r) (b0 : 2 ≤ b) (b1 : b ≤ 10) : r.Ok b :=
  ⟨b0, by omega, by have := h.e0; omega, by have := h.e1; omega, by have := h.m0; omega, by have := h.m1; omega, by have := h.l; omega, fun f hf => by have := h.f f hf; have := h.m1; omega⟩
def Mg (q : Rat) : Prop := ((-268435456 : Int) : Rat) ≤ q ∧ q ≤ ((268435456 : Int) : Rat)
theorem zpow_le9 {b k : Int} (b0 : 2 ≤ b) (b1 : b ≤ 10) (hk : k ≤ 9) : (b : Rat) ^ k ≤ ((1000000000 : Int) : Rat) := by
  have bp : (0 : Rat) < (b : Rat) := ratpos (by omega)
  obtain ⟨n, hn⟩ : ∃ n : Nat, 9 - k = n := ⟨(9 - k).toNat, by omega⟩
  have e : (b : Rat) ^ k * (b : Rat) ^ (9 - k) = (b : Rat) ^ (9 : Int) := by
    rw [← Rat.zpow_add (by grind)]
    congr 1; omega
  have p1 : (1 : Rat) ≤ (b : Rat) ^ (9 - k) := by
    rw [hn, Rat.zpow_natCast, ← Rat.intCast_pow]
    have : (1 : Int) ≤ b ^ n := Int.pow_pos (by omega)
    exact_mod_cast this
  have p2 : (b : Rat) ^ (9 : Int) ≤ ((1000000000 : Int) : Rat) := by
    have e9 : (b : Rat) ^ (9 : Int) = ((b ^ 9 : Int) : Rat) := by
      rw [Rat.intCast_pow]
      exact Rat.zpow_natCast (q := (b : Rat)) (n := 9)
    rw [e9]
    have hb : b = 2 ∨ b = 3 ∨ b = 4 ∨ b = 5 ∨ b = 6 ∨ b = 7 ∨ b = 8 ∨ b = 9 ∨ b = 10 := by omega
    have : b ^ 9 ≤ 1000000000 := by
      rcases hb with rfl | rfl | rfl | rfl | rfl | rfl | rfl | rfl | rfl <;> decide
    exact Rat.intCast_le_intCast.mpr this
  have p0 := Rat.zpow_pos (n := k) bp
  have := Rat.mul_le_mul_of_nonneg_left p1 (Rat.le_of_lt p0)
  grind
/-- the bounds of the right figures -/
theorem fig_bounds {b : Int} {r : Rw} {q : Rat × Rat} (h : r.Ok b) {s : Rat} (hs : s = (b : Rat) ^ ((r.fs.length : Int) - r.e + 1)) (d : Int) :
    figOk b r q d = decide (-((-((q.2 - r.worth b) * s - (r.m : Rat) / ((b - 1 : Int) : Rat)).num).fdiv (((q.2 - r.worth b) * s - (r.m : Rat) / ((b - 1 : Int) : Rat)).den : Int)) ≤ d ∧
      d ≤ ((q.1 - r.worth b) * s + (r.m : Rat) / ((b - 1 : Int) : Rat)).num.fdiv (((q.1 - r.worth b) * s + (r.m : Rat) / ((b - 1 : Int) : Rat)).den : Int)) := by
  unfold figOk
  rw [Rw.snoc_lo h.b0, Rw.snoc_hi h.b0]
  refine decide_eq_decide.mpr ?_
  rw [le_ceil, floor_le]
  have n0 := h.nxp
  have s0 : 0 < s := by rw [hs]; exact Rat.zpow_pos h.bp
  have ns : r.nx b * s = 1 := by
    rw [hs]
    unfold Rw.nx
    have hb := h.bp
    rw [← Rat.zpow_add (by grind), show r.e - (r.fs.length : Int) - 1 + ((r.fs.length : Int) - r.e + 1) = 0 by omega, Rat.zpow_zero]
  generalize r.nx b = n at *
  generalize r.worth b = w
  generalize (r.m : Rat) / ((b - 1 : Int) : Rat) = c
  generalize (d : Rat) = x
  have k1 : ∀ {y z : Rat}, y ≤ z ↔ y * s ≤ z * s := fun {y z} => ⟨fun h => Rat.mul_le_mul_of_nonneg_right h (Rat.le_of_lt s0), fun h => by
    have := Rat.mul_le_mul_of_nonneg_right h (Rat.le_of_lt n0)
    have e1 : y * s * n = y := by grind
    have e2 : z * s * n = z := by grind
    rwa [e1, e2] at this⟩
  have a1 : (w + x * n - c * n) * s = w * s + x - c := by grind
  have a2 : (w + x * n + c * n) * s = w * s + x + c := by grind
  rw [k1 (y := w + x * n - c * n), k1 (z := w + x * n + c * n), a1, a2]
  constructor
  · rintro ⟨h1, h2⟩; constructor <;> grind
  · rintro ⟨h1, h2⟩; constructor <;> grind
/-- they are not great -/
theorem fig_small {b : Int} {r : Rw} {v : Rat} (b0 : 2 ≤ b) (b1 : b ≤ 10) (h : Own b r) (hv : Mg v) {s : Rat} (hs : s = (b : Rat) ^ ((r.fs.length : Int) - r.e + 1)) :
    ((-(2 ^ 60) : Int) : Rat) ≤ (v - r.worth b) * s - 15 ∧ (v - r.worth b) * s + 15 ≤ ((2 ^ 60 : Int) : Rat) := by
  have ok := h.ok b0 b1
  have s0 : 0 < s := by rw [hs]; exact Rat.zpow_pos ok.bp
  have s9 : s ≤ ((1000000000 : Int) : Rat) := by rw [hs]; exact zpow_le9 b0 b1 (by have := h.k; omega)
  have ws : r.worth b * s = ((whole b r.fs * b : Int) : Rat) := by
    unfold Rw.worth Rw.pw
    rw [hs, Rat.mul_assoc, ← Rat.zpow_add (by have := ok.bp; grind), show r.e - (r.fs.length : Int) + ((r.fs.length : Int) - r.e + 1) = 1 by omega, Rat.zpow_one, Rat.intCast_mul]
  have wb : (whole b r.fs).natAbs ≤ 1000 * 16 ^ 11 := by
    have h1 := fold_bound ok.b0 ok.b1 r.fs 0 ok.f
    have h2 : (16 : Nat) ^ r.fs.length ≤ 16 ^ 11 := Nat.pow_le_pow_right (by decide) h.l
    unfold Lb.whole
    simp only [Int.natAbs_zero, Nat.zero_add] at h1
    have h4 := Nat.mul_le_mul_left 1000 h2
    omega
  have wb2 : (whole b r.fs * b).natAbs ≤ 1000 * 16 ^ 11 * 10 := by
    rw [Int.natAbs_mul]
    exact Nat.mul_le_mul wb (by omega)
  obtain ⟨w, hw⟩ : ∃ w, w = whole b r.fs * b := ⟨_, rfl⟩
  rw [← hw] at ws wb2
  have p1 := Rat.mul_le_mul_of_nonneg_right hv.1 (Rat.le_of_lt s0)
  have p2 := Rat.mul_le_mul_of_nonneg_right hv.2 (Rat.le_of_lt s0)
  have p3 : ((268435456 : Int) : Rat) * s ≤ ((268435456 : Int) : Rat) * ((1000000000 : Int) : Rat) := Rat.mul_le_mul_of_nonneg_left s9 (by decide)
  have e1 : ((268435456 : Int) : Rat) * ((1000000000 : Int) : Rat) = ((268435456000000000 : Int) : Rat) := by rw [← Rat.intCast_mul]; exact congrArg _ (by decide)
  have e2 : ((-268435456 : Int) : Rat) * s = -(((268435456 : Int) : Rat) * s) := by
    have : ((-268435456 : Int) : Rat) = -((268435456 : Int) : Rat) := rfl
    rw [this]; grind
  have d1 : ((-(2 ^ 60) : Int) : Rat) ≤ ((-268435456000000000 - w - 15 : Int) : Rat) := Rat.intCast_le_intCast.mpr (by omega)
  have d2 : ((268435456000000000 - w + 15 : Int) : Rat) ≤ ((2 ^ 60 : Int) : Rat) := Rat.intCast_le_intCast.mpr (by omega)
  rw [Rat.intCast_sub, Rat.intCast_sub] at d1
  rw [Rat.intCast_add, Rat.intCast_sub] at d2
  have e3 : ((-268435456000000000 : Int) : Rat) = -((268435456000000000 : Int) : Rat) := rfl
  have e4 : ((15 : Int) : Rat) = 15 := rfl
  have e5 : (v - r.worth b) * s = v * s - (w : Rat) := by rw [← ws]; grind
  rw [e5]
  constructor <;> grind
/-! ### promises -/
def sp_raised : DSp := fun ds S P => ∃ q : Rat, ds = [encR q] ∧ Sz 8000 q ∧ P (.int (-((-q.num).fdiv (q.den : Int)))) S
def sp_figures_between : DSp := fun ds S P => ∃ (b : Int) (r : Rw) (q : Rat × Rat), ds = [.int b, r.d, encR q.1, encR q.2] ∧ 2 ≤ b ∧ b ≤ 10 ∧ Own b r ∧ Sz 2900 q.1 ∧ Sz 2900 q.2 ∧ Mg q.1 ∧ Mg q.2 ∧ ∀ l, S l = none → P (.obj l) (supd S l (.lst ((figsR b r q).map .int)))
def sp_right_figures : DSp := fun ds S P => ∃ (b : Int) (kn : Kn) (rs : List Rw) (y : D) (r : Rw), ds = [.int b, kn.d, y, r.d] ∧ RowsD S y rs ∧ kn.Ok ∧ rs.length = kn.many ∧ 2 ≤ b ∧ b ≤ 10 ∧ (∀ r, r ∈ rs → r.Ok b) ∧ Own b r ∧
  Sz 2900 (reachQ b kn (rs.map (spanQ b))).1 ∧ Sz 2900 (reachQ b kn (rs.map (spanQ b))).2 ∧ Mg (reachQ b kn (rs.map (spanQ b))).1 ∧ Mg (reachQ b kn (rs.map (spanQ b))).2 ∧
  ∀ l, S l = none → P (.obj l) (supd S l (.lst ((figsR b r (reachQ b kn (rs.map (spanQ b)))).map .int)))
def rd_raised : DS :=
  (dRet (dUn dNeg (dOp dFdiv (dUn dNeg (dOp dIx (dVar 0) (dC (.int 0)))) (dOp dIx (dVar 0) (dC (.int 1))))))
def goal_raised : Prop := ∀ (x0 : D) (S : Store) (P : D → Store → Prop), sp_raised [x0] S P → rd_raised (dEnd P) [some x0] S
def rd_figures_between : DS :=
  (dSeq (dAsg (.tp [(.nm 4), (.nm 5), (.nm 6)]) (dVar 1))
  (dSeq (dSet 7 (dCB sp_power (dCons (dVar 0) (dCons (dOp dAdd (dCB sp_known_to (dCons (dVar 1) dNil)) (dC (.int 1))) dNil))))
  (dSeq (dPar 8 9 (dCons (dCB sp_frac (dCons (dVar 5) (dCons (dOp dSub (dVar 0) (dC (.int 1))) dNil))) (dCons (dCB sp_worth_of (dCons (dVar 0) (dCons (dVar 1) dNil))) dNil)))
  (dSeq (dSet 10 (dCB sp_raised (dCons (dCB sp_minus (dCons (dCB sp_times (dCons (dCB sp_minus (dCons (dVar 3) (dCons (dVar 9) dNil))) (dCons (dVar 7) dNil))) (dCons (dVar 8) dNil))) dNil)))
  (dSeq (dSet 11 (dCB sp_plus (dCons (dCB sp_times (dCons (dCB sp_minus (dCons (dVar 2) (dCons (dVar 9) dNil))) (dCons (dVar 7) dNil))) (dCons (dVar 8) dNil))))
  (dRet (dLstR2M (dCB cMax2 (dCons (dVar 10) (dCons (dUn dNeg (dVar 5)) dNil))) (dOp dAdd (dCB cMin2 (dCons (dOp dFdiv (dOp dIx (dVar 11) (dC (.int 0))) (dOp dIx (dVar 11) (dC (.int 1)))) (dCons (dVar 5) dNil))) (dC (.int 1))))))))))
def goal_figures_between : Prop := ∀ (x0 x1 x2 x3 : D) (S : Store) (P : D → Store → Prop), sp_figures_between [x0, x1, x2, x3] S P → rd_figures_between (dEnd P) [some x0, some x1, some x2, some x3, none, none, none, none, none, none, none, none] S
def rd_right_figures : DS :=
  (dSeq (dAsg (.tp [(.nm 4), (.nm 5)]) (dCB sp_reach_of (dCons (dVar 0) (dCons (dVar 1) (dCons (dVar 2) dNil)))))
  (dRet (dCB sp_figures_between (dCons (dVar 0) (dCons (dVar 3) (dCons (dVar 4) (dCons (dVar 5) dNil)))))))
def goal_right_figures : Prop := ∀ (x0 x1 x2 x3 : D) (S : Store) (P : D → Store → Prop), sp_right_figures [x0, x1, x2, x3] S P → rd_right_figures (dEnd P) [some x0, some x1, some x2, some x3, none, none] S
theorem len_raised : ∀ ds S P, sp_raised ds S P → ds.length = 1 := by
  rintro ds S P ⟨a, rfl, _⟩; rfl
theorem len_figures_between : ∀ ds S P, sp_figures_between ds S P → ds.length = 4 := by
  rintro ds S P ⟨a, b, c, rfl, _⟩; rfl
theorem len_right_figures : ∀ ds S P, sp_right_figures ds S P → ds.length = 4 := by
  rintro ds S P ⟨a, b, c, d, e, rfl, _⟩; rfl
theorem sz_divB {n : Nat} {q : Rat} (h : Sz n q) (hn : n ≤ 8999) : DivB (q.den : Int) := divB (n := n) (by have := den_pos q; omega) (by rw [Int.natAbs_natCast]; exact h.2) hn
theorem vc_raised : goal_raised := by
  rintro x0 S P ⟨q, e, hq, h⟩
  cases e
  unfold rd_raised
  unfold encR
  walk_at "dg3"
  exact ⟨sz_divB hq (by decide), h⟩
theorem vc_figures_between : goal_figures_between := by
  rintro x0 x1 x2 x3 S P ⟨b, r, q, e, b0, b1, hr, s1, s2, m1, m2, h⟩
  cases e
  unfold rd_figures_between
  have ok := hr.ok b0 b1
  have e0 := hr.e0; have e1 := hr.e1; have m0 := hr.m0; have mm := hr.m1; have ll := hr.l; have lk := hr.k
  obtain ⟨s, hs⟩ : ∃ s, s = (b : Rat) ^ ((r.fs.length : Int) - r.e + 1) := ⟨_, rfl⟩
  have ss : Sz 60 s := by rw [hs]; exact (sz_zpow (k := (r.fs.length : Int) - r.e + 1) (by omega) (by omega)).mono (by omega)
  have cs : Sz 11 ((r.m : Rat) / ((b - 1 : Int) : Rat)) := ok.fr
  have v1 := sz_mul (sz_sub s1 ok.worth) ss
  have v2 := sz_mul (sz_sub s2 ok.worth) ss
  walk_at "dg3"
  refine ⟨r, rfl, ?_⟩
  walk_at "dg3"
  refine ⟨b, _, rfl, by omega, by omega, by omega, ?_⟩
  rw [← hs]
  refine ⟨r.m, b - 1, rfl, by omega, bound_mono (n := 4) (by omega), bound_mono (n := 4) (by omega), ?_⟩
  refine ⟨b, r, rfl, ok, ?_⟩
  refine ⟨_, _, rfl, s2.mono (by decide), ok.worth.mono (by decide), ?_⟩
  refine ⟨_, _, rfl, (sz_sub s2 ok.worth).mono (by decide), ss.mono (by decide), ?_⟩
  refine ⟨_, _, rfl, v2.mono (by decide), cs.mono (by decide), ?_⟩
  refine ⟨_, rfl, (sz_sub v2 cs).mono (by decide), ?_⟩
  refine ⟨_, _, rfl, s1.mono (by decide), ok.worth.mono (by decide), ?_⟩
  refine ⟨_, _, rfl, (sz_sub s1 ok.worth).mono (by decide), ss.mono (by decide), ?_⟩
  refine ⟨_, _, rfl, v1.mono (by decide), cs.mono (by decide), ?_⟩
  have fb := fig_bounds (q := q) ok hs
  have g1 := fig_small b0 b1 hr m1 hs
  have g2 := fig_small b0 b1 hr m2 hs
  have sz1 := sz_add v1 cs
  have c0 : (0 : Rat) ≤ (r.m : Rat) / ((b - 1 : Int) : Rat) ∧ (r.m : Rat) / ((b - 1 : Int) : Rat) ≤ 15 := by
    have l0 := half_le (b := b) (r := r) b0 (by omega)
    have cp := ok.cp
    have c1 : ((1 : Int) : Rat) ≤ ((b - 1 : Int) : Rat) := Rat.intCast_le_intCast.mpr (by omega)
    have m15 : (r.m : Rat) ≤ ((15 : Int) : Rat) := Rat.intCast_le_intCast.mpr mm
    have e : (r.m : Rat) / ((b - 1 : Int) : Rat) * ((b - 1 : Int) : Rat) = (r.m : Rat) := by
      generalize ((b - 1 : Int) : Rat) = y at *
      rw [Rat.div_def, Rat.mul_assoc, Rat.inv_mul_cancel _ (by grind), Rat.mul_one]
    generalize (r.m : Rat) / ((b - 1 : Int) : Rat) = c at *
    have := Rat.mul_le_mul_of_nonneg_left c1 (c := c) (by grind)
    have o1 : ((1 : Int) : Rat) = 1 := rfl
    have o2 : ((15 : Int) : Rat) = 15 := rfl
    exact ⟨by grind, by grind⟩
  generalize (r.m : Rat) / ((b - 1 : Int) : Rat) = c at *
  generalize (q.2 - r.worth b) * s = X at *
  generalize (q.1 - r.worth b) * s = Y at *
  obtain ⟨C, hC⟩ : ∃ C, C = -((-(X - c).num).fdiv ((X - c).den : Int)) := ⟨_, rfl⟩
  obtain ⟨F, hF⟩ : ∃ F, F = (Y + c).num.fdiv ((Y + c).den : Int) := ⟨_, rfl⟩
  have C1 : C ≤ 2 ^ 60 := by rw [hC]; exact le_ceil.mpr (by grind)
  have C0 : -(2 ^ 60) ≤ C := by
    refine Int.not_lt.mp fun h => ?_
    have h2 : C ≤ -(2 ^ 60) - 1 := by omega
    rw [hC, le_ceil, Rat.intCast_sub] at h2
    have : ((1 : Int) : Rat) = 1 := rfl
    grind
  have F0 : -(2 ^ 60) ≤ F := by rw [hF]; exact floor_le.mpr (by grind)
  have F1 : F ≤ 2 ^ 60 := by
    refine Int.not_lt.mp fun h => ?_
    have h2 : 2 ^ 60 + 1 ≤ F := by omega
    rw [hF, floor_le, Rat.intCast_add] at h2
    have : ((1 : Int) : Rat) = 1 := rfl
    grind
  rw [← hC, ← hF] at fb
  unfold dLstR2M
  walk_at "dg3"
  rw [← hC, ← hF]
  refine ⟨sz_divB sz1 (by decide), by unfold RgOk; split <;> split <;> omega, fun l hl => ?_⟩
  have hh := h l hl
  have ef : figsR b r q = ivl (if -r.m > C then -r.m else C) ((if r.m < F then r.m else F) + 1 - if -r.m > C then -r.m else C).toNat := by
    unfold figsR
    refine ivl_filter fb _ _ _ _ ?_ ?_
    · split <;> split <;> omega
    · congr 1
      have : -r.m + ((2 * r.m + 1).toNat : Int) - 1 = r.m := by omega
      rw [this]
      congr 2
      split <;> split <;> omega
  have er : ∀ a n, rng a n = (ivl a n).map D.int := fun a n => by unfold rng ivl; rw [List.map_map]; rfl
  rw [er, ← ef]
  exact hh
theorem vc_right_figures : goal_right_figures := by
  rintro x0 x1 x2 x3 S P ⟨b, kn, rs, y, r, e, hy, hk, hl, b0, b1, hrs, hr, s1, s2, m1, m2, h⟩
  cases e
  unfold rd_right_figures
  walk_at "dg3"
  refine ⟨b, kn, rs, 840, _, rfl, hy, hk, hl, b0, by omega, by decide, by decide, rsOk_of hrs, ?_⟩
  rw [reachQ_d]
  walk_at "dg3"
  exact ⟨b, r, _, rfl, b0, b1, hr, s1, s2, m1, m2, h⟩
end Lb

namespace Lb
open PySem PySem.Spec PyProof.Rows L2 DL
local macro_rules | `(tactic| walk_at "dg3") => `(tactic| try simp only [dDispGet, dictAt, isi_non_dict, isi_bl_dict, isi_int_dict, isi_str_dict, isi_lst_dict, isi_tup_dict, isi_non_bs, isi_bl_bs, isi_int_bs, isi_str_bs, isi_lst_bs, isi_tup_bs, g_ix_enc0, g_ix_enc1, g_ix_sp0, g_ix_sp1, g_put_sp, Int.reduceEq, dSeq, dSet, dPar, dOp, dUn, dVar, dC, dCB, dCons, dNil, dTup, dLst, dLstM, dIfS, dIf, dTest, dNot, dAnd, dOr, dAndV, dOrV, dNotV, dRet, dRetN, dEnd, dNext, dAdd, dSub, dMul, dFdiv, dMod, dPow, dNeg, dLt, dLe, dGt, dGe, dEq, dNe, eqB_ii, eqB_bb, eqB_ss, eqB_nn, eqB_ni, eqB_in, eqB_ns, eqB_sn, eqB_is, eqB_si, eqB_nb, eqB_bn, dIn, g_ix_tup, g_ix_lst, g_ix_ext, g_ln_tup, g_ln_lst, g_ln_ext, g_nn_non, g_nn_int, g_nn_tup, g_in_non, g_in_int, g_in_tup, g_ix_row0, g_ix_row1, g_ix_row2, g_ix_span0, g_ix_span1, g_nn_span, g_nn_encR, g_in_span, cAbs, cMax2, cMin2, cInt, cList, cTuple, dIsB, dNotB, dPar3, ForN, LcN, pinOf, pin2, dEnum2, dAppend, supd_same0, isi_non_int, isi_non_bool, isi_non_str, isi_non_list, isi_non_tuple, isi_non_lt, isi_bl_int, isi_bl_bool, isi_bl_str, isi_bl_list, isi_bl_tuple, isi_bl_lt, isi_int_int, isi_int_bool, isi_int_str, isi_int_list, isi_int_tuple, isi_int_lt, isi_str_int, isi_str_bool, isi_str_str, isi_str_list, isi_str_tuple, isi_str_lt, isi_lst_int, isi_lst_bool, isi_lst_str, isi_lst_list, isi_lst_tuple, isi_lst_lt, isi_tup_int, isi_tup_bool, isi_tup_str, isi_tup_list, isi_tup_tuple, isi_tup_lt, dAug, dIAdd, dIMul, dDrop, dSl, dPart, dNoPart, dRevL, dCallK, dChainR, dAsg, put_nm, put_tp, put_tl, g_put_row, g_put_span, putL_nil, putL_cons, Option.bind, seqOf, lstOf, dFor, dLc, dLcM, dItSeq, dZip, dZipS, dEnum, dRng1, dRng2, dYes, dwipe, Tgt.slots, Tgt.slotsL,
  atI_0, atI_1, atI_2, atI_3, List.getElem?_cons_zero, List.getElem?_cons_succ, List.set_cons_zero, List.set_cons_succ, decide_eq_true_eq, List.length_cons, List.length_nil, List.cons_append, List.nil_append, List.append_nil, ofString_inj, String.reduceEq, decide_true, decide_false, reduceIte, Bool.false_eq_true, Bool.not_true, Bool.not_false, eqFlat, isFlat, List.any_cons, List.any_nil, List.all_cons, List.all_nil, Bool.or_false, Bool.or_true, Bool.false_or, Bool.true_or, Bool.and_true, Bool.true_and, true_and, and_true, Nat.reduceAdd, Nat.reduceLeDiff, Int.reduceLT, Int.reduceLE, Int.reduceNeg])
def Bd (A q : Rat) : Prop := -A ≤ q ∧ q ≤ A
theorem Bd.mono {A B x : Rat} (h : Bd A x) (hB : A ≤ B) : Bd B x := ⟨by have := h.1; grind, by have := h.2; grind⟩
theorem Bd.add {A B x y : Rat} (h1 : Bd A x) (h2 : Bd B y) : Bd (A + B) (x + y) := ⟨by have := h1.1; have := h2.1; grind, by have := h1.2; have := h2.2; grind⟩
theorem Bd.mg {q : Rat} {A : Rat} (h : Bd A q) (hA : A ≤ ((268435456 : Int) : Rat)) : Mg q := by
  have e : ((-268435456 : Int) : Rat) = -((268435456 : Int) : Rat) := rfl
  unfold Mg
  rw [e]
  exact (h.mono hA)
theorem Small.tight {b k : Int} {r : Rw} (h : Small b k r) (b0 : 2 ≤ b) (b1 : b ≤ 10) (hk : k ≤ 40) : Sz 500 (r.lo b) ∧ Sz 500 (r.hi b) := by
  have ok := h.ok b0 (by omega) (by omega)
  obtain ⟨e1, e2⟩ := lo_eq ok
  have hl := h.l; have he0 := h.e0; have he1 := h.e1; have m0 := h.m0; have m1 := h.m1
  have wb : (Lb.whole b r.fs).natAbs ≤ 1000 * 16 ^ 40 := by
    have h1 := fold_bound ok.b0 ok.b1 r.fs 0 ok.f
    have h2 : (16 : Nat) ^ r.fs.length ≤ 16 ^ 40 := Nat.pow_le_pow_right (by decide) (by omega)
    unfold Lb.whole
    simp only [Int.natAbs_zero, Nat.zero_add] at h1
    have h4 := Nat.mul_le_mul_left 1000 h2
    omega
  have wb2 : (Lb.whole b r.fs * (b - 1)).natAbs ≤ 1000 * 16 ^ 40 * 16 := by
    rw [Int.natAbs_mul]
    exact Nat.mul_le_mul wb (by omega)
  have c1 : (Lb.whole b r.fs * (b - 1) - r.m).natAbs < 2 ^ 180 := by omega
  have c2 : (Lb.whole b r.fs * (b - 1) + r.m).natAbs < 2 ^ 180 := by omega
  have d1 : (b - 1 : Int).natAbs < 2 ^ 180 := bound_mono (n := 4) (by omega)
  have pw : Sz 200 (r.pw b) := (sz_zpow (k := r.e - (r.fs.length : Int)) (by omega) (by omega)).mono (by omega)
  rw [e1, e2]
  exact ⟨(sz_mul (sz_frac ok.cne c1 d1) pw).mono (by decide), (sz_mul (sz_frac ok.cne c2 d1) pw).mono (by decide)⟩
end Lb

namespace DL
open PySem PySem.Spec PyProof.Rows L2

/-! ### NAME.get(x, y) of a written dict of the module, by words that are known -/
/-- a written dict; of each word what stands there -/
def KdAt (K : PySem.W.Frag) (w : World) (u : Value) (kvs : List (Str × Int)) (ws : List Str) : Prop := ∃ d es n, u = .ref d ∧ KDict K w d es n ∧
  ∀ z, z ∈ ws → ∃ r, PySem.W.nsIn K d z = some r ∧ (match dictAt kvs z with
    | some i => ∃ v, r = some v ∧ RelV (.int i) v
    | none => r = none)
def tKGet (kvs : List (Str × Int)) (ws : List Str) (ty tx : TE) : TE := fun σ H Q => ty σ H fun y H1 => tx σ H1 fun x H2 => ∃ z, y = .str z ∧ z ∈ ws ∧ (match dictAt kvs z with
  | some i => Q (.int i) H2
  | none => Q x H2)
section
variable {X : Cx} {e f : Expr} {ty tx : TE} {x : Str} {p1 apos cpos : Pos}
theorem pe_kget {kvs : List (Str × Int)} {ws : List Str} (hg : ∃ u, X.mg x = some u ∧ KdAt X.K X.w u kvs ws) (he : PE X e ty) (hf : PE X f tx) (m : M2 X (.Name x p1) "get" apos e f cpos) (hx : Gl X x := by rfl) (hdb : (x == ("__debug__" : Str)) = false := by decide) :
    PE X (.Call (.Attribute (.Name x p1) "get" apos) [e, f] [] cpos) (tKGet kvs ws ty tx) := by
  obtain ⟨u, hu, d, es, n, rfl, D, hws⟩ := hg
  have ho : PE X (.Name x p1) (tC (.ref d)) := pe_glob hx hu rfl hdb
  refine ⟨fun pins s σ H Q I h => ?_⟩
  refine wpAny_Call_method m.base m.few m.line PySem.F.plainAttrs_dict PySem.F.slot_dict_get PySem.F.type_dict_get (thn (ho.run pins s σ H (fun a H1 => a = .ref d ∧ tKGet kvs ws ty tx σ H1 Q) I ⟨rfl, h⟩) fun u s1 ⟨a, H1, I1, rx, ex, q1⟩ => ?_)
  subst ex
  obtain rfl : u = Value.ref d := rx
  have hm1 := PySem.W.mapOf_K (prog := X.prog) (w := X.w) I1.kIn D.at_ D.lit
  refine ⟨hm1.typeIs, fun b q => ?_, ?_⟩
  · cases q
    exact ⟨_, I1.kIn _ _ D.at_, rfl⟩
  rw [m.trees]
  refine Calls.callWith_builtin rfl (Calls.evalArgs_plain (Calls.spliced_cons (thn (he.run pins s1 σ H1 _ I1 q1) fun iv s2 ⟨y, H2, I2, ry, q2⟩ =>
    Calls.spliced_cons (thn (hf.run pins s2 σ H2 _ I2 q2) fun fv s3 ⟨c, H3, I3, rz, z, ey, hz, q3⟩ => Calls.spliced_nil ?_))))
  subst ey
  obtain ⟨t, rfl⟩ := (show ∃ t, iv = Value.str z t from ry)
  obtain ⟨r, hr, hv⟩ := hws z hz
  have hm3 := PySem.W.mapOf_K (prog := X.prog) (w := X.w) I3.kIn D.at_ D.lit
  refine call_meetsIn PySem.F.slot_dict_get hm3.typeIs PySem.F.entry_dict_get (PySem.F.args_dict_get_3 _ _ _) (meets_dict_get_default (strKind X.prog X.w) (k := z) d (PySem.strKind_is X.prog X.w z t) D.low fv) ⟨_, hm3, ?_⟩
  rw [PySem.W.find_K D.at_ hr]
  cases ed : dictAt kvs z with
  | some i =>
    rw [ed] at hv q3
    obtain ⟨v, rfl, rv⟩ := hv
    exact ⟨_, H3, I3.tok _, rv, q3⟩
  | none =>
    rw [ed] at hv q3
    subst hv
    exact ⟨_, H3, I3.tok _, rz, q3⟩
end
def dKGet (kvs : List (Str × Int)) (ws : List Str) (dk dd : DE) : DE := fun ρ S P => dk ρ S fun x S1 => dd ρ S1 fun y S2 => match x with
  | .str z => z ∈ ws ∧ (match dictAt kvs z with
    | some i => P (.int i) S2
    | none => P y S2)
  | _ => False
section
variable {X : Cx} {e f : Expr} {dk dd : DE} {x : Str} {p1 apos cpos : Pos}
theorem je_kget {kvs : List (Str × Int)} {ws : List Str} (hg : ∃ u, X.mg x = some u ∧ KdAt X.K X.w u kvs ws) (hk : JE X e dk) (hd : JE X f dd) (m : M2 X (.Name x p1) "get" apos e f cpos) (hx : Gl X x := by rfl) (hdb : (x == ("__debug__" : Str)) = false := by decide) :
    JE X (.Call (.Attribute (.Name x p1) "get" apos) [e, f] [] cpos) (dKGet kvs ws dk dd) :=
  je_of (pe_kget hg hk hd m hx hdb) fun σ H Q ⟨ρ, I, S, F, P, rs, ok, h, q⟩ => by
    refine ⟨ρ, I, S, F, _, rs, ok, h, fun x S1 v I1 H1 h1 e1 ok1 r1 => ⟨ρ, I1, S1, _, _, rs.mono e1, ok1, h1, fun y S2 w I2 H2 h2 e2 ok2 r2 => ?_⟩⟩
    split at h2
    · rename_i z
      cases (r1.mono e2).str_of
      obtain ⟨hz, h2⟩ := h2
      refine ⟨z, rfl, hz, ?_⟩
      cases ed : dictAt kvs z with
      | some i =>
        rw [ed] at h2
        exact q _ _ _ _ _ h2 (e1.trans e2) ok2 rep_int
      | none =>
        rw [ed] at h2
        exact q _ _ _ _ _ h2 (e1.trans e2) ok2 r2
    · exact h2.elim
end
end DL

namespace Lb
open PySem PySem.Spec PyProof.Rows L2 DL
local macro_rules | `(tactic| walk_at "dg3") => `(tactic| try simp only [dDispGet, dictAt, isi_non_dict, isi_bl_dict, isi_int_dict, isi_str_dict, isi_lst_dict, isi_tup_dict, isi_non_bs, isi_bl_bs, isi_int_bs, isi_str_bs, isi_lst_bs, isi_tup_bs, g_ix_enc0, g_ix_enc1, g_ix_sp0, g_ix_sp1, g_put_sp, Int.reduceEq, dSeq, dSet, dPar, dOp, dUn, dVar, dC, dCB, dCons, dNil, dTup, dLst, dLstM, dIfS, dIf, dTest, dNot, dAnd, dOr, dAndV, dOrV, dNotV, dRet, dRetN, dEnd, dNext, dAdd, dSub, dMul, dFdiv, dMod, dPow, dNeg, dLt, dLe, dGt, dGe, dEq, dNe, eqB_ii, eqB_bb, eqB_ss, eqB_nn, eqB_ni, eqB_in, eqB_ns, eqB_sn, eqB_is, eqB_si, eqB_nb, eqB_bn, dIn, g_ix_tup, g_ix_lst, g_ix_ext, g_ln_tup, g_ln_lst, g_ln_ext, g_nn_non, g_nn_int, g_nn_tup, g_in_non, g_in_int, g_in_tup, g_ix_row0, g_ix_row1, g_ix_row2, g_ix_span0, g_ix_span1, g_nn_span, g_nn_encR, g_in_span, cAbs, cMax2, cMin2, cInt, cList, cTuple, dIsB, dNotB, dPar3, ForN, LcN, pinOf, pin2, dEnum2, dAppend, supd_same0, isi_non_int, isi_non_bool, isi_non_str, isi_non_list, isi_non_tuple, isi_non_lt, isi_bl_int, isi_bl_bool, isi_bl_str, isi_bl_list, isi_bl_tuple, isi_bl_lt, isi_int_int, isi_int_bool, isi_int_str, isi_int_list, isi_int_tuple, isi_int_lt, isi_str_int, isi_str_bool, isi_str_str, isi_str_list, isi_str_tuple, isi_str_lt, isi_lst_int, isi_lst_bool, isi_lst_str, isi_lst_list, isi_lst_tuple, isi_lst_lt, isi_tup_int, isi_tup_bool, isi_tup_str, isi_tup_list, isi_tup_tuple, isi_tup_lt, dAug, dIAdd, dIMul, dDrop, dSl, dPart, dNoPart, dRevL, dCallK, dChainR, dAsg, put_nm, put_tp, put_tl, g_put_row, g_put_span, putL_nil, putL_cons, Option.bind, seqOf, lstOf, dFor, dLc, dLcM, dItSeq, dZip, dZipS, dEnum, dRng1, dRng2, dYes, dwipe, Tgt.slots, Tgt.slotsL,
  atI_0, atI_1, atI_2, atI_3, List.getElem?_cons_zero, List.getElem?_cons_succ, List.set_cons_zero, List.set_cons_succ, decide_eq_true_eq, List.length_cons, List.length_nil, List.cons_append, List.nil_append, List.append_nil, ofString_inj, String.reduceEq, decide_true, decide_false, reduceIte, Bool.false_eq_true, Bool.not_true, Bool.not_false, eqFlat, isFlat, List.any_cons, List.any_nil, List.all_cons, List.all_nil, Bool.or_false, Bool.or_true, Bool.false_or, Bool.true_or, Bool.and_true, Bool.true_and, true_and, and_true, Nat.reduceAdd, Nat.reduceLeDiff, Int.reduceLT, Int.reduceLE, Int.reduceNeg])
/-! ### promises -/
def sp_many_of : DSp := fun ds S P => ∃ kn : Kn, ds = [kn.d] ∧ P (.int kn.many) S
def rd_many_of : DS :=
  (dSeq (dSet 1 (dOp dIx (dVar 0) (dC (.int 0))))
  (dSeq (dIfS (dTest (dOp (dIn false) (dVar 1) (dTup (dCons (dC (.str "sum")) (dCons (dC (.str "loose")) dNil))))) (dRet (dCB cLen (dCons (dOp dIx (dVar 0) (dC (.int 1))) dNil))) dNext)
  (dRet (dKGet [("times", 2), ("least", 2), ("most", 2), ("choose", 3)] ["sum", "loose", "moved", "told", "times", "over", "least", "most", "choose"] (dVar 1) (dDispGet [("moved", 1), ("over", 2)] (dVar 1) (dC (.int 0)))))))
def goal_many_of : Prop := ∀ (x0 : D) (S : Store) (P : D → Store → Prop), sp_many_of [x0] S P → rd_many_of (dEnd P) [some x0, none] S
theorem len_many_of : ∀ ds S P, sp_many_of ds S P → ds.length = 1 := by
  rintro ds S P ⟨a, rfl, _⟩; rfl
theorem vc_many_of : goal_many_of := by
  rintro x0 S P ⟨kn, e, h⟩
  cases e
  unfold rd_many_of
  cases kn <;> simp only [Kn.d, Kn.many] at h ⊢ <;> walk_at "dg3"
  all_goals first
    | exact h
    | (rw [List.length_map]; exact h)
    | (unfold dKGet
       walk_at "dg3"
       simp only [List.mem_cons, List.not_mem_nil, or_false, ofString_inj, String.reduceEq, or_true, true_or, false_or, true_and]
       exact h)
end Lb

namespace Lb
open PySem PySem.Spec PyProof.Rows L2 DL
local macro_rules | `(tactic| walk_at "dg3") => `(tactic| try simp only [dDispGet, dictAt, isi_non_dict, isi_bl_dict, isi_int_dict, isi_str_dict, isi_lst_dict, isi_tup_dict, isi_non_bs, isi_bl_bs, isi_int_bs, isi_str_bs, isi_lst_bs, isi_tup_bs, g_ix_enc0, g_ix_enc1, g_ix_sp0, g_ix_sp1, g_put_sp, Int.reduceEq, dSeq, dSet, dPar, dOp, dUn, dVar, dC, dCB, dCons, dNil, dTup, dLst, dLstM, dIfS, dIf, dTest, dNot, dAnd, dOr, dAndV, dOrV, dNotV, dRet, dRetN, dEnd, dNext, dAdd, dSub, dMul, dFdiv, dMod, dPow, dNeg, dLt, dLe, dGt, dGe, dEq, dNe, eqB_ii, eqB_bb, eqB_ss, eqB_nn, eqB_ni, eqB_in, eqB_ns, eqB_sn, eqB_is, eqB_si, eqB_nb, eqB_bn, dIn, g_ix_tup, g_ix_lst, g_ix_ext, g_ln_tup, g_ln_lst, g_ln_ext, g_nn_non, g_nn_int, g_nn_tup, g_in_non, g_in_int, g_in_tup, g_ix_row0, g_ix_row1, g_ix_row2, g_ix_span0, g_ix_span1, g_nn_span, g_nn_encR, g_in_span, cAbs, cMax2, cMin2, cInt, cList, cTuple, dIsB, dNotB, dPar3, ForN, LcN, pinOf, pin2, dEnum2, dAppend, supd_same0, isi_non_int, isi_non_bool, isi_non_str, isi_non_list, isi_non_tuple, isi_non_lt, isi_bl_int, isi_bl_bool, isi_bl_str, isi_bl_list, isi_bl_tuple, isi_bl_lt, isi_int_int, isi_int_bool, isi_int_str, isi_int_list, isi_int_tuple, isi_int_lt, isi_str_int, isi_str_bool, isi_str_str, isi_str_list, isi_str_tuple, isi_str_lt, isi_lst_int, isi_lst_bool, isi_lst_str, isi_lst_list, isi_lst_tuple, isi_lst_lt, isi_tup_int, isi_tup_bool, isi_tup_str, isi_tup_list, isi_tup_tuple, isi_tup_lt, dAug, dIAdd, dIMul, dDrop, dSl, dPart, dNoPart, dRevL, dCallK, dChainR, dAsg, put_nm, put_tp, put_tl, g_put_row, g_put_span, putL_nil, putL_cons, Option.bind, seqOf, lstOf, dFor, dLc, dLcM, dItSeq, dZip, dZipS, dEnum, dRng1, dRng2, dYes, dwipe, Tgt.slots, Tgt.slotsL,
  atI_0, atI_1, atI_2, atI_3, List.getElem?_cons_zero, List.getElem?_cons_succ, List.set_cons_zero, List.set_cons_succ, decide_eq_true_eq, List.length_cons, List.length_nil, List.cons_append, List.nil_append, List.append_nil, ofString_inj, String.reduceEq, decide_true, decide_false, reduceIte, Bool.false_eq_true, Bool.not_true, Bool.not_false, eqFlat, isFlat, List.any_cons, List.any_nil, List.all_cons, List.all_nil, Bool.or_false, Bool.or_true, Bool.false_or, Bool.true_or, Bool.and_true, Bool.true_and, true_and, and_true, Nat.reduceAdd, Nat.reduceLeDiff, Int.reduceLT, Int.reduceLE, Int.reduceNeg])
end Lb

namespace Lb
open PySem PySem.Spec PyProof.Rows L2 DL
local macro_rules | `(tactic| walk_at "dg3") => `(tactic| try simp only [dDispGet, dictAt, isi_non_dict, isi_bl_dict, isi_int_dict, isi_str_dict, isi_lst_dict, isi_tup_dict, isi_non_bs, isi_bl_bs, isi_int_bs, isi_str_bs, isi_lst_bs, isi_tup_bs, g_ix_enc0, g_ix_enc1, g_ix_sp0, g_ix_sp1, g_put_sp, Int.reduceEq, dSeq, dSet, dPar, dOp, dUn, dVar, dC, dCB, dCons, dNil, dTup, dLst, dLstM, dIfS, dIf, dTest, dNot, dAnd, dOr, dAndV, dOrV, dNotV, dRet, dRetN, dEnd, dNext, dAdd, dSub, dMul, dFdiv, dMod, dPow, dNeg, dLt, dLe, dGt, dGe, dEq, dNe, eqB_ii, eqB_bb, eqB_ss, eqB_nn, eqB_ni, eqB_in, eqB_ns, eqB_sn, eqB_is, eqB_si, eqB_nb, eqB_bn, dIn, g_ix_tup, g_ix_lst, g_ix_ext, g_ln_tup, g_ln_lst, g_ln_ext, g_nn_non, g_nn_int, g_nn_tup, g_in_non, g_in_int, g_in_tup, g_ix_row0, g_ix_row1, g_ix_row2, g_ix_span0, g_ix_span1, g_nn_span, g_nn_encR, g_in_span, cAbs, cMax2, cMin2, cInt, cList, cTuple, dIsB, dNotB, dPar3, ForN, LcN, pinOf, pin2, dEnum2, dAppend, supd_same0, isi_non_int, isi_non_bool, isi_non_str, isi_non_list, isi_non_tuple, isi_non_lt, isi_bl_int, isi_bl_bool, isi_bl_str, isi_bl_list, isi_bl_tuple, isi_bl_lt, isi_int_int, isi_int_bool, isi_int_str, isi_int_list, isi_int_tuple, isi_int_lt, isi_str_int, isi_str_bool, isi_str_str, isi_str_list, isi_str_tuple, isi_str_lt, isi_lst_int, isi_lst_bool, isi_lst_str, isi_lst_list, isi_lst_tuple, isi_lst_lt, isi_tup_int, isi_tup_bool, isi_tup_str, isi_tup_list, isi_tup_tuple, isi_tup_lt, dAug, dIAdd, dIMul, dDrop, dSl, dPart, dNoPart, dRevL, dCallK, dChainR, dAsg, put_nm, put_tp, put_tl, g_put_row, g_put_span, putL_nil, putL_cons, Option.bind, seqOf, lstOf, dFor, dLc, dLcM, dItSeq, dZip, dZipS, dEnum, dRng1, dRng2, dYes, dwipe, Tgt.slots, Tgt.slotsL,
  atI_0, atI_1, atI_2, atI_3, List.getElem?_cons_zero, List.getElem?_cons_succ, List.set_cons_zero, List.set_cons_succ, decide_eq_true_eq, List.length_cons, List.length_nil, List.cons_append, List.nil_append, List.append_nil, ofString_inj, String.reduceEq, decide_true, decide_false, reduceIte, Bool.false_eq_true, Bool.not_true, Bool.not_false, eqFlat, isFlat, List.any_cons, List.any_nil, List.all_cons, List.all_nil, Bool.or_false, Bool.or_true, Bool.false_or, Bool.true_or, Bool.and_true, Bool.true_and, true_and, and_true, Nat.reduceAdd, Nat.reduceLeDiff, Int.reduceLT, Int.reduceLE, Int.reduceNeg])
end Lb

namespace Lb
open PySem PySem.Spec PyProof.Rows L2 DL
local macro_rules | `(tactic| walk_at "dg3") => `(tactic| try simp only [dDispGet, dictAt, isi_non_dict, isi_bl_dict, isi_int_dict, isi_str_dict, isi_lst_dict, isi_tup_dict, isi_non_bs, isi_bl_bs, isi_int_bs, isi_str_bs, isi_lst_bs, isi_tup_bs, g_ix_enc0, g_ix_enc1, g_ix_sp0, g_ix_sp1, g_put_sp, Int.reduceEq, dSeq, dSet, dPar, dOp, dUn, dVar, dC, dCB, dCons, dNil, dTup, dLst, dLstM, dIfS, dIf, dTest, dNot, dAnd, dOr, dAndV, dOrV, dNotV, dRet, dRetN, dEnd, dNext, dAdd, dSub, dMul, dFdiv, dMod, dPow, dNeg, dLt, dLe, dGt, dGe, dEq, dNe, eqB_ii, eqB_bb, eqB_ss, eqB_nn, eqB_ni, eqB_in, eqB_ns, eqB_sn, eqB_is, eqB_si, eqB_nb, eqB_bn, dIn, g_ix_tup, g_ix_lst, g_ix_ext, g_ln_tup, g_ln_lst, g_ln_ext, g_nn_non, g_nn_int, g_nn_tup, g_in_non, g_in_int, g_in_tup, g_ix_row0, g_ix_row1, g_ix_row2, g_ix_span0, g_ix_span1, g_nn_span, g_nn_encR, g_in_span, cAbs, cMax2, cMin2, cInt, cList, cTuple, dIsB, dNotB, dPar3, ForN, LcN, pinOf, pin2, dEnum2, dAppend, supd_same0, isi_non_int, isi_non_bool, isi_non_str, isi_non_list, isi_non_tuple, isi_non_lt, isi_bl_int, isi_bl_bool, isi_bl_str, isi_bl_list, isi_bl_tuple, isi_bl_lt, isi_int_int, isi_int_bool, isi_int_str, isi_int_list, isi_int_tuple, isi_int_lt, isi_str_int, isi_str_bool, isi_str_str, isi_str_list, isi_str_tuple, isi_str_lt, isi_lst_int, isi_lst_bool, isi_lst_str, isi_lst_list, isi_lst_tuple, isi_lst_lt, isi_tup_int, isi_tup_bool, isi_tup_str, isi_tup_list, isi_tup_tuple, isi_tup_lt, dAug, dIAdd, dIMul, dDrop, dSl, dPart, dNoPart, dRevL, dCallK, dChainR, dAsg, put_nm, put_tp, put_tl, g_put_row, g_put_span, putL_nil, putL_cons, Option.bind, seqOf, lstOf, dFor, dLc, dLcM, dItSeq, dZip, dZipS, dEnum, dRng1, dRng2, dYes, dwipe, Tgt.slots, Tgt.slotsL,
  atI_0, atI_1, atI_2, atI_3, List.getElem?_cons_zero, List.getElem?_cons_succ, List.set_cons_zero, List.set_cons_succ, decide_eq_true_eq, List.length_cons, List.length_nil, List.cons_append, List.nil_append, List.append_nil, ofString_inj, String.reduceEq, decide_true, decide_false, reduceIte, Bool.false_eq_true, Bool.not_true, Bool.not_false, eqFlat, isFlat, List.any_cons, List.any_nil, List.all_cons, List.all_nil, Bool.or_false, Bool.or_true, Bool.false_or, Bool.true_or, Bool.and_true, Bool.true_and, true_and, and_true, Nat.reduceAdd, Nat.reduceLeDiff, Int.reduceLT, Int.reduceLE, Int.reduceNeg])
end Lb

namespace DL
open PySem PySem.Spec PyProof.Rows L2
section
variable {X : Cx} {pos : Pos} {a b : Expr} {da db : DE}
end
end DL

namespace Lb
open PySem PySem.Spec PyProof.Rows L2 DL
local macro_rules | `(tactic| walk_at "dg3") => `(tactic| try simp only [dDispGet, dictAt, isi_non_dict, isi_bl_dict, isi_int_dict, isi_str_dict, isi_lst_dict, isi_tup_dict, isi_non_bs, isi_bl_bs, isi_int_bs, isi_str_bs, isi_lst_bs, isi_tup_bs, g_ix_enc0, g_ix_enc1, g_ix_sp0, g_ix_sp1, g_put_sp, Int.reduceEq, dSeq, dSet, dPar, dOp, dUn, dVar, dC, dCB, dCons, dNil, dTup, dLst, dLstM, dIfS, dIf, dTest, dNot, dAnd, dOr, dAndV, dOrV, dNotV, dRet, dRetN, dEnd, dNext, dAdd, dSub, dMul, dFdiv, dMod, dPow, dNeg, dLt, dLe, dGt, dGe, dEq, dNe, eqB_ii, eqB_bb, eqB_ss, eqB_nn, eqB_ni, eqB_in, eqB_ns, eqB_sn, eqB_is, eqB_si, eqB_nb, eqB_bn, dIn, g_ix_tup, g_ix_lst, g_ix_ext, g_ln_tup, g_ln_lst, g_ln_ext, g_nn_non, g_nn_int, g_nn_tup, g_in_non, g_in_int, g_in_tup, g_ix_row0, g_ix_row1, g_ix_row2, g_ix_span0, g_ix_span1, g_nn_span, g_nn_encR, g_in_span, cAbs, cMax2, cMin2, cInt, cList, cTuple, dIsB, dNotB, dPar3, ForN, LcN, pinOf, pin2, dEnum2, dAppend, supd_same0, isi_non_int, isi_non_bool, isi_non_str, isi_non_list, isi_non_tuple, isi_non_lt, isi_bl_int, isi_bl_bool, isi_bl_str, isi_bl_list, isi_bl_tuple, isi_bl_lt, isi_int_int, isi_int_bool, isi_int_str, isi_int_list, isi_int_tuple, isi_int_lt, isi_str_int, isi_str_bool, isi_str_str, isi_str_list, isi_str_tuple, isi_str_lt, isi_lst_int, isi_lst_bool, isi_lst_str, isi_lst_list, isi_lst_tuple, isi_lst_lt, isi_tup_int, isi_tup_bool, isi_tup_str, isi_tup_list, isi_tup_tuple, isi_tup_lt, dAug, dIAdd, dIMul, dDrop, dSl, dPart, dNoPart, dRevL, dCallK, dChainR, dAsg, put_nm, put_tp, put_tl, g_put_row, g_put_span, putL_nil, putL_cons, Option.bind, seqOf, lstOf, dFor, dLc, dLcM, dItSeq, dZip, dZipS, dEnum, dRng1, dRng2, dYes, dwipe, Tgt.slots, Tgt.slotsL,
  atI_0, atI_1, atI_2, atI_3, List.getElem?_cons_zero, List.getElem?_cons_succ, List.set_cons_zero, List.set_cons_succ, decide_eq_true_eq, List.length_cons, List.length_nil, List.cons_append, List.nil_append, List.append_nil, ofString_inj, String.reduceEq, decide_true, decide_false, reduceIte, Bool.false_eq_true, Bool.not_true, Bool.not_false, eqFlat, isFlat, List.any_cons, List.any_nil, List.all_cons, List.all_nil, Bool.or_false, Bool.or_true, Bool.false_or, Bool.true_or, Bool.and_true, Bool.true_and, true_and, and_true, Nat.reduceAdd, Nat.reduceLeDiff, Int.reduceLT, Int.reduceLE, Int.reduceNeg])
end Lb

/-! What fits: bare rows, least begins. -/
namespace Lb
open PySem PySem.Spec PyProof.Rows L2 DL
local macro_rules | `(tactic| walk_at "dg3") => `(tactic| try simp only [dDispGet, dictAt, isi_non_dict, isi_bl_dict, isi_int_dict, isi_str_dict, isi_lst_dict, isi_tup_dict, isi_non_bs, isi_bl_bs, isi_int_bs, isi_str_bs, isi_lst_bs, isi_tup_bs, g_ix_enc0, g_ix_enc1, g_ix_sp0, g_ix_sp1, g_put_sp, Int.reduceEq, dSeq, dSet, dPar, dOp, dUn, dVar, dC, dCB, dCons, dNil, dTup, dLst, dLstM, dIfS, dIf, dTest, dNot, dAnd, dOr, dAndV, dOrV, dNotV, dRet, dRetN, dEnd, dNext, dAdd, dSub, dMul, dFdiv, dMod, dPow, dNeg, dLt, dLe, dGt, dGe, dEq, dNe, eqB_ii, eqB_bb, eqB_ss, eqB_nn, eqB_ni, eqB_in, eqB_ns, eqB_sn, eqB_is, eqB_si, eqB_nb, eqB_bn, dIn, g_ix_tup, g_ix_lst, g_ix_ext, g_ln_tup, g_ln_lst, g_ln_ext, g_nn_non, g_nn_int, g_nn_tup, g_in_non, g_in_int, g_in_tup, g_ix_row0, g_ix_row1, g_ix_row2, g_ix_span0, g_ix_span1, g_nn_span, g_nn_encR, g_in_span, cAbs, cMax2, cMin2, cInt, cList, cTuple, dIsB, dNotB, dPar3, ForN, LcN, pinOf, pin2, dEnum2, dAppend, supd_same0, isi_non_int, isi_non_bool, isi_non_str, isi_non_list, isi_non_tuple, isi_non_lt, isi_bl_int, isi_bl_bool, isi_bl_str, isi_bl_list, isi_bl_tuple, isi_bl_lt, isi_int_int, isi_int_bool, isi_int_str, isi_int_list, isi_int_tuple, isi_int_lt, isi_str_int, isi_str_bool, isi_str_str, isi_str_list, isi_str_tuple, isi_str_lt, isi_lst_int, isi_lst_bool, isi_lst_str, isi_lst_list, isi_lst_tuple, isi_lst_lt, isi_tup_int, isi_tup_bool, isi_tup_str, isi_tup_list, isi_tup_tuple, isi_tup_lt, dAug, dIAdd, dIMul, dDrop, dSl, dPart, dNoPart, dRevL, dCallK, dChainR, dAsg, put_nm, put_tp, put_tl, g_put_row, g_put_span, putL_nil, putL_cons, Option.bind, seqOf, lstOf, dFor, dLc, dLcM, dItSeq, dZip, dZipS, dEnum, dRng1, dRng2, dYes, dwipe, Tgt.slots, Tgt.slotsL,
  atI_0, atI_1, atI_2, atI_3, List.getElem?_cons_zero, List.getElem?_cons_succ, List.set_cons_zero, List.set_cons_succ, decide_eq_true_eq, List.length_cons, List.length_nil, List.cons_append, List.nil_append, List.append_nil, ofString_inj, String.reduceEq, decide_true, decide_false, reduceIte, Bool.false_eq_true, Bool.not_true, Bool.not_false, eqFlat, isFlat, List.any_cons, List.any_nil, List.all_cons, List.all_nil, Bool.or_false, Bool.or_true, Bool.false_or, Bool.true_or, Bool.and_true, Bool.true_and, true_and, and_true, Nat.reduceAdd, Nat.reduceLeDiff, Int.reduceLT, Int.reduceLE, Int.reduceNeg])
/-! ### sizes without signs -/
def aQ (q : Rat) : Rat := if q < 0 then -q else q
theorem aQ_le {q x : Rat} : aQ q ≤ x ↔ -x ≤ q ∧ q ≤ x := by
  unfold aQ; split <;> constructor <;> grind
theorem aQ_num (q : Rat) : (aQ q).num = (if q.num < 0 then -q.num else q.num) ∧ (aQ q).den = q.den := by
  unfold aQ
  by_cases h : q < 0
  · have h2 : q.num < 0 := by rw [num_lt]; exact h
    rw [if_pos h, if_pos h2]
    exact ⟨Rat.neg_num .., Rat.neg_den ..⟩
  · have h2 : ¬ q.num < 0 := by rw [num_lt]; exact h
    rw [if_neg h, if_neg h2]
    exact ⟨rfl, rfl⟩
theorem sz_aQ {n : Nat} {q : Rat} (h : Sz n q) : Sz n (aQ q) := by
  unfold aQ; split
  · exact sz_neg h
  · exact h
theorem encR_aQ (q : Rat) : encR (aQ q) = .tup [.int (if q.num < 0 then -q.num else q.num), .int (q.den : Int)] := by
  unfold encR
  rw [(aQ_num q).1, (aQ_num q).2]
/-! ### bare rows -/
def bareR (q : Int × Int) : Rw := ⟨q.1, q.2, []⟩
structure Bare (q : Int × Int) : Prop where
  e0 : -40 ≤ q.1
  e1 : q.1 ≤ 40
  m0 : 0 ≤ q.2
  m1 : q.2 ≤ 1000
theorem Bare.ok {b : Int} {q : Int × Int} (h : Bare q) (b0 : 2 ≤ b) (b1 : b ≤ 16) : (bareR q).Ok b :=
  ⟨b0, b1, h.e0, h.e1, h.m0, h.m1, by simp [bareR], by simp [bareR]⟩
/-- as far as a row of a begin and a most comes -/
def rim (b e m : Int) : Rat := (m : Rat) / ((b - 1 : Int) : Rat) * (b : Rat) ^ e
theorem bare_lo (b : Int) (q : Int × Int) : (bareR q).lo b = -rim b q.1 q.2 ∧ (bareR q).hi b = rim b q.1 q.2 := by
  unfold Rw.lo Rw.hi Rw.worth Rw.tail Rw.pw rim bareR whole
  simp only [List.foldl_nil, List.length_nil, Int.natCast_zero, Int.sub_zero]
  constructor <;> grind
def maxZ : List Int → Int
  | [] => 0
  | x :: xs => xs.foldl max x
theorem foldl_maxI : ∀ (xs : List Int) (v : Int), v ≤ xs.foldl max v ∧ (∀ x, x ∈ xs → x ≤ xs.foldl max v) ∧ (xs.foldl max v = v ∨ xs.foldl max v ∈ xs)
  | [], v => ⟨Int.le_refl _, by simp, .inl rfl⟩
  | x :: xs, v => by
    obtain ⟨h1, h2, h3⟩ := foldl_maxI xs (max v x)
    refine ⟨by show v ≤ xs.foldl max (max v x); omega, fun y hy => ?_, ?_⟩
    · rcases List.mem_cons.mp hy with rfl | hy
      · show y ≤ xs.foldl max (max v y); omega
      · exact h2 y hy
    · show xs.foldl max (max v x) = v ∨ xs.foldl max (max v x) ∈ x :: xs
      rcases h3 with h3 | h3
      · by_cases q : v ≤ x
        · right; rw [h3, show max v x = x by omega]; exact List.mem_cons_self ..
        · left; rw [h3]; omega
      · right; exact List.mem_cons_of_mem _ h3
theorem maxZ_is {xs : List Int} (h : xs ≠ []) : maxZ xs ∈ xs ∧ ∀ x, x ∈ xs → x ≤ maxZ xs := by
  match xs, h with
  | x :: xs, _ =>
    obtain ⟨h1, h2, h3⟩ := foldl_maxI xs x
    refine ⟨?_, fun y hy => ?_⟩
    · show xs.foldl max x ∈ x :: xs
      rcases h3 with h3 | h3
      · rw [h3]; exact List.mem_cons_self ..
      · exact List.mem_cons_of_mem _ h3
    · rcases List.mem_cons.mp hy with rfl | hy
      · exact h1
      · exact h2 y hy
theorem maxZ_ok {ms : List Int} {S : Store} {P : D → Store → Prop} (hne : ms ≠ []) (q : P (.int (maxZ ms)) S) : cMaxL [.lst (ms.map .int)] S P := by
  unfold cMaxL
  simp only [lstOf, Option.bind, dInts_map]
  refine ⟨by cases ms with | nil => exact absurd rfl hne | cons => simp, fun m hm hge => ?_⟩
  obtain ⟨a, c⟩ := maxZ_is hne
  have e : m = maxZ ms := by
    have a1 := hge _ a
    have a2 := c _ hm
    omega
  rw [e]; exact q
theorem sum_ok {ms : List Int} {S : Store} {P : D → Store → Prop} (q : P (.int ms.sum) S) : cSum [.lst (ms.map .int)] S P := by
  unfold cSum
  simp only [lstOf, Option.bind, dInts_map]
  exact q
theorem eqB_t2 {a b c d : Int} : dEqB (.tup [.int a, .int b]) (.tup [.int c, .int d]) = some (decide (a = c ∧ b = d)) := by
  have e : dEqB (.tup [.int a, .int b]) (.tup [.int c, .int d]) = some ((a == c) && (b == d)) := by
    simp [dEqB, D.py, D.pyL, SeqAt.shaped, PyData.canLay0, PyData.canLayAll0, PyData.depth, PyData.depthAll, PyData.eqv, PyData.eqvAll]
  rw [e]
  congr 1
  rw [Bool.eq_iff_iff]
  simp
def reachB (b : Int) (kn : Kn) (ss : List (Int × Int)) : Rat × Rat := reachQ b kn ((ss.map bareR).map (spanQ b))
def fitB (b : Int) (kn : Kn) (ss : List (Int × Int)) (e m : Int) : Bool := match kn with
  | .loose _ => decide (e = maxZ (ss.map (·.1)) ∧ m = (ss.map (·.2)).sum)
  | .moved k => match ss with
    | (e0, m0) :: _ => decide (e = e0 + k ∧ m = m0)
    | [] => false
  | kn => decide (aQ (reachB b kn ss).1 ≤ rim b e m) && decide (aQ (reachB b kn ss).2 ≤ rim b e m)
/-! ### promises -/
def sp_is_within : DSp := fun ds S P => ∃ (b e m : Int) (q : Rat), ds = [.int b, encR q, .int e, .int m] ∧ 2 ≤ b ∧ b ≤ 16 ∧ e.natAbs ≤ 900 ∧ 0 ≤ m ∧ m ≤ 2 ^ 20 ∧ Sz 4000 q ∧ P (.bl (decide (aQ q ≤ rim b e m))) S
def sp_size_of : DSp := fun ds S P => ∃ q : Rat, ds = [encR q] ∧ P (encR (aQ q)) S
def sp_fits : DSp := fun ds S P => ∃ (b e m : Int) (kn : Kn) (ss : List (Int × Int)), ds = [.int b, kn.d, .lst (ss.map srcD), .int e, .int m] ∧ 2 ≤ b ∧ b ≤ 16 ∧ kn.Ok ∧ ss.length = kn.many ∧ (∀ ws, kn = .loose ws → ss ≠ []) ∧ (∀ q, q ∈ ss → Bare q) ∧ e.natAbs ≤ 900 ∧ 0 ≤ m ∧ m ≤ 2 ^ 20 ∧ P (.bl (fitB b kn ss e m)) S
/-- the least begin by which a number is within -/
def IsLb (b m : Int) (need : Rat) (d : Int) : Prop := need ≤ rim b d m ∧ rim b (d - 1) m < need
def rd_is_within : DS :=
  (dRet (dNotV (dCB sp_is_below (dCons (dCB sp_times (dCons (dCB sp_frac (dCons (dVar 3) (dCons (dOp dSub (dVar 0) (dC (.int 1))) dNil))) (dCons (dCB sp_power (dCons (dVar 0) (dCons (dVar 2) dNil))) dNil))) (dCons (dTup (dCons (dCB cAbs (dCons (dOp dIx (dVar 1) (dC (.int 0))) dNil)) (dCons (dOp dIx (dVar 1) (dC (.int 1))) dNil))) dNil)))))
def goal_is_within : Prop := ∀ (x0 x1 x2 x3 : D) (S : Store) (P : D → Store → Prop), sp_is_within [x0, x1, x2, x3] S P → rd_is_within (dEnd P) [some x0, some x1, some x2, some x3] S
def rd_size_of : DS :=
  (dRet (dTup (dCons (dCB cAbs (dCons (dOp dIx (dVar 0) (dC (.int 0))) dNil)) (dCons (dOp dIx (dVar 0) (dC (.int 1))) dNil))))
def goal_size_of : Prop := ∀ (x0 : D) (S : Store) (P : D → Store → Prop), sp_size_of [x0] S P → rd_size_of (dEnd P) [some x0] S
def rd_fits_1 : DS :=
  (dSeq (dSet 6 (dCB sp_reach_of (dCons (dVar 0) (dCons (dVar 1) (dCons (dLc (dItSeq (dVar 2)) (.nm 5) dYes (dTup (dCons (dOp dIx (dVar 5) (dC (.int 0))) (dCons (dOp dIx (dVar 5) (dC (.int 1))) (dCons (dTup dNil) dNil))))) dNil)))))
  (dRet (dAndV (dOp dEq (dCB cLen (dCons (dVar 2) dNil)) (dCB sp_many_of (dCons (dVar 1) dNil))) (dCB cAll (dCons (dLc (dItSeq (dVar 6)) (.nm 7) dYes (dCB sp_is_within (dCons (dVar 0) (dCons (dVar 7) (dCons (dVar 3) (dCons (dVar 4) dNil)))))) dNil)))))
def rd_fits : DS :=
  (dSeq (dIfS (dTest (dOp dEq (dOp dIx (dVar 1) (dC (.int 0))) (dC (.str "loose")))) (dRet (dOp dEq (dTup (dCons (dVar 3) (dCons (dVar 4) dNil))) (dTup (dCons (dCB cMaxL (dCons (dLc (dItSeq (dVar 2)) (.nm 5) dYes (dOp dIx (dVar 5) (dC (.int 0)))) dNil)) (dCons (dCB cSum (dCons (dLc (dItSeq (dVar 2)) (.nm 5) dYes (dOp dIx (dVar 5) (dC (.int 1)))) dNil)) dNil))))) dNext)
  (dSeq (dIfS (dTest (dOp dEq (dOp dIx (dVar 1) (dC (.int 0))) (dC (.str "moved")))) (dRet (dOp dEq (dTup (dCons (dVar 3) (dCons (dVar 4) dNil))) (dTup (dCons (dOp dAdd (dOp dIx (dOp dIx (dVar 2) (dC (.int 0))) (dC (.int 0))) (dOp dIx (dVar 1) (dC (.int 1)))) (dCons (dOp dIx (dOp dIx (dVar 2) (dC (.int 0))) (dC (.int 1))) dNil))))) dNext)
  rd_fits_1))
def goal_fits : Prop := ∀ (x0 x1 x2 x3 x4 : D) (S : Store) (P : D → Store → Prop), sp_fits [x0, x1, x2, x3, x4] S P → rd_fits (dEnd P) [some x0, some x1, some x2, some x3, some x4, none, none, none] S
theorem len_is_within : ∀ ds S P, sp_is_within ds S P → ds.length = 4 := by
  rintro ds S P ⟨a, b, c, d, rfl, _⟩; rfl
theorem len_size_of : ∀ ds S P, sp_size_of ds S P → ds.length = 1 := by
  rintro ds S P ⟨a, rfl, _⟩; rfl
theorem len_fits : ∀ ds S P, sp_fits ds S P → ds.length = 5 := by
  rintro ds S P ⟨a, b, c, d, e, rfl, _⟩; rfl
theorem vc_size_of : goal_size_of := by
  rintro x0 S P ⟨q, e, h⟩
  cases e
  unfold rd_size_of
  walk_at "dg3"
  rw [encR_aQ] at h
  exact h
theorem rim_sz {b e m : Int} (b0 : 2 ≤ b) (b1 : b ≤ 16) (he : e.natAbs ≤ 900) (m0 : 0 ≤ m) (m1 : m ≤ 2 ^ 20) : Sz 3700 (rim b e m) := by
  unfold rim
  have h1 : Sz 21 ((m : Rat) / ((b - 1 : Int) : Rat)) := sz_frac (by omega) (by omega) (by omega)
  have h2 : Sz (4 * e.natAbs + 1) ((b : Rat) ^ e) := sz_zpow (by omega) b1
  exact (sz_mul h1 h2).mono (by omega)
theorem vc_is_within : goal_is_within := by
  rintro x0 x1 x2 x3 S P ⟨b, e, m, q, er, b0, b1, he, m0, m1, hq, h⟩
  cases er
  unfold rd_is_within
  walk_at "dg3"
  refine ⟨m, b - 1, rfl, by omega, ?_, ?_, ?_⟩
  · exact Nat.lt_of_le_of_lt (show m.natAbs ≤ 2 ^ 20 by omega) (Nat.pow_lt_pow_right (by decide) (by decide))
  · exact Nat.lt_of_le_of_lt (show (b - 1).natAbs ≤ 2 ^ 4 by omega) (Nat.pow_lt_pow_right (by decide) (by decide))
  refine ⟨b, e, rfl, by omega, b1, he, ?_⟩
  refine ⟨_, _, rfl, (sz_frac (n := 21) (by omega) (by omega) (by omega)).mono (by decide), (sz_zpow (k := e) (by omega) b1).mono (by omega), ?_⟩
  walk_at "dg3"
  rw [← encR_aQ]
  refine ⟨_, _, rfl, (rim_sz b0 b1 he m0 m1).mono (by decide), (sz_aQ hq).mono (by decide), ?_⟩
  walk_at "dg3"
  have e1 : (!decide (rim b e m < aQ q)) = decide (aQ q ≤ rim b e m) := by
    by_cases c : aQ q ≤ rim b e m
    · simp [c, Rat.not_lt.mpr c]
    · simp [c, Rat.not_le.mp c]
  rw [← e1] at h
  exact h
theorem bares_ok {b : Int} {ss : List (Int × Int)} (b0 : 2 ≤ b) (b1 : b ≤ 16) (h : ∀ q, q ∈ ss → Bare q) : ∀ r, r ∈ ss.map bareR → r.Ok b := fun r hr => by
  obtain ⟨q, hq, rfl⟩ := List.mem_map.mp hr
  exact (h q hq).ok b0 b1
theorem reachB_sz {b : Int} {kn : Kn} {ss : List (Int × Int)} (b0 : 2 ≤ b) (b1 : b ≤ 16) (hk : kn.Ok) (hl : ss.length = kn.many) (h : ∀ q, q ∈ ss → Bare q) : Sz 3600 (reachB b kn ss).1 ∧ Sz 3600 (reachB b kn ss).2 :=
  reach_sz b0 b1 hk (by rw [List.length_map, List.length_map]; exact hl) (tights (bares_ok b0 b1 h))
theorem many_le {kn : Kn} (h : kn.Ok) : kn.many ≤ 4 := by
  cases kn with
  | sum ws v => exact h.1
  | loose ws => exact h.1
  | _ => simp [Kn.many]
theorem vc_fits : goal_fits := by
  rintro x0 x1 x2 x3 x4 S P ⟨b, e, m, kn, ss, er, b0, b1, hk, hl, hlo, hs, he, m0, m1, h⟩
  cases er
  have m4 := many_le hk
  have rest : (∀ ws, kn ≠ .loose ws) → (∀ k, kn ≠ .moved k) → fitB b kn ss e m = (decide (aQ (reachB b kn ss).1 ≤ rim b e m) && decide (aQ (reachB b kn ss).2 ≤ rim b e m)) := fun h1 h2 => by
    unfold fitB
    cases kn with
    | loose ws => exact absurd rfl (h1 ws)
    | moved k => exact absurd rfl (h2 k)
    | _ => rfl
  have main : (∀ ws, kn ≠ .loose ws) → (∀ k, kn ≠ .moved k) → rd_fits_1 (dEnd P) [some (.int b), some kn.d, some (.lst (ss.map srcD)), some (.int e), some (.int m), none, none, none] S := fun h1 h2 => by
    unfold rd_fits_1
    walk_at "dg3"
    refine lc_mapA srcD (fun q => (bareR q).d) (by omega) (fun q hq => ⟨_, rfl, fun Q k => ?_⟩) ?_
    · unfold srcD
      walk_at "dg3"
      exact k
    rw [show (ss.map fun q => (bareR q).d) = (ss.map bareR).map Rw.d by rw [List.map_map]; rfl]
    refine ⟨b, kn, ss.map bareR, 840, _, rfl, .inl rfl, hk, by rw [List.length_map]; exact hl, b0, b1, by decide, by decide, rsOk_of (bares_ok b0 b1 hs), ?_⟩
    rw [reachQ_d]
    walk_at "dg3"
    refine ⟨kn, rfl, ?_⟩
    walk_at "dg3"
    rw [List.length_map, hl]
    simp only [decide_true, reduceIte]
    unfold spD
    walk_at "dg3"
    have sz := reachB_sz b0 b1 hk hl hs
    refine lc_mapA (xs := [(reachB b kn ss).1, (reachB b kn ss).2]) encR (fun q => .bl (decide (aQ q ≤ rim b e m))) (by simp) (fun q hq => ⟨_, rfl, fun Q k => ?_⟩) ?_
    · walk_at "dg3"
      refine ⟨b, e, m, q, rfl, b0, b1, he, m0, m1, ?_, k⟩
      simp only [List.mem_cons, List.not_mem_nil, or_false] at hq
      rcases hq with rfl | rfl
      · exact sz.1.mono (by decide)
      · exact sz.2.mono (by decide)
    rw [rest h1 h2] at h
    unfold cAll
    simp only [List.map_cons, List.map_nil, lstOf, Option.bind]
    have hb : dBools [.bl (decide (aQ (reachB b kn ss).1 ≤ rim b e m)), .bl (decide (aQ (reachB b kn ss).2 ≤ rim b e m))] = some [decide (aQ (reachB b kn ss).1 ≤ rim b e m), decide (aQ (reachB b kn ss).2 ≤ rim b e m)] := rfl
    rw [hb]
    simpa using h
  have hb : ∀ ms : List Int, dInts (ms.map .int) = some ms := dInts_map
  unfold rd_fits
  cases kn with
  | loose ws =>
    have hne := hlo ws rfl
    unfold Kn.d
    walk_at "dg3"
    refine lc_mapA srcD (fun q => .int q.1) (by omega) (fun q hq => ⟨_, rfl, fun Q k => by unfold srcD; walk_at "dg3"; exact k⟩) ?_
    rw [show (ss.map fun q => D.int q.1) = (ss.map (·.1)).map .int by rw [List.map_map]; rfl]
    refine maxZ_ok (by simpa using hne) ?_
    walk_at "dg3"
    refine lc_mapA srcD (fun q => .int q.2) (by omega) (fun q hq => ⟨_, rfl, fun Q k => by unfold srcD; walk_at "dg3"; exact k⟩) ?_
    rw [show (ss.map fun q => D.int q.2) = (ss.map (·.2)).map .int by rw [List.map_map]; rfl]
    refine sum_ok ?_
    walk_at "dg3"
    rw [eqB_t2]
    exact h
  | moved k =>
    match ss, hl with
    | [(e0, m0')], _ =>
    unfold Kn.d
    simp only [List.map_cons, List.map_nil, srcD]
    walk_at "dg3"
    rw [eqB_t2]
    exact h
  | sum ws v => have q := main (by simp) (by simp); unfold Kn.d at q ⊢; walk_at "dg3"; exact q
  | told q0 => have q := main (by simp) (by simp); unfold Kn.d at q ⊢; walk_at "dg3"; exact q
  | times => have q := main (by simp) (by simp); unfold Kn.d at q ⊢; walk_at "dg3"; exact q
  | over k => have q := main (by simp) (by simp); unfold Kn.d at q ⊢; walk_at "dg3"; exact q
  | least => have q := main (by simp) (by simp); unfold Kn.d at q ⊢; walk_at "dg3"; exact q
  | most => have q := main (by simp) (by simp); unfold Kn.d at q ⊢; walk_at "dg3"; exact q
  | choose => have q := main (by simp) (by simp); unfold Kn.d at q ⊢; walk_at "dg3"; exact q
end Lb

/-! Ends of sums; what may come of bare rows. -/
namespace Lb
open PySem PySem.Spec PyProof.Rows L2 DL
theorem reachQ_eq {b : Int} {kn : Kn} {ss : List (Rat × Rat)} {lo hi : List Rat} (h1 : Ch ss lo) (h2 : Ch ss hi) (h : ∀ xs, Ch ss xs → kn.app b lo ≤ kn.app b xs ∧ kn.app b xs ≤ kn.app b hi) : reachQ b kn ss = (kn.app b lo, kn.app b hi) := by
  unfold reachQ
  rw [minL_eq (mem_vals.mpr ⟨lo, h1, rfl⟩) fun v hv => by obtain ⟨xs, hx, rfl⟩ := mem_vals.mp hv; exact (h xs hx).1,
    maxL_eq (mem_vals.mpr ⟨hi, h2, rfl⟩) fun v hv => by obtain ⟨xs, hx, rfl⟩ := mem_vals.mp hv; exact (h xs hx).2]
theorem reach_sum {b v : Int} {ws : List Int} {ss : List (Rat × Rat)} (hv : 1 ≤ v) (hl : ws.length = ss.length) (hu : Up ss) :
    reachQ b (.sum ws v) ss = (wsum ws (sumLo ws ss) / ((v : Int) : Rat), wsum ws (sumHi ws ss) / ((v : Int) : Rat)) := by
  have hc := sumLo_ch hl
  have vp : (0 : Rat) < (v : Rat) := ratpos (by omega)
  refine reachQ_eq (kn := .sum ws v) hc.1 hc.2 fun xs hx => ?_
  have h := sumLo_le hl (ch_ins hu hx)
  have dv : ∀ {x y : Rat}, x ≤ y → x / (v : Rat) ≤ y / (v : Rat) := fun {x y} q => by
    rw [Rat.div_def, Rat.div_def]
    exact Rat.mul_le_mul_of_nonneg_right q (Rat.le_of_lt (Rat.inv_pos.mpr vp))
  exact ⟨dv h.1, dv h.2⟩
def wide1 : List Int → List (Rat × Rat) → Rat
  | w :: ws, s :: ss => ((abI w : Int) : Rat) * (s.2 - s.1) + wide1 ws ss
  | _, _ => 0
theorem sum_wide : ∀ (ws : List Int) (ss : List (Rat × Rat)), wsum ws (sumHi ws ss) - wsum ws (sumLo ws ss) = wide1 ws ss
  | [], ss => by unfold wide1 wsum; grind
  | _ :: _, [] => by unfold sumHi sumLo wide1 wsum; simp; grind
  | w :: ws, s :: ss => by
    have ih := sum_wide ws ss
    have e1 : sumHi (w :: ws) (s :: ss) = (if w < 0 then s.1 else s.2) :: sumHi ws ss := rfl
    have e2 : sumLo (w :: ws) (s :: ss) = (if w < 0 then s.2 else s.1) :: sumLo ws ss := rfl
    rw [e1, e2]
    unfold wsum wide1
    by_cases hw : w < 0
    · have ea : ((abI w : Int) : Rat) = -(w : Rat) := by unfold abI; rw [if_pos hw, Rat.intCast_neg]
      rw [if_pos hw, if_pos hw, ea]
      grind
    · have ea : abI w = w := by unfold abI; rw [if_neg hw]
      rw [if_neg hw, if_neg hw, ea]
      grind
theorem rim_up {b e m : Int} (b0 : 2 ≤ b) : rim b (e + 1) m = (b : Rat) * rim b e m := by
  unfold rim
  rw [Rat.zpow_add_one (by have := ratpos (show 0 < b by omega); grind)]
  grind
theorem fitB_of {b : Int} {kn : Kn} {ss : List (Int × Int)} {e m : Int} (h1 : ∀ ws, kn ≠ .loose ws) (h2 : ∀ k, kn ≠ .moved k) : fitB b kn ss e m = (decide (aQ (reachB b kn ss).1 ≤ rim b e m) && decide (aQ (reachB b kn ss).2 ≤ rim b e m)) := by
  unfold fitB
  cases kn with
  | loose ws => exact absurd rfl (h1 ws)
  | moved k => exact absurd rfl (h2 k)
  | _ => rfl
theorem IsLb.up {b m d : Int} {need : Rat} (b0 : 2 ≤ b) (h : IsLb b m need d) : IsLb b m ((b : Rat) * need) (d + 1) := by
  have bp := ratpos (show 0 < b by omega)
  refine ⟨?_, ?_⟩
  · rw [rim_up b0]
    exact Rat.mul_le_mul_of_nonneg_left h.1 (Rat.le_of_lt bp)
  · have := Rat.mul_lt_mul_of_pos_left h.2 bp
    rw [← rim_up b0] at this
    rwa [show d + 1 - 1 = d - 1 + 1 by omega]
end Lb

/-! Own classes: instances as things that change. -/
namespace DG
open PySem PySem.Spec PyProof.Rows L2
theorem RoomG.make {k : Nat} {A : Around} (h : RoomG (k + 1) A) (C : Addr) (us : List Value) (kw : List (Str × Value)) : RoomG k (A.under (.builtin "type.__call__" ⟨.ref C :: us, kw⟩)) :=
  ⟨h.r.make C us kw, by
    show pushGuards (Code.guards (.builtin "type.__call__" ⟨.ref C :: us, kw⟩)) A.guards = some []
    rw [h.g]; rfl⟩
section
variable {X : Cx} {CX : CXT} {k n : Nat} {f C : Addr} {fd : FuncData} {ps ks : List Str} {sp : Sp} {dvs : List V} {ds : List Value} {E : XK} {x m : Str} {p pos apos : Pos} {e o : Expr} {es : List Expr} {ta : TE} {t tk : TA} {kws : List Keyword} {g : List Value → List Value → List Value} {gV : List V → List V → List V}
/-- o.m(e, ..) -/
theorem pe_meth {pl : Sem Bool} (he : PE X o ta) (c : Cls X.K C) (hm : Meth X.K C m f) (F : FnG X.prog X.w X.K X.mg X.base CX k f fd ps sp) (hr : RoomG k X.A) (hb : Binds X.K fd ps ds) (hd : Vals dvs ds) (hx : Passes CX X E) (ha : PA X (e :: es) t)
    (hst : starEach (e :: es) X.env = (false, eval e X.env) :: starEach es X.env := by rfl) (hpl : (backTo pos (starEach es X.env)).any (·.1) = false := by rfl)
    (ht : eval (.Call (.Attribute o m apos) (e :: es) [] pos) X.env = (do
      let ov ← eval o X.env
      standAt apos.atName
      let (f, first) ← holding [ov] (getMethod ov m pl)
      callWith pos f first (backTo pos (starEach (e :: es) X.env)) (backToKw pos (keywordEach [] X.env))) := by rfl) :
    PE X (.Call (.Attribute o m apos) (e :: es) [] pos) (tMeth C m sp dvs E ta t) := by
  refine ⟨fun pins s σ H Q I h => ?_⟩
  refine PySem.W.methodCall_KW (pl := pl) (thn (he.run pins s σ H _ I h) fun u s1 ⟨x, H1, I1, rx, a, dx, fs, ex, ea, l, q⟩ => ?_) ht
  subst ex
  obtain rfl : u = Value.ref a := rx
  refine getmeth_ok I1 ea c hm l ?_
  refine PySem.W.callWith_K (first := [.ref a]) (h₀ := X.base) I.ok.mod.kin hm.kp (thn (ha.run pos pins s1 σ H1 _ I1 q) fun us s2 ⟨vs, H2, I2, r, q2⟩ => ⟨I2.kIn, ?_⟩) hst hpl
  exact run_fn (us := .ref a :: us) (vs := .ref a :: vs) F hr hb hd hx I2 (.cons rfl r) q2
/-- o.m() -/
theorem pe_meth0 {pl : Sem Bool} (he : PE X o ta) (c : Cls X.K C) (hm : Meth X.K C m f) (F : FnG X.prog X.w X.K X.mg X.base CX k f fd ps sp) (hr : RoomG k X.A) (hb : Binds X.K fd ps ds) (hd : Vals dvs ds) (hx : Passes CX X E)
    (ht : eval (.Call (.Attribute o m apos) [] [] pos) X.env = (do
      let ov ← eval o X.env
      standAt apos.atName
      let (f, first) ← holding [ov] (getMethod ov m pl)
      callWith pos f first (backTo pos (starEach [] X.env)) (backToKw pos (keywordEach [] X.env))) := by rfl) :
    PE X (.Call (.Attribute o m apos) [] [] pos) (tMeth C m sp dvs E ta tNil) := by
  refine ⟨fun pins s σ H Q I h => ?_⟩
  refine PySem.W.methodCall_KW (pl := pl) (thn (he.run pins s σ H _ I h) fun u s1 ⟨x, H1, I1, rx, a, dx, fs, ex, ea, l, q⟩ => ?_) ht
  subst ex
  obtain rfl : u = Value.ref a := rx
  refine getmeth_ok I1 ea c hm l ?_
  exact PySem.W.callWith_K0 (first := [.ref a]) I1.kIn hm.kp (run_fn (us := [.ref a]) (vs := [.ref a]) F hr hb hd hx I1 (.cons rfl .nil) q)
theorem run_makeK {pins : List (Addr × Obj)} {σ : L2.St} {H : Hp} {s : Shared} {Q : VK} {us ws : List Value} {vs zs : List V} (M : Mk X.K C f) (F : FnG X.prog X.w X.K X.mg X.base CX k f fd ps sp) (hr : RoomG (k + 1) X.A) (hb : KBn X.K fd ps (n + 1) ks g gV) (hx : Passes CX X E)
    (I : Inv X pins σ H s) (r : Vals vs us) (rz : Vals zs ws) (l1 : vs.length = n) (l2 : zs.length = ks.length)
    (h : ∀ x dx, H x = none → H dx = none → dx ≠ x → sp (gV (.ref x :: vs) zs) (upd (upd H dx (.own x)) x (.ins C dx [])) (fun v H2 => v = .non ∧ Q (.ref x) H2) E) :
    wpAny (model X.prog X.w) X.A (call (.ref C) us (ks.zip ws)) (EP X pins σ Q) X.xe s := by
  have hq := h (s.heap.objs.size + 1) s.heap.objs.size (I.hok.fresh (Nat.le_succ _)) (I.hok.fresh (Nat.le_refl _)) (Nat.ne_of_lt (Nat.lt_succ_self _))
  have I2 := Inv.made (C := C) I
  have r1 : Vals (V.ref (s.heap.objs.size + 1) :: vs) (Value.ref (s.heap.objs.size + 1) :: us) := .cons rfl r
  have r2 := hb.rel r1 rz
  have n1 : (Value.ref (s.heap.objs.size + 1) :: us).length = n + 1 := by
    rw [List.length_cons, ← r.length, l1]
  refine wpAny_call (make_map (f := f) I.kIn M.makes M.init (beq_iff_eq.mp M.fn) (codeAny_mono (F.run _ X.stack _ _ ⟨Value.ref (s.heap.objs.size + 1) :: us, ks.zip ws⟩ (g (Value.ref (s.heap.objs.size + 1) :: us) ws) _ _ E (hr.make C us (ks.zip ws))
    (I2.env0.make C us (ks.zip ws)) (hb.to _ (Value.ref (s.heap.objs.size + 1) :: us) ws I2.kIn n1 (rz.length.symm.trans l2)) r2 hq) fun r s' hq' => ?_))
  cases r with
  | error e => exact hx pins σ _ _ e s' I2 hq'
  | ok fl =>
    cases fl with
    | ret u =>
      obtain ⟨v, H', I3, rv, ev, q3⟩ := I2.after hq'
      subst ev
      exact ⟨rv, ⟨V.ref (s.heap.objs.size + 1), H', I3, rfl, q3⟩⟩
    | next => exact False.elim hq'
    | brk => exact False.elim hq'
    | cont => exact False.elim hq'
/-- C(e, .., k = v, ..) -/
theorem pe_makeK (M : Mk X.K C f) (F : FnG X.prog X.w X.K X.mg X.base CX k f fd ps sp) (hr : RoomG (k + 1) X.A) (hg : Gl X x) (hm : X.mg x = some (.ref C)) (hb : KBn X.K fd ps (n + 1) ks g gV) (hx : Passes CX X E) (ha : PA X (e :: es) t) (hkw : PK X kws tk)
    (hall : (backToKw pos (keywordEach kws X.env)).all (·.1.isSome) = true := by rfl) (hks : (backToKw pos (keywordEach kws X.env)).filterMap (·.1) = ks := by rfl) (hdb : (x == ("__debug__" : Str)) = false := by decide)
    (he : starEach (e :: es) X.env = (false, eval e X.env) :: starEach es X.env := by rfl) (hpl : ((backTo pos (starEach (e :: es) X.env)).any (·.1) || (backToKw pos (keywordEach kws X.env)).any (·.1.isNone)) = false := by rfl) :
    PE X (.Call (.Name x p) (e :: es) kws pos) (tMakeK C n ks.length sp gV E t tk) := by
  refine ⟨fun pins s σ H Q I h => ?_⟩
  refine wpAny_Call_Name_kw (ld_glob I hg hm ?_ hdb)
  refine PySem.W.callWith_KW (h₀ := X.base) I.ok.mod.kin M.kp hall (thn (ha.run pos pins s σ H _ I h) fun us s1 ⟨vs, H1, I1, r, q⟩ => ?_) hpl he
  refine thn (hkw.run pos pins s1 σ H1 _ I1 q) fun ws s2 ⟨zs, H2, I2, rz, l1, l2, q2⟩ => ⟨I2.kIn, ?_⟩
  rw [hks]
  exact run_makeK M F hr hb hx I2 r rz l1 l2 q2
end
end DG
namespace DL
open PySem PySem.Spec PyProof.Rows L2
/-- where the own classes stand -/
class CT where
  at_ : Nat → Addr
def putD (f : Str) (x : D) : List (Str × D) → List (Str × D)
  | [] => [(f, x)]
  | (g, y) :: r => if g = f then (g, x) :: r else (g, y) :: putD f x r
section
variable {K : PySem.W.Frag} {I F H : Hp} {S : Store}
theorem RepF.look {f : Str} {d : D} : ∀ {fs : List (Str × D)} {vs : List (Str × V)}, RepF K I fs vs → fs.lookup f = some d → ∃ v, vs.lookup f = some v ∧ Rep K I d v
  | [], _, _, e => by simp at e
  | (g, x) :: r, vs, h, e => by
    simp only [RepF] at h
    obtain ⟨v, w, rfl, h1, h2⟩ := h
    rw [List.lookup_cons] at e ⊢
    cases q : (f == g) with
    | true =>
      rw [q] at e
      cases e
      exact ⟨v, rfl, h1⟩
    | false =>
      rw [q] at e
      exact RepF.look h2 e
theorem RepF.no {f : Str} : ∀ {fs : List (Str × D)} {vs : List (Str × V)}, RepF K I fs vs → fs.lookup f = none → vs.lookup f = none
  | [], _, h, _ => by
    simp only [RepF] at h
    subst h; rfl
  | (g, x) :: r, vs, h, e => by
    simp only [RepF] at h
    obtain ⟨v, w, rfl, h1, h2⟩ := h
    rw [List.lookup_cons] at e ⊢
    cases q : (f == g) with
    | true => rw [q] at e; cases e
    | false =>
      rw [q] at e
      exact RepF.no h2 e
theorem RepF.len : ∀ {fs : List (Str × D)} {vs : List (Str × V)}, RepF K I fs vs → vs.length = fs.length
  | [], _, h => by
    simp only [RepF] at h
    subst h; rfl
  | (g, x) :: r, vs, h => by
    simp only [RepF] at h
    obtain ⟨v, w, rfl, h1, h2⟩ := h
    simp [RepF.len h2]
theorem RepF.put {f : Str} {d : D} {v : V} (h' : Rep K I d v) : ∀ {fs : List (Str × D)} {vs : List (Str × V)}, RepF K I fs vs → RepF K I (putD f d fs) (putF f v vs)
  | [], _, h => by
    simp only [RepF] at h
    subst h
    simp only [putD, putF, RepF]
    exact ⟨v, [], rfl, h', rfl⟩
  | (g, x) :: r, vs, h => by
    simp only [RepF] at h
    obtain ⟨w, u, rfl, h1, h2⟩ := h
    show RepF K I (if g = f then (g, d) :: r else (g, x) :: putD f d r) (if g = f then (g, v) :: u else (g, w) :: putF f v u)
    by_cases q : g = f
    · rw [if_pos q, if_pos q]
      simp only [RepF]
      exact ⟨v, u, rfl, h', h2⟩
    · rw [if_neg q, if_neg q]
      simp only [RepF]
      exact ⟨w, _, rfl, h1, RepF.put h' h2⟩
theorem Ok.insAt (ok : Ok K I S F H) {p C : Addr} {fs : List (Str × D)} (e : S p = some (.ins C fs)) : ∃ dx vs, H p = some (.ins C dx vs) ∧ H dx = some (.own p) ∧ RepF K I fs vs := (ok.s p _ e).2
theorem Ok.putIns (ok : Ok K I S F H) {p C dx : Addr} {fs : List (Str × D)} {vs : List (Str × V)} {f : Str} {d : D} {v : V} (e : S p = some (.ins C fs)) (h1 : H p = some (.ins C dx vs)) (h2 : H dx = some (.own p)) (r : RepF K I fs vs) (r' : Rep K I d v) :
    Ok K I (supd S p (.ins C (putD f d fs))) F (upd H p (.ins C dx (putF f v vs))) := by
  have ne : dx ≠ p := fun z => by subst z; rw [h1] at h2; cases h2
  refine ok.write e (fun y z => by rw [h1] at z; cases z) ⟨dx, _, upd_same, by rw [upd_ne ne]; exact h2, r.put r'⟩
/-- a new instance -/
theorem Ok.newIns (h : Ok K I S F H) {p dx C : Addr} (n : H p = none) (n2 : H dx = none) (ne : dx ≠ p) : Ok K I (supd S p (.ins C [])) F (upd (upd H dx (.own p)) p (.ins C dx [])) := by
  have up : ∀ {a o}, H a = some o → (upd (upd H dx (.own p)) p (.ins C dx [])) a = some o := fun {a o} e => by
    rw [upd_ne (ne_of_none e n), upd_ne (ne_of_none e n2)]; exact e
  refine ⟨fun a x e => up (h.i a x e), fun a m e => ?_, fun a x e => ?_⟩
  · unfold supd at e
    by_cases q : a = p
    · subst q
      rw [if_pos rfl] at e; cases e
      exact ⟨h.freshI n, dx, [], upd_same, by rw [upd_ne ne, upd_same], by simp only [RepF]⟩
    · rw [if_neg q] at e
      obtain ⟨h1, h2⟩ := h.s a m e
      obtain ⟨o, h3, _⟩ := h2.there
      exact ⟨h1, h2.mono (Same.refl I) ((up h3).trans h3.symm) fun dy q2 => up q2⟩
  · obtain ⟨h1, h2, h3, h4⟩ := h.f a x e
    have ne2 : a ≠ p := ne_of_none h1 n
    exact ⟨up h1, h2, by unfold supd; rw [if_neg ne2]; exact h3, h4⟩
end
/-! ### o.f, o.f = e, o.f += e -/
def dFld [CT] (c : Nat) (f : Str) (a : DE) : DE := fun ρ S P => a ρ S fun x S1 => ∃ p fs d, x = .obj p ∧ S1 p = some (.ins (CT.at_ c) fs) ∧ fs.lookup f = some d ∧ P d S1
def dSetFld [CT] (c : Nat) (f : Str) (a v : DE) : DS := fun DD ρ S => v ρ S fun y S1 => a ρ S1 fun x S2 => ∃ p fs, x = .obj p ∧ S2 p = some (.ins (CT.at_ c) fs) ∧ fs.length < 900 ∧ DD.nx ρ (supd S2 p (.ins (CT.at_ c) (putD f y fs)))
/-- self.f += e of ints -/
def dFldAdd [CT] (c : Nat) (f : Str) (a v : DE) : DS := fun DD ρ S => a ρ S fun x S1 => ∃ p fs i, x = .obj p ∧ S1 p = some (.ins (CT.at_ c) fs) ∧ fs.lookup f = some (.int i) ∧ v ρ S1 fun y S2 => ∃ j fs', y = .int j ∧ S2 p = some (.ins (CT.at_ c) fs') ∧ fs'.length < 900 ∧
  DD.nx ρ (supd S2 p (.ins (CT.at_ c) (putD f (.int (i + j)) fs')))
section
variable [CT] {X : Cx} {o value : Expr} {c : Nat} {f : Str} {pos pos' tpos : Pos} {da dv : DE}
theorem up_fld (cl : Cls X.K (CT.at_ c)) (n : NoAttr X.K (CT.at_ c) f) : ∀ σ H Q, upE X.K (dFld c f da) σ H Q → tFld X.K (upE X.K da) f σ H Q := fun σ H Q ⟨ρ, I, S, F, P, rs, ok, h, q⟩ =>
  ⟨ρ, I, S, F, _, rs, ok, h, fun x S1 v I1 H1 ⟨p, fs, d, ex, es, el, h1⟩ e1 ok1 r1 => by
    subst ex
    obtain ⟨dx, vs, hp, _, rf⟩ := ok1.insAt es
    obtain ⟨u, hu, ru⟩ := rf.look el
    exact ⟨p, _, dx, vs, u, r1.obj_of, hp, cl, n, hu, q _ _ _ _ _ h1 e1 ok1 ru⟩⟩
theorem je_fld (cl : Cls X.K (CT.at_ c)) (n : NoAttr X.K (CT.at_ c) f) (he : JE X o da) (hb : attributeBase o f X.env (eval o X.env) = eval o X.env := by rfl) : JE X (.Attribute o f pos) (dFld c f da) :=
  je_of (pe_fld he hb) (up_fld cl n)
theorem js_fld (cl : Cls X.K (CT.at_ c)) (n : NoAttr X.K (CT.at_ c) f) (ha : JE X o da) (hv : JE X value dv) (hs : swapsWith value (some (.Attribute o f pos')) pos.line X.env = pure false := by rfl) :
    JS X (.Assign [.Attribute o f pos'] value pos) (dSetFld c f da dv) :=
  js_of (ps_fld ha hv hs) fun D σ H ⟨ρ, I, S, F, DD, rs, ok, h, q⟩ => ⟨ρ, I, S, F, _, rs, ok, h, fun y S1 v I1 H1 h1 e1 ok1 r1 => ⟨ρ, I1, S1, F, _, rs.mono e1, ok1, h1, fun x S2 w I2 H2 ⟨p, fs, ex, es, hl, h2⟩ e2 ok2 r2 => by
    subst ex
    obtain ⟨dx, vs, hp, hd, rf⟩ := ok2.insAt es
    refine ⟨p, _, dx, vs, r2.obj_of, hp, cl, n, by rw [rf.len]; omega, ?_⟩
    exact q.nx _ _ _ _ _ h2 (e1.trans e2) (ok2.putIns es hp hd rf (r1.mono e2)) (rs.mono (e1.trans e2))⟩⟩
theorem js_fldAdd (cl : Cls X.K (CT.at_ c)) (n : NoAttr X.K (CT.at_ c) f) (ha : JE X o da) (hv : JE X value dv) : JS X (.AugAssign (.Attribute o f tpos) .Add value pos) (dFldAdd c f da dv) :=
  js_of (ps_fldaug ha hv in_add) fun D σ H ⟨ρ, I, S, F, DD, rs, ok, h, q⟩ => ⟨ρ, I, S, F, _, rs, ok, h, fun x S1 v I1 H1 ⟨p, fs, i, ex, es, el, h1⟩ e1 ok1 r1 => by
    subst ex
    obtain ⟨dx, vs, hp, hd, rf⟩ := ok1.insAt es
    obtain ⟨u, hu, ru⟩ := rf.look el
    refine ⟨p, _, dx, vs, u, r1.obj_of, hp, cl, n, hu, ρ, I1, S1, F, _, rs.mono e1, ok1, h1, fun y S2 w I2 H2 ⟨j, fs', ey, es2, hl, h2⟩ e2 ok2 r2 => ?_⟩
    subst ey
    obtain ⟨dx2, vs2, hp2, hd2, rf2⟩ := ok2.insAt es2
    refine ⟨i, j, ru.int_of, r2.int_of, dx2, vs2, hp2, by rw [rf2.len]; omega, ?_⟩
    exact q.nx _ _ _ _ _ h2 (e1.trans e2) (ok2.putIns es2 hp2 hd2 rf2 rep_int) (rs.mono (e1.trans e2))⟩
end
/-! ### calls of methods, C(..) -/
def dMeth [CT] (c : Nat) (m : Str) (sp : DSp) (a : DE) (r : DA) : DE := fun ρ S P => a ρ S fun x S1 => ∃ p fs, x = .obj p ∧ S1 p = some (.ins (CT.at_ c) fs) ∧ fs.lookup m = none ∧ r ρ S1 fun xs S2 => sp (x :: xs) S2 P
def dMake [CT] (c : Nat) (sp : DSp) (r : DA) : DE := fun ρ S P => r ρ S fun xs S1 => ∀ p, S1 p = none → sp (.obj p :: xs) (supd S1 p (.ins (CT.at_ c) [])) fun y S2 => y = .non ∧ P (.obj p) S2
def dMakeK [CT] (c : Nat) (sp : DSp) (n m : Nat) (perm : List Nat) (r kw : DA) : DE := fun ρ S P => r ρ S fun xs S1 => kw ρ S1 fun ys S2 => xs.length = n ∧ ys.length = m ∧ ∀ p, S2 p = none →
  sp (pick perm (.obj p :: xs) ys) (supd S2 p (.ins (CT.at_ c) [])) fun y S3 => y = .non ∧ P (.obj p) S3
/-- the method m of the class c keeps its promise -/
structure DoesM [CT] (P : Program) (w : World) (K : PySem.W.Frag) (mg : Str → Option Value) (base : Heap) (k : Nat) (c : Nat) (m : Str) (ps : List Str) (f : Addr) (fd : FuncData) (sp : DSp) : Prop where
  cl : Cls K (CT.at_ c)
  mt : Meth K (CT.at_ c) m f
  b : Binds K fd ps []
  ok : FnD P w K mg base k f fd ps sp
/-- the class c is made by __init__, which keeps its promise -/
structure DoesI [CT] (P : Program) (w : World) (K : PySem.W.Frag) (mg : Str → Option Value) (base : Heap) (k : Nat) (c : Nat) (x : Str) (ps : List Str) (f : Addr) (fd : FuncData) (sp : DSp) : Prop where
  g : mg x = some (.ref (CT.at_ c))
  mks : Mk K (CT.at_ c) f
  ok : FnD P w K mg base k f fd ps sp
section
variable [CT] {X : Cx} {o a : Expr} {es : List Expr} {c : Nat} {m x : Str} {pos apos p : Pos} {da : DE} {ds dk : DA} {k j n l : Nat} {ps ks : List Str} {f : Addr} {fd : FuncData} {sp : DSp} {perm : List Nat} {kws : List Keyword}
theorem up_meth : ∀ σ H Q, upE X.K (dMeth c m sp da ds) σ H Q → tMeth (CT.at_ c) m (upSp X.K sp) [] E0 (upE X.K da) (upA X.K ds) σ H Q := fun σ H Q ⟨ρ, I, S, F, P, rs, ok, h, q⟩ =>
  ⟨ρ, I, S, F, _, rs, ok, h, fun x S1 v I1 H1 ⟨p, fs, ex, es, el, h1⟩ e1 ok1 r1 => by
    subst ex
    obtain ⟨dx, vs, hp, hd, rf⟩ := ok1.insAt es
    refine ⟨p, dx, vs, r1.obj_of, hp, rf.no el, ρ, I1, S1, F, _, rs.mono e1, ok1, h1, fun xs S2 ws I2 H2 h2 e2 ok2 r2 => ?_⟩
    show upSp X.K sp (v :: (ws ++ [])) H2 Q E0
    rw [List.append_nil]
    exact ⟨_, I2, S2, F, P, .cons (r1.mono e2) r2, ok2, h2, q.mono (e1.trans e2)⟩⟩
theorem je_m {pl : Sem Bool} (G : DoesM X.prog X.w X.K X.mg X.base k c m ps f fd sp) (hr : DG.RoomG j X.A) (he : JE X o da) (ha : JA X (a :: es) ds) (hk : k ≤ j := by decide)
    (hst : starEach (a :: es) X.env = (false, eval a X.env) :: starEach es X.env := by rfl) (hpl : (backTo pos (starEach es X.env)).any (·.1) = false := by rfl)
    (ht : eval (.Call (.Attribute o m apos) (a :: es) [] pos) X.env = (do
      let ov ← eval o X.env
      standAt apos.atName
      let (f, first) ← holding [ov] (getMethod ov m pl)
      callWith pos f first (backTo pos (starEach (a :: es) X.env)) (backToKw pos (keywordEach [] X.env))) := by rfl) :
    JE X (.Call (.Attribute o m apos) (a :: es) [] pos) (dMeth c m sp da ds) :=
  je_of (DG.pe_meth (pl := pl) he G.cl G.mt G.ok (hr.mono hk) G.b .nil pass0 ha hst hpl ht) up_meth
theorem je_m0 {pl : Sem Bool} (G : DoesM X.prog X.w X.K X.mg X.base k c m ps f fd sp) (hr : DG.RoomG j X.A) (he : JE X o da) (hk : k ≤ j := by decide)
    (ht : eval (.Call (.Attribute o m apos) [] [] pos) X.env = (do
      let ov ← eval o X.env
      standAt apos.atName
      let (f, first) ← holding [ov] (getMethod ov m pl)
      callWith pos f first (backTo pos (starEach [] X.env)) (backToKw pos (keywordEach [] X.env))) := by rfl) :
    JE X (.Call (.Attribute o m apos) [] [] pos) (dMeth c m sp da dNil) :=
  je_of (DG.pe_meth0 (pl := pl) he G.cl G.mt G.ok (hr.mono hk) G.b .nil pass0 ht) fun σ H Q ⟨ρ, I, S, F, P, rs, ok, h, q⟩ => ⟨ρ, I, S, F, _, rs, ok, h, fun x S1 v I1 H1 ⟨p, fs, ex, es, el, h1⟩ e1 ok1 r1 => by
    subst ex
    obtain ⟨dx, vs, hp, hd, rf⟩ := ok1.insAt es
    exact ⟨p, dx, vs, r1.obj_of, hp, rf.no el, _, I1, S1, F, P, .cons r1 RepL.nil, ok1, h1, q.mono e1⟩⟩
theorem sees_make {K : PySem.W.Frag} {I F : Hp} {P : D → Store → Prop} {Q : VK} {p : Addr} (q : Sees K I F P Q) : Sees K I F (fun y S2 => y = .non ∧ P (.obj p) S2) (fun v H2 => v = .non ∧ Q (.ref p) H2) := fun x S v I2 H2 ⟨ex, h⟩ e ok r => by
  subst ex
  exact ⟨r.non_of, q _ _ _ _ _ h e ok (by simp only [Rep])⟩
theorem je_makeK (G : DoesI X.prog X.w X.K X.mg X.base k c x ps f fd sp) (hr : DG.RoomG j X.A) (hb : KBn X.K fd ps (n + 1) ks (pick perm) (pick perm)) (ha : JA X (a :: es) ds) (hkw : JK X kws dk) (hl : ks.length = l := by rfl) (hk : k + 1 ≤ j := by decide) (hg : Gl X x := by rfl)
    (hall : (backToKw pos (keywordEach kws X.env)).all (·.1.isSome) = true := by rfl) (hks : (backToKw pos (keywordEach kws X.env)).filterMap (·.1) = ks := by rfl)
    (hdb : (x == ("__debug__" : Str)) = false := by decide) (he : starEach (a :: es) X.env = (false, eval a X.env) :: starEach es X.env := by rfl)
    (hpl : ((backTo pos (starEach (a :: es) X.env)).any (·.1) || (backToKw pos (keywordEach kws X.env)).any (·.1.isNone)) = false := by rfl) :
    JE X (.Call (.Name x p) (a :: es) kws pos) (dMakeK c sp n l perm ds dk) := hl ▸
  je_of (DG.pe_makeK G.mks G.ok (hr.mono hk) hg G.g hb pass0 ha hkw hall hks hdb he hpl) fun σ H Q ⟨ρ, I, S, F, P, rs, ok, h, q⟩ => ⟨ρ, I, S, F, _, rs, ok, h, fun xs S1 vs I1 H1 h1 e1 ok1 r1 => ⟨ρ, I1, S1, F, _, rs.mono e1, ok1, h1, fun ys S2 ws I2 H2 ⟨l1, l2, h2⟩ e2 ok2 r2 =>
    ⟨by rw [r1.len]; exact l1, by rw [r2.len]; exact l2, fun x dx nx nd ne =>
      ⟨_, I2, _, F, _, pick_rep (RepL.app (RepL.cons (by simp only [Rep]) (r1.mono e2)) r2) perm, ok2.newIns nx nd ne, h2 x (ok2.freshS nx), sees_make (q.mono (e1.trans e2))⟩⟩⟩⟩
end
/-- the def called x keeps its promise sp, called by keywords -/
structure DoesK (P : Program) (w : World) (K : PySem.W.Frag) (mg : Str → Option Value) (base : Heap) (k : Nat) (x : Str) (ps : List Str) (f : Addr) (fd : FuncData) (sp : DSp) : Prop where
  g : mg x = some (.ref f)
  kp : PySem.W.keepIn K (.ref f) = true
  ok : FnD P w K mg base k f fd ps sp
section
variable {X : Cx} {pos p : Pos} {a : Expr} {es : List Expr} {ds dk : DA} {k j n m : Nat} {x : Str} {ps ks : List Str} {f : Addr} {fd : FuncData} {sp : DSp} {perm : List Nat} {kws : List Keyword}
theorem je_gk (G : DoesK X.prog X.w X.K X.mg X.base k x ps f fd sp) (hr : DG.RoomG j X.A) (hb : KBn X.K fd ps n ks (pick perm) (pick perm)) (ha : JA X (a :: es) ds) (hkw : JK X kws dk) (hl : ks.length = m := by rfl) (hk : k ≤ j := by decide) (hg : Gl X x := by rfl)
    (hall : (backToKw pos (keywordEach kws X.env)).all (·.1.isSome) = true := by rfl) (hks : (backToKw pos (keywordEach kws X.env)).filterMap (·.1) = ks := by rfl)
    (hdb : (x == ("__debug__" : Str)) = false := by decide) (he : starEach (a :: es) X.env = (false, eval a X.env) :: starEach es X.env := by rfl)
    (hpl : ((backTo pos (starEach (a :: es) X.env)).any (·.1) || (backToKw pos (keywordEach kws X.env)).any (·.1.isNone)) = false := by rfl) :
    JE X (.Call (.Name x p) (a :: es) kws pos) (dCallK sp n m perm ds dk) := hl ▸ je_callK G.ok (hr.mono hk) hg G.g G.kp hb ha hkw hall hks hdb he hpl
end
/-! ### a, b = x, y where a, b are fields -/
/-- o.f as a target -/
def gFld (K : PySem.W.Frag) (ta : TE) (f : Str) : TG := fun v σ H Q => ta σ H fun x H2 => ∃ a C dx fs, x = .ref a ∧ H2 a = some (.ins C dx fs) ∧ Cls K C ∧ NoAttr K C f ∧ fs.length < 1000 ∧ Q σ (upd H2 a (.ins C dx (putF f v fs)))
theorem pg_fld {X : Cx} {o : Expr} {f : Str} {pos : Pos} {ta : TE} (ha : PE X o ta) : PG X (.Attribute o f pos) (gFld X.K ta f) := by
  refine ⟨fun pins s σ H v u Q I r h => ?_⟩
  rw [show assign (.Attribute o f pos) X.env u = (do
    let ov ← holding [u] (eval o X.env)
    standAt pos.atName
    holding [u, ov] (setAttr ov f u)
    release [u, ov] []) from rfl]
  refine wpAny_bind (wpAny_holding (thn (ha.run pins s σ H _ I h) fun ov s1 ⟨x, H1, I1, r1, a, C, dx, fs, ex, ea, c, n, l, q1⟩ => ?_))
  subst ex
  obtain rfl : ov = Value.ref a := r1
  refine wpAny_bind (wpAny_standAt (wpAny_bind (wpAny_holding (setattr_ok I1 ea c n l r fun s2 I2 => ?_))))
  exact wpAny_release ⟨σ, _, I2, q1⟩
/-- o.f, o.g = x, y -/
def dFld2 [CT] (c : Nat) (f g : Str) (i : Nat) (da db : DE) : DS := fun DD ρ S => da ρ S fun x S1 => db ρ S1 fun y S2 => ∃ p fs, ρ[i]? = some (some (.obj p)) ∧ S2 p = some (.ins (CT.at_ c) fs) ∧ fs.length < 900 ∧
  DD.nx ρ (supd S2 p (.ins (CT.at_ c) (putD g y (putD f x fs))))
theorem putD_len (f : Str) (x : D) : ∀ fs : List (Str × D), (putD f x fs).length ≤ fs.length + 1
  | [] => by simp [putD]
  | (g, y) :: r => by
    have := putD_len f x r
    show (if g = f then (g, x) :: r else (g, y) :: putD f x r).length ≤ _
    split <;> simp <;> omega
theorem supd_twice {S : Store} {a : Addr} {m m' : MO} : supd (supd S a m) a m' = supd S a m' := by
  funext b
  unfold supd
  split <;> rfl
section
variable [CT] {X : Cx} {a b : Expr} {c : Nat} {f g x y : Str} {pos p1 p2 p3 p4 pt pt2 : Pos} {da db : DE} {kt k2}
theorem js_fld2 (i : Nat) (cl : Cls X.K (CT.at_ c)) (n1 : NoAttr X.K (CT.at_ c) f) (n2 : NoAttr X.K (CT.at_ c) g) (h1 : PE X (.Name x p1) (tVar i)) (h2 : PE X (.Name y p3) (tVar i)) (hc : X.calm = true) (ha : JE X a da) (hb : JE X b db)
    (hst : starEach [a, b] X.env = (false, eval a X.env) :: starEach [b] X.env := by rfl) (hst2 : starEach [b] X.env = (false, eval b X.env) :: starEach [] X.env := by rfl)
    (ha1 : (assignEach [.Attribute (.Name x p1) f p2, .Attribute (.Name y p3) g p4] X.env).map (·.2) = assign (.Attribute (.Name x p1) f p2) X.env :: (assignEach [.Attribute (.Name y p3) g p4] X.env).map (·.2) := by rfl)
    (ha2 : (assignEach [.Attribute (.Name y p3) g p4] X.env).map (·.2) = assign (.Attribute (.Name y p3) g p4) X.env :: (assignEach [] X.env).map (·.2) := by rfl)
    (hn : (assignEach [.Attribute (.Name x p1) f p2, .Attribute (.Name y p3) g p4] X.env).length = 2 := by rfl) (hfi : (assignEach [.Attribute (.Name x p1) f p2, .Attribute (.Name y p3) g p4] X.env).findIdx? (·.1) = none := by rfl)
    (hs : swapsWithSole [.Tuple [.Attribute (.Name x p1) f p2, .Attribute (.Name y p3) g p4] kt pt] (.Tuple [a, b] k2 pt2) pos.line X.env = pure false := by rfl) (hw : swappedStores [.Tuple [.Attribute (.Name x p1) f p2, .Attribute (.Name y p3) g p4] kt pt] (.Tuple [a, b] k2 pt2) X.env = pure none := by rfl)
    (h0 : (assignEach [.Tuple [.Attribute (.Name x p1) f p2, .Attribute (.Name y p3) g p4] kt pt] X.env).map (·.2) = [assign (.Tuple [.Attribute (.Name x p1) f p2, .Attribute (.Name y p3) g p4] kt pt) X.env] := by rfl) :
    JS X (.Assign [.Tuple [.Attribute (.Name x p1) f p2, .Attribute (.Name y p3) g p4] kt pt] (.Tuple [a, b] k2 pt2) pos) (dFld2 c f g i da db) :=
  js_of (ps_asg (pe_tup (pa_cons ha (pa_cons hb pa_nil hst2) hst)) (pg_tup hc (pgs_cons (pg_fld h1) (pgs_cons (pg_fld h2) pgs_nil ha2) ha1) hn hfi) hs hw h0) fun D σ H ⟨ρ, I, S, F, DD, rs, ok, h, q⟩ =>
    ⟨ρ, I, S, F, _, rs, ok, h, fun x S1 v I1 H1 h1 e1 ok1 r1 => ⟨ρ, I1, S1, F, _, rs.mono e1, ok1, h1, fun y S2 w I2 H2 ⟨p, fs, ei, es, hl, h3⟩ e2 ok2 r2 => ⟨by show 2 ≤ sizeLine; decide, fun t ht => by
      have ok3 := ok2.newI (o := .tup [v, w]) ht
      have e3 : Same I2 (upd I2 t (.tup [v, w])) := same_new (ok2.freshI ht)
      refine ⟨t, [v, w], rfl, .inl (.inl upd_same), rfl, ?_⟩
      obtain ⟨dx, vs, hp, hd, rf⟩ := ok3.insAt es
      have ok4 := ok3.putIns (f := f) es hp hd rf ((r1.mono e2).mono e3)
      have rs3 := rs.mono ((e1.trans e2).trans e3)
      obtain ⟨u, hu, ru⟩ := rs3.2 i _ ei
      have es4 : (supd S2 p (.ins (CT.at_ c) (putD f x fs))) p = some (.ins (CT.at_ c) (putD f x fs)) := by unfold supd; rw [if_pos rfl]
      have l4 := putD_len f x fs
      obtain ⟨dx5, vs5, hp5, hd5, rf5⟩ := ok4.insAt es4
      have ok5 := ok4.putIns (f := g) es4 hp5 hd5 rf5 (r2.mono e3)
      rw [supd_twice] at ok5
      refine ⟨v, [w], rfl, u, hu, p, _, dx, vs, ru.obj_of, hp, cl, n1, by rw [rf.len]; omega, w, [], rfl, u, hu, p, _, dx5, vs5, ru.obj_of, hp5, cl, n2, by rw [rf5.len]; omega, rfl, ?_⟩
      exact q.nx _ _ _ _ _ h3 ((e1.trans e2).trans e3) ok5 rs3⟩⟩⟩
end
end DL

/-! min(xs, key=f) of ints, f a def of the module. -/
namespace DL
open PySem PySem.Spec PyProof.Rows L2
theorem walksX {prog : Program} {w : World} {A : Around} (hh : A.handled = none) (It l : Addr) (ne : l ≠ It) (xs : List V) :
    WalksS prog w A It [It, l] [It] (fun a b => b = a) xs.length (fun i v => ∃ x, xs[i]? = some x ∧ RelV x v) (fun i s' => s'.heap.IsListIter It l i ∧ ∃ vs : List Value, Vals xs vs ∧ s'.heap.IsList l vs.toArray) where
  sub := fun b hb => by simp at hb; simp [hb]
  grefl := fun _ => rfl
  gtrans := fun a b c h1 h2 => h2.trans h1
  frame := fun i s h' tk ⟨h1, vs, h2, h3⟩ _ hk => ⟨h1.at fun o e => hk It (by simp) o e, vs, h2, h3.at fun o e => hk l (by simp) o e⟩
  item := fun i s Q E hi ⟨h1, vs, h2, h3⟩ hQ => by
    refine (Walks.list (prog := prog) (w := w) (A := A) hh It l ne vs.toArray).toS.item i s Q E (by rw [List.size_toArray, ← h2.length]; exact hi) ⟨h1, h3⟩ fun v s' hv hs hm => ?_
    refine hQ v s' ?_ ⟨hs.1, vs, h2, hs.2⟩ hm
    have hv' : vs[i]? = some v := by simpa using hv
    obtain ⟨x, hx⟩ : ∃ x, xs[i]? = some x := ⟨_, List.getElem?_eq_getElem hi⟩
    obtain ⟨u, hu, r⟩ := h2.get hx
    rw [hv'] at hu; cases hu
    exact ⟨x, hx, r⟩
  done := fun s Q E ⟨h1, vs, h2, h3⟩ hQ => by
    refine (Walks.list (prog := prog) (w := w) (A := A) hh It l ne vs.toArray).toS.done s Q E ?_ hQ
    rw [List.size_toArray, ← h2.length]
    exact ⟨h1, h3⟩
  self := fun i s Q E ⟨h1, _⟩ hQ => wpAny_pyIter_listiter h1 hQ
theorem RoomG_in1 {k : Nat} {A : Around} (h : DG.RoomG (k + 1) A) : DG.RoomG k A.in1 :=
  ⟨⟨h.r.hd, by have := h.r.dp; show A.depth + 3 * k + 5 < _; omega, by have := h.r.un; show A.units + 1 + 16 * k + 200 < _; omega⟩, h.g⟩
/-- the list's ints, what f makes of each: any of the least may be told -/
def dMinKey (sp : DSp) (a : DE) : DE := fun ρ S P => a ρ S fun x S1 => ∃ (ns : List Int) (kf : Int → Int), lstOf S1 x = some (ns.map .int) ∧ ns ≠ [] ∧ (∀ i, i ∈ ns → ∀ (S' : Store) (Q : D → Store → Prop), S' = S1 → Q (.int (kf i)) S' → sp [.int i] S' Q) ∧
  ∀ m, m ∈ ns → (∀ i, i ∈ ns → kf m ≤ kf i) → P (.int m) S1
def rMinKey (K : PySem.W.Frag) (f : Addr) (sp : DSp) : List V → List V → Hp → VK → Prop := fun vs zs H Q => ∃ (x : D) (v : V) (I : Hp) (S : Store) (F : Hp) (P : D → Store → Prop) (ns : List Int) (kf : Int → Int), vs = [v] ∧ zs = [V.ref f] ∧ Ok K I S F H ∧ Rep K I x v ∧ lstOf S x = some (ns.map .int) ∧ ns ≠ [] ∧
  (∀ i : Int, i ∈ ns → ∀ (S' : Store) (Q : D → Store → Prop), S' = S → Q (.int (kf i)) S' → sp [.int i] S' Q) ∧ Sees K I F P Q ∧ ∀ m : Int, m ∈ ns → (∀ i, i ∈ ns → kf m ≤ kf i) → P (.int m) S
theorem repL_nums {K : PySem.W.Frag} {I : Hp} : ∀ {ns : List Int} {xs : List V}, RepL K I (ns.map .int) xs → xs = ns.map V.int
  | [], xs, h => by simpa only [List.map_nil, RepL] using h
  | n :: ns, xs, h => by
    simp only [List.map_cons, RepL] at h
    obtain ⟨v, r, rfl, h1, h2⟩ := h
    rw [h1.int_of, repL_nums h2]; rfl
theorem cr_minKey {X : Cx} {k : Nat} {y : Str} {ps : List Str} {f : Addr} {fd : FuncData} {sp : DSp} (hc : X.calm = true) (G : Does X.prog X.w X.K X.mg X.base k y ps f fd sp) (hr : DG.RoomG (k + 1) X.A) : CallRK X (.builtin "min") [Str.ofString "key"] (rMinKey X.K f sp) := by
  rintro pins s σ H xs zs us ws Q I r1 r2 ⟨x, v, I0, S, F, P, ns, kf, rfl, rfl, ok, rep, hl, hne, hsp, hq, fin⟩
  obtain ⟨l, xs, rfl, hsq, rl⟩ := lst_sq ok rep hl
  obtain rfl := repL_nums rl
  cases r1 with
  | cons ra rn =>
  cases rn
  cases r2 with
  | cons rb rn =>
  cases rn
  cases ra
  cases rb
  show wpAny (model X.prog X.w) X.A (call (.builtin "min") [.ref l] [(Str.ofString "key", .ref f)]) (EP X pins σ Q) X.xe s
  obtain ⟨its, rv, pl, hz⟩ := I.list hsq
  have hd := I.ok.hd hc
  have hlt : l < s.heap.objs.size := by obtain ⟨_, e, _⟩ := pl.isList; exact Heap.lt_size e
  refine call_min_walkK (wpAny_pyIter_list pl.isList ?_)
  let s2 : Shared := { s with heap := s.heap.push { cls := .type "list_iterator", data := .fields #[.ref l, .int 0 0] } }
  have hs2 : s2 = { s with heap := s.heap.push { cls := .type "list_iterator", data := .fields #[.ref l, .int 0 0] } } := rfl
  have I2 : Inv X pins σ H s2 := I.kept (t' := s.toks) fun b o e => Heap.get?_push_of_some _ e
  have sz2 : s2.heap.objs.size = s.heap.objs.size + 1 := Heap.size_push ..
  have neS : s2.heap.objs.size ≠ s.heap.objs.size := by omega
  refine ⟨s.heap.objs.size, _, _, _, _, _, _, fun s' => ∃ I' H', Same I0 I' ∧ Ok X.K I' S F H' ∧ Inv X pins σ H' s' ∧ (∀ b ∈ [s2.heap.objs.size, s.heap.objs.size], FpOk X pins H' b), fun i u _ => ∃ t, u = Value.int (kf (ns.getD i 0)) t, fun i j => decide (kf (ns.getD i 0) < kf (ns.getD j 0)), rfl,
    walksX (A := X.A.in1) hd s.heap.objs.size l (Nat.ne_of_lt hlt) (ns.map V.int), ⟨⟨_, Heap.get?_push_size _ rfl, rfl, rfl⟩, its, rv, pl.isList.push _⟩, ?_, ?_, ?_, ?_, ?_⟩
  · intro b hb
    refine Nat.lt_of_lt_of_eq ?_ sz2.symm
    rcases List.mem_cons.mp hb with rfl | hb
    · exact Nat.lt_succ_self _
    · rcases List.mem_cons.mp hb with rfl | hb
      · exact Nat.lt_succ_of_lt hlt
      · cases hb
  · rw [List.length_map]; exact List.length_pos_iff.mpr hne
  · refine ⟨?_, fun i u s1 s1' h _ => h, ?_, ?_⟩
    · rintro s1 s1' ⟨I', H', e1, ok1, J1, hf⟩ m
      obtain ⟨h1, g1, d1, t1, o1⟩ := s1
      obtain ⟨h2, g2, d2, t2, o2⟩ := s1'
      obtain rfl : g2 = g1 := m.gens
      obtain rfl : d2 = d1 := m.drawn
      obtain rfl : o2 = o1 := m.os
      exact ⟨I', H', e1, ok1, J1.turnedL (h' := h2) (t' := t2) (fun b o hb e => m.heap b o hb e) hf, hf⟩
    · rintro i u s1 o Q' E hi ⟨z, hz1, rz⟩ ⟨I', H', e1, ok1, J1, hf⟩ ⟨hit, vs, rvs, hlst⟩ hS hQ
      rw [List.length_map] at hi
      rw [List.getElem?_map, List.getElem?_eq_getElem hi] at hz1
      cases hz1
      have eg : ns.getD i 0 = ns[i] := by rw [List.getD_eq_getElem?_getD, List.getElem?_eq_getElem hi]; rfl
      obtain ⟨t, rfl⟩ := (show ∃ t, u = Value.int ns[i] t from rz)
      have fS := hf _ (List.mem_cons_self ..)
      have fI := hf _ (List.mem_cons_of_mem _ (List.mem_cons_self ..))
      have hspi : upSp X.K sp [V.int ns[i]] H' (fun w H2 => ∃ I2, Same I' I2 ∧ Ok X.K I2 S F H2 ∧ w = .int (kf ns[i])) E0 := by
        refine ⟨[.int ns[i]], I', S, F, fun w S2 => S2 = S ∧ w = .int (kf ns[i]), .one rep_int, ok1, hsp _ (List.getElem_mem hi) S _ rfl ⟨rfl, rfl⟩, ?_⟩
        rintro w S2 v2 I2 H2 ⟨rfl, rfl⟩ e2 ok2 rw2
        exact ⟨I2, e2, ok2, rw2.int_of⟩
      have hb := G.b s1 [.int ns[i] t] J1.kIn (by
        have := G.ok.len _ _ _ _ hspi
        rw [List.append_nil]
        exact this)
      rw [List.append_nil] at hb
      refine wpAny_call (codeAny_mono (G.ok.run X.A.in1 X.stack s1 H' ⟨[.int ns[i] t], []⟩ [.int ns[i] t] [V.int ns[i]] _ E0 (RoomG_in1 hr) J1.env0.in1 hb (.cons rz .nil) hspi) fun r s' hq' => ?_)
      cases r with
      | error e => exact hq'.elim
      | ok fl =>
        cases fl with
        | ret u' =>
          have hq2 := id hq'
          obtain ⟨w2, H2, os, bare, un, hok, rw2, I2', e2, ok2, ew⟩ := hq'
          subst ew
          obtain ⟨t2, rfl⟩ := (show ∃ t, u' = Value.int (kf ns[i]) t from rw2)
          have nfr : ∀ b, FpOk X pins H' b → b ∉ frs X.stack := fun b h z => (List.mem_cons.mp (J1.stkSub b z)).elim (fun q => h.2.1 q) fun q => h.2.2.1 q
          obtain ⟨oI, hoI, hoc, hod⟩ := hit
          have kS := un.keep _ o hS fS.1 (nfr _ fS) (by simp)
          have kI := un.keep _ oI hoI fI.1 (nfr _ fI) (by simp)
          have J2 : Inv X pins σ H2 s' := by
            obtain ⟨hh, g, d, t, os'⟩ := s'
            obtain rfl : os' = s1.os := os
            exact J1.call (h' := hh) (g' := g) (d' := d) (t' := t) (ch := []) un hok bare (fun b z => absurd z (by simp))
          have hf2 : ∀ b ∈ [s2.heap.objs.size, s.heap.objs.size], FpOk X pins H2 b := fun b hb => by
            have h0 := hf b hb
            rcases List.mem_cons.mp hb with rfl | hb
            · exact ⟨un.free _ o hS h0.1 (by simp), h0.2⟩
            · rcases List.mem_cons.mp hb with rfl | hb
              · exact ⟨un.free _ oI hoI h0.1 (by simp), h0.2⟩
              · cases hb
          have rep2 := (rep.mono (e1.trans e2) : Rep X.K I2' x (.ref l))
          obtain ⟨l', xs', el, hsq', rl'⟩ := lst_sq ok2 rep2 hl
          cases el
          obtain rfl := repL_nums rl'
          obtain ⟨its', rv', pl', _⟩ := J2.list hsq'
          refine hQ (.int (kf ns[i]) t2) s' ⟨I2', H2, e1.trans e2, ok2, J2, hf2⟩ ⟨⟨oI, kI, hoc, hod⟩, its', rv', pl'.isList⟩ kS ⟨t2, by rw [eg]⟩ fun j k' h => h
        | next => exact hq'.elim
        | brk => exact hq'.elim
        | cont => exact hq'.elim
    · rintro i j ki kj s1 Q' E _ hi hj q
      exact CmpOf.ints_lt (prog := X.prog) (w := X.w) (A := X.A.in1) (P := fun i v => ∃ t, v = Value.int (kf (ns.getD i 0)) t) (fun i => kf (ns.getD i 0)) (fun i v h => h) i j ki kj _ _ _ hi hj q
  · refine ⟨I0, H, Same.refl I0, ok, I2, fun b hb => ?_⟩
    rcases List.mem_cons.mp hb with rfl | hb
    · exact I2.fpOk (Nat.le_refl _) (I2.hok.fresh (Nat.le_refl _))
    · rcases List.mem_cons.mp hb with rfl | hb
      · exact I.fpOk (Nat.le_refl _) (I.hok.fresh (Nat.le_refl _))
      · cases hb
  · rintro v s' ⟨z, hz1, rz⟩ ⟨I', H', e1, ok1, J1, hf⟩
    rw [List.length_map] at hz1
    have ab := argBest_lt (fun i => kf (ns.getD i 0)) (ns.length - 1)
    have hpos : 0 < ns.length := List.length_pos_iff.mpr hne
    generalize argBest (fun i j => decide (kf (ns.getD i 0) < kf (ns.getD j 0))) (ns.length - 1) = m at *
    have hm : m < ns.length := by omega
    rw [List.getElem?_map, List.getElem?_eq_getElem hm] at hz1
    cases hz1
    have gd : ∀ j, ∀ h : j < ns.length, ns.getD j 0 = ns[j] := fun j h => by rw [List.getD_eq_getElem?_getD, List.getElem?_eq_getElem h]; rfl
    refine ⟨.int ns[m], H', J1, rz, hq _ _ _ _ _ (fin _ (List.getElem_mem hm) fun i hi => ?_) e1 ok1 rep_int⟩
    obtain ⟨j, hj, rfl⟩ := List.mem_iff_getElem.mp hi
    have := ab.2 j (by omega)
    rwa [gd j hj, gd m hm] at this
theorem je_minKey {X : Cx} {pos p np kp : Pos} {a : Expr} {da : DE} {k j : Nat} {y : Str} {ps : List Str} {f : Addr} {fd : FuncData} {sp : DSp} (hm : X.mg "min" = none) (G : Does X.prog X.w X.K X.mg X.base k y ps f fd sp) (hr : DG.RoomG j X.A) (ha : JE X a da) (hk : k + 1 ≤ j := by decide) (hc : X.calm = true := by rfl)
    (hg : Gl X "min" := by rfl) (hgy : Gl X y := by rfl) (hdy : (y == ("__debug__" : Str)) = false := by decide) (hst : starEach [a] X.env = (false, eval a X.env) :: starEach [] X.env := by rfl)
    (he : backTo pos (starEach [a] X.env) = (false, eval a X.env) :: backTo pos (starEach [] X.env) := by rfl) (hpl : (backTo pos (starEach [a] X.env)).any (·.1) = false := by rfl)
    (hall : (backToKw pos (keywordEach [⟨some "key", .Name y np, kp⟩] X.env)).all (·.1.isSome) = true := by rfl) (hnone : (backToKw pos (keywordEach [⟨some "key", .Name y np, kp⟩] X.env)).any (·.1.isNone) = false := by rfl) (hks : (backToKw pos (keywordEach [⟨some "key", .Name y np, kp⟩] X.env)).filterMap (·.1) = [Str.ofString "key"] := by rfl) :
    JE X (.Call (.Name "min" p) [a] [⟨some "key", .Name y np, kp⟩] pos) (dMinKey sp da) :=
  je_of (pe_callBK (cr_minKey hc G (hr.mono hk)) hg hm (by decide +kernel) (pa_cons ha pa_nil hst) (pk_cons (pe_glob (v := .ref f) hgy G.g rfl hdy) pk_nil) (by decide) (by decide) he hpl hall hnone hks) fun σ H Q ⟨ρ, I, S, F, P, rs, ok, h, q⟩ =>
    ⟨ρ, I, S, F, _, rs, ok, h, fun x S1 v I1 H1 ⟨ns, kf, h1, h2, h3, h4⟩ e1 ok1 r1 => ⟨x, v, I1, S1, F, P, ns, kf, rfl, rfl, ok1, r1, h1, h2, h3, q.mono e1, h4⟩⟩
end DL

/-! Machines: what a part gives, figure by figure. -/
namespace Lb
open PySem PySem.Spec PyProof.Rows L2 DL
variable [CT]
local macro_rules | `(tactic| walk_at "dg3") => `(tactic| try simp only [dDispGet, dictAt, isi_non_dict, isi_bl_dict, isi_int_dict, isi_str_dict, isi_lst_dict, isi_tup_dict, isi_non_bs, isi_bl_bs, isi_int_bs, isi_str_bs, isi_lst_bs, isi_tup_bs, g_ix_enc0, g_ix_enc1, g_ix_sp0, g_ix_sp1, g_put_sp, Int.reduceEq, dSeq, dSet, dPar, dOp, dUn, dVar, dC, dCB, dCons, dNil, dTup, dLst, dLstM, dIfS, dIf, dTest, dNot, dAnd, dOr, dAndV, dOrV, dNotV, dRet, dRetN, dEnd, dNext, dAdd, dSub, dMul, dFdiv, dMod, dPow, dNeg, dLt, dLe, dGt, dGe, dEq, dNe, eqB_ii, eqB_bb, eqB_ss, eqB_nn, eqB_ni, eqB_in, eqB_ns, eqB_sn, eqB_is, eqB_si, eqB_nb, eqB_bn, dIn, g_ix_tup, g_ix_lst, g_ix_ext, g_ln_tup, g_ln_lst, g_ln_ext, g_nn_non, g_nn_int, g_nn_tup, g_in_non, g_in_int, g_in_tup, g_ix_row0, g_ix_row1, g_ix_row2, g_ix_span0, g_ix_span1, g_nn_span, g_nn_encR, g_in_span, cAbs, cMax2, cMin2, cInt, cList, cTuple, dIsB, dNotB, dPar3, ForN, LcN, pinOf, pin2, dEnum2, dAppend, supd_same0, isi_non_int, isi_non_bool, isi_non_str, isi_non_list, isi_non_tuple, isi_non_lt, isi_bl_int, isi_bl_bool, isi_bl_str, isi_bl_list, isi_bl_tuple, isi_bl_lt, isi_int_int, isi_int_bool, isi_int_str, isi_int_list, isi_int_tuple, isi_int_lt, isi_str_int, isi_str_bool, isi_str_str, isi_str_list, isi_str_tuple, isi_str_lt, isi_lst_int, isi_lst_bool, isi_lst_str, isi_lst_list, isi_lst_tuple, isi_lst_lt, isi_tup_int, isi_tup_bool, isi_tup_str, isi_tup_list, isi_tup_tuple, isi_tup_lt, dAug, dIAdd, dIMul, dDrop, dSl, dPart, dNoPart, dRevL, dCallK, dChainR, dAsg, put_nm, put_tp, put_tl, g_put_row, g_put_span, putL_nil, putL_cons, Option.bind, seqOf, lstOf, dFor, dLc, dLcM, dItSeq, dZip, dZipS, dEnum, dRng1, dRng2, dYes, dwipe, Tgt.slots, Tgt.slotsL,
  atI_0, atI_1, atI_2, atI_3, List.getElem?_cons_zero, List.getElem?_cons_succ, List.set_cons_zero, List.set_cons_succ, decide_eq_true_eq, List.length_cons, List.length_nil, List.cons_append, List.nil_append, List.append_nil, ofString_inj, String.reduceEq, decide_true, decide_false, reduceIte, Bool.false_eq_true, Bool.not_true, Bool.not_false, eqFlat, isFlat, List.any_cons, List.any_nil, List.all_cons, List.all_nil, Bool.or_false, Bool.or_true, Bool.false_or, Bool.true_or, Bool.and_true, Bool.true_and, true_and, and_true, Nat.reduceAdd, Nat.reduceLeDiff, Int.reduceLT, Int.reduceLE, Int.reduceNeg])
/-! ### figures for rows of any begin -/
/-- what may come of rows is not too great for a row -/
structure Fine (b : Int) (kn : Kn) (rs : List Rw) (r : Rw) : Prop where
  b0 : 2 ≤ b
  b1 : b ≤ 16
  k : kn.Ok
  l : rs.length = kn.many
  ok : ∀ r, r ∈ rs → r.Ok b
  own : r.Ok b
  z1 : Sz 2500 (reachQ b kn (rs.map (spanQ b))).1
  z2 : Sz 2500 (reachQ b kn (rs.map (spanQ b))).2
  s1 : Bd ((2 ^ 60 : Int) : Rat) (((reachQ b kn (rs.map (spanQ b))).1 - r.worth b) * (b : Rat) ^ ((r.fs.length : Int) - r.e + 1))
  s2 : Bd ((2 ^ 60 : Int) : Rat) (((reachQ b kn (rs.map (spanQ b))).2 - r.worth b) * (b : Rat) ^ ((r.fs.length : Int) - r.e + 1))
def sp_figures_betweenG : DSp := fun ds S P => ∃ (b : Int) (r : Rw) (q : Rat × Rat), ds = [.int b, r.d, encR q.1, encR q.2] ∧ r.Ok b ∧ Sz 2500 q.1 ∧ Sz 2500 q.2 ∧
  Bd ((2 ^ 60 : Int) : Rat) ((q.1 - r.worth b) * (b : Rat) ^ ((r.fs.length : Int) - r.e + 1)) ∧ Bd ((2 ^ 60 : Int) : Rat) ((q.2 - r.worth b) * (b : Rat) ^ ((r.fs.length : Int) - r.e + 1)) ∧ P (.lst ((figsR b r q).map .int)) S
def sp_right_figuresG : DSp := fun ds S P => ∃ (b : Int) (kn : Kn) (rs : List Rw) (y : D) (r : Rw), ds = [.int b, kn.d, y, r.d] ∧ RowsD S y rs ∧ Fine b kn rs r ∧ P (.lst ((figsR b r (reachQ b kn (rs.map (spanQ b)))).map .int)) S
def rd_figures_betweenG : DS :=
  (dSeq (dAsg (.tp [(.nm 4), (.nm 5), (.nm 6)]) (dVar 1))
  (dSeq (dSet 7 (dCB sp_power (dCons (dVar 0) (dCons (dOp dAdd (dCB sp_known_to (dCons (dVar 1) dNil)) (dC (.int 1))) dNil))))
  (dSeq (dPar 8 9 (dCons (dCB sp_frac (dCons (dVar 5) (dCons (dOp dSub (dVar 0) (dC (.int 1))) dNil))) (dCons (dCB sp_worth_of (dCons (dVar 0) (dCons (dVar 1) dNil))) dNil)))
  (dSeq (dSet 10 (dCB sp_raised (dCons (dCB sp_minus (dCons (dCB sp_times (dCons (dCB sp_minus (dCons (dVar 3) (dCons (dVar 9) dNil))) (dCons (dVar 7) dNil))) (dCons (dVar 8) dNil))) dNil)))
  (dSeq (dSet 11 (dCB sp_plus (dCons (dCB sp_times (dCons (dCB sp_minus (dCons (dVar 2) (dCons (dVar 9) dNil))) (dCons (dVar 7) dNil))) (dCons (dVar 8) dNil))))
  (dRet (dLstR2 (dCB cMax2 (dCons (dVar 10) (dCons (dUn dNeg (dVar 5)) dNil))) (dOp dAdd (dCB cMin2 (dCons (dOp dFdiv (dOp dIx (dVar 11) (dC (.int 0))) (dOp dIx (dVar 11) (dC (.int 1)))) (dCons (dVar 5) dNil))) (dC (.int 1))))))))))
def goal_figures_betweenG : Prop := ∀ (x0 x1 x2 x3 : D) (S : Store) (P : D → Store → Prop), sp_figures_betweenG [x0, x1, x2, x3] S P → rd_figures_betweenG (dEnd P) [some x0, some x1, some x2, some x3, none, none, none, none, none, none, none, none] S
def rd_right_figuresG : DS :=
  (dSeq (dAsg (.tp [(.nm 4), (.nm 5)]) (dCB sp_reach_of (dCons (dVar 0) (dCons (dVar 1) (dCons (dVar 2) dNil)))))
  (dRet (dCB sp_figures_betweenG (dCons (dVar 0) (dCons (dVar 3) (dCons (dVar 4) (dCons (dVar 5) dNil)))))))
def goal_right_figuresG : Prop := ∀ (x0 x1 x2 x3 : D) (S : Store) (P : D → Store → Prop), sp_right_figuresG [x0, x1, x2, x3] S P → rd_right_figuresG (dEnd P) [some x0, some x1, some x2, some x3, none, none] S
theorem len_figures_betweenG : ∀ ds S P, sp_figures_betweenG ds S P → ds.length = 4 := by
  rintro ds S P ⟨a, b, c, rfl, _⟩; rfl
theorem len_right_figuresG : ∀ ds S P, sp_right_figuresG ds S P → ds.length = 4 := by
  rintro ds S P ⟨a, b, c, d, e, rfl, _⟩; rfl
theorem spread_bd {b : Int} {r : Rw} (ok : r.Ok b) : (0 : Rat) ≤ (r.m : Rat) / ((b - 1 : Int) : Rat) ∧ (r.m : Rat) / ((b - 1 : Int) : Rat) ≤ ((1000 : Int) : Rat) := by
  have cp := ok.cp
  have b0 := ok.b0
  have c1 : ((1 : Int) : Rat) ≤ ((b - 1 : Int) : Rat) := Rat.intCast_le_intCast.mpr (by omega)
  have m0 : ((0 : Int) : Rat) ≤ (r.m : Rat) := Rat.intCast_le_intCast.mpr ok.m0
  have m1 : (r.m : Rat) ≤ ((1000 : Int) : Rat) := Rat.intCast_le_intCast.mpr ok.m1
  have o1 : ((1 : Int) : Rat) = 1 := rfl
  have o2 : ((1000 : Int) : Rat) = 1000 := rfl
  have o0 : ((0 : Int) : Rat) = 0 := rfl
  have e : (r.m : Rat) / ((b - 1 : Int) : Rat) * ((b - 1 : Int) : Rat) = (r.m : Rat) := by
    generalize ((b - 1 : Int) : Rat) = y at *
    rw [Rat.div_def, Rat.mul_assoc, Rat.inv_mul_cancel _ (by grind), Rat.mul_one]
  have c0 : (0 : Rat) ≤ (r.m : Rat) / ((b - 1 : Int) : Rat) := by
    rw [Rat.div_def]
    exact Rat.mul_nonneg (by grind) (Rat.le_of_lt (Rat.inv_pos.mpr cp))
  generalize (r.m : Rat) / ((b - 1 : Int) : Rat) = c at *
  have := Rat.mul_le_mul_of_nonneg_left c1 (c := c) c0
  exact ⟨c0, by grind⟩
theorem vc_figures_betweenG : goal_figures_betweenG := by
  rintro x0 x1 x2 x3 S P ⟨b, r, q, e, ok, s1, s2, m1, m2, h⟩
  cases e
  unfold rd_figures_betweenG
  have b0 := ok.b0; have b1 := ok.b1; have e0 := ok.e0; have e1 := ok.e1; have m0 := ok.m0; have mm := ok.m1; have ll := ok.l
  have fb := fig_bounds (q := q) ok rfl
  have c0 := spread_bd ok
  obtain ⟨s, hs⟩ : ∃ s, s = (b : Rat) ^ ((r.fs.length : Int) - r.e + 1) := ⟨_, rfl⟩
  rw [← hs] at m1 m2 fb
  have ss : Sz 486 s := by rw [hs]; exact (sz_zpow (k := (r.fs.length : Int) - r.e + 1) (by omega) (by omega)).mono (by omega)
  have cs : Sz 11 ((r.m : Rat) / ((b - 1 : Int) : Rat)) := ok.fr
  have v1 := sz_mul (sz_sub s1 ok.worth) ss
  have v2 := sz_mul (sz_sub s2 ok.worth) ss
  walk_at "dg3"
  refine ⟨r, rfl, ?_⟩
  walk_at "dg3"
  refine ⟨b, _, rfl, by omega, by omega, by omega, ?_⟩
  rw [← hs]
  refine ⟨r.m, b - 1, rfl, by omega, bound_mono (n := 10) (by omega), bound_mono (n := 10) (by omega), ?_⟩
  refine ⟨b, r, rfl, ok, ?_⟩
  refine ⟨_, _, rfl, s2.mono (by decide), ok.worth.mono (by decide), ?_⟩
  refine ⟨_, _, rfl, (sz_sub s2 ok.worth).mono (by decide), ss.mono (by decide), ?_⟩
  refine ⟨_, _, rfl, v2.mono (by decide), cs.mono (by decide), ?_⟩
  refine ⟨_, rfl, (sz_sub v2 cs).mono (by decide), ?_⟩
  refine ⟨_, _, rfl, s1.mono (by decide), ok.worth.mono (by decide), ?_⟩
  refine ⟨_, _, rfl, (sz_sub s1 ok.worth).mono (by decide), ss.mono (by decide), ?_⟩
  refine ⟨_, _, rfl, v1.mono (by decide), cs.mono (by decide), ?_⟩
  have sz1 := sz_add v1 cs
  generalize (r.m : Rat) / ((b - 1 : Int) : Rat) = c at *
  generalize (q.2 - r.worth b) * s = X at *
  generalize (q.1 - r.worth b) * s = Y at *
  obtain ⟨C, hC⟩ : ∃ C, C = -((-(X - c).num).fdiv ((X - c).den : Int)) := ⟨_, rfl⟩
  obtain ⟨F, hF⟩ : ∃ F, F = (Y + c).num.fdiv ((Y + c).den : Int) := ⟨_, rfl⟩
  have t60 : ((2 ^ 61 : Int) : Rat) = ((2 ^ 60 : Int) : Rat) + ((2 ^ 60 : Int) : Rat) := by rw [← Rat.intCast_add]; congr 1
  have t1000 : ((1000 : Int) : Rat) + 1 ≤ ((2 ^ 60 : Int) : Rat) := by
    have : ((1000 : Int) : Rat) + 1 = ((1001 : Int) : Rat) := by rw [show (1001 : Int) = 1000 + 1 by decide, Rat.intCast_add]; rfl
    rw [this]; exact Rat.intCast_le_intCast.mpr (by decide)
  have n61 : ((-(2 ^ 61) : Int) : Rat) = -((2 ^ 61 : Int) : Rat) := Rat.intCast_neg ..
  unfold Bd at m1 m2
  generalize ((2 ^ 60 : Int) : Rat) = T at *
  generalize ((1000 : Int) : Rat) = U at *
  have C1 : C ≤ 2 ^ 61 := by rw [hC]; exact le_ceil.mpr (by rw [t60]; grind)
  have C0 : -(2 ^ 61) ≤ C := by
    refine Int.not_lt.mp fun h => ?_
    have h2 : C ≤ -(2 ^ 61) - 1 := by omega
    rw [hC, le_ceil, Rat.intCast_sub, n61, t60] at h2
    have : ((1 : Int) : Rat) = 1 := rfl
    grind
  have F0 : -(2 ^ 61) ≤ F := by rw [hF]; exact floor_le.mpr (by rw [n61, t60]; grind)
  have F1 : F ≤ 2 ^ 61 := by
    refine Int.not_lt.mp fun h => ?_
    have h2 : 2 ^ 61 + 1 ≤ F := by omega
    rw [hF, floor_le, Rat.intCast_add, t60] at h2
    have : ((1 : Int) : Rat) = 1 := rfl
    grind
  rw [← hC, ← hF] at fb
  unfold dLstR2
  walk_at "dg3"
  rw [← hC, ← hF]
  refine ⟨sz_divB sz1 (by decide), by unfold RgOk; split <;> split <;> omega, ?_⟩
  have ef : figsR b r q = ivl (if -r.m > C then -r.m else C) ((if r.m < F then r.m else F) + 1 - if -r.m > C then -r.m else C).toNat := by
    unfold figsR
    refine ivl_filter fb _ _ _ _ ?_ ?_
    · split <;> split <;> omega
    · congr 1
      have : -r.m + ((2 * r.m + 1).toNat : Int) - 1 = r.m := by omega
      rw [this]
      congr 2
      split <;> split <;> omega
  have er : ∀ a n, rng a n = (ivl a n).map D.int := fun a n => by unfold rng ivl; rw [List.map_map]; rfl
  rw [er, ← ef]
  exact h
theorem vc_right_figuresG : goal_right_figuresG := by
  rintro x0 x1 x2 x3 S P ⟨b, kn, rs, y, r, e, hy, F, h⟩
  cases e
  unfold rd_right_figuresG
  walk_at "dg3"
  refine ⟨b, kn, rs, 840, _, rfl, hy, F.k, F.l, F.b0, F.b1, by decide, by decide, rsOk_of F.ok, ?_⟩
  rw [reachQ_d]
  walk_at "dg3"
  exact ⟨b, r, _, rfl, F.own, F.z1, F.z2, F.s1, F.s2, h⟩
/-! ### the figure least in size -/
/-- the figure least in size -/
def near : List Int → Option Int
  | [] => none
  | x :: xs => some (xs.foldl (fun a y => if y.natAbs < a.natAbs then y else a) x)
theorem near_fold : ∀ (xs : List Int) (x : Int), (xs.foldl (fun a y => if y.natAbs < a.natAbs then y else a) x = x ∨ xs.foldl (fun a y => if y.natAbs < a.natAbs then y else a) x ∈ xs) ∧ (xs.foldl (fun a y => if y.natAbs < a.natAbs then y else a) x).natAbs ≤ x.natAbs ∧ ∀ y, y ∈ xs → (xs.foldl (fun a y => if y.natAbs < a.natAbs then y else a) x).natAbs ≤ y.natAbs
  | [], x => ⟨.inl rfl, Nat.le_refl _, by simp⟩
  | z :: xs, x => by
    obtain ⟨h1, h2, h3⟩ := near_fold xs (if z.natAbs < x.natAbs then z else x)
    have hz : (if z.natAbs < x.natAbs then z else x).natAbs ≤ z.natAbs ∧ (if z.natAbs < x.natAbs then z else x).natAbs ≤ x.natAbs := by split <;> omega
    rw [List.foldl_cons]
    generalize xs.foldl (fun a y => if y.natAbs < a.natAbs then y else a) (if z.natAbs < x.natAbs then z else x) = f at *
    refine ⟨?_, by omega, fun y hy => ?_⟩
    · rcases h1 with h1 | h1
      · rw [h1]; split
        · exact .inr (List.mem_cons_self ..)
        · exact .inl rfl
      · exact .inr (List.mem_cons_of_mem _ h1)
    · rcases List.mem_cons.mp hy with rfl | hy
      · omega
      · exact h3 y hy
theorem near_is {xs : List Int} {d : Int} (h : near xs = some d) : d ∈ xs ∧ ∀ y, y ∈ xs → d.natAbs ≤ y.natAbs := by
  match xs, h with
  | x :: xs, h =>
    obtain ⟨h1, h2, h3⟩ := near_fold xs x
    simp only [near, Option.some.injEq] at h
    rw [h] at h1 h2 h3
    refine ⟨?_, fun y hy => ?_⟩
    · rcases h1 with h1 | h1
      · rw [h1]; exact List.mem_cons_self ..
      · exact List.mem_cons_of_mem _ h1
    · rcases List.mem_cons.mp hy with rfl | hy
      · exact h2
      · exact h3 y hy
theorem near_none {xs : List Int} : near xs = none ↔ xs = [] := by
  cases xs <;> simp [near]
theorem mem_ivl {a d : Int} {n : Nat} : d ∈ ivl a n ↔ a ≤ d ∧ d < a + (n : Int) := by
  unfold ivl
  rw [List.mem_map]
  constructor
  · rintro ⟨i, hi, rfl⟩
    rw [List.mem_range] at hi
    omega
  · rintro ⟨h1, h2⟩
    exact ⟨(d - a).toNat, by rw [List.mem_range]; omega, by omega⟩
/-- in a gapless list there is just one least in size -/
theorem near_uniq {a : Int} {n : Nat} {d d' : Int} (h : d ∈ ivl a n) (h' : d' ∈ ivl a n) (m : ∀ y, y ∈ ivl a n → d.natAbs ≤ y.natAbs) (m' : ∀ y, y ∈ ivl a n → d'.natAbs ≤ y.natAbs) : d = d' := by
  have e1 := m d' h'
  have e2 := m' d h
  by_cases q : d = d'
  · exact q
  · have e3 : d' = -d := by omega
    rw [mem_ivl] at h h'
    have h0 : (0 : Int) ∈ ivl a n := mem_ivl.mpr (by omega)
    have := m 0 h0
    omega
theorem figs_ivl2 {b : Int} {r : Rw} {q : Rat × Rat} (h : r.Ok b) : ∃ lo k, figsR b r q = ivl lo k := by
  have fb := fig_bounds (q := q) h rfl
  exact ⟨_, _, ivl_filter fb _ _ _ _ rfl rfl⟩
theorem figs_mem {b : Int} {r : Rw} {q : Rat × Rat} (h0 : 0 ≤ r.m) {d : Int} : d ∈ figsR b r q ↔ (-r.m ≤ d ∧ d ≤ r.m) ∧ (r.snoc d).lo b ≤ q.1 ∧ q.2 ≤ (r.snoc d).hi b := by
  unfold figsR
  rw [List.mem_filter, mem_ivl]
  unfold figOk
  rw [decide_eq_true_eq]
  constructor
  · rintro ⟨h1, h2⟩; exact ⟨by omega, h2⟩
  · rintro ⟨h1, h2⟩; exact ⟨by omega, h2⟩
end Lb

/-! Machines: the methods. -/
namespace Lb
open PySem PySem.Spec PyProof.Rows L2 DL
variable [CT]
local macro_rules | `(tactic| walk_at "dg3") => `(tactic| try simp only [dDispGet, dictAt, isi_non_dict, isi_bl_dict, isi_int_dict, isi_str_dict, isi_lst_dict, isi_tup_dict, isi_non_bs, isi_bl_bs, isi_int_bs, isi_str_bs, isi_lst_bs, isi_tup_bs, g_ix_enc0, g_ix_enc1, g_ix_sp0, g_ix_sp1, g_put_sp, Int.reduceEq, dSeq, dSet, dPar, dOp, dUn, dVar, dC, dCB, dCons, dNil, dTup, dLst, dLstM, dIfS, dIf, dTest, dNot, dAnd, dOr, dAndV, dOrV, dNotV, dRet, dRetN, dEnd, dNext, dAdd, dSub, dMul, dFdiv, dMod, dPow, dNeg, dLt, dLe, dGt, dGe, dEq, dNe, eqB_ii, eqB_bb, eqB_ss, eqB_nn, eqB_ni, eqB_in, eqB_ns, eqB_sn, eqB_is, eqB_si, eqB_nb, eqB_bn, dIn, g_ix_tup, g_ix_lst, g_ix_ext, g_ln_tup, g_ln_lst, g_ln_ext, g_nn_non, g_nn_int, g_nn_tup, g_in_non, g_in_int, g_in_tup, g_ix_row0, g_ix_row1, g_ix_row2, g_ix_span0, g_ix_span1, g_nn_span, g_nn_encR, g_in_span, cAbs, cMax2, cMin2, cInt, cList, cTuple, dIsB, dNotB, dPar3, ForN, LcN, pinOf, pin2, dEnum2, dAppend, supd_same0, isi_non_int, isi_non_bool, isi_non_str, isi_non_list, isi_non_tuple, isi_non_lt, isi_bl_int, isi_bl_bool, isi_bl_str, isi_bl_list, isi_bl_tuple, isi_bl_lt, isi_int_int, isi_int_bool, isi_int_str, isi_int_list, isi_int_tuple, isi_int_lt, isi_str_int, isi_str_bool, isi_str_str, isi_str_list, isi_str_tuple, isi_str_lt, isi_lst_int, isi_lst_bool, isi_lst_str, isi_lst_list, isi_lst_tuple, isi_lst_lt, isi_tup_int, isi_tup_bool, isi_tup_str, isi_tup_list, isi_tup_tuple, isi_tup_lt, dAug, dIAdd, dIMul, dDrop, dSl, dPart, dNoPart, dRevL, dCallK, dChainR, dAsg, put_nm, put_tp, put_tl, g_put_row, g_put_span, putL_nil, putL_cons, Option.bind, seqOf, lstOf, dFor, dLc, dLcM, dItSeq, dZip, dZipS, dEnum, dRng1, dRng2, dYes, dwipe, Tgt.slots, Tgt.slotsL,
  atI_0, atI_1, atI_2, atI_3, List.getElem?_cons_zero, List.getElem?_cons_succ, List.set_cons_zero, List.set_cons_succ, decide_eq_true_eq, List.length_cons, List.length_nil, List.cons_append, List.nil_append, List.append_nil, ofString_inj, String.reduceEq, decide_true, decide_false, reduceIte, Bool.false_eq_true, Bool.not_true, Bool.not_false, eqFlat, isFlat, List.any_cons, List.any_nil, List.all_cons, List.all_nil, Bool.or_false, Bool.or_true, Bool.false_or, Bool.true_or, Bool.and_true, Bool.true_and, true_and, and_true, Nat.reduceAdd, Nat.reduceLeDiff, Int.reduceLT, Int.reduceLE, Int.reduceNeg])
local macro_rules | `(tactic| walk_at "dg4") => `(tactic| try simp only [dFld, dSetFld, dFldAdd, dMeth, dMake, dMakeK, dFld2, dMinKey, dDispGet, dictAt, isi_non_dict, isi_bl_dict, isi_int_dict, isi_str_dict, isi_lst_dict, isi_tup_dict, isi_non_bs, isi_bl_bs, isi_int_bs, isi_str_bs, isi_lst_bs, isi_tup_bs, g_ix_enc0, g_ix_enc1, g_ix_sp0, g_ix_sp1, g_put_sp, Int.reduceEq, dSeq, dSet, dPar, dOp, dUn, dVar, dC, dCB, dCons, dNil, dTup, dLst, dLstM, dIfS, dIf, dTest, dNot, dAnd, dOr, dAndV, dOrV, dNotV, dRet, dRetN, dEnd, dNext, dAdd, dSub, dMul, dFdiv, dMod, dPow, dNeg, dLt, dLe, dGt, dGe, dEq, dNe, eqB_ii, eqB_bb, eqB_ss, eqB_nn, eqB_ni, eqB_in, eqB_ns, eqB_sn, eqB_is, eqB_si, eqB_nb, eqB_bn, dIn, g_ix_tup, g_ix_lst, g_ix_ext, g_ln_tup, g_ln_lst, g_ln_ext, g_nn_non, g_nn_int, g_nn_tup, g_in_non, g_in_int, g_in_tup, g_ix_row0, g_ix_row1, g_ix_row2, g_ix_span0, g_ix_span1, g_nn_span, g_nn_encR, g_in_span, cAbs, cMax2, cMin2, cInt, cList, cTuple, dIsB, dNotB, dPar3, ForN, LcN, pinOf, pin2, dEnum2, dAppend, supd_same0, isi_non_int, isi_non_bool, isi_non_str, isi_non_list, isi_non_tuple, isi_non_lt, isi_bl_int, isi_bl_bool, isi_bl_str, isi_bl_list, isi_bl_tuple, isi_bl_lt, isi_int_int, isi_int_bool, isi_int_str, isi_int_list, isi_int_tuple, isi_int_lt, isi_str_int, isi_str_bool, isi_str_str, isi_str_list, isi_str_tuple, isi_str_lt, isi_lst_int, isi_lst_bool, isi_lst_str, isi_lst_list, isi_lst_tuple, isi_lst_lt, isi_tup_int, isi_tup_bool, isi_tup_str, isi_tup_list, isi_tup_tuple, isi_tup_lt, dAug, dIAdd, dIMul, dDrop, dSl, dPart, dNoPart, dRevL, dCallK, dChainR, dAsg, put_nm, put_tp, put_tl, g_put_row, g_put_span, putL_nil, putL_cons, Option.bind, seqOf, lstOf, dFor, dLc, dLcM, dItSeq, dZip, dZipS, dEnum, dRng1, dRng2, dYes, dwipe, Tgt.slots, Tgt.slotsL,
  atI_0, atI_1, atI_2, atI_3, List.getElem?_cons_zero, List.getElem?_cons_succ, List.set_cons_zero, List.set_cons_succ, decide_eq_true_eq, List.length_cons, List.length_nil, List.cons_append, List.nil_append, List.append_nil, ofString_inj, String.reduceEq, decide_true, decide_false, reduceIte, Bool.false_eq_true, Bool.not_true, Bool.not_false, eqFlat, isFlat, List.any_cons, List.any_nil, List.all_cons, List.all_nil, Bool.or_false, Bool.or_true, Bool.false_or, Bool.true_or, Bool.and_true, Bool.true_and, true_and, and_true, Nat.reduceAdd, Nat.reduceLeDiff, Int.reduceLT, Int.reduceLE, Int.reduceNeg])
/-! ### a machine's state -/
structure Mst where
  figs : List Int
  rd : Option Int
def rdD : Option Int → D
  | none => .non
  | some i => .int i
def MF (b : Int) (kn : Kn) (e m : Int) (q : Addr) (rd : Option Int) : List (Str × D) :=
  [("own_base", .int b), ("own_kind", kn.d), ("own_begin", .int e), ("own_most", .int m), ("own_figures", .obj q), ("own_read", rdD rd)]
/-- a machine stands at p, its figures at q -/
structure MAt (S : Store) (p q : Addr) (b : Int) (kn : Kn) (e m : Int) (s : Mst) : Prop where
  o : S p = some (.ins (CT.at_ 0) (MF b kn e m q s.rd))
  f : S q = some (.lst (s.figs.map .int))
  ne : p ≠ q
/-- elsewhere nothing is otherwise -/
def But2 (S S' : Store) (p q : Addr) : Prop := ∀ a, a ≠ p → a ≠ q → S' a = S a
theorem But2.refl {S : Store} {p q : Addr} : But2 S S p q := fun _ _ _ => rfl
theorem But2.trans {S S1 S2 : Store} {p q : Addr} (h : But2 S S1 p q) (h2 : But2 S1 S2 p q) : But2 S S2 p q := fun a h1 h3 => (h2 a h1 h3).trans (h a h1 h3)
def cutR : Option Int → Rw → Rw
  | some k, r => r.cut k
  | none, r => r
def known (r : Rw) : Int := (r.fs.length : Int) - r.e
def hasN (rs : List Rw) : Option Int → Bool
  | some k => rs.all fun r => decide (k < known r)
  | none => false
def ownR (e m : Int) (s : Mst) : Rw := ⟨e, m, s.figs⟩
def rightM (b : Int) (kn : Kn) (rs : List Rw) (e m : Int) (s : Mst) : List Int := figsR b (ownR e m s) (reachQ b kn ((rs.map (cutR s.rd)).map (spanQ b)))
def figAt (r : Rw) (k : Int) : Int := if 0 < k + r.e then r.fs.getD (k + r.e - 1).toNat 0 else 0
def signs : Kn → List Int
  | .loose ws => ws
  | _ => [1]
def plainFig (kn : Kn) (rs : List Rw) (k : Int) : Int := (((signs kn).zip rs).map fun p => p.1 * figAt p.2 k).sum
def nextP (e : Int) (s : Mst) : Int := (s.figs.length : Int) + 1 - e
def Ch1 : Kn → Bool
  | .loose _ => false
  | .moved _ => false
  | _ => true
def stepM (b : Int) (kn : Kn) (rs : List Rw) (e m to : Int) (s : Mst) : Option Mst :=
  if Ch1 kn = true then
    match near (rightM b kn rs e m s) with
    | some d => if to < nextP e s then none else some ⟨s.figs ++ [d], s.rd⟩
    | none => if hasN rs s.rd = true then some ⟨s.figs, s.rd.map (· + 1)⟩ else none
  else
    match s.rd with
    | some k => if hasN rs s.rd = true ∧ nextP e s ≤ to then some ⟨s.figs ++ [plainFig kn rs (k + 1)], some (k + 1)⟩ else none
    | none => none
def firstR (rs : List Rw) : Option Int := if rs = [] then none else some (0 - maxZ (rs.map (·.e)))
/-! ### promises -/
def sp_size_ofM : DSp := fun ds S P => ∃ i : Int, ds = [.int i] ∧ P (.int (i.natAbs : Int)) S
def sp_choosesM : DSp := fun ds S P => ∃ kn : Kn, ds = [kn.d] ∧ P (.bl (Ch1 kn)) S
def sp_first_read : DSp := fun ds S P => ∃ rs : List Rw, ds = [.lst (rs.map Rw.d)] ∧ rs.length ≤ 1000 ∧ P (rdD (firstR rs)) S
def sp_figure_at : DSp := fun ds S P => ∃ (r : Rw) (k : Int), ds = [r.d, .int k] ∧ k ≤ known r ∧ P (.int (figAt r k)) S
def sp_Machine_init : DSp := fun ds S P => ∃ (p : Addr) (b : Int) (kn : Kn) (rs : List Rw) (e m : Int), ds = [.obj p, .int b, kn.d, .lst (rs.map Rw.d), .int e, .int m] ∧ rs.length ≤ 1000 ∧ S p = some (.ins (CT.at_ 0) []) ∧
  ∀ q S', S q = none → q ≠ p → MAt S' p q b kn e m ⟨[], firstR rs⟩ → But2 S S' p q → P .non S'
def sp_Machine_row : DSp := fun ds S P => ∃ (p q : Addr) (b : Int) (kn : Kn) (e m : Int) (s : Mst), ds = [.obj p] ∧ MAt S p q b kn e m s ∧ s.figs.length ≤ 1000 ∧ P (ownR e m s).d S
def sp_Machine_next_place : DSp := fun ds S P => ∃ (p q : Addr) (b : Int) (kn : Kn) (e m : Int) (s : Mst), ds = [.obj p] ∧ MAt S p q b kn e m s ∧ P (.int (nextP e s)) S
def sp_Machine_seen : DSp := fun ds S P => ∃ (p q : Addr) (b : Int) (kn : Kn) (e m : Int) (s : Mst) (rs : List Rw), ds = [.obj p, .lst (rs.map Rw.d)] ∧ MAt S p q b kn e m s ∧ rs.length ≤ 1000 ∧ (rs ≠ [] → s.rd ≠ none) ∧ P (.lst ((rs.map (cutR s.rd)).map Rw.d)) S
def sp_Machine_has_next : DSp := fun ds S P => ∃ (p q : Addr) (b : Int) (kn : Kn) (e m : Int) (s : Mst) (rs : List Rw), ds = [.obj p, .lst (rs.map Rw.d)] ∧ MAt S p q b kn e m s ∧ rs.length ≤ 1000 ∧ P (.bl (hasN rs s.rd)) S
def optD : Option Int → D
  | none => .non
  | some i => .int i
def sp_Machine_right_one : DSp := fun ds S P => ∃ (p q : Addr) (b : Int) (kn : Kn) (e m : Int) (s : Mst) (rs : List Rw), ds = [.obj p, .lst (rs.map Rw.d)] ∧ MAt S p q b kn e m s ∧ rs.length ≤ 1000 ∧ (rs ≠ [] → s.rd ≠ none) ∧ Fine b kn (rs.map (cutR s.rd)) (ownR e m s) ∧
  P (optD (near (rightM b kn rs e m s))) S
/-- what a step wants -/
structure StepOk (b : Int) (kn : Kn) (rs : List Rw) (e m : Int) (s : Mst) : Prop where
  l : rs.length ≤ 1000
  n : s.figs.length ≤ 900
  r : rs ≠ [] → s.rd ≠ none
  ch : Ch1 kn = true → Fine b kn (rs.map (cutR s.rd)) (ownR e m s)
  pl : Ch1 kn = false → rs.length = kn.many ∧ (∀ w, w ∈ signs kn → w.natAbs ≤ 1000)
def sp_Machine_plain_step : DSp := fun ds S P => ∃ (p q : Addr) (b : Int) (kn : Kn) (e m to : Int) (s : Mst) (rs : List Rw), ds = [.obj p, .lst (rs.map Rw.d), .int to] ∧ MAt S p q b kn e m s ∧ Ch1 kn = false ∧ StepOk b kn rs e m s ∧
  (stepM b kn rs e m to s = none → P (.bl false) S) ∧ ∀ s' S', stepM b kn rs e m to s = some s' → MAt S' p q b kn e m s' → But2 S S' p q → P (.bl true) S'
def sp_Machine_step : DSp := fun ds S P => ∃ (p q : Addr) (b : Int) (kn : Kn) (e m to : Int) (s : Mst) (rs : List Rw), ds = [.obj p, .lst (rs.map Rw.d), .int to] ∧ MAt S p q b kn e m s ∧ StepOk b kn rs e m s ∧
  (stepM b kn rs e m to s = none → P (.bl false) S) ∧ ∀ s' S', stepM b kn rs e m to s = some s' → MAt S' p q b kn e m s' → But2 S S' p q → P (.bl true) S'
def rd_size_ofM : DS :=
  (dRet (dCB cAbs (dCons (dVar 0) dNil)))
def goal_size_ofM : Prop := ∀ (x0 : D) (S : Store) (P : D → Store → Prop), sp_size_ofM [x0] S P → rd_size_ofM (dEnd P) [some x0] S
def rd_choosesM : DS :=
  (dRet (dOp (dIn true) (dOp dIx (dVar 0) (dC (.int 0))) (dC (.tup [(.str "loose"), (.str "moved")]))))
def goal_choosesM : Prop := ∀ (x0 : D) (S : Store) (P : D → Store → Prop), sp_choosesM [x0] S P → rd_choosesM (dEnd P) [some x0] S
def rd_first_read : DS :=
  (dRet (dIf (dTest (dOp dEq (dCB cLen (dCons (dVar 0) dNil)) (dC (.int 0)))) (dC .non) (dOp dSub (dC (.int 0)) (dCB cMaxL (dCons (dLc (dItSeq (dVar 0)) (.nm 1) dYes (dOp dIx (dVar 1) (dC (.int 0)))) dNil)))))
def goal_first_read : Prop := ∀ (x0 : D) (S : Store) (P : D → Store → Prop), sp_first_read [x0] S P → rd_first_read (dEnd P) [some x0, none] S
def rd_figure_at : DS :=
  (dSeq (dAsg (.tp [(.nm 2), (.nm 3), (.nm 4)]) (dVar 0))
  (dRet (dIf (dTest (dOp dGt (dOp dAdd (dVar 1) (dVar 2)) (dC (.int 0)))) (dOp dIx (dVar 4) (dOp dSub (dOp dAdd (dVar 1) (dVar 2)) (dC (.int 1)))) (dC (.int 0)))))
def goal_figure_at : Prop := ∀ (x0 x1 : D) (S : Store) (P : D → Store → Prop), sp_figure_at [x0, x1] S P → rd_figure_at (dEnd P) [some x0, some x1, none, none, none] S
def rd_Machine_init : DS :=
  (dSeq (dFld2 0 "own_base" "own_kind" 0 (dVar 1) (dVar 2))
  (dSeq (dFld2 0 "own_begin" "own_most" 0 (dVar 4) (dVar 5))
  (dSeq (dSetFld 0 "own_figures" (dVar 0) (dLstM dNil))
  (dSetFld 0 "own_read" (dVar 0) (dCB sp_first_read (dCons (dVar 3) dNil))))))
def goal_Machine_init : Prop := ∀ (x0 x1 x2 x3 x4 x5 : D) (S : Store) (P : D → Store → Prop), sp_Machine_init [x0, x1, x2, x3, x4, x5] S P → rd_Machine_init (dEnd P) [some x0, some x1, some x2, some x3, some x4, some x5] S
def rd_Machine_row : DS :=
  (dRet (dTup (dCons (dFld 0 "own_begin" (dVar 0)) (dCons (dFld 0 "own_most" (dVar 0)) (dCons (dCB cTuple (dCons (dFld 0 "own_figures" (dVar 0)) dNil)) dNil)))))
def goal_Machine_row : Prop := ∀ (x0 : D) (S : Store) (P : D → Store → Prop), sp_Machine_row [x0] S P → rd_Machine_row (dEnd P) [some x0] S
def rd_Machine_next_place : DS :=
  (dRet (dOp dSub (dOp dAdd (dCB cLen (dCons (dFld 0 "own_figures" (dVar 0)) dNil)) (dC (.int 1))) (dFld 0 "own_begin" (dVar 0))))
def goal_Machine_next_place : Prop := ∀ (x0 : D) (S : Store) (P : D → Store → Prop), sp_Machine_next_place [x0] S P → rd_Machine_next_place (dEnd P) [some x0] S
def rd_Machine_seen : DS :=
  (dRet (dLc (dItSeq (dVar 1)) (.nm 2) dYes (dCB sp_cut_of (dCons (dVar 2) (dCons (dFld 0 "own_read" (dVar 0)) dNil)))))
def goal_Machine_seen : Prop := ∀ (x0 x1 : D) (S : Store) (P : D → Store → Prop), sp_Machine_seen [x0, x1] S P → rd_Machine_seen (dEnd P) [some x0, some x1, none] S
def rd_Machine_has_next : DS :=
  (dRet (dAndV (dOp dNotN (dFld 0 "own_read" (dVar 0)) (dC .non)) (dCB cAll (dCons (dLc (dItSeq (dVar 1)) (.nm 2) dYes (dOp dGt (dCB sp_known_to (dCons (dVar 2) dNil)) (dFld 0 "own_read" (dVar 0)))) dNil))))
def goal_Machine_has_next : Prop := ∀ (x0 x1 : D) (S : Store) (P : D → Store → Prop), sp_Machine_has_next [x0, x1] S P → rd_Machine_has_next (dEnd P) [some x0, some x1, none] S
def rd_Machine_right_one : DS :=
  (dSeq (dSet 2 (dCB sp_right_figuresG (dCons (dFld 0 "own_base" (dVar 0)) (dCons (dFld 0 "own_kind" (dVar 0)) (dCons (dMeth 0 "seen" sp_Machine_seen (dVar 0) (dCons (dVar 1) dNil)) (dCons (dMeth 0 "row" sp_Machine_row (dVar 0) dNil) dNil))))))
  (dRet (dIf (dTest (dOp dGt (dCB cLen (dCons (dVar 2) dNil)) (dC (.int 0)))) (dMinKey sp_size_ofM (dVar 2)) (dC .non))))
def goal_Machine_right_one : Prop := ∀ (x0 x1 : D) (S : Store) (P : D → Store → Prop), sp_Machine_right_one [x0, x1] S P → rd_Machine_right_one (dEnd P) [some x0, some x1, none] S
def rd_Machine_plain_step : DS :=
  (dSeq (dIfS (dOr (dNot (dTest (dMeth 0 "has_next" sp_Machine_has_next (dVar 0) (dCons (dVar 1) dNil)))) (dTest (dOp dGt (dMeth 0 "next_place" sp_Machine_next_place (dVar 0) dNil) (dVar 2)))) (dRet (dC (.bl false))) dNext)
  (dSeq (dFldAdd 0 "own_read" (dVar 0) (dC (.int 1)))
  (dSeq (dSet 3 (dIf (dTest (dOp dEq (dOp dIx (dFld 0 "own_kind" (dVar 0)) (dC (.int 0))) (dC (.str "loose")))) (dOp dIx (dFld 0 "own_kind" (dVar 0)) (dC (.int 1))) (dTup (dCons (dC (.int 1)) dNil))))
  (dSeq (dSet 4 (dLc (dZipS (dCons (dVar 3) (dCons (dVar 1) dNil))) (.tp [(.nm 5), (.nm 6)]) dYes (dOp dMul (dVar 5) (dCB sp_figure_at (dCons (dVar 6) (dCons (dFld 0 "own_read" (dVar 0)) dNil))))))
  (dSeq (dDrop (dAppend (dFld 0 "own_figures" (dVar 0)) (dCB cSum (dCons (dVar 4) dNil))))
  (dRet (dC (.bl true))))))))
def goal_Machine_plain_step : Prop := ∀ (x0 x1 x2 : D) (S : Store) (P : D → Store → Prop), sp_Machine_plain_step [x0, x1, x2] S P → rd_Machine_plain_step (dEnd P) [some x0, some x1, some x2, none, none, none, none] S
def rd_Machine_step : DS :=
  (dSeq (dIfS (dNot (dTest (dCB sp_choosesM (dCons (dFld 0 "own_kind" (dVar 0)) dNil)))) (dRet (dMeth 0 "plain_step" sp_Machine_plain_step (dVar 0) (dCons (dVar 1) (dCons (dVar 2) dNil)))) dNext)
  (dSeq (dSet 3 (dMeth 0 "right_one" sp_Machine_right_one (dVar 0) (dCons (dVar 1) dNil)))
  (dSeq (dIfS (dTest (dOp dNotN (dVar 3) (dC .non))) (dSeq (dIfS (dTest (dOp dGt (dMeth 0 "next_place" sp_Machine_next_place (dVar 0) dNil) (dVar 2))) (dRet (dC (.bl false))) dNext)
  (dSeq (dDrop (dAppend (dFld 0 "own_figures" (dVar 0)) (dVar 3)))
  (dRet (dC (.bl true))))) dNext)
  (dSeq (dIfS (dNot (dTest (dMeth 0 "has_next" sp_Machine_has_next (dVar 0) (dCons (dVar 1) dNil)))) (dRet (dC (.bl false))) dNext)
  (dSeq (dFldAdd 0 "own_read" (dVar 0) (dC (.int 1)))
  (dRet (dC (.bl true))))))))
def goal_Machine_step : Prop := ∀ (x0 x1 x2 : D) (S : Store) (P : D → Store → Prop), sp_Machine_step [x0, x1, x2] S P → rd_Machine_step (dEnd P) [some x0, some x1, some x2, none] S
theorem len_size_ofM : ∀ ds S P, sp_size_ofM ds S P → ds.length = 1 := by rintro ds S P ⟨a, rfl, _⟩; rfl
theorem len_choosesM : ∀ ds S P, sp_choosesM ds S P → ds.length = 1 := by rintro ds S P ⟨a, rfl, _⟩; rfl
theorem len_first_read : ∀ ds S P, sp_first_read ds S P → ds.length = 1 := by rintro ds S P ⟨a, rfl, _⟩; rfl
theorem len_figure_at : ∀ ds S P, sp_figure_at ds S P → ds.length = 2 := by rintro ds S P ⟨a, b, rfl, _⟩; rfl
theorem len_Machine_init : ∀ ds S P, sp_Machine_init ds S P → ds.length = 6 := by rintro ds S P ⟨a, b, c, d, e, f, rfl, _⟩; rfl
theorem len_Machine_row : ∀ ds S P, sp_Machine_row ds S P → ds.length = 1 := by rintro ds S P ⟨a, b, c, d, e, f, g, rfl, _⟩; rfl
theorem len_Machine_next_place : ∀ ds S P, sp_Machine_next_place ds S P → ds.length = 1 := by rintro ds S P ⟨a, b, c, d, e, f, g, rfl, _⟩; rfl
theorem len_Machine_seen : ∀ ds S P, sp_Machine_seen ds S P → ds.length = 2 := by rintro ds S P ⟨a, b, c, d, e, f, g, h, rfl, _⟩; rfl
theorem len_Machine_has_next : ∀ ds S P, sp_Machine_has_next ds S P → ds.length = 2 := by rintro ds S P ⟨a, b, c, d, e, f, g, h, rfl, _⟩; rfl
theorem len_Machine_right_one : ∀ ds S P, sp_Machine_right_one ds S P → ds.length = 2 := by rintro ds S P ⟨a, b, c, d, e, f, g, h, rfl, _⟩; rfl
theorem len_Machine_plain_step : ∀ ds S P, sp_Machine_plain_step ds S P → ds.length = 3 := by rintro ds S P ⟨a, b, c, d, e, f, g, h, i, rfl, _⟩; rfl
theorem len_Machine_step : ∀ ds S P, sp_Machine_step ds S P → ds.length = 3 := by rintro ds S P ⟨a, b, c, d, e, f, g, h, i, rfl, _⟩; rfl
theorem vc_size_ofM : goal_size_ofM := by
  rintro x0 S P ⟨i, e, h⟩
  cases e
  unfold rd_size_ofM
  walk_at "dg3"
  rw [abs_if]
  exact h
theorem vc_choosesM : goal_choosesM := by
  rintro x0 S P ⟨kn, e, h⟩
  cases e
  unfold rd_choosesM
  cases kn <;> unfold Kn.d <;> walk_at "dg3" <;> exact h
theorem vc_first_read : goal_first_read := by
  rintro x0 S P ⟨rs, e, hl, h⟩
  cases e
  unfold rd_first_read
  walk_at "dg3"
  rw [List.length_map]
  unfold firstR at h
  by_cases hr : rs = []
  · subst hr
    walk_at "dg3"
    exact h
  · rw [if_neg hr] at h
    have : ¬ ((rs.length : Int) = 0) := by have := List.length_pos_iff.mpr hr; omega
    simp only [this, decide_false, Bool.false_eq_true, reduceIte]
    refine lc_mapA Rw.d (fun r => .int r.e) (by omega) (fun r hr => ⟨_, rfl, fun Q q => by walk_at "dg3"; exact q⟩) ?_
    rw [show (rs.map fun r => D.int r.e) = (rs.map (·.e)).map .int by rw [List.map_map]; rfl]
    refine maxZ_ok (by simpa using hr) ?_
    exact h
theorem vc_figure_at : goal_figure_at := by
  rintro x0 x1 S P ⟨r, k, e, hk, h⟩
  cases e
  unfold rd_figure_at
  walk_at "dg3"
  unfold figAt at h
  unfold known at hk
  by_cases c : 0 < k + r.e
  · have c2 : k + r.e > 0 := c
    rw [if_pos c] at h
    simp only [c2, decide_true, reduceIte]
    have hi : (k + r.e - 1).toNat < r.fs.length := by omega
    rw [atI_at (by omega) (by rw [List.length_map]; omega), List.getElem?_map, List.getElem?_eq_getElem hi]
    rw [List.getD_eq_getElem?_getD, List.getElem?_eq_getElem hi] at h
    exact h
  · have c2 : ¬ k + r.e > 0 := c
    rw [if_neg c] at h
    simp only [c2, decide_false, Bool.false_eq_true, reduceIte]
    exact h
theorem lk_base {b : Int} {kn : Kn} {e m : Int} {q : Addr} {rd : Option Int} : (MF b kn e m q rd).lookup ("own_base" : Str) = some (D.int b) := by rfl
theorem lk_kind {b : Int} {kn : Kn} {e m : Int} {q : Addr} {rd : Option Int} : (MF b kn e m q rd).lookup ("own_kind" : Str) = some kn.d := by rfl
theorem lk_begin {b : Int} {kn : Kn} {e m : Int} {q : Addr} {rd : Option Int} : (MF b kn e m q rd).lookup ("own_begin" : Str) = some (D.int e) := by rfl
theorem lk_most {b : Int} {kn : Kn} {e m : Int} {q : Addr} {rd : Option Int} : (MF b kn e m q rd).lookup ("own_most" : Str) = some (D.int m) := by rfl
theorem lk_figs {b : Int} {kn : Kn} {e m : Int} {q : Addr} {rd : Option Int} : (MF b kn e m q rd).lookup ("own_figures" : Str) = some (D.obj q) := by rfl
theorem lk_read {b : Int} {kn : Kn} {e m : Int} {q : Addr} {rd : Option Int} : (MF b kn e m q rd).lookup ("own_read" : Str) = some (rdD rd) := by rfl
theorem lk_no {b : Int} {kn : Kn} {e m : Int} {q : Addr} {rd : Option Int} : (MF b kn e m q rd).lookup ("row" : Str) = none ∧ (MF b kn e m q rd).lookup ("next_place" : Str) = none ∧ (MF b kn e m q rd).lookup ("seen" : Str) = none ∧ (MF b kn e m q rd).lookup ("has_next" : Str) = none ∧ (MF b kn e m q rd).lookup ("right_one" : Str) = none ∧ (MF b kn e m q rd).lookup ("plain_step" : Str) = none ∧ (MF b kn e m q rd).lookup ("step" : Str) = none := by
  refine ⟨?_, ?_, ?_, ?_, ?_, ?_, ?_⟩ <;> rfl
theorem put_read {b : Int} {kn : Kn} {e m : Int} {q : Addr} {rd rd' : Option Int} : putD "own_read" (rdD rd') (MF b kn e m q rd) = MF b kn e m q rd' := by rfl
theorem put_small {f : Str} {x : D} {fs : List (Str × D)} {n : Nat} (h : fs.length < n) : (putD f x fs).length < n + 1 := Nat.lt_of_le_of_lt (putD_len f x fs) (Nat.succ_lt_succ h)
theorem vc_Machine_init : goal_Machine_init := by
  rintro x0 x1 x2 x3 x4 x5 S P ⟨p, b, kn, rs, e, m, er, hl, hp, h⟩
  cases er
  unfold rd_Machine_init
  walk_at "dg4"
  refine ⟨p, [], rfl, hp, by decide, ?_⟩
  refine ⟨p, _, rfl, supd_same, Nat.lt_of_lt_of_le (put_small (put_small (n := 1) (by decide))) (by decide), ?_⟩
  intro q hq
  have qp : q ≠ p := fun z => by subst z; rw [supd_same] at hq; cases hq
  rw [supd_supd] at hq
  rw [supd_ne qp] at hq
  refine ⟨p, _, rfl, by rw [supd_ne qp.symm, supd_same], Nat.lt_of_lt_of_le (put_small (put_small (put_small (put_small (n := 1) (by decide))))) (by decide), ?_⟩
  refine ⟨rs, rfl, hl, ?_⟩
  refine ⟨p, _, rfl, supd_same, Nat.lt_of_lt_of_le (put_small (put_small (put_small (put_small (put_small (n := 1) (by decide)))))) (by decide), ?_⟩
  refine h q _ hq qp ⟨supd_same, ?_, qp.symm⟩ fun a h1 h2 => ?_
  · rw [supd_ne qp, supd_ne qp, supd_same]; rfl
  · rw [supd_ne h1, supd_ne h1, supd_ne h2, supd_ne h1, supd_ne h1]
theorem vc_Machine_row : goal_Machine_row := by
  rintro x0 S P ⟨p, q, b, kn, e, m, s, er, M, hl, h⟩
  cases er
  unfold rd_Machine_row
  walk_at "dg4"
  refine ⟨p, _, _, rfl, M.o, lk_begin, p, _, _, rfl, M.o, lk_most, p, _, _, rfl, M.o, lk_figs, ?_⟩
  dsimp only
  rw [M.f]
  walk_at "dg4"
  exact h
theorem vc_Machine_next_place : goal_Machine_next_place := by
  rintro x0 S P ⟨p, q, b, kn, e, m, s, er, M, h⟩
  cases er
  unfold rd_Machine_next_place
  walk_at "dg4"
  refine ⟨p, _, _, rfl, M.o, lk_figs, ?_⟩
  rw [ln_obj M.f, List.length_map]
  walk_at "dg4"
  refine ⟨p, _, _, rfl, M.o, lk_begin, ?_⟩
  walk_at "dg4"
  exact h
theorem vc_Machine_seen : goal_Machine_seen := by
  rintro x0 x1 S P ⟨p, q, b, kn, e, m, s, rs, er, M, hl, hr, h⟩
  cases er
  unfold rd_Machine_seen
  walk_at "dg4"
  refine lc_mapA Rw.d (fun r => (cutR s.rd r).d) (by omega) (fun r hm => ⟨_, rfl, fun Q k => ?_⟩) ?_
  · walk_at "dg4"
    refine ⟨p, _, _, rfl, M.o, lk_read, ?_⟩
    have : s.rd ≠ none := hr (List.ne_nil_of_mem hm)
    cases e1 : s.rd with
    | none => exact absurd e1 this
    | some k0 =>
      rw [e1] at k
      exact ⟨r, k0, rfl, k⟩
  · rw [show (rs.map fun r => (cutR s.rd r).d) = (rs.map (cutR s.rd)).map Rw.d by rw [List.map_map]; rfl]
    exact h
theorem all_F {α : Type} (F : α → Bool) (xs : List α) {S : Store} {P : D → Store → Prop} (h : P (.bl (xs.all F)) S) : cAll [.lst (xs.map fun x => .bl (F x))] S P := by
  unfold cAll
  simp only [lstOf, Option.bind, dBools_mapF]
  have : (xs.map F).all id = xs.all F := by rw [List.all_map]; rfl
  rw [this]; exact h
theorem vc_Machine_has_next : goal_Machine_has_next := by
  rintro x0 x1 S P ⟨p, q, b, kn, e, m, s, rs, er, M, hl, h⟩
  cases er
  unfold rd_Machine_has_next
  walk_at "dg4"
  refine ⟨p, _, _, rfl, M.o, lk_read, ?_⟩
  cases e1 : s.rd with
  | none =>
    rw [e1] at h
    unfold rdD
    walk_at "dg4"
    exact h
  | some k =>
    rw [e1] at h
    unfold rdD
    walk_at "dg4"
    refine lc_mapA Rw.d (fun r => .bl (decide (k < known r))) (by omega) (fun r hm => ⟨_, rfl, fun Q k => ?_⟩) ?_
    · walk_at "dg4"
      refine ⟨r, rfl, ?_⟩
      refine ⟨p, _, _, rfl, M.o, lk_read, ?_⟩
      rw [e1]
      exact k
    exact all_F _ rs h
theorem vc_Machine_right_one : goal_Machine_right_one := by
  rintro x0 x1 S P ⟨p, q, b, kn, e, m, s, rs, er, M, hl, hr, F, h⟩
  cases er
  unfold rd_Machine_right_one
  walk_at "dg4"
  refine ⟨p, _, _, rfl, M.o, lk_base, p, _, _, rfl, M.o, lk_kind, p, _, rfl, M.o, lk_no.2.2.1, ?_⟩
  refine ⟨p, q, b, kn, e, m, s, rs, rfl, M, hl, hr, ?_⟩
  refine ⟨p, _, rfl, M.o, lk_no.1, ?_⟩
  have ol := F.own.l
  refine ⟨p, q, b, kn, e, m, s, rfl, M, by show s.figs.length ≤ 1000; unfold ownR at ol; simp at ol; omega, ?_⟩
  refine ⟨b, kn, _, _, _, rfl, .inl rfl, F, ?_⟩
  walk_at "dg4"
  rw [List.length_map]
  change P (optD (near (figsR b (ownR e m s) (reachQ b kn ((rs.map (cutR s.rd)).map (spanQ b)))))) S at h
  obtain ⟨lo, n, hv⟩ := figs_ivl2 (b := b) (r := ownR e m s) (q := reachQ b kn ((rs.map (cutR s.rd)).map (spanQ b))) F.own
  generalize figsR b (ownR e m s) (reachQ b kn ((rs.map (cutR s.rd)).map (spanQ b))) = xs at *
  by_cases hx : xs = []
  · subst hx
    walk_at "dg4"
    exact h
  · have lp := List.length_pos_iff.mpr hx
    have c : ((xs.length : Int) > 0) := by omega
    simp only [c, decide_true, reduceIte]
    obtain ⟨d, hd⟩ : ∃ d, near xs = some d := by
      cases q : near xs with
      | none => exact absurd (near_none.mp q) hx
      | some d => exact ⟨d, rfl⟩
    rw [hd] at h
    obtain ⟨n1, n2⟩ := near_is hd
    refine ⟨xs, fun i => (i.natAbs : Int), rfl, hx, fun i hi S' Q _ q => ⟨i, rfl, q⟩, fun d' h1 h2 => ?_⟩
    have : d' = d := by
      rw [hv] at h1 n1 h2 n2
      exact near_uniq h1 n1 (fun y hy => by have := h2 y hy; dsimp only at this; omega) n2
    subst this
    exact h
theorem MAt.put {S : Store} {p q : Addr} {b : Int} {kn : Kn} {e m : Int} {s : Mst} (M : MAt S p q b kn e m s) (rd : Option Int) : MAt (supd S p (.ins (CT.at_ 0) (MF b kn e m q rd))) p q b kn e m ⟨s.figs, rd⟩ ∧ But2 S (supd S p (.ins (CT.at_ 0) (MF b kn e m q rd))) p q :=
  ⟨⟨supd_same, by rw [supd_ne M.ne.symm]; exact M.f, M.ne⟩, fun a h1 h2 => supd_ne h1⟩
theorem MAt.add {S : Store} {p q : Addr} {b : Int} {kn : Kn} {e m : Int} {s : Mst} (M : MAt S p q b kn e m s) (d : Int) : MAt (supd S q (.lst (s.figs.map .int ++ [.int d]))) p q b kn e m ⟨s.figs ++ [d], s.rd⟩ ∧ But2 S (supd S q (.lst (s.figs.map .int ++ [.int d]))) p q :=
  ⟨⟨by rw [supd_ne M.ne]; exact M.o, by rw [supd_same]; simp, M.ne⟩, fun a h1 h2 => supd_ne h2⟩
theorem MF_len {b : Int} {kn : Kn} {e m : Int} {q : Addr} {rd : Option Int} : (MF b kn e m q rd).length < 900 := by show 6 < 900; decide
theorem vc_Machine_plain_step : goal_Machine_plain_step := by
  rintro x0 x1 x2 S P ⟨p, q, b, kn, e, m, to, s, rs, er, M, hc, ok, hn, hs⟩
  cases er
  have pl := ok.pl hc
  unfold rd_Machine_plain_step
  walk_at "dg4"
  refine ⟨p, _, rfl, M.o, lk_no.2.2.2.1, ?_⟩
  refine ⟨p, q, b, kn, e, m, s, rs, rfl, M, ok.l, ?_⟩
  have h0 : stepM b kn rs e m to s = match s.rd with
    | some k => if hasN rs s.rd = true ∧ nextP e s ≤ to then some ⟨s.figs ++ [plainFig kn rs (k + 1)], some (k + 1)⟩ else none
    | none => none := by unfold stepM; rw [if_neg (by rw [hc]; simp)]
  by_cases hh : hasN rs s.rd = true
  · rw [hh]
    walk_at "dg4"
    refine ⟨p, _, rfl, M.o, lk_no.2.1, ?_⟩
    refine ⟨p, q, b, kn, e, m, s, rfl, M, ?_⟩
    cases e1 : s.rd with
    | none => rw [e1] at hh; cases hh
    | some k =>
    rw [e1] at h0 hh
    walk_at "dg4"
    by_cases hp : to < nextP e s
    · have hp2 : nextP e s > to := hp
      simp only [hp2, decide_true, reduceIte]
      exact hn (by rw [h0]; dsimp only; rw [if_neg (by omega)])
    · have hp2 : ¬ nextP e s > to := hp
      simp only [hp2, decide_false, Bool.false_eq_true, reduceIte]
      have hst : stepM b kn rs e m to s = some ⟨s.figs ++ [plainFig kn rs (k + 1)], some (k + 1)⟩ := by rw [h0]; dsimp only; rw [if_pos ⟨hh, by omega⟩]
      refine ⟨p, _, k, rfl, M.o, by rw [e1]; exact lk_read, 1, _, rfl, M.o, MF_len, ?_⟩
      rw [show putD "own_read" (.int (k + 1)) (MF b kn e m q s.rd) = MF b kn e m q (some (k + 1)) from put_read (rd' := some (k + 1))]
      obtain ⟨M1, bt1⟩ := M.put (some (k + 1))
      generalize supd S p (.ins (CT.at_ 0) (MF b kn e m q (some (k + 1)))) = S1 at *
      refine ⟨p, _, _, rfl, M1.o, lk_kind, ?_⟩
      have key : ∀ z4, (dSeq (dSet 4 (dLc (dZipS (dCons (dVar 3) (dCons (dVar 1) dNil))) (.tp [(.nm 5), (.nm 6)]) dYes (dOp dMul (dVar 5) (dCB sp_figure_at (dCons (dVar 6) (dCons (dFld 0 "own_read" (dVar 0)) dNil))))))
          (dSeq (dDrop (dAppend (dFld 0 "own_figures" (dVar 0)) (dCB cSum (dCons (dVar 4) dNil)))) (dRet (dC (.bl true))))) (dEnd P) [some (.obj p), some (.lst (rs.map Rw.d)), some (.int to), some (.tup ((signs kn).map .int)), z4, none, none] S1 := fun z4 => by
        walk_at "dg4"
        rw [List.length_map, List.length_map]
        have ls : (signs kn).length = rs.length := by
          cases kn with
          | loose ws => exact pl.1.symm
          | moved k => exact pl.1.symm
          | _ => cases hc
        refine ⟨ls, ?_⟩
        rw [zipD_map]
        have rl := ok.l
        refine lc_mapA _ (fun z => .int (z.1 * figAt z.2 (k + 1))) (by simp; omega) (fun z hz => ⟨_, rfl, fun Q kq => ?_⟩) ?_
        · obtain ⟨z1, z2⟩ := List.of_mem_zip hz
          walk_at "dg4"
          refine ⟨p, _, _, rfl, M1.o, lk_read, ?_⟩
          refine ⟨z.2, k + 1, rfl, ?_, ?_⟩
          · have := List.all_eq_true.mp hh _ z2
            rw [decide_eq_true_eq] at this
            omega
          walk_at "dg4"
          have := pl.2 _ z1
          exact ⟨mulS (by omega), kq⟩
        rw [show (((signs kn).zip rs).map fun z => D.int (z.1 * figAt z.2 (k + 1))) = (((signs kn).zip rs).map fun z => z.1 * figAt z.2 (k + 1)).map .int by rw [List.map_map]; rfl]
        refine ⟨p, _, _, rfl, M1.o, lk_figs, _, M1.f, sum_ok ?_⟩
        obtain ⟨M2, bt2⟩ := M1.add (plainFig kn rs (k + 1))
        refine ⟨_, M1.f, by rw [List.length_map]; have := ok.n; show s.figs.length < _; omega, ?_⟩
        exact hs _ _ hst M2 (bt1.trans bt2)
      cases kn with
      | loose ws => unfold Kn.d; walk_at "dg4"; refine ⟨p, _, _, rfl, M1.o, lk_kind, ?_⟩; exact key none
      | moved k => unfold Kn.d; walk_at "dg4"; exact key none
      | _ => cases hc
  · have hh2 : hasN rs s.rd = false := by simpa using hh
    rw [hh2]
    walk_at "dg4"
    refine hn ?_
    rw [h0]
    cases e1 : s.rd with
    | none => rfl
    | some k => dsimp only; rw [if_neg (by rw [← e1]; exact fun z => hh z.1)]
theorem vc_Machine_step : goal_Machine_step := by
  rintro x0 x1 x2 S P ⟨p, q, b, kn, e, m, to, s, rs, er, M, ok, hn, hs⟩
  cases er
  unfold rd_Machine_step
  walk_at "dg4"
  refine ⟨p, _, _, rfl, M.o, lk_kind, kn, rfl, ?_⟩
  walk_at "dg4"
  by_cases hc : Ch1 kn = true
  · rw [hc]
    walk_at "dg4"
    refine ⟨p, _, rfl, M.o, lk_no.2.2.2.2.1, ?_⟩
    refine ⟨p, q, b, kn, e, m, s, rs, rfl, M, ok.l, ok.r, ok.ch hc, ?_⟩
    have h0 : stepM b kn rs e m to s = match near (rightM b kn rs e m s) with
      | some d => if to < nextP e s then none else some ⟨s.figs ++ [d], s.rd⟩
      | none => if hasN rs s.rd = true then some ⟨s.figs, s.rd.map (· + 1)⟩ else none := by unfold stepM; rw [if_pos hc]
    cases hd : near (rightM b kn rs e m s) with
    | some d =>
      rw [hd] at h0
      unfold optD
      walk_at "dg4"
      refine ⟨p, _, rfl, M.o, lk_no.2.1, ?_⟩
      refine ⟨p, q, b, kn, e, m, s, rfl, M, ?_⟩
      walk_at "dg4"
      by_cases hp : to < nextP e s
      · have hp2 : nextP e s > to := hp
        simp only [hp2, decide_true, reduceIte]
        exact hn (by rw [h0]; dsimp only; rw [if_pos hp])
      · have hp2 : ¬ nextP e s > to := hp
        simp only [hp2, decide_false, Bool.false_eq_true, reduceIte]
        refine ⟨p, _, _, rfl, M.o, lk_figs, ?_⟩
        obtain ⟨M2, bt2⟩ := M.add d
        refine ⟨_, M.f, _, M.f, by rw [List.length_map]; have := ok.n; omega, ?_⟩
        exact hs _ _ (by rw [h0]; dsimp only; rw [if_neg hp]) M2 bt2
    | none =>
      rw [hd] at h0
      unfold optD
      walk_at "dg4"
      refine ⟨p, _, rfl, M.o, lk_no.2.2.2.1, ?_⟩
      refine ⟨p, q, b, kn, e, m, s, rs, rfl, M, ok.l, ?_⟩
      by_cases hh : hasN rs s.rd = true
      · rw [hh]
        walk_at "dg4"
        cases e1 : s.rd with
        | none => rw [e1] at hh; cases hh
        | some k =>
        refine ⟨p, _, k, rfl, M.o, by rw [e1]; exact lk_read, 1, _, rfl, M.o, MF_len, ?_⟩
        rw [show putD "own_read" (.int (k + 1)) (MF b kn e m q s.rd) = MF b kn e m q (some (k + 1)) from put_read (rd' := some (k + 1))]
        obtain ⟨M1, bt1⟩ := M.put (some (k + 1))
        exact hs _ _ (by rw [h0]; dsimp only; rw [if_pos hh, e1]; rfl) M1 bt1
      · have hh2 : hasN rs s.rd = false := by simpa using hh
        rw [hh2]
        walk_at "dg4"
        exact hn (by rw [h0]; dsimp only; rw [if_neg hh])
  · have hc2 : Ch1 kn = false := by simpa using hc
    rw [hc2]
    walk_at "dg4"
    refine ⟨p, _, rfl, M.o, lk_no.2.2.2.2.2.1, ?_⟩
    exact ⟨p, q, b, kn, e, m, to, s, rs, rfl, M, hc2, ok, hn, hs⟩
end Lb

/-! Machines: runs. -/
namespace Lb
open PySem PySem.Spec PyProof.Rows L2 DL
variable [CT]
local macro_rules | `(tactic| walk_at "dg3") => `(tactic| try simp only [dDispGet, dictAt, isi_non_dict, isi_bl_dict, isi_int_dict, isi_str_dict, isi_lst_dict, isi_tup_dict, isi_non_bs, isi_bl_bs, isi_int_bs, isi_str_bs, isi_lst_bs, isi_tup_bs, g_ix_enc0, g_ix_enc1, g_ix_sp0, g_ix_sp1, g_put_sp, Int.reduceEq, dSeq, dSet, dPar, dOp, dUn, dVar, dC, dCB, dCons, dNil, dTup, dLst, dLstM, dIfS, dIf, dTest, dNot, dAnd, dOr, dAndV, dOrV, dNotV, dRet, dRetN, dEnd, dNext, dAdd, dSub, dMul, dFdiv, dMod, dPow, dNeg, dLt, dLe, dGt, dGe, dEq, dNe, eqB_ii, eqB_bb, eqB_ss, eqB_nn, eqB_ni, eqB_in, eqB_ns, eqB_sn, eqB_is, eqB_si, eqB_nb, eqB_bn, dIn, g_ix_tup, g_ix_lst, g_ix_ext, g_ln_tup, g_ln_lst, g_ln_ext, g_nn_non, g_nn_int, g_nn_tup, g_in_non, g_in_int, g_in_tup, g_ix_row0, g_ix_row1, g_ix_row2, g_ix_span0, g_ix_span1, g_nn_span, g_nn_encR, g_in_span, cAbs, cMax2, cMin2, cInt, cList, cTuple, dIsB, dNotB, dPar3, ForN, LcN, pinOf, pin2, dEnum2, dAppend, supd_same0, isi_non_int, isi_non_bool, isi_non_str, isi_non_list, isi_non_tuple, isi_non_lt, isi_bl_int, isi_bl_bool, isi_bl_str, isi_bl_list, isi_bl_tuple, isi_bl_lt, isi_int_int, isi_int_bool, isi_int_str, isi_int_list, isi_int_tuple, isi_int_lt, isi_str_int, isi_str_bool, isi_str_str, isi_str_list, isi_str_tuple, isi_str_lt, isi_lst_int, isi_lst_bool, isi_lst_str, isi_lst_list, isi_lst_tuple, isi_lst_lt, isi_tup_int, isi_tup_bool, isi_tup_str, isi_tup_list, isi_tup_tuple, isi_tup_lt, dAug, dIAdd, dIMul, dDrop, dSl, dPart, dNoPart, dRevL, dCallK, dChainR, dAsg, put_nm, put_tp, put_tl, g_put_row, g_put_span, putL_nil, putL_cons, Option.bind, seqOf, lstOf, dFor, dLc, dLcM, dItSeq, dZip, dZipS, dEnum, dRng1, dRng2, dYes, dwipe, Tgt.slots, Tgt.slotsL,
  atI_0, atI_1, atI_2, atI_3, List.getElem?_cons_zero, List.getElem?_cons_succ, List.set_cons_zero, List.set_cons_succ, decide_eq_true_eq, List.length_cons, List.length_nil, List.cons_append, List.nil_append, List.append_nil, ofString_inj, String.reduceEq, decide_true, decide_false, reduceIte, Bool.false_eq_true, Bool.not_true, Bool.not_false, eqFlat, isFlat, List.any_cons, List.any_nil, List.all_cons, List.all_nil, Bool.or_false, Bool.or_true, Bool.false_or, Bool.true_or, Bool.and_true, Bool.true_and, true_and, and_true, Nat.reduceAdd, Nat.reduceLeDiff, Int.reduceLT, Int.reduceLE, Int.reduceNeg])
local macro_rules | `(tactic| walk_at "dg4") => `(tactic| try simp only [dFld, dSetFld, dFldAdd, dMeth, dMake, dMakeK, dFld2, dMinKey, dDispGet, dictAt, isi_non_dict, isi_bl_dict, isi_int_dict, isi_str_dict, isi_lst_dict, isi_tup_dict, isi_non_bs, isi_bl_bs, isi_int_bs, isi_str_bs, isi_lst_bs, isi_tup_bs, g_ix_enc0, g_ix_enc1, g_ix_sp0, g_ix_sp1, g_put_sp, Int.reduceEq, dSeq, dSet, dPar, dOp, dUn, dVar, dC, dCB, dCons, dNil, dTup, dLst, dLstM, dIfS, dIf, dTest, dNot, dAnd, dOr, dAndV, dOrV, dNotV, dRet, dRetN, dEnd, dNext, dAdd, dSub, dMul, dFdiv, dMod, dPow, dNeg, dLt, dLe, dGt, dGe, dEq, dNe, eqB_ii, eqB_bb, eqB_ss, eqB_nn, eqB_ni, eqB_in, eqB_ns, eqB_sn, eqB_is, eqB_si, eqB_nb, eqB_bn, dIn, g_ix_tup, g_ix_lst, g_ix_ext, g_ln_tup, g_ln_lst, g_ln_ext, g_nn_non, g_nn_int, g_nn_tup, g_in_non, g_in_int, g_in_tup, g_ix_row0, g_ix_row1, g_ix_row2, g_ix_span0, g_ix_span1, g_nn_span, g_nn_encR, g_in_span, cAbs, cMax2, cMin2, cInt, cList, cTuple, dIsB, dNotB, dPar3, ForN, LcN, pinOf, pin2, dEnum2, dAppend, supd_same0, isi_non_int, isi_non_bool, isi_non_str, isi_non_list, isi_non_tuple, isi_non_lt, isi_bl_int, isi_bl_bool, isi_bl_str, isi_bl_list, isi_bl_tuple, isi_bl_lt, isi_int_int, isi_int_bool, isi_int_str, isi_int_list, isi_int_tuple, isi_int_lt, isi_str_int, isi_str_bool, isi_str_str, isi_str_list, isi_str_tuple, isi_str_lt, isi_lst_int, isi_lst_bool, isi_lst_str, isi_lst_list, isi_lst_tuple, isi_lst_lt, isi_tup_int, isi_tup_bool, isi_tup_str, isi_tup_list, isi_tup_tuple, isi_tup_lt, dAug, dIAdd, dIMul, dDrop, dSl, dPart, dNoPart, dRevL, dCallK, dChainR, dAsg, put_nm, put_tp, put_tl, g_put_row, g_put_span, putL_nil, putL_cons, Option.bind, seqOf, lstOf, dFor, dLc, dLcM, dItSeq, dZip, dZipS, dEnum, dRng1, dRng2, dYes, dwipe, Tgt.slots, Tgt.slotsL,
  atI_0, atI_1, atI_2, atI_3, List.getElem?_cons_zero, List.getElem?_cons_succ, List.set_cons_zero, List.set_cons_succ, decide_eq_true_eq, List.length_cons, List.length_nil, List.cons_append, List.nil_append, List.append_nil, ofString_inj, String.reduceEq, decide_true, decide_false, reduceIte, Bool.false_eq_true, Bool.not_true, Bool.not_false, eqFlat, isFlat, List.any_cons, List.any_nil, List.all_cons, List.all_nil, Bool.or_false, Bool.or_true, Bool.false_or, Bool.true_or, Bool.and_true, Bool.true_and, true_and, and_true, Nat.reduceAdd, Nat.reduceLeDiff, Int.reduceLT, Int.reduceLE, Int.reduceNeg])
/-! ### runs -/
def growT (s s' : Mst) (tr : List (Option Int × Int)) : List (Option Int × Int) := if s.figs.length < s'.figs.length then tr ++ [(s'.rd, s'.figs.getLastD 0)] else tr
/-- all steps that can be done, and for each figure the place read to then -/
inductive Runs (f : Mst → Option Mst) : Mst → List (Option Int × Int) → Mst → List (Option Int × Int) → Prop
  | stop {s tr} : f s = none → Runs f s tr s tr
  | go {s s' tr t tr'} : f s = some s' → Runs f s' (growT s s' tr) t tr' → Runs f s tr t tr'
/-- states that come -/
inductive Rch (f : Mst → Option Mst) : Mst → Mst → Prop
  | refl {s} : Rch f s s
  | step {s t u} : Rch f s t → f t = some u → Rch f s u
theorem Rch.of {f : Mst → Option Mst} {s : Mst} {I : Mst → Prop} (h0 : I s) (h : ∀ t u, I t → f t = some u → I u) : ∀ {t}, Rch f s t → I t := fun {t} r => by
  induction r with
  | refl => exact h0
  | step _ e ih => exact h _ _ ih e
def pairD (x : Option Int × Int) : D := .tup [rdD x.1, .int x.2]
/-- what stood stands -/
def Kp (S S' : Store) : Prop := ∀ a m, S a = some m → S' a = some m
theorem Kp.refl {S : Store} : Kp S S := fun _ _ h => h
theorem Kp.trans {S S1 S2 : Store} (h : Kp S S1) (h2 : Kp S1 S2) : Kp S S2 := fun a m e => h2 a m (h a m e)
theorem Kp.box {S S' : Store} {p : Addr} {n : Nat} (h : Kp S S') (hb : BoxAt S p n) : BoxAt S' p n := by
  obtain ⟨a, s, t, e, r⟩ := hb
  exact ⟨a, s, t, h _ _ e, r⟩
theorem Kp.but {S0 S S' : Store} {p q : Addr} (h : Kp S0 S) (hp : S0 p = none) (hq : S0 q = none) (b : But2 S S' p q) : Kp S0 S' := fun a m e => by
  have h1 : a ≠ p := fun z => by rw [z, hp] at e; cases e
  have h2 : a ≠ q := fun z => by rw [z, hq] at e; cases e
  rw [b a h1 h2]
  exact h a m e
theorem Kp.new {S0 S : Store} {p : Addr} {m : MO} (h : Kp S0 S) (hp : S0 p = none) : Kp S0 (supd S p m) := fun a m' e => by
  have h1 : a ≠ p := fun z => by rw [z, hp] at e; cases e
  rw [supd_ne h1]
  exact h a m' e
def st0 (rs : List Rw) : Mst := ⟨[], firstR rs⟩
theorem stepM_figs {b : Int} {kn : Kn} {rs : List Rw} {e m to : Int} {s s' : Mst} (h : stepM b kn rs e m to s = some s') : ((∃ d, s'.figs = s.figs ++ [d]) ∧ nextP e s ≤ to) ∨ (s'.figs = s.figs ∧ s'.rd = s.rd.map (· + 1) ∧ hasN rs s.rd = true) := by
  unfold stepM at h
  split at h
  · split at h
    · rename_i d _
      split at h
      · cases h
      · cases h; exact .inl ⟨⟨d, rfl⟩, by omega⟩
    · split at h
      · rename_i hh
        cases h; exact .inr ⟨rfl, rfl, hh⟩
      · cases h
  · split at h
    · split at h
      · rename_i hh
        cases h; exact .inl ⟨⟨_, rfl⟩, hh.2⟩
      · cases h
    · cases h
theorem stepM_rd {b : Int} {kn : Kn} {rs : List Rw} {e m to : Int} {s s' : Mst} (h : stepM b kn rs e m to s = some s') : s'.rd = s.rd ∨ (s'.rd = s.rd.map (· + 1) ∧ hasN rs s.rd = true) := by
  unfold stepM at h
  split at h
  · split at h
    · split at h
      · cases h
      · cases h; exact .inl rfl
    · split at h
      · rename_i hh
        cases h; exact .inr ⟨rfl, hh⟩
      · cases h
  · split at h
    · rename_i k hk
      split at h
      · rename_i hh
        cases h; exact .inr ⟨by rw [hk]; rfl, hh.1⟩
      · cases h
    · cases h
def leftR : List Rw → Option Int → Nat
  | r :: _, some k => (known r - k).toNat
  | _, _ => 0
def muM (rs : List Rw) (e to : Int) (s : Mst) : Nat := (to + e - (s.figs.length : Int)).toNat + leftR rs s.rd
/-- of no rows no place is read -/
def NoRows (rs : List Rw) (s : Mst) : Prop := rs = [] ↔ s.rd = none
theorem noRows_0 (rs : List Rw) : NoRows rs (st0 rs) := by
  unfold NoRows st0 firstR
  by_cases h : rs = [] <;> simp [h]
theorem noRows_step {b : Int} {kn : Kn} {rs : List Rw} {e m to : Int} {s s' : Mst} (hn : NoRows rs s) (h : stepM b kn rs e m to s = some s') : NoRows rs s' := by
  unfold NoRows at *
  rcases stepM_rd h with h | ⟨h, _⟩
  · rw [h]; exact hn
  · rw [h, hn]; cases s.rd <;> simp
theorem mu_step {b : Int} {kn : Kn} {rs : List Rw} {e m to : Int} {s s' : Mst} (hn : NoRows rs s) (h : stepM b kn rs e m to s = some s') : muM rs e to s' < muM rs e to s := by
  have hf := stepM_figs h
  have hr := stepM_rd h
  unfold muM
  have tail : leftR rs s'.rd ≤ leftR rs s.rd ∧ (s'.figs = s.figs → s'.rd = s.rd.map (· + 1) → hasN rs s.rd = true → leftR rs s'.rd < leftR rs s.rd) := by
    cases rs with
    | nil =>
      refine ⟨Nat.le_refl _, fun _ _ hh => ?_⟩
      have := hn.mp rfl
      rw [this] at hh; cases hh
    | cons r rs =>
      cases hk : s.rd with
      | none =>
        refine ⟨?_, fun _ _ hh => by cases hh⟩
        rcases hr with hr | ⟨hr, _⟩ <;> rw [hr, hk] <;> exact Nat.le_refl _
      | some k =>
        refine ⟨?_, fun _ h2 hh => ?_⟩
        · rcases hr with hr | ⟨hr, _⟩
          · rw [hr, hk]; exact Nat.le_refl _
          · rw [hr, hk]; show (known r - (k + 1)).toNat ≤ (known r - k).toNat; omega
        · rw [h2]
          have : k < known r := by
            have := List.all_eq_true.mp hh r (List.mem_cons_self ..)
            rwa [decide_eq_true_eq] at this
          show (known r - (k + 1)).toNat < (known r - k).toNat
          omega
  rcases hf with ⟨⟨d, hd⟩, hp⟩ | ⟨h1, h2, h3⟩
  · unfold nextP at hp
    have : s'.figs.length = s.figs.length + 1 := by rw [hd]; simp
    have := tail.1
    omega
  · have := tail.2 h1 h2 h3
    rw [h1]
    omega
/-! ### promises -/
def AllOk (b : Int) (kn : Kn) (rs : List Rw) (e m to : Int) : Prop := ∀ s, Rch (stepM b kn rs e m to) (st0 rs) s → StepOk b kn rs e m s
def sp_steps_of : DSp := fun ds S P => ∃ (b : Int) (kn : Kn) (rs : List Rw) (e m to : Int), ds = [.int b, kn.d, .lst (rs.map Rw.d), .int e, .int m, .int to] ∧ AllOk b kn rs e m to ∧
  ∀ p q l S' s tr, Runs (stepM b kn rs e m to) (st0 rs) [] s tr → MAt S' p q b kn e m s → S' l = some (.lst (tr.map pairD)) → s.figs.length ≤ 900 → Kp S S' → S l = none → P (.tup [.obj p, .obj l]) S'
def sp_part_run : DSp := fun ds S P => ∃ (b : Int) (kn : Kn) (rs : List Rw) (e m to : Int), ds = [.int b, kn.d, .lst (rs.map Rw.d), .int e, .int m, .int to] ∧ AllOk b kn rs e m to ∧
  ∀ S' s tr, Runs (stepM b kn rs e m to) (st0 rs) [] s tr → s.figs.length ≤ 900 → Kp S S' → P (.tup [(ownR e m s).d, rdD s.rd]) S'
def rd_steps_of : DS :=
  (dSeq (dSet 6 (dMakeK 0 sp_Machine_init 3 2 [0, 1, 2, 3, 4, 5] (dCons (dVar 0) (dCons (dVar 1) (dCons (dVar 2) dNil))) (dCons (dVar 3) (dCons (dVar 4) dNil))))
  (dSeq (dSet 7 (dLstM dNil))
  (dSeq (dWhile (dTest (dMeth 0 "step" sp_Machine_step (dVar 6) (dCons (dVar 2) (dCons (dVar 5) dNil)))) (dIfS (dTest (dOp dGt (dCB cLen (dCons (dFld 0 "own_figures" (dVar 6)) dNil)) (dCB cLen (dCons (dVar 7) dNil)))) (dDrop (dAppend (dVar 7) (dTup (dCons (dFld 0 "own_read" (dVar 6)) (dCons (dOp dIx (dFld 0 "own_figures" (dVar 6)) (dUn dNeg (dC (.int 1)))) dNil))))) dNext))
  (dRet (dTup (dCons (dVar 6) (dCons (dVar 7) dNil)))))))
def goal_steps_of : Prop := ∀ (x0 x1 x2 x3 x4 x5 : D) (S : Store) (P : D → Store → Prop), sp_steps_of [x0, x1, x2, x3, x4, x5] S P → rd_steps_of (dEnd P) [some x0, some x1, some x2, some x3, some x4, some x5, none, none] S
def rd_part_run : DS :=
  (dSeq (dAsg (.tp [(.nm 6), (.nm 7)]) (dCallK sp_steps_of 3 3 [0, 1, 2, 3, 4, 5] (dCons (dVar 0) (dCons (dVar 1) (dCons (dVar 2) dNil))) (dCons (dVar 3) (dCons (dVar 4) (dCons (dVar 5) dNil)))))
  (dRet (dTup (dCons (dMeth 0 "row" sp_Machine_row (dVar 6) dNil) (dCons (dFld 0 "own_read" (dVar 6)) dNil)))))
def goal_part_run : Prop := ∀ (x0 x1 x2 x3 x4 x5 : D) (S : Store) (P : D → Store → Prop), sp_part_run [x0, x1, x2, x3, x4, x5] S P → rd_part_run (dEnd P) [some x0, some x1, some x2, some x3, some x4, some x5, none, none] S
theorem len_steps_of : ∀ ds S P, sp_steps_of ds S P → ds.length = 6 := by rintro ds S P ⟨a, b, c, d, e, f, rfl, _⟩; rfl
theorem len_part_run : ∀ ds S P, sp_part_run ds S P → ds.length = 6 := by rintro ds S P ⟨a, b, c, d, e, f, rfl, _⟩; rfl
theorem atI_last {α : Type} {l : List α} {a : α} : atI (l ++ [a]) (-1) = some a := by
  unfold atI ixN
  simp only [List.length_append, List.length_cons, List.length_nil]
  rw [if_neg (by omega), if_pos (by omega)]
  have : ((-1 : Int) + ((l.length + (0 + 1) : Nat) : Int)).toNat = l.length := by omega
  rw [this]
  simp
theorem vc_steps_of : goal_steps_of := by
  rintro x0 x1 x2 x3 x4 x5 S P ⟨b, kn, rs, e, m, to, er, ok, h⟩
  cases er
  unfold rd_steps_of
  have ok0 := ok _ .refl
  unfold dWhile
  walk_at "dg4"
  intro p hp
  refine ⟨p, b, kn, rs, e, m, rfl, ok0.l, supd_same, fun q S1 hq hqp M1 bt1 => ⟨rfl, ?_⟩⟩
  have hq0 : S q = none := by rwa [supd_ne hqp] at hq
  have k1 : Kp S S1 := (Kp.new Kp.refl hp).but hp hq0 bt1
  walk_at "dg4"
  intro l hl
  have hl0 : S l = none := by
    cases z : S l with
    | none => rfl
    | some o => rw [k1 _ _ z] at hl; cases hl
  have lp : l ≠ p := fun z => by rw [z, M1.o] at hl; cases hl
  have lq : l ≠ q := fun z => by rw [z, M1.f] at hl; cases hl
  refine ⟨fun j ρ S' => ∃ s tr, ρ = [some (.int b), some kn.d, some (.lst (rs.map Rw.d)), some (.int e), some (.int m), some (.int to), some (.obj p), some (.obj l)] ∧ MAt S' p q b kn e m s ∧ S' l = some (.lst (tr.map pairD)) ∧ tr.length = s.figs.length ∧ Rch (stepM b kn rs e m to) (st0 rs) s ∧
    (∀ t tr', Runs (stepM b kn rs e m to) s tr t tr' → Runs (stepM b kn rs e m to) (st0 rs) [] t tr') ∧ Kp S S' ∧ j = muM rs e to s,
    ⟨_, st0 rs, [], rfl, ⟨by rw [supd_ne lp.symm]; exact M1.o, by rw [supd_ne lq.symm]; exact M1.f, M1.ne⟩, supd_same, rfl, .refl, fun _ _ r => r, k1.new hl0, rfl⟩, ?_⟩
  rintro j ρ S' ⟨s, tr, rfl, M, hS, htr, rc, hrun, kp, rfl⟩
  have oks := ok s rc
  have nor : NoRows rs s := rc.of (noRows_0 rs) fun t u ht hu => noRows_step ht hu
  walk_at "dg4"
  refine ⟨p, _, rfl, M.o, lk_no.2.2.2.2.2.2, ?_⟩
  refine ⟨p, q, b, kn, e, m, to, s, rs, rfl, M, oks, fun hs => ?_, fun s' S2 hs M2 bt2 => ?_⟩
  · walk_at "dg4"
    exact h p q l S' s tr (hrun _ _ (.stop hs)) M hS oks.n kp hl0
  · walk_at "dg4"
    have rc' := rc.step hs
    have kp2 := kp.but hp hq0 bt2
    have hS2 : S2 l = some (.lst (tr.map pairD)) := by rw [bt2 l lp lq]; exact hS
    have mu := mu_step nor hs
    have hrun' : ∀ t tr', Runs (stepM b kn rs e m to) s' (growT s s' tr) t tr' → Runs (stepM b kn rs e m to) (st0 rs) [] t tr' := fun t tr' r => hrun t tr' (.go hs r)
    refine ⟨p, _, _, rfl, M2.o, lk_figs, ?_⟩
    rw [ln_obj M2.f, List.length_map]
    walk_at "dg4"
    rw [ln_obj hS2, List.length_map, htr]
    walk_at "dg4"
    have oks' := ok s' rc'
    rcases stepM_figs hs with ⟨⟨d, hd⟩, _⟩ | ⟨hd, _⟩
    · have hl' : s'.figs.length = s.figs.length + 1 := by rw [hd]; simp
      have c : (s'.figs.length : Int) > (s.figs.length : Int) := by omega
      simp only [c, decide_true, reduceIte]
      walk_at "dg4"
      refine ⟨_, hS2, p, _, _, rfl, M2.o, lk_read, p, _, _, rfl, M2.o, lk_figs, ?_⟩
      have hg : growT s s' tr = tr ++ [(s'.rd, d)] := by
        unfold growT
        rw [if_pos (by omega), hd]
        simp
      rw [ix_obj M2.f, hd, List.map_append, List.map_cons, List.map_nil, atI_last]
      walk_at "dg4"
      refine ⟨_, hS2, by rw [List.length_map, htr]; have := oks.n; omega, ?_⟩
      refine ⟨_, mu, s', growT s s' tr, ⟨by rw [supd_ne lp.symm]; exact M2.o, by rw [supd_ne lq.symm]; exact M2.f, M2.ne⟩, ?_, by rw [hg]; simp; omega, rc', hrun', kp2.new hl0, rfl⟩
      rw [hg]; simp [pairD]
    · have c : ¬ ((s'.figs.length : Int) > (s.figs.length : Int)) := by rw [hd]; omega
      simp only [c, decide_false, Bool.false_eq_true, reduceIte]
      have hg : growT s s' tr = tr := by
        unfold growT
        rw [if_neg (by rw [hd]; omega)]
      rw [hg] at hrun'
      exact ⟨_, mu, s', tr, M2, hS2, by rw [hd]; exact htr, rc', hrun', kp2, rfl⟩
theorem vc_part_run : goal_part_run := by
  rintro x0 x1 x2 x3 x4 x5 S P ⟨b, kn, rs, e, m, to, er, ok, h⟩
  cases er
  unfold rd_part_run
  walk_at "dg4"
  refine ⟨b, kn, rs, e, m, to, rfl, ok, fun p q l S' s tr hr M hS hn kp hl => ?_⟩
  walk_at "dg4"
  refine ⟨p, _, rfl, M.o, lk_no.1, p, q, b, kn, e, m, s, rfl, M, by omega, ?_⟩
  refine ⟨p, _, _, rfl, M.o, lk_read, ?_⟩
  exact h S' s tr hr hn kp
end Lb

/-! Machines of small rows: all that comes is fine. -/
namespace Lb
open PySem PySem.Spec PyProof.Rows L2 DL
variable [CT]
theorem Rw.cut_in {b : Int} (b0 : 2 ≤ b) {r : Rw} (h0 : 0 ≤ r.m) (hf : ∀ f, f ∈ r.fs → -r.m ≤ f ∧ f ≤ r.m) (k : Int) : (r.cut k).lo b ≤ r.lo b ∧ r.hi b ≤ (r.cut k).hi b := by
  have e : r = (r.cut k).app (r.fs.drop (k + r.e).toNat) := by
    unfold Rw.cut Rw.app
    simp
  have h := app_in b0 (r.fs.drop (k + r.e).toNat) (r.cut k) fun g hg => hf g (List.mem_of_mem_drop hg)
  rw [← e] at h
  exact h
theorem cut_cut {r : Rw} {j k : Int} (h : j ≤ k) : (r.cut k).cut j = r.cut j := by
  unfold Rw.cut
  simp only [List.take_take]
  congr 1
  congr 1
  omega
/-- a row that a part may have -/
structure Sm (b k : Int) (r : Rw) : Prop where
  e0 : -12 ≤ r.e
  e1 : r.e ≤ 12
  m0 : b ≤ 2 * r.m
  m1 : r.m ≤ 100
  l : (r.fs.length : Int) ≤ k
  f : ∀ f, f ∈ r.fs → -r.m ≤ f ∧ f ≤ r.m
theorem Small.sm {b k : Int} {r : Rw} (h : Small b k r) : Sm b k r := ⟨by have := h.e0; omega, by have := h.e1; omega, h.m0, by have := h.m1; omega, h.l, h.f⟩
theorem Sm.ok {b k : Int} {r : Rw} (h : Sm b k r) (b0 : 2 ≤ b) (b1 : b ≤ 16) (hk : k ≤ 60) : r.Ok b :=
  ⟨b0, b1, by have := h.e0; omega, by have := h.e1; omega, by have := h.m0; omega, by have := h.m1; omega, by have := h.l; omega, fun f hf => by have := h.f f hf; have := h.m1; omega⟩
theorem Sm.tight {b k : Int} {r : Rw} (h : Sm b k r) (b0 : 2 ≤ b) (b1 : b ≤ 10) (hk : k ≤ 60) : Sz 600 (r.lo b) ∧ Sz 600 (r.hi b) := by
  have ok := h.ok b0 (by omega) (by omega)
  obtain ⟨e1, e2⟩ := lo_eq ok
  have hl := h.l; have he0 := h.e0; have he1 := h.e1; have m0 := h.m0; have m1 := h.m1
  have wb : (Lb.whole b r.fs).natAbs ≤ 1000 * 16 ^ 60 := by
    have h1 := fold_bound ok.b0 ok.b1 r.fs 0 ok.f
    have h2 : (16 : Nat) ^ r.fs.length ≤ 16 ^ 60 := Nat.pow_le_pow_right (by decide) (by omega)
    unfold Lb.whole
    simp only [Int.natAbs_zero, Nat.zero_add] at h1
    have h4 := Nat.mul_le_mul_left 1000 h2
    omega
  have wb2 : (Lb.whole b r.fs * (b - 1)).natAbs ≤ 1000 * 16 ^ 60 * 16 := by
    rw [Int.natAbs_mul]
    exact Nat.mul_le_mul wb (by omega)
  have c1 : (Lb.whole b r.fs * (b - 1) - r.m).natAbs < 2 ^ 260 := by omega
  have c2 : (Lb.whole b r.fs * (b - 1) + r.m).natAbs < 2 ^ 260 := by omega
  have d1 : (b - 1 : Int).natAbs < 2 ^ 260 := bound_mono (n := 4) (by omega)
  have pw : Sz 320 (r.pw b) := (sz_zpow (k := r.e - (r.fs.length : Int)) (by omega) (by omega)).mono (by omega)
  rw [e1, e2]
  exact ⟨(sz_mul (sz_frac ok.cne c1 d1) pw).mono (by decide), (sz_mul (sz_frac ok.cne c2 d1) pw).mono (by decide)⟩
theorem Sm.cut {b k : Int} {r : Rw} (h : Sm b k r) (j : Int) : Sm b k (r.cut j) := by
  refine ⟨h.e0, h.e1, h.m0, h.m1, ?_, fun f hf => h.f f (List.mem_of_mem_take hf)⟩
  have := h.l
  show ((r.fs.take (j + r.e).toNat).length : Int) ≤ k
  rw [List.length_take]
  omega
theorem Small.cut {b k : Int} {r : Rw} (h : Small b k r) (j : Int) : Small b k (r.cut j) := by
  refine ⟨h.e0, h.e1, h.m0, h.m1, ?_, fun f hf => h.f f (List.mem_of_mem_take hf)⟩
  have := h.l
  show ((r.fs.take (j + r.e).toNat).length : Int) ≤ k
  rw [List.length_take]
  omega
theorem cut_sub {b : Int} (b0 : 2 ≤ b) {j k : Int} (h : j ≤ k) : ∀ {rs : List Rw}, (∀ r, r ∈ rs → 0 ≤ r.m ∧ ∀ f, f ∈ r.fs → -r.m ≤ f ∧ f ≤ r.m) → Sub ((rs.map fun r => r.cut k).map (spanQ b)) ((rs.map fun r => r.cut j).map (spanQ b))
  | [], _ => trivial
  | r :: rs, hr => by
    refine ⟨?_, cut_sub b0 h fun x hx => hr x (List.mem_cons_of_mem _ hx)⟩
    obtain ⟨h0, hf⟩ := hr r (List.mem_cons_self ..)
    have := Rw.cut_in b0 (r := r.cut k) h0 (fun f hf' => hf f (List.mem_of_mem_take hf')) j
    rw [cut_cut h] at this
    exact this
/-- all that may come, behind so much read -/
def reachM (b : Int) (kn : Kn) (rs : List Rw) (rd : Option Int) : Rat × Rat := reachQ b kn ((rs.map (cutR rd)).map (spanQ b))
/-- a number is not too great for a row: what's left of it by the next place -/
def Near (b : Int) (r : Rw) (v : Rat) : Prop := Bd ((2 ^ 50 : Int) : Rat) ((v - r.worth b) * (b : Rat) ^ ((r.fs.length : Int) - r.e + 1))
/-- a number within a row's span is near -/
theorem near_in {b : Int} {r : Rw} {v : Rat} (ok : r.Ok b) (h : r.lo b ≤ v ∧ v ≤ r.hi b) : Near b r v := by
  have bp := ok.bp
  have sp := spread_bd ok
  unfold Near Bd
  unfold Rw.lo Rw.hi at h
  have e : r.tail b * (b : Rat) ^ ((r.fs.length : Int) - r.e + 1) = (r.m : Rat) / ((b - 1 : Int) : Rat) * (b : Rat) := by
    unfold Rw.tail Rw.pw
    rw [Rat.mul_assoc, ← Rat.zpow_add (by grind), show r.e - (r.fs.length : Int) + ((r.fs.length : Int) - r.e + 1) = 1 by omega, Rat.zpow_one]
  have zp : (0 : Rat) < (b : Rat) ^ ((r.fs.length : Int) - r.e + 1) := Rat.zpow_pos bp
  have a1 := Rat.mul_le_mul_of_nonneg_right (c := (b : Rat) ^ ((r.fs.length : Int) - r.e + 1)) (show -r.tail b ≤ v - r.worth b by grind) (Rat.le_of_lt zp)
  have a2 := Rat.mul_le_mul_of_nonneg_right (c := (b : Rat) ^ ((r.fs.length : Int) - r.e + 1)) (show v - r.worth b ≤ r.tail b by grind) (Rat.le_of_lt zp)
  rw [Rat.neg_mul, e] at a1
  rw [e] at a2
  have b16 : (b : Rat) ≤ ((16 : Int) : Rat) := Rat.intCast_le_intCast.mpr ok.b1
  have c1 : (r.m : Rat) / ((b - 1 : Int) : Rat) * (b : Rat) ≤ ((1000 : Int) : Rat) * ((16 : Int) : Rat) :=
    Rat.le_trans (Rat.mul_le_mul_of_nonneg_right sp.2 (Rat.le_of_lt bp)) (Rat.mul_le_mul_of_nonneg_left b16 (by decide))
  rw [← Rat.intCast_mul] at c1
  have c2 : ((1000 * 16 : Int) : Rat) ≤ ((2 ^ 50 : Int) : Rat) := Rat.intCast_le_intCast.mpr (by decide)
  generalize (v - r.worth b) * (b : Rat) ^ ((r.fs.length : Int) - r.e + 1) = x at *
  generalize (r.m : Rat) / ((b - 1 : Int) : Rat) * (b : Rat) = y at *
  generalize ((2 ^ 50 : Int) : Rat) = z at *
  generalize ((1000 * 16 : Int) : Rat) = w at *
  exact ⟨by grind, by grind⟩
theorem near_mono {b : Int} {r : Rw} {u v w : Rat} (bp : (0 : Rat) < (b : Rat)) (h1 : Near b r u) (h2 : Near b r w) (a1 : u ≤ v) (a2 : v ≤ w) : Near b r v := by
  have zp : (0 : Rat) < (b : Rat) ^ ((r.fs.length : Int) - r.e + 1) := Rat.zpow_pos bp
  unfold Near Bd at *
  have c1 := Rat.mul_le_mul_of_nonneg_right (c := (b : Rat) ^ ((r.fs.length : Int) - r.e + 1)) (show u - r.worth b ≤ v - r.worth b by grind) (Rat.le_of_lt zp)
  have c2 := Rat.mul_le_mul_of_nonneg_right (c := (b : Rat) ^ ((r.fs.length : Int) - r.e + 1)) (show v - r.worth b ≤ w - r.worth b by grind) (Rat.le_of_lt zp)
  exact ⟨by grind, by grind⟩
theorem reach_le {b : Int} {kn : Kn} {rs : List Rw} (b0 : 2 ≤ b) (hk : kn.Ok) (hl : rs.length = kn.many) (ok : ∀ r, r ∈ rs → r.Ok b) : (reachQ b kn (rs.map (spanQ b))).1 ≤ (reachQ b kn (rs.map (spanQ b))).2 := by
  have up := up_spans ok
  obtain ⟨⟨c1, h1, e1⟩, _⟩ := reach_ends b kn (rs.map (spanQ b))
  have := vals_within b0 hk (by rw [List.length_map]; exact hl) (ch_ins up h1) up
  exact Rat.le_trans this.1 this.2
theorem reach_szT {b : Int} {kn : Kn} {ss : List (Rat × Rat)} {z : Nat} (b0 : 2 ≤ b) (b1 : b ≤ 16) (hk : kn.Ok) (hl : ss.length = kn.many) (hz : 100 ≤ z) (hs : ∀ s, s ∈ ss → Sz z s.1 ∧ Sz z s.2) : Sz (4 * z + 100) (reachQ b kn ss).1 ∧ Sz (4 * z + 100) (reachQ b kn ss).2 := by
  obtain ⟨⟨c1, h1, e1⟩, c2, h2, e2⟩ := reach_ends b kn ss
  rw [e1, e2]
  exact ⟨Kn.app_sz b0 b1 hk (by rw [h1.len]; exact hl) hz (ch_sz hs c1 h1), Kn.app_sz b0 b1 hk (by rw [h2.len]; exact hl) hz (ch_sz hs c2 h2)⟩
theorem Sm.figs {b k : Int} {r : Rw} (h : Sm b k r) (b0 : 2 ≤ b) : 0 ≤ r.m ∧ ∀ f, f ∈ r.fs → -r.m ≤ f ∧ f ≤ r.m := ⟨by have := h.m0; omega, h.f⟩
theorem Small.figs {b k : Int} {r : Rw} (h : Small b k r) (b0 : 2 ≤ b) : 0 ≤ r.m ∧ ∀ f, f ∈ r.fs → -r.m ≤ f ∧ f ≤ r.m := ⟨by have := h.m0; omega, h.f⟩
theorem cutR_small {b k : Int} {rs : List Rw} (h : ∀ r, r ∈ rs → Sm b k r) (rd : Option Int) : ∀ r, r ∈ rs.map (cutR rd) → Sm b k r := fun r hr => by
  obtain ⟨r0, h0, rfl⟩ := List.mem_map.mp hr
  cases rd with
  | none => exact h r0 h0
  | some j => exact (h r0 h0).cut j
/-- ahead of reading all rows are bare -/
theorem cut_first {rs : List Rw} : rs.map (cutR (firstR rs)) = rs.map fun r => bareR (r.e, r.m) := by
  unfold firstR
  by_cases h : rs = []
  · subst h; rfl
  · rw [if_neg h]
    refine List.map_congr_left fun r hr => ?_
    have := (maxZ_is (xs := rs.map (·.e)) (by simpa using h)).2 r.e (List.mem_map.mpr ⟨r, hr, rfl⟩)
    show r.cut (0 - maxZ (rs.map (·.e))) = bareR (r.e, r.m)
    unfold Rw.cut bareR
    have e0 : (0 - maxZ (rs.map (·.e)) + r.e).toNat = 0 := by omega
    rw [e0, List.take_zero]
/-- what a part with such rows may be like -/
structure Part (b k : Int) (kn : Kn) (rs : List Rw) (e m to : Int) : Prop where
  b0 : 2 ≤ b
  b1 : b ≤ 10
  ko : kn.Ok
  l : rs.length = kn.many
  s : ∀ r, r ∈ rs → Sm b k r
  k1 : k ≤ 60
  e0 : -40 ≤ e
  e1 : e ≤ 40
  m0 : 0 ≤ m
  m1 : m ≤ 1000
  t : to + e ≤ 79
  q1 : Near b ⟨e, m, []⟩ (reachQ b kn ((rs.map fun r => bareR (r.e, r.m)).map (spanQ b))).1
  q2 : Near b ⟨e, m, []⟩ (reachQ b kn ((rs.map fun r => bareR (r.e, r.m)).map (spanQ b))).2
structure MInv (b : Int) (kn : Kn) (rs : List Rw) (e m to : Int) (s : Mst) : Prop where
  nr : NoRows rs s
  n : (s.figs.length : Int) ≤ max 0 (to + e)
  f : ∀ f, f ∈ s.figs → -m ≤ f ∧ f ≤ m
  q1 : Near b (ownR e m s) (reachM b kn rs s.rd).1
  q2 : Near b (ownR e m s) (reachM b kn rs s.rd).2
theorem Part.own {b k : Int} {kn : Kn} {rs : List Rw} {e m to : Int} (h : Part b k kn rs e m to) {s : Mst} (I : MInv b kn rs e m to s) : (ownR e m s).Ok b :=
  ⟨h.b0, by have := h.b1; omega, h.e0, h.e1, h.m0, h.m1, by have := I.n; have := h.t; show s.figs.length ≤ 80; omega, fun f hf => by have := I.f f hf; have := h.m1; omega⟩
theorem Part.fine {b k : Int} {kn : Kn} {rs : List Rw} {e m to : Int} (h : Part b k kn rs e m to) {s : Mst} (I : MInv b kn rs e m to s) : Fine b kn (rs.map (cutR s.rd)) (ownR e m s) := by
  have sm := cutR_small h.s s.rd
  have sz := reach_szT (z := 600) h.b0 (by have := h.b1; omega) h.ko (show ((rs.map (cutR s.rd)).map (spanQ b)).length = kn.many by rw [List.length_map, List.length_map]; exact h.l) (by decide) fun x hx => by
    obtain ⟨r, hr, rfl⟩ := List.mem_map.mp hx
    exact (sm r hr).tight h.b0 h.b1 h.k1
  have up : ((2 ^ 50 : Int) : Rat) ≤ ((2 ^ 60 : Int) : Rat) := Rat.intCast_le_intCast.mpr (by decide)
  exact ⟨h.b0, by have := h.b1; omega, h.ko, by rw [List.length_map]; exact h.l, fun r hr => (sm r hr).ok h.b0 (by have := h.b1; omega) (by have := h.k1; omega), h.own I, sz.1.mono (by decide), sz.2.mono (by decide), Bd.mono I.q1 up, Bd.mono I.q2 up⟩
theorem Part.inv0 {b k : Int} {kn : Kn} {rs : List Rw} {e m to : Int} (h : Part b k kn rs e m to) : MInv b kn rs e m to (st0 rs) := by
  refine ⟨noRows_0 rs, by show (0 : Int) ≤ _; omega, by simp [st0], ?_, ?_⟩
  · unfold reachM
    show Near b _ (reachQ b kn ((rs.map (cutR (firstR rs))).map (spanQ b))).1
    rw [cut_first]; exact h.q1
  · unfold reachM
    show Near b _ (reachQ b kn ((rs.map (cutR (firstR rs))).map (spanQ b))).2
    rw [cut_first]; exact h.q2
theorem Part.read {b k : Int} {kn : Kn} {rs : List Rw} {e m to : Int} (h : Part b k kn rs e m to) {j i : Int} (hji : j ≤ i) : (reachM b kn rs (some j)).1 ≤ (reachM b kn rs (some i)).1 ∧ (reachM b kn rs (some i)).2 ≤ (reachM b kn rs (some j)).2 := by
  have b1 := h.b1
  have k1 := h.k1
  have sub := cut_sub (b := b) h.b0 hji (rs := rs) fun r hr => (h.s r hr).figs h.b0
  have ok : ∀ i r, r ∈ rs.map (cutR (some i)) → r.Ok b := fun i r hr => (cutR_small h.s (some i) r hr).ok h.b0 (by omega) (by omega)
  exact reach_sub h.b0 h.ko (by rw [List.length_map, List.length_map]; exact h.l) (up_spans (ok j)) (up_spans (ok i)) sub
theorem Part.step {b k : Int} {kn : Kn} {rs : List Rw} {e m to : Int} (h : Part b k kn rs e m to) (hc : Ch1 kn = true) {s s' : Mst} (I : MInv b kn rs e m to s) (hs : stepM b kn rs e m to s = some s') : MInv b kn rs e m to s' := by
  have nr' := noRows_step I.nr hs
  have b1 := h.b1
  have k1 := h.k1
  have bp := ratpos (show 0 < b by have := h.b0; omega)
  have own := h.own I
  unfold stepM at hs
  rw [if_pos hc] at hs
  have rle : ∀ rd, (reachM b kn rs rd).1 ≤ (reachM b kn rs rd).2 := fun rd => reach_le h.b0 h.ko (by rw [List.length_map]; exact h.l) fun r hr => (cutR_small h.s rd r hr).ok h.b0 (by omega) (by omega)
  split at hs
  · rename_i d hd
    split at hs
    · cases hs
    · rename_i hp
      cases hs
      obtain ⟨n1, _⟩ := near_is hd
      obtain ⟨⟨d0, d1⟩, c1, c2⟩ := (figs_mem (r := ownR e m s) h.m0).mp n1
      have hn : (s.figs.length : Int) + 1 ≤ max 0 (to + e) := by unfold nextP at hp; omega
      have I' : MInv b kn rs e m to ⟨s.figs ++ [d], s.rd⟩ → True := fun _ => trivial
      have ok' : ((ownR e m s).snoc d).Ok b := own.snoc (by show s.figs.length ≤ 79; have := h.t; omega) (by have := h.m1; have d0' : -m ≤ d := d0; have d1' : d ≤ m := d1; omega)
      have r12 := rle s.rd
      refine ⟨nr', by show ((s.figs ++ [d]).length : Int) ≤ _; rw [List.length_append]; simp only [List.length_cons, List.length_nil]; omega, fun f hf => ?_, ?_, ?_⟩
      · rcases List.mem_append.mp hf with hf | hf
        · exact I.f f hf
        · simp only [List.mem_singleton] at hf
          subst hf; exact ⟨d0, d1⟩
      · exact near_in ok' ⟨c1, Rat.le_trans r12 c2⟩
      · exact near_in ok' ⟨Rat.le_trans c1 r12, c2⟩
  · split at hs
    · rename_i hh
      cases hs
      cases hk : s.rd with
      | none => rw [hk] at hh; cases hh
      | some j =>
        have rr := h.read (show j ≤ j + 1 by omega)
        have q1 := I.q1
        have q2 := I.q2
        rw [hk] at q1 q2 nr'
        have r12 := rle (some (j + 1))
        refine ⟨nr', I.n, I.f, ?_, ?_⟩
        · exact near_mono bp q1 q2 rr.1 (Rat.le_trans r12 rr.2)
        · exact near_mono bp q1 q2 (Rat.le_trans rr.1 r12) rr.2
    · cases hs
theorem Part.inv {b k : Int} {kn : Kn} {rs : List Rw} {e m to : Int} (h : Part b k kn rs e m to) (hc : Ch1 kn = true) {s : Mst} (r : Rch (stepM b kn rs e m to) (st0 rs) s) : MInv b kn rs e m to s :=
  r.of h.inv0 fun _ _ I hs => h.step hc I hs
theorem Part.all {b k : Int} {kn : Kn} {rs : List Rw} {e m to : Int} (h : Part b k kn rs e m to) (hc : Ch1 kn = true) : AllOk b kn rs e m to := fun s r => by
  have I := h.inv hc r
  have m4 := many_le h.ko
  have hl := h.l
  have ht := h.t
  have hn := I.n
  exact ⟨by omega, by omega, fun hr hd => hr (I.nr.mpr hd), fun _ => h.fine I, fun z => by rw [hc] at z; cases z⟩
end Lb

/-! Lags: a figure is right where what may come is narrow enough; how wide it is. -/
namespace Lb
open PySem PySem.Spec PyProof.Rows L2 DL
variable [CT]
theorem radd {a b c d : Rat} (h1 : a ≤ b) (h2 : c ≤ d) : a + c ≤ b + d := by grind
/-- a whole number between two numbers that are 1 apart -/
theorem floor_is (q : Rat) : ∃ F : Int, (F : Rat) ≤ q ∧ q < (F : Rat) + 1 := by
  refine ⟨q.num.fdiv (q.den : Int), floor_le.mp (Int.le_refl _), ?_⟩
  refine Rat.not_le.mp fun h => ?_
  have : ((q.num.fdiv (q.den : Int) + 1 : Int) : Rat) ≤ q := by rw [Rat.intCast_add]; exact h
  have := floor_le.mpr this
  omega
/-- a figure is right for all of what's within the row and narrow enough -/
theorem right_exists {b : Int} {r : Rw} {q : Rat × Rat} (ok : r.Ok b) (hm : b ≤ 2 * r.m + 1) (h1 : r.lo b ≤ q.1) (h2 : q.2 ≤ r.hi b) (hw : (q.2 - q.1) * ((b - 1 : Int) : Rat) ≤ ((2 * r.m - b + 1 : Int) : Rat) * r.nx b) : figsR b r q ≠ [] := by
  have b0 := ok.b0
  have nxp := ok.nxp
  have cp := ok.cp
  have tl := Rw.tail_nx (b := b) (r := r) b0
  have ec : (r.m : Rat) / ((b - 1 : Int) : Rat) * ((b - 1 : Int) : Rat) = (r.m : Rat) := by
    generalize ((b - 1 : Int) : Rat) = y at *
    rw [Rat.div_def, Rat.mul_assoc, Rat.inv_mul_cancel _ (by grind), Rat.mul_one]
  have e2 : ((2 * r.m - b + 1 : Int) : Rat) = 2 * (r.m : Rat) - ((b - 1 : Int) : Rat) := by
    rw [show 2 * r.m - b + 1 = 2 * r.m - (b - 1) by omega, Rat.intCast_sub, Rat.intCast_mul]; rfl
  rw [e2] at hw
  obtain ⟨s, hs, sp⟩ : ∃ s, s * r.nx b = 1 ∧ 0 < s := ⟨(r.nx b)⁻¹, Rat.inv_mul_cancel _ (by grind), Rat.inv_pos.mpr nxp⟩
  have elo := fun d => Rw.snoc_lo (b := b) (r := r) b0 d
  have ehi := fun d => Rw.snoc_hi (b := b) (r := r) b0 d
  unfold Rw.lo at h1
  unfold Rw.hi at h2
  rw [tl] at h1 h2
  obtain ⟨F, f1, f2⟩ := floor_is ((q.1 - r.worth b) * s + (r.m : Rat) / ((b - 1 : Int) : Rat))
  -- all by the next place
  have mulS' : ∀ {x y : Rat}, x ≤ y → x * s ≤ y * s := fun {x y} h => Rat.mul_le_mul_of_nonneg_right h (Rat.le_of_lt sp)
  have nxs : ∀ x : Rat, x * r.nx b * s = x := fun x => by rw [Rat.mul_assoc, Rat.mul_comm (r.nx b) s, hs, Rat.mul_one]
  have g1 : -(r.m : Rat) - (r.m : Rat) / ((b - 1 : Int) : Rat) ≤ (q.1 - r.worth b) * s := by
    have a := mulS' (show (-(r.m : Rat) - (r.m : Rat) / ((b - 1 : Int) : Rat)) * r.nx b ≤ q.1 - r.worth b by grind)
    rwa [nxs] at a
  have g2 : (q.2 - r.worth b) * s ≤ (r.m : Rat) + (r.m : Rat) / ((b - 1 : Int) : Rat) := by
    have a := mulS' (show q.2 - r.worth b ≤ ((r.m : Rat) + (r.m : Rat) / ((b - 1 : Int) : Rat)) * r.nx b by grind)
    rwa [nxs] at a
  have g3 : (q.2 - r.worth b) * s - (q.1 - r.worth b) * s ≤ 2 * ((r.m : Rat) / ((b - 1 : Int) : Rat)) - 1 := by
    have e : (q.2 - r.worth b) * s - (q.1 - r.worth b) * s = (q.2 - q.1) * s := by grind
    rw [e]
    have a := mulS' hw
    rw [nxs] at a
    have a2 : (q.2 - q.1) * s * ((b - 1 : Int) : Rat) ≤ (2 * ((r.m : Rat) / ((b - 1 : Int) : Rat)) - 1) * ((b - 1 : Int) : Rat) := by
      have e3 : (q.2 - q.1) * s * ((b - 1 : Int) : Rat) = (q.2 - q.1) * ((b - 1 : Int) : Rat) * s := by grind
      have e4 : (2 * ((r.m : Rat) / ((b - 1 : Int) : Rat)) - 1) * ((b - 1 : Int) : Rat) = 2 * ((r.m : Rat) / ((b - 1 : Int) : Rat) * ((b - 1 : Int) : Rat)) - ((b - 1 : Int) : Rat) := by grind
      rw [e3, e4, ec]; exact a
    exact Rat.le_of_mul_le_mul_right a2 cp
  have back : ∀ d : Int, -r.m ≤ d → d ≤ r.m → (d : Rat) ≤ (q.1 - r.worth b) * s + (r.m : Rat) / ((b - 1 : Int) : Rat) → (q.2 - r.worth b) * s - (r.m : Rat) / ((b - 1 : Int) : Rat) ≤ (d : Rat) → figsR b r q ≠ [] := fun d d0 d1 c1 c2 => by
    refine List.ne_nil_of_mem ((figs_mem (d := d) ok.m0).mpr ⟨⟨d0, d1⟩, ?_, ?_⟩)
    · rw [elo]
      have a := Rat.mul_le_mul_of_nonneg_right c1 (Rat.le_of_lt nxp)
      have e : ((q.1 - r.worth b) * s + (r.m : Rat) / ((b - 1 : Int) : Rat)) * r.nx b = (q.1 - r.worth b) * (s * r.nx b) + (r.m : Rat) / ((b - 1 : Int) : Rat) * r.nx b := by grind
      rw [e, hs] at a
      grind
    · rw [ehi]
      have a := Rat.mul_le_mul_of_nonneg_right c2 (Rat.le_of_lt nxp)
      have e : ((q.2 - r.worth b) * s - (r.m : Rat) / ((b - 1 : Int) : Rat)) * r.nx b = (q.2 - r.worth b) * (s * r.nx b) - (r.m : Rat) / ((b - 1 : Int) : Rat) * r.nx b := by grind
      rw [e, hs] at a
      grind
  generalize (q.1 - r.worth b) * s = Y at *
  generalize (q.2 - r.worth b) * s = Z at *
  generalize (r.m : Rat) / ((b - 1 : Int) : Rat) = c at *
  have F0 : -r.m ≤ F := by
    refine Int.not_lt.mp fun h => ?_
    have : ((F + 1 : Int) : Rat) ≤ ((-r.m : Int) : Rat) := Rat.intCast_le_intCast.mpr (by omega)
    rw [Rat.intCast_add, Rat.intCast_neg] at this
    have o : ((1 : Int) : Rat) = 1 := rfl
    grind
  by_cases hF : F ≤ r.m
  · exact back F F0 hF f1 (by grind)
  · have : ((r.m : Int) : Rat) ≤ (F : Rat) := Rat.intCast_le_intCast.mpr (by omega)
    exact back r.m (by have := ok.m0; omega) (Int.le_refl _) (by grind) (by grind)
/-! ### how wide -/
def Kn.kd : Kn → Option Kd
  | .sum ws v => some (.sum ws v)
  | .times => some .times
  | .over k => some (.over k)
  | .least => some .least
  | .most => some .most
  | _ => none
/-- a span that is no wider than w, no farther from nought than A -/
structure Nar (A w : Rat) (s : Rat × Rat) : Prop where
  l : -A ≤ s.1
  h : s.2 ≤ A
  u : s.1 ≤ s.2
  w : s.2 - s.1 ≤ w
theorem Nar.dist {A w : Rat} {s : Rat × Rat} (h : Nar A w s) {x y : Rat} (hx : x = s.1 ∨ x = s.2) (hy : y = s.1 ∨ y = s.2) : x - y ≤ w ∧ -A ≤ x ∧ x ≤ A := by
  obtain ⟨h1, h2, h3, h4⟩ := h
  rcases hx with rfl | rfl <;> rcases hy with rfl | rfl <;> exact ⟨by grind, by grind, by grind⟩
theorem absmul {A x d w : Rat} (h1 : -A ≤ x) (h2 : x ≤ A) (h3 : d ≤ w) (h4 : -w ≤ d) : x * d ≤ A * w := by
  have A0 : 0 ≤ A := by grind
  have w0 : 0 ≤ w := by grind
  rcases (Rat.le_total : 0 ≤ d ∨ d ≤ 0) with hd | hd
  · have a1 := Rat.mul_le_mul_of_nonneg_right h2 hd
    have a2 := Rat.mul_le_mul_of_nonneg_left h3 A0
    exact Rat.le_trans a1 a2
  · have a1 := Rat.mul_le_mul_of_nonneg_right (show -x ≤ A by grind) (show 0 ≤ -d by grind)
    have a2 := Rat.mul_le_mul_of_nonneg_left (show -d ≤ w by grind) A0
    have e : -x * -d = x * d := by grind
    rw [e] at a1
    exact Rat.le_trans a1 a2
/-- sources' spans behind so much read: z, a place's worth -/
def Nars (b : Int) (z : Rat) : List (Rat × Rat) → List (Int × Int) → Prop
  | [], [] => True
  | s :: ss, p :: ps => Nar (rim b p.1 p.2) (((2 * p.2 : Int) : Rat) / ((b - 1 : Int) : Rat) * z) s ∧ Nars b z ss ps
  | _, _ => False
theorem ch2' {s t : Rat × Rat} {xs : List Rat} (h : Ch [s, t] xs) : ∃ x y, xs = [x, y] ∧ (x = s.1 ∨ x = s.2) ∧ (y = t.1 ∨ y = t.2) := by
  match xs, h with
  | [x, y], ⟨h1, h2, _⟩ => exact ⟨x, y, rfl, h1, h2⟩
theorem wide1_le {b : Int} {z : Rat} (b0 : 2 ≤ b) : ∀ (ws : List Int) (ss : List (Rat × Rat)) (ps : List (Int × Int)), ws.length = ss.length → Nars b z ss ps → wide1 ws ss * ((b - 1 : Int) : Rat) ≤ 2 * ((sumW ws (ps.map (·.2)) : Int) : Rat) * z
  | [], [], [], _, _ => by
    have : sumW [] (List.map (fun x : Int × Int => x.2) []) = 0 := rfl
    rw [this]; unfold wide1
    have : ((0 : Int) : Rat) = 0 := rfl
    rw [this]; grind
  | [], [], _ :: _, _, h => h.elim
  | _ :: _, [], _, hl, _ => by simp at hl
  | [], _ :: _, _, hl, _ => by simp at hl
  | _ :: _, _ :: _, [], _, h => h.elim
  | w :: ws, s :: ss, p :: ps, hl, h => by
    have ih := wide1_le b0 ws ss ps (by simpa using hl) h.2
    have cp : (0 : Rat) < ((b - 1 : Int) : Rat) := ratpos (by omega)
    have e : sumW (w :: ws) ((p :: ps).map (·.2)) = abI w * p.2 + sumW ws (ps.map (·.2)) := by simp [sumW]
    rw [e, Rat.intCast_add, Rat.intCast_mul]
    unfold wide1
    have a0 : (0 : Rat) ≤ ((abI w : Int) : Rat) := by
      have : ((0 : Int) : Rat) ≤ ((abI w : Int) : Rat) := Rat.intCast_le_intCast.mpr (by unfold abI; split <;> omega)
      exact this
    have a1 := Rat.mul_le_mul_of_nonneg_left h.1.w a0
    have a2 := Rat.mul_le_mul_of_nonneg_right a1 (Rat.le_of_lt cp)
    have e2 : ((abI w : Int) : Rat) * (((2 * p.2 : Int) : Rat) / ((b - 1 : Int) : Rat) * z) * ((b - 1 : Int) : Rat) = 2 * (((abI w : Int) : Rat) * (p.2 : Rat)) * z := by
      rw [Rat.intCast_mul]
      have o : ((2 : Int) : Rat) = 2 := rfl
      rw [o]
      generalize ((b - 1 : Int) : Rat) = y at *
      have : (2 * (p.2 : Rat)) / y * y = 2 * (p.2 : Rat) := by rw [Rat.div_def, Rat.mul_assoc, Rat.inv_mul_cancel _ (by grind), Rat.mul_one]
      grind
    rw [e2] at a2
    generalize ((b - 1 : Int) : Rat) = y at *
    generalize wide1 ws ss = u at *
    generalize ((abI w : Int) : Rat) * (s.2 - s.1) = v at *
    grind
/-- how wide what may come is at most -/
theorem reach_wid {b : Int} {kn : Kn} {kd : Kd} {ss : List (Rat × Rat)} {ps : List (Int × Int)} {z : Rat} (hkd : kn.kd = some kd) (b0 : 2 ≤ b) (hk : kn.Ok) (hko : ∀ k, kn = .over k → 0 ≤ k) (hl : ss.length = kn.many) (hz : 0 < z) (hp : ∀ p, p ∈ ps → 0 ≤ p.2) (h : Nars b z ss ps) :
    ((reachQ b kn ss).2 - (reachQ b kn ss).1) * ((b - 1 : Int) : Rat) ≤ 2 * kd.wide b ps * z := by
  have cp : (0 : Rat) < ((b - 1 : Int) : Rat) := ratpos (by omega)
  have bp : (0 : Rat) < (b : Rat) := ratpos (by omega)
  -- of two sources
  have two : ∀ {W : Rat}, kn.many = 2 → (∀ s t p q x y x' y', ss = [s, t] → ps = [p, q] → (x = s.1 ∨ x = s.2) → (x' = s.1 ∨ x' = s.2) → (y = t.1 ∨ y = t.2) → (y' = t.1 ∨ y' = t.2) → Nar (rim b p.1 p.2) (((2 * p.2 : Int) : Rat) / ((b - 1 : Int) : Rat) * z) s → Nar (rim b q.1 q.2) (((2 * q.2 : Int) : Rat) / ((b - 1 : Int) : Rat) * z) t → (kn.app b [x, y] - kn.app b [x', y']) * ((b - 1 : Int) : Rat) ≤ W) →
      ((reachQ b kn ss).2 - (reachQ b kn ss).1) * ((b - 1 : Int) : Rat) ≤ W := fun {W} hm hW => by
    match ss, ps, (by rw [hl, hm] : ss.length = 2), h with
    | [s, t], [p, q], _, ⟨n1, n2, _⟩ =>
      obtain ⟨⟨c1, h1, e1⟩, c2, h2, e2⟩ := reach_ends b kn [s, t]
      obtain ⟨x', y', rfl, hx', hy'⟩ := ch2' h1
      obtain ⟨x, y, rfl, hx, hy⟩ := ch2' h2
      rw [e1, e2]
      exact hW s t p q x y x' y' rfl rfl hx hx' hy hy' n1 n2
  have wc : ∀ m : Int, ((2 * m : Int) : Rat) / ((b - 1 : Int) : Rat) * z * ((b - 1 : Int) : Rat) = 2 * (m : Rat) * z := fun m => by
    rw [Rat.intCast_mul]
    have o : ((2 : Int) : Rat) = 2 := rfl
    rw [o]
    generalize ((b - 1 : Int) : Rat) = y at *
    have : (2 * (m : Rat)) / y * y = 2 * (m : Rat) := by rw [Rat.div_def, Rat.mul_assoc, Rat.inv_mul_cancel _ (by grind), Rat.mul_one]
    grind
  have mx : ∀ p q : Int × Int, ps = [p, q] → 2 * (p.2 : Rat) * z ≤ 2 * ((maxI (ps.map (·.2)) : Int) : Rat) * z ∧ 2 * (q.2 : Rat) * z ≤ 2 * ((maxI (ps.map (·.2)) : Int) : Rat) * z := fun p q e => by
    have h1 : p.2 ≤ maxI (ps.map (·.2)) := maxI_ge (by rw [e]; simp)
    have h2 : q.2 ≤ maxI (ps.map (·.2)) := maxI_ge (by rw [e]; simp)
    have h1' := Rat.intCast_le_intCast.mpr h1
    have h2' := Rat.intCast_le_intCast.mpr h2
    exact ⟨Rat.mul_le_mul_of_nonneg_right (by grind) (Rat.le_of_lt hz), Rat.mul_le_mul_of_nonneg_right (by grind) (Rat.le_of_lt hz)⟩
  cases kn with
  | sum ws v =>
    cases hkd
    have vp := ratpos (show 0 < v by have := hk.2.2.1; omega)
    have up : Up ss := by
      clear two mx
      have : ∀ (ss : List (Rat × Rat)) (ps : List (Int × Int)), Nars b z ss ps → Up ss := fun ss => by
        induction ss with
        | nil => intro ps _ s hs; cases hs
        | cons s ss ih =>
          intro ps hn
          cases ps with
          | nil => exact hn.elim
          | cons p ps =>
            intro x hx
            rcases List.mem_cons.mp hx with rfl | hx
            · exact hn.1.u
            · exact ih ps hn.2 x hx
      exact this ss ps h
    rw [reach_sum hk.2.2.1 hl.symm up]
    dsimp only
    have a := wide1_le b0 ws ss ps hl.symm h
    have e : wsum ws (sumHi ws ss) / (v : Rat) - wsum ws (sumLo ws ss) / (v : Rat) = wide1 ws ss / (v : Rat) := by rw [← sum_wide]; grind
    rw [e]
    unfold Kd.wide
    dsimp only
    have iv := Rat.inv_pos.mpr vp
    have a2 := Rat.mul_le_mul_of_nonneg_right a (Rat.le_of_lt iv)
    rw [Rat.div_def, Rat.div_def]
    generalize (v : Rat)⁻¹ = i at *
    generalize ((b - 1 : Int) : Rat) = y at *
    grind
  | least =>
    cases hkd
    refine two rfl fun s t p q x y x' y' e1 e2 hx hx' hy hy' n1 n2 => ?_
    have d1 := (n1.dist hx hx').1
    have d2 := (n2.dist hy hy').1
    obtain ⟨m1, m2⟩ := mx p q e2
    have f1 := Rat.mul_le_mul_of_nonneg_right d1 (Rat.le_of_lt cp)
    have f2 := Rat.mul_le_mul_of_nonneg_right d2 (Rat.le_of_lt cp)
    rw [wc] at f1 f2
    show (min x y - min x' y') * ((b - 1 : Int) : Rat) ≤ 2 * ((maxI (ps.map (·.2)) : Int) : Rat) * z
    have : min x y - min x' y' ≤ x - x' ∨ min x y - min x' y' ≤ y - y' := by grind
    rcases this with h | h
    · exact Rat.le_trans (Rat.mul_le_mul_of_nonneg_right h (Rat.le_of_lt cp)) (Rat.le_trans f1 m1)
    · exact Rat.le_trans (Rat.mul_le_mul_of_nonneg_right h (Rat.le_of_lt cp)) (Rat.le_trans f2 m2)
  | most =>
    cases hkd
    refine two rfl fun s t p q x y x' y' e1 e2 hx hx' hy hy' n1 n2 => ?_
    have d1 := (n1.dist hx hx').1
    have d2 := (n2.dist hy hy').1
    obtain ⟨m1, m2⟩ := mx p q e2
    have f1 := Rat.mul_le_mul_of_nonneg_right d1 (Rat.le_of_lt cp)
    have f2 := Rat.mul_le_mul_of_nonneg_right d2 (Rat.le_of_lt cp)
    rw [wc] at f1 f2
    show (max x y - max x' y') * ((b - 1 : Int) : Rat) ≤ 2 * ((maxI (ps.map (·.2)) : Int) : Rat) * z
    have : max x y - max x' y' ≤ x - x' ∨ max x y - max x' y' ≤ y - y' := by grind
    rcases this with h | h
    · exact Rat.le_trans (Rat.mul_le_mul_of_nonneg_right h (Rat.le_of_lt cp)) (Rat.le_trans f1 m1)
    · exact Rat.le_trans (Rat.mul_le_mul_of_nonneg_right h (Rat.le_of_lt cp)) (Rat.le_trans f2 m2)
  | times =>
    cases hkd
    refine two rfl fun s t p q x y x' y' e1 e2 hx hx' hy hy' n1 n2 => ?_
    have d1 := n1.dist hx hx'
    have d1' := n1.dist hx' hx
    have d2 := n2.dist hy hy'
    have d2' := n2.dist hy' hy
    have a1 := absmul d1.2.1 d1.2.2 d2.1 (show _ ≤ y - y' by grind)
    have a2 := absmul d2'.2.1 d2'.2.2 d1.1 (show _ ≤ x - x' by grind)
    rw [e2]
    show (x * y - x' * y') * _ ≤ 2 * (((p.2 * q.2 : Int) : Rat) / ((b - 1 : Int) : Rat) * ((b : Rat) ^ p.1 + (b : Rat) ^ q.1)) * z
    have e3 : x * y - x' * y' = x * (y - y') + y' * (x - x') := by grind
    rw [e3]
    have a3 := Rat.mul_le_mul_of_nonneg_right (radd a1 a2) (Rat.le_of_lt cp)
    refine Rat.le_trans a3 ?_
    have e4 : (rim b p.1 p.2 * (((2 * q.2 : Int) : Rat) / ((b - 1 : Int) : Rat) * z) + rim b q.1 q.2 * (((2 * p.2 : Int) : Rat) / ((b - 1 : Int) : Rat) * z)) * ((b - 1 : Int) : Rat) = rim b p.1 p.2 * (2 * (q.2 : Rat) * z) + rim b q.1 q.2 * (2 * (p.2 : Rat) * z) := by
      rw [← wc q.2, ← wc p.2]; grind
    rw [e4]
    unfold rim
    rw [Rat.intCast_mul]
    generalize ((b - 1 : Int) : Rat) = Y at *
    generalize (b : Rat) ^ p.1 = B0 at *
    generalize (b : Rat) ^ q.1 = B1 at *
    rw [Rat.div_def, Rat.div_def, Rat.div_def]
    generalize Y⁻¹ = I at *
    have : ∀ a b : Rat, a = b → a ≤ b := fun a b h => by rw [h]; exact Rat.le_refl
    exact this _ _ (by grind)
  | over k =>
    cases hkd
    have k0 := hko k rfl
    refine two rfl fun s t p q x y x' y' e1 e2 hx hx' hy hy' n1 n2 => ?_
    have d1 := n1.dist hx hx'
    have d1' := n1.dist hx' hx
    have d2 := n2.dist hy hy'
    have d2' := n2.dist hy' hy
    have Cp : (0 : Rat) < (b : Rat) ^ (-k) := Rat.zpow_pos bp
    have Bp : (0 : Rat) < (b : Rat) ^ k := Rat.zpow_pos bp
    have BC : (b : Rat) ^ k * (b : Rat) ^ (-k) = 1 := by rw [← Rat.zpow_add (by grind), show k + -k = 0 by omega, Rat.zpow_zero]
    rw [e2]
    show (x / max y ((b : Rat) ^ (-k)) - x' / max y' ((b : Rat) ^ (-k))) * _ ≤ 2 * ((p.2 : Rat) * (b : Rat) ^ k * (((1 : Int) : Rat) + (q.2 : Rat) / ((b - 1 : Int) : Rat) * (b : Rat) ^ k * (b : Rat) ^ p.1)) * z
    obtain ⟨Y, hY⟩ : ∃ Y, Y = max y ((b : Rat) ^ (-k)) := ⟨_, rfl⟩
    obtain ⟨Y', hY'⟩ : ∃ Y', Y' = max y' ((b : Rat) ^ (-k)) := ⟨_, rfl⟩
    rw [← hY, ← hY']
    have y1 : (b : Rat) ^ (-k) ≤ Y := by rw [hY]; grind
    have y2 : (b : Rat) ^ (-k) ≤ Y' := by rw [hY']; grind
    have w0 : 0 ≤ ((2 * q.2 : Int) : Rat) / ((b - 1 : Int) : Rat) * z := by grind
    have y3 : Y - Y' ≤ ((2 * q.2 : Int) : Rat) / ((b - 1 : Int) : Rat) * z ∧ -(((2 * q.2 : Int) : Rat) / ((b - 1 : Int) : Rat) * z) ≤ Y - Y' := by rw [hY, hY']; grind
    have Yp : 0 < Y := by grind
    have Yp' : 0 < Y' := by grind
    have iY : 0 < Y⁻¹ := Rat.inv_pos.mpr Yp
    have iY' : 0 < Y'⁻¹ := Rat.inv_pos.mpr Yp'
    have cY : Y⁻¹ * Y = 1 := Rat.inv_mul_cancel _ (by grind)
    have cY' : Y'⁻¹ * Y' = 1 := Rat.inv_mul_cancel _ (by grind)
    -- the inverses are no more than the clip's
    have invle : ∀ {u i : Rat}, 0 < i → i * u = 1 → (b : Rat) ^ (-k) ≤ u → i ≤ (b : Rat) ^ k := fun {u i} ip iu hu => by
      have a := Rat.mul_le_mul_of_nonneg_left hu (Rat.le_of_lt ip)
      rw [iu] at a
      have a2 := Rat.mul_le_mul_of_nonneg_left a (Rat.le_of_lt Bp)
      have e : (b : Rat) ^ k * (i * (b : Rat) ^ (-k)) = i * ((b : Rat) ^ k * (b : Rat) ^ (-k)) := by grind
      rw [e, BC] at a2
      grind
    have i1 := invle iY cY y1
    have i2 := invle iY' cY' y2
    have e3 : x / Y - x' / Y' = (x - x') * Y⁻¹ + x' * ((Y' - Y) * (Y⁻¹ * Y'⁻¹)) := by
      rw [Rat.div_def, Rat.div_def]
      have : (Y' - Y) * (Y⁻¹ * Y'⁻¹) = Y⁻¹ * (Y'⁻¹ * Y') - (Y⁻¹ * Y) * Y'⁻¹ := by grind
      rw [this, cY, cY']; grind
    have w1 : 0 ≤ ((2 * p.2 : Int) : Rat) / ((b - 1 : Int) : Rat) * z := by grind
    have b1 : (x - x') * Y⁻¹ ≤ ((2 * p.2 : Int) : Rat) / ((b - 1 : Int) : Rat) * z * (b : Rat) ^ k :=
      Rat.le_trans (Rat.mul_le_mul_of_nonneg_right d1.1 (Rat.le_of_lt iY)) (Rat.mul_le_mul_of_nonneg_left i1 w1)
    have ii : 0 ≤ Y⁻¹ * Y'⁻¹ := Rat.mul_nonneg (Rat.le_of_lt iY) (Rat.le_of_lt iY')
    have iile : Y⁻¹ * Y'⁻¹ ≤ (b : Rat) ^ k * (b : Rat) ^ k := Rat.le_trans (Rat.mul_le_mul_of_nonneg_right i1 (Rat.le_of_lt iY')) (Rat.mul_le_mul_of_nonneg_left i2 (Rat.le_of_lt Bp))
    have c1 : (Y' - Y) * (Y⁻¹ * Y'⁻¹) ≤ ((2 * q.2 : Int) : Rat) / ((b - 1 : Int) : Rat) * z * ((b : Rat) ^ k * (b : Rat) ^ k) :=
      Rat.le_trans (Rat.mul_le_mul_of_nonneg_right (show Y' - Y ≤ _ by grind) ii) (Rat.mul_le_mul_of_nonneg_left iile w0)
    have c2 : -(((2 * q.2 : Int) : Rat) / ((b - 1 : Int) : Rat) * z * ((b : Rat) ^ k * (b : Rat) ^ k)) ≤ (Y' - Y) * (Y⁻¹ * Y'⁻¹) := by
      have a := Rat.le_trans (Rat.mul_le_mul_of_nonneg_right (show -(Y' - Y) ≤ ((2 * q.2 : Int) : Rat) / ((b - 1 : Int) : Rat) * z by grind) ii) (Rat.mul_le_mul_of_nonneg_left iile w0)
      rw [Rat.neg_mul] at a
      grind
    have b2 := absmul d1'.2.1 d1'.2.2 c1 c2
    rw [e3]
    have a3 := Rat.mul_le_mul_of_nonneg_right (radd b1 b2) (Rat.le_of_lt cp)
    refine Rat.le_trans a3 ?_
    have e4 : (((2 * p.2 : Int) : Rat) / ((b - 1 : Int) : Rat) * z * (b : Rat) ^ k + rim b p.1 p.2 * (((2 * q.2 : Int) : Rat) / ((b - 1 : Int) : Rat) * z * ((b : Rat) ^ k * (b : Rat) ^ k))) * ((b - 1 : Int) : Rat) = 2 * (p.2 : Rat) * z * (b : Rat) ^ k + rim b p.1 p.2 * (2 * (q.2 : Rat) * z * ((b : Rat) ^ k * (b : Rat) ^ k)) := by
      rw [← wc q.2, ← wc p.2]; grind
    rw [e4]
    unfold rim
    have o1 : ((1 : Int) : Rat) = 1 := rfl
    rw [o1]
    generalize ((b - 1 : Int) : Rat) = U at *
    generalize (b : Rat) ^ p.1 = B0 at *
    generalize (b : Rat) ^ k = B1 at *
    rw [Rat.div_def, Rat.div_def]
    generalize U⁻¹ = I at *
    have : ∀ a b : Rat, a = b → a ≤ b := fun a b h => by rw [h]; exact Rat.le_refl
    exact this _ _ (by grind)
  | loose ws => cases hkd
  | moved e => cases hkd
  | told q => cases hkd
  | choose => cases hkd
end Lb

/-! What the laws of parts draw and look at: kinds, what may come, shapes. -/
namespace Lb
open PySem PySem.Spec PyProof.Rows L2 DL
variable [CT]
local macro_rules | `(tactic| walk_at "dg3") => `(tactic| try simp only [dDispGet, dictAt, isi_non_dict, isi_bl_dict, isi_int_dict, isi_str_dict, isi_lst_dict, isi_tup_dict, isi_non_bs, isi_bl_bs, isi_int_bs, isi_str_bs, isi_lst_bs, isi_tup_bs, g_ix_enc0, g_ix_enc1, g_ix_sp0, g_ix_sp1, g_put_sp, Int.reduceEq, dSeq, dSet, dPar, dOp, dUn, dVar, dC, dCB, dCons, dNil, dTup, dLst, dLstM, dIfS, dIf, dTest, dNot, dAnd, dOr, dAndV, dOrV, dNotV, dRet, dRetN, dEnd, dNext, dAdd, dSub, dMul, dFdiv, dMod, dPow, dNeg, dLt, dLe, dGt, dGe, dEq, dNe, eqB_ii, eqB_bb, eqB_ss, eqB_nn, eqB_ni, eqB_in, eqB_ns, eqB_sn, eqB_is, eqB_si, eqB_nb, eqB_bn, dIn, g_ix_tup, g_ix_lst, g_ix_ext, g_ln_tup, g_ln_lst, g_ln_ext, g_nn_non, g_nn_int, g_nn_tup, g_in_non, g_in_int, g_in_tup, g_ix_row0, g_ix_row1, g_ix_row2, g_ix_span0, g_ix_span1, g_nn_span, g_nn_encR, g_in_span, cAbs, cMax2, cMin2, cInt, cList, cTuple, dIsB, dNotB, dPar3, ForN, LcN, pinOf, pin2, dEnum2, dAppend, supd_same0, isi_non_int, isi_non_bool, isi_non_str, isi_non_list, isi_non_tuple, isi_non_lt, isi_bl_int, isi_bl_bool, isi_bl_str, isi_bl_list, isi_bl_tuple, isi_bl_lt, isi_int_int, isi_int_bool, isi_int_str, isi_int_list, isi_int_tuple, isi_int_lt, isi_str_int, isi_str_bool, isi_str_str, isi_str_list, isi_str_tuple, isi_str_lt, isi_lst_int, isi_lst_bool, isi_lst_str, isi_lst_list, isi_lst_tuple, isi_lst_lt, isi_tup_int, isi_tup_bool, isi_tup_str, isi_tup_list, isi_tup_tuple, isi_tup_lt, dAug, dIAdd, dIMul, dDrop, dSl, dPart, dNoPart, dRevL, dCallK, dChainR, dAsg, put_nm, put_tp, put_tl, g_put_row, g_put_span, putL_nil, putL_cons, Option.bind, seqOf, lstOf, dFor, dLc, dLcM, dItSeq, dZip, dZipS, dEnum, dRng1, dRng2, dYes, dwipe, Tgt.slots, Tgt.slotsL,
  atI_0, atI_1, atI_2, atI_3, List.getElem?_cons_zero, List.getElem?_cons_succ, List.set_cons_zero, List.set_cons_succ, decide_eq_true_eq, List.length_cons, List.length_nil, List.cons_append, List.nil_append, List.append_nil, ofString_inj, String.reduceEq, decide_true, decide_false, reduceIte, Bool.false_eq_true, Bool.not_true, Bool.not_false, eqFlat, isFlat, List.any_cons, List.any_nil, List.all_cons, List.all_nil, Bool.or_false, Bool.or_true, Bool.false_or, Bool.true_or, Bool.and_true, Bool.true_and, true_and, and_true, Nat.reduceAdd, Nat.reduceLeDiff, Int.reduceLT, Int.reduceLE, Int.reduceNeg])
/-- a begin and a most of a part's own row, as they're drawn -/
structure Shp (b : Int) (kn : Kn) (ss : List (Int × Int)) (e m : Int) : Prop where
  e0 : -12 ≤ e
  e1 : e ≤ 29
  m0 : b ≤ 2 * m
  m1 : m ≤ 60
  f : fitB b kn ss e m = true
  c : Ch1 kn = true → m ≤ 15 ∧ ∃ e0, -12 ≤ e0 ∧ e0 ≤ 28 ∧ (e = e0 ∨ e = e0 + 1) ∧ fitB b kn ss e0 m = true ∧ (e0 = -12 ∨ fitB b kn ss (e0 - 1) m = false)
def shapes (rs : List Rw) : List (Int × Int) := rs.map fun r => (r.e, r.m)
end Lb

/-! What the laws of parts draw, continued. -/
namespace Lb
open PySem PySem.Spec PyProof.Rows L2 DL
variable [CT]
local macro_rules | `(tactic| walk_at "dg3") => `(tactic| try simp only [dDispGet, dictAt, isi_non_dict, isi_bl_dict, isi_int_dict, isi_str_dict, isi_lst_dict, isi_tup_dict, isi_non_bs, isi_bl_bs, isi_int_bs, isi_str_bs, isi_lst_bs, isi_tup_bs, g_ix_enc0, g_ix_enc1, g_ix_sp0, g_ix_sp1, g_put_sp, Int.reduceEq, dSeq, dSet, dPar, dOp, dUn, dVar, dC, dCB, dCons, dNil, dTup, dLst, dLstM, dIfS, dIf, dTest, dNot, dAnd, dOr, dAndV, dOrV, dNotV, dRet, dRetN, dEnd, dNext, dAdd, dSub, dMul, dFdiv, dMod, dPow, dNeg, dLt, dLe, dGt, dGe, dEq, dNe, eqB_ii, eqB_bb, eqB_ss, eqB_nn, eqB_ni, eqB_in, eqB_ns, eqB_sn, eqB_is, eqB_si, eqB_nb, eqB_bn, dIn, g_ix_tup, g_ix_lst, g_ix_ext, g_ln_tup, g_ln_lst, g_ln_ext, g_nn_non, g_nn_int, g_nn_tup, g_in_non, g_in_int, g_in_tup, g_ix_row0, g_ix_row1, g_ix_row2, g_ix_span0, g_ix_span1, g_nn_span, g_nn_encR, g_in_span, cAbs, cMax2, cMin2, cInt, cList, cTuple, dIsB, dNotB, dPar3, ForN, LcN, pinOf, pin2, dEnum2, dAppend, supd_same0, isi_non_int, isi_non_bool, isi_non_str, isi_non_list, isi_non_tuple, isi_non_lt, isi_bl_int, isi_bl_bool, isi_bl_str, isi_bl_list, isi_bl_tuple, isi_bl_lt, isi_int_int, isi_int_bool, isi_int_str, isi_int_list, isi_int_tuple, isi_int_lt, isi_str_int, isi_str_bool, isi_str_str, isi_str_list, isi_str_tuple, isi_str_lt, isi_lst_int, isi_lst_bool, isi_lst_str, isi_lst_list, isi_lst_tuple, isi_lst_lt, isi_tup_int, isi_tup_bool, isi_tup_str, isi_tup_list, isi_tup_tuple, isi_tup_lt, dAug, dIAdd, dIMul, dDrop, dSl, dPart, dNoPart, dRevL, dCallK, dChainR, dAsg, put_nm, put_tp, put_tl, g_put_row, g_put_span, putL_nil, putL_cons, Option.bind, seqOf, lstOf, dFor, dLc, dLcM, dItSeq, dZip, dZipS, dEnum, dRng1, dRng2, dYes, dwipe, Tgt.slots, Tgt.slotsL,
  atI_0, atI_1, atI_2, atI_3, List.getElem?_cons_zero, List.getElem?_cons_succ, List.set_cons_zero, List.set_cons_succ, decide_eq_true_eq, List.length_cons, List.length_nil, List.cons_append, List.nil_append, List.append_nil, ofString_inj, String.reduceEq, decide_true, decide_false, reduceIte, Bool.false_eq_true, Bool.not_true, Bool.not_false, eqFlat, isFlat, List.any_cons, List.any_nil, List.all_cons, List.all_nil, Bool.or_false, Bool.or_true, Bool.false_or, Bool.true_or, Bool.and_true, Bool.true_and, true_and, and_true, Nat.reduceAdd, Nat.reduceLeDiff, Int.reduceLT, Int.reduceLE, Int.reduceNeg])
/-! ### shapes -/
def shBare (rs : List Rw) : (shapes rs).map bareR = rs.map fun r => bareR (r.e, r.m) := by unfold shapes; rw [List.map_map]; rfl
end Lb

/-! A part whose row is wide enough gets its first figure; how wide what may come is, against what may come of bare rows. -/
namespace Lb
open PySem PySem.Spec PyProof.Rows L2 DL
variable [CT]
theorem bare_span {b : Int} (q : Int × Int) : spanQ b (bareR q) = (-rim b q.1 q.2, rim b q.1 q.2) := by
  show ((bareR q).lo b, (bareR q).hi b) = _
  rw [(bare_lo b q).1, (bare_lo b q).2]
theorem rim_c {b e m : Int} (b0 : 2 ≤ b) : rim b e m * ((b - 1 : Int) : Rat) = (m : Rat) * (b : Rat) ^ e := by
  have cp : (0 : Rat) < ((b - 1 : Int) : Rat) := ratpos (by omega)
  unfold rim
  generalize ((b - 1 : Int) : Rat) = y at *
  have : (m : Rat) / y * y = (m : Rat) := by rw [Rat.div_def, Rat.mul_assoc, Rat.inv_mul_cancel _ (by grind), Rat.mul_one]
  grind
theorem rim_nn {b e m : Int} (b0 : 2 ≤ b) (m0 : 0 ≤ m) : 0 ≤ rim b e m := by
  have c := ratpos (show 0 < b - 1 by omega)
  have m0' : (0 : Rat) ≤ (m : Rat) := by
    have : ((0 : Int) : Rat) ≤ (m : Rat) := Rat.intCast_le_intCast.mpr m0
    exact this
  unfold rim
  exact Rat.mul_nonneg (by rw [Rat.div_def]; exact Rat.mul_nonneg m0' (Rat.le_of_lt (Rat.inv_pos.mpr c))) (Rat.le_of_lt (Rat.zpow_pos (ratpos (by omega))))
/-! ### cut rows -/
theorem cut_nar {b k R : Int} {r : Rw} (b0 : 2 ≤ b) (h : Sm b k r) (hR : R ≤ known r) : Nar (rim b r.e r.m) (((2 * r.m : Int) : Rat) / ((b - 1 : Int) : Rat) * (b : Rat) ^ (-R)) (spanQ b (r.cut R)) := by
  have hc := h.cut R
  have f := hc.figs b0
  have ci := Rw.cut_in b0 f.1 f.2 (-r.e)
  have eb : (r.cut R).cut (-r.e) = bareR (r.e, r.m) := by
    unfold Rw.cut bareR
    simp
    exact .inl (by omega)
  rw [eb] at ci
  have bs := bare_span (b := b) (r.e, r.m)
  have bs1 : (bareR (r.e, r.m)).lo b = -rim b r.e r.m := congrArg Prod.fst bs
  have bs2 : (bareR (r.e, r.m)).hi b = rim b r.e r.m := congrArg Prod.snd bs
  rw [bs1, bs2] at ci
  have m0 : 0 ≤ r.m := by have := h.m0; omega
  have cp := ratpos (show 0 < b - 1 by omega)
  have mc : (0 : Rat) ≤ (r.m : Rat) / ((b - 1 : Int) : Rat) := by
    rw [Rat.div_def]
    refine Rat.mul_nonneg ?_ (Rat.le_of_lt (Rat.inv_pos.mpr cp))
    have : ((0 : Int) : Rat) ≤ (r.m : Rat) := Rat.intCast_le_intCast.mpr m0
    exact this
  have pp : (0 : Rat) < (r.cut R).pw b := Rat.zpow_pos (ratpos (by omega))
  have t0 : 0 ≤ (r.cut R).tail b := Rat.mul_nonneg mc (Rat.le_of_lt pp)
  have pl : (r.cut R).pw b ≤ (b : Rat) ^ (-R) := by
    refine zpow_mono (by omega) ?_
    show r.e - ((r.fs.take (R + r.e).toNat).length : Int) ≤ -R
    rw [List.length_take]
    unfold known at hR
    omega
  have tl := Rat.mul_le_mul_of_nonneg_left pl mc
  have e2 : ((2 * r.m : Int) : Rat) / ((b - 1 : Int) : Rat) * (b : Rat) ^ (-R) = 2 * ((r.m : Rat) / ((b - 1 : Int) : Rat) * (b : Rat) ^ (-R)) := by
    rw [Rat.intCast_mul]
    have o : ((2 : Int) : Rat) = 2 := rfl
    rw [o]; grind
  have tl2 : (r.cut R).tail b ≤ (r.m : Rat) / ((b - 1 : Int) : Rat) * (b : Rat) ^ (-R) := tl
  refine ⟨ci.1, ci.2, ?_, ?_⟩
  · show (r.cut R).worth b - (r.cut R).tail b ≤ (r.cut R).worth b + (r.cut R).tail b
    generalize (r.cut R).tail b = t at *
    generalize (r.cut R).worth b = w at *
    grind
  · rw [e2]
    show (r.cut R).worth b + (r.cut R).tail b - ((r.cut R).worth b - (r.cut R).tail b) ≤ _
    generalize (r.cut R).tail b = t at *
    generalize (r.cut R).worth b = w at *
    grind
theorem cut_nars {b k R : Int} (b0 : 2 ≤ b) : ∀ {rs : List Rw}, (∀ r, r ∈ rs → Sm b k r ∧ R ≤ known r) → Nars b ((b : Rat) ^ (-R)) ((rs.map fun r => r.cut R).map (spanQ b)) (shapes rs)
  | [], _ => trivial
  | r :: rs, h => ⟨cut_nar b0 (h r (List.mem_cons_self ..)).1 (h r (List.mem_cons_self ..)).2, cut_nars b0 fun x hx => h x (List.mem_cons_of_mem _ hx)⟩
structure SrcOk (b : Int) (p : Int × Int) : Prop where
  e0 : -2 ≤ p.1
  e1 : p.1 ≤ 3
  m0 : b ≤ 2 * p.2
  m1 : p.2 ≤ 15
end Lb

/-! A part whose row is wide enough gets its first figure. -/
namespace Lb
open PySem PySem.Spec PyProof.Rows L2 DL
variable [CT]
theorem Rch.head {f : Mst → Option Mst} {s s' t : Mst} (h : f s = some s') (r : Rch f s' t) : Rch f s t := by
  induction r with
  | refl => exact .step .refl h
  | step _ h2 ih => exact .step ih h2
theorem Runs.last {f : Mst → Option Mst} {s t : Mst} {tr tr' : List (Option Int × Int)} (h : Runs f s tr t tr') : Rch f s t ∧ f t = none := by
  induction h with
  | stop h => exact ⟨.refl, h⟩
  | go h _ ih => exact ⟨Rch.head h ih.1, ih.2⟩
/-- what may come is within the part's own row; no place is read that a row hasn't got -/
structure Wit (b : Int) (kn : Kn) (rs : List Rw) (e m : Int) (s : Mst) : Prop where
  lo : (ownR e m s).lo b ≤ (reachM b kn rs s.rd).1
  hi : (reachM b kn rs s.rd).2 ≤ (ownR e m s).hi b
  k : ∀ R, s.rd = some R → ∀ r, r ∈ rs → R ≤ known r
theorem wit0 {b : Int} {kn : Kn} {rs : List Rw} {e m : Int} (hc : Ch1 kn = true) (hf : fitB b kn (shapes rs) e m = true) : Wit b kn rs e m (st0 rs) := by
  have n1 : ∀ ws, kn ≠ .loose ws := fun ws z => by subst z; cases hc
  have n2 : ∀ k, kn ≠ .moved k := fun k z => by subst z; cases hc
  rw [fitB_of n1 n2, Bool.and_eq_true, decide_eq_true_eq, decide_eq_true_eq] at hf
  have eq : reachM b kn rs (st0 rs).rd = reachB b kn (shapes rs) := by
    unfold reachM reachB
    show reachQ b kn ((rs.map (cutR (firstR rs))).map (spanQ b)) = _
    rw [cut_first, shBare]
  have bs := bare_span (b := b) (e, m)
  have bs1 : (ownR e m (st0 rs)).lo b = -rim b e m := congrArg Prod.fst bs
  have bs2 : (ownR e m (st0 rs)).hi b = rim b e m := congrArg Prod.snd bs
  refine ⟨?_, ?_, fun R hR r hr => ?_⟩
  · rw [eq, bs1]; exact (aQ_le.mp hf.1).1
  · rw [eq, bs2]; exact (aQ_le.mp hf.2).2
  · have hR' : firstR rs = some R := hR
    unfold firstR at hR'
    have ne : rs ≠ [] := fun z => by rw [z] at hr; cases hr
    rw [if_neg ne] at hR'
    have hR2 : 0 - maxZ (rs.map (·.e)) = R := Option.some.inj hR'
    have := (maxZ_is (xs := rs.map (·.e)) (by simpa using ne)).2 r.e (List.mem_map.mpr ⟨r, hr, rfl⟩)
    unfold known
    omega
theorem hasN_lt {rs : List Rw} {R : Int} (h : hasN rs (some R) = true) : ∀ r, r ∈ rs → R < known r := fun r hr => by
  unfold hasN at h
  rw [List.all_eq_true] at h
  simpa using h r hr
theorem Part.wit {b k : Int} {kn : Kn} {rs : List Rw} {e m to : Int} (h : Part b k kn rs e m to) (hc : Ch1 kn = true) {s s' : Mst} (W : Wit b kn rs e m s) (m0 : 0 ≤ m) (hs : stepM b kn rs e m to s = some s') : Wit b kn rs e m s' := by
  unfold stepM at hs
  rw [if_pos hc] at hs
  cases hn : near (rightM b kn rs e m s) with
  | some d =>
    rw [hn] at hs
    dsimp only at hs
    split at hs
    · cases hs
    · cases hs
      have hd := (near_is hn).1
      have := (figs_mem (b := b) (r := ownR e m s) m0).mp hd
      exact ⟨this.2.1, this.2.2, W.k⟩
  | none =>
    rw [hn] at hs
    dsimp only at hs
    split at hs
    · rename_i hN
      cases hs
      cases hr : s.rd with
      | none => rw [hr] at hN; cases hN
      | some R =>
        rw [hr] at hN
        have rd := h.read (show R ≤ R + 1 by omega)
        have lo := W.lo
        have hi := W.hi
        rw [hr] at lo hi
        refine ⟨Rat.le_trans lo rd.1, Rat.le_trans rd.2 hi, fun R' hR' r hr' => ?_⟩
        have e1 : R + 1 = R' := Option.some.inj hR'
        have := hasN_lt hN r hr'
        omega
    · cases hs
theorem Part.wits {b k : Int} {kn : Kn} {rs : List Rw} {e m to : Int} (h : Part b k kn rs e m to) (hc : Ch1 kn = true) (hf : fitB b kn (shapes rs) e m = true) {s : Mst} (r : Rch (stepM b kn rs e m to) (st0 rs) s) : Wit b kn rs e m s :=
  r.of (wit0 hc hf) fun _ _ W hs => h.wit hc W h.m0 hs
/-- enough read: a figure is right -/
theorem Part.enough {b k R : Int} {kn : Kn} {kd : Kd} {rs : List Rw} {e m to : Int} (h : Part b k kn rs e m to) (hkd : kn.kd = some kd) (ko : ∀ k, kn = .over k → 0 ≤ k) {s : Mst} (I : MInv b kn rs e m to s) (W : Wit b kn rs e m s) (hR : s.rd = some R) (hm : b ≤ 2 * m)
    (hw : 2 * kd.wide b (shapes rs) * (b : Rat) ^ (-R) ≤ ((2 * m - b + 1 : Int) : Rat) * (b : Rat) ^ (e - (s.figs.length : Int) - 1)) : near (rightM b kn rs e m s) ≠ none := by
  intro z
  have b0 := h.b0
  have ns := cut_nars (k := k) (R := R) b0 (rs := rs) fun r hr => ⟨h.s r hr, W.k R hR r hr⟩
  have er : rs.map (cutR s.rd) = rs.map fun r => r.cut R := by rw [hR]; rfl
  have rw1 := reach_wid hkd b0 h.ko ko (by rw [List.length_map, List.length_map]; exact h.l) (Rat.zpow_pos (ratpos (by omega))) (fun p hp => by
    obtain ⟨r, hr, rfl⟩ := List.mem_map.mp hp
    have := (h.s r hr).m0
    show 0 ≤ r.m
    omega) ns
  refine right_exists (q := reachM b kn rs s.rd) (h.own I) (by show b ≤ 2 * m + 1; omega) W.lo W.hi ?_ (near_none.mp z)
  unfold reachM
  rw [er]
  exact Rat.le_trans rw1 hw
theorem reach_all {b : Int} {kn : Kn} {ss : List (Rat × Rat)} {xs : List Rat} (hx : Ch ss xs) : (reachQ b kn ss).1 ≤ kn.app b xs ∧ kn.app b xs ≤ (reachQ b kn ss).2 := by
  have hm : kn.app b xs ∈ kn.vals b ss := mem_vals.mpr ⟨xs, hx, rfl⟩
  have ne : kn.vals b ss ≠ [] := List.ne_nil_of_mem hm
  exact ⟨(minL_is ne).2 _ hm, (maxL_is ne).2 _ hm⟩
theorem sm_bare {b k : Int} {r : Rw} (b0 : 2 ≤ b) (k0 : 0 ≤ k) (h : Sm b k r) : Sm b k (bareR (r.e, r.m)) := ⟨h.e0, h.e1, h.m0, h.m1, by show (0 : Int) ≤ k; exact k0, fun f hf => by cases hf⟩
/-- a part whose shape fits is one -/
theorem Part.ofS {b k : Int} {kn : Kn} {rs : List Rw} {e m to : Int} (b0 : 2 ≤ b) (b1 : b ≤ 10) (ko : kn.Ok) (hc : Ch1 kn = true) (l : rs.length = kn.many) (s : ∀ r, r ∈ rs → Sm b k r) (k1 : k ≤ 60) (e0 : -40 ≤ e) (e1 : e ≤ 40) (m0 : 0 ≤ m) (m1 : m ≤ 1000) (t : to + e ≤ 79) (hf : fitB b kn (shapes rs) e m = true) : Part b k kn rs e m to := by
  have W := wit0 (rs := rs) hc hf
  have ok : (ownR e m (st0 rs)).Ok b := ⟨b0, by omega, e0, e1, m0, m1, by show (0 : Nat) ≤ 80; omega, fun f hf' => by cases hf'⟩
  have eq : reachM b kn rs (st0 rs).rd = reachQ b kn ((rs.map fun r => bareR (r.e, r.m)).map (spanQ b)) := by
    unfold reachM
    show reachQ b kn ((rs.map (cutR (firstR rs))).map (spanQ b)) = _
    rw [cut_first]
  have lo := W.lo
  have hi := W.hi
  rw [eq] at lo hi
  have bok : ∀ r, r ∈ (rs.map fun r => bareR (r.e, r.m)) → r.Ok b := fun r hr => by
    obtain ⟨r', hr', rfl⟩ := List.mem_map.mp hr
    exact (sm_bare (k := k) b0 (by have := (s r' hr').l; omega) (s r' hr')).ok b0 (by omega) (by omega)
  have le := reach_le (b := b) (kn := kn) b0 ko (by rw [List.length_map]; exact l) bok
  exact ⟨b0, b1, ko, l, s, k1, e0, e1, m0, m1, t, near_in ok ⟨lo, Rat.le_trans le hi⟩, near_in ok ⟨Rat.le_trans lo le, hi⟩⟩
theorem Part.of {b k : Int} {kn : Kn} {rs : List Rw} {e m to : Int} (b0 : 2 ≤ b) (b1 : b ≤ 10) (ko : kn.Ok) (hc : Ch1 kn = true) (l : rs.length = kn.many) (s : ∀ r, r ∈ rs → Small b k r) (k1 : k ≤ 40) (e0 : -40 ≤ e) (e1 : e ≤ 40) (m0 : 0 ≤ m) (m1 : m ≤ 1000) (t : to + e ≤ 79) (hf : fitB b kn (shapes rs) e m = true) : Part b k kn rs e m to :=
  Part.ofS b0 b1 ko hc l (fun r hr => (s r hr).sm) (by omega) e0 e1 m0 m1 t hf
end Lb

/-! What a part gives of fewer figures, or of fewer places, is the front of what it gives of more. -/
namespace Lb
open PySem PySem.Spec PyProof.Rows L2 DL
variable [CT]
def rdLe : Option Int → Option Int → Prop
  | some i, some j => i ≤ j
  | none, none => True
  | _, _ => False
theorem rdLe.refl : ∀ a : Option Int, rdLe a a
  | none => trivial
  | some i => Int.le_refl i
theorem rdLe.trans : ∀ {a b c : Option Int}, rdLe a b → rdLe b c → rdLe a c
  | none, none, none, _, _ => trivial
  | some i, some j, some k, h1, h2 => Int.le_trans (show i ≤ j from h1) (show j ≤ k from h2)
  | none, some _, _, h, _ => h.elim
  | some _, none, _, h, _ => h.elim
  | none, none, some _, _, h => h.elim
  | some _, some _, none, _, h => h.elim
theorem stepM_le {b : Int} {kn : Kn} {rs : List Rw} {e m to : Int} {s s' : Mst} (h : stepM b kn rs e m to s = some s') : rdLe s.rd s'.rd := by
  rcases stepM_rd h with h | ⟨h, hN⟩
  · rw [h]; exact rdLe.refl _
  · cases hr : s.rd with
    | none => rw [hr] at hN; cases hN
    | some k => rw [h, hr]; show k ≤ k + 1; omega
theorem Runs.more {b : Int} {kn : Kn} {rs : List Rw} {e m to : Int} {s t : Mst} {tr tr' : List (Option Int × Int)} (h : Runs (stepM b kn rs e m to) s tr t tr') : rdLe s.rd t.rd ∧ ∃ l, tr' = tr ++ l ∧ t.figs = s.figs ++ l.map (·.2) := by
  induction h with
  | stop _ => exact ⟨rdLe.refl _, [], by simp, by simp⟩
  | @go s s' tr t tr' h _ ih =>
    obtain ⟨hr, l, h1, h2⟩ := ih
    refine ⟨(stepM_le h).trans hr, ?_⟩
    rcases stepM_figs h with ⟨⟨d, hd⟩, _⟩ | ⟨hd, _, _⟩
    · have hlt : s.figs.length < s'.figs.length := by rw [hd, List.length_append]; exact Nat.lt_succ_self _
      have hg : growT s s' tr = tr ++ [(s'.rd, d)] := by
        unfold growT
        rw [if_pos hlt, hd]
        simp
      rw [hg] at h1
      exact ⟨(s'.rd, d) :: l, by rw [h1]; simp, by rw [h2, hd]; simp⟩
    · have hlt : ¬ s.figs.length < s'.figs.length := by rw [hd]; omega
      have hg : growT s s' tr = tr := by
        unfold growT
        rw [if_neg hlt]
      rw [hg] at h1
      exact ⟨l, h1, by rw [h2, hd]⟩
/-- the trace's figures are the row's -/
theorem Runs.figs {b : Int} {kn : Kn} {rs : List Rw} {e m to : Int} {t : Mst} {tr : List (Option Int × Int)} (h : Runs (stepM b kn rs e m to) (st0 rs) [] t tr) : t.figs = tr.map (·.2) := by
  obtain ⟨_, l, h1, h2⟩ := h.more
  rw [h2]
  simp at h1
  subst h1
  rfl
/-! ### of fewer figures -/
/-- a row's front -/
structure Ext1 (f r : Rw) : Prop where
  e : f.e = r.e
  m : f.m = r.m
  p : ∃ l, r.fs = f.fs ++ l
inductive Exts : List Rw → List Rw → Prop
  | nil : Exts [] []
  | cons {f r fs rs} : Ext1 f r → Exts fs rs → Exts (f :: fs) (r :: rs)
theorem Ext1.cut {f r : Rw} (h : Ext1 f r) {R : Int} (hR : R ≤ known f) : f.cut R = r.cut R := by
  obtain ⟨l, hl⟩ := h.p
  unfold Rw.cut
  unfold known at hR
  rw [h.e, h.m, hl]
  have := h.e
  rw [List.take_append_of_le_length (by omega)]
theorem Ext1.known {f r : Rw} (h : Ext1 f r) : known f ≤ known r := by
  obtain ⟨l, hl⟩ := h.p
  unfold Lb.known
  rw [h.e, hl, List.length_append]
  push_cast
  omega
theorem Ext1.fig {f r : Rw} (h : Ext1 f r) {k : Int} (hk : k ≤ Lb.known f) : figAt f k = figAt r k := by
  obtain ⟨l, hl⟩ := h.p
  unfold figAt
  unfold Lb.known at hk
  rw [h.e, hl]
  have := h.e
  split
  · rw [List.getD_eq_getElem?_getD, List.getD_eq_getElem?_getD, List.getElem?_append_left (by omega)]
  · rfl
theorem Exts.shapes {fs rs : List Rw} (h : Exts fs rs) : shapes fs = shapes rs := by
  induction h with
  | nil => rfl
  | cons h1 _ ih =>
    unfold Lb.shapes at ih ⊢
    rw [List.map_cons, List.map_cons, ih, h1.e, h1.m]
theorem Exts.len {fs rs : List Rw} (h : Exts fs rs) : fs.length = rs.length := by
  induction h with
  | nil => rfl
  | cons _ _ ih => rw [List.length_cons, List.length_cons, ih]
theorem Exts.es {fs rs : List Rw} (h : Exts fs rs) : fs.map (·.e) = rs.map (·.e) := by
  induction h with
  | nil => rfl
  | cons h1 _ ih => rw [List.map_cons, List.map_cons, ih, h1.e]
theorem Exts.first {fs rs : List Rw} (h : Exts fs rs) : firstR fs = firstR rs := by
  unfold firstR
  have hl := h.len
  by_cases z : fs = []
  · have : rs = [] := by rw [z] at hl; exact List.eq_nil_of_length_eq_zero hl.symm
    rw [if_pos z, if_pos this]
  · have : rs ≠ [] := fun z2 => z (by rw [z2] at hl; exact List.eq_nil_of_length_eq_zero hl)
    rw [if_neg z, if_neg this, h.es]
theorem Exts.cut {fs rs : List Rw} (h : Exts fs rs) {R : Int} (hR : ∀ f, f ∈ fs → R ≤ known f) : fs.map (fun r => r.cut R) = rs.map fun r => r.cut R := by
  induction h with
  | nil => rfl
  | cons h1 _ ih => rw [List.map_cons, List.map_cons, ih fun f hf => hR f (List.mem_cons_of_mem _ hf), h1.cut (hR _ (List.mem_cons_self ..))]
theorem Exts.has {fs rs : List Rw} (h : Exts fs rs) {rd : Option Int} (hN : hasN fs rd = true) : hasN rs rd = true := by
  cases rd with
  | none => cases hN
  | some R =>
    unfold hasN at hN ⊢
    rw [List.all_eq_true] at hN ⊢
    intro r hr
    have : ∃ f, f ∈ fs ∧ Ext1 f r := by
      clear hN
      induction h with
      | nil => cases hr
      | cons h1 _ ih =>
        rcases List.mem_cons.mp hr with rfl | hr
        · exact ⟨_, List.mem_cons_self .., h1⟩
        · obtain ⟨f, hf, hx⟩ := ih hr
          exact ⟨f, List.mem_cons_of_mem _ hf, hx⟩
    obtain ⟨f, hf, hx⟩ := this
    have h1 := hN f hf
    have h2 := hx.known
    simp at h1 ⊢
    omega
theorem Exts.plain {kn : Kn} {fs rs : List Rw} (h : Exts fs rs) {k : Int} (hk : ∀ f, f ∈ fs → k ≤ known f) : plainFig kn fs k = plainFig kn rs k := by
  unfold plainFig
  congr 1
  generalize signs kn = ws
  induction h generalizing ws with
  | nil => rfl
  | cons h1 _ ih =>
    cases ws with
    | nil => rfl
    | cons w ws =>
      rw [List.zip_cons_cons, List.zip_cons_cons, List.map_cons, List.map_cons, ih (fun f hf => hk f (List.mem_cons_of_mem _ hf)) ws]
      dsimp only
      rw [h1.fig (hk _ (List.mem_cons_self ..))]
/-- no place is read that a row hasn't got -/
def Read (fs : List Rw) (s : Mst) : Prop := ∀ R, s.rd = some R → ∀ f, f ∈ fs → R ≤ known f
theorem stepM_rd2 {b : Int} {kn : Kn} {rs : List Rw} {e m to : Int} {s s' : Mst} (h : stepM b kn rs e m to s = some s') (hR : Read rs s) : Read rs s' := by
  rcases stepM_rd h with h | ⟨h, hN⟩
  · intro R hr; rw [h] at hr; exact hR R hr
  · intro R hr f hf
    rw [h] at hr
    cases hs : s.rd with
    | none => rw [hs] at hN; cases hN
    | some k =>
      rw [hs] at hN hr
      have e1 : k + 1 = R := Option.some.inj hr
      have := hasN_lt hN f hf
      omega
theorem Dk.kp {S S1 S2 : Store} {p : Addr} {n : Nat} (h : Dk S S1 p n) (h2 : Kp S1 S2) : Dk S S2 p n := ⟨h2.box h.1, fun q x hq e => h2 q x (h.2 q x hq e)⟩
end Lb

/-! What shows to be a trace. -/
namespace Lb
open PySem PySem.Spec PyProof.Rows L2 DL
variable [CT]
local macro_rules | `(tactic| walk_at "dg3") => `(tactic| try simp only [dDispGet, dictAt, isi_non_dict, isi_bl_dict, isi_int_dict, isi_str_dict, isi_lst_dict, isi_tup_dict, isi_non_bs, isi_bl_bs, isi_int_bs, isi_str_bs, isi_lst_bs, isi_tup_bs, g_ix_enc0, g_ix_enc1, g_ix_sp0, g_ix_sp1, g_put_sp, Int.reduceEq, dSeq, dSet, dPar, dOp, dUn, dVar, dC, dCB, dCons, dNil, dTup, dLst, dLstM, dIfS, dIf, dTest, dNot, dAnd, dOr, dAndV, dOrV, dNotV, dRet, dRetN, dEnd, dNext, dAdd, dSub, dMul, dFdiv, dMod, dPow, dNeg, dLt, dLe, dGt, dGe, dEq, dNe, eqB_ii, eqB_bb, eqB_ss, eqB_nn, eqB_ni, eqB_in, eqB_ns, eqB_sn, eqB_is, eqB_si, eqB_nb, eqB_bn, dIn, g_ix_tup, g_ix_lst, g_ix_ext, g_ln_tup, g_ln_lst, g_ln_ext, g_nn_non, g_nn_int, g_nn_tup, g_in_non, g_in_int, g_in_tup, g_ix_row0, g_ix_row1, g_ix_row2, g_ix_span0, g_ix_span1, g_nn_span, g_nn_encR, g_in_span, cAbs, cMax2, cMin2, cInt, cList, cTuple, dIsB, dNotB, dPar3, ForN, LcN, pinOf, pin2, dEnum2, dAppend, supd_same0, isi_non_int, isi_non_bool, isi_non_str, isi_non_list, isi_non_tuple, isi_non_lt, isi_bl_int, isi_bl_bool, isi_bl_str, isi_bl_list, isi_bl_tuple, isi_bl_lt, isi_int_int, isi_int_bool, isi_int_str, isi_int_list, isi_int_tuple, isi_int_lt, isi_str_int, isi_str_bool, isi_str_str, isi_str_list, isi_str_tuple, isi_str_lt, isi_lst_int, isi_lst_bool, isi_lst_str, isi_lst_list, isi_lst_tuple, isi_lst_lt, isi_tup_int, isi_tup_bool, isi_tup_str, isi_tup_list, isi_tup_tuple, isi_tup_lt, dAug, dIAdd, dIMul, dDrop, dSl, dPart, dNoPart, dRevL, dCallK, dChainR, dAsg, put_nm, put_tp, put_tl, g_put_row, g_put_span, putL_nil, putL_cons, Option.bind, seqOf, lstOf, dFor, dLc, dLcM, dItSeq, dZip, dZipS, dEnum, dRng1, dRng2, dYes, dwipe, Tgt.slots, Tgt.slotsL,
  atI_0, atI_1, atI_2, atI_3, List.getElem?_cons_zero, List.getElem?_cons_succ, List.set_cons_zero, List.set_cons_succ, decide_eq_true_eq, List.length_cons, List.length_nil, List.cons_append, List.nil_append, List.append_nil, ofString_inj, String.reduceEq, decide_true, decide_false, reduceIte, Bool.false_eq_true, Bool.not_true, Bool.not_false, eqFlat, isFlat, List.any_cons, List.any_nil, List.all_cons, List.all_nil, Bool.or_false, Bool.or_true, Bool.false_or, Bool.true_or, Bool.and_true, Bool.true_and, true_and, and_true, Nat.reduceAdd, Nat.reduceLeDiff, Int.reduceLT, Int.reduceLE, Int.reduceNeg])
local macro_rules | `(tactic| walk_at "dg4") => `(tactic| try simp only [dFld, dSetFld, dFldAdd, dMeth, dMake, dMakeK, dFld2, dMinKey, dDispGet, dictAt, isi_non_dict, isi_bl_dict, isi_int_dict, isi_str_dict, isi_lst_dict, isi_tup_dict, isi_non_bs, isi_bl_bs, isi_int_bs, isi_str_bs, isi_lst_bs, isi_tup_bs, g_ix_enc0, g_ix_enc1, g_ix_sp0, g_ix_sp1, g_put_sp, Int.reduceEq, dSeq, dSet, dPar, dOp, dUn, dVar, dC, dCB, dCons, dNil, dTup, dLst, dLstM, dIfS, dIf, dTest, dNot, dAnd, dOr, dAndV, dOrV, dNotV, dRet, dRetN, dEnd, dNext, dAdd, dSub, dMul, dFdiv, dMod, dPow, dNeg, dLt, dLe, dGt, dGe, dEq, dNe, eqB_ii, eqB_bb, eqB_ss, eqB_nn, eqB_ni, eqB_in, eqB_ns, eqB_sn, eqB_is, eqB_si, eqB_nb, eqB_bn, dIn, g_ix_tup, g_ix_lst, g_ix_ext, g_ln_tup, g_ln_lst, g_ln_ext, g_nn_non, g_nn_int, g_nn_tup, g_in_non, g_in_int, g_in_tup, g_ix_row0, g_ix_row1, g_ix_row2, g_ix_span0, g_ix_span1, g_nn_span, g_nn_encR, g_in_span, cAbs, cMax2, cMin2, cInt, cList, cTuple, dIsB, dNotB, dPar3, ForN, LcN, pinOf, pin2, dEnum2, dAppend, supd_same0, isi_non_int, isi_non_bool, isi_non_str, isi_non_list, isi_non_tuple, isi_non_lt, isi_bl_int, isi_bl_bool, isi_bl_str, isi_bl_list, isi_bl_tuple, isi_bl_lt, isi_int_int, isi_int_bool, isi_int_str, isi_int_list, isi_int_tuple, isi_int_lt, isi_str_int, isi_str_bool, isi_str_str, isi_str_list, isi_str_tuple, isi_str_lt, isi_lst_int, isi_lst_bool, isi_lst_str, isi_lst_list, isi_lst_tuple, isi_lst_lt, isi_tup_int, isi_tup_bool, isi_tup_str, isi_tup_list, isi_tup_tuple, isi_tup_lt, dAug, dIAdd, dIMul, dDrop, dSl, dPart, dNoPart, dRevL, dCallK, dChainR, dAsg, put_nm, put_tp, put_tl, g_put_row, g_put_span, putL_nil, putL_cons, Option.bind, seqOf, lstOf, dFor, dLc, dLcM, dItSeq, dZip, dZipS, dEnum, dRng1, dRng2, dYes, dwipe, Tgt.slots, Tgt.slotsL,
  atI_0, atI_1, atI_2, atI_3, List.getElem?_cons_zero, List.getElem?_cons_succ, List.set_cons_zero, List.set_cons_succ, decide_eq_true_eq, List.length_cons, List.length_nil, List.cons_append, List.nil_append, List.append_nil, ofString_inj, String.reduceEq, decide_true, decide_false, reduceIte, Bool.false_eq_true, Bool.not_true, Bool.not_false, eqFlat, isFlat, List.any_cons, List.any_nil, List.all_cons, List.all_nil, Bool.or_false, Bool.or_true, Bool.false_or, Bool.true_or, Bool.and_true, Bool.true_and, true_and, and_true, Nat.reduceAdd, Nat.reduceLeDiff, Int.reduceLT, Int.reduceLE, Int.reduceNeg])
def minZ (xs : List Int) : Int := -maxZ (xs.map fun x => -x)
theorem minZ_is {xs : List Int} (h : xs ≠ []) : minZ xs ∈ xs ∧ ∀ x, x ∈ xs → minZ xs ≤ x := by
  obtain ⟨a, c⟩ := maxZ_is (xs := xs.map fun x => -x) (by simpa using h)
  obtain ⟨y, hy, e⟩ := List.mem_map.mp a
  unfold minZ
  refine ⟨by rw [← e]; simpa using hy, fun x hx => ?_⟩
  have := c (-x) (List.mem_map.mpr ⟨x, hx, rfl⟩)
  omega
theorem minZ_ok {ms : List Int} {S : Store} {P : D → Store → Prop} (hne : ms ≠ []) (q : P (.int (minZ ms)) S) : cMinL [.lst (ms.map .int)] S P := by
  unfold cMinL
  simp only [lstOf, Option.bind, dInts_map]
  refine ⟨by cases ms with | nil => exact absurd rfl hne | cons => simp, fun m hm hge => ?_⟩
  obtain ⟨a, c⟩ := minZ_is hne
  have e : m = minZ ms := by
    have a1 := hge _ a
    have a2 := c _ hm
    omega
  rw [e]; exact q
def lastR (rs : List Rw) : Option Int := if rs = [] then none else some (minZ (rs.map known))
def isRead : Option Int → Option Int → Option Int → Bool
  | r, none, _ => r.isNone
  | some k, some a, some l => decide (a ≤ k) && decide (k ≤ l)
  | _, _, _ => false
/-- reads and figures one behind the other show a trace -/
def okT (b : Int) (kn : Kn) (rs : List Rw) (e m : Int) : Option Int → List Int → List (Option Int × Int) → Bool
  | _, _, [] => true
  | f, fs, (r, d) :: t => isRead r f (lastR rs) && (decide (d ∈ rightM b kn rs e m ⟨fs, r⟩) && okT b kn rs e m r (fs ++ [d]) t)
/-! ### what stands while a trace is looked at -/
theorem Part.reads {b k : Int} {kn : Kn} {rs : List Rw} {e m to : Int} (h : Part b k kn rs e m to) {fs : List Int} {j i : Int} (I : MInv b kn rs e m to ⟨fs, some j⟩) (hji : j ≤ i) : MInv b kn rs e m to ⟨fs, some i⟩ := by
  have k1 := h.k1
  have b1 := h.b1
  have bp := ratpos (show 0 < b by have := h.b0; omega)
  have r12 : (reachM b kn rs (some i)).1 ≤ (reachM b kn rs (some i)).2 := reach_le h.b0 h.ko (by rw [List.length_map]; exact h.l) fun r hr => (cutR_small h.s (some i) r hr).ok h.b0 (by omega) (by omega)
  have rr := h.read hji
  refine ⟨⟨fun z => absurd (I.nr.mp z) (by simp), fun z => by cases z⟩, I.n, I.f, ?_, ?_⟩
  · exact near_mono bp I.q1 I.q2 rr.1 (Rat.le_trans r12 rr.2)
  · exact near_mono bp I.q1 I.q2 (Rat.le_trans rr.1 r12) rr.2
/-- while a trace is looked at -/
structure ShI (b : Int) (kn : Kn) (rs : List Rw) (e m to : Int) (tr : List (Option Int × Int)) (S0 : Store) (p : Addr) (x : D) (i : Nat) (ρ : DSt) (S : Store) : Prop where
  all : ∃ (fs : List Int) (f : Option Int) (z6 z10 z11 z12 z13 : Option D), S p = some (.lst (fs.map .int)) ∧ MInv b kn rs e m to ⟨fs, f⟩ ∧ fs.length = i ∧ okT b kn rs e m (firstR rs) [] tr = okT b kn rs e m f fs (tr.drop i) ∧
    ρ = [some (.int b), some kn.d, some (.lst (rs.map Rw.d)), some x, some (.int e), some (.int m), z6, some (rdD f), some (.obj p), some (rdD (lastR rs)), z10, z11, z12, z13]
  kp : Kp S0 S
  p0 : S0 p = none
end Lb

/-! Traces: what is made of them; the right figures once more. -/
namespace Lb
open PySem PySem.Spec PyProof.Rows L2 DL
variable [CT]
local macro_rules | `(tactic| walk_at "dg3") => `(tactic| try simp only [dDispGet, dictAt, isi_non_dict, isi_bl_dict, isi_int_dict, isi_str_dict, isi_lst_dict, isi_tup_dict, isi_non_bs, isi_bl_bs, isi_int_bs, isi_str_bs, isi_lst_bs, isi_tup_bs, g_ix_enc0, g_ix_enc1, g_ix_sp0, g_ix_sp1, g_put_sp, Int.reduceEq, dSeq, dSet, dPar, dOp, dUn, dVar, dC, dCB, dCons, dNil, dTup, dLst, dLstM, dIfS, dIf, dTest, dNot, dAnd, dOr, dAndV, dOrV, dNotV, dRet, dRetN, dEnd, dNext, dAdd, dSub, dMul, dFdiv, dMod, dPow, dNeg, dLt, dLe, dGt, dGe, dEq, dNe, eqB_ii, eqB_bb, eqB_ss, eqB_nn, eqB_ni, eqB_in, eqB_ns, eqB_sn, eqB_is, eqB_si, eqB_nb, eqB_bn, dIn, g_ix_tup, g_ix_lst, g_ix_ext, g_ln_tup, g_ln_lst, g_ln_ext, g_nn_non, g_nn_int, g_nn_tup, g_in_non, g_in_int, g_in_tup, g_ix_row0, g_ix_row1, g_ix_row2, g_ix_span0, g_ix_span1, g_nn_span, g_nn_encR, g_in_span, cAbs, cMax2, cMin2, cInt, cList, cTuple, dIsB, dNotB, dPar3, ForN, LcN, pinOf, pin2, dEnum2, dAppend, supd_same0, isi_non_int, isi_non_bool, isi_non_str, isi_non_list, isi_non_tuple, isi_non_lt, isi_bl_int, isi_bl_bool, isi_bl_str, isi_bl_list, isi_bl_tuple, isi_bl_lt, isi_int_int, isi_int_bool, isi_int_str, isi_int_list, isi_int_tuple, isi_int_lt, isi_str_int, isi_str_bool, isi_str_str, isi_str_list, isi_str_tuple, isi_str_lt, isi_lst_int, isi_lst_bool, isi_lst_str, isi_lst_list, isi_lst_tuple, isi_lst_lt, isi_tup_int, isi_tup_bool, isi_tup_str, isi_tup_list, isi_tup_tuple, isi_tup_lt, dAug, dIAdd, dIMul, dDrop, dSl, dPart, dNoPart, dRevL, dCallK, dChainR, dAsg, put_nm, put_tp, put_tl, g_put_row, g_put_span, putL_nil, putL_cons, Option.bind, seqOf, lstOf, dFor, dLc, dLcM, dItSeq, dZip, dZipS, dEnum, dRng1, dRng2, dYes, dwipe, Tgt.slots, Tgt.slotsL,
  atI_0, atI_1, atI_2, atI_3, List.getElem?_cons_zero, List.getElem?_cons_succ, List.set_cons_zero, List.set_cons_succ, decide_eq_true_eq, List.length_cons, List.length_nil, List.cons_append, List.nil_append, List.append_nil, ofString_inj, String.reduceEq, decide_true, decide_false, reduceIte, Bool.false_eq_true, Bool.not_true, Bool.not_false, eqFlat, isFlat, List.any_cons, List.any_nil, List.all_cons, List.all_nil, Bool.or_false, Bool.or_true, Bool.false_or, Bool.true_or, Bool.and_true, Bool.true_and, true_and, and_true, Nat.reduceAdd, Nat.reduceLeDiff, Int.reduceLT, Int.reduceLE, Int.reduceNeg])
local macro_rules | `(tactic| walk_at "dg4") => `(tactic| try simp only [dFld, dSetFld, dFldAdd, dMeth, dMake, dMakeK, dFld2, dMinKey, dDispGet, dictAt, isi_non_dict, isi_bl_dict, isi_int_dict, isi_str_dict, isi_lst_dict, isi_tup_dict, isi_non_bs, isi_bl_bs, isi_int_bs, isi_str_bs, isi_lst_bs, isi_tup_bs, g_ix_enc0, g_ix_enc1, g_ix_sp0, g_ix_sp1, g_put_sp, Int.reduceEq, dSeq, dSet, dPar, dOp, dUn, dVar, dC, dCB, dCons, dNil, dTup, dLst, dLstM, dIfS, dIf, dTest, dNot, dAnd, dOr, dAndV, dOrV, dNotV, dRet, dRetN, dEnd, dNext, dAdd, dSub, dMul, dFdiv, dMod, dPow, dNeg, dLt, dLe, dGt, dGe, dEq, dNe, eqB_ii, eqB_bb, eqB_ss, eqB_nn, eqB_ni, eqB_in, eqB_ns, eqB_sn, eqB_is, eqB_si, eqB_nb, eqB_bn, dIn, g_ix_tup, g_ix_lst, g_ix_ext, g_ln_tup, g_ln_lst, g_ln_ext, g_nn_non, g_nn_int, g_nn_tup, g_in_non, g_in_int, g_in_tup, g_ix_row0, g_ix_row1, g_ix_row2, g_ix_span0, g_ix_span1, g_nn_span, g_nn_encR, g_in_span, cAbs, cMax2, cMin2, cInt, cList, cTuple, dIsB, dNotB, dPar3, ForN, LcN, pinOf, pin2, dEnum2, dAppend, supd_same0, isi_non_int, isi_non_bool, isi_non_str, isi_non_list, isi_non_tuple, isi_non_lt, isi_bl_int, isi_bl_bool, isi_bl_str, isi_bl_list, isi_bl_tuple, isi_bl_lt, isi_int_int, isi_int_bool, isi_int_str, isi_int_list, isi_int_tuple, isi_int_lt, isi_str_int, isi_str_bool, isi_str_str, isi_str_list, isi_str_tuple, isi_str_lt, isi_lst_int, isi_lst_bool, isi_lst_str, isi_lst_list, isi_lst_tuple, isi_lst_lt, isi_tup_int, isi_tup_bool, isi_tup_str, isi_tup_list, isi_tup_tuple, isi_tup_lt, dAug, dIAdd, dIMul, dDrop, dSl, dPart, dNoPart, dRevL, dCallK, dChainR, dAsg, put_nm, put_tp, put_tl, g_put_row, g_put_span, putL_nil, putL_cons, Option.bind, seqOf, lstOf, dFor, dLc, dLcM, dItSeq, dZip, dZipS, dEnum, dRng1, dRng2, dYes, dwipe, Tgt.slots, Tgt.slotsL,
  atI_0, atI_1, atI_2, atI_3, List.getElem?_cons_zero, List.getElem?_cons_succ, List.set_cons_zero, List.set_cons_succ, decide_eq_true_eq, List.length_cons, List.length_nil, List.cons_append, List.nil_append, List.append_nil, ofString_inj, String.reduceEq, decide_true, decide_false, reduceIte, Bool.false_eq_true, Bool.not_true, Bool.not_false, eqFlat, isFlat, List.any_cons, List.any_nil, List.all_cons, List.all_nil, Bool.or_false, Bool.or_true, Bool.false_or, Bool.true_or, Bool.and_true, Bool.true_and, true_and, and_true, Nat.reduceAdd, Nat.reduceLeDiff, Int.reduceLT, Int.reduceLE, Int.reduceNeg])
/-! ### traces -/
theorem okT_cons {b : Int} {kn : Kn} {rs : List Rw} {e m : Int} {f r : Option Int} {fs : List Int} {d : Int} {t : List (Option Int × Int)} : okT b kn rs e m f fs ((r, d) :: t) = (isRead r f (lastR rs) && (decide (d ∈ rightM b kn rs e m ⟨fs, r⟩) && okT b kn rs e m r (fs ++ [d]) t)) := rfl
def lastF : Option Int → List (Option Int × Int) → Option Int
  | f, [] => f
  | _, x :: t => lastF x.1 t
theorem okT_app {b : Int} {kn : Kn} {rs : List Rw} {e m : Int} : ∀ (t1 t2 : List (Option Int × Int)) (f : Option Int) (fs : List Int), okT b kn rs e m f fs (t1 ++ t2) = (okT b kn rs e m f fs t1 && okT b kn rs e m (lastF f t1) (fs ++ t1.map (·.2)) t2)
  | [], t2, f, fs => by simp [okT, lastF]
  | x :: t1, t2, f, fs => by
    obtain ⟨r, d⟩ := x
    rw [List.cons_append, okT_cons, okT_cons]
    rw [okT_app t1 t2 r (fs ++ [d])]
    have e : lastF f ((r, d) :: t1) = lastF r t1 := rfl
    rw [e, List.map_cons, List.append_assoc]
    simp only [Bool.and_assoc, List.singleton_append]
theorem lastF_app : ∀ (t1 t2 : List (Option Int × Int)) (f : Option Int), lastF f (t1 ++ t2) = lastF (lastF f t1) t2
  | [], _, _ => rfl
  | x :: t1, t2, f => lastF_app t1 t2 x.1
theorem okT_snoc {b : Int} {kn : Kn} {rs : List Rw} {e m : Int} {f : Option Int} {fs : List Int} {t : List (Option Int × Int)} {r : Option Int} {d : Int} (h : okT b kn rs e m f fs t = true) (hr : isRead r (lastF f t) (lastR rs) = true) (hd : d ∈ rightM b kn rs e m ⟨fs ++ t.map (·.2), r⟩) : okT b kn rs e m f fs (t ++ [(r, d)]) = true := by
  rw [okT_app, h, Bool.true_and, okT_cons]
  rw [hr, decide_eq_true hd]
  simp [okT]
theorem read_ok {rs : List Rw} {r f : Option Int} (hr : rs = [] ↔ r = none) (hle : rdLe f r) (hk : ∀ R, r = some R → ∀ a, a ∈ rs → R ≤ known a) : isRead r f (lastR rs) = true := by
  cases r with
  | none =>
    cases f with
    | none => rfl
    | some a => exact hle.elim
  | some R =>
    cases f with
    | none => exact hle.elim
    | some a =>
      have ne : rs ≠ [] := fun z => by cases hr.mp z
      unfold lastR
      rw [if_neg ne]
      have mz := minZ_is (xs := rs.map known) (by simpa using ne)
      obtain ⟨x, hx, ex⟩ := List.mem_map.mp mz.1
      have h1 : a ≤ R := hle
      have h2 := hk R rfl x hx
      show (decide (a ≤ R) && decide (R ≤ minZ (rs.map known))) = true
      rw [decide_eq_true h1, decide_eq_true (by omega : R ≤ minZ (rs.map known))]
      rfl
/-- a machine's trace shows to be one -/
theorem Runs.shows {b : Int} {kn : Kn} {rs : List Rw} {e m to : Int} (hc : Ch1 kn = true) {s t : Mst} {tr tr' : List (Option Int × Int)} (h : Runs (stepM b kn rs e m to) s tr t tr') : okT b kn rs e m (firstR rs) [] tr = true → s.figs = tr.map (·.2) → rdLe (lastF (firstR rs) tr) s.rd → NoRows rs s → Read rs s → okT b kn rs e m (firstR rs) [] tr' = true := by
  induction h with
  | stop _ => exact fun h _ _ _ _ => h
  | @go s s' tr t tr' h _ ih =>
    intro ok hf hle nr rd
    have nr' := noRows_step nr h
    have rd' := stepM_rd2 h rd
    have hg : okT b kn rs e m (firstR rs) [] (growT s s' tr) = true ∧ s'.figs = (growT s s' tr).map (·.2) ∧ rdLe (lastF (firstR rs) (growT s s' tr)) s'.rd := by
      unfold stepM at h
      rw [if_pos hc] at h
      cases hn : near (rightM b kn rs e m s) with
      | some d =>
        rw [hn] at h
        dsimp only at h
        split at h
        · cases h
        · cases h
          have hlt : s.figs.length < (s.figs ++ [d]).length := by rw [List.length_append]; exact Nat.lt_succ_self _
          have e1 : growT s ⟨s.figs ++ [d], s.rd⟩ tr = tr ++ [(s.rd, d)] := by
            unfold growT
            rw [if_pos hlt]
            simp
          rw [e1]
          refine ⟨okT_snoc ok (read_ok nr hle rd) ?_, by rw [List.map_append, hf]; rfl, ?_⟩
          · have := (near_is hn).1
            rw [List.nil_append, ← hf]
            exact this
          · rw [lastF_app]; exact rdLe.refl _
      | none =>
        rw [hn] at h
        dsimp only at h
        split at h
        · rename_i hN
          cases h
          have e1 : growT s ⟨s.figs, s.rd.map (· + 1)⟩ tr = tr := by
            unfold growT
            rw [if_neg (Nat.lt_irrefl _)]
          rw [e1]
          refine ⟨ok, hf, hle.trans ?_⟩
          cases hr : s.rd with
          | none => exact trivial
          | some R => show R ≤ R + 1; omega
        · cases h
    exact ih hg.1 hg.2.1 hg.2.2 nr' rd'
end Lb

/-! What a loose or a moved part gives. -/
namespace Lb
open PySem PySem.Spec PyProof.Rows L2 DL
variable [CT]
end Lb

/-! What a told part gives. -/
namespace Lb
open PySem PySem.Spec PyProof.Rows L2 DL
variable [CT]
end Lb

namespace DL
open PySem PySem.Spec PyProof.Rows L2
section
variable {X : Cx}
open Classical in
end
section
variable {K : PySem.W.Frag}
end
section
variable {X : Cx} {pos p : Pos} {a : Expr} {ds : DA}
end
end DL

/-! min of a list of pairs of ints. -/
namespace DL
open PySem PySem.Spec PyProof.Rows L2
section
variable {X : Cx}
end
section
variable {K : PySem.W.Frag}
end
section
variable {X : Cx} {pos p : Pos} {a : Expr} {ds : DA}
end
end DL

/-! A list that has changed and changes no more, from a statement on. -/
namespace DL
open PySem PySem.Spec PyProof.Rows L2
end DL

/-! Numbers by their figures; a part's figures come no later than told. -/
namespace Lb
open PySem PySem.Spec PyProof.Rows L2 DL
variable [CT]
/-! ### no later than told -/
/-- none is right: no more has been read than told for the next place -/
theorem Part.late {b k R lag : Int} {kn : Kn} {kd : Kd} {rs : List Rw} {e m to : Int} (h : Part b k kn rs e m to) (hkd : kn.kd = some kd) (ko : ∀ k, kn = .over k → 0 ≤ k) {s : Mst} (I : MInv b kn rs e m to s) (W : Wit b kn rs e m s) (hR : s.rd = some R) (hm : b ≤ 2 * m)
    (hl : kd.need b (shapes rs) ≤ (b : Rat) ^ lag * ((2 * m - b + 1 : Int) : Rat)) (hn : near (rightM b kn rs e m s) = none) : R < nextP e s + lag := by
  refine Int.not_le.mp fun hle => h.enough hkd ko I W hR hm ?_ hn
  have b0 := h.b0
  have bp := ratpos (show 0 < b by omega)
  have u : ((0 : Int) : Rat) ≤ ((2 * m - b + 1 : Int) : Rat) := Rat.intCast_le_intCast.mpr (by omega)
  have o : ((2 : Int) : Rat) = 2 := rfl
  unfold Kd.need at hl
  rw [o] at hl
  have a1 := Rat.mul_le_mul_of_nonneg_right hl (Rat.le_of_lt (Rat.zpow_pos (n := -R) bp))
  have e1 : (b : Rat) ^ lag * ((2 * m - b + 1 : Int) : Rat) * (b : Rat) ^ (-R) = ((2 * m - b + 1 : Int) : Rat) * (b : Rat) ^ (lag - R) := by
    rw [show lag - R = lag + -R by omega, Rat.zpow_add (by grind)]
    grind
  have a2 : (b : Rat) ^ (lag - R) ≤ (b : Rat) ^ (e - (s.figs.length : Int) - 1) := zpow_mono (by omega) (by unfold nextP at hle; omega)
  have a3 := Rat.mul_le_mul_of_nonneg_left a2 u
  rw [e1] at a1
  exact Rat.le_trans a1 a3
/-- where a part stops -/
theorem Part.stop {b k : Int} {kn : Kn} {rs : List Rw} {e m to : Int} (hc : Ch1 kn = true) (hne : rs ≠ []) {s : Mst} (W : Wit b kn rs e m s) (nr : NoRows rs s) (hs : stepM b kn rs e m to s = none) :
    (to < nextP e s ∧ near (rightM b kn rs e m s) ≠ none) ∨ (near (rightM b kn rs e m s) = none ∧ ∃ R, s.rd = some R ∧ (∀ r, r ∈ rs → R ≤ known r) ∧ ∃ r, r ∈ rs ∧ known r = R) := by
  unfold stepM at hs
  rw [if_pos hc] at hs
  cases hn : near (rightM b kn rs e m s) with
  | some d =>
    rw [hn] at hs
    dsimp only at hs
    split at hs
    · rename_i c; exact .inl ⟨c, by simp⟩
    · cases hs
  | none =>
    rw [hn] at hs
    dsimp only at hs
    split at hs
    · cases hs
    · rename_i c
      refine .inr ⟨rfl, ?_⟩
      cases hr : s.rd with
      | none => exact absurd (nr.mpr hr) hne
      | some R =>
        refine ⟨R, rfl, W.k R hr, ?_⟩
        rw [hr] at c
        unfold hasN at c
        have : ∃ r, r ∈ rs ∧ ¬ R < known r := Classical.byContradiction fun hno => c (List.all_eq_true.mpr fun r hr' => by
          rw [decide_eq_true_eq]
          exact Classical.byContradiction fun hlt => hno ⟨r, hr', hlt⟩)
        obtain ⟨r, hr', hlt⟩ := this
        have := W.k R hr r hr'
        exact ⟨r, hr', by omega⟩
end Lb

/-! No figure comes later than told; a part reads all of its rows. -/
namespace Lb
open PySem PySem.Spec PyProof.Rows L2 DL
variable [CT]
def KL : Kn → Prop
  | .sum ws v => 1 ≤ ws.length ∧ ws.length ≤ 4 ∧ (∀ w, w ∈ ws → w ≠ 0 ∧ w.natAbs ≤ 9) ∧ 1 ≤ v ∧ v ≤ 1000
  | .over k => 0 ≤ k ∧ k ≤ 3
  | .times => True
  | .least => True
  | .most => True
  | .choose => True
  | _ => False
theorem KL.ok {kn : Kn} (h : KL kn) : kn.Ok := by
  cases kn with
  | sum ws v => exact ⟨h.2.1, fun w hw => by have := (h.2.2.1 w hw).2; omega, h.2.2.2⟩
  | over k => show k.natAbs ≤ 20; have := h.1; have := h.2; omega
  | loose ws => exact h.elim
  | moved j => exact h.elim
  | told q => exact h.elim
  | _ => trivial
theorem KL.ch {kn : Kn} (h : KL kn) : Ch1 kn = true := by
  cases kn with
  | loose ws => exact h.elim
  | moved j => exact h.elim
  | told q => exact h.elim
  | _ => rfl
theorem KL.many {kn : Kn} (h : KL kn) : 1 ≤ kn.many ∧ kn.many ≤ 4 := by
  cases kn with
  | sum ws v => exact ⟨h.1, h.2.1⟩
  | loose ws => exact h.elim
  | moved j => exact h.elim
  | told q => exact h.elim
  | times => exact ⟨by show 1 ≤ 2; decide, by show 2 ≤ 4; decide⟩
  | over k => exact ⟨by show 1 ≤ 2; decide, by show 2 ≤ 4; decide⟩
  | least => exact ⟨by show 1 ≤ 2; decide, by show 2 ≤ 4; decide⟩
  | most => exact ⟨by show 1 ≤ 2; decide, by show 2 ≤ 4; decide⟩
  | choose => exact ⟨by show 1 ≤ 3; decide, by show 3 ≤ 4; decide⟩
/-- what told_lag is asked of a kind -/
def tkdL : Kn → TKd
  | .sum ws v => .kd (.sum ws v)
  | .times => .kd .times
  | .over k => .kd (.over k)
  | .least => .kd .least
  | .most => .kd .most
  | _ => .choose
structure AskL (b : Int) (kn : Kn) (ps : List (Int × Int)) (m : Int) : Prop where
  d : (tkdL kn).d = kn.d
  ok : (tkdL kn).Ok b ps m
  o : ∀ k, kn = .over k → 0 ≤ k
  or : kn = .choose ∨ ∃ kd, kn.kd = some kd ∧ tkdL kn = .kd kd ∧ kn.word ≠ "choose"
/-! ### how wide it is at least -/
theorem app_width {b : Int} {kn : Kn} {ss : List (Rat × Rat)} {c d : List Rat} (hc : Ch ss c) (hd : Ch ss d) : kn.app b c - kn.app b d ≤ (reachQ b kn ss).2 - (reachQ b kn ss).1 := by
  have h1 := reach_all (b := b) (kn := kn) hc
  have h2 := reach_all (b := b) (kn := kn) hd
  have a := h1.2
  have a' := h2.1
  generalize (reachQ b kn ss).2 = y at *
  generalize (reachQ b kn ss).1 = x at *
  grind
theorem ch_lows : ∀ (ss : List (Rat × Rat)), Ch ss (ss.map (·.1))
  | [] => trivial
  | s :: ss => ⟨.inl rfl, ch_lows ss⟩
theorem mul_cancel_div {x y : Rat} (hy : 0 < y) : x / y * y = x := by
  rw [Rat.div_def, Rat.mul_assoc, Rat.inv_mul_cancel _ (by grind), Rat.mul_one]
theorem le_mul_of_div {x y z M : Rat} (hy : 0 < y) (hM : y ≤ M) (hz : 0 ≤ z) (h : x / y ≤ z) : x ≤ M * z := by
  have h1 := Rat.mul_le_mul_of_nonneg_right h (Rat.le_of_lt hy)
  rw [mul_cancel_div hy] at h1
  have h2 := Rat.mul_le_mul_of_nonneg_left hM hz
  grind
theorem wide_low {b : Int} {kn : Kn} {ss : List (Rat × Rat)} {z : Rat} (b0 : 2 ≤ b) (hk : KL kn) (hl : ss.length = kn.many) (z0 : 0 < z) (hz : ∀ s, s ∈ ss → z ≤ s.2 - s.1 ∧ s.2 ≤ 15000) :
    z ≤ 15000 * ((reachQ b kn ss).2 - (reachQ b kn ss).1) ∨ z * z ≤ 2 * ((reachQ b kn ss).2 - (reachQ b kn ss).1) := by
  have aw : ∀ {c d : List Rat}, Ch ss c → Ch ss d → kn.app b c - kn.app b d ≤ (reachQ b kn ss).2 - (reachQ b kn ss).1 := fun hc hd => app_width hc hd
  have W0 : 0 ≤ (reachQ b kn ss).2 - (reachQ b kn ss).1 := by
    have := aw (ch_lows ss) (ch_lows ss)
    grind
  generalize (reachQ b kn ss).2 - (reachQ b kn ss).1 = W at *
  cases kn with
  | loose ws => exact hk.elim
  | moved j => exact hk.elim
  | told q => exact hk.elim
  | sum ws v =>
    match ws, ss, hk.1, hl with
    | w :: ws, s :: ss, _, _ =>
    have hs := hz s (by simp)
    have hw := hk.2.2.1 w (by simp)
    have v0 := ratpos (show 0 < v by have := hk.2.2.2.1; omega)
    have v1 : (v : Rat) ≤ ((1000 : Int) : Rat) := Rat.intCast_le_intCast.mpr hk.2.2.2.2
    have o1 : ((1000 : Int) : Rat) = 1000 := rfl
    have h1 := aw (c := s.2 :: ss.map (·.1)) (d := s.1 :: ss.map (·.1)) ⟨.inr rfl, ch_lows ss⟩ ⟨.inl rfl, ch_lows ss⟩
    have h2 := aw (c := s.1 :: ss.map (·.1)) (d := s.2 :: ss.map (·.1)) ⟨.inl rfl, ch_lows ss⟩ ⟨.inr rfl, ch_lows ss⟩
    unfold Kn.app at h1 h2
    dsimp only at h1 h2
    unfold wsum at h1 h2
    generalize wsum ws (ss.map (·.1)) = r at *
    have k1 : ((w : Rat) * (s.2 - s.1)) / (v : Rat) ≤ W := by
      have : ((w : Rat) * (s.2 - s.1)) / (v : Rat) = ((w : Rat) * s.2 + r) / (v : Rat) - ((w : Rat) * s.1 + r) / (v : Rat) := by
        rw [Rat.div_def, Rat.div_def, Rat.div_def]; grind
      rw [this]; exact h1
    have k2 : (-(w : Rat) * (s.2 - s.1)) / (v : Rat) ≤ W := by
      have : (-(w : Rat) * (s.2 - s.1)) / (v : Rat) = ((w : Rat) * s.1 + r) / (v : Rat) - ((w : Rat) * s.2 + r) / (v : Rat) := by
        rw [Rat.div_def, Rat.div_def, Rat.div_def]; grind
      rw [this]; exact h2
    have j1 := le_mul_of_div v0 v1 W0 k1
    have j2 := le_mul_of_div v0 v1 W0 k2
    rw [o1] at j1 j2
    have oo : ((1 : Int) : Rat) = 1 := rfl
    left
    have d0 : 0 ≤ s.2 - s.1 := by grind
    rcases (show 1 ≤ w ∨ 1 ≤ -w by omega) with c | c
    · have c1 : ((1 : Int) : Rat) ≤ (w : Rat) := Rat.intCast_le_intCast.mpr c
      have := Rat.mul_le_mul_of_nonneg_right c1 d0
      grind
    · have c1 : ((1 : Int) : Rat) ≤ ((-w : Int) : Rat) := Rat.intCast_le_intCast.mpr c
      rw [Rat.intCast_neg] at c1
      have := Rat.mul_le_mul_of_nonneg_right c1 d0
      grind
  | times =>
    match ss, hl with
    | [s, t], _ =>
    have hs := hz s (by simp)
    have ht := hz t (by simp)
    have h1 := aw (c := [s.2, t.2]) (d := [s.2, t.1]) ⟨.inr rfl, .inr rfl, trivial⟩ ⟨.inr rfl, .inl rfl, trivial⟩
    have h2 := aw (c := [s.1, t.1]) (d := [s.1, t.2]) ⟨.inl rfl, .inl rfl, trivial⟩ ⟨.inl rfl, .inr rfl, trivial⟩
    unfold Kn.app at h1 h2
    dsimp only at h1 h2
    right
    have a1 := Rat.mul_le_mul_of_nonneg_left hs.1 (Rat.le_of_lt z0)
    have a2 := Rat.mul_le_mul_of_nonneg_right ht.1 (show 0 ≤ s.2 - s.1 by grind)
    grind
  | over k =>
    match ss, hl with
    | [s, t], _ =>
    have hs := hz s (by simp)
    have ht := hz t (by simp)
    have h1 := aw (c := [s.2, t.1]) (d := [s.1, t.1]) ⟨.inr rfl, .inl rfl, trivial⟩ ⟨.inl rfl, .inl rfl, trivial⟩
    unfold Kn.app at h1
    dsimp only at h1
    have p0 : (0 : Rat) < (b : Rat) ^ (-k) := Rat.zpow_pos (ratpos (by omega))
    have p1 : (b : Rat) ^ (-k) ≤ 1 := by
      have := zpow_mono (b := b) (by omega) (show -k ≤ 0 by have := hk.1; omega)
      rwa [Rat.zpow_zero] at this
    have m0 : 0 < max t.1 ((b : Rat) ^ (-k)) := by rw [max_if]; split <;> grind
    have m1 : max t.1 ((b : Rat) ^ (-k)) ≤ 15000 := by rw [max_if]; split <;> grind
    generalize max t.1 ((b : Rat) ^ (-k)) = y at *
    left
    have k1 : (s.2 - s.1) / y ≤ W := by
      have : (s.2 - s.1) / y = s.2 / y - s.1 / y := by rw [Rat.div_def, Rat.div_def, Rat.div_def]; grind
      rw [this]; exact h1
    have := le_mul_of_div m0 m1 W0 k1
    grind
  | least =>
    match ss, hl with
    | [s, t], _ =>
    have hs := hz s (by simp)
    have ht := hz t (by simp)
    have h1 := aw (c := [s.2, t.2]) (d := [s.1, t.1]) ⟨.inr rfl, .inr rfl, trivial⟩ ⟨.inl rfl, .inl rfl, trivial⟩
    unfold Kn.app at h1
    dsimp only at h1
    rw [min_if, min_if] at h1
    left
    split at h1 <;> split at h1 <;> grind
  | most =>
    match ss, hl with
    | [s, t], _ =>
    have hs := hz s (by simp)
    have ht := hz t (by simp)
    have h1 := aw (c := [s.2, t.2]) (d := [s.1, t.1]) ⟨.inr rfl, .inr rfl, trivial⟩ ⟨.inl rfl, .inl rfl, trivial⟩
    unfold Kn.app at h1
    dsimp only at h1
    rw [max_if, max_if] at h1
    left
    split at h1 <;> split at h1 <;> grind
  | choose =>
    match ss, hl with
    | [p, s, t], _ =>
    have hs := hz s (by simp)
    have ht := hz t (by simp)
    left
    by_cases c : p.2 < 0
    · have h1 := aw (c := [p.2, s.1, t.2]) (d := [p.2, s.1, t.1]) ⟨.inr rfl, .inl rfl, .inr rfl, trivial⟩ ⟨.inr rfl, .inl rfl, .inl rfl, trivial⟩
      unfold Kn.app at h1
      dsimp only at h1
      rw [if_pos c, if_pos c] at h1
      grind
    · have h1 := aw (c := [p.2, s.2, t.1]) (d := [p.2, s.1, t.1]) ⟨.inr rfl, .inr rfl, .inl rfl, trivial⟩ ⟨.inr rfl, .inl rfl, .inl rfl, trivial⟩
      unfold Kn.app at h1
      dsimp only at h1
      rw [if_neg c, if_neg c] at h1
      grind
theorem pow2_leZ {b : Int} (b0 : 2 ≤ b) (k : Nat) : ((2 ^ k : Int) : Rat) ≤ (b : Rat) ^ (k : Int) := by
  rw [zpow_of_nat, ← intpow_cast]
  refine Rat.intCast_le_intCast.mpr ?_
  induction k with
  | zero => simp
  | succ k ih =>
    rw [Int.pow_succ, Int.pow_succ]
    have p0 : (0 : Int) ≤ b ^ k := Int.pow_nonneg (by omega)
    exact Int.mul_le_mul ih b0 (by decide) p0
theorem scl_le {b n c : Int} (b0 : 2 ≤ b) (k : Nat) (h : c ≤ 2 ^ k) : ((c : Int) : Rat) * (b : Rat) ^ n ≤ (b : Rat) ^ (n + (k : Int)) := by
  have bp := ratpos (show 0 < b by omega)
  have h1 : ((c : Int) : Rat) ≤ (b : Rat) ^ (k : Int) := Rat.le_trans (Rat.intCast_le_intCast.mpr h) (pow2_leZ b0 k)
  have h2 := Rat.mul_le_mul_of_nonneg_right h1 (Rat.le_of_lt (Rat.zpow_pos (n := n) bp))
  rw [Rat.zpow_add (by grind)]
  grind
/-- of short rows no figure far behind is ever right -/
theorem Part.few {b k : Int} {kn : Kn} {rs : List Rw} {e m to : Int} (h : Part b k kn rs e m to) (hsm : ∀ r, r ∈ rs → Small b k r) (hk : KL kn) (hk8 : k ≤ 8) (m15 : m ≤ 15) {s : Mst} (I : MInv b kn rs e m to s) (W : Wit b kn rs e m s) : (s.figs.length : Int) - e ≤ 39 := by
  refine Int.not_lt.mp fun hlt => ?_
  have b0 := h.b0
  have b1 := h.b1
  have bp := ratpos (show 0 < b by omega)
  have ok := h.own I
  have sm : ∀ r, r ∈ rs.map (cutR s.rd) → Small b k r := fun r hr => by
    obtain ⟨r0, h0, rfl⟩ := List.mem_map.mp hr
    cases s.rd with
    | none => exact hsm r0 h0
    | some j => exact (hsm r0 h0).cut j
  have z0 : (0 : Rat) < (b : Rat) ^ (-10 : Int) := Rat.zpow_pos bp
  have wl := wide_low (b := b) (kn := kn) (ss := (rs.map (cutR s.rd)).map (spanQ b)) (z := (b : Rat) ^ (-10 : Int)) b0 hk (by rw [List.length_map, List.length_map]; exact h.l) z0 fun p hp => by
    obtain ⟨r, hr, rfl⟩ := List.mem_map.mp hp
    have sr := sm r hr
    have f := sr.figs b0
    have e0 := sr.e0; have e1 := sr.e1; have m0 := sr.m0; have m1 := sr.m1; have l := sr.l
    constructor
    · show (b : Rat) ^ (-10 : Int) ≤ r.hi b - r.lo b
      have hl := half_le (b := b) (r := r) b0 (by omega)
      have pw : (b : Rat) ^ (-10 : Int) ≤ r.pw b := zpow_mono (by omega) (by omega)
      have pp : 0 < r.pw b := Rat.zpow_pos bp
      unfold Rw.hi Rw.lo Rw.tail
      generalize (r.m : Rat) / ((b - 1 : Int) : Rat) = c at *
      have := Rat.mul_le_mul_of_nonneg_right hl (Rat.le_of_lt pp)
      grind
    · show r.hi b ≤ 15000
      have ci := Rw.cut_in b0 f.1 f.2 (-r.e)
      have eb : r.cut (-r.e) = bareR (r.e, r.m) := by
        unfold Rw.cut bareR
        have : (-r.e + r.e).toNat = 0 := by omega
        rw [this, List.take_zero]
      rw [eb] at ci
      have bs2 : (bareR (r.e, r.m)).hi b = rim b r.e r.m := congrArg Prod.snd (bare_span (b := b) (r.e, r.m))
      rw [bs2] at ci
      refine Rat.le_trans ci.2 ?_
      have rc := rim_c (b := b) (e := r.e) (m := r.m) b0
      have cc : ((1 : Int) : Rat) ≤ ((b - 1 : Int) : Rat) := Rat.intCast_le_intCast.mpr (by omega)
      have rn := rim_nn (b := b) (e := r.e) (m := r.m) b0 f.1
      have u1 := Rat.mul_le_mul_of_nonneg_left cc rn
      have mm : (r.m : Rat) ≤ ((15 : Int) : Rat) := Rat.intCast_le_intCast.mpr m1
      have p3 : (b : Rat) ^ r.e ≤ ((1000 : Int) : Rat) := by
        refine Rat.le_trans (zpow_mono (by omega) (show r.e ≤ 3 by omega)) ?_
        show (b : Rat) ^ ((3 : Nat) : Int) ≤ _
        rw [zpow_of_nat, ← intpow_cast]
        refine Rat.intCast_le_intCast.mpr ?_
        have h1 : b * b ≤ 10 * 10 := Int.mul_le_mul b1 b1 (by omega) (by decide)
        have h2 : b * b * b ≤ 100 * 10 := Int.mul_le_mul h1 b1 (by omega) (by decide)
        have : b ^ 3 = b * b * b := by rw [Int.pow_succ, Int.pow_succ, Int.pow_succ, Int.pow_zero, Int.one_mul]
        omega
      have pp : (0 : Rat) < (b : Rat) ^ r.e := Rat.zpow_pos bp
      have o15 : ((15 : Int) : Rat) = 15 := rfl
      have o1000 : ((1000 : Int) : Rat) = 1000 := rfl
      have o1 : ((1 : Int) : Rat) = 1 := rfl
      have u2 := Rat.mul_le_mul_of_nonneg_right mm (Rat.le_of_lt pp)
      have u3 := Rat.mul_le_mul_of_nonneg_left p3 (show (0 : Rat) ≤ 15 by decide)
      generalize rim b r.e r.m = x at *
      generalize ((b - 1 : Int) : Rat) = y at *
      grind
  -- own row's width
  have lo := W.lo
  have hi := W.hi
  unfold reachM at lo hi
  generalize (reachQ b kn ((rs.map (cutR s.rd)).map (spanQ b))).1 = x at *
  generalize (reachQ b kn ((rs.map (cutR s.rd)).map (spanQ b))).2 = y at *
  have wd : y - x ≤ ((30 : Int) : Rat) * (b : Rat) ^ (-40 : Int) := by
    have e1 : (ownR e m s).hi b - (ownR e m s).lo b = 2 * (ownR e m s).tail b := by unfold Rw.hi Rw.lo; grind
    have pw : (ownR e m s).pw b ≤ (b : Rat) ^ (-40 : Int) := zpow_mono (by omega) (by show e - (s.figs.length : Int) ≤ -40; omega)
    have pp : 0 < (ownR e m s).pw b := Rat.zpow_pos bp
    have cp := ratpos (show 0 < b - 1 by omega)
    have mc : (m : Rat) / ((b - 1 : Int) : Rat) ≤ 15 := by
      have hm : (m : Rat) ≤ ((15 : Int) : Rat) := Rat.intCast_le_intCast.mpr m15
      have cc : ((1 : Int) : Rat) ≤ ((b - 1 : Int) : Rat) := Rat.intCast_le_intCast.mpr (by omega)
      have o15 : ((15 : Int) : Rat) = 15 := rfl
      have o1 : ((1 : Int) : Rat) = 1 := rfl
      have e := mul_cancel_div (x := (m : Rat)) cp
      have m0' : ((0 : Int) : Rat) ≤ (m : Rat) := Rat.intCast_le_intCast.mpr h.m0
      have q0 : 0 ≤ (m : Rat) / ((b - 1 : Int) : Rat) := by
        rw [Rat.div_def]
        exact Rat.mul_nonneg m0' (Rat.le_of_lt (Rat.inv_pos.mpr cp))
      generalize (m : Rat) / ((b - 1 : Int) : Rat) = q at *
      have := Rat.mul_le_mul_of_nonneg_left cc q0
      grind
    have t1 : (ownR e m s).tail b = (m : Rat) / ((b - 1 : Int) : Rat) * (ownR e m s).pw b := rfl
    have u1 := Rat.mul_le_mul_of_nonneg_right mc (Rat.le_of_lt pp)
    have o30 : ((30 : Int) : Rat) = 30 := rfl
    rw [← t1] at u1
    grind
  have s1 := scl_le (b := b) (n := -40) (c := 30) b0 5 (by decide)
  have s2 := scl_le (b := b) (n := -35) (c := 15000) b0 14 (by decide)
  have o2 : ((15000 : Int) : Rat) = 15000 := rfl
  have s3 := scl_le (b := b) (n := -35) (c := 2) b0 1 (by decide)
  have o3 : ((2 : Int) : Rat) = 2 := rfl
  have e1 : (-40 : Int) + ((5 : Nat) : Int) = -35 := by decide
  have e2 : (-35 : Int) + ((14 : Nat) : Int) = -21 := by decide
  have e3 : (-35 : Int) + ((1 : Nat) : Int) = -34 := by decide
  rw [e1] at s1
  rw [e2] at s2
  rw [e3] at s3
  have lt1 : (b : Rat) ^ (-21 : Int) < (b : Rat) ^ (-10 : Int) := by
    have := scl_le (b := b) (n := -21) (c := 2) b0 1 (by decide)
    have q := zpow_mono (b := b) (by omega) (show (-21 : Int) + ((1 : Nat) : Int) ≤ -10 by decide)
    have p := Rat.zpow_pos (n := (-21 : Int)) bp
    rw [o3] at this
    grind
  rcases wl with wl | wl
  · have t1 := Rat.mul_le_mul_of_nonneg_left (Rat.le_trans wd s1) (show (0 : Rat) ≤ 15000 by decide)
    rw [o2] at s2
    grind
  · have t1 := Rat.mul_le_mul_of_nonneg_left (Rat.le_trans wd s1) (show (0 : Rat) ≤ 2 by decide)
    have zz : (b : Rat) ^ (-10 : Int) * (b : Rat) ^ (-10 : Int) = (b : Rat) ^ (-20 : Int) := by
      rw [← Rat.zpow_add (by grind)]; rfl
    rw [zz] at wl
    rw [o3] at s3
    have lt2 : (b : Rat) ^ (-34 : Int) < (b : Rat) ^ (-20 : Int) := by
      have := scl_le (b := b) (n := -34) (c := 2) b0 1 (by decide)
      have q := zpow_mono (b := b) (by omega) (show (-34 : Int) + ((1 : Nat) : Int) ≤ -20 by decide)
      have p := Rat.zpow_pos (n := (-34 : Int)) bp
      rw [o3] at this
      grind
    grind
end Lb

/-! Two figures as one: rows, kinds, lags by pairs. -/
namespace Lb
open PySem PySem.Spec PyProof.Rows L2 DL
variable [CT]
local macro_rules | `(tactic| walk_at "dg3") => `(tactic| try simp only [dDispGet, dictAt, isi_non_dict, isi_bl_dict, isi_int_dict, isi_str_dict, isi_lst_dict, isi_tup_dict, isi_non_bs, isi_bl_bs, isi_int_bs, isi_str_bs, isi_lst_bs, isi_tup_bs, g_ix_enc0, g_ix_enc1, g_ix_sp0, g_ix_sp1, g_put_sp, Int.reduceEq, dSeq, dSet, dPar, dOp, dUn, dVar, dC, dCB, dCons, dNil, dTup, dLst, dLstM, dIfS, dIf, dTest, dNot, dAnd, dOr, dAndV, dOrV, dNotV, dRet, dRetN, dEnd, dNext, dAdd, dSub, dMul, dFdiv, dMod, dPow, dNeg, dLt, dLe, dGt, dGe, dEq, dNe, eqB_ii, eqB_bb, eqB_ss, eqB_nn, eqB_ni, eqB_in, eqB_ns, eqB_sn, eqB_is, eqB_si, eqB_nb, eqB_bn, dIn, g_ix_tup, g_ix_lst, g_ix_ext, g_ln_tup, g_ln_lst, g_ln_ext, g_nn_non, g_nn_int, g_nn_tup, g_in_non, g_in_int, g_in_tup, g_ix_row0, g_ix_row1, g_ix_row2, g_ix_span0, g_ix_span1, g_nn_span, g_nn_encR, g_in_span, cAbs, cMax2, cMin2, cInt, cList, cTuple, dIsB, dNotB, dPar3, ForN, LcN, pinOf, pin2, dEnum2, dAppend, supd_same0, isi_non_int, isi_non_bool, isi_non_str, isi_non_list, isi_non_tuple, isi_non_lt, isi_bl_int, isi_bl_bool, isi_bl_str, isi_bl_list, isi_bl_tuple, isi_bl_lt, isi_int_int, isi_int_bool, isi_int_str, isi_int_list, isi_int_tuple, isi_int_lt, isi_str_int, isi_str_bool, isi_str_str, isi_str_list, isi_str_tuple, isi_str_lt, isi_lst_int, isi_lst_bool, isi_lst_str, isi_lst_list, isi_lst_tuple, isi_lst_lt, isi_tup_int, isi_tup_bool, isi_tup_str, isi_tup_list, isi_tup_tuple, isi_tup_lt, dAug, dIAdd, dIMul, dDrop, dSl, dPart, dNoPart, dRevL, dCallK, dChainR, dAsg, put_nm, put_tp, put_tl, g_put_row, g_put_span, putL_nil, putL_cons, Option.bind, seqOf, lstOf, dFor, dLc, dLcM, dItSeq, dZip, dZipS, dEnum, dRng1, dRng2, dYes, dwipe, Tgt.slots, Tgt.slotsL,
  atI_0, atI_1, atI_2, atI_3, List.getElem?_cons_zero, List.getElem?_cons_succ, List.set_cons_zero, List.set_cons_succ, decide_eq_true_eq, List.length_cons, List.length_nil, List.cons_append, List.nil_append, List.append_nil, ofString_inj, String.reduceEq, decide_true, decide_false, reduceIte, Bool.false_eq_true, Bool.not_true, Bool.not_false, eqFlat, isFlat, List.any_cons, List.any_nil, List.all_cons, List.all_nil, Bool.or_false, Bool.or_true, Bool.false_or, Bool.true_or, Bool.and_true, Bool.true_and, true_and, and_true, Nat.reduceAdd, Nat.reduceLeDiff, Int.reduceLT, Int.reduceLE, Int.reduceNeg])
/-! ### two figures as one -/
def pairsF (b : Int) : List Int → List Int
  | x :: y :: r => (b * x + y) :: pairsF b r
  | _ => []
theorem pairsF_len (b : Int) : ∀ fs : List Int, (pairsF b fs).length = fs.length / 2
  | [] => by simp [pairsF]
  | [x] => by simp [pairsF]
  | x :: y :: r => by
    simp only [pairsF, List.length_cons, pairsF_len b r]
    omega
theorem pairsF_zip (b : Int) : ∀ fs : List Int, ((every2 fs).zip (every2 (fs.drop 1))).map (fun p => b * p.1 + p.2) = pairsF b fs
  | [] => by simp [every2, pairsF]
  | [x] => by simp [every2, pairsF]
  | x :: y :: r => by
    have h := pairsF_zip b r
    cases r with
    | nil => simp [every2, pairsF]
    | cons z r => simpa [every2, pairsF] using h
theorem every2_map {α β : Type} (f : α → β) : ∀ xs : List α, every2 (xs.map f) = (every2 xs).map f
  | [] => rfl
  | [x] => rfl
  | x :: y :: r => by
    simp only [List.map_cons, every2, every2_map f r]
theorem pairsF_fold {b : Int} : ∀ (fs : List Int) (a : Int), fs.length % 2 = 0 → (pairsF b fs).foldl (fun a f => a * (b * b) + f) a = fs.foldl (fun a f => a * b + f) a
  | [], a, _ => rfl
  | [x], a, h => by simp at h
  | x :: y :: r, a, h => by
    simp only [pairsF, List.foldl_cons]
    have e : a * (b * b) + (b * x + y) = (a * b + x) * b + y := by grind
    rw [e]
    exact pairsF_fold r _ (by simp only [List.length_cons] at h; omega)
theorem pairsF_mem {b m : Int} (b0 : 2 ≤ b) : ∀ {fs : List Int}, (∀ f, f ∈ fs → -m ≤ f ∧ f ≤ m) → ∀ g, g ∈ pairsF b fs → -(b * m + m) ≤ g ∧ g ≤ b * m + m
  | [], _, g, hg => by simp [pairsF] at hg
  | [x], _, g, hg => by simp [pairsF] at hg
  | x :: y :: r, h, g, hg => by
    simp only [pairsF, List.mem_cons] at hg
    rcases hg with rfl | hg
    · have h1 := h x (by simp)
      have h2 := h y (by simp)
      have a1 : b * x ≤ b * m := Int.mul_le_mul_of_nonneg_left h1.2 (by omega)
      have a2 : b * (-m) ≤ b * x := Int.mul_le_mul_of_nonneg_left h1.1 (by omega)
      rw [Int.mul_neg] at a2
      omega
    · exact pairsF_mem b0 (fun f hf => h f (by simp [hf])) g hg
def Rw.pair (b : Int) (r : Rw) : Rw := ⟨r.e / 2, b * r.m + r.m, pairsF b r.fs⟩
theorem zpow_sq {b : Int} (hb : 0 < b) (k : Int) : ((b * b : Int) : Rat) ^ k = (b : Rat) ^ (k + k) := by
  have hn : (b : Rat) ≠ 0 := by
    have : b ≠ 0 := by omega
    exact_mod_cast this
  have nat : ∀ n : Nat, ((b * b : Int) : Rat) ^ n = (b : Rat) ^ n * (b : Rat) ^ n := fun n => by
    induction n with
    | zero => simp
    | succ n ih => rw [Rat.pow_succ, Rat.pow_succ, ih, Rat.intCast_mul]; grind
  rw [Rat.zpow_add hn]
  match k with
  | .ofNat n => exact nat n
  | .negSucc n =>
    have e : Int.negSucc n = -((n + 1 : Nat) : Int) := rfl
    rw [e, Rat.zpow_neg, Rat.zpow_neg, Rat.zpow_natCast, Rat.zpow_natCast, nat]
    have p : (b : Rat) ^ (n + 1) ≠ 0 := by
      have := Rat.zpow_pos (n := ((n + 1 : Nat) : Int)) (ratpos hb)
      rw [Rat.zpow_natCast] at this
      grind
    grind
section
variable {b : Int} {r : Rw}
theorem pair_pw (b0 : 2 ≤ b) (he : r.e % 2 = 0) (hl : r.fs.length % 2 = 0) : (Rw.pair b r).pw (b * b) = r.pw b := by
  unfold Rw.pw Rw.pair
  simp only [pairsF_len]
  rw [zpow_sq (by omega)]
  congr 1
  omega
theorem pair_worth (b0 : 2 ≤ b) (he : r.e % 2 = 0) (hl : r.fs.length % 2 = 0) : (Rw.pair b r).worth (b * b) = r.worth b := by
  unfold Rw.worth
  rw [pair_pw b0 he hl]
  have : whole (b * b) (Rw.pair b r).fs = whole b r.fs := pairsF_fold _ _ hl
  rw [this]
theorem pair_tail (hb : b = 2 ∨ b = 3) (he : r.e % 2 = 0) (hl : r.fs.length % 2 = 0) : (Rw.pair b r).tail (b * b) = r.tail b := by
  unfold Rw.tail
  rw [pair_pw (by omega) he hl]
  congr 1
  show ((b * r.m + r.m : Int) : Rat) / ((b * b - 1 : Int) : Rat) = _
  rw [Rat.intCast_add, Rat.intCast_mul]
  rcases hb with rfl | rfl
  · have e1 : ((2 * 2 - 1 : Int) : Rat) = 3 := rfl
    have e2 : ((2 - 1 : Int) : Rat) = 1 := rfl
    have e3 : ((2 : Int) : Rat) = 2 := rfl
    rw [e1, e2, e3]; grind
  · have e1 : ((3 * 3 - 1 : Int) : Rat) = 8 := rfl
    have e2 : ((3 - 1 : Int) : Rat) = 2 := rfl
    have e3 : ((3 : Int) : Rat) = 3 := rfl
    rw [e1, e2, e3]; grind
theorem pair_lo (hb : b = 2 ∨ b = 3) (he : r.e % 2 = 0) (hl : r.fs.length % 2 = 0) : (Rw.pair b r).lo (b * b) = r.lo b := by unfold Rw.lo; rw [pair_worth (by omega) he hl, pair_tail hb he hl]
theorem pair_hi (hb : b = 2 ∨ b = 3) (he : r.e % 2 = 0) (hl : r.fs.length % 2 = 0) : (Rw.pair b r).hi (b * b) = r.hi b := by unfold Rw.hi; rw [pair_worth (by omega) he hl, pair_tail hb he hl]
theorem pair_span (hb : b = 2 ∨ b = 3) (he : r.e % 2 = 0) (hl : r.fs.length % 2 = 0) : spanQ (b * b) (Rw.pair b r) = spanQ b r := by
  unfold spanQ
  rw [pair_lo hb he hl, pair_hi hb he hl]
end
theorem rim_pair {b e m : Int} (hb : b = 2 ∨ b = 3) (he : e % 2 = 0) : rim (b * b) (e / 2) (b * m + m) = rim b e m := by
  unfold rim
  rw [zpow_sq (by omega), show e / 2 + e / 2 = e by omega]
  congr 1
  rw [Rat.intCast_add, Rat.intCast_mul]
  rcases hb with rfl | rfl
  · have e1 : ((2 * 2 - 1 : Int) : Rat) = 3 := rfl
    have e2 : ((2 - 1 : Int) : Rat) = 1 := rfl
    have e3 : ((2 : Int) : Rat) = 2 := rfl
    rw [e1, e2, e3]; grind
  · have e1 : ((3 * 3 - 1 : Int) : Rat) = 8 := rfl
    have e2 : ((3 - 1 : Int) : Rat) = 2 := rfl
    have e3 : ((3 : Int) : Rat) = 3 := rfl
    rw [e1, e2, e3]; grind
/-! ### kinds of pairs -/
/-- the kind that's so of pairs -/
inductive KP : Kn → Kn → Prop where
  | sum (ws : List Int) (v : Int) (h1 : 1 ≤ ws.length) (h3 : ws.length ≤ 3) (hw : ∀ w, w ∈ ws → w ≠ 0 ∧ w.natAbs ≤ 9) (v0 : 1 ≤ v) (v1 : v ≤ 1000) : KP (.sum ws v) (.sum ws v)
  | times : KP .times .times
  | over (k : Int) (k0 : 0 ≤ k) (k1 : k ≤ 1) : KP (.over (2 * k)) (.over k)
  | least : KP .least .least
  | most : KP .most .most
theorem KP.kl {kn kn2 : Kn} (h : KP kn kn2) : KL kn ∧ KL kn2 := by
  cases h with
  | sum ws v h1 h3 hw v0 v1 => exact ⟨⟨h1, by omega, hw, v0, v1⟩, ⟨h1, by omega, hw, v0, v1⟩⟩
  | over k k0 k1 => exact ⟨⟨by omega, by omega⟩, ⟨k0, by omega⟩⟩
  | _ => exact ⟨trivial, trivial⟩
theorem KP.nch {kn kn2 : Kn} (h : KP kn kn2) : kn ≠ .choose ∧ kn2 ≠ .choose := by cases h <;> simp
theorem KP.many {kn kn2 : Kn} (h : KP kn kn2) : kn2.many = kn.many := by cases h <;> rfl
theorem KP.app {kn kn2 : Kn} (h : KP kn kn2) {b : Int} (hb : 0 < b) (xs : List Rat) : kn2.app (b * b) xs = kn.app b xs := by
  cases h with
  | sum => rfl
  | times =>
    match xs with
    | [_, _] => rfl
    | [] => rfl
    | [_] => rfl
    | _ :: _ :: _ :: _ => rfl
  | least =>
    match xs with
    | [_, _] => rfl
    | [] => rfl
    | [_] => rfl
    | _ :: _ :: _ :: _ => rfl
  | most =>
    match xs with
    | [_, _] => rfl
    | [] => rfl
    | [_] => rfl
    | _ :: _ :: _ :: _ => rfl
  | over k =>
    match xs with
    | [x, y] =>
      show x / max y (((b * b : Int) : Rat) ^ (-k)) = x / max y ((b : Rat) ^ (-(2 * k)))
      rw [zpow_sq hb, show -k + -k = -(2 * k) by omega]
    | [] => rfl
    | [_] => rfl
    | _ :: _ :: _ :: _ => rfl
theorem KP.reach {kn kn2 : Kn} (h : KP kn kn2) {b : Int} (hb : 0 < b) (ss : List (Rat × Rat)) : reachQ (b * b) kn2 ss = reachQ b kn ss := by
  have : kn2.vals (b * b) ss = kn.vals b ss := by
    unfold Kn.vals
    congr 1
    funext o
    exact h.app hb _
  unfold reachQ
  rw [this]
def pairS (b : Int) (q : Int × Int) : Int × Int := (q.1 / 2, b * q.2 + q.2)
theorem bare_pair {b : Int} (hb : b = 2 ∨ b = 3) {q : Int × Int} (he : q.1 % 2 = 0) : spanQ (b * b) (bareR (pairS b q)) = spanQ b (bareR q) := by
  rw [bare_span, bare_span]
  show (-rim (b * b) (q.1 / 2) (b * q.2 + q.2), rim (b * b) (q.1 / 2) (b * q.2 + q.2)) = _
  rw [rim_pair hb he]
theorem KP.fit {kn kn2 : Kn} (h : KP kn kn2) {b e m : Int} (hb : b = 2 ∨ b = 3) {ss : List (Int × Int)} (hs : ∀ q, q ∈ ss → q.1 % 2 = 0) (he : e % 2 = 0) : fitB (b * b) kn2 (ss.map (pairS b)) (e / 2) (b * m + m) = fitB b kn ss e m := by
  have hr : reachB (b * b) kn2 (ss.map (pairS b)) = reachB b kn ss := by
    unfold reachB
    rw [h.reach (by omega), List.map_map, List.map_map, List.map_map]
    congr 1
    apply List.map_congr_left
    intro q hq
    exact bare_pair hb (hs q hq)
  have e1 : ∀ k : Kn, KL k → ∀ (b e m : Int) (ss : List (Int × Int)), fitB b k ss e m = (decide (aQ (reachB b k ss).1 ≤ rim b e m) && decide (aQ (reachB b k ss).2 ≤ rim b e m)) := fun k hk b e m ss => by
    cases k <;> first | exact hk.elim | rfl
  rw [e1 _ h.kl.2, e1 _ h.kl.1, hr, rim_pair hb he]
/-! ### lags of pairs -/
theorem maxI_mul {c : Int} (hc : 0 < c) : ∀ ms : List Int, maxI (ms.map (fun m => c * m)) = c * maxI ms
  | [] => by simp [maxI]
  | m :: ms => by
    show max (c * m) (maxI (ms.map (fun m => c * m))) = c * max m (maxI ms)
    rw [maxI_mul hc ms]
    rcases Int.le_total m (maxI ms) with h | h
    · have := Int.mul_le_mul_of_nonneg_left h (Int.le_of_lt hc)
      rw [Int.max_eq_right h, Int.max_eq_right this]
    · have := Int.mul_le_mul_of_nonneg_left h (Int.le_of_lt hc)
      rw [Int.max_eq_left h, Int.max_eq_left this]
theorem sumW_mul {c : Int} : ∀ ws ms : List Int, sumW ws (ms.map (fun m => c * m)) = c * sumW ws ms
  | [], ms => by simp [sumW]
  | w :: ws, [] => by simp [sumW]
  | w :: ws, m :: ms => by
    have := sumW_mul (c := c) ws ms
    unfold sumW at this ⊢
    simp only [List.map_cons, List.zipWith_cons_cons, List.sum_cons]
    rw [this, Int.mul_add, ← Int.mul_assoc, Int.mul_comm (abI w) c, Int.mul_assoc]
theorem KP.need {kn kn2 : Kn} (h : KP kn kn2) {b : Int} (hb : b = 2 ∨ b = 3) {ss : List (Int × Int)} (hs : ∀ q, q ∈ ss → q.1 % 2 = 0) {kd kd2 : Kd} (h1 : kn.kd = some kd) (h2 : kn2.kd = some kd2) : kd2.need (b * b) (ss.map (pairS b)) = ((b + 1 : Int) : Rat) * kd.need b ss := by
  have bp : 0 < b := by omega
  have cne : ((b - 1 : Int) : Rat) ≠ 0 := by exact_mod_cast (show b - 1 ≠ 0 by omega)
  have dne : ((b + 1 : Int) : Rat) ≠ 0 := by exact_mod_cast (show b + 1 ≠ 0 by omega)
  have sq : ((b * b - 1 : Int) : Rat) = ((b - 1 : Int) : Rat) * ((b + 1 : Int) : Rat) := by
    rw [← Rat.intCast_mul]
    congr 1
    rcases hb with rfl | rfl <;> rfl
  have ms : (ss.map (pairS b)).map (·.2) = (ss.map (·.2)).map (fun m => (b + 1) * m) := by
    rw [List.map_map, List.map_map]
    apply List.map_congr_left
    intro q _
    show b * q.2 + q.2 = (b + 1) * q.2
    rw [Int.add_mul, Int.one_mul]
  have core : kd2.wide (b * b) (ss.map (pairS b)) = ((b + 1 : Int) : Rat) * kd.wide b ss := by
    cases h with
    | sum ws v =>
      cases h1; cases h2
      show ((sumW ws ((ss.map (pairS b)).map (·.2)) : Int) : Rat) / (v : Rat) = ((b + 1 : Int) : Rat) * (((sumW ws (ss.map (·.2)) : Int) : Rat) / (v : Rat))
      rw [ms, sumW_mul, Rat.intCast_mul]
      grind
    | least =>
      cases h1; cases h2
      show ((maxI ((ss.map (pairS b)).map (·.2)) : Int) : Rat) = ((b + 1 : Int) : Rat) * ((maxI (ss.map (·.2)) : Int) : Rat)
      rw [ms, maxI_mul (by omega), Rat.intCast_mul]
    | most =>
      cases h1; cases h2
      show ((maxI ((ss.map (pairS b)).map (·.2)) : Int) : Rat) = ((b + 1 : Int) : Rat) * ((maxI (ss.map (·.2)) : Int) : Rat)
      rw [ms, maxI_mul (by omega), Rat.intCast_mul]
    | times =>
      cases h1; cases h2
      match ss, hs with
      | [], _ => show (0 : Rat) = _ * 0; grind
      | [_], _ => show (0 : Rat) = _ * 0; grind
      | _ :: _ :: _ :: _, _ => show (0 : Rat) = _ * 0; grind
      | [(e0, m0), (e1, m1)], hs =>
        have z0 := hs (e0, m0) (by simp)
        have z1 := hs (e1, m1) (by simp)
        simp only at z0 z1
        show (((b * m0 + m0) * (b * m1 + m1) : Int) : Rat) / ((b * b - 1 : Int) : Rat) * (((b * b : Int) : Rat) ^ (e0 / 2) + ((b * b : Int) : Rat) ^ (e1 / 2)) = ((b + 1 : Int) : Rat) * (((m0 * m1 : Int) : Rat) / ((b - 1 : Int) : Rat) * ((b : Rat) ^ e0 + (b : Rat) ^ e1))
        rw [zpow_sq bp, zpow_sq bp, show e0 / 2 + e0 / 2 = e0 by omega, show e1 / 2 + e1 / 2 = e1 by omega, sq]
        have f : ((b * m0 + m0) * (b * m1 + m1) : Int) = (b + 1) * (b + 1) * (m0 * m1) := by grind
        rw [f, Rat.intCast_mul, Rat.intCast_mul]
        generalize (b : Rat) ^ e0 + (b : Rat) ^ e1 = X
        generalize ((b - 1 : Int) : Rat) = c at cne ⊢
        generalize ((b + 1 : Int) : Rat) = d at dne ⊢
        generalize ((m0 * m1 : Int) : Rat) = M
        grind
    | over k =>
      cases h1; cases h2
      match ss, hs with
      | [], _ => show (0 : Rat) = _ * 0; grind
      | [_], _ => show (0 : Rat) = _ * 0; grind
      | _ :: _ :: _ :: _, _ => show (0 : Rat) = _ * 0; grind
      | [(e0, m0), (e1, m1)], hs =>
        have z0 := hs (e0, m0) (by simp)
        simp only at z0
        show ((b * m0 + m0 : Int) : Rat) * ((b * b : Int) : Rat) ^ k * (((1 : Int) : Rat) + ((b * m1 + m1 : Int) : Rat) / ((b * b - 1 : Int) : Rat) * ((b * b : Int) : Rat) ^ k * ((b * b : Int) : Rat) ^ (e0 / 2)) = ((b + 1 : Int) : Rat) * (((m0 : Int) : Rat) * (b : Rat) ^ (2 * k) * (((1 : Int) : Rat) + ((m1 : Int) : Rat) / ((b - 1 : Int) : Rat) * (b : Rat) ^ (2 * k) * (b : Rat) ^ e0))
        rw [zpow_sq bp, zpow_sq bp, show e0 / 2 + e0 / 2 = e0 by omega, show k + k = 2 * k by omega, sq]
        have f0 : (b * m0 + m0 : Int) = (b + 1) * m0 := by grind
        have f1 : (b * m1 + m1 : Int) = (b + 1) * m1 := by grind
        rw [f0, f1, Rat.intCast_mul, Rat.intCast_mul]
        generalize (b : Rat) ^ (2 * k) = Y
        generalize (b : Rat) ^ e0 = X
        generalize ((b - 1 : Int) : Rat) = c at cne ⊢
        generalize ((b + 1 : Int) : Rat) = d at dne ⊢
        grind
  unfold Kd.need
  rw [core]
  grind
/-- the least lag of pairs is half of the other one, rounded up -/
theorem lp_pair {b room d d2 : Int} {q : Rat} (hb : b = 2 ∨ b = 3) (hr : 0 < room) (h : IsLp b room q d) (h2 : IsLp (b * b) ((b + 1) * room) (((b + 1 : Int) : Rat) * q) d2) : d2 = (d + 1) / 2 := by
  obtain ⟨a1, a2⟩ := h
  obtain ⟨c1, c2⟩ := h2
  have rp : (0 : Rat) < (room : Rat) := ratpos hr
  have dp : (0 : Rat) < ((b + 1 : Int) : Rat) := ratpos (by omega)
  rw [zpow_sq (by omega), Rat.intCast_mul] at c1 c2
  have cancel : ∀ {x : Rat}, x * (((b + 1 : Int) : Rat) * (room : Rat)) = ((b + 1 : Int) : Rat) * (x * (room : Rat)) := fun {x} => by grind
  rw [cancel] at c1 c2
  have c1' : q ≤ (b : Rat) ^ (d2 + d2) * (room : Rat) := Rat.le_of_mul_le_mul_left c1 dp
  have c2' : (b : Rat) ^ (d2 - 1 + (d2 - 1)) * (room : Rat) < q := Rat.lt_of_mul_lt_mul_left c2 (Rat.le_of_lt dp)
  have key : ∀ x y : Int, (b : Rat) ^ x * (room : Rat) < (b : Rat) ^ y * (room : Rat) → x < y := fun x y hxy => by
    rcases Int.lt_or_le x y with z | z
    · exact z
    · have m1 := zpow_mono (b := b) (by omega) z
      have m2 := Rat.mul_le_mul_of_nonneg_right m1 (Rat.le_of_lt rp)
      exact absurd hxy (Rat.not_lt.mpr m2)
  have k1 := key (d - 1) (d2 + d2) (by grind)
  have k2 := key (d2 - 1 + (d2 - 1)) d (by grind)
  omega
theorem askP {b m : Int} {kn : Kn} {ps : List (Int × Int)} (b0 : 2 ≤ b) (b1 : b ≤ 16) (hk : KL kn) (hl : ps.length = kn.many) (hp : ∀ p, p ∈ ps → (-30 ≤ p.1 ∧ p.1 ≤ 30) ∧ 1 ≤ p.2 ∧ p.2 ≤ 60) (m0 : b ≤ 2 * m) (m1 : m ≤ 60) : AskL b kn ps m := by
  have mm := hk.many
  have ss : SsOk b ps := ⟨b0, by omega, by omega, by omega, hp⟩
  cases kn with
  | sum ws v =>
    exact ⟨rfl, ⟨ss, ⟨hl.symm, by have := hk.2.2.2.1; omega, by have := hk.2.2.2.2; omega, fun w hw => ⟨(hk.2.2.1 w hw).1, by have := (hk.2.2.1 w hw).2; omega⟩⟩, m0, m1⟩, fun k z => (by cases z), .inr ⟨_, rfl, rfl, fun z => by unfold Kn.word at z; simp [ofString_inj] at z⟩⟩
  | loose ws => exact hk.elim
  | moved j => exact hk.elim
  | told q => exact hk.elim
  | times => exact ⟨rfl, ⟨ss, hl, m0, m1⟩, fun k z => (by cases z), .inr ⟨_, rfl, rfl, fun z => by unfold Kn.word at z; simp [ofString_inj] at z⟩⟩
  | over k => exact ⟨rfl, ⟨ss, ⟨hl, hk.1, by have := hk.2; omega⟩, m0, m1⟩, fun k' z => (by cases z; exact hk.1), .inr ⟨_, rfl, rfl, fun z => by unfold Kn.word at z; simp [ofString_inj] at z⟩⟩
  | least => exact ⟨rfl, ⟨ss, trivial, m0, m1⟩, fun k z => (by cases z), .inr ⟨_, rfl, rfl, fun z => by unfold Kn.word at z; simp [ofString_inj] at z⟩⟩
  | most => exact ⟨rfl, ⟨ss, trivial, m0, m1⟩, fun k z => (by cases z), .inr ⟨_, rfl, rfl, fun z => by unfold Kn.word at z; simp [ofString_inj] at z⟩⟩
  | choose => exact ⟨rfl, trivial, fun k z => (by cases z), .inl rfl⟩
theorem ins_lows {b k : Int} (b0 : 2 ≤ b) (b1 : b ≤ 16) (k1 : k ≤ 60) (rd : Option Int) : ∀ {rs : List Rw}, (∀ r, r ∈ rs → Sm b k r) → Ins ((rs.map (cutR rd)).map (spanQ b)) ((rs.map (spanQ b)).map (·.1))
  | [], _ => trivial
  | r :: rs, h => by
    have hr := h r (by simp)
    have lh := lo_le_hi (hr.ok b0 b1 k1)
    refine ⟨?_, ins_lows b0 b1 k1 rd fun x hx => h x (by simp [hx])⟩
    show (cutR rd r).lo b ≤ r.lo b ∧ r.lo b ≤ (cutR rd r).hi b
    cases rd with
    | none => exact ⟨Rat.le_refl, lh⟩
    | some j =>
      have := Rw.cut_in b0 (hr.figs b0).1 (hr.figs b0).2 j
      exact ⟨this.1, Rat.le_trans lh this.2⟩
/-- what a part gave stands for what comes of the rows -/
theorem Part.stands {b k : Int} {kn : Kn} {rs : List Rw} {e m to : Int} (h : Part b k kn rs e m to) {s : Mst} (W : Wit b kn rs e m s) : (ownR e m s).lo b ≤ kn.app b ((rs.map (spanQ b)).map (·.1)) ∧ kn.app b ((rs.map (spanQ b)).map (·.1)) ≤ (ownR e m s).hi b := by
  have b1 := h.b1
  have v := vals_within (kn := kn) h.b0 h.ko (ss := (rs.map (cutR s.rd)).map (spanQ b)) (by rw [List.length_map, List.length_map]; exact h.l) (ins_lows h.b0 (by omega) h.k1 s.rd h.s) (up_spans fun r hr => (cutR_small h.s s.rd r hr).ok h.b0 (by omega) h.k1)
  exact ⟨Rat.le_trans W.lo v.1, Rat.le_trans v.2 W.hi⟩
def sp_pairedY : DSp := fun ds S P => ∃ (b : Int) (r : Rw), ds = [.int b, r.d] ∧ b.natAbs ≤ 1000 ∧ r.fs.length ≤ 1000 ∧ P (.tup [.int (b * b), (Rw.pair b r).d]) S
def rd_pairedY : DS :=
  (dSeq (dAsg (.tp [(.nm 2), (.nm 3), (.nm 4)]) (dVar 1))
  (dSeq (dSet 5 (dLc (dZip (dCons (dEv (dVar 4) dNoPart) (dCons (dEv (dVar 4) (dPart (dC (.int 1)))) dNil))) (.tp [(.nm 6), (.nm 7)]) dYes (dOp dAdd (dOp dMul (dVar 0) (dVar 6)) (dVar 7))))
  (dRet (dTup (dCons (dOp dMul (dVar 0) (dVar 0)) (dCons (dTup (dCons (dOp dFdiv (dVar 2) (dC (.int 2))) (dCons (dOp dAdd (dOp dMul (dVar 0) (dVar 3)) (dVar 3)) (dCons (dCB cTuple (dCons (dVar 5) dNil)) dNil)))) dNil))))))
def goal_pairedY : Prop := ∀ (x0 x1 : D) (S : Store) (P : D → Store → Prop), sp_pairedY [x0, x1] S P → rd_pairedY (dEnd P) [some x0, some x1, none, none, none, none, none, none] S
theorem len_pairedY : ∀ ds S P, sp_pairedY ds S P → ds.length = 2 := by rintro ds S P ⟨a, b, rfl, _⟩; rfl
theorem fdiv2Y (x : Int) : x.fdiv 2 = x / 2 := Int.fdiv_eq_ediv_of_nonneg _ (by decide)
theorem vc_pairedY : goal_pairedY := by
  rintro x0 x1 S P ⟨b, r, e, hb, hl, h⟩
  cases e
  unfold rd_pairedY
  walk_at "dg3"
  simp only [dEv]
  unfold Rw.d
  walk_at "dg3"
  have ed : (r.fs.map D.int).drop (HT.sIx (r.fs.map D.int).length 0 (some 1)) = (r.fs.drop 1).map D.int := by
    rw [← List.map_drop]
    congr 1
    have : HT.sIx (r.fs.map D.int).length 0 (some 1) = min 1 r.fs.length := by
      have := HT.sIx_nat (r.fs.map D.int).length 0 1
      rw [List.length_map] at this ⊢
      exact this
    rw [this]
    match r.fs with
    | [] => rfl
    | x :: t => simp
  have e0 : (r.fs.map D.int).drop (HT.sIx (r.fs.map D.int).length 0 none) = r.fs.map D.int := by
    rw [HT.sIx_none]; rfl
  rw [ed, e0, every2_map, every2_map, zipD_map]
  have zl : ((every2 r.fs).zip (every2 (r.fs.drop 1))).length ≤ 1000 := by
    rw [List.length_zip, every2_len]
    omega
  refine lc_mapA (fun (p : Int × Int) => D.tup [.int p.1, .int p.2]) (fun (p : Int × Int) => .int (b * p.1 + p.2)) (by omega) (fun p hp => ⟨_, rfl, fun Q q => ?_⟩) ?_
  · walk_at "dg3"
    exact ⟨mulS (by omega), q⟩
  walk_at "dg3"
  refine ⟨mulS (by omega), divS (by decide) (by decide), mulS (by omega), ?_⟩
  rw [fdiv2Y]
  have ef : ((every2 r.fs).zip (every2 (r.fs.drop 1))).map (fun p => D.int (b * p.1 + p.2)) = (pairsF b r.fs).map D.int := by
    rw [← pairsF_zip, List.map_map]; rfl
  rw [ef]
  exact h
end Lb

namespace K86
open PySem PySem.Spec PyProof.Rows L2 DL Lb
variable [CT]
local macro_rules | `(tactic| walk_at "dg3") => `(tactic| try simp only [dDispGet, dictAt, isi_non_dict, isi_bl_dict, isi_int_dict, isi_str_dict, isi_lst_dict, isi_tup_dict, isi_non_bs, isi_bl_bs, isi_int_bs, isi_str_bs, isi_lst_bs, isi_tup_bs, g_ix_enc0, g_ix_enc1, g_ix_sp0, g_ix_sp1, g_put_sp, Int.reduceEq, dSeq, dSet, dPar, dOp, dUn, dVar, dC, dCB, dCons, dNil, dTup, dLst, dLstM, dIfS, dIf, dTest, dNot, dAnd, dOr, dAndV, dOrV, dNotV, dRet, dRetN, dEnd, dNext, dAdd, dSub, dMul, dFdiv, dMod, dPow, dNeg, dLt, dLe, dGt, dGe, dEq, dNe, eqB_ii, eqB_bb, eqB_ss, eqB_nn, eqB_ni, eqB_in, eqB_ns, eqB_sn, eqB_is, eqB_si, eqB_nb, eqB_bn, dIn, g_ix_tup, g_ix_lst, g_ix_ext, g_ln_tup, g_ln_lst, g_ln_ext, g_nn_non, g_nn_int, g_nn_tup, g_in_non, g_in_int, g_in_tup, g_ix_row0, g_ix_row1, g_ix_row2, g_ix_span0, g_ix_span1, g_nn_span, g_nn_encR, g_in_span, cAbs, cMax2, cMin2, cInt, cList, cTuple, dIsB, dNotB, dPar3, ForN, LcN, pinOf, pin2, dEnum2, dAppend, supd_same0, isi_non_int, isi_non_bool, isi_non_str, isi_non_list, isi_non_tuple, isi_non_lt, isi_bl_int, isi_bl_bool, isi_bl_str, isi_bl_list, isi_bl_tuple, isi_bl_lt, isi_int_int, isi_int_bool, isi_int_str, isi_int_list, isi_int_tuple, isi_int_lt, isi_str_int, isi_str_bool, isi_str_str, isi_str_list, isi_str_tuple, isi_str_lt, isi_lst_int, isi_lst_bool, isi_lst_str, isi_lst_list, isi_lst_tuple, isi_lst_lt, isi_tup_int, isi_tup_bool, isi_tup_str, isi_tup_list, isi_tup_tuple, isi_tup_lt, dAug, dIAdd, dIMul, dDrop, dSl, dPart, dNoPart, dRevL, dCallK, dChainR, dAsg, put_nm, put_tp, put_tl, g_put_row, g_put_span, putL_nil, putL_cons, Option.bind, seqOf, lstOf, dFor, dLc, dLcM, dItSeq, dZip, dZipS, dEnum, dRng1, dRng2, dYes, dwipe, Tgt.slots, Tgt.slotsL,
  atI_0, atI_1, atI_2, atI_3, List.getElem?_cons_zero, List.getElem?_cons_succ, List.set_cons_zero, List.set_cons_succ, decide_eq_true_eq, List.length_cons, List.length_nil, List.cons_append, List.nil_append, List.append_nil, ofString_inj, String.reduceEq, decide_true, decide_false, reduceIte, Bool.false_eq_true, Bool.not_true, Bool.not_false, eqFlat, isFlat, List.any_cons, List.any_nil, List.all_cons, List.all_nil, Bool.or_false, Bool.or_true, Bool.false_or, Bool.true_or, Bool.and_true, Bool.true_and, true_and, and_true, Nat.reduceAdd, Nat.reduceLeDiff, Int.reduceLT, Int.reduceLE, Int.reduceNeg])
local macro_rules | `(tactic| walk_at "dg4") => `(tactic| try simp only [dFld, dSetFld, dFldAdd, dMeth, dMake, dMakeK, dFld2, dMinKey, dDispGet, dictAt, isi_non_dict, isi_bl_dict, isi_int_dict, isi_str_dict, isi_lst_dict, isi_tup_dict, isi_non_bs, isi_bl_bs, isi_int_bs, isi_str_bs, isi_lst_bs, isi_tup_bs, g_ix_enc0, g_ix_enc1, g_ix_sp0, g_ix_sp1, g_put_sp, Int.reduceEq, dSeq, dSet, dPar, dOp, dUn, dVar, dC, dCB, dCons, dNil, dTup, dLst, dLstM, dIfS, dIf, dTest, dNot, dAnd, dOr, dAndV, dOrV, dNotV, dRet, dRetN, dEnd, dNext, dAdd, dSub, dMul, dFdiv, dMod, dPow, dNeg, dLt, dLe, dGt, dGe, dEq, dNe, eqB_ii, eqB_bb, eqB_ss, eqB_nn, eqB_ni, eqB_in, eqB_ns, eqB_sn, eqB_is, eqB_si, eqB_nb, eqB_bn, dIn, g_ix_tup, g_ix_lst, g_ix_ext, g_ln_tup, g_ln_lst, g_ln_ext, g_nn_non, g_nn_int, g_nn_tup, g_in_non, g_in_int, g_in_tup, g_ix_row0, g_ix_row1, g_ix_row2, g_ix_span0, g_ix_span1, g_nn_span, g_nn_encR, g_in_span, cAbs, cMax2, cMin2, cInt, cList, cTuple, dIsB, dNotB, dPar3, ForN, LcN, pinOf, pin2, dEnum2, dAppend, supd_same0, isi_non_int, isi_non_bool, isi_non_str, isi_non_list, isi_non_tuple, isi_non_lt, isi_bl_int, isi_bl_bool, isi_bl_str, isi_bl_list, isi_bl_tuple, isi_bl_lt, isi_int_int, isi_int_bool, isi_int_str, isi_int_list, isi_int_tuple, isi_int_lt, isi_str_int, isi_str_bool, isi_str_str, isi_str_list, isi_str_tuple, isi_str_lt, isi_lst_int, isi_lst_bool, isi_lst_str, isi_lst_list, isi_lst_tuple, isi_lst_lt, isi_tup_int, isi_tup_bool, isi_tup_str, isi_tup_list, isi_tup_tuple, isi_tup_lt, dAug, dIAdd, dIMul, dDrop, dSl, dPart, dNoPart, dRevL, dCallK, dChainR, dAsg, put_nm, put_tp, put_tl, g_put_row, g_put_span, putL_nil, putL_cons, Option.bind, seqOf, lstOf, dFor, dLc, dLcM, dItSeq, dZip, dZipS, dEnum, dRng1, dRng2, dYes, dwipe, Tgt.slots, Tgt.slotsL,
  atI_0, atI_1, atI_2, atI_3, List.getElem?_cons_zero, List.getElem?_cons_succ, List.set_cons_zero, List.set_cons_succ, decide_eq_true_eq, List.length_cons, List.length_nil, List.cons_append, List.nil_append, List.append_nil, ofString_inj, String.reduceEq, decide_true, decide_false, reduceIte, Bool.false_eq_true, Bool.not_true, Bool.not_false, eqFlat, isFlat, List.any_cons, List.any_nil, List.all_cons, List.all_nil, Bool.or_false, Bool.or_true, Bool.false_or, Bool.true_or, Bool.and_true, Bool.true_and, true_and, and_true, Nat.reduceAdd, Nat.reduceLeDiff, Int.reduceLT, Int.reduceLE, Int.reduceNeg])
/-! ### promises -/
def sp_figures_between : DSp := sp_figures_betweenG
def sp_right_figures : DSp := sp_right_figuresG
def sp_size_of : DSp := sp_size_ofM
def sp_chooses : DSp := sp_choosesM
def sp_paired : DSp := sp_pairedY
def sp_Lfigures : DSp := sp_LfiguresQ
def sp_Lkinds : DSp := fun ds S P => ∃ (p : Addr) (n : Nat), ds = [.obj p] ∧ BoxAt S p n ∧ n ≤ 10000000 ∧ ∀ (kn kn2 : Kn) S', KP kn kn2 → Dk S S' p (n + 20) → P (.tup [kn.d, kn2.d, .int kn.many]) S'
def sp_Lstart : DSp := fun ds S P => ∃ (b m : Int) (kn : Kn) (ss : List (Int × Int)), ds = [.int b, kn.d, .lst (ss.map srcD), .int m] ∧ 2 ≤ b ∧ b ≤ 10 ∧ KL kn ∧ ss.length = kn.many ∧ (∀ q, q ∈ ss → Bare q) ∧ 0 ≤ m ∧ m ≤ 60 ∧ (∀ st, -12 ≤ st → st ≤ 12 → st % 2 = 0 → fitB b kn ss st m = true → P (.int st) S) ∧ P .non S
def sp_Lright : DSp := fun ds S P => ∃ (p : Addr) (n : Nat), ds = [.obj p] ∧ BoxAt S p n ∧ n ≤ 100000 ∧ ∀ S', P (.bl true) S'
/-- common(one, other): slots 0 one, 1 other -/
def rd_common : DS :=
  (dSeq (dWhile (dTest (dOp dGt (dVar 1) (dC (.int 0)))) (dPar 0 1 (dCons (dVar 1) (dCons (dOp dMod (dVar 0) (dVar 1)) dNil))))
  (dRet (dVar 0)))
def goal_common : Prop := ∀ (x0 x1 : D) (S : Store) (P : D → Store → Prop), sp_common [x0, x1] S P → rd_common (dEnd P) [some x0, some x1] S

/-- frac(top, bottom): slots 0 top, 1 bottom, 2 by -/
def rd_frac : DS :=
  (dSeq (dSet 2 (dCB sp_common (dCons (dCB cAbs (dCons (dVar 0) dNil)) (dCons (dCB cAbs (dCons (dVar 1) dNil)) dNil))))
  (dSeq (dSet 2 (dIf (dTest (dOp dGt (dVar 1) (dC (.int 0)))) (dVar 2) (dUn dNeg (dVar 2))))
  (dRet (dTup (dCons (dOp dFdiv (dVar 0) (dVar 2)) (dCons (dOp dFdiv (dVar 1) (dVar 2)) dNil))))))
def goal_frac : Prop := ∀ (x0 x1 : D) (S : Store) (P : D → Store → Prop), sp_frac [x0, x1] S P → rd_frac (dEnd P) [some x0, some x1, none] S

/-- plus(one, other): slots 0 one, 1 other -/
def rd_plus : DS :=
  (dRet (dCB sp_frac (dCons (dOp dAdd (dOp dMul (dOp dIx (dVar 0) (dC (.int 0))) (dOp dIx (dVar 1) (dC (.int 1)))) (dOp dMul (dOp dIx (dVar 1) (dC (.int 0))) (dOp dIx (dVar 0) (dC (.int 1))))) (dCons (dOp dMul (dOp dIx (dVar 0) (dC (.int 1))) (dOp dIx (dVar 1) (dC (.int 1)))) dNil))))
def goal_plus : Prop := ∀ (x0 x1 : D) (S : Store) (P : D → Store → Prop), sp_plus [x0, x1] S P → rd_plus (dEnd P) [some x0, some x1] S

/-- minus(one, other): slots 0 one, 1 other -/
def rd_minus : DS :=
  (dRet (dCB sp_frac (dCons (dOp dSub (dOp dMul (dOp dIx (dVar 0) (dC (.int 0))) (dOp dIx (dVar 1) (dC (.int 1)))) (dOp dMul (dOp dIx (dVar 1) (dC (.int 0))) (dOp dIx (dVar 0) (dC (.int 1))))) (dCons (dOp dMul (dOp dIx (dVar 0) (dC (.int 1))) (dOp dIx (dVar 1) (dC (.int 1)))) dNil))))
def goal_minus : Prop := ∀ (x0 x1 : D) (S : Store) (P : D → Store → Prop), sp_minus [x0, x1] S P → rd_minus (dEnd P) [some x0, some x1] S

/-- times(one, other): slots 0 one, 1 other -/
def rd_times : DS :=
  (dRet (dCB sp_frac (dCons (dOp dMul (dOp dIx (dVar 0) (dC (.int 0))) (dOp dIx (dVar 1) (dC (.int 0)))) (dCons (dOp dMul (dOp dIx (dVar 0) (dC (.int 1))) (dOp dIx (dVar 1) (dC (.int 1)))) dNil))))
def goal_times : Prop := ∀ (x0 x1 : D) (S : Store) (P : D → Store → Prop), sp_times [x0, x1] S P → rd_times (dEnd P) [some x0, some x1] S

/-- over(one, other): slots 0 one, 1 other -/
def rd_over : DS :=
  (dRet (dCB sp_frac (dCons (dOp dMul (dOp dIx (dVar 0) (dC (.int 0))) (dOp dIx (dVar 1) (dC (.int 1)))) (dCons (dOp dMul (dOp dIx (dVar 0) (dC (.int 1))) (dOp dIx (dVar 1) (dC (.int 0)))) dNil))))
def goal_over : Prop := ∀ (x0 x1 : D) (S : Store) (P : D → Store → Prop), sp_over [x0, x1] S P → rd_over (dEnd P) [some x0, some x1] S

/-- is_below(one, other): slots 0 one, 1 other -/
def rd_is_below : DS :=
  (dRet (dOp dLt (dOp dMul (dOp dIx (dVar 0) (dC (.int 0))) (dOp dIx (dVar 1) (dC (.int 1)))) (dOp dMul (dOp dIx (dVar 1) (dC (.int 0))) (dOp dIx (dVar 0) (dC (.int 1))))))
def goal_is_below : Prop := ∀ (x0 x1 : D) (S : Store) (P : D → Store → Prop), sp_is_below [x0, x1] S P → rd_is_below (dEnd P) [some x0, some x1] S

/-- lesser(one, other): slots 0 one, 1 other -/
def rd_lesser : DS :=
  (dRet (dIf (dTest (dCB sp_is_below (dCons (dVar 1) (dCons (dVar 0) dNil)))) (dVar 1) (dVar 0)))
def goal_lesser : Prop := ∀ (x0 x1 : D) (S : Store) (P : D → Store → Prop), sp_lesser [x0, x1] S P → rd_lesser (dEnd P) [some x0, some x1] S

/-- greater(one, other): slots 0 one, 1 other -/
def rd_greater : DS :=
  (dRet (dIf (dTest (dCB sp_is_below (dCons (dVar 0) (dCons (dVar 1) dNil)))) (dVar 1) (dVar 0)))
def goal_greater : Prop := ∀ (x0 x1 : D) (S : Store) (P : D → Store → Prop), sp_greater [x0, x1] S P → rd_greater (dEnd P) [some x0, some x1] S

/-- power(base, many): slots 0 base, 1 many, 2 found, 3 turn -/
def rd_power : DS :=
  (dSeq (dSet 2 (dC (.int 1)))
  (dSeq (dFor (dRng1 (dCons (dCB cAbs (dCons (dVar 1) dNil)) dNil)) (.nm 3) (dAug 2 dIMul (dVar 0)))
  (dRet (dIf (dTest (dOp dGe (dVar 1) (dC (.int 0)))) (dTup (dCons (dVar 2) (dCons (dC (.int 1)) dNil))) (dTup (dCons (dC (.int 1)) (dCons (dVar 2) dNil)))))))
def goal_power : Prop := ∀ (x0 x1 : D) (S : Store) (P : D → Store → Prop), sp_power [x0, x1] S P → rd_power (dEnd P) [some x0, some x1, none, none] S

/-- width_of(base, kind, sources): slots 0 base, 1 kind, 2 sources, 3 word, 4 mosts, 5 begin, 6 most, 7 weight, 8 begins, 9 by -/
def rd_width_of : DS :=
  (dSeq (dPar 3 4 (dCons (dOp dIx (dVar 1) (dC (.int 0))) (dCons (dLc (dItSeq (dVar 2)) (.tp [(.nm 5), (.nm 6)]) dYes (dVar 6)) dNil)))
  (dSeq (dIfS (dTest (dOp dEq (dVar 3) (dC (.str "sum")))) (dRet (dCB sp_frac (dCons (dCB cSum (dCons (dLc (dZipS (dCons (dOp dIx (dVar 1) (dC (.int 1))) (dCons (dVar 4) dNil))) (.tp [(.nm 7), (.nm 6)]) dYes (dOp dMul (dCB cAbs (dCons (dVar 7) dNil)) (dVar 6))) dNil)) (dCons (dOp dIx (dVar 1) (dC (.int 2))) dNil)))) dNext)
  (dSeq (dIfS (dTest (dOp (dIn false) (dVar 3) (dTup (dCons (dC (.str "least")) (dCons (dC (.str "most")) dNil))))) (dRet (dTup (dCons (dCB cMaxL (dCons (dVar 4) dNil)) (dCons (dC (.int 1)) dNil)))) dNext)
  (dSeq (dSet 8 (dLc (dItSeq (dVar 2)) (.tp [(.nm 5), (.nm 6)]) dYes (dCB sp_power (dCons (dVar 0) (dCons (dVar 5) dNil)))))
  (dSeq (dIfS (dTest (dOp dEq (dVar 3) (dC (.str "times")))) (dRet (dCB sp_times (dCons (dCB sp_frac (dCons (dOp dMul (dOp dIx (dVar 4) (dC (.int 0))) (dOp dIx (dVar 4) (dC (.int 1)))) (dCons (dOp dSub (dVar 0) (dC (.int 1))) dNil))) (dCons (dCB sp_plus (dCons (dOp dIx (dVar 8) (dC (.int 0))) (dCons (dOp dIx (dVar 8) (dC (.int 1))) dNil))) dNil)))) dNext)
  (dSeq (dSet 9 (dCB sp_power (dCons (dVar 0) (dCons (dOp dIx (dVar 1) (dC (.int 1))) dNil))))
  (dRet (dCB sp_times (dCons (dCB sp_times (dCons (dTup (dCons (dOp dIx (dVar 4) (dC (.int 0))) (dCons (dC (.int 1)) dNil))) (dCons (dVar 9) dNil))) (dCons (dCB sp_plus (dCons (dTup (dCons (dC (.int 1)) (dCons (dC (.int 1)) dNil))) (dCons (dCB sp_times (dCons (dCB sp_times (dCons (dCB sp_frac (dCons (dOp dIx (dVar 4) (dC (.int 1))) (dCons (dOp dSub (dVar 0) (dC (.int 1))) dNil))) (dCons (dVar 9) dNil))) (dCons (dOp dIx (dVar 8) (dC (.int 0))) dNil))) dNil))) dNil))))))))))
def goal_width_of : Prop := ∀ (x0 x1 x2 : D) (S : Store) (P : D → Store → Prop), sp_width_of [x0, x1, x2] S P → rd_width_of (dEnd P) [some x0, some x1, some x2, none, none, none, none, none, none, none] S

/-- least_power(base, room, need): slots 0 base, 1 room, 2 need, 3 lag -/
def rd_least_power : DS :=
  (dSeq (dSet 3 (dC (.int 0)))
  (dSeq (dWhile (dTest (dCB sp_is_below (dCons (dCB sp_times (dCons (dCB sp_power (dCons (dVar 0) (dCons (dVar 3) dNil))) (dCons (dTup (dCons (dVar 1) (dCons (dC (.int 1)) dNil))) dNil))) (dCons (dVar 2) dNil)))) (dAug 3 dIAdd (dC (.int 1))))
  (dSeq (dWhile (dNot (dTest (dCB sp_is_below (dCons (dCB sp_times (dCons (dCB sp_power (dCons (dVar 0) (dCons (dOp dSub (dVar 3) (dC (.int 1))) dNil))) (dCons (dTup (dCons (dVar 1) (dCons (dC (.int 1)) dNil))) dNil))) (dCons (dVar 2) dNil))))) (dAug 3 dSub (dC (.int 1))))
  (dRet (dVar 3)))))
def goal_least_power : Prop := ∀ (x0 x1 x2 : D) (S : Store) (P : D → Store → Prop), sp_least_power [x0, x1, x2] S P → rd_least_power (dEnd P) [some x0, some x1, some x2, none] S

/-- told_lag(base, kind, sources, begin, most): slots 0 base, 1 kind, 2 sources, 3 begin, 4 most -/
def rd_told_lag : DS :=
  (dSeq (dIfS (dTest (dOp dEq (dOp dIx (dVar 1) (dC (.int 0))) (dC (.str "moved")))) (dRet (dOp dIx (dVar 1) (dC (.int 1)))) dNext)
  (dSeq (dIfS (dTest (dOp (dIn false) (dOp dIx (dVar 1) (dC (.int 0))) (dTup (dCons (dC (.str "loose")) (dCons (dC (.str "told")) (dCons (dC (.str "choose")) dNil)))))) (dRet (dIf (dTest (dOp dEq (dOp dIx (dVar 1) (dC (.int 0))) (dC (.str "loose")))) (dC (.int 0)) (dC .non))) dNext)
  (dRet (dCB sp_least_power (dCons (dVar 0) (dCons (dOp dAdd (dOp dSub (dOp dMul (dC (.int 2)) (dVar 4)) (dVar 0)) (dC (.int 1))) (dCons (dCB sp_times (dCons (dTup (dCons (dC (.int 2)) (dCons (dC (.int 1)) dNil))) (dCons (dCB sp_width_of (dCons (dVar 0) (dCons (dVar 1) (dCons (dVar 2) dNil)))) dNil))) dNil)))))))
def goal_told_lag : Prop := ∀ (x0 x1 x2 x3 x4 : D) (S : Store) (P : D → Store → Prop), sp_told_lag [x0, x1, x2, x3, x4] S P → rd_told_lag (dEnd P) [some x0, some x1, some x2, some x3, some x4] S

/-- known_to(row): slots 0 row, 1 begin, 2 most, 3 figures -/
def rd_known_to : DS :=
  (dSeq (dAsg (.tp [(.nm 1), (.nm 2), (.nm 3)]) (dVar 0))
  (dRet (dOp dSub (dCB cLen (dCons (dVar 3) dNil)) (dVar 1))))
def goal_known_to : Prop := ∀ (x0 : D) (S : Store) (P : D → Store → Prop), sp_known_to [x0] S P → rd_known_to (dEnd P) [some x0, none, none, none] S

/-- whole_of(base, figures): slots 0 base, 1 figures, 2 found, 3 figure -/
def rd_whole_of : DS :=
  (dSeq (dSet 2 (dC (.int 0)))
  (dSeq (dFor (dItSeq (dVar 1)) (.nm 3) (dSet 2 (dOp dAdd (dOp dMul (dVar 2) (dVar 0)) (dVar 3))))
  (dRet (dVar 2))))
def goal_whole_of : Prop := ∀ (x0 x1 : D) (S : Store) (P : D → Store → Prop), sp_whole_of [x0, x1] S P → rd_whole_of (dEnd P) [some x0, some x1, none, none] S

/-- worth_of(base, row): slots 0 base, 1 row -/
def rd_worth_of : DS :=
  (dRet (dCB sp_times (dCons (dTup (dCons (dCB sp_whole_of (dCons (dVar 0) (dCons (dOp dIx (dVar 1) (dC (.int 2))) dNil))) (dCons (dC (.int 1)) dNil))) (dCons (dCB sp_power (dCons (dVar 0) (dCons (dUn dNeg (dCB sp_known_to (dCons (dVar 1) dNil))) dNil))) dNil))))
def goal_worth_of : Prop := ∀ (x0 x1 : D) (S : Store) (P : D → Store → Prop), sp_worth_of [x0, x1] S P → rd_worth_of (dEnd P) [some x0, some x1] S

/-- tail_of(base, row): slots 0 base, 1 row -/
def rd_tail_of : DS :=
  (dRet (dCB sp_times (dCons (dCB sp_frac (dCons (dOp dIx (dVar 1) (dC (.int 1))) (dCons (dOp dSub (dVar 0) (dC (.int 1))) dNil))) (dCons (dCB sp_power (dCons (dVar 0) (dCons (dUn dNeg (dCB sp_known_to (dCons (dVar 1) dNil))) dNil))) dNil))))
def goal_tail_of : Prop := ∀ (x0 x1 : D) (S : Store) (P : D → Store → Prop), sp_tail_of [x0, x1] S P → rd_tail_of (dEnd P) [some x0, some x1] S

/-- span_of(base, row): slots 0 base, 1 row, 2 worth, 3 tail -/
def rd_span_of : DS :=
  (dSeq (dPar 2 3 (dCons (dCB sp_worth_of (dCons (dVar 0) (dCons (dVar 1) dNil))) (dCons (dCB sp_tail_of (dCons (dVar 0) (dCons (dVar 1) dNil))) dNil)))
  (dRet (dTup (dCons (dCB sp_minus (dCons (dVar 2) (dCons (dVar 3) dNil))) (dCons (dCB sp_plus (dCons (dVar 2) (dCons (dVar 3) dNil))) dNil)))))
def goal_span_of : Prop := ∀ (x0 x1 : D) (S : Store) (P : D → Store → Prop), sp_span_of [x0, x1] S P → rd_span_of (dEnd P) [some x0, some x1, none, none] S

/-- cut_of(row, place): slots 0 row, 1 place, 2 begin, 3 most, 4 figures -/
def rd_cut_of : DS :=
  (dSeq (dAsg (.tp [(.nm 2), (.nm 3), (.nm 4)]) (dVar 0))
  (dRet (dTup (dCons (dVar 2) (dCons (dVar 3) (dCons (dSl (dVar 4) dNoPart (dPart (dCB cMax2 (dCons (dC (.int 0)) (dCons (dOp dAdd (dVar 1) (dVar 2)) dNil))))) dNil))))))
def goal_cut_of : Prop := ∀ (x0 x1 : D) (S : Store) (P : D → Store → Prop), sp_cut_of [x0, x1] S P → rd_cut_of (dEnd P) [some x0, some x1, none, none, none] S

/-- order_of(base, one, other): slots 0 base, 1 one, 2 other, 3 mine, 4 its -/
def rd_order_of : DS :=
  (dSeq (dPar 3 4 (dCons (dCB sp_span_of (dCons (dVar 0) (dCons (dVar 1) dNil))) (dCons (dCB sp_span_of (dCons (dVar 0) (dCons (dVar 2) dNil))) dNil)))
  (dSeq (dIfS (dTest (dCB sp_is_below (dCons (dOp dIx (dVar 4) (dC (.int 1))) (dCons (dOp dIx (dVar 3) (dC (.int 0))) dNil)))) (dRet (dC (.int 1))) dNext)
  (dRet (dIf (dTest (dCB sp_is_below (dCons (dOp dIx (dVar 3) (dC (.int 1))) (dCons (dOp dIx (dVar 4) (dC (.int 0))) dNil)))) (dC (.int (-1))) (dC .non)))))
def goal_order_of : Prop := ∀ (x0 x1 x2 : D) (S : Store) (P : D → Store → Prop), sp_order_of [x0, x1, x2] S P → rd_order_of (dEnd P) [some x0, some x1, some x2, none, none] S

/-- paired(base, row): slots 0 base, 1 row, 2 begin, 3 most, 4 figures, 5 pairs, 6 one, 7 other -/
def rd_paired : DS :=
  (dSeq (dAsg (.tp [(.nm 2), (.nm 3), (.nm 4)]) (dVar 1))
  (dSeq (dSet 5 (dLc (dZip (dCons (dEv (dVar 4) dNoPart) (dCons (dEv (dVar 4) (dPart (dC (.int 1)))) dNil))) (.tp [(.nm 6), (.nm 7)]) dYes (dOp dAdd (dOp dMul (dVar 0) (dVar 6)) (dVar 7))))
  (dRet (dTup (dCons (dOp dMul (dVar 0) (dVar 0)) (dCons (dTup (dCons (dOp dFdiv (dVar 2) (dC (.int 2))) (dCons (dOp dAdd (dOp dMul (dVar 0) (dVar 3)) (dVar 3)) (dCons (dCB cTuple (dCons (dVar 5) dNil)) dNil)))) dNil))))))
def goal_paired : Prop := ∀ (x0 x1 : D) (S : Store) (P : D → Store → Prop), sp_paired [x0, x1] S P → rd_paired (dEnd P) [some x0, some x1, none, none, none, none, none, none] S

/-- many_of(kind): slots 0 kind, 1 word -/
def rd_many_of : DS :=
  (dSeq (dSet 1 (dOp dIx (dVar 0) (dC (.int 0))))
  (dSeq (dIfS (dTest (dOp (dIn false) (dVar 1) (dTup (dCons (dC (.str "sum")) (dCons (dC (.str "loose")) dNil))))) (dRet (dCB cLen (dCons (dOp dIx (dVar 0) (dC (.int 1))) dNil))) dNext)
  (dRet (dKGet [("times", 2), ("least", 2), ("most", 2), ("choose", 3)] ["sum", "loose", "moved", "told", "times", "over", "least", "most", "choose"] (dVar 1) (dDispGet [("moved", 1), ("over", 2)] (dVar 1) (dC (.int 0)))))))
def goal_many_of : Prop := ∀ (x0 : D) (S : Store) (P : D → Store → Prop), sp_many_of [x0] S P → rd_many_of (dEnd P) [some x0, none] S

/-- chooses(kind): slots 0 kind -/
def rd_chooses : DS :=
  (dRet (dOp (dIn true) (dOp dIx (dVar 0) (dC (.int 0))) (dC (.tup [(.str "loose"), (.str "moved")]))))
def goal_chooses : Prop := ∀ (x0 : D) (S : Store) (P : D → Store → Prop), sp_chooses [x0] S P → rd_chooses (dEnd P) [some x0] S

/-- weighed(weights, numbers, by): slots 0 weights, 1 numbers, 2 by, 3 found, 4 weight, 5 number -/
def rd_weighed : DS :=
  (dSeq (dSet 3 (dC (.tup [(.int 0), (.int 1)])))
  (dSeq (dFor (dZipS (dCons (dVar 0) (dCons (dVar 1) dNil))) (.tp [(.nm 4), (.nm 5)]) (dSet 3 (dCB sp_plus (dCons (dVar 3) (dCons (dCB sp_times (dCons (dTup (dCons (dVar 4) (dCons (dC (.int 1)) dNil))) (dCons (dVar 5) dNil))) dNil)))))
  (dRet (dCB sp_over (dCons (dVar 3) (dCons (dTup (dCons (dVar 2) (dCons (dC (.int 1)) dNil))) dNil))))))
def goal_weighed : Prop := ∀ (x0 x1 x2 : D) (S : Store) (P : D → Store → Prop), sp_weighed [x0, x1, x2] S P → rd_weighed (dEnd P) [some x0, some x1, some x2, none, none, none] S

/-- applied(base, kind, numbers): slots 0 base, 1 kind, 2 numbers, 3 word, 4 one, 5 other -/
def rd_applied : DS :=
  (dSeq (dSet 3 (dOp dIx (dVar 1) (dC (.int 0))))
  (dSeq (dIfS (dTest (dOp dEq (dVar 3) (dC (.str "sum")))) (dRet (dCB sp_weighed (dCons (dOp dIx (dVar 1) (dC (.int 1))) (dCons (dVar 2) (dCons (dOp dIx (dVar 1) (dC (.int 2))) dNil))))) dNext)
  (dSeq (dIfS (dTest (dOp dEq (dVar 3) (dC (.str "loose")))) (dRet (dCB sp_weighed (dCons (dOp dIx (dVar 1) (dC (.int 1))) (dCons (dVar 2) (dCons (dC (.int 1)) dNil))))) dNext)
  (dSeq (dIfS (dTest (dOp dEq (dVar 3) (dC (.str "moved")))) (dRet (dCB sp_times (dCons (dOp dIx (dVar 2) (dC (.int 0))) (dCons (dCB sp_power (dCons (dVar 0) (dCons (dOp dIx (dVar 1) (dC (.int 1))) dNil))) dNil)))) dNext)
  (dSeq (dIfS (dTest (dOp dEq (dVar 3) (dC (.str "told")))) (dRet (dOp dIx (dVar 1) (dC (.int 1)))) dNext)
  (dSeq (dIfS (dTest (dOp dEq (dVar 3) (dC (.str "choose")))) (dRet (dIf (dTest (dOp dLt (dOp dIx (dOp dIx (dVar 2) (dC (.int 0))) (dC (.int 0))) (dC (.int 0)))) (dOp dIx (dVar 2) (dC (.int 2))) (dOp dIx (dVar 2) (dC (.int 1))))) dNext)
  (dSeq (dAsg (.tp [(.nm 4), (.nm 5)]) (dVar 2))
  (dSeq (dIfS (dTest (dOp dEq (dVar 3) (dC (.str "times")))) (dRet (dCB sp_times (dCons (dVar 4) (dCons (dVar 5) dNil)))) dNext)
  (dSeq (dIfS (dTest (dOp dEq (dVar 3) (dC (.str "over")))) (dRet (dCB sp_over (dCons (dVar 4) (dCons (dCB sp_greater (dCons (dVar 5) (dCons (dCB sp_power (dCons (dVar 0) (dCons (dUn dNeg (dOp dIx (dVar 1) (dC (.int 1)))) dNil))) dNil))) dNil)))) dNext)
  (dRet (dIf (dTest (dOp dEq (dVar 3) (dC (.str "least")))) (dCB sp_lesser (dCons (dVar 4) (dCons (dVar 5) dNil))) (dCB sp_greater (dCons (dVar 4) (dCons (dVar 5) dNil))))))))))))))
def goal_applied : Prop := ∀ (x0 x1 x2 : D) (S : Store) (P : D → Store → Prop), sp_applied [x0, x1, x2] S P → rd_applied (dEnd P) [some x0, some x1, some x2, none, none, none] S

/-- corners_of(many): slots 0 many, 1 found, 2 turn, 3 one, 4 end -/
def rd_corners_of : DS :=
  (dSeq (dSet 1 (dLst (dCons (dTup dNil) dNil)))
  (dSeq (dFor (dRng1 (dCons (dVar 0) dNil)) (.nm 2) (dSet 1 (dLc2 (dItSeq (dVar 1)) (.nm 3) dYes (dItSeq (dTup (dCons (dC (.int 0)) (dCons (dC (.int 1)) dNil)))) (.nm 4) dYes (dOp dAdd (dVar 3) (dTup (dCons (dVar 4) dNil))))))
  (dRet (dVar 1))))
def goal_corners_of : Prop := ∀ (x0 : D) (S : Store) (P : D → Store → Prop), sp_corners_of [x0] S P → rd_corners_of (dEnd P) [some x0, none, none, none, none] S

/-- numbers_at(spans, ends): slots 0 spans, 1 ends, 2 span, 3 end -/
def rd_numbers_at : DS :=
  (dRet (dLc (dZipS (dCons (dVar 0) (dCons (dVar 1) dNil))) (.tp [(.nm 2), (.nm 3)]) dYes (dOp dIx (dVar 2) (dVar 3))))
def goal_numbers_at : Prop := ∀ (x0 x1 : D) (S : Store) (P : D → Store → Prop), sp_numbers_at [x0, x1] S P → rd_numbers_at (dEnd P) [some x0, some x1, none, none] S

/-- reach_of(base, kind, rows): slots 0 base, 1 kind, 2 rows, 3 spans, 4 row, 5 some, 6 ends, 7 least, 8 most, 9 one -/
def rd_reach_of : DS :=
  (dSeq (dSet 3 (dLc (dItSeq (dVar 2)) (.nm 4) dYes (dCB sp_span_of (dCons (dVar 0) (dCons (dVar 4) dNil)))))
  (dSeq (dSet 5 (dLc (dItSeq (dCB sp_corners_of (dCons (dCB cLen (dCons (dVar 3) dNil)) dNil))) (.nm 6) dYes (dCB sp_applied (dCons (dVar 0) (dCons (dVar 1) (dCons (dCB sp_numbers_at (dCons (dVar 3) (dCons (dVar 6) dNil))) dNil))))))
  (dSeq (dPar 7 8 (dCons (dOp dIx (dVar 5) (dC (.int 0))) (dCons (dOp dIx (dVar 5) (dC (.int 0))) dNil)))
  (dSeq (dFor (dItSeq (dVar 5)) (.nm 9) (dPar 7 8 (dCons (dCB sp_lesser (dCons (dVar 7) (dCons (dVar 9) dNil))) (dCons (dCB sp_greater (dCons (dVar 8) (dCons (dVar 9) dNil))) dNil))))
  (dRet (dTup (dCons (dVar 7) (dCons (dVar 8) dNil))))))))
def goal_reach_of : Prop := ∀ (x0 x1 x2 : D) (S : Store) (P : D → Store → Prop), sp_reach_of [x0, x1, x2] S P → rd_reach_of (dEnd P) [some x0, some x1, some x2, none, none, none, none, none, none, none] S

/-- raised(number): slots 0 number -/
def rd_raised : DS :=
  (dRet (dUn dNeg (dOp dFdiv (dUn dNeg (dOp dIx (dVar 0) (dC (.int 0)))) (dOp dIx (dVar 0) (dC (.int 1))))))
def goal_raised : Prop := ∀ (x0 : D) (S : Store) (P : D → Store → Prop), sp_raised [x0] S P → rd_raised (dEnd P) [some x0] S

/-- figures_between(base, own, least, most): slots 0 base, 1 own, 2 least, 3 most, 4 begin, 5 top, 6 figures, 7 scale, 8 spread, 9 ahead, 10 low, 11 high -/
def rd_figures_between : DS :=
  (dSeq (dAsg (.tp [(.nm 4), (.nm 5), (.nm 6)]) (dVar 1))
  (dSeq (dSet 7 (dCB sp_power (dCons (dVar 0) (dCons (dOp dAdd (dCB sp_known_to (dCons (dVar 1) dNil)) (dC (.int 1))) dNil))))
  (dSeq (dPar 8 9 (dCons (dCB sp_frac (dCons (dVar 5) (dCons (dOp dSub (dVar 0) (dC (.int 1))) dNil))) (dCons (dCB sp_worth_of (dCons (dVar 0) (dCons (dVar 1) dNil))) dNil)))
  (dSeq (dSet 10 (dCB sp_raised (dCons (dCB sp_minus (dCons (dCB sp_times (dCons (dCB sp_minus (dCons (dVar 3) (dCons (dVar 9) dNil))) (dCons (dVar 7) dNil))) (dCons (dVar 8) dNil))) dNil)))
  (dSeq (dSet 11 (dCB sp_plus (dCons (dCB sp_times (dCons (dCB sp_minus (dCons (dVar 2) (dCons (dVar 9) dNil))) (dCons (dVar 7) dNil))) (dCons (dVar 8) dNil))))
  (dRet (dLstR2 (dCB cMax2 (dCons (dVar 10) (dCons (dUn dNeg (dVar 5)) dNil))) (dOp dAdd (dCB cMin2 (dCons (dOp dFdiv (dOp dIx (dVar 11) (dC (.int 0))) (dOp dIx (dVar 11) (dC (.int 1)))) (dCons (dVar 5) dNil))) (dC (.int 1))))))))))
def goal_figures_between : Prop := ∀ (x0 x1 x2 x3 : D) (S : Store) (P : D → Store → Prop), sp_figures_between [x0, x1, x2, x3] S P → rd_figures_between (dEnd P) [some x0, some x1, some x2, some x3, none, none, none, none, none, none, none, none] S

/-- right_figures(base, kind, rows, own): slots 0 base, 1 kind, 2 rows, 3 own, 4 least, 5 most -/
def rd_right_figures : DS :=
  (dSeq (dAsg (.tp [(.nm 4), (.nm 5)]) (dCB sp_reach_of (dCons (dVar 0) (dCons (dVar 1) (dCons (dVar 2) dNil)))))
  (dRet (dCB sp_figures_between (dCons (dVar 0) (dCons (dVar 3) (dCons (dVar 4) (dCons (dVar 5) dNil)))))))
def goal_right_figures : Prop := ∀ (x0 x1 x2 x3 : D) (S : Store) (P : D → Store → Prop), sp_right_figures [x0, x1, x2, x3] S P → rd_right_figures (dEnd P) [some x0, some x1, some x2, some x3, none, none] S

/-- size_of(figure): slots 0 figure -/
def rd_size_of : DS :=
  (dRet (dCB cAbs (dCons (dVar 0) dNil)))
def goal_size_of : Prop := ∀ (x0 : D) (S : Store) (P : D → Store → Prop), sp_size_of [x0] S P → rd_size_of (dEnd P) [some x0] S

/-- first_read(rows): slots 0 rows, 1 row -/
def rd_first_read : DS :=
  (dRet (dIf (dTest (dOp dEq (dCB cLen (dCons (dVar 0) dNil)) (dC (.int 0)))) (dC .non) (dOp dSub (dC (.int 0)) (dCB cMaxL (dCons (dLc (dItSeq (dVar 0)) (.nm 1) dYes (dOp dIx (dVar 1) (dC (.int 0)))) dNil)))))
def goal_first_read : Prop := ∀ (x0 : D) (S : Store) (P : D → Store → Prop), sp_first_read [x0] S P → rd_first_read (dEnd P) [some x0, none] S

/-- figure_at(row, place): slots 0 row, 1 place, 2 begin, 3 most, 4 figures -/
def rd_figure_at : DS :=
  (dSeq (dAsg (.tp [(.nm 2), (.nm 3), (.nm 4)]) (dVar 0))
  (dRet (dIf (dTest (dOp dGt (dOp dAdd (dVar 1) (dVar 2)) (dC (.int 0)))) (dOp dIx (dVar 4) (dOp dSub (dOp dAdd (dVar 1) (dVar 2)) (dC (.int 1)))) (dC (.int 0)))))
def goal_figure_at : Prop := ∀ (x0 x1 : D) (S : Store) (P : D → Store → Prop), sp_figure_at [x0, x1] S P → rd_figure_at (dEnd P) [some x0, some x1, none, none, none] S

/-- Machine.__init__(self, base, kind, rows, begin, most): slots 0 self, 1 base, 2 kind, 3 rows, 4 begin, 5 most -/
def rd_Machine_init : DS :=
  (dSeq (dFld2 0 "own_base" "own_kind" 0 (dVar 1) (dVar 2))
  (dSeq (dFld2 0 "own_begin" "own_most" 0 (dVar 4) (dVar 5))
  (dSeq (dSetFld 0 "own_figures" (dVar 0) (dLstM dNil))
  (dSetFld 0 "own_read" (dVar 0) (dCB sp_first_read (dCons (dVar 3) dNil))))))
def goal_Machine_init : Prop := ∀ (x0 x1 x2 x3 x4 x5 : D) (S : Store) (P : D → Store → Prop), sp_Machine_init [x0, x1, x2, x3, x4, x5] S P → rd_Machine_init (dEnd P) [some x0, some x1, some x2, some x3, some x4, some x5] S

/-- Machine.row(self): slots 0 self -/
def rd_Machine_row : DS :=
  (dRet (dTup (dCons (dFld 0 "own_begin" (dVar 0)) (dCons (dFld 0 "own_most" (dVar 0)) (dCons (dCB cTuple (dCons (dFld 0 "own_figures" (dVar 0)) dNil)) dNil)))))
def goal_Machine_row : Prop := ∀ (x0 : D) (S : Store) (P : D → Store → Prop), sp_Machine_row [x0] S P → rd_Machine_row (dEnd P) [some x0] S

/-- Machine.next_place(self): slots 0 self -/
def rd_Machine_next_place : DS :=
  (dRet (dOp dSub (dOp dAdd (dCB cLen (dCons (dFld 0 "own_figures" (dVar 0)) dNil)) (dC (.int 1))) (dFld 0 "own_begin" (dVar 0))))
def goal_Machine_next_place : Prop := ∀ (x0 : D) (S : Store) (P : D → Store → Prop), sp_Machine_next_place [x0] S P → rd_Machine_next_place (dEnd P) [some x0] S

/-- Machine.seen(self, rows): slots 0 self, 1 rows, 2 row -/
def rd_Machine_seen : DS :=
  (dRet (dLc (dItSeq (dVar 1)) (.nm 2) dYes (dCB sp_cut_of (dCons (dVar 2) (dCons (dFld 0 "own_read" (dVar 0)) dNil)))))
def goal_Machine_seen : Prop := ∀ (x0 x1 : D) (S : Store) (P : D → Store → Prop), sp_Machine_seen [x0, x1] S P → rd_Machine_seen (dEnd P) [some x0, some x1, none] S

/-- Machine.has_next(self, rows): slots 0 self, 1 rows, 2 row -/
def rd_Machine_has_next : DS :=
  (dRet (dAndV (dOp dNotN (dFld 0 "own_read" (dVar 0)) (dC .non)) (dCB cAll (dCons (dLc (dItSeq (dVar 1)) (.nm 2) dYes (dOp dGt (dCB sp_known_to (dCons (dVar 2) dNil)) (dFld 0 "own_read" (dVar 0)))) dNil))))
def goal_Machine_has_next : Prop := ∀ (x0 x1 : D) (S : Store) (P : D → Store → Prop), sp_Machine_has_next [x0, x1] S P → rd_Machine_has_next (dEnd P) [some x0, some x1, none] S

/-- Machine.right_one(self, rows): slots 0 self, 1 rows, 2 some -/
def rd_Machine_right_one : DS :=
  (dSeq (dSet 2 (dCB sp_right_figures (dCons (dFld 0 "own_base" (dVar 0)) (dCons (dFld 0 "own_kind" (dVar 0)) (dCons (dMeth 0 "seen" sp_Machine_seen (dVar 0) (dCons (dVar 1) dNil)) (dCons (dMeth 0 "row" sp_Machine_row (dVar 0) dNil) dNil))))))
  (dRet (dIf (dTest (dOp dGt (dCB cLen (dCons (dVar 2) dNil)) (dC (.int 0)))) (dMinKey sp_size_of (dVar 2)) (dC .non))))
def goal_Machine_right_one : Prop := ∀ (x0 x1 : D) (S : Store) (P : D → Store → Prop), sp_Machine_right_one [x0, x1] S P → rd_Machine_right_one (dEnd P) [some x0, some x1, none] S

/-- Machine.plain_step(self, rows, to): slots 0 self, 1 rows, 2 to, 3 signs, 4 some, 5 sign, 6 row -/
def rd_Machine_plain_step : DS :=
  (dSeq (dIfS (dOr (dNot (dTest (dMeth 0 "has_next" sp_Machine_has_next (dVar 0) (dCons (dVar 1) dNil)))) (dTest (dOp dGt (dMeth 0 "next_place" sp_Machine_next_place (dVar 0) dNil) (dVar 2)))) (dRet (dC (.bl false))) dNext)
  (dSeq (dFldAdd 0 "own_read" (dVar 0) (dC (.int 1)))
  (dSeq (dSet 3 (dIf (dTest (dOp dEq (dOp dIx (dFld 0 "own_kind" (dVar 0)) (dC (.int 0))) (dC (.str "loose")))) (dOp dIx (dFld 0 "own_kind" (dVar 0)) (dC (.int 1))) (dTup (dCons (dC (.int 1)) dNil))))
  (dSeq (dSet 4 (dLc (dZipS (dCons (dVar 3) (dCons (dVar 1) dNil))) (.tp [(.nm 5), (.nm 6)]) dYes (dOp dMul (dVar 5) (dCB sp_figure_at (dCons (dVar 6) (dCons (dFld 0 "own_read" (dVar 0)) dNil))))))
  (dSeq (dDrop (dAppend (dFld 0 "own_figures" (dVar 0)) (dCB cSum (dCons (dVar 4) dNil))))
  (dRet (dC (.bl true))))))))
def goal_Machine_plain_step : Prop := ∀ (x0 x1 x2 : D) (S : Store) (P : D → Store → Prop), sp_Machine_plain_step [x0, x1, x2] S P → rd_Machine_plain_step (dEnd P) [some x0, some x1, some x2, none, none, none, none] S

/-- Machine.step(self, rows, to): slots 0 self, 1 rows, 2 to, 3 figure -/
def rd_Machine_step : DS :=
  (dSeq (dIfS (dNot (dTest (dCB sp_chooses (dCons (dFld 0 "own_kind" (dVar 0)) dNil)))) (dRet (dMeth 0 "plain_step" sp_Machine_plain_step (dVar 0) (dCons (dVar 1) (dCons (dVar 2) dNil)))) dNext)
  (dSeq (dSet 3 (dMeth 0 "right_one" sp_Machine_right_one (dVar 0) (dCons (dVar 1) dNil)))
  (dSeq (dIfS (dTest (dOp dNotN (dVar 3) (dC .non))) (dSeq (dIfS (dTest (dOp dGt (dMeth 0 "next_place" sp_Machine_next_place (dVar 0) dNil) (dVar 2))) (dRet (dC (.bl false))) dNext)
  (dSeq (dDrop (dAppend (dFld 0 "own_figures" (dVar 0)) (dVar 3)))
  (dRet (dC (.bl true))))) dNext)
  (dSeq (dIfS (dNot (dTest (dMeth 0 "has_next" sp_Machine_has_next (dVar 0) (dCons (dVar 1) dNil)))) (dRet (dC (.bl false))) dNext)
  (dSeq (dFldAdd 0 "own_read" (dVar 0) (dC (.int 1)))
  (dRet (dC (.bl true))))))))
def goal_Machine_step : Prop := ∀ (x0 x1 x2 : D) (S : Store) (P : D → Store → Prop), sp_Machine_step [x0, x1, x2] S P → rd_Machine_step (dEnd P) [some x0, some x1, some x2, none] S

/-- steps_of(base, kind, rows, begin, most, to): slots 0 base, 1 kind, 2 rows, 3 begin, 4 most, 5 to, 6 machine, 7 found -/
def rd_steps_of : DS :=
  (dSeq (dSet 6 (dMakeK 0 sp_Machine_init 3 2 [0, 1, 2, 3, 4, 5] (dCons (dVar 0) (dCons (dVar 1) (dCons (dVar 2) dNil))) (dCons (dVar 3) (dCons (dVar 4) dNil))))
  (dSeq (dSet 7 (dLstM dNil))
  (dSeq (dWhile (dTest (dMeth 0 "step" sp_Machine_step (dVar 6) (dCons (dVar 2) (dCons (dVar 5) dNil)))) (dIfS (dTest (dOp dGt (dCB cLen (dCons (dFld 0 "own_figures" (dVar 6)) dNil)) (dCB cLen (dCons (dVar 7) dNil)))) (dDrop (dAppend (dVar 7) (dTup (dCons (dFld 0 "own_read" (dVar 6)) (dCons (dOp dIx (dFld 0 "own_figures" (dVar 6)) (dUn dNeg (dC (.int 1)))) dNil))))) dNext))
  (dRet (dTup (dCons (dVar 6) (dCons (dVar 7) dNil)))))))
def goal_steps_of : Prop := ∀ (x0 x1 x2 x3 x4 x5 : D) (S : Store) (P : D → Store → Prop), sp_steps_of [x0, x1, x2, x3, x4, x5] S P → rd_steps_of (dEnd P) [some x0, some x1, some x2, some x3, some x4, some x5, none, none] S

/-- part_run(base, kind, rows, begin, most, to): slots 0 base, 1 kind, 2 rows, 3 begin, 4 most, 5 to, 6 machine, 7 found -/
def rd_part_run : DS :=
  (dSeq (dAsg (.tp [(.nm 6), (.nm 7)]) (dCallK sp_steps_of 3 3 [0, 1, 2, 3, 4, 5] (dCons (dVar 0) (dCons (dVar 1) (dCons (dVar 2) dNil))) (dCons (dVar 3) (dCons (dVar 4) (dCons (dVar 5) dNil)))))
  (dRet (dTup (dCons (dMeth 0 "row" sp_Machine_row (dVar 6) dNil) (dCons (dFld 0 "own_read" (dVar 6)) dNil)))))
def goal_part_run : Prop := ∀ (x0 x1 x2 x3 x4 x5 : D) (S : Store) (P : D → Store → Prop), sp_part_run [x0, x1, x2, x3, x4, x5] S P → rd_part_run (dEnd P) [some x0, some x1, some x2, some x3, some x4, some x5, none, none] S

/-- is_within(base, number, begin, most): slots 0 base, 1 number, 2 begin, 3 most -/
def rd_is_within : DS :=
  (dRet (dNotV (dCB sp_is_below (dCons (dCB sp_times (dCons (dCB sp_frac (dCons (dVar 3) (dCons (dOp dSub (dVar 0) (dC (.int 1))) dNil))) (dCons (dCB sp_power (dCons (dVar 0) (dCons (dVar 2) dNil))) dNil))) (dCons (dTup (dCons (dCB cAbs (dCons (dOp dIx (dVar 1) (dC (.int 0))) dNil)) (dCons (dOp dIx (dVar 1) (dC (.int 1))) dNil))) dNil)))))
def goal_is_within : Prop := ∀ (x0 x1 x2 x3 : D) (S : Store) (P : D → Store → Prop), sp_is_within [x0, x1, x2, x3] S P → rd_is_within (dEnd P) [some x0, some x1, some x2, some x3] S

/-- fits(base, kind, sources, begin, most): slots 0 base, 1 kind, 2 sources, 3 begin, 4 most, 5 one, 6 reach, 7 number -/
def rd_fits_1 : DS :=
  (dSeq (dSet 6 (dCB sp_reach_of (dCons (dVar 0) (dCons (dVar 1) (dCons (dLc (dItSeq (dVar 2)) (.nm 5) dYes (dTup (dCons (dOp dIx (dVar 5) (dC (.int 0))) (dCons (dOp dIx (dVar 5) (dC (.int 1))) (dCons (dTup dNil) dNil))))) dNil)))))
  (dRet (dAndV (dOp dEq (dCB cLen (dCons (dVar 2) dNil)) (dCB sp_many_of (dCons (dVar 1) dNil))) (dCB cAll (dCons (dLc (dItSeq (dVar 6)) (.nm 7) dYes (dCB sp_is_within (dCons (dVar 0) (dCons (dVar 7) (dCons (dVar 3) (dCons (dVar 4) dNil)))))) dNil)))))
def rd_fits : DS :=
  (dSeq (dIfS (dTest (dOp dEq (dOp dIx (dVar 1) (dC (.int 0))) (dC (.str "loose")))) (dRet (dOp dEq (dTup (dCons (dVar 3) (dCons (dVar 4) dNil))) (dTup (dCons (dCB cMaxL (dCons (dLc (dItSeq (dVar 2)) (.nm 5) dYes (dOp dIx (dVar 5) (dC (.int 0)))) dNil)) (dCons (dCB cSum (dCons (dLc (dItSeq (dVar 2)) (.nm 5) dYes (dOp dIx (dVar 5) (dC (.int 1)))) dNil)) dNil))))) dNext)
  (dSeq (dIfS (dTest (dOp dEq (dOp dIx (dVar 1) (dC (.int 0))) (dC (.str "moved")))) (dRet (dOp dEq (dTup (dCons (dVar 3) (dCons (dVar 4) dNil))) (dTup (dCons (dOp dAdd (dOp dIx (dOp dIx (dVar 2) (dC (.int 0))) (dC (.int 0))) (dOp dIx (dVar 1) (dC (.int 1)))) (dCons (dOp dIx (dOp dIx (dVar 2) (dC (.int 0))) (dC (.int 1))) dNil))))) dNext)
  rd_fits_1))
def goal_fits : Prop := ∀ (x0 x1 x2 x3 x4 : D) (S : Store) (P : D → Store → Prop), sp_fits [x0, x1, x2, x3, x4] S P → rd_fits (dEnd P) [some x0, some x1, some x2, some x3, some x4, none, none, none] S

/-- _law_cell_at(_law_script, _law_k): slots 0 _law_script, 1 _law_k -/
def rd_Lcell_at : DS :=
  (dSeq (dIfS (dTest (dOp dLt (dVar 1) (dCB cLen (dCons (dVar 0) dNil)))) (dRet (dOp dIx (dVar 0) (dVar 1))) dNext)
  (dRet (dC (.int 0))))
def goal_Lcell_at : Prop := ∀ (x0 x1 : D) (S : Store) (P : D → Store → Prop), sp_Lcell_at [x0, x1] S P → rd_Lcell_at (dEnd P) [some x0, some x1] S

/-- _law_box(_law_script, _law_k): slots 0 _law_script, 1 _law_k, 2 _law_core -/
def rd_Lbox : DS :=
  (dSeq (dSet 2 (dCB sp_Lcell_at (dCons (dVar 0) (dCons (dVar 1) dNil))))
  (dRet (dLstM (dCons (dOp dMul (dCB cAbs (dCons (dVar 2) dNil)) (dCB cInt (dCons (dOp dGe (dCB cAbs (dCons (dVar 2) dNil)) (dOp dPow (dC (.int 10)) (dC (.int 18)))) dNil))) (dCons (dOp dAdd (dOp dAdd (dOp dMod (dVar 2) (dC (.int 2305843009213693951))) (dOp dMul (dC (.int 39373)) (dVar 1))) (dC (.int 17))) (dCons (dC (.int 0)) dNil))))))
def goal_Lbox : Prop := ∀ (x0 x1 : D) (S : Store) (P : D → Store → Prop), sp_Lbox [x0, x1] S P → rd_Lbox (dEnd P) [some x0, some x1, none] S

/-- _law_take(_law_box_here, _law_size): slots 0 _law_box_here, 1 _law_size, 2 _law_found, 3 _law_once, 4 _law_twice -/
def rd_Ltake : DS :=
  (dSeq (dIfS (dTest (dOp dGt (dOp dIx (dVar 0) (dC (.int 0))) (dC (.int 0)))) (dSeq (dSet 2 (dOp dMod (dOp dIx (dVar 0) (dC (.int 0))) (dVar 1)))
  (dSeq (dSetIx (dOp dFdiv (dOp dIx (dVar 0) (dC (.int 0))) (dVar 1)) (dVar 0) (dC (.int 0)))
  (dRet (dVar 2)))) dNext)
  (dSeq (dSetIx (dOp dAdd (dOp dIx (dVar 0) (dC (.int 2))) (dC (.int 1))) (dVar 0) (dC (.int 2)))
  (dSeq (dSet 3 (dOp dMod (dOp dMul (dOp dAdd (dOp dIx (dVar 0) (dC (.int 1))) (dOp dMul (dC (.int 48271)) (dOp dIx (dVar 0) (dC (.int 2))))) (dOp dAdd (dC (.int 39373)) (dOp dIx (dVar 0) (dC (.int 2))))) (dC (.int 2147483647))))
  (dSeq (dSet 4 (dOp dMod (dOp dMul (dOp dAdd (dOp dAdd (dVar 3) (dOp dIx (dVar 0) (dC (.int 2)))) (dOp dFdiv (dOp dIx (dVar 0) (dC (.int 1))) (dC (.int 1000003)))) (dOp dAdd (dOp dMod (dVar 3) (dC (.int 40009))) (dC (.int 7)))) (dC (.int 2147483629))))
  (dRet (dOp dMod (dOp dFdiv (dOp dMod (dOp dAdd (dOp dMul (dVar 4) (dC (.int 48271))) (dVar 3)) (dC (.int 2147483587))) (dC (.int 64))) (dVar 1)))))))
def goal_Ltake : Prop := ∀ (x0 x1 : D) (S : Store) (P : D → Store → Prop), sp_Ltake [x0, x1] S P → rd_Ltake (dEnd P) [some x0, some x1, none, none, none] S

/-- _law_of(_law_box_here, _law_some): slots 0 _law_box_here, 1 _law_some -/
def rd_Lof : DS :=
  (dRet (dOp dIx (dVar 1) (dCB sp_Ltake (dCons (dVar 0) (dCons (dCB cLen (dCons (dVar 1) dNil)) dNil)))))
def goal_Lof : Prop := ∀ (x0 x1 : D) (S : Store) (P : D → Store → Prop), sp_Lof [x0, x1] S P → rd_Lof (dEnd P) [some x0, some x1] S

/-- _law_figures(_law_box_here, _law_crest, _law_many): slots 0 _law_box_here, 1 _law_crest, 2 _law_many, 3 _law_way, 4 _law_some, 5 _law_k, 6 _law_any_one -/
def rd_Lfigures_1 : DS :=
  (dSeq (dSet 6 (dOp dSub (dCB sp_Ltake (dCons (dVar 0) (dCons (dOp dAdd (dOp dMul (dC (.int 2)) (dVar 1)) (dC (.int 1))) dNil))) (dVar 1)))
  (dDrop (dAppend (dVar 4) (dOp dIx (dLst (dCons (dVar 6) (dCons (dVar 6) (dCons (dOp dIx (dLst (dCons (dVar 1) (dCons (dOp dSub (dC (.int 0)) (dVar 1)) dNil))) (dOp dMod (dVar 6) (dC (.int 2)))) (dCons (dC (.int 0)) dNil))))) (dIf (dTest (dOp dGt (dCB sp_Ltake (dCons (dVar 0) (dCons (dC (.int 5)) dNil))) (dC (.int 0)))) (dVar 3) (dC (.int 0)))))))
def rd_Lfigures : DS :=
  (dSeq (dSet 3 (dCB sp_Ltake (dCons (dVar 0) (dCons (dC (.int 4)) dNil))))
  (dSeq (dSet 4 (dLstM dNil))
  (dSeq (dFor (dRng1 (dCons (dVar 2) dNil)) (.nm 5) rd_Lfigures_1)
  (dRet (dCB cTuple (dCons (dVar 4) dNil))))))
def goal_Lfigures : Prop := ∀ (x0 x1 x2 : D) (S : Store) (P : D → Store → Prop), sp_Lfigures [x0, x1, x2] S P → rd_Lfigures (dEnd P) [some x0, some x1, some x2, none, none, none, none] S

/-- _law_kinds(_law_box_here): slots 0 _law_box_here, 1 _law_many, 2 _law_weights, 3 _law_k, 4 _law_half, 5 _law_kind, 6 _law_some -/
def rd_Lkinds : DS :=
  (dSeq (dSet 1 (dOp dAdd (dC (.int 1)) (dCB sp_Ltake (dCons (dVar 0) (dCons (dC (.int 3)) dNil)))))
  (dSeq (dSet 2 (dCB cTuple (dCons (dLc (dRng1 (dCons (dVar 1) dNil)) (.nm 3) dYes (dOp dMul (dOp dAdd (dC (.int 1)) (dCB sp_Ltake (dCons (dVar 0) (dCons (dC (.int 5)) dNil)))) (dOp dIx (dLst (dCons (dC (.int 1)) (dCons (dUn dNeg (dC (.int 1))) dNil))) (dCB sp_Ltake (dCons (dVar 0) (dCons (dC (.int 2)) dNil)))))) dNil)))
  (dSeq (dPar 4 5 (dCons (dCB sp_Ltake (dCons (dVar 0) (dCons (dC (.int 2)) dNil))) (dCons (dTup (dCons (dC (.str "sum")) (dCons (dVar 2) (dCons (dOp dAdd (dC (.int 1)) (dCB sp_Ltake (dCons (dVar 0) (dCons (dC (.int 9)) dNil)))) dNil)))) dNil)))
  (dSeq (dSet 6 (dOp dAdd (dOp dMul (dLst (dCons (dTup (dCons (dVar 5) (dCons (dVar 5) (dCons (dVar 1) dNil)))) dNil)) (dC (.int 3))) (dLst (dCons (dTup (dCons (dTup (dCons (dC (.str "times")) dNil)) (dCons (dTup (dCons (dC (.str "times")) dNil)) (dCons (dC (.int 2)) dNil)))) (dCons (dTup (dCons (dTup (dCons (dC (.str "over")) (dCons (dOp dMul (dC (.int 2)) (dVar 4)) dNil))) (dCons (dTup (dCons (dC (.str "over")) (dCons (dVar 4) dNil))) (dCons (dC (.int 2)) dNil)))) dNil)))))
  (dRet (dCB sp_Lof (dCons (dVar 0) (dCons (dOp dAdd (dVar 6) (dLst (dCons (dTup (dCons (dTup (dCons (dC (.str "least")) dNil)) (dCons (dTup (dCons (dC (.str "least")) dNil)) (dCons (dC (.int 2)) dNil)))) (dCons (dTup (dCons (dTup (dCons (dC (.str "most")) dNil)) (dCons (dTup (dCons (dC (.str "most")) dNil)) (dCons (dC (.int 2)) dNil)))) dNil)))) dNil))))))))
def goal_Lkinds : Prop := ∀ (x0 : D) (S : Store) (P : D → Store → Prop), sp_Lkinds [x0] S P → rd_Lkinds (dEnd P) [some x0, none, none, none, none, none, none] S

/-- _law_start(_law_base, _law_kind, _law_feeders, _law_top): slots 0 _law_base, 1 _law_kind, 2 _law_feeders, 3 _law_top, 4 _law_start_here -/
def rd_Lstart : DS :=
  (dSeq (dFor (dRng3 (dCons (dUn dNeg (dC (.int 12))) (dCons (dC (.int 13)) (dCons (dC (.int 2)) dNil)))) (.nm 4) (dIfS (dTest (dCB sp_fits (dCons (dVar 0) (dCons (dVar 1) (dCons (dVar 2) (dCons (dVar 4) (dCons (dVar 3) dNil))))))) (dRet (dVar 4)) dNext))
  (dRet (dC .non)))
def goal_Lstart : Prop := ∀ (x0 x1 x2 x3 : D) (S : Store) (P : D → Store → Prop), sp_Lstart [x0, x1, x2, x3] S P → rd_Lstart (dEnd P) [some x0, some x1, some x2, some x3, none] S

/-- _law_right(_law_box_here): slots 0 _law_box_here, 1 _law_base, 2 _law_turn, 3 _law_kind, 4 _law_other, 5 _law_many, 6 _law_sizes, 7 _law_top, 8 _law_k, 9 _law_rows, 10 _law_size, 11 _law_pairs, 12 _law_row, 13 _law_start_here, 14 _law_feeders, 15 _law_doubles, 16 _law_lag, 17 _law_half, 18 _law_one, 19 _law_two, 20 _law_alike, 21 _law_place -/
def rd_Lright_1 : DS :=
  (dSeq (dIfS (dTest (dOp dNotN (dCB sp_order_of (dCons (dOp dMul (dVar 1) (dVar 1)) (dCons (dCB sp_cut_of (dCons (dVar 20) (dCons (dVar 21) dNil))) (dCons (dVar 19) dNil)))) (dC .non))) (dRet (dC (.bl false))) dNext)
  (dIfS (dTest (dOp dNotN (dCB sp_order_of (dCons (dOp dMul (dVar 1) (dVar 1)) (dCons (dVar 20) (dCons (dCB sp_cut_of (dCons (dVar 19) (dCons (dVar 21) dNil))) dNil)))) (dC .non))) (dRet (dC (.bl false))) dNext))
def rd_Lright_2 : DS :=
  (dSeq (dIfS (dTest (dOp dLt (dCB sp_known_to (dCons (dVar 19) dNil)) (dCB cMin2 (dCons (dC (.int 12)) (dCons (dOp dSub (dCB cMinL (dCons (dLc (dItSeq (dVar 11)) (.nm 12) dYes (dCB sp_known_to (dCons (dVar 12) dNil))) dNil)) (dOp dFdiv (dOp dAdd (dVar 16) (dC (.int 1))) (dC (.int 2)))) dNil))))) (dRet (dC (.bl false))) dNext)
  (dSeq (dSet 20 (dOp dIx (dCB sp_paired (dCons (dVar 1) (dCons (dTup (dCons (dOp dIx (dVar 18) (dC (.int 0))) (dCons (dOp dIx (dVar 18) (dC (.int 1))) (dCons (dSl (dOp dIx (dVar 18) (dC (.int 2))) dNoPart (dPart (dOp dMul (dOp dFdiv (dCB cLen (dCons (dOp dIx (dVar 18) (dC (.int 2))) dNil)) (dC (.int 2))) (dC (.int 2))))) dNil)))) dNil))) (dC (.int 1))))
  (dFor (dRng2 (dCons (dUn dNeg (dVar 17)) (dCons (dC (.int 12)) dNil))) (.nm 21) rd_Lright_1)))
def rd_Lright_3 : DS :=
  (dSeq (dPar 14 15 (dCons (dLc (dItSeq (dVar 9)) (.nm 12) dYes (dSl (dVar 12) dNoPart (dPart (dC (.int 2))))) (dCons (dLc (dItSeq (dVar 11)) (.nm 12) dYes (dSl (dVar 12) dNoPart (dPart (dC (.int 2))))) dNil)))
  (dSeq (dPar 16 17 (dCons (dCB sp_told_lag (dCons (dVar 1) (dCons (dVar 3) (dCons (dVar 14) (dCons (dVar 13) (dCons (dVar 7) dNil)))))) (dCons (dOp dFdiv (dVar 13) (dC (.int 2))) dNil)))
  (dSeq (dIfS (dTest (dOp dNe (dCB sp_told_lag (dCons (dOp dMul (dVar 1) (dVar 1)) (dCons (dVar 4) (dCons (dVar 15) (dCons (dVar 17) (dCons (dOp dMul (dVar 7) (dOp dAdd (dVar 1) (dC (.int 1)))) dNil)))))) (dOp dFdiv (dOp dAdd (dVar 16) (dC (.int 1))) (dC (.int 2))))) (dRet (dC (.bl false))) dNext)
  (dSeq (dIfS (dNot (dTest (dCB sp_fits (dCons (dOp dMul (dVar 1) (dVar 1)) (dCons (dVar 4) (dCons (dVar 15) (dCons (dVar 17) (dCons (dOp dMul (dVar 7) (dOp dAdd (dVar 1) (dC (.int 1)))) dNil)))))))) (dRet (dC (.bl false))) dNext)
  (dSeq (dIfS (dTest (dOp dNe (dCB sp_reach_of (dCons (dVar 1) (dCons (dVar 3) (dCons (dVar 9) dNil)))) (dCB sp_reach_of (dCons (dOp dMul (dVar 1) (dVar 1)) (dCons (dVar 4) (dCons (dVar 11) dNil)))))) (dRet (dC (.bl false))) dNext)
  (dSeq (dSet 18 (dOp dIx (dCallK sp_part_run 3 3 [0, 1, 2, 3, 4, 5] (dCons (dVar 1) (dCons (dVar 3) (dCons (dVar 9) dNil))) (dCons (dVar 13) (dCons (dVar 7) (dCons (dC (.int 24)) dNil)))) (dC (.int 0))))
  (dSeq (dSet 19 (dOp dIx (dCallK sp_part_run 3 3 [0, 1, 2, 3, 4, 5] (dCons (dOp dMul (dVar 1) (dVar 1)) (dCons (dVar 4) (dCons (dVar 11) dNil))) (dCons (dVar 17) (dCons (dOp dMul (dVar 7) (dOp dAdd (dVar 1) (dC (.int 1)))) (dCons (dC (.int 12)) dNil)))) (dC (.int 0))))
  rd_Lright_2)))))))
def rd_Lright_4 : DS :=
  (dSeq (dAsg (.tp [(.nm 3), (.nm 4), (.nm 5)]) (dCB sp_Lkinds (dCons (dVar 0) dNil)))
  (dSeq (dPar 6 7 (dCons (dLc (dRng1 (dCons (dVar 5) dNil)) (.nm 8) dYes (dOp dAdd (dOp dSub (dVar 1) (dC (.int 1))) (dCB sp_Ltake (dCons (dVar 0) (dCons (dC (.int 3)) dNil))))) (dCons (dOp dAdd (dOp dSub (dVar 1) (dC (.int 1))) (dCB sp_Ltake (dCons (dVar 0) (dCons (dC (.int 3)) dNil)))) dNil)))
  (dSeq (dSet 9 (dLc (dItSeq (dVar 6)) (.nm 10) dYes (dTup (dCons (dOp dMul (dC (.int 2)) (dCB sp_Ltake (dCons (dVar 0) (dCons (dC (.int 2)) dNil)))) (dCons (dVar 10) (dCons (dCB sp_Lfigures (dCons (dVar 0) (dCons (dVar 10) (dCons (dOp dMul (dC (.int 2)) (dCB sp_Ltake (dCons (dVar 0) (dCons (dC (.int 4)) dNil)))) dNil)))) dNil))))))
  (dSeq (dSet 11 (dLc (dItSeq (dVar 9)) (.nm 12) dYes (dOp dIx (dCB sp_paired (dCons (dVar 1) (dCons (dVar 12) dNil))) (dC (.int 1)))))
  (dSeq (dSet 13 (dCB sp_Lstart (dCons (dVar 1) (dCons (dVar 3) (dCons (dLc (dItSeq (dVar 9)) (.nm 12) dYes (dSl (dVar 12) dNoPart (dPart (dC (.int 2))))) (dCons (dVar 7) dNil))))))
  (dSeq (dIfS (dTest (dOp dIsN (dVar 13) (dC .non))) dCont dNext)
  rd_Lright_3))))))
def rd_Lright : DS :=
  (dSeq (dSet 1 (dCB sp_Lof (dCons (dVar 0) (dCons (dLst (dCons (dC (.int 2)) (dCons (dC (.int 3)) dNil))) dNil))))
  (dSeq (dFor (dRng1 (dCons (dC (.int 3)) dNil)) (.nm 2) rd_Lright_4)
  (dRet (dC (.bl true)))))
def goal_Lright : Prop := ∀ (x0 : D) (S : Store) (P : D → Store → Prop), sp_Lright [x0] S P → rd_Lright (dEnd P) [some x0, none, none, none, none, none, none, none, none, none, none, none, none, none, none, none, none, none, none, none, none, none] S

/-- law(_law_script): slots 0 _law_script, 1 _law_k -/
def rd_law : DS :=
  (dRet (dCB cAll (dCons (dLc (dRng1 (dCons (dCB cMax2 (dCons (dC (.int 2)) (dCons (dCB cMin2 (dCons (dCB cLen (dCons (dVar 0) dNil)) (dCons (dC (.int 3)) dNil))) dNil))) dNil)) (.nm 1) dYes (dCB sp_Lright (dCons (dCB sp_Lbox (dCons (dVar 0) (dCons (dVar 1) dNil))) dNil))) dNil)))
def goal_law : Prop := ∀ (x0 : D) (S : Store) (P : D → Store → Prop), sp_law [x0] S P → rd_law (dEnd P) [some x0, none] S

theorem len_figures_between : ∀ ds S P, sp_figures_between ds S P → ds.length = 4 := len_figures_betweenG
theorem vc_figures_between : goal_figures_between := vc_figures_betweenG
theorem len_right_figures : ∀ ds S P, sp_right_figures ds S P → ds.length = 4 := len_right_figuresG
theorem vc_right_figures : goal_right_figures := vc_right_figuresG
theorem len_size_of : ∀ ds S P, sp_size_of ds S P → ds.length = 1 := len_size_ofM
theorem vc_size_of : goal_size_of := vc_size_ofM
theorem len_chooses : ∀ ds S P, sp_chooses ds S P → ds.length = 1 := len_choosesM
theorem vc_chooses : goal_chooses := vc_choosesM
theorem len_paired : ∀ ds S P, sp_paired ds S P → ds.length = 2 := len_pairedY
theorem vc_paired : goal_paired := vc_pairedY
theorem len_Lfigures : ∀ ds S P, sp_Lfigures ds S P → ds.length = 3 := len_LfiguresQ
theorem vc_Lfigures : goal_Lfigures := vc_LfiguresQ
theorem len_Lkinds : ∀ ds S P, sp_Lkinds ds S P → ds.length = 1 := by rintro ds S P ⟨a, b, rfl, _⟩; rfl
theorem len_Lstart : ∀ ds S P, sp_Lstart ds S P → ds.length = 4 := by rintro ds S P ⟨a, b, c, d, rfl, _⟩; rfl
theorem len_Lright : ∀ ds S P, sp_Lright ds S P → ds.length = 1 := by rintro ds S P ⟨a, b, rfl, _⟩; rfl
theorem len_law : ∀ ds S P, sp_law ds S P → ds.length = 1 := law_len
/-! ### kinds, begins -/
theorem vc_Lkinds : goal_Lkinds := by
  rintro x0 S P ⟨p, n, e, hb, hn, h⟩
  cases e
  unfold rd_Lkinds
  walk_at "dg3"
  refine takeK (.refl hb) (by decide) (by decide) (by omega) fun x S1 x0 x1 hb1 => ?_
  walk_at "dg3"
  refine ⟨by omega, by omega, ?_⟩
  refine lc_st (fun _ y => ∃ w : Int, y = .int w ∧ (w ≠ 0 ∧ w.natAbs ≤ 9)) (fun i S' => Dk S S' p (n + 1 + 2 * i)) (by rw [rng_len]; omega) hb1 (fun i d S' hd hs => ?_) fun ys S2 hl hy hb2 => ?_
  · have hi := (rng_get hd).1
    refine ⟨_, rfl, fun Q q => ?_⟩
    walk_at "dg3"
    refine takeK hs (by decide) (by decide) (by omega) fun x S2 x0 x1 hb2 => ?_
    walk_at "dg3"
    refine takeK hb2 (by decide) (by decide) (by omega) fun y S3 y0 y1 hb3 => ?_
    walk_at "dg3"
    have : y = 0 ∨ y = 1 := by omega
    rcases this with rfl | rfl
    · walk_at "dg3"
      exact ⟨mulS, q _ _ ⟨_, rfl, by omega⟩ (hb3.mono (by omega))⟩
    · walk_at "dg3"
      exact ⟨mulS, q _ _ ⟨_, rfl, by omega⟩ (hb3.mono (by omega))⟩
  obtain ⟨ws, rfl, hws⟩ := ex_map (f := D.int) (R := fun w => w ≠ 0 ∧ w.natAbs ≤ 9) fun y hy' => by
    obtain ⟨i, hi, rfl⟩ := List.mem_iff_getElem.mp hy'
    exact hy i _ (List.getElem?_eq_getElem hi)
  rw [rng_len] at hl hb2
  rw [List.length_map] at hl
  clear hy
  walk_at "dg3"
  refine takeK hb2 (by decide) (by decide) (by omega) fun x4 S4 x40 x41 hb4 => ?_
  walk_at "dg3"
  refine takeK hb4 (by decide) (by decide) (by omega) fun v S5 v0 v1 hb5 => ?_
  walk_at "dg3"
  refine ⟨by decide, by decide, by decide, mulS, by simp, by simp, ?_⟩
  refine ⟨p, _, _, _, rfl, .inl rfl, by simp, by simp, hb5.1, by omega, fun y S7 hy d => ?_⟩
  have wl : ws.length = (1 + x).toNat := hl
  have fin : ∀ kn kn2 : Kn, KP kn kn2 → y = .tup [kn.d, kn2.d, .int kn.many] → P y S7 := fun kn kn2 k1 e => by
    rw [e]
    exact h kn kn2 S7 k1 ((hb5.trans d.dk).mono (by omega))
  have ks : KP (.sum ws (1 + v)) (.sum ws (1 + v)) := .sum ws (1 + v) (by omega) (by omega) hws (by omega) (by omega)
  have es : D.tup [.tup [.str "sum", .tup (ws.map .int), .int (1 + v)], .tup [.str "sum", .tup (ws.map .int), .int (1 + v)], .int (1 + x)] = .tup [(Kn.sum ws (1 + v)).d, (Kn.sum ws (1 + v)).d, .int (Kn.sum ws (1 + v)).many] := by
    have : ((Kn.sum ws (1 + v)).many : Int) = 1 + x := by show (ws.length : Int) = _; omega
    rw [this]; rfl
  have hy2 : y = D.tup [.tup [.str "sum", .tup (ws.map .int), .int (1 + v)], .tup [.str "sum", .tup (ws.map .int), .int (1 + v)], .int (1 + x)] ∨ y = .tup [.tup [.str "times"], .tup [.str "times"], .int 2] ∨ y = .tup [.tup [.str "over", .int (2 * x4)], .tup [.str "over", .int x4], .int 2] ∨ y = .tup [.tup [.str "least"], .tup [.str "least"], .int 2] ∨ y = .tup [.tup [.str "most"], .tup [.str "most"], .int 2] := by
    rcases List.mem_append.mp hy with hy | hy
    · rcases List.mem_append.mp hy with hy | hy
      · left
        obtain ⟨l, hl1, hl2⟩ := List.mem_flatten.mp hy
        have := (List.mem_replicate.mp hl1).2
        subst this
        simpa using hl2
      · right
        have : y = .tup [.tup [.str "times"], .tup [.str "times"], .int 2] ∨ y = .tup [.tup [.str "over", .int (2 * x4)], .tup [.str "over", .int x4], .int 2] := by simpa using hy
        rcases this with e | e
        · exact .inl e
        · exact .inr (.inl e)
    · right; right; right
      simpa using hy
  rcases hy2 with e | e | e | e | e
  · exact fin _ _ ks (e.trans es)
  · exact fin _ _ .times e
  · exact fin _ _ (.over x4 x40 (by omega)) e
  · exact fin _ _ .least e
  · exact fin _ _ .most e
theorem rngC_get {lo c : Int} {n i : Nat} {d : D} (h : (rngC lo c n)[i]? = some d) : i < n ∧ d = .int (lo + (i : Int) * c) := by
  unfold rngC at h
  rw [List.getElem?_map] at h
  by_cases hi : i < n
  · rw [List.getElem?_range hi] at h
    cases h
    exact ⟨hi, rfl⟩
  · rw [List.getElem?_eq_none (by simpa using hi)] at h; cases h
theorem rgc2 {i j : Int} (h1 : -(2 ^ 40) ≤ i) (h2 : i < 2 ^ 40) (h3 : -(2 ^ 40) ≤ j) (h4 : j < 2 ^ 40) : RgC i j 2 ((j - i + 1) / 2).toNat := by
  refine ⟨by decide, by decide, ?_, ?_⟩
  · have hs : -(2 ^ 42) ≤ Builtin.Range.rangeSize i j 2 ∧ Builtin.Range.rangeSize i j 2 ≤ 2 ^ 42 := by
      unfold Builtin.Range.rangeSize
      rw [if_pos (by decide)]
      split <;> omega
    unfold Builtin.Range.small Builtin.Range.rangeFitsLong
    generalize Builtin.Range.rangeSize i j 2 = z at hs
    simp
    omega
  · unfold Builtin.Range.rangeSize
    rw [if_pos (by decide)]
    split <;> omega
theorem vc_Lstart : goal_Lstart := by
  rintro x0 x1 x2 x3 S P ⟨b, m, kn, ss, e, b0, b1, hk, hl, hb, m0, m1, h, hn⟩
  cases e
  unfold rd_Lstart dRng3
  walk_at "dg3"
  refine ⟨_, rgc2 (by decide) (by decide) (by decide) (by decide), fun i ρ S' => S' = S ∧ ∃ z, ρ = [some (.int b), some kn.d, some (.lst (ss.map srcD)), some (.int m), z], ⟨rfl, _, rfl⟩, ?_, ?_⟩
  · rintro i d ρ S' hd ⟨rfl, z, rfl⟩
    obtain ⟨hi, rfl⟩ := rngC_get hd
    have hi : i < 13 := hi
    refine ⟨_, rfl, ?_⟩
    walk_at "dg3"
    refine ⟨b, _, m, kn, ss, rfl, b0, by omega, hk.ok, hl, fun ws z => by subst z; exact hk.elim, hb, by omega, m0, by omega, ?_⟩
    cases c : fitB b kn ss (-12 + (i : Int) * 2) m with
    | true =>
      walk_at "dg3"
      exact h _ (by omega) (by omega) (by omega) c
    | false =>
      walk_at "dg3"
      exact ⟨_, rfl⟩
  · rintro ρ S' ⟨rfl, z, rfl⟩
    walk_at "dg3"
    exact hn
structure Ev (b : Int) (r : Rw) : Prop where
  e : r.e = 0 ∨ r.e = 2
  m0 : b - 1 ≤ r.m
  m1 : r.m ≤ b + 1
  l : r.fs.length % 2 = 0
  l1 : r.fs.length ≤ 6
  f : ∀ f, f ∈ r.fs → -r.m ≤ f ∧ f ≤ r.m
theorem eqB_sp (q : Rat × Rat) : dEqB (spD q) (spD q) = some true := by
  have h : dEqB (spD q) (spD q) = some (PyData.eqvAll [.tuple [.int q.1.num, .int (q.1.den : Int)], .tuple [.int q.2.num, .int (q.2.den : Int)]] [.tuple [.int q.1.num, .int (q.1.den : Int)], .tuple [.int q.2.num, .int (q.2.den : Int)]]) := rfl
  rw [h]
  simp [PyData.eqvAll, PyData.eqv]
theorem vc_Lright : goal_Lright := by
  rintro x0 S P ⟨p, n, er, hb, hn, h⟩
  cases er
  unfold rd_Lright
  walk_at "dg3"
  refine ⟨p, _, [.int 2, .int 3], n, rfl, .inl rfl, by simp, by simp, hb, by omega, fun y S1 hy d1 => ?_⟩
  obtain ⟨b, rfl, hb2⟩ : ∃ b : Int, y = .int b ∧ (b = 2 ∨ b = 3) := by
    simp only [List.mem_cons, List.not_mem_nil, or_false] at hy
    rcases hy with rfl | rfl
    · exact ⟨2, rfl, .inl rfl⟩
    · exact ⟨3, rfl, .inr rfl⟩
  have b0 : 2 ≤ b := by omega
  walk_at "dg3"
  refine ⟨by decide, by decide, fun i ρ S' => ∃ zs : List (Option D), BoxAt S' p (n + 1 + 2000 * i) ∧ ρ = some (.obj p) :: some (.int b) :: zs ∧ zs.length = 20, ⟨_, d1.box, rfl, rfl⟩, ?_, ?_⟩
  · rintro i d ρ S2 hd ⟨zs, hbx, rfl, hz⟩
    obtain ⟨hi, rfl⟩ := rng_get hd
    have hi : i < 3 := by simpa using hi
    match zs, hz with
    | [z2, z3, z4, z5, z6, z7, z8, z9, z10, z11, z12, z13, z14, z15, z16, z17, z18, z19, z20, z21], _ =>
    refine ⟨_, rfl, ?_⟩
    unfold rd_Lright_4
    walk_at "dg3"
    refine ⟨p, _, rfl, hbx, by omega, fun kn kn2 S3 hk hb3 => ?_⟩
    have hm := hk.kl.1.many
    walk_at "dg3"
    refine ⟨by omega, by omega, ?_⟩
    refine lc_st (fun _ y => ∃ w : Int, y = .int w ∧ (b - 1 ≤ w ∧ w ≤ b + 1)) (fun j S' => Dk S2 S' p (n + 1 + 2000 * i + 20 + j)) (by rw [rng_len]; omega) hb3 (fun j d S' hd hs => ?_) fun ys S4 hl hy hb4 => ?_
    · have hj := (rng_get hd).1
      refine ⟨_, rfl, fun Q q => ?_⟩
      walk_at "dg3"
      refine takeK hs (by decide) (by decide) (by omega) fun x S5 x0 x1 hb5 => ?_
      exact q _ _ ⟨_, rfl, by omega⟩ hb5
    obtain ⟨ms, rfl, hms⟩ := ex_map (f := D.int) (R := fun w => b - 1 ≤ w ∧ w ≤ b + 1) fun y hy' => by
      obtain ⟨i, hi, rfl⟩ := List.mem_iff_getElem.mp hy'
      exact hy i _ (List.getElem?_eq_getElem hi)
    rw [rng_len] at hl hb4
    rw [List.length_map] at hl
    have hml : ms.length = kn.many := by omega
    clear hy
    refine takeK hb4 (by decide) (by decide) (by omega) fun x S5 x0 x1 hb5 => ?_
    obtain ⟨m, hm0⟩ : ∃ m, m = b - 1 + x := ⟨_, rfl⟩
    walk_at "dg3"
    rw [← hm0]
    refine lc_st (fun j y => ∃ r : Rw, y = r.d ∧ Ev b r) (fun j S' => Dk S2 S' p (n + 1 + 2000 * i + 30 + 210 * j)) (by rw [List.length_map]; omega) (hb5.mono (by omega)) (fun j d S' hd hs => ?_) fun ys S6 hl hy hb6 => ?_
    · rw [List.getElem?_map] at hd
      cases e : ms[j]? with
      | none => rw [e] at hd; cases hd
      | some w =>
        rw [e] at hd
        cases hd
        have hw := hms w (List.mem_of_getElem? e)
        have hj := (List.getElem?_eq_some_iff.mp e).1
        refine ⟨_, rfl, fun Q q => ?_⟩
        walk_at "dg3"
        refine takeK hs (by decide) (by decide) (by omega) fun x S7 x0 x1 hb7 => ?_
        walk_at "dg3"
        refine ⟨mulS, ?_⟩
        refine takeK hb7 (by decide) (by decide) (by omega) fun y S8 y0 y1 hb8 => ?_
        walk_at "dg3"
        refine ⟨mulS, p, _, w, 2 * y, rfl, hb8.1, by omega, by omega, by omega, by omega, by omega, fun fs S9 fl ff hb9 => ?_⟩
        refine q _ _ ⟨⟨2 * x, w, fs⟩, rfl, by show 2 * x = 0 ∨ 2 * x = 2; omega, by show b - 1 ≤ w; omega, by show w ≤ b + 1; omega, by show fs.length % 2 = 0; omega, by show fs.length ≤ 6; omega, ff⟩ ((hb8.trans hb9).mono (by omega))
    obtain ⟨rs, rfl, hrs⟩ := ex_map (f := Rw.d) (R := Ev b) fun y hy' => by
      obtain ⟨i, hi, rfl⟩ := List.mem_iff_getElem.mp hy'
      exact hy i _ (List.getElem?_eq_getElem hi)
    rw [List.length_map] at hl hb6
    rw [List.length_map] at hl
    have hrl : rs.length = kn.many := by omega
    have rne : rs ≠ [] := fun z => by rw [z] at hrl; simp at hrl; omega
    clear hy
    have rsm : ∀ r, r ∈ rs → Sm b 6 r := fun r hr => by
      have h := hrs r hr
      have := h.e; have := h.m0; have := h.m1; have := h.l1
      exact ⟨by omega, by omega, by omega, by omega, by omega, h.f⟩
    walk_at "dg3"
    refine lc_mapA Rw.d (fun r => (Rw.pair b r).d) (by omega) (fun r hr => ⟨_, rfl, fun Q q => ?_⟩) ?_
    · walk_at "dg3"
      exact ⟨b, r, rfl, by omega, by have := (hrs r hr).l1; omega, q⟩
    walk_at "dg3"
    refine lc_mapA Rw.d (fun r => srcD (r.e, r.m)) (by omega) (fun r hr => ⟨_, rfl, fun Q qq => ?_⟩) ?_
    · unfold Rw.d
      walk_at "dg3"
      exact qq
    rw [show (rs.map fun r => srcD (r.e, r.m)) = (shapes rs).map srcD by unfold shapes; rw [List.map_map]; rfl]
    have slen : (shapes rs).length = kn.many := by unfold shapes; rw [List.length_map]; exact hrl
    have sok : ∀ q, q ∈ shapes rs → (q.1 = 0 ∨ q.1 = 2) ∧ b - 1 ≤ q.2 ∧ q.2 ≤ b + 1 := fun q hq => by
      unfold shapes at hq
      obtain ⟨r, hr, rfl⟩ := List.mem_map.mp hq
      exact ⟨(hrs r hr).e, (hrs r hr).m0, (hrs r hr).m1⟩
    walk_at "dg3"
    have hb6 := hb6.1
    refine ⟨b, m, kn, shapes rs, rfl, b0, by omega, hk.kl.1, slen, fun q hq => by
      have := sok q hq
      refine ⟨?_, ?_, ?_, ?_⟩ <;> omega, by omega, by omega, fun st s0 s1 se hf => ?_, ?_⟩
    rotate_left
    · walk_at "dg3"
      exact ⟨_, hb6.mono (by omega), rfl, rfl⟩
    walk_at "dg3"
    unfold rd_Lright_3
    walk_at "dg3"
    refine lc_mapA Rw.d (fun r => srcD (r.e, r.m)) (by omega) (fun r hr => ⟨_, rfl, fun Q qq => ?_⟩) ?_
    · unfold Rw.d
      walk_at "dg3"
      exact qq
    rw [show (rs.map fun r => srcD (r.e, r.m)) = (shapes rs).map srcD by unfold shapes; rw [List.map_map]; rfl]
    refine lc_mapA (fun r => (Rw.pair b r).d) (fun r => srcD (pairS b (r.e, r.m))) (by omega) (fun r hr => ⟨_, rfl, fun Q qq => ?_⟩) ?_
    · unfold Rw.d
      walk_at "dg3"
      exact qq
    have epr : (rs.map fun r => (Rw.pair b r).d) = (rs.map (Rw.pair b)).map Rw.d := by rw [List.map_map]; rfl
    have esh : shapes (rs.map (Rw.pair b)) = (shapes rs).map (pairS b) := by unfold shapes; rw [List.map_map, List.map_map]; rfl
    rw [show (rs.map fun r => srcD (pairS b (r.e, r.m))) = ((shapes rs).map (pairS b)).map srcD by unfold shapes; rw [List.map_map, List.map_map]; rfl]
    walk_at "dg3"
    simp only [epr]
    -- what holds of both
    have hst2 : st.fdiv 2 = st / 2 := fdiv2Y st
    have em : m * (b + 1) = b * m + m := by rw [Int.mul_add, Int.mul_one, Int.mul_comm]
    have m2b : 0 ≤ b * m + m ∧ b * m + m ≤ 16 ∧ b * b ≤ 2 * (b * m + m) := by rcases hb2 with rfl | rfl <;> omega
    have bb : 2 ≤ b * b ∧ b * b ≤ 10 := by rcases hb2 with rfl | rfl <;> omega
    have evs : ∀ q, q ∈ shapes rs → q.1 % 2 = 0 := fun q hq => by have := sok q hq; omega
    have A := askP (m := m) b0 (by omega) hk.kl.1 slen (fun q hq => by have := sok q hq; omega) (by omega) (by omega)
    have sl2 : ((shapes rs).map (pairS b)).length = kn2.many := by rw [List.length_map, slen, hk.many]
    have ps2 : ∀ q, q ∈ (shapes rs).map (pairS b) → (0 ≤ q.1 ∧ q.1 ≤ 1) ∧ b * b - 1 ≤ q.2 ∧ q.2 ≤ 16 := fun q hq => by
      obtain ⟨z, hz, rfl⟩ := List.mem_map.mp hq
      have := sok z hz
      show (0 ≤ z.1 / 2 ∧ z.1 / 2 ≤ 1) ∧ b * b - 1 ≤ b * z.2 + z.2 ∧ b * z.2 + z.2 ≤ 16
      rcases hb2 with rfl | rfl <;> omega
    have A2 := askP (b := b * b) (m := b * m + m) bb.1 (by omega) hk.kl.2 sl2 (fun q hq => by have := ps2 q hq; omega) m2b.2.2 (by omega)
    have hf2 : fitB (b * b) kn2 ((shapes rs).map (pairS b)) (st / 2) (b * m + m) = true := by rw [hk.fit hb2 evs se]; exact hf
    refine ⟨b, st, m, shapes rs, false, tkdL kn, by rw [A.d]; rfl, A.ok, fun x hx => ?_⟩
    rcases A.or with z | ⟨kd, hkd, etk, hwd⟩
    · exact absurd z hk.nch.1
    rw [etk] at hx
    obtain ⟨lag, rfl, lp, l0, l1⟩ := hx
    walk_at "dg3"
    rw [hst2, em]
    refine ⟨divS (by decide) (by decide), mulS, mulS, ?_⟩
    refine ⟨b * b, st / 2, b * m + m, (shapes rs).map (pairS b), false, tkdL kn2, by rw [A2.d]; rfl, A2.ok, fun x hx => ?_⟩
    rcases A2.or with z | ⟨kd2, hkd2, etk2, hwd2⟩
    · exact absurd z hk.nch.2
    rw [etk2] at hx
    obtain ⟨lag2, rfl, lp2, l20, l21⟩ := hx
    have el : lag2 = (lag + 1) / 2 := by
      rw [hk.need hb2 evs hkd hkd2, show 2 * (b * m + m) - b * b + 1 = (b + 1) * (2 * m - b + 1) by rcases hb2 with rfl | rfl <;> omega] at lp2
      exact lp_pair hb2 (by omega) lp lp2
    walk_at "dg3"
    rw [fdiv2Y, ← el]
    refine ⟨divS (by decide) (by decide), ?_⟩
    simp only [decide_true, Bool.not_true, Bool.false_eq_true, if_false]
    refine ⟨mulS, mulS, b * b, st / 2, b * m + m, kn2, (shapes rs).map (pairS b), rfl, bb.1, by omega, hk.kl.2.ok, sl2, fun ws z => by have := hk.kl.2; rw [z] at this; exact this.elim, fun q hq => by
      have := ps2 q hq
      refine ⟨?_, ?_, ?_, ?_⟩ <;> omega, by omega, by omega, by omega, ?_⟩
    rw [hf2]
    walk_at "dg3"
    have okr : ∀ r, r ∈ rs → r.Ok b := fun r hr => (rsm r hr).ok b0 (by omega) (by decide)
    have psm : ∀ r, r ∈ rs.map (Rw.pair b) → Sm (b * b) 3 r := fun r hr => by
      obtain ⟨z, hz, rfl⟩ := List.mem_map.mp hr
      have hz := hrs z hz
      have := hz.e; have := hz.m0; have := hz.m1; have := hz.l1
      refine ⟨by show -12 ≤ z.e / 2; omega, by show z.e / 2 ≤ 12; omega, ?_, ?_, ?_, pairsF_mem b0 hz.f⟩
      · show b * b ≤ 2 * (b * z.m + z.m)
        rcases hb2 with rfl | rfl <;> omega
      · show b * z.m + z.m ≤ 100
        rcases hb2 with rfl | rfl <;> omega
      · show ((pairsF b z.fs).length : Int) ≤ 3
        rw [pairsF_len]; omega
    have okp : ∀ r, r ∈ rs.map (Rw.pair b) → r.Ok (b * b) := fun r hr => (psm r hr).ok bb.1 (by omega) (by decide)
    have espan : (rs.map (Rw.pair b)).map (spanQ (b * b)) = rs.map (spanQ b) := by
      rw [List.map_map]
      apply List.map_congr_left
      intro r hr
      exact pair_span hb2 (by have := (hrs r hr).e; omega) (hrs r hr).l
    have pl : (rs.map (Rw.pair b)).length = kn2.many := by rw [List.length_map, hrl, hk.many]
    refine ⟨b, kn, rs, 840, _, rfl, .inl rfl, hk.kl.1.ok, by omega, b0, by omega, by decide, by decide, rsOk_of okr, ?_⟩
    refine ⟨mulS, b * b, kn2, _, 840, _, rfl, .inl rfl, hk.kl.2.ok, pl, bb.1, by omega, by decide, by decide, rsOk_of okp, ?_⟩
    rw [reachQ_d, reachQ_d, espan, hk.reach (by omega)]
    simp only [eqB_sp]
    walk_at "dg3"
    have P1 : Part b 6 kn rs st m 24 := Part.ofS b0 (by omega) hk.kl.1.ok hk.kl.1.ch hrl rsm (by decide) (by omega) (by omega) (by omega) (by omega) (by omega) hf
    have P2 : Part (b * b) 3 kn2 (rs.map (Rw.pair b)) (st / 2) (b * m + m) 12 := Part.ofS bb.1 (by omega) hk.kl.2.ok hk.kl.2.ch pl psm (by decide) (by omega) (by omega) (by omega) (by omega) (by omega) (by rw [esh]; exact hf2)
    refine ⟨b, kn, rs, st, m, 24, rfl, P1.all hk.kl.1.ch, fun S7 s1 tr1 run1 hn1 kp1 => ?_⟩
    walk_at "dg3"
    refine ⟨mulS, mulS, b * b, kn2, rs.map (Rw.pair b), st / 2, b * m + m, 12, rfl, P2.all hk.kl.2.ch, fun S8 s2 tr2 run2 hn2 kp2 => ?_⟩
    walk_at "dg3"
    have hb8 := kp2.box (kp1.box hb6)
    obtain ⟨rc1, sn1⟩ := run1.last
    obtain ⟨rc2, sn2⟩ := run2.last
    have I1 := P1.inv hk.kl.1.ch rc1
    have W1 := P1.wits hk.kl.1.ch hf rc1
    have I2 := P2.inv hk.kl.2.ch rc2
    have W2 := P2.wits hk.kl.2.ch (by rw [esh]; exact hf2) rc2
    have st1 := P1.stands W1
    have st2 := P2.stands W2
    rw [espan, hk.app (by omega)] at st2
    have ok1 := P1.own I1
    have ok2 := P2.own I2
    have pne : rs.map (Rw.pair b) ≠ [] := by simpa using rne
    have far : ∀ mk, mk = minZ ((rs.map (Rw.pair b)).map known) → ¬ ((s2.figs.length : Int) - st / 2 < if mk - lag2 < 12 then mk - lag2 else 12) := fun mk hmk => by
      rcases Part.stop (k := 3) hk.kl.2.ch pne W2 I2.nr sn2 with ⟨c, _⟩ | ⟨hn, R, hR, hle, r, hr, hkr⟩
      · unfold nextP at c
        split <;> omega
      · have lt := P2.late hkd2 A2.o I2 W2 hR m2b.2.2 (by rw [esh]; exact lp2.1) hn
        have el : R = mk := by
          have mz := minZ_is (xs := (rs.map (Rw.pair b)).map known) (by simpa using rne)
          rw [← hmk] at mz
          obtain ⟨r2, hr2, e2⟩ := List.mem_map.mp mz.1
          have a := mz.2 _ (List.mem_map.mpr ⟨r, hr, rfl⟩)
          have c := hle r2 hr2
          omega
        unfold nextP at lt
        split <;> omega
    generalize kn.app b ((rs.map (spanQ b)).map (·.1)) = v at st1 st2
    unfold rd_Lright_2
    walk_at "dg3"
    refine ⟨ownR (st / 2) (b * m + m) s2, rfl, ?_⟩
    refine lc_mapA Rw.d (fun r => .int (known r)) (by rw [List.length_map]; omega) (fun r hr => ⟨_, rfl, fun Q qq => by walk_at "dg3"; exact ⟨r, rfl, qq⟩⟩) ?_
    rw [show ((rs.map (Rw.pair b)).map fun r => D.int (known r)) = ((rs.map (Rw.pair b)).map known).map .int by generalize rs.map (Rw.pair b) = qs; rw [List.map_map]; rfl]
    refine minZ_ok (by simpa using rne) ?_
    walk_at "dg3"
    rw [fdiv2Y, ← el]
    refine ⟨divS (by decide) (by decide), ?_⟩
    rw [if_neg (show ¬ ((ownR (st / 2) (b * m + m) s2).fs.length : Int) - (ownR (st / 2) (b * m + m) s2).e < _ from far _ rfl)]
    have sl900 : s1.figs.length ≤ 900 := hn1
    have ek : (dcut ((ownR st m s1).fs.map D.int) none (some ((((ownR st m s1).fs.map D.int).length : Int).fdiv 2 * 2))) = (s1.figs.take (2 * (s1.figs.length / 2))).map .int := by
      rw [List.length_map, fdiv2Y, dcut_take (by omega), ← List.map_take]
      show (s1.figs.take ((s1.figs.length : Int) / 2 * 2).toNat).map D.int = _
      congr 2
      omega
    rw [ek]
    have f1 : ∀ f, f ∈ s1.figs → -m ≤ f ∧ f ≤ m := I1.f
    have cut1 := Rw.cut_in (r := ownR st m s1) b0 (show 0 ≤ m by omega) f1 (2 * (s1.figs.length / 2 : Nat) - st)
    have ec : (ownR st m s1).cut (2 * (s1.figs.length / 2 : Nat) - st) = ⟨st, m, s1.figs.take (2 * (s1.figs.length / 2))⟩ := by
      unfold Rw.cut ownR
      simp only
      congr 2
      omega
    rw [ec] at cut1
    have l2 : (s1.figs.take (2 * (s1.figs.length / 2))).length % 2 = 0 := by rw [List.length_take]; omega
    have al1 := pair_lo (r := ⟨st, m, s1.figs.take (2 * (s1.figs.length / 2))⟩) hb2 se l2
    have al2 := pair_hi (r := ⟨st, m, s1.figs.take (2 * (s1.figs.length / 2))⟩) hb2 se l2
    have ok1l := ok1.l
    have okA : (Rw.pair b ⟨st, m, s1.figs.take (2 * (s1.figs.length / 2))⟩).Ok (b * b) := by
      refine ⟨bb.1, by omega, by show -40 ≤ st / 2; omega, by show st / 2 ≤ 40; omega, by show 0 ≤ b * m + m; omega, by show b * m + m ≤ 1000; omega, ?_, fun f hf => ?_⟩
      · show (pairsF b _).length ≤ 80
        rw [pairsF_len, List.length_take]
        have : s1.figs.length ≤ 80 := ok1l
        omega
      · have := pairsF_mem b0 (fun f hf => f1 f (List.mem_of_mem_take hf)) f hf
        omega
    have figA : ∀ f, f ∈ (Rw.pair b ⟨st, m, s1.figs.take (2 * (s1.figs.length / 2))⟩).fs → -(b * m + m) ≤ f ∧ f ≤ b * m + m := fun f hf => pairsF_mem b0 (fun f hf => f1 f (List.mem_of_mem_take hf)) f hf
    have fig2 : ∀ f, f ∈ s2.figs → -(b * m + m) ≤ f ∧ f ≤ b * m + m := I2.f
    have A1 : (Rw.pair b ⟨st, m, s1.figs.take (2 * (s1.figs.length / 2))⟩).lo (b * b) ≤ v := by rw [al1]; exact Rat.le_trans cut1.1 st1.1
    have B1 : v ≤ (Rw.pair b ⟨st, m, s1.figs.take (2 * (s1.figs.length / 2))⟩).hi (b * b) := by rw [al2]; exact Rat.le_trans st1.2 cut1.2
    refine ⟨divS (by decide) (by decide), by
      rw [List.length_map, fdiv2Y]
      exact mulS (by show -(2 ^ 64) < (s1.figs.length : Int) / 2 ∧ (s1.figs.length : Int) / 2 < 2 ^ 64; omega), b, ⟨st, m, s1.figs.take (2 * (s1.figs.length / 2))⟩, rfl, by omega, by show (s1.figs.take _).length ≤ 1000; rw [List.length_take]; omega, ?_⟩
    have em2 : (Rw.pair b ⟨st, m, s1.figs.take (2 * (s1.figs.length / 2))⟩).m = b * m + m := rfl
    generalize Rw.pair b ⟨st, m, s1.figs.take (2 * (s1.figs.length / 2))⟩ = ra at okA figA A1 B1 em2 ⊢
    have e2m : (ownR (st / 2) (b * m + m) s2).m = b * m + m := rfl
    have e2f : (ownR (st / 2) (b * m + m) s2).fs = s2.figs := rfl
    generalize ownR (st / 2) (b * m + m) s2 = rb at st2 ok2 e2m e2f ⊢
    rw [← e2f] at fig2
    walk_at "dg3"
    refine ⟨by omega, fun j ρ S' => S' = S8 ∧ ∃ z21, ρ = [some (.obj p), some (.int b), some (.int (0 + (i : Int))), some kn.d, some kn2.d, some (.int kn.many), some (.lst (ms.map .int)), some (.int m), z8, some (.lst (rs.map Rw.d)), z10, some (.lst ((rs.map (Rw.pair b)).map Rw.d)), z12, some (.int st), some (.lst ((shapes rs).map srcD)), some (.lst (((shapes rs).map (pairS b)).map srcD)), some (.int lag), some (.int (st / 2)), some (ownR st m s1).d, some rb.d, some ra.d, z21], ⟨rfl, _, rfl⟩, ?_, ?_⟩
    · rintro j d ρ S' hd ⟨rfl, z, rfl⟩
      obtain ⟨hj, rfl⟩ := rng_get hd
      refine ⟨_, rfl, ?_⟩
      unfold rd_Lright_1
      walk_at "dg3"
      have c1 := Rw.cut_in (r := ra) bb.1 (by rw [em2]; omega) (by rw [em2]; exact figA) (-(st / 2) + (j : Int))
      have c2 := Rw.cut_in (r := rb) bb.1 (by rw [e2m]; omega) (by rw [e2m]; exact fig2) (-(st / 2) + (j : Int))
      refine ⟨mulS, ra, _, rfl, b * b, _, rb, rfl, okA.cut _, ok2, ?_⟩
      rw [ordD_non.mpr ⟨Rat.le_trans c1.1 (Rat.le_trans A1 st2.2), Rat.le_trans st2.1 (Rat.le_trans B1 c1.2)⟩]
      walk_at "dg3"
      refine ⟨mulS, rb, _, rfl, b * b, ra, _, rfl, okA, ok2.cut _, ?_⟩
      rw [ordD_non.mpr ⟨Rat.le_trans A1 (Rat.le_trans st2.2 c2.2), Rat.le_trans c2.1 (Rat.le_trans st2.1 B1)⟩]
      walk_at "dg3"
      exact ⟨_, rfl⟩
    · rintro ρ S' ⟨rfl, z, rfl⟩
      exact ⟨_, hb8.mono (by omega), rfl, rfl⟩
  · rintro ρ S2 ⟨zs, hb2, rfl, hz⟩
    walk_at "dg3"
    exact h _
theorem vc_law : goal_law := by
  rintro x0 S P ⟨ns, e, hn, h⟩
  cases e
  unfold rd_law
  walk_at "dg3"
  rw [List.length_map]
  have e1 : (if (3 : Int) < (ns.length : Int) then (3 : Int) else (ns.length : Int)) ≤ 3 := by split <;> omega
  generalize (if (3 : Int) < (ns.length : Int) then (3 : Int) else (ns.length : Int)) = c at *
  have e2 : (if c > 2 then c else 2) ≤ 3 ∧ 0 ≤ (if c > 2 then c else 2) := by split <;> omega
  generalize (if c > 2 then c else 2) = c2 at *
  refine ⟨by omega, by omega, ?_⟩
  refine all_true (by rw [rng_len]; omega) (fun i d S' hd => ?_) fun S' => h S'
  obtain ⟨hi, rfl⟩ := rng_get hd
  refine ⟨_, rfl, fun Q q => ?_⟩
  walk_at "dg3"
  refine ⟨ns, _, rfl, by omega, by omega, fun p S3 hp hd3 => ?_⟩
  exact ⟨p, _, rfl, hd3.box, by omega, fun S5 => q _⟩
end K86

namespace K86
open PySem PySem.Spec PyProof.Rows L2 DL Lb
def topS (i : Nat) : Stmt := PySem.Challenge.pw_firstfigures_k86_whole_two_figures_as_on.main.body.getD i (.Pass ⟨0, 0, 0, 0⟩)
abbrev s_common : Stmt := topS 2
theorem sc_common : FnScope ["one", "other"] ["one", "other"] (defScope s_common) := ⟨rfl, rfl, rfl, by decide +kernel, rfl, by decide +kernel, by decide +kernel⟩
abbrev s_frac : Stmt := topS 3
theorem sc_frac : FnScope ["top", "bottom", "by"] ["top", "bottom"] (defScope s_frac) := ⟨rfl, rfl, rfl, by decide +kernel, rfl, by decide +kernel, by decide +kernel⟩
abbrev s_plus : Stmt := topS 4
theorem sc_plus : FnScope ["one", "other"] ["one", "other"] (defScope s_plus) := ⟨rfl, rfl, rfl, by decide +kernel, rfl, by decide +kernel, by decide +kernel⟩
abbrev s_minus : Stmt := topS 5
theorem sc_minus : FnScope ["one", "other"] ["one", "other"] (defScope s_minus) := ⟨rfl, rfl, rfl, by decide +kernel, rfl, by decide +kernel, by decide +kernel⟩
abbrev s_times : Stmt := topS 6
theorem sc_times : FnScope ["one", "other"] ["one", "other"] (defScope s_times) := ⟨rfl, rfl, rfl, by decide +kernel, rfl, by decide +kernel, by decide +kernel⟩
abbrev s_over : Stmt := topS 7
theorem sc_over : FnScope ["one", "other"] ["one", "other"] (defScope s_over) := ⟨rfl, rfl, rfl, by decide +kernel, rfl, by decide +kernel, by decide +kernel⟩
abbrev s_is_below : Stmt := topS 8
theorem sc_is_below : FnScope ["one", "other"] ["one", "other"] (defScope s_is_below) := ⟨rfl, rfl, rfl, by decide +kernel, rfl, by decide +kernel, by decide +kernel⟩
abbrev s_lesser : Stmt := topS 9
theorem sc_lesser : FnScope ["one", "other"] ["one", "other"] (defScope s_lesser) := ⟨rfl, rfl, rfl, by decide +kernel, rfl, by decide +kernel, by decide +kernel⟩
abbrev s_greater : Stmt := topS 10
theorem sc_greater : FnScope ["one", "other"] ["one", "other"] (defScope s_greater) := ⟨rfl, rfl, rfl, by decide +kernel, rfl, by decide +kernel, by decide +kernel⟩
abbrev s_power : Stmt := topS 11
theorem sc_power : FnScope ["base", "many", "found", "turn"] ["base", "many"] (defScope s_power) := ⟨rfl, rfl, rfl, by decide +kernel, rfl, by decide +kernel, by decide +kernel⟩
abbrev s_width_of : Stmt := topS 13
theorem sc_width_of : FnScope ["base", "kind", "sources", "word", "mosts", "begin", "most", "weight", "begins", "by"] ["base", "kind", "sources"] (defScope s_width_of) := ⟨rfl, rfl, rfl, by decide +kernel, rfl, by decide +kernel, by decide +kernel⟩
abbrev s_least_power : Stmt := topS 14
theorem sc_least_power : FnScope ["base", "room", "need", "lag"] ["base", "room", "need"] (defScope s_least_power) := ⟨rfl, rfl, rfl, by decide +kernel, rfl, by decide +kernel, by decide +kernel⟩
abbrev s_told_lag : Stmt := topS 15
theorem sc_told_lag : FnScope ["base", "kind", "sources", "begin", "most"] ["base", "kind", "sources", "begin", "most"] (defScope s_told_lag) := ⟨rfl, rfl, rfl, by decide +kernel, rfl, by decide +kernel, by decide +kernel⟩
abbrev s_known_to : Stmt := topS 19
theorem sc_known_to : FnScope ["row", "begin", "most", "figures"] ["row"] (defScope s_known_to) := ⟨rfl, rfl, rfl, by decide +kernel, rfl, by decide +kernel, by decide +kernel⟩
abbrev s_whole_of : Stmt := topS 20
theorem sc_whole_of : FnScope ["base", "figures", "found", "figure"] ["base", "figures"] (defScope s_whole_of) := ⟨rfl, rfl, rfl, by decide +kernel, rfl, by decide +kernel, by decide +kernel⟩
abbrev s_worth_of : Stmt := topS 21
theorem sc_worth_of : FnScope ["base", "row"] ["base", "row"] (defScope s_worth_of) := ⟨rfl, rfl, rfl, by decide +kernel, rfl, by decide +kernel, by decide +kernel⟩
abbrev s_tail_of : Stmt := topS 22
theorem sc_tail_of : FnScope ["base", "row"] ["base", "row"] (defScope s_tail_of) := ⟨rfl, rfl, rfl, by decide +kernel, rfl, by decide +kernel, by decide +kernel⟩
abbrev s_span_of : Stmt := topS 23
theorem sc_span_of : FnScope ["base", "row", "worth", "tail"] ["base", "row"] (defScope s_span_of) := ⟨rfl, rfl, rfl, by decide +kernel, rfl, by decide +kernel, by decide +kernel⟩
abbrev s_cut_of : Stmt := topS 24
theorem sc_cut_of : FnScope ["row", "place", "begin", "most", "figures"] ["row", "place"] (defScope s_cut_of) := ⟨rfl, rfl, rfl, by decide +kernel, rfl, by decide +kernel, by decide +kernel⟩
abbrev s_order_of : Stmt := topS 25
theorem sc_order_of : FnScope ["base", "one", "other", "mine", "its"] ["base", "one", "other"] (defScope s_order_of) := ⟨rfl, rfl, rfl, by decide +kernel, rfl, by decide +kernel, by decide +kernel⟩
abbrev s_paired : Stmt := topS 26
theorem sc_paired : FnScope ["base", "row", "begin", "most", "figures", "pairs", "one", "other"] ["base", "row"] (defScope s_paired) := ⟨rfl, rfl, rfl, by decide +kernel, rfl, by decide +kernel, by decide +kernel⟩
abbrev s_many_of : Stmt := topS 30
theorem sc_many_of : FnScope ["kind", "word"] ["kind"] (defScope s_many_of) := ⟨rfl, rfl, rfl, by decide +kernel, rfl, by decide +kernel, by decide +kernel⟩
abbrev s_chooses : Stmt := topS 31
theorem sc_chooses : FnScope ["kind"] ["kind"] (defScope s_chooses) := ⟨rfl, rfl, rfl, by decide +kernel, rfl, by decide +kernel, by decide +kernel⟩
abbrev s_weighed : Stmt := topS 32
theorem sc_weighed : FnScope ["weights", "numbers", "by", "found", "weight", "number"] ["weights", "numbers", "by"] (defScope s_weighed) := ⟨rfl, rfl, rfl, by decide +kernel, rfl, by decide +kernel, by decide +kernel⟩
abbrev s_applied : Stmt := topS 33
theorem sc_applied : FnScope ["base", "kind", "numbers", "word", "one", "other"] ["base", "kind", "numbers"] (defScope s_applied) := ⟨rfl, rfl, rfl, by decide +kernel, rfl, by decide +kernel, by decide +kernel⟩
abbrev s_corners_of : Stmt := topS 34
theorem sc_corners_of : FnScope ["many", "found", "turn", "one", "end"] ["many"] (defScope s_corners_of) := ⟨rfl, rfl, rfl, by decide +kernel, rfl, by decide +kernel, by decide +kernel⟩
abbrev s_numbers_at : Stmt := topS 35
theorem sc_numbers_at : FnScope ["spans", "ends", "span", "end"] ["spans", "ends"] (defScope s_numbers_at) := ⟨rfl, rfl, rfl, by decide +kernel, rfl, by decide +kernel, by decide +kernel⟩
abbrev s_reach_of : Stmt := topS 36
theorem sc_reach_of : FnScope ["base", "kind", "rows", "spans", "row", "some", "ends", "least", "most", "one"] ["base", "kind", "rows"] (defScope s_reach_of) := ⟨rfl, rfl, rfl, by decide +kernel, rfl, by decide +kernel, by decide +kernel⟩
abbrev s_raised : Stmt := topS 38
theorem sc_raised : FnScope ["number"] ["number"] (defScope s_raised) := ⟨rfl, rfl, rfl, by decide +kernel, rfl, by decide +kernel, by decide +kernel⟩
abbrev s_figures_between : Stmt := topS 39
theorem sc_figures_between : FnScope ["base", "own", "least", "most", "begin", "top", "figures", "scale", "spread", "ahead", "low", "high"] ["base", "own", "least", "most"] (defScope s_figures_between) := ⟨rfl, rfl, rfl, by decide +kernel, rfl, by decide +kernel, by decide +kernel⟩
abbrev s_right_figures : Stmt := topS 40
theorem sc_right_figures : FnScope ["base", "kind", "rows", "own", "least", "most"] ["base", "kind", "rows", "own"] (defScope s_right_figures) := ⟨rfl, rfl, rfl, by decide +kernel, rfl, by decide +kernel, by decide +kernel⟩
abbrev s_size_of : Stmt := topS 44
theorem sc_size_of : FnScope ["figure"] ["figure"] (defScope s_size_of) := ⟨rfl, rfl, rfl, by decide +kernel, rfl, by decide +kernel, by decide +kernel⟩
abbrev s_first_read : Stmt := topS 45
theorem sc_first_read : FnScope ["rows", "row"] ["rows"] (defScope s_first_read) := ⟨rfl, rfl, rfl, by decide +kernel, rfl, by decide +kernel, by decide +kernel⟩
abbrev s_figure_at : Stmt := topS 46
theorem sc_figure_at : FnScope ["row", "place", "begin", "most", "figures"] ["row", "place"] (defScope s_figure_at) := ⟨rfl, rfl, rfl, by decide +kernel, rfl, by decide +kernel, by decide +kernel⟩
abbrev s_Machine_init : Stmt := inClass (topS 47) 0
theorem sc_Machine_init : FnScope ["self", "base", "kind", "rows", "begin", "most"] ["self", "base", "kind", "rows", "begin", "most"] (defScope s_Machine_init) := ⟨rfl, rfl, rfl, by decide +kernel, rfl, by decide +kernel, by decide +kernel⟩
abbrev s_Machine_row : Stmt := inClass (topS 47) 1
theorem sc_Machine_row : FnScope ["self"] ["self"] (defScope s_Machine_row) := ⟨rfl, rfl, rfl, by decide +kernel, rfl, by decide +kernel, by decide +kernel⟩
abbrev s_Machine_next_place : Stmt := inClass (topS 47) 2
theorem sc_Machine_next_place : FnScope ["self"] ["self"] (defScope s_Machine_next_place) := ⟨rfl, rfl, rfl, by decide +kernel, rfl, by decide +kernel, by decide +kernel⟩
abbrev s_Machine_seen : Stmt := inClass (topS 47) 3
theorem sc_Machine_seen : FnScope ["self", "rows", "row"] ["self", "rows"] (defScope s_Machine_seen) := ⟨rfl, rfl, rfl, by decide +kernel, rfl, by decide +kernel, by decide +kernel⟩
abbrev s_Machine_has_next : Stmt := inClass (topS 47) 4
theorem sc_Machine_has_next : FnScope ["self", "rows", "row"] ["self", "rows"] (defScope s_Machine_has_next) := ⟨rfl, rfl, rfl, by decide +kernel, rfl, by decide +kernel, by decide +kernel⟩
abbrev s_Machine_right_one : Stmt := inClass (topS 47) 5
theorem sc_Machine_right_one : FnScope ["self", "rows", "some"] ["self", "rows"] (defScope s_Machine_right_one) := ⟨rfl, rfl, rfl, by decide +kernel, rfl, by decide +kernel, by decide +kernel⟩
abbrev s_Machine_plain_step : Stmt := inClass (topS 47) 6
theorem sc_Machine_plain_step : FnScope ["self", "rows", "to", "signs", "some", "sign", "row"] ["self", "rows", "to"] (defScope s_Machine_plain_step) := ⟨rfl, rfl, rfl, by decide +kernel, rfl, by decide +kernel, by decide +kernel⟩
abbrev s_Machine_step : Stmt := inClass (topS 47) 7
theorem sc_Machine_step : FnScope ["self", "rows", "to", "figure"] ["self", "rows", "to"] (defScope s_Machine_step) := ⟨rfl, rfl, rfl, by decide +kernel, rfl, by decide +kernel, by decide +kernel⟩
abbrev s_steps_of : Stmt := topS 48
theorem sc_steps_of : FnScope ["base", "kind", "rows", "begin", "most", "to", "machine", "found"] ["base", "kind", "rows", "begin", "most", "to"] (defScope s_steps_of) := ⟨rfl, rfl, rfl, by decide +kernel, rfl, by decide +kernel, by decide +kernel⟩
abbrev s_part_run : Stmt := topS 49
theorem sc_part_run : FnScope ["base", "kind", "rows", "begin", "most", "to", "machine", "found"] ["base", "kind", "rows", "begin", "most", "to"] (defScope s_part_run) := ⟨rfl, rfl, rfl, by decide +kernel, rfl, by decide +kernel, by decide +kernel⟩
abbrev s_is_within : Stmt := topS 50
theorem sc_is_within : FnScope ["base", "number", "begin", "most"] ["base", "number", "begin", "most"] (defScope s_is_within) := ⟨rfl, rfl, rfl, by decide +kernel, rfl, by decide +kernel, by decide +kernel⟩
abbrev s_fits : Stmt := topS 51
theorem sc_fits : FnScope ["base", "kind", "sources", "begin", "most", "one", "reach", "number"] ["base", "kind", "sources", "begin", "most"] (defScope s_fits) := ⟨rfl, rfl, rfl, by decide +kernel, rfl, by decide +kernel, by decide +kernel⟩
abbrev s_Lcell_at : Stmt := topS 53
theorem sc_Lcell_at : FnScope ["_law_script", "_law_k"] ["_law_script", "_law_k"] (defScope s_Lcell_at) := ⟨rfl, rfl, rfl, by decide +kernel, rfl, by decide +kernel, by decide +kernel⟩
abbrev s_Lbox : Stmt := topS 54
theorem sc_Lbox : FnScope ["_law_script", "_law_k", "_law_core"] ["_law_script", "_law_k"] (defScope s_Lbox) := ⟨rfl, rfl, rfl, by decide +kernel, rfl, by decide +kernel, by decide +kernel⟩
abbrev s_Ltake : Stmt := topS 55
theorem sc_Ltake : FnScope ["_law_box_here", "_law_size", "_law_found", "_law_once", "_law_twice"] ["_law_box_here", "_law_size"] (defScope s_Ltake) := ⟨rfl, rfl, rfl, by decide +kernel, rfl, by decide +kernel, by decide +kernel⟩
abbrev s_Lof : Stmt := topS 56
theorem sc_Lof : FnScope ["_law_box_here", "_law_some"] ["_law_box_here", "_law_some"] (defScope s_Lof) := ⟨rfl, rfl, rfl, by decide +kernel, rfl, by decide +kernel, by decide +kernel⟩
abbrev s_Lfigures : Stmt := topS 57
theorem sc_Lfigures : FnScope ["_law_box_here", "_law_crest", "_law_many", "_law_way", "_law_some", "_law_k", "_law_any_one"] ["_law_box_here", "_law_crest", "_law_many"] (defScope s_Lfigures) := ⟨rfl, rfl, rfl, by decide +kernel, rfl, by decide +kernel, by decide +kernel⟩
abbrev s_Lkinds : Stmt := topS 58
theorem sc_Lkinds : FnScope ["_law_box_here", "_law_many", "_law_weights", "_law_k", "_law_half", "_law_kind", "_law_some"] ["_law_box_here"] (defScope s_Lkinds) := ⟨rfl, rfl, rfl, by decide +kernel, rfl, by decide +kernel, by decide +kernel⟩
abbrev s_Lstart : Stmt := topS 59
theorem sc_Lstart : FnScope ["_law_base", "_law_kind", "_law_feeders", "_law_top", "_law_start_here"] ["_law_base", "_law_kind", "_law_feeders", "_law_top"] (defScope s_Lstart) := ⟨rfl, rfl, rfl, by decide +kernel, rfl, by decide +kernel, by decide +kernel⟩
abbrev s_Lright : Stmt := topS 60
theorem sc_Lright : FnScope ["_law_box_here", "_law_base", "_law_turn", "_law_kind", "_law_other", "_law_many", "_law_sizes", "_law_top", "_law_k", "_law_rows", "_law_size", "_law_pairs", "_law_row", "_law_start_here", "_law_feeders", "_law_doubles", "_law_lag", "_law_half", "_law_one", "_law_two", "_law_alike", "_law_place"] ["_law_box_here"] (defScope s_Lright) := ⟨rfl, rfl, rfl, by decide +kernel, rfl, by decide +kernel, by decide +kernel⟩
abbrev s_law : Stmt := topS 61
theorem sc_law : FnScope ["_law_script", "_law_k"] ["_law_script"] (defScope s_law) := ⟨rfl, rfl, rfl, by decide +kernel, rfl, by decide +kernel, by decide +kernel⟩
/-- the built-in names that the top leaves as they are -/
structure Tx [CT] (w : World) (K : PySem.W.Frag) (mg : Str → Option Value) : Prop where
  k_Machine : Cls K (CT.at_ 0)
  a_Machine_own_base : NoAttr K (CT.at_ 0) "own_base"
  a_Machine_own_begin : NoAttr K (CT.at_ 0) "own_begin"
  a_Machine_own_figures : NoAttr K (CT.at_ 0) "own_figures"
  a_Machine_own_kind : NoAttr K (CT.at_ 0) "own_kind"
  a_Machine_own_most : NoAttr K (CT.at_ 0) "own_most"
  a_Machine_own_read : NoAttr K (CT.at_ 0) "own_read"
  n_abs : mg "abs" = none
  n_all : mg "all" = none
  n_int : mg "int" = none
  n_len : mg "len" = none
  n_list : mg "list" = none
  n_max : mg "max" = none
  n_min : mg "min" = none
  n_range : mg "range" = none
  n_sum : mg "sum" = none
  n_tuple : mg "tuple" = none
  n_zip : mg "zip" = none
  c_ABOVE : ∃ t, mg "ABOVE" = some (.int 1 t)
  c_BARE_KINDS : ∃ u, mg "BARE_KINDS" = some u ∧ KdAt K w u [("times", 2), ("least", 2), ("most", 2), ("choose", 3)] ["sum", "loose", "moved", "told", "times", "over", "least", "most", "choose"]
  c_BELOW : ∃ t, mg "BELOW" = some (.int (-1) t)
  c_GIVEN : ∃ u, mg "GIVEN" = some u ∧ TupK K u [.str "loose", .str "moved"]
  c_LOOSE : ∃ t, mg "LOOSE" = some (.str "loose" t)
  c_MOVED : ∃ t, mg "MOVED" = some (.str "moved" t)
  c_NOUGHT : ∃ u, mg "NOUGHT" = some u ∧ TupK K u [.int 0, .int 1]
section
variable [CT]
variable {P : Program} {w : World} {K : PySem.W.Frag} {mg : Str → Option Value} {base : Heap}
theorem ok_common {f : Addr} {fd : FuncData} (F : Fun K "common" "common" s_common f fd) (T : Tx w K mg) (vc : goal_common) (len : ∀ ds S P, sp_common ds S P → ds.length = 2)
     : FnD P w K mg base 1 f fd ["one", "other"] sp_common :=
  fn_d F sc_common len fun cdv A outer s H E hr => ⟨rd_common, (have nd := sc_common.nd
  (jss_cons
  (js_while PassesOwn.never (jt_gt (je_var 1) je_int) (jss_one
  (js_par 0 1 rfl nd rfl rfl (by decide) rfl rfl (ja_cons (je_var 1) (ja_cons (je_mod (je_var 0) (je_var 1)) ja_nil)) (by rfl)))) (jss_one
  (js_ret (je_var 0))))), fun ds S P h => match ds, len ds S P h, h with
  | [x0, x1], _, h => vc x0 x1 S P h⟩
theorem ok_frac {f : Addr} {fd : FuncData} {dvs : List V} {kws : List (Str × V)} (F : FunD K "frac" "frac" (defArgs s_frac) (defBody s_frac) (defScope s_frac) dvs kws f fd) (T : Tx w K mg) (vc : goal_frac) (len : ∀ ds S P, sp_frac ds S P → ds.length = 2)
    {f_common : Addr} {fd_common : FuncData} (G_common : Does P w K mg base 1 "common" ["one", "other"] f_common fd_common sp_common) : FnD P w K mg base 2 f fd ["top", "bottom"] sp_frac :=
  fn_dD F sc_frac len fun cdv A outer s H E hr => ⟨rd_frac, (have nd := sc_frac.nd
  (jss_cons
  (js_set 2 nd rfl (by first | exact Or.inl rfl | exact Or.inr rfl) (je_f G_common hr (ja_cons (je_abs T.n_abs (ja_cons (je_var 0) ja_nil)) (ja_cons (je_abs T.n_abs (ja_cons (je_var 1) ja_nil)) ja_nil)))) (jss_cons
  (js_set 2 nd rfl (by first | exact Or.inl rfl | exact Or.inr rfl) (je_ifE (jt_gt (je_var 1) je_int) (je_var 2) (je_neg (je_var 2)))) (jss_one
  (js_ret (je_tup (ja_cons (je_fdiv (je_var 0) (je_var 2)) (ja_cons (je_fdiv (je_var 1) (je_var 2)) ja_nil)))))))), fun ds S P h => match ds, len ds S P h, h with
  | [x0, x1], _, h => vc x0 x1 S P h⟩
theorem ok_plus {f : Addr} {fd : FuncData} (F : Fun K "plus" "plus" s_plus f fd) (T : Tx w K mg) (vc : goal_plus) (len : ∀ ds S P, sp_plus ds S P → ds.length = 2)
    {f_frac : Addr} {fd_frac : FuncData} (G_frac : Does P w K mg base 2 "frac" ["top", "bottom"] f_frac fd_frac sp_frac) : FnD P w K mg base 3 f fd ["one", "other"] sp_plus :=
  fn_d F sc_plus len fun cdv A outer s H E hr => ⟨rd_plus, (have nd := sc_plus.nd
  (jss_one
  (js_ret (je_f G_frac hr (ja_cons (je_add (je_mul (je_ix (je_var 0) je_int) (je_ix (je_var 1) je_int)) (je_mul (je_ix (je_var 1) je_int) (je_ix (je_var 0) je_int))) (ja_cons (je_mul (je_ix (je_var 0) je_int) (je_ix (je_var 1) je_int)) ja_nil)))))), fun ds S P h => match ds, len ds S P h, h with
  | [x0, x1], _, h => vc x0 x1 S P h⟩
theorem ok_minus {f : Addr} {fd : FuncData} (F : Fun K "minus" "minus" s_minus f fd) (T : Tx w K mg) (vc : goal_minus) (len : ∀ ds S P, sp_minus ds S P → ds.length = 2)
    {f_frac : Addr} {fd_frac : FuncData} (G_frac : Does P w K mg base 2 "frac" ["top", "bottom"] f_frac fd_frac sp_frac) : FnD P w K mg base 3 f fd ["one", "other"] sp_minus :=
  fn_d F sc_minus len fun cdv A outer s H E hr => ⟨rd_minus, (have nd := sc_minus.nd
  (jss_one
  (js_ret (je_f G_frac hr (ja_cons (je_sub (je_mul (je_ix (je_var 0) je_int) (je_ix (je_var 1) je_int)) (je_mul (je_ix (je_var 1) je_int) (je_ix (je_var 0) je_int))) (ja_cons (je_mul (je_ix (je_var 0) je_int) (je_ix (je_var 1) je_int)) ja_nil)))))), fun ds S P h => match ds, len ds S P h, h with
  | [x0, x1], _, h => vc x0 x1 S P h⟩
theorem ok_times {f : Addr} {fd : FuncData} (F : Fun K "times" "times" s_times f fd) (T : Tx w K mg) (vc : goal_times) (len : ∀ ds S P, sp_times ds S P → ds.length = 2)
    {f_frac : Addr} {fd_frac : FuncData} (G_frac : Does P w K mg base 2 "frac" ["top", "bottom"] f_frac fd_frac sp_frac) : FnD P w K mg base 3 f fd ["one", "other"] sp_times :=
  fn_d F sc_times len fun cdv A outer s H E hr => ⟨rd_times, (have nd := sc_times.nd
  (jss_one
  (js_ret (je_f G_frac hr (ja_cons (je_mul (je_ix (je_var 0) je_int) (je_ix (je_var 1) je_int)) (ja_cons (je_mul (je_ix (je_var 0) je_int) (je_ix (je_var 1) je_int)) ja_nil)))))), fun ds S P h => match ds, len ds S P h, h with
  | [x0, x1], _, h => vc x0 x1 S P h⟩
theorem ok_over {f : Addr} {fd : FuncData} (F : Fun K "over" "over" s_over f fd) (T : Tx w K mg) (vc : goal_over) (len : ∀ ds S P, sp_over ds S P → ds.length = 2)
    {f_frac : Addr} {fd_frac : FuncData} (G_frac : Does P w K mg base 2 "frac" ["top", "bottom"] f_frac fd_frac sp_frac) : FnD P w K mg base 3 f fd ["one", "other"] sp_over :=
  fn_d F sc_over len fun cdv A outer s H E hr => ⟨rd_over, (have nd := sc_over.nd
  (jss_one
  (js_ret (je_f G_frac hr (ja_cons (je_mul (je_ix (je_var 0) je_int) (je_ix (je_var 1) je_int)) (ja_cons (je_mul (je_ix (je_var 0) je_int) (je_ix (je_var 1) je_int)) ja_nil)))))), fun ds S P h => match ds, len ds S P h, h with
  | [x0, x1], _, h => vc x0 x1 S P h⟩
theorem ok_is_below {f : Addr} {fd : FuncData} (F : Fun K "is_below" "is_below" s_is_below f fd) (T : Tx w K mg) (vc : goal_is_below) (len : ∀ ds S P, sp_is_below ds S P → ds.length = 2)
     : FnD P w K mg base 1 f fd ["one", "other"] sp_is_below :=
  fn_d F sc_is_below len fun cdv A outer s H E hr => ⟨rd_is_below, (have nd := sc_is_below.nd
  (jss_one
  (js_ret (je_lt (je_mul (je_ix (je_var 0) je_int) (je_ix (je_var 1) je_int)) (je_mul (je_ix (je_var 1) je_int) (je_ix (je_var 0) je_int)))))), fun ds S P h => match ds, len ds S P h, h with
  | [x0, x1], _, h => vc x0 x1 S P h⟩
theorem ok_lesser {f : Addr} {fd : FuncData} (F : Fun K "lesser" "lesser" s_lesser f fd) (T : Tx w K mg) (vc : goal_lesser) (len : ∀ ds S P, sp_lesser ds S P → ds.length = 2)
    {f_is_below : Addr} {fd_is_below : FuncData} (G_is_below : Does P w K mg base 1 "is_below" ["one", "other"] f_is_below fd_is_below sp_is_below) : FnD P w K mg base 2 f fd ["one", "other"] sp_lesser :=
  fn_d F sc_lesser len fun cdv A outer s H E hr => ⟨rd_lesser, (have nd := sc_lesser.nd
  (jss_one
  (js_ret (je_ifE (jt_val (je_f G_is_below hr (ja_cons (je_var 1) (ja_cons (je_var 0) ja_nil)))) (je_var 1) (je_var 0))))), fun ds S P h => match ds, len ds S P h, h with
  | [x0, x1], _, h => vc x0 x1 S P h⟩
theorem ok_greater {f : Addr} {fd : FuncData} (F : Fun K "greater" "greater" s_greater f fd) (T : Tx w K mg) (vc : goal_greater) (len : ∀ ds S P, sp_greater ds S P → ds.length = 2)
    {f_is_below : Addr} {fd_is_below : FuncData} (G_is_below : Does P w K mg base 1 "is_below" ["one", "other"] f_is_below fd_is_below sp_is_below) : FnD P w K mg base 2 f fd ["one", "other"] sp_greater :=
  fn_d F sc_greater len fun cdv A outer s H E hr => ⟨rd_greater, (have nd := sc_greater.nd
  (jss_one
  (js_ret (je_ifE (jt_val (je_f G_is_below hr (ja_cons (je_var 0) (ja_cons (je_var 1) ja_nil)))) (je_var 1) (je_var 0))))), fun ds S P h => match ds, len ds S P h, h with
  | [x0, x1], _, h => vc x0 x1 S P h⟩
theorem ok_power {f : Addr} {fd : FuncData} (F : Fun K "power" "power" s_power f fd) (T : Tx w K mg) (vc : goal_power) (len : ∀ ds S P, sp_power ds S P → ds.length = 2)
     : FnD P w K mg base 1 f fd ["base", "many"] sp_power :=
  fn_d F sc_power len fun cdv A outer s H E hr => ⟨rd_power, (have nd := sc_power.nd
  (jss_cons
  (js_set 2 nd rfl (by first | exact Or.inl rfl | exact Or.inr rfl) je_int) (jss_cons
  (js_for PassesOwn.never rfl (ji_range1 T.n_range (ja_cons (je_abs T.n_abs (ja_cons (je_var 1) ja_nil)) ja_nil)) (jg_name 3 nd rfl (by first | exact Or.inl rfl | exact Or.inr rfl)) (jss_one
  (js_imul 2 nd rfl (by first | exact Or.inl rfl | exact Or.inr rfl) (je_var 0)))) (jss_one
  (js_ret (je_ifE (jt_ge (je_var 1) je_int) (je_tup (ja_cons (je_var 2) (ja_cons je_int ja_nil))) (je_tup (ja_cons je_int (ja_cons (je_var 2) ja_nil))))))))), fun ds S P h => match ds, len ds S P h, h with
  | [x0, x1], _, h => vc x0 x1 S P h⟩
theorem ok_width_of {f : Addr} {fd : FuncData} (F : Fun K "width_of" "width_of" s_width_of f fd) (T : Tx w K mg) (vc : goal_width_of) (len : ∀ ds S P, sp_width_of ds S P → ds.length = 3)
    {f_frac : Addr} {fd_frac : FuncData} (G_frac : Does P w K mg base 2 "frac" ["top", "bottom"] f_frac fd_frac sp_frac)
    {f_power : Addr} {fd_power : FuncData} (G_power : Does P w K mg base 1 "power" ["base", "many"] f_power fd_power sp_power)
    {f_times : Addr} {fd_times : FuncData} (G_times : Does P w K mg base 3 "times" ["one", "other"] f_times fd_times sp_times)
    {f_plus : Addr} {fd_plus : FuncData} (G_plus : Does P w K mg base 3 "plus" ["one", "other"] f_plus fd_plus sp_plus) : FnD P w K mg base 4 f fd ["base", "kind", "sources"] sp_width_of :=
  fn_d F sc_width_of len fun cdv A outer s H E hr => ⟨rd_width_of, (have nd := sc_width_of.nd
  (jss_cons
  (js_par 3 4 rfl nd rfl rfl (by decide) rfl rfl (ja_cons (je_ix (je_var 1) je_int) (ja_cons (je_lc [("begin", 5), ("most", 6)] rfl nd (ji_seq (je_var 2)) (blkOk_by (N := ["base", "kind", "sources", "word", "mosts", "begin", "most", "weight", "begins", "by"]) (sc := defScope s_width_of) (by decide +kernel)) (by decide) (fun _ _ _ _ _ => (jg_tup rfl (jgs_cons (jg_name 5 nd rfl (by first | exact Or.inl rfl | exact Or.inr rfl)) (jgs_cons (jg_name 6 nd rfl (by first | exact Or.inl rfl | exact Or.inr rfl)) jgs_nil)))) (fun _ _ _ _ _ => jts_nil) (fun _ _ _ _ _ => (je_var 6))) ja_nil)) (by rfl)) (jss_cons
  (js_if (jt_eq hr (je_var 3) je_str) (jss_one
  (js_ret (je_f G_frac hr (ja_cons (je_sum T.n_sum (ja_cons (je_lc [("weight", 7), ("most", 6)] rfl nd (ji_zipS T.n_zip (ja_cons (je_ix (je_var 1) je_int) (ja_cons (je_var 4) ja_nil))) (blkOk_by (N := ["base", "kind", "sources", "word", "mosts", "begin", "most", "weight", "begins", "by"]) (sc := defScope s_width_of) (by decide +kernel)) (by decide) (fun _ _ _ _ _ => (jg_tup rfl (jgs_cons (jg_name 7 nd rfl (by first | exact Or.inl rfl | exact Or.inr rfl)) (jgs_cons (jg_name 6 nd rfl (by first | exact Or.inl rfl | exact Or.inr rfl)) jgs_nil)))) (fun _ _ _ _ _ => jts_nil) (fun _ _ _ _ _ => (je_mul (je_abs T.n_abs (ja_cons (je_var 7) ja_nil)) (je_var 6)))) ja_nil)) (ja_cons (je_ix (je_var 1) je_int) ja_nil))))) jss_nil) (jss_cons
  (js_if (jt_in (je_var 3) (je_tup (ja_cons je_str (ja_cons je_str ja_nil)))) (jss_one
  (js_ret (je_tup (ja_cons (je_maxL T.n_max (ja_cons (je_var 4) ja_nil)) (ja_cons je_int ja_nil))))) jss_nil) (jss_cons
  (js_setLc 8 [("begin", 5), ("most", 6)] rfl nd rfl rfl (sw_true rfl rfl rfl (by decide +kernel)) (ji_seq (je_var 2)) (blkOk_by (N := ["base", "kind", "sources", "word", "mosts", "begin", "most", "weight", "begins", "by"]) (sc := defScope s_width_of) (by decide +kernel)) (by decide) (fun _ _ _ _ _ => (jg_tup rfl (jgs_cons (jg_name 5 nd rfl (by first | exact Or.inl rfl | exact Or.inr rfl)) (jgs_cons (jg_name 6 nd rfl (by first | exact Or.inl rfl | exact Or.inr rfl)) jgs_nil)))) (fun _ _ _ _ _ => jts_nil) (fun _ _ _ _ _ => (je_f G_power hr (ja_cons (je_var 0) (ja_cons (je_var 5) ja_nil))))) (jss_cons
  (js_if (jt_eq hr (je_var 3) je_str) (jss_one
  (js_ret (je_f G_times hr (ja_cons (je_f G_frac hr (ja_cons (je_mul (je_ix (je_var 4) je_int) (je_ix (je_var 4) je_int)) (ja_cons (je_sub (je_var 0) je_int) ja_nil))) (ja_cons (je_f G_plus hr (ja_cons (je_ix (je_var 8) je_int) (ja_cons (je_ix (je_var 8) je_int) ja_nil))) ja_nil))))) jss_nil) (jss_cons
  (js_set 9 nd rfl (by first | exact Or.inl rfl | exact Or.inr rfl) (je_f G_power hr (ja_cons (je_var 0) (ja_cons (je_ix (je_var 1) je_int) ja_nil)))) (jss_one
  (js_ret (je_f G_times hr (ja_cons (je_f G_times hr (ja_cons (je_tup (ja_cons (je_ix (je_var 4) je_int) (ja_cons je_int ja_nil))) (ja_cons (je_var 9) ja_nil))) (ja_cons (je_f G_plus hr (ja_cons (je_tup (ja_cons je_int (ja_cons je_int ja_nil))) (ja_cons (je_f G_times hr (ja_cons (je_f G_times hr (ja_cons (je_f G_frac hr (ja_cons (je_ix (je_var 4) je_int) (ja_cons (je_sub (je_var 0) je_int) ja_nil))) (ja_cons (je_var 9) ja_nil))) (ja_cons (je_ix (je_var 8) je_int) ja_nil))) ja_nil))) ja_nil)))))))))))), fun ds S P h => match ds, len ds S P h, h with
  | [x0, x1, x2], _, h => vc x0 x1 x2 S P h⟩
theorem ok_least_power {f : Addr} {fd : FuncData} (F : Fun K "least_power" "least_power" s_least_power f fd) (T : Tx w K mg) (vc : goal_least_power) (len : ∀ ds S P, sp_least_power ds S P → ds.length = 3)
    {f_is_below : Addr} {fd_is_below : FuncData} (G_is_below : Does P w K mg base 1 "is_below" ["one", "other"] f_is_below fd_is_below sp_is_below)
    {f_times : Addr} {fd_times : FuncData} (G_times : Does P w K mg base 3 "times" ["one", "other"] f_times fd_times sp_times)
    {f_power : Addr} {fd_power : FuncData} (G_power : Does P w K mg base 1 "power" ["base", "many"] f_power fd_power sp_power) : FnD P w K mg base 4 f fd ["base", "room", "need"] sp_least_power :=
  fn_d F sc_least_power len fun cdv A outer s H E hr => ⟨rd_least_power, (have nd := sc_least_power.nd
  (jss_cons
  (js_set 3 nd rfl (by first | exact Or.inl rfl | exact Or.inr rfl) je_int) (jss_cons
  (js_while PassesOwn.never (jt_val (je_f G_is_below hr (ja_cons (je_f G_times hr (ja_cons (je_f G_power hr (ja_cons (je_var 0) (ja_cons (je_var 3) ja_nil))) (ja_cons (je_tup (ja_cons (je_var 1) (ja_cons je_int ja_nil))) ja_nil))) (ja_cons (je_var 2) ja_nil)))) (jss_one
  (js_iadd 3 nd rfl (by first | exact Or.inl rfl | exact Or.inr rfl) je_int))) (jss_cons
  (js_while PassesOwn.never (jt_not (jt_val (je_f G_is_below hr (ja_cons (je_f G_times hr (ja_cons (je_f G_power hr (ja_cons (je_var 0) (ja_cons (je_sub (je_var 3) je_int) ja_nil))) (ja_cons (je_tup (ja_cons (je_var 1) (ja_cons je_int ja_nil))) ja_nil))) (ja_cons (je_var 2) ja_nil))))) (jss_one
  (js_isub 3 nd rfl (by first | exact Or.inl rfl | exact Or.inr rfl) je_int))) (jss_one
  (js_ret (je_var 3))))))), fun ds S P h => match ds, len ds S P h, h with
  | [x0, x1, x2], _, h => vc x0 x1 x2 S P h⟩
theorem ok_told_lag {f : Addr} {fd : FuncData} (F : Fun K "told_lag" "told_lag" s_told_lag f fd) (T : Tx w K mg) (vc : goal_told_lag) (len : ∀ ds S P, sp_told_lag ds S P → ds.length = 5)
    {f_least_power : Addr} {fd_least_power : FuncData} (G_least_power : Does P w K mg base 4 "least_power" ["base", "room", "need"] f_least_power fd_least_power sp_least_power)
    {f_times : Addr} {fd_times : FuncData} (G_times : Does P w K mg base 3 "times" ["one", "other"] f_times fd_times sp_times)
    {f_width_of : Addr} {fd_width_of : FuncData} (G_width_of : Does P w K mg base 4 "width_of" ["base", "kind", "sources"] f_width_of fd_width_of sp_width_of) : FnD P w K mg base 5 f fd ["base", "kind", "sources", "begin", "most"] sp_told_lag :=
  fn_d F sc_told_lag len fun cdv A outer s H E hr => ⟨rd_told_lag, (have nd := sc_told_lag.nd
  (jss_cons
  (js_if (jt_eq hr (je_ix (je_var 1) je_int) je_str) (jss_one
  (js_ret (je_ix (je_var 1) je_int))) jss_nil) (jss_cons
  (js_if (jt_in (je_ix (je_var 1) je_int) (je_tup (ja_cons je_str (ja_cons je_str (ja_cons je_str ja_nil))))) (jss_one
  (js_ret (je_ifE (jt_eq hr (je_ix (je_var 1) je_int) je_str) je_int je_non))) jss_nil) (jss_one
  (js_ret (je_f G_least_power hr (ja_cons (je_var 0) (ja_cons (je_add (je_sub (je_mul je_int (je_var 4)) (je_var 0)) je_int) (ja_cons (je_f G_times hr (ja_cons (je_tup (ja_cons je_int (ja_cons je_int ja_nil))) (ja_cons (je_f G_width_of hr (ja_cons (je_var 0) (ja_cons (je_var 1) (ja_cons (je_var 2) ja_nil)))) ja_nil))) ja_nil))))))))), fun ds S P h => match ds, len ds S P h, h with
  | [x0, x1, x2, x3, x4], _, h => vc x0 x1 x2 x3 x4 S P h⟩
theorem ok_known_to {f : Addr} {fd : FuncData} (F : Fun K "known_to" "known_to" s_known_to f fd) (T : Tx w K mg) (vc : goal_known_to) (len : ∀ ds S P, sp_known_to ds S P → ds.length = 1)
     : FnD P w K mg base 1 f fd ["row"] sp_known_to :=
  fn_d F sc_known_to len fun cdv A outer s H E hr => ⟨rd_known_to, (have nd := sc_known_to.nd
  (jss_cons
  (js_asg (je_var 0) (jg_tup rfl (jgs_cons (jg_name 1 nd rfl (by first | exact Or.inl rfl | exact Or.inr rfl)) (jgs_cons (jg_name 2 nd rfl (by first | exact Or.inl rfl | exact Or.inr rfl)) (jgs_cons (jg_name 3 nd rfl (by first | exact Or.inl rfl | exact Or.inr rfl)) jgs_nil))))) (jss_one
  (js_ret (je_sub (je_len T.n_len (ja_cons (je_var 3) ja_nil)) (je_var 1)))))), fun ds S P h => match ds, len ds S P h, h with
  | [x0], _, h => vc x0 S P h⟩
theorem ok_whole_of {f : Addr} {fd : FuncData} (F : Fun K "whole_of" "whole_of" s_whole_of f fd) (T : Tx w K mg) (vc : goal_whole_of) (len : ∀ ds S P, sp_whole_of ds S P → ds.length = 2)
     : FnD P w K mg base 1 f fd ["base", "figures"] sp_whole_of :=
  fn_d F sc_whole_of len fun cdv A outer s H E hr => ⟨rd_whole_of, (have nd := sc_whole_of.nd
  (jss_cons
  (js_set 2 nd rfl (by first | exact Or.inl rfl | exact Or.inr rfl) je_int) (jss_cons
  (js_for PassesOwn.never rfl (ji_seq (je_var 1)) (jg_name 3 nd rfl (by first | exact Or.inl rfl | exact Or.inr rfl)) (jss_one
  (js_set 2 nd rfl (by first | exact Or.inl rfl | exact Or.inr rfl) (je_add (je_mul (je_var 2) (je_var 0)) (je_var 3))))) (jss_one
  (js_ret (je_var 2)))))), fun ds S P h => match ds, len ds S P h, h with
  | [x0, x1], _, h => vc x0 x1 S P h⟩
theorem ok_worth_of {f : Addr} {fd : FuncData} (F : Fun K "worth_of" "worth_of" s_worth_of f fd) (T : Tx w K mg) (vc : goal_worth_of) (len : ∀ ds S P, sp_worth_of ds S P → ds.length = 2)
    {f_times : Addr} {fd_times : FuncData} (G_times : Does P w K mg base 3 "times" ["one", "other"] f_times fd_times sp_times)
    {f_power : Addr} {fd_power : FuncData} (G_power : Does P w K mg base 1 "power" ["base", "many"] f_power fd_power sp_power)
    {f_known_to : Addr} {fd_known_to : FuncData} (G_known_to : Does P w K mg base 1 "known_to" ["row"] f_known_to fd_known_to sp_known_to)
    {f_whole_of : Addr} {fd_whole_of : FuncData} (G_whole_of : Does P w K mg base 1 "whole_of" ["base", "figures"] f_whole_of fd_whole_of sp_whole_of) : FnD P w K mg base 4 f fd ["base", "row"] sp_worth_of :=
  fn_d F sc_worth_of len fun cdv A outer s H E hr => ⟨rd_worth_of, (have nd := sc_worth_of.nd
  (jss_one
  (js_ret (je_f G_times hr (ja_cons (je_tup (ja_cons (je_f G_whole_of hr (ja_cons (je_var 0) (ja_cons (je_ix (je_var 1) je_int) ja_nil))) (ja_cons je_int ja_nil))) (ja_cons (je_f G_power hr (ja_cons (je_var 0) (ja_cons (je_neg (je_f G_known_to hr (ja_cons (je_var 1) ja_nil))) ja_nil))) ja_nil)))))), fun ds S P h => match ds, len ds S P h, h with
  | [x0, x1], _, h => vc x0 x1 S P h⟩
theorem ok_tail_of {f : Addr} {fd : FuncData} (F : Fun K "tail_of" "tail_of" s_tail_of f fd) (T : Tx w K mg) (vc : goal_tail_of) (len : ∀ ds S P, sp_tail_of ds S P → ds.length = 2)
    {f_times : Addr} {fd_times : FuncData} (G_times : Does P w K mg base 3 "times" ["one", "other"] f_times fd_times sp_times)
    {f_power : Addr} {fd_power : FuncData} (G_power : Does P w K mg base 1 "power" ["base", "many"] f_power fd_power sp_power)
    {f_known_to : Addr} {fd_known_to : FuncData} (G_known_to : Does P w K mg base 1 "known_to" ["row"] f_known_to fd_known_to sp_known_to)
    {f_frac : Addr} {fd_frac : FuncData} (G_frac : Does P w K mg base 2 "frac" ["top", "bottom"] f_frac fd_frac sp_frac) : FnD P w K mg base 4 f fd ["base", "row"] sp_tail_of :=
  fn_d F sc_tail_of len fun cdv A outer s H E hr => ⟨rd_tail_of, (have nd := sc_tail_of.nd
  (jss_one
  (js_ret (je_f G_times hr (ja_cons (je_f G_frac hr (ja_cons (je_ix (je_var 1) je_int) (ja_cons (je_sub (je_var 0) je_int) ja_nil))) (ja_cons (je_f G_power hr (ja_cons (je_var 0) (ja_cons (je_neg (je_f G_known_to hr (ja_cons (je_var 1) ja_nil))) ja_nil))) ja_nil)))))), fun ds S P h => match ds, len ds S P h, h with
  | [x0, x1], _, h => vc x0 x1 S P h⟩
theorem ok_span_of {f : Addr} {fd : FuncData} (F : Fun K "span_of" "span_of" s_span_of f fd) (T : Tx w K mg) (vc : goal_span_of) (len : ∀ ds S P, sp_span_of ds S P → ds.length = 2)
    {f_worth_of : Addr} {fd_worth_of : FuncData} (G_worth_of : Does P w K mg base 4 "worth_of" ["base", "row"] f_worth_of fd_worth_of sp_worth_of)
    {f_tail_of : Addr} {fd_tail_of : FuncData} (G_tail_of : Does P w K mg base 4 "tail_of" ["base", "row"] f_tail_of fd_tail_of sp_tail_of)
    {f_plus : Addr} {fd_plus : FuncData} (G_plus : Does P w K mg base 3 "plus" ["one", "other"] f_plus fd_plus sp_plus)
    {f_minus : Addr} {fd_minus : FuncData} (G_minus : Does P w K mg base 3 "minus" ["one", "other"] f_minus fd_minus sp_minus) : FnD P w K mg base 5 f fd ["base", "row"] sp_span_of :=
  fn_d F sc_span_of len fun cdv A outer s H E hr => ⟨rd_span_of, (have nd := sc_span_of.nd
  (jss_cons
  (js_par 2 3 rfl nd rfl rfl (by decide) rfl rfl (ja_cons (je_f G_worth_of hr (ja_cons (je_var 0) (ja_cons (je_var 1) ja_nil))) (ja_cons (je_f G_tail_of hr (ja_cons (je_var 0) (ja_cons (je_var 1) ja_nil))) ja_nil)) (by rfl)) (jss_one
  (js_ret (je_tup (ja_cons (je_f G_minus hr (ja_cons (je_var 2) (ja_cons (je_var 3) ja_nil))) (ja_cons (je_f G_plus hr (ja_cons (je_var 2) (ja_cons (je_var 3) ja_nil))) ja_nil))))))), fun ds S P h => match ds, len ds S P h, h with
  | [x0, x1], _, h => vc x0 x1 S P h⟩
theorem ok_cut_of {f : Addr} {fd : FuncData} (F : Fun K "cut_of" "cut_of" s_cut_of f fd) (T : Tx w K mg) (vc : goal_cut_of) (len : ∀ ds S P, sp_cut_of ds S P → ds.length = 2)
     : FnD P w K mg base 1 f fd ["row", "place"] sp_cut_of :=
  fn_d F sc_cut_of len fun cdv A outer s H E hr => ⟨rd_cut_of, (have nd := sc_cut_of.nd
  (jss_cons
  (js_asg (je_var 0) (jg_tup rfl (jgs_cons (jg_name 2 nd rfl (by first | exact Or.inl rfl | exact Or.inr rfl)) (jgs_cons (jg_name 3 nd rfl (by first | exact Or.inl rfl | exact Or.inr rfl)) (jgs_cons (jg_name 4 nd rfl (by first | exact Or.inl rfl | exact Or.inr rfl)) jgs_nil))))) (jss_one
  (js_ret (je_tup (ja_cons (je_var 2) (ja_cons (je_var 3) (ja_cons (je_sl (je_var 4) jo_none (jo_some (je_max2 T.n_max (ja_cons je_int (ja_cons (je_add (je_var 1) (je_var 2)) ja_nil))))) ja_nil)))))))), fun ds S P h => match ds, len ds S P h, h with
  | [x0, x1], _, h => vc x0 x1 S P h⟩
theorem ok_order_of {f : Addr} {fd : FuncData} (F : Fun K "order_of" "order_of" s_order_of f fd) (T : Tx w K mg) (vc : goal_order_of) (len : ∀ ds S P, sp_order_of ds S P → ds.length = 3)
    {f_span_of : Addr} {fd_span_of : FuncData} (G_span_of : Does P w K mg base 5 "span_of" ["base", "row"] f_span_of fd_span_of sp_span_of)
    {f_is_below : Addr} {fd_is_below : FuncData} (G_is_below : Does P w K mg base 1 "is_below" ["one", "other"] f_is_below fd_is_below sp_is_below) : FnD P w K mg base 6 f fd ["base", "one", "other"] sp_order_of :=
  fn_d F sc_order_of len fun cdv A outer s H E hr => ⟨rd_order_of, (have nd := sc_order_of.nd
  (jss_cons
  (js_par 3 4 rfl nd rfl rfl (by decide) rfl rfl (ja_cons (je_f G_span_of hr (ja_cons (je_var 0) (ja_cons (je_var 1) ja_nil))) (ja_cons (je_f G_span_of hr (ja_cons (je_var 0) (ja_cons (je_var 2) ja_nil))) ja_nil)) (by rfl)) (jss_cons
  (js_if (jt_val (je_f G_is_below hr (ja_cons (je_ix (je_var 4) je_int) (ja_cons (je_ix (je_var 3) je_int) ja_nil)))) (jss_one
  (js_ret (je_cI T.c_ABOVE))) jss_nil) (jss_one
  (js_ret (je_ifE (jt_val (je_f G_is_below hr (ja_cons (je_ix (je_var 3) je_int) (ja_cons (je_ix (je_var 4) je_int) ja_nil)))) (je_cI T.c_BELOW) je_non)))))), fun ds S P h => match ds, len ds S P h, h with
  | [x0, x1, x2], _, h => vc x0 x1 x2 S P h⟩
theorem ok_paired {f : Addr} {fd : FuncData} (F : Fun K "paired" "paired" s_paired f fd) (T : Tx w K mg) (vc : goal_paired) (len : ∀ ds S P, sp_paired ds S P → ds.length = 2)
     : FnD P w K mg base 1 f fd ["base", "row"] sp_paired :=
  fn_d F sc_paired len fun cdv A outer s H E hr => ⟨rd_paired, (have nd := sc_paired.nd
  (jss_cons
  (js_asg (je_var 1) (jg_tup rfl (jgs_cons (jg_name 2 nd rfl (by first | exact Or.inl rfl | exact Or.inr rfl)) (jgs_cons (jg_name 3 nd rfl (by first | exact Or.inl rfl | exact Or.inr rfl)) (jgs_cons (jg_name 4 nd rfl (by first | exact Or.inl rfl | exact Or.inr rfl)) jgs_nil))))) (jss_cons
  (js_setLc 5 [("one", 6), ("other", 7)] rfl nd rfl rfl (sw_true rfl rfl rfl (by decide +kernel)) (ji_zip T.n_zip (ja_cons (je_ev (je_var 4) jo_none) (ja_cons (je_ev (je_var 4) (jo_some je_int)) ja_nil))) (blkOk_by (N := ["base", "row", "begin", "most", "figures", "pairs", "one", "other"]) (sc := defScope s_paired) (by decide +kernel)) (by decide) (fun _ _ _ _ _ => (jg_tup rfl (jgs_cons (jg_name 6 nd rfl (by first | exact Or.inl rfl | exact Or.inr rfl)) (jgs_cons (jg_name 7 nd rfl (by first | exact Or.inl rfl | exact Or.inr rfl)) jgs_nil)))) (fun _ _ _ _ _ => jts_nil) (fun _ _ _ _ _ => (je_add (je_mul (je_var 0) (je_var 6)) (je_var 7)))) (jss_one
  (js_ret (je_tup (ja_cons (je_mul (je_var 0) (je_var 0)) (ja_cons (je_tup (ja_cons (je_fdiv (je_var 2) je_int) (ja_cons (je_add (je_mul (je_var 0) (je_var 3)) (je_var 3)) (ja_cons (je_tupC T.n_tuple (ja_cons (je_var 5) ja_nil)) ja_nil)))) ja_nil)))))))), fun ds S P h => match ds, len ds S P h, h with
  | [x0, x1], _, h => vc x0 x1 S P h⟩
theorem ok_many_of {f : Addr} {fd : FuncData} (F : Fun K "many_of" "many_of" s_many_of f fd) (T : Tx w K mg) (vc : goal_many_of) (len : ∀ ds S P, sp_many_of ds S P → ds.length = 1)
     : FnD P w K mg base 1 f fd ["kind"] sp_many_of :=
  fn_d F sc_many_of len fun cdv A outer s H E hr => ⟨rd_many_of, (have nd := sc_many_of.nd
  (jss_cons
  (js_set 1 nd rfl (by first | exact Or.inl rfl | exact Or.inr rfl) (je_ix (je_var 0) je_int)) (jss_cons
  (js_if (jt_in (je_var 1) (je_tup (ja_cons je_str (ja_cons je_str ja_nil)))) (jss_one
  (js_ret (je_len T.n_len (ja_cons (je_ix (je_var 0) je_int) ja_nil)))) jss_nil) (jss_one
  (js_ret (je_kget T.c_BARE_KINDS (je_var 1) (je_dispGet [("moved", 1), ("over", 2)] hr (pps_cons pe_str pe_int (pps_cons pe_str pe_int pps_nil)) (je_var 1) je_int ⟨rfl, rfl, rfl, rfl⟩ (by decide +kernel)) ⟨rfl, rfl, rfl, rfl⟩)))))), fun ds S P h => match ds, len ds S P h, h with
  | [x0], _, h => vc x0 S P h⟩
theorem ok_chooses {f : Addr} {fd : FuncData} (F : Fun K "chooses" "chooses" s_chooses f fd) (T : Tx w K mg) (vc : goal_chooses) (len : ∀ ds S P, sp_chooses ds S P → ds.length = 1)
     : FnD P w K mg base 1 f fd ["kind"] sp_chooses :=
  fn_d F sc_chooses len fun cdv A outer s H E hr => ⟨rd_chooses, (have nd := sc_chooses.nd
  (jss_one
  (js_ret (je_notin (je_ix (je_var 0) je_int) (je_cT T.c_GIVEN fun _ => (RepL.cons (by simp only [Rep]) (RepL.cons (by simp only [Rep]) RepL.nil))))))), fun ds S P h => match ds, len ds S P h, h with
  | [x0], _, h => vc x0 S P h⟩
theorem ok_weighed {f : Addr} {fd : FuncData} (F : Fun K "weighed" "weighed" s_weighed f fd) (T : Tx w K mg) (vc : goal_weighed) (len : ∀ ds S P, sp_weighed ds S P → ds.length = 3)
    {f_plus : Addr} {fd_plus : FuncData} (G_plus : Does P w K mg base 3 "plus" ["one", "other"] f_plus fd_plus sp_plus)
    {f_times : Addr} {fd_times : FuncData} (G_times : Does P w K mg base 3 "times" ["one", "other"] f_times fd_times sp_times)
    {f_over : Addr} {fd_over : FuncData} (G_over : Does P w K mg base 3 "over" ["one", "other"] f_over fd_over sp_over) : FnD P w K mg base 4 f fd ["weights", "numbers", "by"] sp_weighed :=
  fn_d F sc_weighed len fun cdv A outer s H E hr => ⟨rd_weighed, (have nd := sc_weighed.nd
  (jss_cons
  (js_set 3 nd rfl (by first | exact Or.inl rfl | exact Or.inr rfl) (je_cT T.c_NOUGHT fun _ => (RepL.cons rep_int (RepL.cons rep_int RepL.nil)))) (jss_cons
  (js_for PassesOwn.never rfl (ji_zipS T.n_zip (ja_cons (je_var 0) (ja_cons (je_var 1) ja_nil))) (jg_tup rfl (jgs_cons (jg_name 4 nd rfl (by first | exact Or.inl rfl | exact Or.inr rfl)) (jgs_cons (jg_name 5 nd rfl (by first | exact Or.inl rfl | exact Or.inr rfl)) jgs_nil))) (jss_one
  (js_set 3 nd rfl (by first | exact Or.inl rfl | exact Or.inr rfl) (je_f G_plus hr (ja_cons (je_var 3) (ja_cons (je_f G_times hr (ja_cons (je_tup (ja_cons (je_var 4) (ja_cons je_int ja_nil))) (ja_cons (je_var 5) ja_nil))) ja_nil)))))) (jss_one
  (js_ret (je_f G_over hr (ja_cons (je_var 3) (ja_cons (je_tup (ja_cons (je_var 2) (ja_cons je_int ja_nil))) ja_nil)))))))), fun ds S P h => match ds, len ds S P h, h with
  | [x0, x1, x2], _, h => vc x0 x1 x2 S P h⟩
theorem ok_applied {f : Addr} {fd : FuncData} (F : Fun K "applied" "applied" s_applied f fd) (T : Tx w K mg) (vc : goal_applied) (len : ∀ ds S P, sp_applied ds S P → ds.length = 3)
    {f_weighed : Addr} {fd_weighed : FuncData} (G_weighed : Does P w K mg base 4 "weighed" ["weights", "numbers", "by"] f_weighed fd_weighed sp_weighed)
    {f_times : Addr} {fd_times : FuncData} (G_times : Does P w K mg base 3 "times" ["one", "other"] f_times fd_times sp_times)
    {f_power : Addr} {fd_power : FuncData} (G_power : Does P w K mg base 1 "power" ["base", "many"] f_power fd_power sp_power)
    {f_over : Addr} {fd_over : FuncData} (G_over : Does P w K mg base 3 "over" ["one", "other"] f_over fd_over sp_over)
    {f_greater : Addr} {fd_greater : FuncData} (G_greater : Does P w K mg base 2 "greater" ["one", "other"] f_greater fd_greater sp_greater)
    {f_lesser : Addr} {fd_lesser : FuncData} (G_lesser : Does P w K mg base 2 "lesser" ["one", "other"] f_lesser fd_lesser sp_lesser) : FnD P w K mg base 5 f fd ["base", "kind", "numbers"] sp_applied :=
  fn_d F sc_applied len fun cdv A outer s H E hr => ⟨rd_applied, (have nd := sc_applied.nd
  (jss_cons
  (js_set 3 nd rfl (by first | exact Or.inl rfl | exact Or.inr rfl) (je_ix (je_var 1) je_int)) (jss_cons
  (js_if (jt_eq hr (je_var 3) je_str) (jss_one
  (js_ret (je_f G_weighed hr (ja_cons (je_ix (je_var 1) je_int) (ja_cons (je_var 2) (ja_cons (je_ix (je_var 1) je_int) ja_nil)))))) jss_nil) (jss_cons
  (js_if (jt_eq hr (je_var 3) je_str) (jss_one
  (js_ret (je_f G_weighed hr (ja_cons (je_ix (je_var 1) je_int) (ja_cons (je_var 2) (ja_cons je_int ja_nil)))))) jss_nil) (jss_cons
  (js_if (jt_eq hr (je_var 3) je_str) (jss_one
  (js_ret (je_f G_times hr (ja_cons (je_ix (je_var 2) je_int) (ja_cons (je_f G_power hr (ja_cons (je_var 0) (ja_cons (je_ix (je_var 1) je_int) ja_nil))) ja_nil))))) jss_nil) (jss_cons
  (js_if (jt_eq hr (je_var 3) je_str) (jss_one
  (js_ret (je_ix (je_var 1) je_int))) jss_nil) (jss_cons
  (js_if (jt_eq hr (je_var 3) je_str) (jss_one
  (js_ret (je_ifE (jt_lt (je_ix (je_ix (je_var 2) je_int) je_int) je_int) (je_ix (je_var 2) je_int) (je_ix (je_var 2) je_int)))) jss_nil) (jss_cons
  (js_asg (je_var 2) (jg_tup rfl (jgs_cons (jg_name 4 nd rfl (by first | exact Or.inl rfl | exact Or.inr rfl)) (jgs_cons (jg_name 5 nd rfl (by first | exact Or.inl rfl | exact Or.inr rfl)) jgs_nil)))) (jss_cons
  (js_if (jt_eq hr (je_var 3) je_str) (jss_one
  (js_ret (je_f G_times hr (ja_cons (je_var 4) (ja_cons (je_var 5) ja_nil))))) jss_nil) (jss_cons
  (js_if (jt_eq hr (je_var 3) je_str) (jss_one
  (js_ret (je_f G_over hr (ja_cons (je_var 4) (ja_cons (je_f G_greater hr (ja_cons (je_var 5) (ja_cons (je_f G_power hr (ja_cons (je_var 0) (ja_cons (je_neg (je_ix (je_var 1) je_int)) ja_nil))) ja_nil))) ja_nil))))) jss_nil) (jss_one
  (js_ret (je_ifE (jt_eq hr (je_var 3) je_str) (je_f G_lesser hr (ja_cons (je_var 4) (ja_cons (je_var 5) ja_nil))) (je_f G_greater hr (ja_cons (je_var 4) (ja_cons (je_var 5) ja_nil)))))))))))))))), fun ds S P h => match ds, len ds S P h, h with
  | [x0, x1, x2], _, h => vc x0 x1 x2 S P h⟩
theorem ok_corners_of {f : Addr} {fd : FuncData} (F : Fun K "corners_of" "corners_of" s_corners_of f fd) (T : Tx w K mg) (vc : goal_corners_of) (len : ∀ ds S P, sp_corners_of ds S P → ds.length = 1)
     : FnD P w K mg base 1 f fd ["many"] sp_corners_of :=
  fn_d F sc_corners_of len fun cdv A outer s H E hr => ⟨rd_corners_of, (have nd := sc_corners_of.nd
  (jss_cons
  (js_set 1 nd rfl (by first | exact Or.inl rfl | exact Or.inr rfl) (je_lst (ja_cons (je_tup ja_nil) ja_nil))) (jss_cons
  (js_for PassesOwn.never rfl (ji_range1 T.n_range (ja_cons (je_var 0) ja_nil)) (jg_name 2 nd rfl (by first | exact Or.inl rfl | exact Or.inr rfl)) (jss_one
  (js_setLc2 1 [("one", 3), ("end", 4)] (by decide) nd rfl rfl (sw_true rfl rfl rfl (by decide +kernel)) (ji_seq (je_var 1)) (blkOk_by (N := ["many", "found", "turn", "one", "end"]) (sc := defScope s_corners_of) (by decide +kernel)) rfl (fun _ _ _ _ _ => (jg_name 3 nd rfl (by first | exact Or.inl rfl | exact Or.inr rfl))) (fun _ _ _ _ _ => jts_nil) (fun _ _ _ _ _ => (ji_seq (je_tup (ja_cons je_int (ja_cons je_int ja_nil))))) (fun _ _ _ _ _ => (jg_name 4 nd rfl (by first | exact Or.inl rfl | exact Or.inr rfl))) (fun _ _ _ _ _ => jts_nil) (fun _ _ _ _ _ => (je_add (je_var 3) (je_tup (ja_cons (je_var 4) ja_nil))))))) (jss_one
  (js_ret (je_var 1)))))), fun ds S P h => match ds, len ds S P h, h with
  | [x0], _, h => vc x0 S P h⟩
theorem ok_numbers_at {f : Addr} {fd : FuncData} (F : Fun K "numbers_at" "numbers_at" s_numbers_at f fd) (T : Tx w K mg) (vc : goal_numbers_at) (len : ∀ ds S P, sp_numbers_at ds S P → ds.length = 2)
     : FnD P w K mg base 1 f fd ["spans", "ends"] sp_numbers_at :=
  fn_d F sc_numbers_at len fun cdv A outer s H E hr => ⟨rd_numbers_at, (have nd := sc_numbers_at.nd
  (jss_one
  (js_ret (je_lc [("span", 2), ("end", 3)] rfl nd (ji_zipS T.n_zip (ja_cons (je_var 0) (ja_cons (je_var 1) ja_nil))) (blkOk_by (N := ["spans", "ends", "span", "end"]) (sc := defScope s_numbers_at) (by decide +kernel)) (by decide) (fun _ _ _ _ _ => (jg_tup rfl (jgs_cons (jg_name 2 nd rfl (by first | exact Or.inl rfl | exact Or.inr rfl)) (jgs_cons (jg_name 3 nd rfl (by first | exact Or.inl rfl | exact Or.inr rfl)) jgs_nil)))) (fun _ _ _ _ _ => jts_nil) (fun _ _ _ _ _ => (je_ix (je_var 2) (je_var 3))))))), fun ds S P h => match ds, len ds S P h, h with
  | [x0, x1], _, h => vc x0 x1 S P h⟩
theorem ok_reach_of {f : Addr} {fd : FuncData} (F : Fun K "reach_of" "reach_of" s_reach_of f fd) (T : Tx w K mg) (vc : goal_reach_of) (len : ∀ ds S P, sp_reach_of ds S P → ds.length = 3)
    {f_span_of : Addr} {fd_span_of : FuncData} (G_span_of : Does P w K mg base 5 "span_of" ["base", "row"] f_span_of fd_span_of sp_span_of)
    {f_corners_of : Addr} {fd_corners_of : FuncData} (G_corners_of : Does P w K mg base 1 "corners_of" ["many"] f_corners_of fd_corners_of sp_corners_of)
    {f_applied : Addr} {fd_applied : FuncData} (G_applied : Does P w K mg base 5 "applied" ["base", "kind", "numbers"] f_applied fd_applied sp_applied)
    {f_numbers_at : Addr} {fd_numbers_at : FuncData} (G_numbers_at : Does P w K mg base 1 "numbers_at" ["spans", "ends"] f_numbers_at fd_numbers_at sp_numbers_at)
    {f_lesser : Addr} {fd_lesser : FuncData} (G_lesser : Does P w K mg base 2 "lesser" ["one", "other"] f_lesser fd_lesser sp_lesser)
    {f_greater : Addr} {fd_greater : FuncData} (G_greater : Does P w K mg base 2 "greater" ["one", "other"] f_greater fd_greater sp_greater) : FnD P w K mg base 6 f fd ["base", "kind", "rows"] sp_reach_of :=
  fn_d F sc_reach_of len fun cdv A outer s H E hr => ⟨rd_reach_of, (have nd := sc_reach_of.nd
  (jss_cons
  (js_set 3 nd rfl (by first | exact Or.inl rfl | exact Or.inr rfl) (je_lc [("row", 4)] rfl nd (ji_seq (je_var 2)) (blkOk_by (N := ["base", "kind", "rows", "spans", "row", "some", "ends", "least", "most", "one"]) (sc := defScope s_reach_of) (by decide +kernel)) (by decide) (fun _ _ _ _ _ => (jg_name 4 nd rfl (by first | exact Or.inl rfl | exact Or.inr rfl))) (fun _ _ _ _ _ => jts_nil) (fun _ _ _ _ _ => (je_f G_span_of hr (ja_cons (je_var 0) (ja_cons (je_var 4) ja_nil)))))) (jss_cons
  (js_setLc 5 [("ends", 6)] rfl nd rfl rfl (sw_true rfl rfl rfl (by decide +kernel)) (ji_seq (je_f G_corners_of hr (ja_cons (je_len T.n_len (ja_cons (je_var 3) ja_nil)) ja_nil))) (blkOk_by (N := ["base", "kind", "rows", "spans", "row", "some", "ends", "least", "most", "one"]) (sc := defScope s_reach_of) (by decide +kernel)) (by decide) (fun _ _ _ _ _ => (jg_name 6 nd rfl (by first | exact Or.inl rfl | exact Or.inr rfl))) (fun _ _ _ _ _ => jts_nil) (fun _ _ _ _ _ => (je_f G_applied hr (ja_cons (je_var 0) (ja_cons (je_var 1) (ja_cons (je_f G_numbers_at hr (ja_cons (je_var 3) (ja_cons (je_var 6) ja_nil))) ja_nil)))))) (jss_cons
  (js_par 7 8 rfl nd rfl rfl (by decide) rfl rfl (ja_cons (je_ix (je_var 5) je_int) (ja_cons (je_ix (je_var 5) je_int) ja_nil)) (by rfl)) (jss_cons
  (js_for PassesOwn.never rfl (ji_seq (je_var 5)) (jg_name 9 nd rfl (by first | exact Or.inl rfl | exact Or.inr rfl)) (jss_one
  (js_par 7 8 rfl nd rfl rfl (by decide) rfl rfl (ja_cons (je_f G_lesser hr (ja_cons (je_var 7) (ja_cons (je_var 9) ja_nil))) (ja_cons (je_f G_greater hr (ja_cons (je_var 8) (ja_cons (je_var 9) ja_nil))) ja_nil)) (by rfl)))) (jss_one
  (js_ret (je_tup (ja_cons (je_var 7) (ja_cons (je_var 8) ja_nil)))))))))), fun ds S P h => match ds, len ds S P h, h with
  | [x0, x1, x2], _, h => vc x0 x1 x2 S P h⟩
theorem ok_raised {f : Addr} {fd : FuncData} (F : Fun K "raised" "raised" s_raised f fd) (T : Tx w K mg) (vc : goal_raised) (len : ∀ ds S P, sp_raised ds S P → ds.length = 1)
     : FnD P w K mg base 1 f fd ["number"] sp_raised :=
  fn_d F sc_raised len fun cdv A outer s H E hr => ⟨rd_raised, (have nd := sc_raised.nd
  (jss_one
  (js_ret (je_neg (je_fdiv (je_neg (je_ix (je_var 0) je_int)) (je_ix (je_var 0) je_int)))))), fun ds S P h => match ds, len ds S P h, h with
  | [x0], _, h => vc x0 S P h⟩
theorem ok_figures_between {f : Addr} {fd : FuncData} (F : Fun K "figures_between" "figures_between" s_figures_between f fd) (T : Tx w K mg) (vc : goal_figures_between) (len : ∀ ds S P, sp_figures_between ds S P → ds.length = 4)
    {f_power : Addr} {fd_power : FuncData} (G_power : Does P w K mg base 1 "power" ["base", "many"] f_power fd_power sp_power)
    {f_known_to : Addr} {fd_known_to : FuncData} (G_known_to : Does P w K mg base 1 "known_to" ["row"] f_known_to fd_known_to sp_known_to)
    {f_frac : Addr} {fd_frac : FuncData} (G_frac : Does P w K mg base 2 "frac" ["top", "bottom"] f_frac fd_frac sp_frac)
    {f_worth_of : Addr} {fd_worth_of : FuncData} (G_worth_of : Does P w K mg base 4 "worth_of" ["base", "row"] f_worth_of fd_worth_of sp_worth_of)
    {f_raised : Addr} {fd_raised : FuncData} (G_raised : Does P w K mg base 1 "raised" ["number"] f_raised fd_raised sp_raised)
    {f_minus : Addr} {fd_minus : FuncData} (G_minus : Does P w K mg base 3 "minus" ["one", "other"] f_minus fd_minus sp_minus)
    {f_times : Addr} {fd_times : FuncData} (G_times : Does P w K mg base 3 "times" ["one", "other"] f_times fd_times sp_times)
    {f_plus : Addr} {fd_plus : FuncData} (G_plus : Does P w K mg base 3 "plus" ["one", "other"] f_plus fd_plus sp_plus) : FnD P w K mg base 5 f fd ["base", "own", "least", "most"] sp_figures_between :=
  fn_d F sc_figures_between len fun cdv A outer s H E hr => ⟨rd_figures_between, (have nd := sc_figures_between.nd
  (jss_cons
  (js_asg (je_var 1) (jg_tup rfl (jgs_cons (jg_name 4 nd rfl (by first | exact Or.inl rfl | exact Or.inr rfl)) (jgs_cons (jg_name 5 nd rfl (by first | exact Or.inl rfl | exact Or.inr rfl)) (jgs_cons (jg_name 6 nd rfl (by first | exact Or.inl rfl | exact Or.inr rfl)) jgs_nil))))) (jss_cons
  (js_set 7 nd rfl (by first | exact Or.inl rfl | exact Or.inr rfl) (je_f G_power hr (ja_cons (je_var 0) (ja_cons (je_add (je_f G_known_to hr (ja_cons (je_var 1) ja_nil)) je_int) ja_nil)))) (jss_cons
  (js_par 8 9 rfl nd rfl rfl (by decide) rfl rfl (ja_cons (je_f G_frac hr (ja_cons (je_var 5) (ja_cons (je_sub (je_var 0) je_int) ja_nil))) (ja_cons (je_f G_worth_of hr (ja_cons (je_var 0) (ja_cons (je_var 1) ja_nil))) ja_nil)) (by rfl)) (jss_cons
  (js_set 10 nd rfl (by first | exact Or.inl rfl | exact Or.inr rfl) (je_f G_raised hr (ja_cons (je_f G_minus hr (ja_cons (je_f G_times hr (ja_cons (je_f G_minus hr (ja_cons (je_var 3) (ja_cons (je_var 9) ja_nil))) (ja_cons (je_var 7) ja_nil))) (ja_cons (je_var 8) ja_nil))) ja_nil))) (jss_cons
  (js_set 11 nd rfl (by first | exact Or.inl rfl | exact Or.inr rfl) (je_f G_plus hr (ja_cons (je_f G_times hr (ja_cons (je_f G_minus hr (ja_cons (je_var 2) (ja_cons (je_var 9) ja_nil))) (ja_cons (je_var 7) ja_nil))) (ja_cons (je_var 8) ja_nil)))) (jss_one
  (js_ret (je_listR2 T.n_list T.n_range (je_max2 T.n_max (ja_cons (je_var 10) (ja_cons (je_neg (je_var 5)) ja_nil))) (je_add (je_min2 T.n_min (ja_cons (je_fdiv (je_ix (je_var 11) je_int) (je_ix (je_var 11) je_int)) (ja_cons (je_var 5) ja_nil))) je_int)))))))))), fun ds S P h => match ds, len ds S P h, h with
  | [x0, x1, x2, x3], _, h => vc x0 x1 x2 x3 S P h⟩
theorem ok_right_figures {f : Addr} {fd : FuncData} (F : Fun K "right_figures" "right_figures" s_right_figures f fd) (T : Tx w K mg) (vc : goal_right_figures) (len : ∀ ds S P, sp_right_figures ds S P → ds.length = 4)
    {f_reach_of : Addr} {fd_reach_of : FuncData} (G_reach_of : Does P w K mg base 6 "reach_of" ["base", "kind", "rows"] f_reach_of fd_reach_of sp_reach_of)
    {f_figures_between : Addr} {fd_figures_between : FuncData} (G_figures_between : Does P w K mg base 5 "figures_between" ["base", "own", "least", "most"] f_figures_between fd_figures_between sp_figures_between) : FnD P w K mg base 7 f fd ["base", "kind", "rows", "own"] sp_right_figures :=
  fn_d F sc_right_figures len fun cdv A outer s H E hr => ⟨rd_right_figures, (have nd := sc_right_figures.nd
  (jss_cons
  (js_asg (je_f G_reach_of hr (ja_cons (je_var 0) (ja_cons (je_var 1) (ja_cons (je_var 2) ja_nil)))) (jg_tup rfl (jgs_cons (jg_name 4 nd rfl (by first | exact Or.inl rfl | exact Or.inr rfl)) (jgs_cons (jg_name 5 nd rfl (by first | exact Or.inl rfl | exact Or.inr rfl)) jgs_nil)))) (jss_one
  (js_ret (je_f G_figures_between hr (ja_cons (je_var 0) (ja_cons (je_var 3) (ja_cons (je_var 4) (ja_cons (je_var 5) ja_nil))))))))), fun ds S P h => match ds, len ds S P h, h with
  | [x0, x1, x2, x3], _, h => vc x0 x1 x2 x3 S P h⟩
theorem ok_size_of {f : Addr} {fd : FuncData} (F : Fun K "size_of" "size_of" s_size_of f fd) (T : Tx w K mg) (vc : goal_size_of) (len : ∀ ds S P, sp_size_of ds S P → ds.length = 1)
     : FnD P w K mg base 1 f fd ["figure"] sp_size_of :=
  fn_d F sc_size_of len fun cdv A outer s H E hr => ⟨rd_size_of, (have nd := sc_size_of.nd
  (jss_one
  (js_ret (je_abs T.n_abs (ja_cons (je_var 0) ja_nil))))), fun ds S P h => match ds, len ds S P h, h with
  | [x0], _, h => vc x0 S P h⟩
theorem ok_first_read {f : Addr} {fd : FuncData} (F : Fun K "first_read" "first_read" s_first_read f fd) (T : Tx w K mg) (vc : goal_first_read) (len : ∀ ds S P, sp_first_read ds S P → ds.length = 1)
     : FnD P w K mg base 1 f fd ["rows"] sp_first_read :=
  fn_d F sc_first_read len fun cdv A outer s H E hr => ⟨rd_first_read, (have nd := sc_first_read.nd
  (jss_one
  (js_ret (je_ifE (jt_eq hr (je_len T.n_len (ja_cons (je_var 0) ja_nil)) je_int) je_non (je_sub je_int (je_maxL T.n_max (ja_cons (je_lc [("row", 1)] rfl nd (ji_seq (je_var 0)) (blkOk_by (N := ["rows", "row"]) (sc := defScope s_first_read) (by decide +kernel)) (by decide) (fun _ _ _ _ _ => (jg_name 1 nd rfl (by first | exact Or.inl rfl | exact Or.inr rfl))) (fun _ _ _ _ _ => jts_nil) (fun _ _ _ _ _ => (je_ix (je_var 1) je_int))) ja_nil))))))), fun ds S P h => match ds, len ds S P h, h with
  | [x0], _, h => vc x0 S P h⟩
theorem ok_figure_at {f : Addr} {fd : FuncData} (F : Fun K "figure_at" "figure_at" s_figure_at f fd) (T : Tx w K mg) (vc : goal_figure_at) (len : ∀ ds S P, sp_figure_at ds S P → ds.length = 2)
     : FnD P w K mg base 1 f fd ["row", "place"] sp_figure_at :=
  fn_d F sc_figure_at len fun cdv A outer s H E hr => ⟨rd_figure_at, (have nd := sc_figure_at.nd
  (jss_cons
  (js_asg (je_var 0) (jg_tup rfl (jgs_cons (jg_name 2 nd rfl (by first | exact Or.inl rfl | exact Or.inr rfl)) (jgs_cons (jg_name 3 nd rfl (by first | exact Or.inl rfl | exact Or.inr rfl)) (jgs_cons (jg_name 4 nd rfl (by first | exact Or.inl rfl | exact Or.inr rfl)) jgs_nil))))) (jss_one
  (js_ret (je_ifE (jt_gt (je_add (je_var 1) (je_var 2)) je_int) (je_ix (je_var 4) (je_sub (je_add (je_var 1) (je_var 2)) je_int)) je_int))))), fun ds S P h => match ds, len ds S P h, h with
  | [x0, x1], _, h => vc x0 x1 S P h⟩
theorem ok_Machine_init {f : Addr} {fd : FuncData} (F : Fun K "__init__" "Machine.__init__" s_Machine_init f fd) (T : Tx w K mg) (vc : goal_Machine_init) (len : ∀ ds S P, sp_Machine_init ds S P → ds.length = 6)
    {f_first_read : Addr} {fd_first_read : FuncData} (G_first_read : Does P w K mg base 1 "first_read" ["rows"] f_first_read fd_first_read sp_first_read) : FnD P w K mg base 2 f fd ["self", "base", "kind", "rows", "begin", "most"] sp_Machine_init :=
  fn_d F sc_Machine_init len fun cdv A outer s H E hr => ⟨rd_Machine_init, (have nd := sc_Machine_init.nd
  (jss_cons
  (js_fld2 0 T.k_Machine T.a_Machine_own_base T.a_Machine_own_kind (pv 0) (pv 0) rfl (je_var 1) (je_var 2)) (jss_cons
  (js_fld2 0 T.k_Machine T.a_Machine_own_begin T.a_Machine_own_most (pv 0) (pv 0) rfl (je_var 4) (je_var 5)) (jss_cons
  (js_fld T.k_Machine T.a_Machine_own_figures (je_var 0) (je_lstM ja_nil)) (jss_one
  (js_fld T.k_Machine T.a_Machine_own_read (je_var 0) (je_f G_first_read hr (ja_cons (je_var 3) ja_nil)))))))), fun ds S P h => match ds, len ds S P h, h with
  | [x0, x1, x2, x3, x4, x5], _, h => vc x0 x1 x2 x3 x4 x5 S P h⟩
theorem ok_Machine_row {f : Addr} {fd : FuncData} (F : Fun K "row" "Machine.row" s_Machine_row f fd) (T : Tx w K mg) (vc : goal_Machine_row) (len : ∀ ds S P, sp_Machine_row ds S P → ds.length = 1)
     : FnD P w K mg base 1 f fd ["self"] sp_Machine_row :=
  fn_d F sc_Machine_row len fun cdv A outer s H E hr => ⟨rd_Machine_row, (have nd := sc_Machine_row.nd
  (jss_one
  (js_ret (je_tup (ja_cons (je_fld T.k_Machine T.a_Machine_own_begin (je_var 0)) (ja_cons (je_fld T.k_Machine T.a_Machine_own_most (je_var 0)) (ja_cons (je_tupC T.n_tuple (ja_cons (je_fld T.k_Machine T.a_Machine_own_figures (je_var 0)) ja_nil)) ja_nil))))))), fun ds S P h => match ds, len ds S P h, h with
  | [x0], _, h => vc x0 S P h⟩
theorem ok_Machine_next_place {f : Addr} {fd : FuncData} (F : Fun K "next_place" "Machine.next_place" s_Machine_next_place f fd) (T : Tx w K mg) (vc : goal_Machine_next_place) (len : ∀ ds S P, sp_Machine_next_place ds S P → ds.length = 1)
     : FnD P w K mg base 1 f fd ["self"] sp_Machine_next_place :=
  fn_d F sc_Machine_next_place len fun cdv A outer s H E hr => ⟨rd_Machine_next_place, (have nd := sc_Machine_next_place.nd
  (jss_one
  (js_ret (je_sub (je_add (je_len T.n_len (ja_cons (je_fld T.k_Machine T.a_Machine_own_figures (je_var 0)) ja_nil)) je_int) (je_fld T.k_Machine T.a_Machine_own_begin (je_var 0)))))), fun ds S P h => match ds, len ds S P h, h with
  | [x0], _, h => vc x0 S P h⟩
theorem ok_Machine_seen {f : Addr} {fd : FuncData} (F : Fun K "seen" "Machine.seen" s_Machine_seen f fd) (T : Tx w K mg) (vc : goal_Machine_seen) (len : ∀ ds S P, sp_Machine_seen ds S P → ds.length = 2)
    {f_cut_of : Addr} {fd_cut_of : FuncData} (G_cut_of : Does P w K mg base 1 "cut_of" ["row", "place"] f_cut_of fd_cut_of sp_cut_of) : FnD P w K mg base 2 f fd ["self", "rows"] sp_Machine_seen :=
  fn_d F sc_Machine_seen len fun cdv A outer s H E hr => ⟨rd_Machine_seen, (have nd := sc_Machine_seen.nd
  (jss_one
  (js_ret (je_lc [("row", 2)] rfl nd (ji_seq (je_var 1)) (blkOk_by (N := ["self", "rows", "row"]) (sc := defScope s_Machine_seen) (by decide +kernel)) (by decide) (fun _ _ _ _ _ => (jg_name 2 nd rfl (by first | exact Or.inl rfl | exact Or.inr rfl))) (fun _ _ _ _ _ => jts_nil) (fun _ _ _ _ _ => (je_f G_cut_of hr (ja_cons (je_var 2) (ja_cons (je_fld T.k_Machine T.a_Machine_own_read (je_var 0)) ja_nil)))))))), fun ds S P h => match ds, len ds S P h, h with
  | [x0, x1], _, h => vc x0 x1 S P h⟩
theorem ok_Machine_has_next {f : Addr} {fd : FuncData} (F : Fun K "has_next" "Machine.has_next" s_Machine_has_next f fd) (T : Tx w K mg) (vc : goal_Machine_has_next) (len : ∀ ds S P, sp_Machine_has_next ds S P → ds.length = 2)
    {f_known_to : Addr} {fd_known_to : FuncData} (G_known_to : Does P w K mg base 1 "known_to" ["row"] f_known_to fd_known_to sp_known_to) : FnD P w K mg base 2 f fd ["self", "rows"] sp_Machine_has_next :=
  fn_d F sc_Machine_has_next len fun cdv A outer s H E hr => ⟨rd_Machine_has_next, (have nd := sc_Machine_has_next.nd
  (jss_one
  (js_ret (je_and (je_notN (je_fld T.k_Machine T.a_Machine_own_read (je_var 0)) je_non) (je_one (je_all T.n_all (ja_cons (je_lc [("row", 2)] rfl nd (ji_seq (je_var 1)) (blkOk_by (N := ["self", "rows", "row"]) (sc := defScope s_Machine_has_next) (by decide +kernel)) (by decide) (fun _ _ _ _ _ => (jg_name 2 nd rfl (by first | exact Or.inl rfl | exact Or.inr rfl))) (fun _ _ _ _ _ => jts_nil) (fun _ _ _ _ _ => (je_gt (je_f G_known_to hr (ja_cons (je_var 2) ja_nil)) (je_fld T.k_Machine T.a_Machine_own_read (je_var 0))))) ja_nil))))))), fun ds S P h => match ds, len ds S P h, h with
  | [x0, x1], _, h => vc x0 x1 S P h⟩
theorem ok_Machine_right_one {f : Addr} {fd : FuncData} (F : Fun K "right_one" "Machine.right_one" s_Machine_right_one f fd) (T : Tx w K mg) (vc : goal_Machine_right_one) (len : ∀ ds S P, sp_Machine_right_one ds S P → ds.length = 2)
    {f_right_figures : Addr} {fd_right_figures : FuncData} (G_right_figures : Does P w K mg base 7 "right_figures" ["base", "kind", "rows", "own"] f_right_figures fd_right_figures sp_right_figures)
    {f_Machine_row : Addr} {fd_Machine_row : FuncData} (G_Machine_row : DoesM P w K mg base 1 0 "row" ["self"] f_Machine_row fd_Machine_row sp_Machine_row)
    {f_Machine_seen : Addr} {fd_Machine_seen : FuncData} (G_Machine_seen : DoesM P w K mg base 2 0 "seen" ["self", "rows"] f_Machine_seen fd_Machine_seen sp_Machine_seen)
    {f_size_of : Addr} {fd_size_of : FuncData} (G_size_of : Does P w K mg base 1 "size_of" ["figure"] f_size_of fd_size_of sp_size_of) : FnD P w K mg base 8 f fd ["self", "rows"] sp_Machine_right_one :=
  fn_d F sc_Machine_right_one len fun cdv A outer s H E hr => ⟨rd_Machine_right_one, (have nd := sc_Machine_right_one.nd
  (jss_cons
  (js_set 2 nd rfl (by first | exact Or.inl rfl | exact Or.inr rfl) (je_f G_right_figures hr (ja_cons (je_fld T.k_Machine T.a_Machine_own_base (je_var 0)) (ja_cons (je_fld T.k_Machine T.a_Machine_own_kind (je_var 0)) (ja_cons (je_m G_Machine_seen hr (je_var 0) (ja_cons (je_var 1) ja_nil)) (ja_cons (je_m0 G_Machine_row hr (je_var 0)) ja_nil)))))) (jss_one
  (js_ret (je_ifE (jt_gt (je_len T.n_len (ja_cons (je_var 2) ja_nil)) je_int) (je_minKey T.n_min G_size_of hr (je_var 2)) je_non))))), fun ds S P h => match ds, len ds S P h, h with
  | [x0, x1], _, h => vc x0 x1 S P h⟩
theorem ok_Machine_plain_step {f : Addr} {fd : FuncData} (F : Fun K "plain_step" "Machine.plain_step" s_Machine_plain_step f fd) (T : Tx w K mg) (vc : goal_Machine_plain_step) (len : ∀ ds S P, sp_Machine_plain_step ds S P → ds.length = 3)
    {f_Machine_next_place : Addr} {fd_Machine_next_place : FuncData} (G_Machine_next_place : DoesM P w K mg base 1 0 "next_place" ["self"] f_Machine_next_place fd_Machine_next_place sp_Machine_next_place)
    {f_Machine_has_next : Addr} {fd_Machine_has_next : FuncData} (G_Machine_has_next : DoesM P w K mg base 2 0 "has_next" ["self", "rows"] f_Machine_has_next fd_Machine_has_next sp_Machine_has_next)
    {f_figure_at : Addr} {fd_figure_at : FuncData} (G_figure_at : Does P w K mg base 1 "figure_at" ["row", "place"] f_figure_at fd_figure_at sp_figure_at) : FnD P w K mg base 3 f fd ["self", "rows", "to"] sp_Machine_plain_step :=
  fn_d F sc_Machine_plain_step len fun cdv A outer s H E hr => ⟨rd_Machine_plain_step, (have nd := sc_Machine_plain_step.nd
  (jss_cons
  (js_if (jt_w (jw_or (jt_not (jt_val (je_m G_Machine_has_next hr (je_var 0) (ja_cons (je_var 1) ja_nil)))) (jw_or1 (jt_gt (je_m0 G_Machine_next_place hr (je_var 0)) (je_var 2))))) (jss_one
  (js_ret je_bl)) jss_nil) (jss_cons
  (js_fldAdd T.k_Machine T.a_Machine_own_read (je_var 0) je_int) (jss_cons
  (js_set 3 nd rfl (by first | exact Or.inl rfl | exact Or.inr rfl) (je_ifE (jt_eq hr (je_ix (je_fld T.k_Machine T.a_Machine_own_kind (je_var 0)) je_int) (je_cS T.c_LOOSE)) (je_ix (je_fld T.k_Machine T.a_Machine_own_kind (je_var 0)) je_int) (je_tup (ja_cons je_int ja_nil)))) (jss_cons
  (js_setLc 4 [("sign", 5), ("row", 6)] rfl nd rfl rfl (sw_true rfl rfl rfl (by decide +kernel)) (ji_zipS T.n_zip (ja_cons (je_var 3) (ja_cons (je_var 1) ja_nil))) (blkOk_by (N := ["self", "rows", "to", "signs", "some", "sign", "row"]) (sc := defScope s_Machine_plain_step) (by decide +kernel)) (by decide) (fun _ _ _ _ _ => (jg_tup rfl (jgs_cons (jg_name 5 nd rfl (by first | exact Or.inl rfl | exact Or.inr rfl)) (jgs_cons (jg_name 6 nd rfl (by first | exact Or.inl rfl | exact Or.inr rfl)) jgs_nil)))) (fun _ _ _ _ _ => jts_nil) (fun _ _ _ _ _ => (je_mul (je_var 5) (je_f G_figure_at hr (ja_cons (je_var 6) (ja_cons (je_fld T.k_Machine T.a_Machine_own_read (je_var 0)) ja_nil)))))) (jss_cons
  (js_expr (je_append (je_fld T.k_Machine T.a_Machine_own_figures (je_var 0)) (je_sum T.n_sum (ja_cons (je_var 4) ja_nil)))) (jss_one
  (js_ret je_bl)))))))), fun ds S P h => match ds, len ds S P h, h with
  | [x0, x1, x2], _, h => vc x0 x1 x2 S P h⟩
theorem ok_Machine_step {f : Addr} {fd : FuncData} (F : Fun K "step" "Machine.step" s_Machine_step f fd) (T : Tx w K mg) (vc : goal_Machine_step) (len : ∀ ds S P, sp_Machine_step ds S P → ds.length = 3)
    {f_chooses : Addr} {fd_chooses : FuncData} (G_chooses : Does P w K mg base 1 "chooses" ["kind"] f_chooses fd_chooses sp_chooses)
    {f_Machine_plain_step : Addr} {fd_Machine_plain_step : FuncData} (G_Machine_plain_step : DoesM P w K mg base 3 0 "plain_step" ["self", "rows", "to"] f_Machine_plain_step fd_Machine_plain_step sp_Machine_plain_step)
    {f_Machine_right_one : Addr} {fd_Machine_right_one : FuncData} (G_Machine_right_one : DoesM P w K mg base 8 0 "right_one" ["self", "rows"] f_Machine_right_one fd_Machine_right_one sp_Machine_right_one)
    {f_Machine_next_place : Addr} {fd_Machine_next_place : FuncData} (G_Machine_next_place : DoesM P w K mg base 1 0 "next_place" ["self"] f_Machine_next_place fd_Machine_next_place sp_Machine_next_place)
    {f_Machine_has_next : Addr} {fd_Machine_has_next : FuncData} (G_Machine_has_next : DoesM P w K mg base 2 0 "has_next" ["self", "rows"] f_Machine_has_next fd_Machine_has_next sp_Machine_has_next) : FnD P w K mg base 9 f fd ["self", "rows", "to"] sp_Machine_step :=
  fn_d F sc_Machine_step len fun cdv A outer s H E hr => ⟨rd_Machine_step, (have nd := sc_Machine_step.nd
  (jss_cons
  (js_if (jt_not (jt_val (je_f G_chooses hr (ja_cons (je_fld T.k_Machine T.a_Machine_own_kind (je_var 0)) ja_nil)))) (jss_one
  (js_ret (je_m G_Machine_plain_step hr (je_var 0) (ja_cons (je_var 1) (ja_cons (je_var 2) ja_nil))))) jss_nil) (jss_cons
  (js_set 3 nd rfl (by first | exact Or.inl rfl | exact Or.inr rfl) (je_m G_Machine_right_one hr (je_var 0) (ja_cons (je_var 1) ja_nil))) (jss_cons
  (js_if (jt_notN (je_var 3) je_non) (jss_cons
  (js_if (jt_gt (je_m0 G_Machine_next_place hr (je_var 0)) (je_var 2)) (jss_one
  (js_ret je_bl)) jss_nil) (jss_cons
  (js_expr (je_append (je_fld T.k_Machine T.a_Machine_own_figures (je_var 0)) (je_var 3))) (jss_one
  (js_ret je_bl)))) jss_nil) (jss_cons
  (js_if (jt_not (jt_val (je_m G_Machine_has_next hr (je_var 0) (ja_cons (je_var 1) ja_nil)))) (jss_one
  (js_ret je_bl)) jss_nil) (jss_cons
  (js_fldAdd T.k_Machine T.a_Machine_own_read (je_var 0) je_int) (jss_one
  (js_ret je_bl)))))))), fun ds S P h => match ds, len ds S P h, h with
  | [x0, x1, x2], _, h => vc x0 x1 x2 S P h⟩
theorem ok_steps_of {f : Addr} {fd : FuncData} (F : Fun K "steps_of" "steps_of" s_steps_of f fd) (T : Tx w K mg) (vc : goal_steps_of) (len : ∀ ds S P, sp_steps_of ds S P → ds.length = 6)
    {f_Machine_init : Addr} {fd_Machine_init : FuncData} (G_Machine_init : DoesI P w K mg base 2 0 "Machine" ["self", "base", "kind", "rows", "begin", "most"] f_Machine_init fd_Machine_init sp_Machine_init)
    {f_Machine_step : Addr} {fd_Machine_step : FuncData} (G_Machine_step : DoesM P w K mg base 9 0 "step" ["self", "rows", "to"] f_Machine_step fd_Machine_step sp_Machine_step)
    (kb_Machine_init_0 : KBn K fd_Machine_init ["self", "base", "kind", "rows", "begin", "most"] 4 ["begin", "most"] (pick [0, 1, 2, 3, 4, 5]) (pick [0, 1, 2, 3, 4, 5])) : FnD P w K mg base 10 f fd ["base", "kind", "rows", "begin", "most", "to"] sp_steps_of :=
  fn_d F sc_steps_of len fun cdv A outer s H E hr => ⟨rd_steps_of, (have nd := sc_steps_of.nd
  (jss_cons
  (js_set 6 nd rfl (by first | exact Or.inl rfl | exact Or.inr rfl) (je_makeK G_Machine_init hr kb_Machine_init_0 (ja_cons (je_var 0) (ja_cons (je_var 1) (ja_cons (je_var 2) ja_nil))) (jk_cons (je_var 3) (jk_cons (je_var 4) jk_nil)))) (jss_cons
  (js_set 7 nd rfl (by first | exact Or.inl rfl | exact Or.inr rfl) (je_lstM ja_nil)) (jss_cons
  (js_while PassesOwn.never (jt_val (je_m G_Machine_step hr (je_var 6) (ja_cons (je_var 2) (ja_cons (je_var 5) ja_nil)))) (jss_one
  (js_if (jt_gt (je_len T.n_len (ja_cons (je_fld T.k_Machine T.a_Machine_own_figures (je_var 6)) ja_nil)) (je_len T.n_len (ja_cons (je_var 7) ja_nil))) (jss_one
  (js_expr (je_append (je_var 7) (je_tup (ja_cons (je_fld T.k_Machine T.a_Machine_own_read (je_var 6)) (ja_cons (je_ix (je_fld T.k_Machine T.a_Machine_own_figures (je_var 6)) (je_neg je_int)) ja_nil)))))) jss_nil))) (jss_one
  (js_ret (je_tup (ja_cons (je_var 6) (ja_cons (je_var 7) ja_nil))))))))), fun ds S P h => match ds, len ds S P h, h with
  | [x0, x1, x2, x3, x4, x5], _, h => vc x0 x1 x2 x3 x4 x5 S P h⟩
theorem ok_part_run {f : Addr} {fd : FuncData} (F : Fun K "part_run" "part_run" s_part_run f fd) (T : Tx w K mg) (vc : goal_part_run) (len : ∀ ds S P, sp_part_run ds S P → ds.length = 6)
    {f_steps_of : Addr} {fd_steps_of : FuncData} (G_steps_of : DoesK P w K mg base 10 "steps_of" ["base", "kind", "rows", "begin", "most", "to"] f_steps_of fd_steps_of sp_steps_of)
    {f_Machine_row : Addr} {fd_Machine_row : FuncData} (G_Machine_row : DoesM P w K mg base 1 0 "row" ["self"] f_Machine_row fd_Machine_row sp_Machine_row)
    (kb_steps_of_0 : KBn K fd_steps_of ["base", "kind", "rows", "begin", "most", "to"] 3 ["begin", "most", "to"] (pick [0, 1, 2, 3, 4, 5]) (pick [0, 1, 2, 3, 4, 5])) : FnD P w K mg base 11 f fd ["base", "kind", "rows", "begin", "most", "to"] sp_part_run :=
  fn_d F sc_part_run len fun cdv A outer s H E hr => ⟨rd_part_run, (have nd := sc_part_run.nd
  (jss_cons
  (js_asg (je_gk G_steps_of hr kb_steps_of_0 (ja_cons (je_var 0) (ja_cons (je_var 1) (ja_cons (je_var 2) ja_nil))) (jk_cons (je_var 3) (jk_cons (je_var 4) (jk_cons (je_var 5) jk_nil)))) (jg_tup rfl (jgs_cons (jg_name 6 nd rfl (by first | exact Or.inl rfl | exact Or.inr rfl)) (jgs_cons (jg_name 7 nd rfl (by first | exact Or.inl rfl | exact Or.inr rfl)) jgs_nil)))) (jss_one
  (js_ret (je_tup (ja_cons (je_m0 G_Machine_row hr (je_var 6)) (ja_cons (je_fld T.k_Machine T.a_Machine_own_read (je_var 6)) ja_nil))))))), fun ds S P h => match ds, len ds S P h, h with
  | [x0, x1, x2, x3, x4, x5], _, h => vc x0 x1 x2 x3 x4 x5 S P h⟩
theorem ok_is_within {f : Addr} {fd : FuncData} (F : Fun K "is_within" "is_within" s_is_within f fd) (T : Tx w K mg) (vc : goal_is_within) (len : ∀ ds S P, sp_is_within ds S P → ds.length = 4)
    {f_is_below : Addr} {fd_is_below : FuncData} (G_is_below : Does P w K mg base 1 "is_below" ["one", "other"] f_is_below fd_is_below sp_is_below)
    {f_times : Addr} {fd_times : FuncData} (G_times : Does P w K mg base 3 "times" ["one", "other"] f_times fd_times sp_times)
    {f_power : Addr} {fd_power : FuncData} (G_power : Does P w K mg base 1 "power" ["base", "many"] f_power fd_power sp_power)
    {f_frac : Addr} {fd_frac : FuncData} (G_frac : Does P w K mg base 2 "frac" ["top", "bottom"] f_frac fd_frac sp_frac) : FnD P w K mg base 4 f fd ["base", "number", "begin", "most"] sp_is_within :=
  fn_d F sc_is_within len fun cdv A outer s H E hr => ⟨rd_is_within, (have nd := sc_is_within.nd
  (jss_one
  (js_ret (je_not (je_f G_is_below hr (ja_cons (je_f G_times hr (ja_cons (je_f G_frac hr (ja_cons (je_var 3) (ja_cons (je_sub (je_var 0) je_int) ja_nil))) (ja_cons (je_f G_power hr (ja_cons (je_var 0) (ja_cons (je_var 2) ja_nil))) ja_nil))) (ja_cons (je_tup (ja_cons (je_abs T.n_abs (ja_cons (je_ix (je_var 1) je_int) ja_nil)) (ja_cons (je_ix (je_var 1) je_int) ja_nil))) ja_nil))))))), fun ds S P h => match ds, len ds S P h, h with
  | [x0, x1, x2, x3], _, h => vc x0 x1 x2 x3 S P h⟩
theorem ok_fits {f : Addr} {fd : FuncData} (F : Fun K "fits" "fits" s_fits f fd) (T : Tx w K mg) (vc : goal_fits) (len : ∀ ds S P, sp_fits ds S P → ds.length = 5)
    {f_reach_of : Addr} {fd_reach_of : FuncData} (G_reach_of : Does P w K mg base 6 "reach_of" ["base", "kind", "rows"] f_reach_of fd_reach_of sp_reach_of)
    {f_is_within : Addr} {fd_is_within : FuncData} (G_is_within : Does P w K mg base 4 "is_within" ["base", "number", "begin", "most"] f_is_within fd_is_within sp_is_within)
    {f_many_of : Addr} {fd_many_of : FuncData} (G_many_of : Does P w K mg base 1 "many_of" ["kind"] f_many_of fd_many_of sp_many_of) : FnD P w K mg base 7 f fd ["base", "kind", "sources", "begin", "most"] sp_fits :=
  fn_d F sc_fits len fun cdv A outer s H E hr => ⟨rd_fits, (have nd := sc_fits.nd
  (jss_cons
  (js_if (jt_eq hr (je_ix (je_var 1) je_int) (je_cS T.c_LOOSE)) (jss_one
  (js_ret (je_eq hr (je_tup (ja_cons (je_var 3) (ja_cons (je_var 4) ja_nil))) (je_tup (ja_cons (je_maxL T.n_max (ja_cons (je_lc [("one", 5)] rfl nd (ji_seq (je_var 2)) (blkOk_by (N := ["base", "kind", "sources", "begin", "most", "one", "reach", "number"]) (sc := defScope s_fits) (by decide +kernel)) (by decide) (fun _ _ _ _ _ => (jg_name 5 nd rfl (by first | exact Or.inl rfl | exact Or.inr rfl))) (fun _ _ _ _ _ => jts_nil) (fun _ _ _ _ _ => (je_ix (je_var 5) je_int))) ja_nil)) (ja_cons (je_sum T.n_sum (ja_cons (je_lc [("one", 5)] rfl nd (ji_seq (je_var 2)) (blkOk_by (N := ["base", "kind", "sources", "begin", "most", "one", "reach", "number"]) (sc := defScope s_fits) (by decide +kernel)) (by decide) (fun _ _ _ _ _ => (jg_name 5 nd rfl (by first | exact Or.inl rfl | exact Or.inr rfl))) (fun _ _ _ _ _ => jts_nil) (fun _ _ _ _ _ => (je_ix (je_var 5) je_int))) ja_nil)) ja_nil)))))) jss_nil) (jss_cons
  (js_if (jt_eq hr (je_ix (je_var 1) je_int) (je_cS T.c_MOVED)) (jss_one
  (js_ret (je_eq hr (je_tup (ja_cons (je_var 3) (ja_cons (je_var 4) ja_nil))) (je_tup (ja_cons (je_add (je_ix (je_ix (je_var 2) je_int) je_int) (je_ix (je_var 1) je_int)) (ja_cons (je_ix (je_ix (je_var 2) je_int) je_int) ja_nil)))))) jss_nil) (jss_cons
  (js_set 6 nd rfl (by first | exact Or.inl rfl | exact Or.inr rfl) (je_f G_reach_of hr (ja_cons (je_var 0) (ja_cons (je_var 1) (ja_cons (je_lc [("one", 5)] rfl nd (ji_seq (je_var 2)) (blkOk_by (N := ["base", "kind", "sources", "begin", "most", "one", "reach", "number"]) (sc := defScope s_fits) (by decide +kernel)) (by decide) (fun _ _ _ _ _ => (jg_name 5 nd rfl (by first | exact Or.inl rfl | exact Or.inr rfl))) (fun _ _ _ _ _ => jts_nil) (fun _ _ _ _ _ => (je_tup (ja_cons (je_ix (je_var 5) je_int) (ja_cons (je_ix (je_var 5) je_int) (ja_cons (je_tup ja_nil) ja_nil)))))) ja_nil))))) (jss_one
  (js_ret (je_and (je_eq hr (je_len T.n_len (ja_cons (je_var 2) ja_nil)) (je_f G_many_of hr (ja_cons (je_var 1) ja_nil))) (je_one (je_all T.n_all (ja_cons (je_lc [("number", 7)] rfl nd (ji_seq (je_var 6)) (blkOk_by (N := ["base", "kind", "sources", "begin", "most", "one", "reach", "number"]) (sc := defScope s_fits) (by decide +kernel)) (by decide) (fun _ _ _ _ _ => (jg_name 7 nd rfl (by first | exact Or.inl rfl | exact Or.inr rfl))) (fun _ _ _ _ _ => jts_nil) (fun _ _ _ _ _ => (je_f G_is_within hr (ja_cons (je_var 0) (ja_cons (je_var 7) (ja_cons (je_var 3) (ja_cons (je_var 4) ja_nil))))))) ja_nil)))))))))), fun ds S P h => match ds, len ds S P h, h with
  | [x0, x1, x2, x3, x4], _, h => vc x0 x1 x2 x3 x4 S P h⟩
theorem ok_Lcell_at {f : Addr} {fd : FuncData} (F : Fun K "_law_cell_at" "_law_cell_at" s_Lcell_at f fd) (T : Tx w K mg) (vc : goal_Lcell_at) (len : ∀ ds S P, sp_Lcell_at ds S P → ds.length = 2)
     : FnD P w K mg base 1 f fd ["_law_script", "_law_k"] sp_Lcell_at :=
  fn_d F sc_Lcell_at len fun cdv A outer s H E hr => ⟨rd_Lcell_at, (have nd := sc_Lcell_at.nd
  (jss_cons
  (js_if (jt_lt (je_var 1) (je_len T.n_len (ja_cons (je_var 0) ja_nil))) (jss_one
  (js_ret (je_ix (je_var 0) (je_var 1)))) jss_nil) (jss_one
  (js_ret je_int)))), fun ds S P h => match ds, len ds S P h, h with
  | [x0, x1], _, h => vc x0 x1 S P h⟩
theorem ok_Lbox {f : Addr} {fd : FuncData} (F : Fun K "_law_box" "_law_box" s_Lbox f fd) (T : Tx w K mg) (vc : goal_Lbox) (len : ∀ ds S P, sp_Lbox ds S P → ds.length = 2)
    {f_Lcell_at : Addr} {fd_Lcell_at : FuncData} (G_Lcell_at : Does P w K mg base 1 "_law_cell_at" ["_law_script", "_law_k"] f_Lcell_at fd_Lcell_at sp_Lcell_at) : FnD P w K mg base 2 f fd ["_law_script", "_law_k"] sp_Lbox :=
  fn_d F sc_Lbox len fun cdv A outer s H E hr => ⟨rd_Lbox, (have nd := sc_Lbox.nd
  (jss_cons
  (js_set 2 nd rfl (by first | exact Or.inl rfl | exact Or.inr rfl) (je_f G_Lcell_at hr (ja_cons (je_var 0) (ja_cons (je_var 1) ja_nil)))) (jss_one
  (js_ret (je_lstM (ja_cons (je_mul (je_abs T.n_abs (ja_cons (je_var 2) ja_nil)) (je_intC T.n_int (ja_cons (je_ge (je_abs T.n_abs (ja_cons (je_var 2) ja_nil)) (je_pow je_int je_int)) ja_nil))) (ja_cons (je_add (je_add (je_mod (je_var 2) je_int) (je_mul je_int (je_var 1))) je_int) (ja_cons je_int ja_nil)))))))), fun ds S P h => match ds, len ds S P h, h with
  | [x0, x1], _, h => vc x0 x1 S P h⟩
theorem ok_Ltake {f : Addr} {fd : FuncData} (F : Fun K "_law_take" "_law_take" s_Ltake f fd) (T : Tx w K mg) (vc : goal_Ltake) (len : ∀ ds S P, sp_Ltake ds S P → ds.length = 2)
     : FnD P w K mg base 1 f fd ["_law_box_here", "_law_size"] sp_Ltake :=
  fn_d F sc_Ltake len fun cdv A outer s H E hr => ⟨rd_Ltake, (have nd := sc_Ltake.nd
  (jss_cons
  (js_if (jt_gt (je_ix (je_var 0) je_int) je_int) (jss_cons
  (js_set 2 nd rfl (by first | exact Or.inl rfl | exact Or.inr rfl) (je_mod (je_ix (je_var 0) je_int) (je_var 1))) (jss_cons
  (js_setIx (je_fdiv (je_ix (je_var 0) je_int) (je_var 1)) (je_var 0) je_int) (jss_one
  (js_ret (je_var 2))))) jss_nil) (jss_cons
  (js_setIx (je_add (je_ix (je_var 0) je_int) je_int) (je_var 0) je_int) (jss_cons
  (js_set 3 nd rfl (by first | exact Or.inl rfl | exact Or.inr rfl) (je_mod (je_mul (je_add (je_ix (je_var 0) je_int) (je_mul je_int (je_ix (je_var 0) je_int))) (je_add je_int (je_ix (je_var 0) je_int))) je_int)) (jss_cons
  (js_set 4 nd rfl (by first | exact Or.inl rfl | exact Or.inr rfl) (je_mod (je_mul (je_add (je_add (je_var 3) (je_ix (je_var 0) je_int)) (je_fdiv (je_ix (je_var 0) je_int) je_int)) (je_add (je_mod (je_var 3) je_int) je_int)) je_int)) (jss_one
  (js_ret (je_mod (je_fdiv (je_mod (je_add (je_mul (je_var 4) je_int) (je_var 3)) je_int) je_int) (je_var 1))))))))), fun ds S P h => match ds, len ds S P h, h with
  | [x0, x1], _, h => vc x0 x1 S P h⟩
theorem ok_Lof {f : Addr} {fd : FuncData} (F : Fun K "_law_of" "_law_of" s_Lof f fd) (T : Tx w K mg) (vc : goal_Lof) (len : ∀ ds S P, sp_Lof ds S P → ds.length = 2)
    {f_Ltake : Addr} {fd_Ltake : FuncData} (G_Ltake : Does P w K mg base 1 "_law_take" ["_law_box_here", "_law_size"] f_Ltake fd_Ltake sp_Ltake) : FnD P w K mg base 2 f fd ["_law_box_here", "_law_some"] sp_Lof :=
  fn_d F sc_Lof len fun cdv A outer s H E hr => ⟨rd_Lof, (have nd := sc_Lof.nd
  (jss_one
  (js_ret (je_ix (je_var 1) (je_f G_Ltake hr (ja_cons (je_var 0) (ja_cons (je_len T.n_len (ja_cons (je_var 1) ja_nil)) ja_nil))))))), fun ds S P h => match ds, len ds S P h, h with
  | [x0, x1], _, h => vc x0 x1 S P h⟩
theorem ok_Lfigures {f : Addr} {fd : FuncData} (F : Fun K "_law_figures" "_law_figures" s_Lfigures f fd) (T : Tx w K mg) (vc : goal_Lfigures) (len : ∀ ds S P, sp_Lfigures ds S P → ds.length = 3)
    {f_Ltake : Addr} {fd_Ltake : FuncData} (G_Ltake : Does P w K mg base 1 "_law_take" ["_law_box_here", "_law_size"] f_Ltake fd_Ltake sp_Ltake) : FnD P w K mg base 2 f fd ["_law_box_here", "_law_crest", "_law_many"] sp_Lfigures :=
  fn_d F sc_Lfigures len fun cdv A outer s H E hr => ⟨rd_Lfigures, (have nd := sc_Lfigures.nd
  (jss_cons
  (js_set 3 nd rfl (by first | exact Or.inl rfl | exact Or.inr rfl) (je_f G_Ltake hr (ja_cons (je_var 0) (ja_cons je_int ja_nil)))) (jss_cons
  (js_set 4 nd rfl (by first | exact Or.inl rfl | exact Or.inr rfl) (je_lstM ja_nil)) (jss_cons
  (js_for PassesOwn.never rfl (ji_range1 T.n_range (ja_cons (je_var 2) ja_nil)) (jg_name 5 nd rfl (by first | exact Or.inl rfl | exact Or.inr rfl)) (jss_cons
  (js_set 6 nd rfl (by first | exact Or.inl rfl | exact Or.inr rfl) (je_sub (je_f G_Ltake hr (ja_cons (je_var 0) (ja_cons (je_add (je_mul je_int (je_var 1)) je_int) ja_nil))) (je_var 1))) (jss_one
  (js_expr (je_append (je_var 4) (je_ix (je_lst (ja_cons (je_var 6) (ja_cons (je_var 6) (ja_cons (je_ix (je_lst (ja_cons (je_var 1) (ja_cons (je_sub je_int (je_var 1)) ja_nil))) (je_mod (je_var 6) je_int)) (ja_cons je_int ja_nil))))) (je_ifE (jt_gt (je_f G_Ltake hr (ja_cons (je_var 0) (ja_cons je_int ja_nil))) je_int) (je_var 3) je_int))))))) (jss_one
  (js_ret (je_tupC T.n_tuple (ja_cons (je_var 4) ja_nil)))))))), fun ds S P h => match ds, len ds S P h, h with
  | [x0, x1, x2], _, h => vc x0 x1 x2 S P h⟩
theorem ok_Lkinds {f : Addr} {fd : FuncData} (F : Fun K "_law_kinds" "_law_kinds" s_Lkinds f fd) (T : Tx w K mg) (vc : goal_Lkinds) (len : ∀ ds S P, sp_Lkinds ds S P → ds.length = 1)
    {f_Ltake : Addr} {fd_Ltake : FuncData} (G_Ltake : Does P w K mg base 1 "_law_take" ["_law_box_here", "_law_size"] f_Ltake fd_Ltake sp_Ltake)
    {f_Lof : Addr} {fd_Lof : FuncData} (G_Lof : Does P w K mg base 2 "_law_of" ["_law_box_here", "_law_some"] f_Lof fd_Lof sp_Lof) : FnD P w K mg base 3 f fd ["_law_box_here"] sp_Lkinds :=
  fn_d F sc_Lkinds len fun cdv A outer s H E hr => ⟨rd_Lkinds, (have nd := sc_Lkinds.nd
  (jss_cons
  (js_set 1 nd rfl (by first | exact Or.inl rfl | exact Or.inr rfl) (je_add je_int (je_f G_Ltake hr (ja_cons (je_var 0) (ja_cons je_int ja_nil))))) (jss_cons
  (js_set 2 nd rfl (by first | exact Or.inl rfl | exact Or.inr rfl) (je_tupC T.n_tuple (ja_cons (je_lc [("_law_k", 3)] rfl nd (ji_range1 T.n_range (ja_cons (je_var 1) ja_nil)) (blkOk_by (N := ["_law_box_here", "_law_many", "_law_weights", "_law_k", "_law_half", "_law_kind", "_law_some"]) (sc := defScope s_Lkinds) (by decide +kernel)) (by decide) (fun _ _ _ _ _ => (jg_name 3 nd rfl (by first | exact Or.inl rfl | exact Or.inr rfl))) (fun _ _ _ _ _ => jts_nil) (fun _ _ _ _ _ => (je_mul (je_add je_int (je_f G_Ltake hr (ja_cons (je_var 0) (ja_cons je_int ja_nil)))) (je_ix (je_lst (ja_cons je_int (ja_cons (je_neg je_int) ja_nil))) (je_f G_Ltake hr (ja_cons (je_var 0) (ja_cons je_int ja_nil))))))) ja_nil))) (jss_cons
  (js_par 4 5 rfl nd rfl rfl (by decide) rfl rfl (ja_cons (je_f G_Ltake hr (ja_cons (je_var 0) (ja_cons je_int ja_nil))) (ja_cons (je_tup (ja_cons je_str (ja_cons (je_var 2) (ja_cons (je_add je_int (je_f G_Ltake hr (ja_cons (je_var 0) (ja_cons je_int ja_nil)))) ja_nil)))) ja_nil)) (by rfl)) (jss_cons
  (js_set 6 nd rfl (by first | exact Or.inl rfl | exact Or.inr rfl) (je_add (je_mul (je_lst (ja_cons (je_tup (ja_cons (je_var 5) (ja_cons (je_var 5) (ja_cons (je_var 1) ja_nil)))) ja_nil)) je_int) (je_lst (ja_cons (je_tup (ja_cons (je_tup (ja_cons je_str ja_nil)) (ja_cons (je_tup (ja_cons je_str ja_nil)) (ja_cons je_int ja_nil)))) (ja_cons (je_tup (ja_cons (je_tup (ja_cons je_str (ja_cons (je_mul je_int (je_var 4)) ja_nil))) (ja_cons (je_tup (ja_cons je_str (ja_cons (je_var 4) ja_nil))) (ja_cons je_int ja_nil)))) ja_nil))))) (jss_one
  (js_ret (je_f G_Lof hr (ja_cons (je_var 0) (ja_cons (je_add (je_var 6) (je_lst (ja_cons (je_tup (ja_cons (je_tup (ja_cons je_str ja_nil)) (ja_cons (je_tup (ja_cons je_str ja_nil)) (ja_cons je_int ja_nil)))) (ja_cons (je_tup (ja_cons (je_tup (ja_cons je_str ja_nil)) (ja_cons (je_tup (ja_cons je_str ja_nil)) (ja_cons je_int ja_nil)))) ja_nil)))) ja_nil)))))))))), fun ds S P h => match ds, len ds S P h, h with
  | [x0], _, h => vc x0 S P h⟩
theorem ok_Lstart {f : Addr} {fd : FuncData} (F : Fun K "_law_start" "_law_start" s_Lstart f fd) (T : Tx w K mg) (vc : goal_Lstart) (len : ∀ ds S P, sp_Lstart ds S P → ds.length = 4)
    {f_fits : Addr} {fd_fits : FuncData} (G_fits : Does P w K mg base 7 "fits" ["base", "kind", "sources", "begin", "most"] f_fits fd_fits sp_fits) : FnD P w K mg base 8 f fd ["_law_base", "_law_kind", "_law_feeders", "_law_top"] sp_Lstart :=
  fn_d F sc_Lstart len fun cdv A outer s H E hr => ⟨rd_Lstart, (have nd := sc_Lstart.nd
  (jss_cons
  (js_for PassesOwn.never rfl (ji_range3 T.n_range (ja_cons (je_neg je_int) (ja_cons je_int (ja_cons je_int ja_nil)))) (jg_name 4 nd rfl (by first | exact Or.inl rfl | exact Or.inr rfl)) (jss_one
  (js_if (jt_val (je_f G_fits hr (ja_cons (je_var 0) (ja_cons (je_var 1) (ja_cons (je_var 2) (ja_cons (je_var 4) (ja_cons (je_var 3) ja_nil))))))) (jss_one
  (js_ret (je_var 4))) jss_nil))) (jss_one
  (js_ret je_non)))), fun ds S P h => match ds, len ds S P h, h with
  | [x0, x1, x2, x3], _, h => vc x0 x1 x2 x3 S P h⟩
theorem ok_Lright {f : Addr} {fd : FuncData} (F : Fun K "_law_right" "_law_right" s_Lright f fd) (T : Tx w K mg) (vc : goal_Lright) (len : ∀ ds S P, sp_Lright ds S P → ds.length = 1)
    {f_Lof : Addr} {fd_Lof : FuncData} (G_Lof : Does P w K mg base 2 "_law_of" ["_law_box_here", "_law_some"] f_Lof fd_Lof sp_Lof)
    {f_Lkinds : Addr} {fd_Lkinds : FuncData} (G_Lkinds : Does P w K mg base 3 "_law_kinds" ["_law_box_here"] f_Lkinds fd_Lkinds sp_Lkinds)
    {f_Ltake : Addr} {fd_Ltake : FuncData} (G_Ltake : Does P w K mg base 1 "_law_take" ["_law_box_here", "_law_size"] f_Ltake fd_Ltake sp_Ltake)
    {f_Lfigures : Addr} {fd_Lfigures : FuncData} (G_Lfigures : Does P w K mg base 2 "_law_figures" ["_law_box_here", "_law_crest", "_law_many"] f_Lfigures fd_Lfigures sp_Lfigures)
    {f_paired : Addr} {fd_paired : FuncData} (G_paired : Does P w K mg base 1 "paired" ["base", "row"] f_paired fd_paired sp_paired)
    {f_Lstart : Addr} {fd_Lstart : FuncData} (G_Lstart : Does P w K mg base 8 "_law_start" ["_law_base", "_law_kind", "_law_feeders", "_law_top"] f_Lstart fd_Lstart sp_Lstart)
    {f_told_lag : Addr} {fd_told_lag : FuncData} (G_told_lag : Does P w K mg base 5 "told_lag" ["base", "kind", "sources", "begin", "most"] f_told_lag fd_told_lag sp_told_lag)
    {f_fits : Addr} {fd_fits : FuncData} (G_fits : Does P w K mg base 7 "fits" ["base", "kind", "sources", "begin", "most"] f_fits fd_fits sp_fits)
    {f_reach_of : Addr} {fd_reach_of : FuncData} (G_reach_of : Does P w K mg base 6 "reach_of" ["base", "kind", "rows"] f_reach_of fd_reach_of sp_reach_of)
    {f_part_run : Addr} {fd_part_run : FuncData} (G_part_run : DoesK P w K mg base 11 "part_run" ["base", "kind", "rows", "begin", "most", "to"] f_part_run fd_part_run sp_part_run)
    {f_known_to : Addr} {fd_known_to : FuncData} (G_known_to : Does P w K mg base 1 "known_to" ["row"] f_known_to fd_known_to sp_known_to)
    {f_order_of : Addr} {fd_order_of : FuncData} (G_order_of : Does P w K mg base 6 "order_of" ["base", "one", "other"] f_order_of fd_order_of sp_order_of)
    {f_cut_of : Addr} {fd_cut_of : FuncData} (G_cut_of : Does P w K mg base 1 "cut_of" ["row", "place"] f_cut_of fd_cut_of sp_cut_of)
    (kb_part_run_0 : KBn K fd_part_run ["base", "kind", "rows", "begin", "most", "to"] 3 ["begin", "most", "to"] (pick [0, 1, 2, 3, 4, 5]) (pick [0, 1, 2, 3, 4, 5])) : FnD P w K mg base 12 f fd ["_law_box_here"] sp_Lright :=
  fn_d F sc_Lright len fun cdv A outer s H E hr => ⟨rd_Lright, (have nd := sc_Lright.nd
  (jss_cons
  (js_set 1 nd rfl (by first | exact Or.inl rfl | exact Or.inr rfl) (je_f G_Lof hr (ja_cons (je_var 0) (ja_cons (je_lst (ja_cons je_int (ja_cons je_int ja_nil))) ja_nil)))) (jss_cons
  (js_for PassesOwn.never rfl (ji_range1 T.n_range (ja_cons je_int ja_nil)) (jg_name 2 nd rfl (by first | exact Or.inl rfl | exact Or.inr rfl)) (jss_cons
  (js_asg (je_f G_Lkinds hr (ja_cons (je_var 0) ja_nil)) (jg_tup rfl (jgs_cons (jg_name 3 nd rfl (by first | exact Or.inl rfl | exact Or.inr rfl)) (jgs_cons (jg_name 4 nd rfl (by first | exact Or.inl rfl | exact Or.inr rfl)) (jgs_cons (jg_name 5 nd rfl (by first | exact Or.inl rfl | exact Or.inr rfl)) jgs_nil))))) (jss_cons
  (js_par 6 7 rfl nd rfl rfl (by decide) rfl rfl (ja_cons (je_lc [("_law_k", 8)] rfl nd (ji_range1 T.n_range (ja_cons (je_var 5) ja_nil)) (blkOk_by (N := ["_law_box_here", "_law_base", "_law_turn", "_law_kind", "_law_other", "_law_many", "_law_sizes", "_law_top", "_law_k", "_law_rows", "_law_size", "_law_pairs", "_law_row", "_law_start_here", "_law_feeders", "_law_doubles", "_law_lag", "_law_half", "_law_one", "_law_two", "_law_alike", "_law_place"]) (sc := defScope s_Lright) (by decide +kernel)) (by decide) (fun _ _ _ _ _ => (jg_name 8 nd rfl (by first | exact Or.inl rfl | exact Or.inr rfl))) (fun _ _ _ _ _ => jts_nil) (fun _ _ _ _ _ => (je_add (je_sub (je_var 1) je_int) (je_f G_Ltake hr (ja_cons (je_var 0) (ja_cons je_int ja_nil)))))) (ja_cons (je_add (je_sub (je_var 1) je_int) (je_f G_Ltake hr (ja_cons (je_var 0) (ja_cons je_int ja_nil)))) ja_nil)) (by rfl)) (jss_cons
  (js_setLc 9 [("_law_size", 10)] rfl nd rfl rfl (sw_true rfl rfl rfl (by decide +kernel)) (ji_seq (je_var 6)) (blkOk_by (N := ["_law_box_here", "_law_base", "_law_turn", "_law_kind", "_law_other", "_law_many", "_law_sizes", "_law_top", "_law_k", "_law_rows", "_law_size", "_law_pairs", "_law_row", "_law_start_here", "_law_feeders", "_law_doubles", "_law_lag", "_law_half", "_law_one", "_law_two", "_law_alike", "_law_place"]) (sc := defScope s_Lright) (by decide +kernel)) (by decide) (fun _ _ _ _ _ => (jg_name 10 nd rfl (by first | exact Or.inl rfl | exact Or.inr rfl))) (fun _ _ _ _ _ => jts_nil) (fun _ _ _ _ _ => (je_tup (ja_cons (je_mul je_int (je_f G_Ltake hr (ja_cons (je_var 0) (ja_cons je_int ja_nil)))) (ja_cons (je_var 10) (ja_cons (je_f G_Lfigures hr (ja_cons (je_var 0) (ja_cons (je_var 10) (ja_cons (je_mul je_int (je_f G_Ltake hr (ja_cons (je_var 0) (ja_cons je_int ja_nil)))) ja_nil)))) ja_nil)))))) (jss_cons
  (js_setLc 11 [("_law_row", 12)] rfl nd rfl rfl (sw_true rfl rfl rfl (by decide +kernel)) (ji_seq (je_var 9)) (blkOk_by (N := ["_law_box_here", "_law_base", "_law_turn", "_law_kind", "_law_other", "_law_many", "_law_sizes", "_law_top", "_law_k", "_law_rows", "_law_size", "_law_pairs", "_law_row", "_law_start_here", "_law_feeders", "_law_doubles", "_law_lag", "_law_half", "_law_one", "_law_two", "_law_alike", "_law_place"]) (sc := defScope s_Lright) (by decide +kernel)) (by decide) (fun _ _ _ _ _ => (jg_name 12 nd rfl (by first | exact Or.inl rfl | exact Or.inr rfl))) (fun _ _ _ _ _ => jts_nil) (fun _ _ _ _ _ => (je_ix (je_f G_paired hr (ja_cons (je_var 1) (ja_cons (je_var 12) ja_nil))) je_int))) (jss_cons
  (js_set 13 nd rfl (by first | exact Or.inl rfl | exact Or.inr rfl) (je_f G_Lstart hr (ja_cons (je_var 1) (ja_cons (je_var 3) (ja_cons (je_lc [("_law_row", 12)] rfl nd (ji_seq (je_var 9)) (blkOk_by (N := ["_law_box_here", "_law_base", "_law_turn", "_law_kind", "_law_other", "_law_many", "_law_sizes", "_law_top", "_law_k", "_law_rows", "_law_size", "_law_pairs", "_law_row", "_law_start_here", "_law_feeders", "_law_doubles", "_law_lag", "_law_half", "_law_one", "_law_two", "_law_alike", "_law_place"]) (sc := defScope s_Lright) (by decide +kernel)) (by decide) (fun _ _ _ _ _ => (jg_name 12 nd rfl (by first | exact Or.inl rfl | exact Or.inr rfl))) (fun _ _ _ _ _ => jts_nil) (fun _ _ _ _ _ => (je_sl (je_var 12) jo_none (jo_some je_int)))) (ja_cons (je_var 7) ja_nil)))))) (jss_cons
  (js_if (jt_isN (je_var 13) je_non) (jss_one
  js_continue) jss_nil) (jss_cons
  (js_par 14 15 rfl nd rfl rfl (by decide) rfl rfl (ja_cons (je_lc [("_law_row", 12)] rfl nd (ji_seq (je_var 9)) (blkOk_by (N := ["_law_box_here", "_law_base", "_law_turn", "_law_kind", "_law_other", "_law_many", "_law_sizes", "_law_top", "_law_k", "_law_rows", "_law_size", "_law_pairs", "_law_row", "_law_start_here", "_law_feeders", "_law_doubles", "_law_lag", "_law_half", "_law_one", "_law_two", "_law_alike", "_law_place"]) (sc := defScope s_Lright) (by decide +kernel)) (by decide) (fun _ _ _ _ _ => (jg_name 12 nd rfl (by first | exact Or.inl rfl | exact Or.inr rfl))) (fun _ _ _ _ _ => jts_nil) (fun _ _ _ _ _ => (je_sl (je_var 12) jo_none (jo_some je_int)))) (ja_cons (je_lc [("_law_row", 12)] rfl nd (ji_seq (je_var 11)) (blkOk_by (N := ["_law_box_here", "_law_base", "_law_turn", "_law_kind", "_law_other", "_law_many", "_law_sizes", "_law_top", "_law_k", "_law_rows", "_law_size", "_law_pairs", "_law_row", "_law_start_here", "_law_feeders", "_law_doubles", "_law_lag", "_law_half", "_law_one", "_law_two", "_law_alike", "_law_place"]) (sc := defScope s_Lright) (by decide +kernel)) (by decide) (fun _ _ _ _ _ => (jg_name 12 nd rfl (by first | exact Or.inl rfl | exact Or.inr rfl))) (fun _ _ _ _ _ => jts_nil) (fun _ _ _ _ _ => (je_sl (je_var 12) jo_none (jo_some je_int)))) ja_nil)) (by rfl)) (jss_cons
  (js_par 16 17 rfl nd rfl rfl (by decide) rfl rfl (ja_cons (je_f G_told_lag hr (ja_cons (je_var 1) (ja_cons (je_var 3) (ja_cons (je_var 14) (ja_cons (je_var 13) (ja_cons (je_var 7) ja_nil)))))) (ja_cons (je_fdiv (je_var 13) je_int) ja_nil)) (by rfl)) (jss_cons
  (js_if (jt_ne hr (je_f G_told_lag hr (ja_cons (je_mul (je_var 1) (je_var 1)) (ja_cons (je_var 4) (ja_cons (je_var 15) (ja_cons (je_var 17) (ja_cons (je_mul (je_var 7) (je_add (je_var 1) je_int)) ja_nil)))))) (je_fdiv (je_add (je_var 16) je_int) je_int)) (jss_one
  (js_ret je_bl)) jss_nil) (jss_cons
  (js_if (jt_not (jt_val (je_f G_fits hr (ja_cons (je_mul (je_var 1) (je_var 1)) (ja_cons (je_var 4) (ja_cons (je_var 15) (ja_cons (je_var 17) (ja_cons (je_mul (je_var 7) (je_add (je_var 1) je_int)) ja_nil)))))))) (jss_one
  (js_ret je_bl)) jss_nil) (jss_cons
  (js_if (jt_ne hr (je_f G_reach_of hr (ja_cons (je_var 1) (ja_cons (je_var 3) (ja_cons (je_var 9) ja_nil)))) (je_f G_reach_of hr (ja_cons (je_mul (je_var 1) (je_var 1)) (ja_cons (je_var 4) (ja_cons (je_var 11) ja_nil))))) (jss_one
  (js_ret je_bl)) jss_nil) (jss_cons
  (js_set 18 nd rfl (by first | exact Or.inl rfl | exact Or.inr rfl) (je_ix (je_gk G_part_run hr kb_part_run_0 (ja_cons (je_var 1) (ja_cons (je_var 3) (ja_cons (je_var 9) ja_nil))) (jk_cons (je_var 13) (jk_cons (je_var 7) (jk_cons je_int jk_nil)))) je_int)) (jss_cons
  (js_set 19 nd rfl (by first | exact Or.inl rfl | exact Or.inr rfl) (je_ix (je_gk G_part_run hr kb_part_run_0 (ja_cons (je_mul (je_var 1) (je_var 1)) (ja_cons (je_var 4) (ja_cons (je_var 11) ja_nil))) (jk_cons (je_var 17) (jk_cons (je_mul (je_var 7) (je_add (je_var 1) je_int)) (jk_cons je_int jk_nil)))) je_int)) (jss_cons
  (js_if (jt_lt (je_f G_known_to hr (ja_cons (je_var 19) ja_nil)) (je_min2 T.n_min (ja_cons je_int (ja_cons (je_sub (je_minL T.n_min (ja_cons (je_lc [("_law_row", 12)] rfl nd (ji_seq (je_var 11)) (blkOk_by (N := ["_law_box_here", "_law_base", "_law_turn", "_law_kind", "_law_other", "_law_many", "_law_sizes", "_law_top", "_law_k", "_law_rows", "_law_size", "_law_pairs", "_law_row", "_law_start_here", "_law_feeders", "_law_doubles", "_law_lag", "_law_half", "_law_one", "_law_two", "_law_alike", "_law_place"]) (sc := defScope s_Lright) (by decide +kernel)) (by decide) (fun _ _ _ _ _ => (jg_name 12 nd rfl (by first | exact Or.inl rfl | exact Or.inr rfl))) (fun _ _ _ _ _ => jts_nil) (fun _ _ _ _ _ => (je_f G_known_to hr (ja_cons (je_var 12) ja_nil)))) ja_nil)) (je_fdiv (je_add (je_var 16) je_int) je_int)) ja_nil)))) (jss_one
  (js_ret je_bl)) jss_nil) (jss_cons
  (js_set 20 nd rfl (by first | exact Or.inl rfl | exact Or.inr rfl) (je_ix (je_f G_paired hr (ja_cons (je_var 1) (ja_cons (je_tup (ja_cons (je_ix (je_var 18) je_int) (ja_cons (je_ix (je_var 18) je_int) (ja_cons (je_sl (je_ix (je_var 18) je_int) jo_none (jo_some (je_mul (je_fdiv (je_len T.n_len (ja_cons (je_ix (je_var 18) je_int) ja_nil)) je_int) je_int))) ja_nil)))) ja_nil))) je_int)) (jss_one
  (js_for PassesOwn.never rfl (ji_range2 T.n_range (ja_cons (je_neg (je_var 17)) (ja_cons je_int ja_nil))) (jg_name 21 nd rfl (by first | exact Or.inl rfl | exact Or.inr rfl)) (jss_cons
  (js_if (jt_notN (je_f G_order_of hr (ja_cons (je_mul (je_var 1) (je_var 1)) (ja_cons (je_f G_cut_of hr (ja_cons (je_var 20) (ja_cons (je_var 21) ja_nil))) (ja_cons (je_var 19) ja_nil)))) je_non) (jss_one
  (js_ret je_bl)) jss_nil) (jss_one
  (js_if (jt_notN (je_f G_order_of hr (ja_cons (je_mul (je_var 1) (je_var 1)) (ja_cons (je_var 20) (ja_cons (je_f G_cut_of hr (ja_cons (je_var 19) (ja_cons (je_var 21) ja_nil))) ja_nil)))) je_non) (jss_one
  (js_ret je_bl)) jss_nil))))))))))))))))))))) (jss_one
  (js_ret je_bl))))), fun ds S P h => match ds, len ds S P h, h with
  | [x0], _, h => vc x0 S P h⟩
theorem ok_law {f : Addr} {fd : FuncData} (F : Fun K "law" "law" s_law f fd) (T : Tx w K mg) (vc : goal_law) (len : ∀ ds S P, sp_law ds S P → ds.length = 1)
    {f_Lright : Addr} {fd_Lright : FuncData} (G_Lright : Does P w K mg base 12 "_law_right" ["_law_box_here"] f_Lright fd_Lright sp_Lright)
    {f_Lbox : Addr} {fd_Lbox : FuncData} (G_Lbox : Does P w K mg base 2 "_law_box" ["_law_script", "_law_k"] f_Lbox fd_Lbox sp_Lbox) : FnD P w K mg base 13 f fd ["_law_script"] sp_law :=
  fn_d F sc_law len fun cdv A outer s H E hr => ⟨rd_law, (have nd := sc_law.nd
  (jss_one
  (js_ret (je_all T.n_all (ja_cons (je_lc [("_law_k", 1)] rfl nd (ji_range1 T.n_range (ja_cons (je_max2 T.n_max (ja_cons je_int (ja_cons (je_min2 T.n_min (ja_cons (je_len T.n_len (ja_cons (je_var 0) ja_nil)) (ja_cons je_int ja_nil))) ja_nil))) ja_nil)) (blkOk_by (N := ["_law_script", "_law_k"]) (sc := defScope s_law) (by decide +kernel)) (by decide) (fun _ _ _ _ _ => (jg_name 1 nd rfl (by first | exact Or.inl rfl | exact Or.inr rfl))) (fun _ _ _ _ _ => jts_nil) (fun _ _ _ _ _ => (je_f G_Lright hr (ja_cons (je_f G_Lbox hr (ja_cons (je_var 0) (ja_cons (je_var 1) ja_nil))) ja_nil)))) ja_nil))))), fun ds S P h => match ds, len ds S P h, h with
  | [x0], _, h => vc x0 S P h⟩
end
theorem all_mk {l : PySem.W.OpenLaw} {w : World} {K : PySem.W.Frag} {h : Heap} {mg : Str → Option Value} {fa : Addr} (X : K.In h) (G : h.Ns mainGlobals mg) (hfa : mg "law" = some (.ref fa))
    {C_Machine : Addr} (aC_Machine : PySem.W.nsIn K mainGlobals "Machine" = some (some (.ref C_Machine))) (pg_Machine : PySem.W.plainGet K C_Machine Str.empty = true) (hd_Machine : PySem.W.hasDictIn K C_Machine = true) (po_Machine : PySem.W.plainOver K C_Machine = true) (sa_Machine : PySem.W.findIn K (.ref C_Machine) "__setattr__" = some (some (.builtin "object.__setattr__"))) (mk_Machine : PySem.W.makesIn K C_Machine = true) (kc_Machine : PySem.W.keepIn K (.ref C_Machine) = true)
    (nA_Machine_own_base : PySem.W.findIn K (.ref C_Machine) "own_base" = some none)
    (nA_Machine_own_begin : PySem.W.findIn K (.ref C_Machine) "own_begin" = some none)
    (nA_Machine_own_figures : PySem.W.findIn K (.ref C_Machine) "own_figures" = some none)
    (nA_Machine_own_kind : PySem.W.findIn K (.ref C_Machine) "own_kind" = some none)
    (nA_Machine_own_most : PySem.W.findIn K (.ref C_Machine) "own_most" = some none)
    (nA_Machine_own_read : PySem.W.findIn K (.ref C_Machine) "own_read" = some none)
    {f_common : Addr} {od_common an_common : Option Addr} {sl_common : Array (Option Value)} {oc_common kV_common dc_common pm_common cd_common ct_common : Value}
    (a_common : PySem.W.nsIn K mainGlobals "common" = some (some (.ref f_common)))
    (l_common : K.lookup f_common = some ⟨oc_common, od_common, .func (PySem.W.fnOf "common" "common" (defArgs s_common) (defBody s_common) (defScope s_common) .none kV_common dc_common pm_common an_common cd_common ct_common), sl_common⟩)
    (c_common : PySem.W.codeIn K cd_common "common" = true) (k_common : PySem.W.keepIn K (.ref f_common) = true)
    {f_frac : Addr} {od_frac an_frac : Option Addr} {sl_frac : Array (Option Value)} {oc_frac kV_frac dc_frac pm_frac cd_frac ct_frac : Value}
    (a_frac : PySem.W.nsIn K mainGlobals "frac" = some (some (.ref f_frac)))
    {T_frac : Addr} {oT_frac : Obj} {iT_frac : Array Value} {nT_frac : Nat}
    (l_frac : K.lookup f_frac = some ⟨oc_frac, od_frac, .func (PySem.W.fnOf "frac" "frac" (defArgs s_frac) (defBody s_frac) (defScope s_frac) (.ref T_frac) kV_frac dc_frac pm_frac an_frac cd_frac ct_frac), sl_frac⟩)
    (t_frac : K.lookup T_frac = some oT_frac)
    (u_frac : oT_frac.data = .seq iT_frac nT_frac)
    (v_frac : Vals [.int 1] iT_frac.toList)
    (c_frac : PySem.W.codeIn K cd_frac "frac" = true) (k_frac : PySem.W.keepIn K (.ref f_frac) = true)
    {f_plus : Addr} {od_plus an_plus : Option Addr} {sl_plus : Array (Option Value)} {oc_plus kV_plus dc_plus pm_plus cd_plus ct_plus : Value}
    (a_plus : PySem.W.nsIn K mainGlobals "plus" = some (some (.ref f_plus)))
    (l_plus : K.lookup f_plus = some ⟨oc_plus, od_plus, .func (PySem.W.fnOf "plus" "plus" (defArgs s_plus) (defBody s_plus) (defScope s_plus) .none kV_plus dc_plus pm_plus an_plus cd_plus ct_plus), sl_plus⟩)
    (c_plus : PySem.W.codeIn K cd_plus "plus" = true) (k_plus : PySem.W.keepIn K (.ref f_plus) = true)
    {f_minus : Addr} {od_minus an_minus : Option Addr} {sl_minus : Array (Option Value)} {oc_minus kV_minus dc_minus pm_minus cd_minus ct_minus : Value}
    (a_minus : PySem.W.nsIn K mainGlobals "minus" = some (some (.ref f_minus)))
    (l_minus : K.lookup f_minus = some ⟨oc_minus, od_minus, .func (PySem.W.fnOf "minus" "minus" (defArgs s_minus) (defBody s_minus) (defScope s_minus) .none kV_minus dc_minus pm_minus an_minus cd_minus ct_minus), sl_minus⟩)
    (c_minus : PySem.W.codeIn K cd_minus "minus" = true) (k_minus : PySem.W.keepIn K (.ref f_minus) = true)
    {f_times : Addr} {od_times an_times : Option Addr} {sl_times : Array (Option Value)} {oc_times kV_times dc_times pm_times cd_times ct_times : Value}
    (a_times : PySem.W.nsIn K mainGlobals "times" = some (some (.ref f_times)))
    (l_times : K.lookup f_times = some ⟨oc_times, od_times, .func (PySem.W.fnOf "times" "times" (defArgs s_times) (defBody s_times) (defScope s_times) .none kV_times dc_times pm_times an_times cd_times ct_times), sl_times⟩)
    (c_times : PySem.W.codeIn K cd_times "times" = true) (k_times : PySem.W.keepIn K (.ref f_times) = true)
    {f_over : Addr} {od_over an_over : Option Addr} {sl_over : Array (Option Value)} {oc_over kV_over dc_over pm_over cd_over ct_over : Value}
    (a_over : PySem.W.nsIn K mainGlobals "over" = some (some (.ref f_over)))
    (l_over : K.lookup f_over = some ⟨oc_over, od_over, .func (PySem.W.fnOf "over" "over" (defArgs s_over) (defBody s_over) (defScope s_over) .none kV_over dc_over pm_over an_over cd_over ct_over), sl_over⟩)
    (c_over : PySem.W.codeIn K cd_over "over" = true) (k_over : PySem.W.keepIn K (.ref f_over) = true)
    {f_is_below : Addr} {od_is_below an_is_below : Option Addr} {sl_is_below : Array (Option Value)} {oc_is_below kV_is_below dc_is_below pm_is_below cd_is_below ct_is_below : Value}
    (a_is_below : PySem.W.nsIn K mainGlobals "is_below" = some (some (.ref f_is_below)))
    (l_is_below : K.lookup f_is_below = some ⟨oc_is_below, od_is_below, .func (PySem.W.fnOf "is_below" "is_below" (defArgs s_is_below) (defBody s_is_below) (defScope s_is_below) .none kV_is_below dc_is_below pm_is_below an_is_below cd_is_below ct_is_below), sl_is_below⟩)
    (c_is_below : PySem.W.codeIn K cd_is_below "is_below" = true) (k_is_below : PySem.W.keepIn K (.ref f_is_below) = true)
    {f_lesser : Addr} {od_lesser an_lesser : Option Addr} {sl_lesser : Array (Option Value)} {oc_lesser kV_lesser dc_lesser pm_lesser cd_lesser ct_lesser : Value}
    (a_lesser : PySem.W.nsIn K mainGlobals "lesser" = some (some (.ref f_lesser)))
    (l_lesser : K.lookup f_lesser = some ⟨oc_lesser, od_lesser, .func (PySem.W.fnOf "lesser" "lesser" (defArgs s_lesser) (defBody s_lesser) (defScope s_lesser) .none kV_lesser dc_lesser pm_lesser an_lesser cd_lesser ct_lesser), sl_lesser⟩)
    (c_lesser : PySem.W.codeIn K cd_lesser "lesser" = true) (k_lesser : PySem.W.keepIn K (.ref f_lesser) = true)
    {f_greater : Addr} {od_greater an_greater : Option Addr} {sl_greater : Array (Option Value)} {oc_greater kV_greater dc_greater pm_greater cd_greater ct_greater : Value}
    (a_greater : PySem.W.nsIn K mainGlobals "greater" = some (some (.ref f_greater)))
    (l_greater : K.lookup f_greater = some ⟨oc_greater, od_greater, .func (PySem.W.fnOf "greater" "greater" (defArgs s_greater) (defBody s_greater) (defScope s_greater) .none kV_greater dc_greater pm_greater an_greater cd_greater ct_greater), sl_greater⟩)
    (c_greater : PySem.W.codeIn K cd_greater "greater" = true) (k_greater : PySem.W.keepIn K (.ref f_greater) = true)
    {f_power : Addr} {od_power an_power : Option Addr} {sl_power : Array (Option Value)} {oc_power kV_power dc_power pm_power cd_power ct_power : Value}
    (a_power : PySem.W.nsIn K mainGlobals "power" = some (some (.ref f_power)))
    (l_power : K.lookup f_power = some ⟨oc_power, od_power, .func (PySem.W.fnOf "power" "power" (defArgs s_power) (defBody s_power) (defScope s_power) .none kV_power dc_power pm_power an_power cd_power ct_power), sl_power⟩)
    (c_power : PySem.W.codeIn K cd_power "power" = true) (k_power : PySem.W.keepIn K (.ref f_power) = true)
    {f_width_of : Addr} {od_width_of an_width_of : Option Addr} {sl_width_of : Array (Option Value)} {oc_width_of kV_width_of dc_width_of pm_width_of cd_width_of ct_width_of : Value}
    (a_width_of : PySem.W.nsIn K mainGlobals "width_of" = some (some (.ref f_width_of)))
    (l_width_of : K.lookup f_width_of = some ⟨oc_width_of, od_width_of, .func (PySem.W.fnOf "width_of" "width_of" (defArgs s_width_of) (defBody s_width_of) (defScope s_width_of) .none kV_width_of dc_width_of pm_width_of an_width_of cd_width_of ct_width_of), sl_width_of⟩)
    (c_width_of : PySem.W.codeIn K cd_width_of "width_of" = true) (k_width_of : PySem.W.keepIn K (.ref f_width_of) = true)
    {f_least_power : Addr} {od_least_power an_least_power : Option Addr} {sl_least_power : Array (Option Value)} {oc_least_power kV_least_power dc_least_power pm_least_power cd_least_power ct_least_power : Value}
    (a_least_power : PySem.W.nsIn K mainGlobals "least_power" = some (some (.ref f_least_power)))
    (l_least_power : K.lookup f_least_power = some ⟨oc_least_power, od_least_power, .func (PySem.W.fnOf "least_power" "least_power" (defArgs s_least_power) (defBody s_least_power) (defScope s_least_power) .none kV_least_power dc_least_power pm_least_power an_least_power cd_least_power ct_least_power), sl_least_power⟩)
    (c_least_power : PySem.W.codeIn K cd_least_power "least_power" = true) (k_least_power : PySem.W.keepIn K (.ref f_least_power) = true)
    {f_told_lag : Addr} {od_told_lag an_told_lag : Option Addr} {sl_told_lag : Array (Option Value)} {oc_told_lag kV_told_lag dc_told_lag pm_told_lag cd_told_lag ct_told_lag : Value}
    (a_told_lag : PySem.W.nsIn K mainGlobals "told_lag" = some (some (.ref f_told_lag)))
    (l_told_lag : K.lookup f_told_lag = some ⟨oc_told_lag, od_told_lag, .func (PySem.W.fnOf "told_lag" "told_lag" (defArgs s_told_lag) (defBody s_told_lag) (defScope s_told_lag) .none kV_told_lag dc_told_lag pm_told_lag an_told_lag cd_told_lag ct_told_lag), sl_told_lag⟩)
    (c_told_lag : PySem.W.codeIn K cd_told_lag "told_lag" = true) (k_told_lag : PySem.W.keepIn K (.ref f_told_lag) = true)
    {f_known_to : Addr} {od_known_to an_known_to : Option Addr} {sl_known_to : Array (Option Value)} {oc_known_to kV_known_to dc_known_to pm_known_to cd_known_to ct_known_to : Value}
    (a_known_to : PySem.W.nsIn K mainGlobals "known_to" = some (some (.ref f_known_to)))
    (l_known_to : K.lookup f_known_to = some ⟨oc_known_to, od_known_to, .func (PySem.W.fnOf "known_to" "known_to" (defArgs s_known_to) (defBody s_known_to) (defScope s_known_to) .none kV_known_to dc_known_to pm_known_to an_known_to cd_known_to ct_known_to), sl_known_to⟩)
    (c_known_to : PySem.W.codeIn K cd_known_to "known_to" = true) (k_known_to : PySem.W.keepIn K (.ref f_known_to) = true)
    {f_whole_of : Addr} {od_whole_of an_whole_of : Option Addr} {sl_whole_of : Array (Option Value)} {oc_whole_of kV_whole_of dc_whole_of pm_whole_of cd_whole_of ct_whole_of : Value}
    (a_whole_of : PySem.W.nsIn K mainGlobals "whole_of" = some (some (.ref f_whole_of)))
    (l_whole_of : K.lookup f_whole_of = some ⟨oc_whole_of, od_whole_of, .func (PySem.W.fnOf "whole_of" "whole_of" (defArgs s_whole_of) (defBody s_whole_of) (defScope s_whole_of) .none kV_whole_of dc_whole_of pm_whole_of an_whole_of cd_whole_of ct_whole_of), sl_whole_of⟩)
    (c_whole_of : PySem.W.codeIn K cd_whole_of "whole_of" = true) (k_whole_of : PySem.W.keepIn K (.ref f_whole_of) = true)
    {f_worth_of : Addr} {od_worth_of an_worth_of : Option Addr} {sl_worth_of : Array (Option Value)} {oc_worth_of kV_worth_of dc_worth_of pm_worth_of cd_worth_of ct_worth_of : Value}
    (a_worth_of : PySem.W.nsIn K mainGlobals "worth_of" = some (some (.ref f_worth_of)))
    (l_worth_of : K.lookup f_worth_of = some ⟨oc_worth_of, od_worth_of, .func (PySem.W.fnOf "worth_of" "worth_of" (defArgs s_worth_of) (defBody s_worth_of) (defScope s_worth_of) .none kV_worth_of dc_worth_of pm_worth_of an_worth_of cd_worth_of ct_worth_of), sl_worth_of⟩)
    (c_worth_of : PySem.W.codeIn K cd_worth_of "worth_of" = true) (k_worth_of : PySem.W.keepIn K (.ref f_worth_of) = true)
    {f_tail_of : Addr} {od_tail_of an_tail_of : Option Addr} {sl_tail_of : Array (Option Value)} {oc_tail_of kV_tail_of dc_tail_of pm_tail_of cd_tail_of ct_tail_of : Value}
    (a_tail_of : PySem.W.nsIn K mainGlobals "tail_of" = some (some (.ref f_tail_of)))
    (l_tail_of : K.lookup f_tail_of = some ⟨oc_tail_of, od_tail_of, .func (PySem.W.fnOf "tail_of" "tail_of" (defArgs s_tail_of) (defBody s_tail_of) (defScope s_tail_of) .none kV_tail_of dc_tail_of pm_tail_of an_tail_of cd_tail_of ct_tail_of), sl_tail_of⟩)
    (c_tail_of : PySem.W.codeIn K cd_tail_of "tail_of" = true) (k_tail_of : PySem.W.keepIn K (.ref f_tail_of) = true)
    {f_span_of : Addr} {od_span_of an_span_of : Option Addr} {sl_span_of : Array (Option Value)} {oc_span_of kV_span_of dc_span_of pm_span_of cd_span_of ct_span_of : Value}
    (a_span_of : PySem.W.nsIn K mainGlobals "span_of" = some (some (.ref f_span_of)))
    (l_span_of : K.lookup f_span_of = some ⟨oc_span_of, od_span_of, .func (PySem.W.fnOf "span_of" "span_of" (defArgs s_span_of) (defBody s_span_of) (defScope s_span_of) .none kV_span_of dc_span_of pm_span_of an_span_of cd_span_of ct_span_of), sl_span_of⟩)
    (c_span_of : PySem.W.codeIn K cd_span_of "span_of" = true) (k_span_of : PySem.W.keepIn K (.ref f_span_of) = true)
    {f_cut_of : Addr} {od_cut_of an_cut_of : Option Addr} {sl_cut_of : Array (Option Value)} {oc_cut_of kV_cut_of dc_cut_of pm_cut_of cd_cut_of ct_cut_of : Value}
    (a_cut_of : PySem.W.nsIn K mainGlobals "cut_of" = some (some (.ref f_cut_of)))
    (l_cut_of : K.lookup f_cut_of = some ⟨oc_cut_of, od_cut_of, .func (PySem.W.fnOf "cut_of" "cut_of" (defArgs s_cut_of) (defBody s_cut_of) (defScope s_cut_of) .none kV_cut_of dc_cut_of pm_cut_of an_cut_of cd_cut_of ct_cut_of), sl_cut_of⟩)
    (c_cut_of : PySem.W.codeIn K cd_cut_of "cut_of" = true) (k_cut_of : PySem.W.keepIn K (.ref f_cut_of) = true)
    {f_order_of : Addr} {od_order_of an_order_of : Option Addr} {sl_order_of : Array (Option Value)} {oc_order_of kV_order_of dc_order_of pm_order_of cd_order_of ct_order_of : Value}
    (a_order_of : PySem.W.nsIn K mainGlobals "order_of" = some (some (.ref f_order_of)))
    (l_order_of : K.lookup f_order_of = some ⟨oc_order_of, od_order_of, .func (PySem.W.fnOf "order_of" "order_of" (defArgs s_order_of) (defBody s_order_of) (defScope s_order_of) .none kV_order_of dc_order_of pm_order_of an_order_of cd_order_of ct_order_of), sl_order_of⟩)
    (c_order_of : PySem.W.codeIn K cd_order_of "order_of" = true) (k_order_of : PySem.W.keepIn K (.ref f_order_of) = true)
    {f_paired : Addr} {od_paired an_paired : Option Addr} {sl_paired : Array (Option Value)} {oc_paired kV_paired dc_paired pm_paired cd_paired ct_paired : Value}
    (a_paired : PySem.W.nsIn K mainGlobals "paired" = some (some (.ref f_paired)))
    (l_paired : K.lookup f_paired = some ⟨oc_paired, od_paired, .func (PySem.W.fnOf "paired" "paired" (defArgs s_paired) (defBody s_paired) (defScope s_paired) .none kV_paired dc_paired pm_paired an_paired cd_paired ct_paired), sl_paired⟩)
    (c_paired : PySem.W.codeIn K cd_paired "paired" = true) (k_paired : PySem.W.keepIn K (.ref f_paired) = true)
    {f_many_of : Addr} {od_many_of an_many_of : Option Addr} {sl_many_of : Array (Option Value)} {oc_many_of kV_many_of dc_many_of pm_many_of cd_many_of ct_many_of : Value}
    (a_many_of : PySem.W.nsIn K mainGlobals "many_of" = some (some (.ref f_many_of)))
    (l_many_of : K.lookup f_many_of = some ⟨oc_many_of, od_many_of, .func (PySem.W.fnOf "many_of" "many_of" (defArgs s_many_of) (defBody s_many_of) (defScope s_many_of) .none kV_many_of dc_many_of pm_many_of an_many_of cd_many_of ct_many_of), sl_many_of⟩)
    (c_many_of : PySem.W.codeIn K cd_many_of "many_of" = true) (k_many_of : PySem.W.keepIn K (.ref f_many_of) = true)
    {f_chooses : Addr} {od_chooses an_chooses : Option Addr} {sl_chooses : Array (Option Value)} {oc_chooses kV_chooses dc_chooses pm_chooses cd_chooses ct_chooses : Value}
    (a_chooses : PySem.W.nsIn K mainGlobals "chooses" = some (some (.ref f_chooses)))
    (l_chooses : K.lookup f_chooses = some ⟨oc_chooses, od_chooses, .func (PySem.W.fnOf "chooses" "chooses" (defArgs s_chooses) (defBody s_chooses) (defScope s_chooses) .none kV_chooses dc_chooses pm_chooses an_chooses cd_chooses ct_chooses), sl_chooses⟩)
    (c_chooses : PySem.W.codeIn K cd_chooses "chooses" = true) (k_chooses : PySem.W.keepIn K (.ref f_chooses) = true)
    {f_weighed : Addr} {od_weighed an_weighed : Option Addr} {sl_weighed : Array (Option Value)} {oc_weighed kV_weighed dc_weighed pm_weighed cd_weighed ct_weighed : Value}
    (a_weighed : PySem.W.nsIn K mainGlobals "weighed" = some (some (.ref f_weighed)))
    (l_weighed : K.lookup f_weighed = some ⟨oc_weighed, od_weighed, .func (PySem.W.fnOf "weighed" "weighed" (defArgs s_weighed) (defBody s_weighed) (defScope s_weighed) .none kV_weighed dc_weighed pm_weighed an_weighed cd_weighed ct_weighed), sl_weighed⟩)
    (c_weighed : PySem.W.codeIn K cd_weighed "weighed" = true) (k_weighed : PySem.W.keepIn K (.ref f_weighed) = true)
    {f_applied : Addr} {od_applied an_applied : Option Addr} {sl_applied : Array (Option Value)} {oc_applied kV_applied dc_applied pm_applied cd_applied ct_applied : Value}
    (a_applied : PySem.W.nsIn K mainGlobals "applied" = some (some (.ref f_applied)))
    (l_applied : K.lookup f_applied = some ⟨oc_applied, od_applied, .func (PySem.W.fnOf "applied" "applied" (defArgs s_applied) (defBody s_applied) (defScope s_applied) .none kV_applied dc_applied pm_applied an_applied cd_applied ct_applied), sl_applied⟩)
    (c_applied : PySem.W.codeIn K cd_applied "applied" = true) (k_applied : PySem.W.keepIn K (.ref f_applied) = true)
    {f_corners_of : Addr} {od_corners_of an_corners_of : Option Addr} {sl_corners_of : Array (Option Value)} {oc_corners_of kV_corners_of dc_corners_of pm_corners_of cd_corners_of ct_corners_of : Value}
    (a_corners_of : PySem.W.nsIn K mainGlobals "corners_of" = some (some (.ref f_corners_of)))
    (l_corners_of : K.lookup f_corners_of = some ⟨oc_corners_of, od_corners_of, .func (PySem.W.fnOf "corners_of" "corners_of" (defArgs s_corners_of) (defBody s_corners_of) (defScope s_corners_of) .none kV_corners_of dc_corners_of pm_corners_of an_corners_of cd_corners_of ct_corners_of), sl_corners_of⟩)
    (c_corners_of : PySem.W.codeIn K cd_corners_of "corners_of" = true) (k_corners_of : PySem.W.keepIn K (.ref f_corners_of) = true)
    {f_numbers_at : Addr} {od_numbers_at an_numbers_at : Option Addr} {sl_numbers_at : Array (Option Value)} {oc_numbers_at kV_numbers_at dc_numbers_at pm_numbers_at cd_numbers_at ct_numbers_at : Value}
    (a_numbers_at : PySem.W.nsIn K mainGlobals "numbers_at" = some (some (.ref f_numbers_at)))
    (l_numbers_at : K.lookup f_numbers_at = some ⟨oc_numbers_at, od_numbers_at, .func (PySem.W.fnOf "numbers_at" "numbers_at" (defArgs s_numbers_at) (defBody s_numbers_at) (defScope s_numbers_at) .none kV_numbers_at dc_numbers_at pm_numbers_at an_numbers_at cd_numbers_at ct_numbers_at), sl_numbers_at⟩)
    (c_numbers_at : PySem.W.codeIn K cd_numbers_at "numbers_at" = true) (k_numbers_at : PySem.W.keepIn K (.ref f_numbers_at) = true)
    {f_reach_of : Addr} {od_reach_of an_reach_of : Option Addr} {sl_reach_of : Array (Option Value)} {oc_reach_of kV_reach_of dc_reach_of pm_reach_of cd_reach_of ct_reach_of : Value}
    (a_reach_of : PySem.W.nsIn K mainGlobals "reach_of" = some (some (.ref f_reach_of)))
    (l_reach_of : K.lookup f_reach_of = some ⟨oc_reach_of, od_reach_of, .func (PySem.W.fnOf "reach_of" "reach_of" (defArgs s_reach_of) (defBody s_reach_of) (defScope s_reach_of) .none kV_reach_of dc_reach_of pm_reach_of an_reach_of cd_reach_of ct_reach_of), sl_reach_of⟩)
    (c_reach_of : PySem.W.codeIn K cd_reach_of "reach_of" = true) (k_reach_of : PySem.W.keepIn K (.ref f_reach_of) = true)
    {f_raised : Addr} {od_raised an_raised : Option Addr} {sl_raised : Array (Option Value)} {oc_raised kV_raised dc_raised pm_raised cd_raised ct_raised : Value}
    (a_raised : PySem.W.nsIn K mainGlobals "raised" = some (some (.ref f_raised)))
    (l_raised : K.lookup f_raised = some ⟨oc_raised, od_raised, .func (PySem.W.fnOf "raised" "raised" (defArgs s_raised) (defBody s_raised) (defScope s_raised) .none kV_raised dc_raised pm_raised an_raised cd_raised ct_raised), sl_raised⟩)
    (c_raised : PySem.W.codeIn K cd_raised "raised" = true) (k_raised : PySem.W.keepIn K (.ref f_raised) = true)
    {f_figures_between : Addr} {od_figures_between an_figures_between : Option Addr} {sl_figures_between : Array (Option Value)} {oc_figures_between kV_figures_between dc_figures_between pm_figures_between cd_figures_between ct_figures_between : Value}
    (a_figures_between : PySem.W.nsIn K mainGlobals "figures_between" = some (some (.ref f_figures_between)))
    (l_figures_between : K.lookup f_figures_between = some ⟨oc_figures_between, od_figures_between, .func (PySem.W.fnOf "figures_between" "figures_between" (defArgs s_figures_between) (defBody s_figures_between) (defScope s_figures_between) .none kV_figures_between dc_figures_between pm_figures_between an_figures_between cd_figures_between ct_figures_between), sl_figures_between⟩)
    (c_figures_between : PySem.W.codeIn K cd_figures_between "figures_between" = true) (k_figures_between : PySem.W.keepIn K (.ref f_figures_between) = true)
    {f_right_figures : Addr} {od_right_figures an_right_figures : Option Addr} {sl_right_figures : Array (Option Value)} {oc_right_figures kV_right_figures dc_right_figures pm_right_figures cd_right_figures ct_right_figures : Value}
    (a_right_figures : PySem.W.nsIn K mainGlobals "right_figures" = some (some (.ref f_right_figures)))
    (l_right_figures : K.lookup f_right_figures = some ⟨oc_right_figures, od_right_figures, .func (PySem.W.fnOf "right_figures" "right_figures" (defArgs s_right_figures) (defBody s_right_figures) (defScope s_right_figures) .none kV_right_figures dc_right_figures pm_right_figures an_right_figures cd_right_figures ct_right_figures), sl_right_figures⟩)
    (c_right_figures : PySem.W.codeIn K cd_right_figures "right_figures" = true) (k_right_figures : PySem.W.keepIn K (.ref f_right_figures) = true)
    {f_size_of : Addr} {od_size_of an_size_of : Option Addr} {sl_size_of : Array (Option Value)} {oc_size_of kV_size_of dc_size_of pm_size_of cd_size_of ct_size_of : Value}
    (a_size_of : PySem.W.nsIn K mainGlobals "size_of" = some (some (.ref f_size_of)))
    (l_size_of : K.lookup f_size_of = some ⟨oc_size_of, od_size_of, .func (PySem.W.fnOf "size_of" "size_of" (defArgs s_size_of) (defBody s_size_of) (defScope s_size_of) .none kV_size_of dc_size_of pm_size_of an_size_of cd_size_of ct_size_of), sl_size_of⟩)
    (c_size_of : PySem.W.codeIn K cd_size_of "size_of" = true) (k_size_of : PySem.W.keepIn K (.ref f_size_of) = true)
    {f_first_read : Addr} {od_first_read an_first_read : Option Addr} {sl_first_read : Array (Option Value)} {oc_first_read kV_first_read dc_first_read pm_first_read cd_first_read ct_first_read : Value}
    (a_first_read : PySem.W.nsIn K mainGlobals "first_read" = some (some (.ref f_first_read)))
    (l_first_read : K.lookup f_first_read = some ⟨oc_first_read, od_first_read, .func (PySem.W.fnOf "first_read" "first_read" (defArgs s_first_read) (defBody s_first_read) (defScope s_first_read) .none kV_first_read dc_first_read pm_first_read an_first_read cd_first_read ct_first_read), sl_first_read⟩)
    (c_first_read : PySem.W.codeIn K cd_first_read "first_read" = true) (k_first_read : PySem.W.keepIn K (.ref f_first_read) = true)
    {f_figure_at : Addr} {od_figure_at an_figure_at : Option Addr} {sl_figure_at : Array (Option Value)} {oc_figure_at kV_figure_at dc_figure_at pm_figure_at cd_figure_at ct_figure_at : Value}
    (a_figure_at : PySem.W.nsIn K mainGlobals "figure_at" = some (some (.ref f_figure_at)))
    (l_figure_at : K.lookup f_figure_at = some ⟨oc_figure_at, od_figure_at, .func (PySem.W.fnOf "figure_at" "figure_at" (defArgs s_figure_at) (defBody s_figure_at) (defScope s_figure_at) .none kV_figure_at dc_figure_at pm_figure_at an_figure_at cd_figure_at ct_figure_at), sl_figure_at⟩)
    (c_figure_at : PySem.W.codeIn K cd_figure_at "figure_at" = true) (k_figure_at : PySem.W.keepIn K (.ref f_figure_at) = true)
    {f_Machine_init : Addr} {od_Machine_init an_Machine_init : Option Addr} {sl_Machine_init : Array (Option Value)} {oc_Machine_init kV_Machine_init dc_Machine_init pm_Machine_init cd_Machine_init ct_Machine_init : Value}
    (a_Machine_init : PySem.W.findIn K (.ref C_Machine) "__init__" = some (some (.ref f_Machine_init))) (i_Machine_init : PySem.W.isFn K (.ref f_Machine_init) = true)
    (l_Machine_init : K.lookup f_Machine_init = some ⟨oc_Machine_init, od_Machine_init, .func (PySem.W.fnOf "__init__" "Machine.__init__" (defArgs s_Machine_init) (defBody s_Machine_init) (defScope s_Machine_init) .none kV_Machine_init dc_Machine_init pm_Machine_init an_Machine_init cd_Machine_init ct_Machine_init), sl_Machine_init⟩)
    (c_Machine_init : PySem.W.codeIn K cd_Machine_init "Machine.__init__" = true) (k_Machine_init : PySem.W.keepIn K (.ref f_Machine_init) = true)
    {f_Machine_row : Addr} {od_Machine_row an_Machine_row : Option Addr} {sl_Machine_row : Array (Option Value)} {oc_Machine_row kV_Machine_row dc_Machine_row pm_Machine_row cd_Machine_row ct_Machine_row : Value}
    (a_Machine_row : PySem.W.findIn K (.ref C_Machine) "row" = some (some (.ref f_Machine_row))) (i_Machine_row : PySem.W.isFn K (.ref f_Machine_row) = true)
    (l_Machine_row : K.lookup f_Machine_row = some ⟨oc_Machine_row, od_Machine_row, .func (PySem.W.fnOf "row" "Machine.row" (defArgs s_Machine_row) (defBody s_Machine_row) (defScope s_Machine_row) .none kV_Machine_row dc_Machine_row pm_Machine_row an_Machine_row cd_Machine_row ct_Machine_row), sl_Machine_row⟩)
    (c_Machine_row : PySem.W.codeIn K cd_Machine_row "Machine.row" = true) (k_Machine_row : PySem.W.keepIn K (.ref f_Machine_row) = true)
    {f_Machine_next_place : Addr} {od_Machine_next_place an_Machine_next_place : Option Addr} {sl_Machine_next_place : Array (Option Value)} {oc_Machine_next_place kV_Machine_next_place dc_Machine_next_place pm_Machine_next_place cd_Machine_next_place ct_Machine_next_place : Value}
    (a_Machine_next_place : PySem.W.findIn K (.ref C_Machine) "next_place" = some (some (.ref f_Machine_next_place))) (i_Machine_next_place : PySem.W.isFn K (.ref f_Machine_next_place) = true)
    (l_Machine_next_place : K.lookup f_Machine_next_place = some ⟨oc_Machine_next_place, od_Machine_next_place, .func (PySem.W.fnOf "next_place" "Machine.next_place" (defArgs s_Machine_next_place) (defBody s_Machine_next_place) (defScope s_Machine_next_place) .none kV_Machine_next_place dc_Machine_next_place pm_Machine_next_place an_Machine_next_place cd_Machine_next_place ct_Machine_next_place), sl_Machine_next_place⟩)
    (c_Machine_next_place : PySem.W.codeIn K cd_Machine_next_place "Machine.next_place" = true) (k_Machine_next_place : PySem.W.keepIn K (.ref f_Machine_next_place) = true)
    {f_Machine_seen : Addr} {od_Machine_seen an_Machine_seen : Option Addr} {sl_Machine_seen : Array (Option Value)} {oc_Machine_seen kV_Machine_seen dc_Machine_seen pm_Machine_seen cd_Machine_seen ct_Machine_seen : Value}
    (a_Machine_seen : PySem.W.findIn K (.ref C_Machine) "seen" = some (some (.ref f_Machine_seen))) (i_Machine_seen : PySem.W.isFn K (.ref f_Machine_seen) = true)
    (l_Machine_seen : K.lookup f_Machine_seen = some ⟨oc_Machine_seen, od_Machine_seen, .func (PySem.W.fnOf "seen" "Machine.seen" (defArgs s_Machine_seen) (defBody s_Machine_seen) (defScope s_Machine_seen) .none kV_Machine_seen dc_Machine_seen pm_Machine_seen an_Machine_seen cd_Machine_seen ct_Machine_seen), sl_Machine_seen⟩)
    (c_Machine_seen : PySem.W.codeIn K cd_Machine_seen "Machine.seen" = true) (k_Machine_seen : PySem.W.keepIn K (.ref f_Machine_seen) = true)
    {f_Machine_has_next : Addr} {od_Machine_has_next an_Machine_has_next : Option Addr} {sl_Machine_has_next : Array (Option Value)} {oc_Machine_has_next kV_Machine_has_next dc_Machine_has_next pm_Machine_has_next cd_Machine_has_next ct_Machine_has_next : Value}
    (a_Machine_has_next : PySem.W.findIn K (.ref C_Machine) "has_next" = some (some (.ref f_Machine_has_next))) (i_Machine_has_next : PySem.W.isFn K (.ref f_Machine_has_next) = true)
    (l_Machine_has_next : K.lookup f_Machine_has_next = some ⟨oc_Machine_has_next, od_Machine_has_next, .func (PySem.W.fnOf "has_next" "Machine.has_next" (defArgs s_Machine_has_next) (defBody s_Machine_has_next) (defScope s_Machine_has_next) .none kV_Machine_has_next dc_Machine_has_next pm_Machine_has_next an_Machine_has_next cd_Machine_has_next ct_Machine_has_next), sl_Machine_has_next⟩)
    (c_Machine_has_next : PySem.W.codeIn K cd_Machine_has_next "Machine.has_next" = true) (k_Machine_has_next : PySem.W.keepIn K (.ref f_Machine_has_next) = true)
    {f_Machine_right_one : Addr} {od_Machine_right_one an_Machine_right_one : Option Addr} {sl_Machine_right_one : Array (Option Value)} {oc_Machine_right_one kV_Machine_right_one dc_Machine_right_one pm_Machine_right_one cd_Machine_right_one ct_Machine_right_one : Value}
    (a_Machine_right_one : PySem.W.findIn K (.ref C_Machine) "right_one" = some (some (.ref f_Machine_right_one))) (i_Machine_right_one : PySem.W.isFn K (.ref f_Machine_right_one) = true)
    (l_Machine_right_one : K.lookup f_Machine_right_one = some ⟨oc_Machine_right_one, od_Machine_right_one, .func (PySem.W.fnOf "right_one" "Machine.right_one" (defArgs s_Machine_right_one) (defBody s_Machine_right_one) (defScope s_Machine_right_one) .none kV_Machine_right_one dc_Machine_right_one pm_Machine_right_one an_Machine_right_one cd_Machine_right_one ct_Machine_right_one), sl_Machine_right_one⟩)
    (c_Machine_right_one : PySem.W.codeIn K cd_Machine_right_one "Machine.right_one" = true) (k_Machine_right_one : PySem.W.keepIn K (.ref f_Machine_right_one) = true)
    {f_Machine_plain_step : Addr} {od_Machine_plain_step an_Machine_plain_step : Option Addr} {sl_Machine_plain_step : Array (Option Value)} {oc_Machine_plain_step kV_Machine_plain_step dc_Machine_plain_step pm_Machine_plain_step cd_Machine_plain_step ct_Machine_plain_step : Value}
    (a_Machine_plain_step : PySem.W.findIn K (.ref C_Machine) "plain_step" = some (some (.ref f_Machine_plain_step))) (i_Machine_plain_step : PySem.W.isFn K (.ref f_Machine_plain_step) = true)
    (l_Machine_plain_step : K.lookup f_Machine_plain_step = some ⟨oc_Machine_plain_step, od_Machine_plain_step, .func (PySem.W.fnOf "plain_step" "Machine.plain_step" (defArgs s_Machine_plain_step) (defBody s_Machine_plain_step) (defScope s_Machine_plain_step) .none kV_Machine_plain_step dc_Machine_plain_step pm_Machine_plain_step an_Machine_plain_step cd_Machine_plain_step ct_Machine_plain_step), sl_Machine_plain_step⟩)
    (c_Machine_plain_step : PySem.W.codeIn K cd_Machine_plain_step "Machine.plain_step" = true) (k_Machine_plain_step : PySem.W.keepIn K (.ref f_Machine_plain_step) = true)
    {f_Machine_step : Addr} {od_Machine_step an_Machine_step : Option Addr} {sl_Machine_step : Array (Option Value)} {oc_Machine_step kV_Machine_step dc_Machine_step pm_Machine_step cd_Machine_step ct_Machine_step : Value}
    (a_Machine_step : PySem.W.findIn K (.ref C_Machine) "step" = some (some (.ref f_Machine_step))) (i_Machine_step : PySem.W.isFn K (.ref f_Machine_step) = true)
    (l_Machine_step : K.lookup f_Machine_step = some ⟨oc_Machine_step, od_Machine_step, .func (PySem.W.fnOf "step" "Machine.step" (defArgs s_Machine_step) (defBody s_Machine_step) (defScope s_Machine_step) .none kV_Machine_step dc_Machine_step pm_Machine_step an_Machine_step cd_Machine_step ct_Machine_step), sl_Machine_step⟩)
    (c_Machine_step : PySem.W.codeIn K cd_Machine_step "Machine.step" = true) (k_Machine_step : PySem.W.keepIn K (.ref f_Machine_step) = true)
    {f_steps_of : Addr} {od_steps_of an_steps_of : Option Addr} {sl_steps_of : Array (Option Value)} {oc_steps_of kV_steps_of dc_steps_of pm_steps_of cd_steps_of ct_steps_of : Value}
    (a_steps_of : PySem.W.nsIn K mainGlobals "steps_of" = some (some (.ref f_steps_of)))
    (l_steps_of : K.lookup f_steps_of = some ⟨oc_steps_of, od_steps_of, .func (PySem.W.fnOf "steps_of" "steps_of" (defArgs s_steps_of) (defBody s_steps_of) (defScope s_steps_of) .none kV_steps_of dc_steps_of pm_steps_of an_steps_of cd_steps_of ct_steps_of), sl_steps_of⟩)
    (c_steps_of : PySem.W.codeIn K cd_steps_of "steps_of" = true) (k_steps_of : PySem.W.keepIn K (.ref f_steps_of) = true)
    {f_part_run : Addr} {od_part_run an_part_run : Option Addr} {sl_part_run : Array (Option Value)} {oc_part_run kV_part_run dc_part_run pm_part_run cd_part_run ct_part_run : Value}
    (a_part_run : PySem.W.nsIn K mainGlobals "part_run" = some (some (.ref f_part_run)))
    (l_part_run : K.lookup f_part_run = some ⟨oc_part_run, od_part_run, .func (PySem.W.fnOf "part_run" "part_run" (defArgs s_part_run) (defBody s_part_run) (defScope s_part_run) .none kV_part_run dc_part_run pm_part_run an_part_run cd_part_run ct_part_run), sl_part_run⟩)
    (c_part_run : PySem.W.codeIn K cd_part_run "part_run" = true) (k_part_run : PySem.W.keepIn K (.ref f_part_run) = true)
    {f_is_within : Addr} {od_is_within an_is_within : Option Addr} {sl_is_within : Array (Option Value)} {oc_is_within kV_is_within dc_is_within pm_is_within cd_is_within ct_is_within : Value}
    (a_is_within : PySem.W.nsIn K mainGlobals "is_within" = some (some (.ref f_is_within)))
    (l_is_within : K.lookup f_is_within = some ⟨oc_is_within, od_is_within, .func (PySem.W.fnOf "is_within" "is_within" (defArgs s_is_within) (defBody s_is_within) (defScope s_is_within) .none kV_is_within dc_is_within pm_is_within an_is_within cd_is_within ct_is_within), sl_is_within⟩)
    (c_is_within : PySem.W.codeIn K cd_is_within "is_within" = true) (k_is_within : PySem.W.keepIn K (.ref f_is_within) = true)
    {f_fits : Addr} {od_fits an_fits : Option Addr} {sl_fits : Array (Option Value)} {oc_fits kV_fits dc_fits pm_fits cd_fits ct_fits : Value}
    (a_fits : PySem.W.nsIn K mainGlobals "fits" = some (some (.ref f_fits)))
    (l_fits : K.lookup f_fits = some ⟨oc_fits, od_fits, .func (PySem.W.fnOf "fits" "fits" (defArgs s_fits) (defBody s_fits) (defScope s_fits) .none kV_fits dc_fits pm_fits an_fits cd_fits ct_fits), sl_fits⟩)
    (c_fits : PySem.W.codeIn K cd_fits "fits" = true) (k_fits : PySem.W.keepIn K (.ref f_fits) = true)
    {f_Lcell_at : Addr} {od_Lcell_at an_Lcell_at : Option Addr} {sl_Lcell_at : Array (Option Value)} {oc_Lcell_at kV_Lcell_at dc_Lcell_at pm_Lcell_at cd_Lcell_at ct_Lcell_at : Value}
    (a_Lcell_at : PySem.W.nsIn K mainGlobals "_law_cell_at" = some (some (.ref f_Lcell_at)))
    (l_Lcell_at : K.lookup f_Lcell_at = some ⟨oc_Lcell_at, od_Lcell_at, .func (PySem.W.fnOf "_law_cell_at" "_law_cell_at" (defArgs s_Lcell_at) (defBody s_Lcell_at) (defScope s_Lcell_at) .none kV_Lcell_at dc_Lcell_at pm_Lcell_at an_Lcell_at cd_Lcell_at ct_Lcell_at), sl_Lcell_at⟩)
    (c_Lcell_at : PySem.W.codeIn K cd_Lcell_at "_law_cell_at" = true) (k_Lcell_at : PySem.W.keepIn K (.ref f_Lcell_at) = true)
    {f_Lbox : Addr} {od_Lbox an_Lbox : Option Addr} {sl_Lbox : Array (Option Value)} {oc_Lbox kV_Lbox dc_Lbox pm_Lbox cd_Lbox ct_Lbox : Value}
    (a_Lbox : PySem.W.nsIn K mainGlobals "_law_box" = some (some (.ref f_Lbox)))
    (l_Lbox : K.lookup f_Lbox = some ⟨oc_Lbox, od_Lbox, .func (PySem.W.fnOf "_law_box" "_law_box" (defArgs s_Lbox) (defBody s_Lbox) (defScope s_Lbox) .none kV_Lbox dc_Lbox pm_Lbox an_Lbox cd_Lbox ct_Lbox), sl_Lbox⟩)
    (c_Lbox : PySem.W.codeIn K cd_Lbox "_law_box" = true) (k_Lbox : PySem.W.keepIn K (.ref f_Lbox) = true)
    {f_Ltake : Addr} {od_Ltake an_Ltake : Option Addr} {sl_Ltake : Array (Option Value)} {oc_Ltake kV_Ltake dc_Ltake pm_Ltake cd_Ltake ct_Ltake : Value}
    (a_Ltake : PySem.W.nsIn K mainGlobals "_law_take" = some (some (.ref f_Ltake)))
    (l_Ltake : K.lookup f_Ltake = some ⟨oc_Ltake, od_Ltake, .func (PySem.W.fnOf "_law_take" "_law_take" (defArgs s_Ltake) (defBody s_Ltake) (defScope s_Ltake) .none kV_Ltake dc_Ltake pm_Ltake an_Ltake cd_Ltake ct_Ltake), sl_Ltake⟩)
    (c_Ltake : PySem.W.codeIn K cd_Ltake "_law_take" = true) (k_Ltake : PySem.W.keepIn K (.ref f_Ltake) = true)
    {f_Lof : Addr} {od_Lof an_Lof : Option Addr} {sl_Lof : Array (Option Value)} {oc_Lof kV_Lof dc_Lof pm_Lof cd_Lof ct_Lof : Value}
    (a_Lof : PySem.W.nsIn K mainGlobals "_law_of" = some (some (.ref f_Lof)))
    (l_Lof : K.lookup f_Lof = some ⟨oc_Lof, od_Lof, .func (PySem.W.fnOf "_law_of" "_law_of" (defArgs s_Lof) (defBody s_Lof) (defScope s_Lof) .none kV_Lof dc_Lof pm_Lof an_Lof cd_Lof ct_Lof), sl_Lof⟩)
    (c_Lof : PySem.W.codeIn K cd_Lof "_law_of" = true) (k_Lof : PySem.W.keepIn K (.ref f_Lof) = true)
    {f_Lfigures : Addr} {od_Lfigures an_Lfigures : Option Addr} {sl_Lfigures : Array (Option Value)} {oc_Lfigures kV_Lfigures dc_Lfigures pm_Lfigures cd_Lfigures ct_Lfigures : Value}
    (a_Lfigures : PySem.W.nsIn K mainGlobals "_law_figures" = some (some (.ref f_Lfigures)))
    (l_Lfigures : K.lookup f_Lfigures = some ⟨oc_Lfigures, od_Lfigures, .func (PySem.W.fnOf "_law_figures" "_law_figures" (defArgs s_Lfigures) (defBody s_Lfigures) (defScope s_Lfigures) .none kV_Lfigures dc_Lfigures pm_Lfigures an_Lfigures cd_Lfigures ct_Lfigures), sl_Lfigures⟩)
    (c_Lfigures : PySem.W.codeIn K cd_Lfigures "_law_figures" = true) (k_Lfigures : PySem.W.keepIn K (.ref f_Lfigures) = true)
    {f_Lkinds : Addr} {od_Lkinds an_Lkinds : Option Addr} {sl_Lkinds : Array (Option Value)} {oc_Lkinds kV_Lkinds dc_Lkinds pm_Lkinds cd_Lkinds ct_Lkinds : Value}
    (a_Lkinds : PySem.W.nsIn K mainGlobals "_law_kinds" = some (some (.ref f_Lkinds)))
    (l_Lkinds : K.lookup f_Lkinds = some ⟨oc_Lkinds, od_Lkinds, .func (PySem.W.fnOf "_law_kinds" "_law_kinds" (defArgs s_Lkinds) (defBody s_Lkinds) (defScope s_Lkinds) .none kV_Lkinds dc_Lkinds pm_Lkinds an_Lkinds cd_Lkinds ct_Lkinds), sl_Lkinds⟩)
    (c_Lkinds : PySem.W.codeIn K cd_Lkinds "_law_kinds" = true) (k_Lkinds : PySem.W.keepIn K (.ref f_Lkinds) = true)
    {f_Lstart : Addr} {od_Lstart an_Lstart : Option Addr} {sl_Lstart : Array (Option Value)} {oc_Lstart kV_Lstart dc_Lstart pm_Lstart cd_Lstart ct_Lstart : Value}
    (a_Lstart : PySem.W.nsIn K mainGlobals "_law_start" = some (some (.ref f_Lstart)))
    (l_Lstart : K.lookup f_Lstart = some ⟨oc_Lstart, od_Lstart, .func (PySem.W.fnOf "_law_start" "_law_start" (defArgs s_Lstart) (defBody s_Lstart) (defScope s_Lstart) .none kV_Lstart dc_Lstart pm_Lstart an_Lstart cd_Lstart ct_Lstart), sl_Lstart⟩)
    (c_Lstart : PySem.W.codeIn K cd_Lstart "_law_start" = true) (k_Lstart : PySem.W.keepIn K (.ref f_Lstart) = true)
    {f_Lright : Addr} {od_Lright an_Lright : Option Addr} {sl_Lright : Array (Option Value)} {oc_Lright kV_Lright dc_Lright pm_Lright cd_Lright ct_Lright : Value}
    (a_Lright : PySem.W.nsIn K mainGlobals "_law_right" = some (some (.ref f_Lright)))
    (l_Lright : K.lookup f_Lright = some ⟨oc_Lright, od_Lright, .func (PySem.W.fnOf "_law_right" "_law_right" (defArgs s_Lright) (defBody s_Lright) (defScope s_Lright) .none kV_Lright dc_Lright pm_Lright an_Lright cd_Lright ct_Lright), sl_Lright⟩)
    (c_Lright : PySem.W.codeIn K cd_Lright "_law_right" = true) (k_Lright : PySem.W.keepIn K (.ref f_Lright) = true)
    {f_law : Addr} {od_law an_law : Option Addr} {sl_law : Array (Option Value)} {oc_law kV_law dc_law pm_law cd_law ct_law : Value}
    (a_law : PySem.W.nsIn K mainGlobals "law" = some (some (.ref f_law)))
    (l_law : K.lookup f_law = some ⟨oc_law, od_law, .func (PySem.W.fnOf "law" "law" (defArgs s_law) (defBody s_law) (defScope s_law) .none kV_law dc_law pm_law an_law cd_law ct_law), sl_law⟩)
    (c_law : PySem.W.codeIn K cd_law "law" = true) (k_law : PySem.W.keepIn K (.ref f_law) = true)
    (z_abs : PySem.W.nsIn K mainGlobals "abs" = some none)
    (z_all : PySem.W.nsIn K mainGlobals "all" = some none)
    (z_int : PySem.W.nsIn K mainGlobals "int" = some none)
    (z_len : PySem.W.nsIn K mainGlobals "len" = some none)
    (z_list : PySem.W.nsIn K mainGlobals "list" = some none)
    (z_max : PySem.W.nsIn K mainGlobals "max" = some none)
    (z_min : PySem.W.nsIn K mainGlobals "min" = some none)
    (z_range : PySem.W.nsIn K mainGlobals "range" = some none)
    (z_sum : PySem.W.nsIn K mainGlobals "sum" = some none)
    (z_tuple : PySem.W.nsIn K mainGlobals "tuple" = some none)
    (z_zip : PySem.W.nsIn K mainGlobals "zip" = some none)
    {q_ABOVE : Tok} (g_ABOVE : PySem.W.nsIn K mainGlobals "ABOVE" = some (some (.int 1 q_ABOVE)))
    {A_BARE_KINDS : Addr} {e_BARE_KINDS : Array DictEntry} {m_BARE_KINDS : Nat} (g_BARE_KINDS : PySem.W.nsIn K mainGlobals "BARE_KINDS" = some (some (.ref A_BARE_KINDS))) (h_BARE_KINDS : K.lookup A_BARE_KINDS = some ⟨.type "dict", none, .dict e_BARE_KINDS m_BARE_KINDS, #[]⟩) (v_BARE_KINDS : PySem.W.KeysLit w.params e_BARE_KINDS.toList) (u_BARE_KINDS : (A_BARE_KINDS == sysModules) = false)
    (w_BARE_KINDS_0 : PySem.W.nsIn K A_BARE_KINDS "sum" = some none)
    (w_BARE_KINDS_1 : PySem.W.nsIn K A_BARE_KINDS "loose" = some none)
    (w_BARE_KINDS_2 : PySem.W.nsIn K A_BARE_KINDS "moved" = some none)
    (w_BARE_KINDS_3 : PySem.W.nsIn K A_BARE_KINDS "told" = some none)
    {q_BARE_KINDS_4 : Tok} (w_BARE_KINDS_4 : PySem.W.nsIn K A_BARE_KINDS "times" = some (some (.int 2 q_BARE_KINDS_4)))
    (w_BARE_KINDS_5 : PySem.W.nsIn K A_BARE_KINDS "over" = some none)
    {q_BARE_KINDS_6 : Tok} (w_BARE_KINDS_6 : PySem.W.nsIn K A_BARE_KINDS "least" = some (some (.int 2 q_BARE_KINDS_6)))
    {q_BARE_KINDS_7 : Tok} (w_BARE_KINDS_7 : PySem.W.nsIn K A_BARE_KINDS "most" = some (some (.int 2 q_BARE_KINDS_7)))
    {q_BARE_KINDS_8 : Tok} (w_BARE_KINDS_8 : PySem.W.nsIn K A_BARE_KINDS "choose" = some (some (.int 3 q_BARE_KINDS_8)))
    {q_BELOW : Tok} (g_BELOW : PySem.W.nsIn K mainGlobals "BELOW" = some (some (.int (-1) q_BELOW)))
    {A_GIVEN : Addr} {o_GIVEN : Obj} {i_GIVEN : Array Value} {m_GIVEN : Nat} (g_GIVEN : PySem.W.nsIn K mainGlobals "GIVEN" = some (some (.ref A_GIVEN))) (h_GIVEN : K.lookup A_GIVEN = some o_GIVEN) (u_GIVEN : o_GIVEN.cls = .type "tuple") (u2_GIVEN : o_GIVEN.data = .seq i_GIVEN m_GIVEN) (y_GIVEN : i_GIVEN.size ≤ sizeLine) (v_GIVEN : Vals [.str "loose", .str "moved"] i_GIVEN.toList)
    {q_LOOSE : Tok} (g_LOOSE : PySem.W.nsIn K mainGlobals "LOOSE" = some (some (.str "loose" q_LOOSE)))
    {q_MOVED : Tok} (g_MOVED : PySem.W.nsIn K mainGlobals "MOVED" = some (some (.str "moved" q_MOVED)))
    {A_NOUGHT : Addr} {o_NOUGHT : Obj} {i_NOUGHT : Array Value} {m_NOUGHT : Nat} (g_NOUGHT : PySem.W.nsIn K mainGlobals "NOUGHT" = some (some (.ref A_NOUGHT))) (h_NOUGHT : K.lookup A_NOUGHT = some o_NOUGHT) (u_NOUGHT : o_NOUGHT.cls = .type "tuple") (u2_NOUGHT : o_NOUGHT.data = .seq i_NOUGHT m_NOUGHT) (y_NOUGHT : i_NOUGHT.size ≤ sizeLine) (v_NOUGHT : Vals [.int 0, .int 1] i_NOUGHT.toList)
    : ∃ fd : FuncData, (∀ (s : Shared) (v : Value), BindsTo s fd ⟨[v], []⟩ [("_law_script", v)]) ∧ ∀ base : Heap, K.In base → base.Ns mainGlobals mg → DG.FnG l.prog w K mg base CX0 13 fa fd ["_law_script"] (spLaw K) := by
  have e := hfa.symm.trans (PySem.W.mg_of X G a_law)
  cases e
  letI : CT := ⟨fun n => match n with | 0 => C_Machine | _ => 0⟩
  have T : Tx w K mg := ⟨⟨pg_Machine, hd_Machine, po_Machine, sa_Machine⟩, nA_Machine_own_base, nA_Machine_own_begin, nA_Machine_own_figures, nA_Machine_own_kind, nA_Machine_own_most, nA_Machine_own_read, PySem.W.mg_none_of X G z_abs, PySem.W.mg_none_of X G z_all, PySem.W.mg_none_of X G z_int, PySem.W.mg_none_of X G z_len, PySem.W.mg_none_of X G z_list, PySem.W.mg_none_of X G z_max, PySem.W.mg_none_of X G z_min, PySem.W.mg_none_of X G z_range, PySem.W.mg_none_of X G z_sum, PySem.W.mg_none_of X G z_tuple, PySem.W.mg_none_of X G z_zip, ⟨_, PySem.W.mg_of X G g_ABOVE⟩, ⟨_, PySem.W.mg_of X G g_BARE_KINDS, _, _, _, rfl, ⟨h_BARE_KINDS, v_BARE_KINDS, u_BARE_KINDS⟩, by
    intro z hz
    simp only [List.mem_cons, List.not_mem_nil, or_false] at hz
    rcases hz with rfl | rfl | rfl | rfl | rfl | rfl | rfl | rfl | rfl
    · exact ⟨_, w_BARE_KINDS_0, rfl⟩
    · exact ⟨_, w_BARE_KINDS_1, rfl⟩
    · exact ⟨_, w_BARE_KINDS_2, rfl⟩
    · exact ⟨_, w_BARE_KINDS_3, rfl⟩
    · exact ⟨_, w_BARE_KINDS_4, _, rfl, _, rfl⟩
    · exact ⟨_, w_BARE_KINDS_5, rfl⟩
    · exact ⟨_, w_BARE_KINDS_6, _, rfl, _, rfl⟩
    · exact ⟨_, w_BARE_KINDS_7, _, rfl, _, rfl⟩
    · exact ⟨_, w_BARE_KINDS_8, _, rfl, _, rfl⟩
    ⟩, ⟨_, PySem.W.mg_of X G g_BELOW⟩, ⟨_, PySem.W.mg_of X G g_GIVEN, _, rfl, _, _, _, h_GIVEN, u_GIVEN, u2_GIVEN, y_GIVEN, v_GIVEN⟩, ⟨_, PySem.W.mg_of X G g_LOOSE⟩, ⟨_, PySem.W.mg_of X G g_MOVED⟩, ⟨_, PySem.W.mg_of X G g_NOUGHT, _, rfl, _, _, _, h_NOUGHT, u_NOUGHT, u2_NOUGHT, y_NOUGHT, v_NOUGHT⟩⟩
  have F_common := fun_mk (st := s_common) l_common c_common k_common
  have B_common := F_common.binds (ps := ["one", "other"]) fun _ _ _ _ _ _ us hl => match us, hl with | [_, _], _ => rfl
  have F_frac := funD_mk (st := s_frac) l_frac c_frac k_frac (.inr ⟨by simp, _, _, _, _, rfl, t_frac, u_frac, v_frac⟩)
  have B_frac := bindsAll (ps := ["top", "bottom"]) F_frac 2 (by simp) rfl fun T kV doc pm an cdv ct us its hl h2 => match us, its, hl, h2 with | [_, _], [_], _, _ => ⟨_, rfl, rfl⟩
  have F_plus := fun_mk (st := s_plus) l_plus c_plus k_plus
  have B_plus := F_plus.binds (ps := ["one", "other"]) fun _ _ _ _ _ _ us hl => match us, hl with | [_, _], _ => rfl
  have F_minus := fun_mk (st := s_minus) l_minus c_minus k_minus
  have B_minus := F_minus.binds (ps := ["one", "other"]) fun _ _ _ _ _ _ us hl => match us, hl with | [_, _], _ => rfl
  have F_times := fun_mk (st := s_times) l_times c_times k_times
  have B_times := F_times.binds (ps := ["one", "other"]) fun _ _ _ _ _ _ us hl => match us, hl with | [_, _], _ => rfl
  have F_over := fun_mk (st := s_over) l_over c_over k_over
  have B_over := F_over.binds (ps := ["one", "other"]) fun _ _ _ _ _ _ us hl => match us, hl with | [_, _], _ => rfl
  have F_is_below := fun_mk (st := s_is_below) l_is_below c_is_below k_is_below
  have B_is_below := F_is_below.binds (ps := ["one", "other"]) fun _ _ _ _ _ _ us hl => match us, hl with | [_, _], _ => rfl
  have F_lesser := fun_mk (st := s_lesser) l_lesser c_lesser k_lesser
  have B_lesser := F_lesser.binds (ps := ["one", "other"]) fun _ _ _ _ _ _ us hl => match us, hl with | [_, _], _ => rfl
  have F_greater := fun_mk (st := s_greater) l_greater c_greater k_greater
  have B_greater := F_greater.binds (ps := ["one", "other"]) fun _ _ _ _ _ _ us hl => match us, hl with | [_, _], _ => rfl
  have F_power := fun_mk (st := s_power) l_power c_power k_power
  have B_power := F_power.binds (ps := ["base", "many"]) fun _ _ _ _ _ _ us hl => match us, hl with | [_, _], _ => rfl
  have F_width_of := fun_mk (st := s_width_of) l_width_of c_width_of k_width_of
  have B_width_of := F_width_of.binds (ps := ["base", "kind", "sources"]) fun _ _ _ _ _ _ us hl => match us, hl with | [_, _, _], _ => rfl
  have F_least_power := fun_mk (st := s_least_power) l_least_power c_least_power k_least_power
  have B_least_power := F_least_power.binds (ps := ["base", "room", "need"]) fun _ _ _ _ _ _ us hl => match us, hl with | [_, _, _], _ => rfl
  have F_told_lag := fun_mk (st := s_told_lag) l_told_lag c_told_lag k_told_lag
  have B_told_lag := F_told_lag.binds (ps := ["base", "kind", "sources", "begin", "most"]) fun _ _ _ _ _ _ us hl => match us, hl with | [_, _, _, _, _], _ => rfl
  have F_known_to := fun_mk (st := s_known_to) l_known_to c_known_to k_known_to
  have B_known_to := F_known_to.binds (ps := ["row"]) fun _ _ _ _ _ _ us hl => match us, hl with | [_], _ => rfl
  have F_whole_of := fun_mk (st := s_whole_of) l_whole_of c_whole_of k_whole_of
  have B_whole_of := F_whole_of.binds (ps := ["base", "figures"]) fun _ _ _ _ _ _ us hl => match us, hl with | [_, _], _ => rfl
  have F_worth_of := fun_mk (st := s_worth_of) l_worth_of c_worth_of k_worth_of
  have B_worth_of := F_worth_of.binds (ps := ["base", "row"]) fun _ _ _ _ _ _ us hl => match us, hl with | [_, _], _ => rfl
  have F_tail_of := fun_mk (st := s_tail_of) l_tail_of c_tail_of k_tail_of
  have B_tail_of := F_tail_of.binds (ps := ["base", "row"]) fun _ _ _ _ _ _ us hl => match us, hl with | [_, _], _ => rfl
  have F_span_of := fun_mk (st := s_span_of) l_span_of c_span_of k_span_of
  have B_span_of := F_span_of.binds (ps := ["base", "row"]) fun _ _ _ _ _ _ us hl => match us, hl with | [_, _], _ => rfl
  have F_cut_of := fun_mk (st := s_cut_of) l_cut_of c_cut_of k_cut_of
  have B_cut_of := F_cut_of.binds (ps := ["row", "place"]) fun _ _ _ _ _ _ us hl => match us, hl with | [_, _], _ => rfl
  have F_order_of := fun_mk (st := s_order_of) l_order_of c_order_of k_order_of
  have B_order_of := F_order_of.binds (ps := ["base", "one", "other"]) fun _ _ _ _ _ _ us hl => match us, hl with | [_, _, _], _ => rfl
  have F_paired := fun_mk (st := s_paired) l_paired c_paired k_paired
  have B_paired := F_paired.binds (ps := ["base", "row"]) fun _ _ _ _ _ _ us hl => match us, hl with | [_, _], _ => rfl
  have F_many_of := fun_mk (st := s_many_of) l_many_of c_many_of k_many_of
  have B_many_of := F_many_of.binds (ps := ["kind"]) fun _ _ _ _ _ _ us hl => match us, hl with | [_], _ => rfl
  have F_chooses := fun_mk (st := s_chooses) l_chooses c_chooses k_chooses
  have B_chooses := F_chooses.binds (ps := ["kind"]) fun _ _ _ _ _ _ us hl => match us, hl with | [_], _ => rfl
  have F_weighed := fun_mk (st := s_weighed) l_weighed c_weighed k_weighed
  have B_weighed := F_weighed.binds (ps := ["weights", "numbers", "by"]) fun _ _ _ _ _ _ us hl => match us, hl with | [_, _, _], _ => rfl
  have F_applied := fun_mk (st := s_applied) l_applied c_applied k_applied
  have B_applied := F_applied.binds (ps := ["base", "kind", "numbers"]) fun _ _ _ _ _ _ us hl => match us, hl with | [_, _, _], _ => rfl
  have F_corners_of := fun_mk (st := s_corners_of) l_corners_of c_corners_of k_corners_of
  have B_corners_of := F_corners_of.binds (ps := ["many"]) fun _ _ _ _ _ _ us hl => match us, hl with | [_], _ => rfl
  have F_numbers_at := fun_mk (st := s_numbers_at) l_numbers_at c_numbers_at k_numbers_at
  have B_numbers_at := F_numbers_at.binds (ps := ["spans", "ends"]) fun _ _ _ _ _ _ us hl => match us, hl with | [_, _], _ => rfl
  have F_reach_of := fun_mk (st := s_reach_of) l_reach_of c_reach_of k_reach_of
  have B_reach_of := F_reach_of.binds (ps := ["base", "kind", "rows"]) fun _ _ _ _ _ _ us hl => match us, hl with | [_, _, _], _ => rfl
  have F_raised := fun_mk (st := s_raised) l_raised c_raised k_raised
  have B_raised := F_raised.binds (ps := ["number"]) fun _ _ _ _ _ _ us hl => match us, hl with | [_], _ => rfl
  have F_figures_between := fun_mk (st := s_figures_between) l_figures_between c_figures_between k_figures_between
  have B_figures_between := F_figures_between.binds (ps := ["base", "own", "least", "most"]) fun _ _ _ _ _ _ us hl => match us, hl with | [_, _, _, _], _ => rfl
  have F_right_figures := fun_mk (st := s_right_figures) l_right_figures c_right_figures k_right_figures
  have B_right_figures := F_right_figures.binds (ps := ["base", "kind", "rows", "own"]) fun _ _ _ _ _ _ us hl => match us, hl with | [_, _, _, _], _ => rfl
  have F_size_of := fun_mk (st := s_size_of) l_size_of c_size_of k_size_of
  have B_size_of := F_size_of.binds (ps := ["figure"]) fun _ _ _ _ _ _ us hl => match us, hl with | [_], _ => rfl
  have F_first_read := fun_mk (st := s_first_read) l_first_read c_first_read k_first_read
  have B_first_read := F_first_read.binds (ps := ["rows"]) fun _ _ _ _ _ _ us hl => match us, hl with | [_], _ => rfl
  have F_figure_at := fun_mk (st := s_figure_at) l_figure_at c_figure_at k_figure_at
  have B_figure_at := F_figure_at.binds (ps := ["row", "place"]) fun _ _ _ _ _ _ us hl => match us, hl with | [_, _], _ => rfl
  have F_Machine_init := fun_mk (st := s_Machine_init) l_Machine_init c_Machine_init k_Machine_init
  have F_Machine_row := fun_mk (st := s_Machine_row) l_Machine_row c_Machine_row k_Machine_row
  have B_Machine_row := F_Machine_row.binds (ps := ["self"]) fun _ _ _ _ _ _ us hl => match us, hl with | [_], _ => rfl
  have F_Machine_next_place := fun_mk (st := s_Machine_next_place) l_Machine_next_place c_Machine_next_place k_Machine_next_place
  have B_Machine_next_place := F_Machine_next_place.binds (ps := ["self"]) fun _ _ _ _ _ _ us hl => match us, hl with | [_], _ => rfl
  have F_Machine_seen := fun_mk (st := s_Machine_seen) l_Machine_seen c_Machine_seen k_Machine_seen
  have B_Machine_seen := F_Machine_seen.binds (ps := ["self", "rows"]) fun _ _ _ _ _ _ us hl => match us, hl with | [_, _], _ => rfl
  have F_Machine_has_next := fun_mk (st := s_Machine_has_next) l_Machine_has_next c_Machine_has_next k_Machine_has_next
  have B_Machine_has_next := F_Machine_has_next.binds (ps := ["self", "rows"]) fun _ _ _ _ _ _ us hl => match us, hl with | [_, _], _ => rfl
  have F_Machine_right_one := fun_mk (st := s_Machine_right_one) l_Machine_right_one c_Machine_right_one k_Machine_right_one
  have B_Machine_right_one := F_Machine_right_one.binds (ps := ["self", "rows"]) fun _ _ _ _ _ _ us hl => match us, hl with | [_, _], _ => rfl
  have F_Machine_plain_step := fun_mk (st := s_Machine_plain_step) l_Machine_plain_step c_Machine_plain_step k_Machine_plain_step
  have B_Machine_plain_step := F_Machine_plain_step.binds (ps := ["self", "rows", "to"]) fun _ _ _ _ _ _ us hl => match us, hl with | [_, _, _], _ => rfl
  have F_Machine_step := fun_mk (st := s_Machine_step) l_Machine_step c_Machine_step k_Machine_step
  have B_Machine_step := F_Machine_step.binds (ps := ["self", "rows", "to"]) fun _ _ _ _ _ _ us hl => match us, hl with | [_, _, _], _ => rfl
  have F_steps_of := fun_mk (st := s_steps_of) l_steps_of c_steps_of k_steps_of
  have F_part_run := fun_mk (st := s_part_run) l_part_run c_part_run k_part_run
  have F_is_within := fun_mk (st := s_is_within) l_is_within c_is_within k_is_within
  have B_is_within := F_is_within.binds (ps := ["base", "number", "begin", "most"]) fun _ _ _ _ _ _ us hl => match us, hl with | [_, _, _, _], _ => rfl
  have F_fits := fun_mk (st := s_fits) l_fits c_fits k_fits
  have B_fits := F_fits.binds (ps := ["base", "kind", "sources", "begin", "most"]) fun _ _ _ _ _ _ us hl => match us, hl with | [_, _, _, _, _], _ => rfl
  have F_Lcell_at := fun_mk (st := s_Lcell_at) l_Lcell_at c_Lcell_at k_Lcell_at
  have B_Lcell_at := F_Lcell_at.binds (ps := ["_law_script", "_law_k"]) fun _ _ _ _ _ _ us hl => match us, hl with | [_, _], _ => rfl
  have F_Lbox := fun_mk (st := s_Lbox) l_Lbox c_Lbox k_Lbox
  have B_Lbox := F_Lbox.binds (ps := ["_law_script", "_law_k"]) fun _ _ _ _ _ _ us hl => match us, hl with | [_, _], _ => rfl
  have F_Ltake := fun_mk (st := s_Ltake) l_Ltake c_Ltake k_Ltake
  have B_Ltake := F_Ltake.binds (ps := ["_law_box_here", "_law_size"]) fun _ _ _ _ _ _ us hl => match us, hl with | [_, _], _ => rfl
  have F_Lof := fun_mk (st := s_Lof) l_Lof c_Lof k_Lof
  have B_Lof := F_Lof.binds (ps := ["_law_box_here", "_law_some"]) fun _ _ _ _ _ _ us hl => match us, hl with | [_, _], _ => rfl
  have F_Lfigures := fun_mk (st := s_Lfigures) l_Lfigures c_Lfigures k_Lfigures
  have B_Lfigures := F_Lfigures.binds (ps := ["_law_box_here", "_law_crest", "_law_many"]) fun _ _ _ _ _ _ us hl => match us, hl with | [_, _, _], _ => rfl
  have F_Lkinds := fun_mk (st := s_Lkinds) l_Lkinds c_Lkinds k_Lkinds
  have B_Lkinds := F_Lkinds.binds (ps := ["_law_box_here"]) fun _ _ _ _ _ _ us hl => match us, hl with | [_], _ => rfl
  have F_Lstart := fun_mk (st := s_Lstart) l_Lstart c_Lstart k_Lstart
  have B_Lstart := F_Lstart.binds (ps := ["_law_base", "_law_kind", "_law_feeders", "_law_top"]) fun _ _ _ _ _ _ us hl => match us, hl with | [_, _, _, _], _ => rfl
  have F_Lright := fun_mk (st := s_Lright) l_Lright c_Lright k_Lright
  have B_Lright := F_Lright.binds (ps := ["_law_box_here"]) fun _ _ _ _ _ _ us hl => match us, hl with | [_], _ => rfl
  have F_law := fun_mk (st := s_law) l_law c_law k_law
  have B_law := F_law.binds (ps := ["_law_script"]) fun _ _ _ _ _ _ us hl => match us, hl with | [_], _ => rfl
  have kb_Machine_init_0 : KBn K _ ["self", "base", "kind", "rows", "begin", "most"] 4 ["begin", "most"] (pick [0, 1, 2, 3, 4, 5]) (pick [0, 1, 2, 3, 4, 5]) := kbn_mk F_Machine_init fun _ _ _ _ _ _ us ws h1 h2 => match us, ws, h1, h2 with | [_, _, _, _], [_, _], _, _ => rfl
  have kb_steps_of_0 : KBn K _ ["base", "kind", "rows", "begin", "most", "to"] 3 ["begin", "most", "to"] (pick [0, 1, 2, 3, 4, 5]) (pick [0, 1, 2, 3, 4, 5]) := kbn_mk F_steps_of fun _ _ _ _ _ _ us ws h1 h2 => match us, ws, h1, h2 with | [_, _, _], [_, _, _], _, _ => rfl
  have kb_part_run_0 : KBn K _ ["base", "kind", "rows", "begin", "most", "to"] 3 ["begin", "most", "to"] (pick [0, 1, 2, 3, 4, 5]) (pick [0, 1, 2, 3, 4, 5]) := kbn_mk F_part_run fun _ _ _ _ _ _ us ws h1 h2 => match us, ws, h1, h2 with | [_, _, _], [_, _, _], _, _ => rfl
  refine ⟨PySem.W.fnOf "law" "law" (defArgs s_law) (defBody s_law) (defScope s_law) .none kV_law dc_law pm_law an_law cd_law ct_law, fun s v => .of_eq rfl, fun base _ _ => ?_⟩
  have G_common : Does l.prog w K mg base 1 "common" ["one", "other"] _ _ sp_common := ⟨PySem.W.mg_of X G a_common, k_common, B_common, ok_common F_common T vc_common len_common  ⟩
  have G_frac : Does l.prog w K mg base 2 "frac" ["top", "bottom"] _ _ sp_frac := ⟨PySem.W.mg_of X G a_frac, k_frac, B_frac, ok_frac F_frac T vc_frac len_frac G_common ⟩
  have G_plus : Does l.prog w K mg base 3 "plus" ["one", "other"] _ _ sp_plus := ⟨PySem.W.mg_of X G a_plus, k_plus, B_plus, ok_plus F_plus T vc_plus len_plus G_frac ⟩
  have G_minus : Does l.prog w K mg base 3 "minus" ["one", "other"] _ _ sp_minus := ⟨PySem.W.mg_of X G a_minus, k_minus, B_minus, ok_minus F_minus T vc_minus len_minus G_frac ⟩
  have G_times : Does l.prog w K mg base 3 "times" ["one", "other"] _ _ sp_times := ⟨PySem.W.mg_of X G a_times, k_times, B_times, ok_times F_times T vc_times len_times G_frac ⟩
  have G_over : Does l.prog w K mg base 3 "over" ["one", "other"] _ _ sp_over := ⟨PySem.W.mg_of X G a_over, k_over, B_over, ok_over F_over T vc_over len_over G_frac ⟩
  have G_is_below : Does l.prog w K mg base 1 "is_below" ["one", "other"] _ _ sp_is_below := ⟨PySem.W.mg_of X G a_is_below, k_is_below, B_is_below, ok_is_below F_is_below T vc_is_below len_is_below  ⟩
  have G_lesser : Does l.prog w K mg base 2 "lesser" ["one", "other"] _ _ sp_lesser := ⟨PySem.W.mg_of X G a_lesser, k_lesser, B_lesser, ok_lesser F_lesser T vc_lesser len_lesser G_is_below ⟩
  have G_greater : Does l.prog w K mg base 2 "greater" ["one", "other"] _ _ sp_greater := ⟨PySem.W.mg_of X G a_greater, k_greater, B_greater, ok_greater F_greater T vc_greater len_greater G_is_below ⟩
  have G_power : Does l.prog w K mg base 1 "power" ["base", "many"] _ _ sp_power := ⟨PySem.W.mg_of X G a_power, k_power, B_power, ok_power F_power T vc_power len_power  ⟩
  have G_width_of : Does l.prog w K mg base 4 "width_of" ["base", "kind", "sources"] _ _ sp_width_of := ⟨PySem.W.mg_of X G a_width_of, k_width_of, B_width_of, ok_width_of F_width_of T vc_width_of len_width_of G_frac G_power G_times G_plus ⟩
  have G_least_power : Does l.prog w K mg base 4 "least_power" ["base", "room", "need"] _ _ sp_least_power := ⟨PySem.W.mg_of X G a_least_power, k_least_power, B_least_power, ok_least_power F_least_power T vc_least_power len_least_power G_is_below G_times G_power ⟩
  have G_told_lag : Does l.prog w K mg base 5 "told_lag" ["base", "kind", "sources", "begin", "most"] _ _ sp_told_lag := ⟨PySem.W.mg_of X G a_told_lag, k_told_lag, B_told_lag, ok_told_lag F_told_lag T vc_told_lag len_told_lag G_least_power G_times G_width_of ⟩
  have G_known_to : Does l.prog w K mg base 1 "known_to" ["row"] _ _ sp_known_to := ⟨PySem.W.mg_of X G a_known_to, k_known_to, B_known_to, ok_known_to F_known_to T vc_known_to len_known_to  ⟩
  have G_whole_of : Does l.prog w K mg base 1 "whole_of" ["base", "figures"] _ _ sp_whole_of := ⟨PySem.W.mg_of X G a_whole_of, k_whole_of, B_whole_of, ok_whole_of F_whole_of T vc_whole_of len_whole_of  ⟩
  have G_worth_of : Does l.prog w K mg base 4 "worth_of" ["base", "row"] _ _ sp_worth_of := ⟨PySem.W.mg_of X G a_worth_of, k_worth_of, B_worth_of, ok_worth_of F_worth_of T vc_worth_of len_worth_of G_times G_power G_known_to G_whole_of ⟩
  have G_tail_of : Does l.prog w K mg base 4 "tail_of" ["base", "row"] _ _ sp_tail_of := ⟨PySem.W.mg_of X G a_tail_of, k_tail_of, B_tail_of, ok_tail_of F_tail_of T vc_tail_of len_tail_of G_times G_power G_known_to G_frac ⟩
  have G_span_of : Does l.prog w K mg base 5 "span_of" ["base", "row"] _ _ sp_span_of := ⟨PySem.W.mg_of X G a_span_of, k_span_of, B_span_of, ok_span_of F_span_of T vc_span_of len_span_of G_worth_of G_tail_of G_plus G_minus ⟩
  have G_cut_of : Does l.prog w K mg base 1 "cut_of" ["row", "place"] _ _ sp_cut_of := ⟨PySem.W.mg_of X G a_cut_of, k_cut_of, B_cut_of, ok_cut_of F_cut_of T vc_cut_of len_cut_of  ⟩
  have G_order_of : Does l.prog w K mg base 6 "order_of" ["base", "one", "other"] _ _ sp_order_of := ⟨PySem.W.mg_of X G a_order_of, k_order_of, B_order_of, ok_order_of F_order_of T vc_order_of len_order_of G_span_of G_is_below ⟩
  have G_paired : Does l.prog w K mg base 1 "paired" ["base", "row"] _ _ sp_paired := ⟨PySem.W.mg_of X G a_paired, k_paired, B_paired, ok_paired F_paired T vc_paired len_paired  ⟩
  have G_many_of : Does l.prog w K mg base 1 "many_of" ["kind"] _ _ sp_many_of := ⟨PySem.W.mg_of X G a_many_of, k_many_of, B_many_of, ok_many_of F_many_of T vc_many_of len_many_of  ⟩
  have G_chooses : Does l.prog w K mg base 1 "chooses" ["kind"] _ _ sp_chooses := ⟨PySem.W.mg_of X G a_chooses, k_chooses, B_chooses, ok_chooses F_chooses T vc_chooses len_chooses  ⟩
  have G_weighed : Does l.prog w K mg base 4 "weighed" ["weights", "numbers", "by"] _ _ sp_weighed := ⟨PySem.W.mg_of X G a_weighed, k_weighed, B_weighed, ok_weighed F_weighed T vc_weighed len_weighed G_plus G_times G_over ⟩
  have G_applied : Does l.prog w K mg base 5 "applied" ["base", "kind", "numbers"] _ _ sp_applied := ⟨PySem.W.mg_of X G a_applied, k_applied, B_applied, ok_applied F_applied T vc_applied len_applied G_weighed G_times G_power G_over G_greater G_lesser ⟩
  have G_corners_of : Does l.prog w K mg base 1 "corners_of" ["many"] _ _ sp_corners_of := ⟨PySem.W.mg_of X G a_corners_of, k_corners_of, B_corners_of, ok_corners_of F_corners_of T vc_corners_of len_corners_of  ⟩
  have G_numbers_at : Does l.prog w K mg base 1 "numbers_at" ["spans", "ends"] _ _ sp_numbers_at := ⟨PySem.W.mg_of X G a_numbers_at, k_numbers_at, B_numbers_at, ok_numbers_at F_numbers_at T vc_numbers_at len_numbers_at  ⟩
  have G_reach_of : Does l.prog w K mg base 6 "reach_of" ["base", "kind", "rows"] _ _ sp_reach_of := ⟨PySem.W.mg_of X G a_reach_of, k_reach_of, B_reach_of, ok_reach_of F_reach_of T vc_reach_of len_reach_of G_span_of G_corners_of G_applied G_numbers_at G_lesser G_greater ⟩
  have G_raised : Does l.prog w K mg base 1 "raised" ["number"] _ _ sp_raised := ⟨PySem.W.mg_of X G a_raised, k_raised, B_raised, ok_raised F_raised T vc_raised len_raised  ⟩
  have G_figures_between : Does l.prog w K mg base 5 "figures_between" ["base", "own", "least", "most"] _ _ sp_figures_between := ⟨PySem.W.mg_of X G a_figures_between, k_figures_between, B_figures_between, ok_figures_between F_figures_between T vc_figures_between len_figures_between G_power G_known_to G_frac G_worth_of G_raised G_minus G_times G_plus ⟩
  have G_right_figures : Does l.prog w K mg base 7 "right_figures" ["base", "kind", "rows", "own"] _ _ sp_right_figures := ⟨PySem.W.mg_of X G a_right_figures, k_right_figures, B_right_figures, ok_right_figures F_right_figures T vc_right_figures len_right_figures G_reach_of G_figures_between ⟩
  have G_size_of : Does l.prog w K mg base 1 "size_of" ["figure"] _ _ sp_size_of := ⟨PySem.W.mg_of X G a_size_of, k_size_of, B_size_of, ok_size_of F_size_of T vc_size_of len_size_of  ⟩
  have G_first_read : Does l.prog w K mg base 1 "first_read" ["rows"] _ _ sp_first_read := ⟨PySem.W.mg_of X G a_first_read, k_first_read, B_first_read, ok_first_read F_first_read T vc_first_read len_first_read  ⟩
  have G_figure_at : Does l.prog w K mg base 1 "figure_at" ["row", "place"] _ _ sp_figure_at := ⟨PySem.W.mg_of X G a_figure_at, k_figure_at, B_figure_at, ok_figure_at F_figure_at T vc_figure_at len_figure_at  ⟩
  have G_Machine_init : DoesI l.prog w K mg base 2 0 "Machine" ["self", "base", "kind", "rows", "begin", "most"] _ _ sp_Machine_init := ⟨PySem.W.mg_of X G aC_Machine, ⟨mk_Machine, a_Machine_init, i_Machine_init, kc_Machine⟩, ok_Machine_init F_Machine_init T vc_Machine_init len_Machine_init G_first_read ⟩
  have G_Machine_row : DoesM l.prog w K mg base 1 0 "row" ["self"] _ _ sp_Machine_row := ⟨T.k_Machine, ⟨a_Machine_row, i_Machine_row, k_Machine_row⟩, B_Machine_row, ok_Machine_row F_Machine_row T vc_Machine_row len_Machine_row  ⟩
  have G_Machine_next_place : DoesM l.prog w K mg base 1 0 "next_place" ["self"] _ _ sp_Machine_next_place := ⟨T.k_Machine, ⟨a_Machine_next_place, i_Machine_next_place, k_Machine_next_place⟩, B_Machine_next_place, ok_Machine_next_place F_Machine_next_place T vc_Machine_next_place len_Machine_next_place  ⟩
  have G_Machine_seen : DoesM l.prog w K mg base 2 0 "seen" ["self", "rows"] _ _ sp_Machine_seen := ⟨T.k_Machine, ⟨a_Machine_seen, i_Machine_seen, k_Machine_seen⟩, B_Machine_seen, ok_Machine_seen F_Machine_seen T vc_Machine_seen len_Machine_seen G_cut_of ⟩
  have G_Machine_has_next : DoesM l.prog w K mg base 2 0 "has_next" ["self", "rows"] _ _ sp_Machine_has_next := ⟨T.k_Machine, ⟨a_Machine_has_next, i_Machine_has_next, k_Machine_has_next⟩, B_Machine_has_next, ok_Machine_has_next F_Machine_has_next T vc_Machine_has_next len_Machine_has_next G_known_to ⟩
  have G_Machine_right_one : DoesM l.prog w K mg base 8 0 "right_one" ["self", "rows"] _ _ sp_Machine_right_one := ⟨T.k_Machine, ⟨a_Machine_right_one, i_Machine_right_one, k_Machine_right_one⟩, B_Machine_right_one, ok_Machine_right_one F_Machine_right_one T vc_Machine_right_one len_Machine_right_one G_right_figures G_Machine_row G_Machine_seen G_size_of ⟩
  have G_Machine_plain_step : DoesM l.prog w K mg base 3 0 "plain_step" ["self", "rows", "to"] _ _ sp_Machine_plain_step := ⟨T.k_Machine, ⟨a_Machine_plain_step, i_Machine_plain_step, k_Machine_plain_step⟩, B_Machine_plain_step, ok_Machine_plain_step F_Machine_plain_step T vc_Machine_plain_step len_Machine_plain_step G_Machine_next_place G_Machine_has_next G_figure_at ⟩
  have G_Machine_step : DoesM l.prog w K mg base 9 0 "step" ["self", "rows", "to"] _ _ sp_Machine_step := ⟨T.k_Machine, ⟨a_Machine_step, i_Machine_step, k_Machine_step⟩, B_Machine_step, ok_Machine_step F_Machine_step T vc_Machine_step len_Machine_step G_chooses G_Machine_plain_step G_Machine_right_one G_Machine_next_place G_Machine_has_next ⟩
  have G_steps_of : DoesK l.prog w K mg base 10 "steps_of" ["base", "kind", "rows", "begin", "most", "to"] _ _ sp_steps_of := ⟨PySem.W.mg_of X G a_steps_of, k_steps_of, ok_steps_of F_steps_of T vc_steps_of len_steps_of G_Machine_init G_Machine_step kb_Machine_init_0⟩
  have G_part_run : DoesK l.prog w K mg base 11 "part_run" ["base", "kind", "rows", "begin", "most", "to"] _ _ sp_part_run := ⟨PySem.W.mg_of X G a_part_run, k_part_run, ok_part_run F_part_run T vc_part_run len_part_run G_steps_of G_Machine_row kb_steps_of_0⟩
  have G_is_within : Does l.prog w K mg base 4 "is_within" ["base", "number", "begin", "most"] _ _ sp_is_within := ⟨PySem.W.mg_of X G a_is_within, k_is_within, B_is_within, ok_is_within F_is_within T vc_is_within len_is_within G_is_below G_times G_power G_frac ⟩
  have G_fits : Does l.prog w K mg base 7 "fits" ["base", "kind", "sources", "begin", "most"] _ _ sp_fits := ⟨PySem.W.mg_of X G a_fits, k_fits, B_fits, ok_fits F_fits T vc_fits len_fits G_reach_of G_is_within G_many_of ⟩
  have G_Lcell_at : Does l.prog w K mg base 1 "_law_cell_at" ["_law_script", "_law_k"] _ _ sp_Lcell_at := ⟨PySem.W.mg_of X G a_Lcell_at, k_Lcell_at, B_Lcell_at, ok_Lcell_at F_Lcell_at T vc_Lcell_at len_Lcell_at  ⟩
  have G_Lbox : Does l.prog w K mg base 2 "_law_box" ["_law_script", "_law_k"] _ _ sp_Lbox := ⟨PySem.W.mg_of X G a_Lbox, k_Lbox, B_Lbox, ok_Lbox F_Lbox T vc_Lbox len_Lbox G_Lcell_at ⟩
  have G_Ltake : Does l.prog w K mg base 1 "_law_take" ["_law_box_here", "_law_size"] _ _ sp_Ltake := ⟨PySem.W.mg_of X G a_Ltake, k_Ltake, B_Ltake, ok_Ltake F_Ltake T vc_Ltake len_Ltake  ⟩
  have G_Lof : Does l.prog w K mg base 2 "_law_of" ["_law_box_here", "_law_some"] _ _ sp_Lof := ⟨PySem.W.mg_of X G a_Lof, k_Lof, B_Lof, ok_Lof F_Lof T vc_Lof len_Lof G_Ltake ⟩
  have G_Lfigures : Does l.prog w K mg base 2 "_law_figures" ["_law_box_here", "_law_crest", "_law_many"] _ _ sp_Lfigures := ⟨PySem.W.mg_of X G a_Lfigures, k_Lfigures, B_Lfigures, ok_Lfigures F_Lfigures T vc_Lfigures len_Lfigures G_Ltake ⟩
  have G_Lkinds : Does l.prog w K mg base 3 "_law_kinds" ["_law_box_here"] _ _ sp_Lkinds := ⟨PySem.W.mg_of X G a_Lkinds, k_Lkinds, B_Lkinds, ok_Lkinds F_Lkinds T vc_Lkinds len_Lkinds G_Ltake G_Lof ⟩
  have G_Lstart : Does l.prog w K mg base 8 "_law_start" ["_law_base", "_law_kind", "_law_feeders", "_law_top"] _ _ sp_Lstart := ⟨PySem.W.mg_of X G a_Lstart, k_Lstart, B_Lstart, ok_Lstart F_Lstart T vc_Lstart len_Lstart G_fits ⟩
  have G_Lright : Does l.prog w K mg base 12 "_law_right" ["_law_box_here"] _ _ sp_Lright := ⟨PySem.W.mg_of X G a_Lright, k_Lright, B_Lright, ok_Lright F_Lright T vc_Lright len_Lright G_Lof G_Lkinds G_Ltake G_Lfigures G_paired G_Lstart G_told_lag G_fits G_reach_of G_part_run G_known_to G_order_of G_cut_of kb_part_run_0⟩
  have G_law : Does l.prog w K mg base 13 "law" ["_law_script"] _ _ sp_law := ⟨PySem.W.mg_of X G a_law, k_law, B_law, ok_law F_law T vc_law len_law G_Lright G_Lbox ⟩
  exact G_law.ok.imp law_up
end K86
open PySem PySem.W PyProof.Rows
set_option maxHeartbeats 0 in
theorem PySem.Challenge.cw_firstfigures_k86_whole_two_figures_as_on_holds : PySem.Challenge.rw_firstfigures_k86_whole_two_figures_as_on.Holds := by
  w_on; o_law; k_head; (case hw => w_witness2)
  k_fill
  refine DG.walk_of (l := PySem.Challenge.rw_firstfigures_k86_whole_two_figures_as_on) (n := 63) (k := 13) (x := "_law_script") (CX := fun _ => L2.CX0) (sp := fun w => DL.spLaw _) rfl (by decide) rfl ⟨⟨rfl, by decide, by decide⟩, rfl⟩ (fun w h Y => PySem.W.kIn_of Y) ?F (fun _ _ a ns hl _ hS => ⟨a, ns, rfl, hS, hl, fun _ => rfl⟩) (fun _ _ _ _ _ h => h)
  case F =>
    intro w mg fa h KX G hmg
    refine' K86.all_mk KX G hmg ?aC_Machine ?pg_Machine ?hd_Machine ?po_Machine ?sa_Machine ?mk_Machine ?kc_Machine ?nA_Machine_own_base ?nA_Machine_own_begin ?nA_Machine_own_figures ?nA_Machine_own_kind ?nA_Machine_own_most ?nA_Machine_own_read ?a_common ?l_common ?c_common ?k_common ?a_frac ?l_frac ?t_frac ?u_frac ?v_frac ?c_frac ?k_frac ?a_plus ?l_plus ?c_plus ?k_plus ?a_minus ?l_minus ?c_minus ?k_minus ?a_times ?l_times ?c_times ?k_times ?a_over ?l_over ?c_over ?k_over ?a_is_below ?l_is_below ?c_is_below ?k_is_below ?a_lesser ?l_lesser ?c_lesser ?k_lesser ?a_greater ?l_greater ?c_greater ?k_greater ?a_power ?l_power ?c_power ?k_power ?a_width_of ?l_width_of ?c_width_of ?k_width_of ?a_least_power ?l_least_power ?c_least_power ?k_least_power ?a_told_lag ?l_told_lag ?c_told_lag ?k_told_lag ?a_known_to ?l_known_to ?c_known_to ?k_known_to ?a_whole_of ?l_whole_of ?c_whole_of ?k_whole_of ?a_worth_of ?l_worth_of ?c_worth_of ?k_worth_of ?a_tail_of ?l_tail_of ?c_tail_of ?k_tail_of ?a_span_of ?l_span_of ?c_span_of ?k_span_of ?a_cut_of ?l_cut_of ?c_cut_of ?k_cut_of ?a_order_of ?l_order_of ?c_order_of ?k_order_of ?a_paired ?l_paired ?c_paired ?k_paired ?a_many_of ?l_many_of ?c_many_of ?k_many_of ?a_chooses ?l_chooses ?c_chooses ?k_chooses ?a_weighed ?l_weighed ?c_weighed ?k_weighed ?a_applied ?l_applied ?c_applied ?k_applied ?a_corners_of ?l_corners_of ?c_corners_of ?k_corners_of ?a_numbers_at ?l_numbers_at ?c_numbers_at ?k_numbers_at ?a_reach_of ?l_reach_of ?c_reach_of ?k_reach_of ?a_raised ?l_raised ?c_raised ?k_raised ?a_figures_between ?l_figures_between ?c_figures_between ?k_figures_between ?a_right_figures ?l_right_figures ?c_right_figures ?k_right_figures ?a_size_of ?l_size_of ?c_size_of ?k_size_of ?a_first_read ?l_first_read ?c_first_read ?k_first_read ?a_figure_at ?l_figure_at ?c_figure_at ?k_figure_at ?a_Machine_init ?i_Machine_init ?l_Machine_init ?c_Machine_init ?k_Machine_init ?a_Machine_row ?i_Machine_row ?l_Machine_row ?c_Machine_row ?k_Machine_row ?a_Machine_next_place ?i_Machine_next_place ?l_Machine_next_place ?c_Machine_next_place ?k_Machine_next_place ?a_Machine_seen ?i_Machine_seen ?l_Machine_seen ?c_Machine_seen ?k_Machine_seen ?a_Machine_has_next ?i_Machine_has_next ?l_Machine_has_next ?c_Machine_has_next ?k_Machine_has_next ?a_Machine_right_one ?i_Machine_right_one ?l_Machine_right_one ?c_Machine_right_one ?k_Machine_right_one ?a_Machine_plain_step ?i_Machine_plain_step ?l_Machine_plain_step ?c_Machine_plain_step ?k_Machine_plain_step ?a_Machine_step ?i_Machine_step ?l_Machine_step ?c_Machine_step ?k_Machine_step ?a_steps_of ?l_steps_of ?c_steps_of ?k_steps_of ?a_part_run ?l_part_run ?c_part_run ?k_part_run ?a_is_within ?l_is_within ?c_is_within ?k_is_within ?a_fits ?l_fits ?c_fits ?k_fits ?a_Lcell_at ?l_Lcell_at ?c_Lcell_at ?k_Lcell_at ?a_Lbox ?l_Lbox ?c_Lbox ?k_Lbox ?a_Ltake ?l_Ltake ?c_Ltake ?k_Ltake ?a_Lof ?l_Lof ?c_Lof ?k_Lof ?a_Lfigures ?l_Lfigures ?c_Lfigures ?k_Lfigures ?a_Lkinds ?l_Lkinds ?c_Lkinds ?k_Lkinds ?a_Lstart ?l_Lstart ?c_Lstart ?k_Lstart ?a_Lright ?l_Lright ?c_Lright ?k_Lright ?a_law ?l_law ?c_law ?k_law ?z_abs ?z_all ?z_int ?z_len ?z_list ?z_max ?z_min ?z_range ?z_sum ?z_tuple ?z_zip ?g_ABOVE ?g_BARE_KINDS ?h_BARE_KINDS ?v_BARE_KINDS ?u_BARE_KINDS ?w_BARE_KINDS_0 ?w_BARE_KINDS_1 ?w_BARE_KINDS_2 ?w_BARE_KINDS_3 ?w_BARE_KINDS_4 ?w_BARE_KINDS_5 ?w_BARE_KINDS_6 ?w_BARE_KINDS_7 ?w_BARE_KINDS_8 ?g_BELOW ?g_GIVEN ?h_GIVEN ?u_GIVEN ?u2_GIVEN ?y_GIVEN ?v_GIVEN ?g_LOOSE ?g_MOVED ?g_NOUGHT ?h_NOUGHT ?u_NOUGHT ?u2_NOUGHT ?y_NOUGHT ?v_NOUGHT
    (case aC_Machine => k_is)
    (case pg_Machine => k_is)
    (case hd_Machine => k_is)
    (case po_Machine => k_is)
    (case sa_Machine => k_is)
    (case mk_Machine => k_is)
    (case kc_Machine => k_is)
    (case nA_Machine_own_base => k_is)
    (case nA_Machine_own_begin => k_is)
    (case nA_Machine_own_figures => k_is)
    (case nA_Machine_own_kind => k_is)
    (case nA_Machine_own_most => k_is)
    (case nA_Machine_own_read => k_is)
    (case a_common => k_is)
    (case l_common => k_is)
    (case c_common => k_is)
    (case k_common => k_is)
    (case a_frac => k_is)
    (case l_frac => k_is)
    (case t_frac => k_is)
    (case u_frac => rfl)
    (case v_frac => exact .cons ⟨_, rfl⟩ .nil)
    (case c_frac => k_is)
    (case k_frac => k_is)
    (case a_plus => k_is)
    (case l_plus => k_is)
    (case c_plus => k_is)
    (case k_plus => k_is)
    (case a_minus => k_is)
    (case l_minus => k_is)
    (case c_minus => k_is)
    (case k_minus => k_is)
    (case a_times => k_is)
    (case l_times => k_is)
    (case c_times => k_is)
    (case k_times => k_is)
    (case a_over => k_is)
    (case l_over => k_is)
    (case c_over => k_is)
    (case k_over => k_is)
    (case a_is_below => k_is)
    (case l_is_below => k_is)
    (case c_is_below => k_is)
    (case k_is_below => k_is)
    (case a_lesser => k_is)
    (case l_lesser => k_is)
    (case c_lesser => k_is)
    (case k_lesser => k_is)
    (case a_greater => k_is)
    (case l_greater => k_is)
    (case c_greater => k_is)
    (case k_greater => k_is)
    (case a_power => k_is)
    (case l_power => k_is)
    (case c_power => k_is)
    (case k_power => k_is)
    (case a_width_of => k_is)
    (case l_width_of => k_is)
    (case c_width_of => k_is)
    (case k_width_of => k_is)
    (case a_least_power => k_is)
    (case l_least_power => k_is)
    (case c_least_power => k_is)
    (case k_least_power => k_is)
    (case a_told_lag => k_is)
    (case l_told_lag => k_is)
    (case c_told_lag => k_is)
    (case k_told_lag => k_is)
    (case a_known_to => k_is)
    (case l_known_to => k_is)
    (case c_known_to => k_is)
    (case k_known_to => k_is)
    (case a_whole_of => k_is)
    (case l_whole_of => k_is)
    (case c_whole_of => k_is)
    (case k_whole_of => k_is)
    (case a_worth_of => k_is)
    (case l_worth_of => k_is)
    (case c_worth_of => k_is)
    (case k_worth_of => k_is)
    (case a_tail_of => k_is)
    (case l_tail_of => k_is)
    (case c_tail_of => k_is)
    (case k_tail_of => k_is)
    (case a_span_of => k_is)
    (case l_span_of => k_is)
    (case c_span_of => k_is)
    (case k_span_of => k_is)
    (case a_cut_of => k_is)
    (case l_cut_of => k_is)
    (case c_cut_of => k_is)
    (case k_cut_of => k_is)
    (case a_order_of => k_is)
    (case l_order_of => k_is)
    (case c_order_of => k_is)
    (case k_order_of => k_is)
    (case a_paired => k_is)
    (case l_paired => k_is)
    (case c_paired => k_is)
    (case k_paired => k_is)
    (case a_many_of => k_is)
    (case l_many_of => k_is)
    (case c_many_of => k_is)
    (case k_many_of => k_is)
    (case a_chooses => k_is)
    (case l_chooses => k_is)
    (case c_chooses => k_is)
    (case k_chooses => k_is)
    (case a_weighed => k_is)
    (case l_weighed => k_is)
    (case c_weighed => k_is)
    (case k_weighed => k_is)
    (case a_applied => k_is)
    (case l_applied => k_is)
    (case c_applied => k_is)
    (case k_applied => k_is)
    (case a_corners_of => k_is)
    (case l_corners_of => k_is)
    (case c_corners_of => k_is)
    (case k_corners_of => k_is)
    (case a_numbers_at => k_is)
    (case l_numbers_at => k_is)
    (case c_numbers_at => k_is)
    (case k_numbers_at => k_is)
    (case a_reach_of => k_is)
    (case l_reach_of => k_is)
    (case c_reach_of => k_is)
    (case k_reach_of => k_is)
    (case a_raised => k_is)
    (case l_raised => k_is)
    (case c_raised => k_is)
    (case k_raised => k_is)
    (case a_figures_between => k_is)
    (case l_figures_between => k_is)
    (case c_figures_between => k_is)
    (case k_figures_between => k_is)
    (case a_right_figures => k_is)
    (case l_right_figures => k_is)
    (case c_right_figures => k_is)
    (case k_right_figures => k_is)
    (case a_size_of => k_is)
    (case l_size_of => k_is)
    (case c_size_of => k_is)
    (case k_size_of => k_is)
    (case a_first_read => k_is)
    (case l_first_read => k_is)
    (case c_first_read => k_is)
    (case k_first_read => k_is)
    (case a_figure_at => k_is)
    (case l_figure_at => k_is)
    (case c_figure_at => k_is)
    (case k_figure_at => k_is)
    (case a_Machine_init => k_is)
    (case i_Machine_init => k_is)
    (case l_Machine_init => k_is)
    (case c_Machine_init => k_is)
    (case k_Machine_init => k_is)
    (case a_Machine_row => k_is)
    (case i_Machine_row => k_is)
    (case l_Machine_row => k_is)
    (case c_Machine_row => k_is)
    (case k_Machine_row => k_is)
    (case a_Machine_next_place => k_is)
    (case i_Machine_next_place => k_is)
    (case l_Machine_next_place => k_is)
    (case c_Machine_next_place => k_is)
    (case k_Machine_next_place => k_is)
    (case a_Machine_seen => k_is)
    (case i_Machine_seen => k_is)
    (case l_Machine_seen => k_is)
    (case c_Machine_seen => k_is)
    (case k_Machine_seen => k_is)
    (case a_Machine_has_next => k_is)
    (case i_Machine_has_next => k_is)
    (case l_Machine_has_next => k_is)
    (case c_Machine_has_next => k_is)
    (case k_Machine_has_next => k_is)
    (case a_Machine_right_one => k_is)
    (case i_Machine_right_one => k_is)
    (case l_Machine_right_one => k_is)
    (case c_Machine_right_one => k_is)
    (case k_Machine_right_one => k_is)
    (case a_Machine_plain_step => k_is)
    (case i_Machine_plain_step => k_is)
    (case l_Machine_plain_step => k_is)
    (case c_Machine_plain_step => k_is)
    (case k_Machine_plain_step => k_is)
    (case a_Machine_step => k_is)
    (case i_Machine_step => k_is)
    (case l_Machine_step => k_is)
    (case c_Machine_step => k_is)
    (case k_Machine_step => k_is)
    (case a_steps_of => k_is)
    (case l_steps_of => k_is)
    (case c_steps_of => k_is)
    (case k_steps_of => k_is)
    (case a_part_run => k_is)
    (case l_part_run => k_is)
    (case c_part_run => k_is)
    (case k_part_run => k_is)
    (case a_is_within => k_is)
    (case l_is_within => k_is)
    (case c_is_within => k_is)
    (case k_is_within => k_is)
    (case a_fits => k_is)
    (case l_fits => k_is)
    (case c_fits => k_is)
    (case k_fits => k_is)
    (case a_Lcell_at => k_is)
    (case l_Lcell_at => k_is)
    (case c_Lcell_at => k_is)
    (case k_Lcell_at => k_is)
    (case a_Lbox => k_is)
    (case l_Lbox => k_is)
    (case c_Lbox => k_is)
    (case k_Lbox => k_is)
    (case a_Ltake => k_is)
    (case l_Ltake => k_is)
    (case c_Ltake => k_is)
    (case k_Ltake => k_is)
    (case a_Lof => k_is)
    (case l_Lof => k_is)
    (case c_Lof => k_is)
    (case k_Lof => k_is)
    (case a_Lfigures => k_is)
    (case l_Lfigures => k_is)
    (case c_Lfigures => k_is)
    (case k_Lfigures => k_is)
    (case a_Lkinds => k_is)
    (case l_Lkinds => k_is)
    (case c_Lkinds => k_is)
    (case k_Lkinds => k_is)
    (case a_Lstart => k_is)
    (case l_Lstart => k_is)
    (case c_Lstart => k_is)
    (case k_Lstart => k_is)
    (case a_Lright => k_is)
    (case l_Lright => k_is)
    (case c_Lright => k_is)
    (case k_Lright => k_is)
    (case a_law => k_is)
    (case l_law => k_is)
    (case c_law => k_is)
    (case k_law => k_is)
    (case z_abs => k_is)
    (case z_all => k_is)
    (case z_int => k_is)
    (case z_len => k_is)
    (case z_list => k_is)
    (case z_max => k_is)
    (case z_min => k_is)
    (case z_range => k_is)
    (case z_sum => k_is)
    (case z_tuple => k_is)
    (case z_zip => k_is)
    (case g_ABOVE => k_is)
    (case g_BARE_KINDS => k_is)
    (case h_BARE_KINDS => k_is)
    (case v_BARE_KINDS => exact ⟨⟨_, _, rfl, rfl⟩, ⟨⟨_, _, rfl, rfl⟩, ⟨⟨_, _, rfl, rfl⟩, ⟨⟨_, _, rfl, rfl⟩, trivial⟩⟩⟩⟩)
    (case u_BARE_KINDS => rfl)
    (case w_BARE_KINDS_0 => k_is)
    (case w_BARE_KINDS_1 => k_is)
    (case w_BARE_KINDS_2 => k_is)
    (case w_BARE_KINDS_3 => k_is)
    (case w_BARE_KINDS_4 => k_is)
    (case w_BARE_KINDS_5 => k_is)
    (case w_BARE_KINDS_6 => k_is)
    (case w_BARE_KINDS_7 => k_is)
    (case w_BARE_KINDS_8 => k_is)
    (case g_BELOW => k_is)
    (case g_GIVEN => k_is)
    (case h_GIVEN => k_is)
    (case u_GIVEN => rfl)
    (case u2_GIVEN => rfl)
    (case y_GIVEN => decide)
    (case v_GIVEN => exact (.cons ⟨_, rfl⟩ (.cons ⟨_, rfl⟩ .nil)))
    (case g_LOOSE => k_is)
    (case g_MOVED => k_is)
    (case g_NOUGHT => k_is)
    (case h_NOUGHT => k_is)
    (case u_NOUGHT => rfl)
    (case u2_NOUGHT => rfl)
    (case y_NOUGHT => decide)
    (case v_NOUGHT => exact (.cons ⟨_, rfl⟩ (.cons ⟨_, rfl⟩ .nil)))
