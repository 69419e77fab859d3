import PyProof.Rows.All
import Wide.All
import OpenK.AllK
import Wide.FinOn
import HandS.ForMost
import HandS.Wide
import HandS.Zip
import HandS.TupAny
import HandS.IsInst
import HandS.Style
import HandS.Defaults
import HandS.EndTab
import HandS.NoneIn
import OpenK.KMore
import KE.GoesMore
import KE.GoesEnumKw
import PyProof.Rows.NestShow
import PyProof.ReprLen
import HandS.Conv
import HandS.TupMul
import HandS.Deep
import HandS.More
import HandS.MakeKwOnly
import KE.DataMinKey
import KE.KMinKey
import HandS.SortKw
import PyProof.SeqI3
import KE.DatumOrd
import KE.KDictZip
import KE.KUnpackStar
import HandS.DictComp
import HandS.SortInts
import HandS.Set
import HandS.SetFor
import PySem.Challenge.RW_firstfigures_k34_least_lags
set_option Elab.async false
set_option linter.all false
set_option maxRecDepth 100000
set_option maxHeartbeats 4000000
/-! Promises of defs where nothing is shown (repr) further up the stack. -/
namespace DG
open PySem PySem.Spec PyProof.Rows L2
/-- room, and no repr further up -/
structure RoomG (k : Nat) (A : Around) : Prop where
  r : Room k A
  g : A.guards = some []
theorem RoomG.mono {j k : Nat} {A : Around} (h : RoomG k A) (l : j ≤ k) : RoomG j A := ⟨h.r.mono l, h.g⟩
theorem RoomG.deeper {k : Nat} {A : Around} (h : RoomG (k + 1) A) (env : Env) : RoomG k (A.deeper env) := ⟨h.r.deeper env, h.g⟩
structure FnG (P : Program) (w : World) (K : PySem.W.Frag) (mg : Str → Option Value) (base : Heap) (CX : CXT) (k : Nat) (f : Addr) (fd : FuncData) (ps : List Str) (sp : Sp) : Prop where
  len : ∀ vs H Q E, sp vs H Q E → vs.length = ps.length
  run : ∀ (A : Around) (outer : List Env) (s : Shared) (H : Hp) (args : Args) (us : List Value) (vs : List V) (Q : VK) (E : XK), RoomG k A → Env0 P w K mg base A outer s H → BindsTo s fd args (ps.zip us) → Vals vs us → sp vs H Q E →
    codeAny (model P w) A (.call (.ref f) args) (CR CX outer P w H s Q E) s
theorem FnG.imp {P : Program} {w : World} {K : PySem.W.Frag} {mg : Str → Option Value} {base : Heap} {CX : CXT} {k : Nat} {f : Addr} {fd : FuncData} {ps : List Str} {sp sp' : Sp} (F : FnG P w K mg base CX k f fd ps sp)
    (h : ∀ vs H Q E, sp' vs H Q E → sp vs H Q E) : FnG P w K mg base CX k f fd ps sp' :=
  ⟨fun vs H Q E q => F.len vs H Q E (h _ _ _ _ q), fun A outer s H args us vs Q E hr he hb hv hs => F.run A outer s H args us vs Q E hr he hb hv (h _ _ _ _ hs)⟩
section
variable {X : Cx} {CX : CXT} {k n : Nat} {f C : Addr} {fd : FuncData} {ps ks : List Str} {sp : Sp} {dvs : List V} {ds : List Value} {E : XK} {x m : Str} {p pos apos : Pos} {e o : Expr} {es : List Expr} {ta : TE} {t tk : TA} {kws : List Keyword} {g : List Value → List Value → List Value} {gV : List V → List V → List V}
theorem run_fn {pins : List (Addr × Obj)} {σ : L2.St} {H : Hp} {s : Shared} {Q : VK} {us : List Value} {vs : List V} (F : FnG X.prog X.w X.K X.mg X.base CX k f fd ps sp) (hr : RoomG k X.A) (hb : Binds X.K fd ps ds) (hd : Vals dvs ds) (hx : Passes CX X E)
    (I : Inv X pins σ H s) (r : Vals vs us) (h : sp (vs ++ dvs) H Q E) : wpAny (model X.prog X.w) X.A (call (.ref f) us) (EP X pins σ Q) X.xe s := by
  have r2 : Vals (vs ++ dvs) (us ++ ds) := r.append hd
  have hl : (us ++ ds).length = ps.length := by rw [← r2.length]; exact F.len _ _ _ _ h
  refine wpAny_call (codeAny_mono (F.run X.A X.stack s H ⟨us, []⟩ (us ++ ds) (vs ++ dvs) Q E hr I.env0 (hb s us I.kIn hl) r2 h) fun r s' hq => ?_)
  cases r with
  | error e => exact hx pins σ H s e s' I hq
  | ok fl =>
    cases fl with
    | ret u => exact I.after hq
    | next => exact False.elim hq
    | brk => exact False.elim hq
    | cont => exact False.elim hq

theorem pe_call (F : FnG X.prog X.w X.K X.mg X.base CX k f fd ps sp) (hr : RoomG k X.A) (hg : Gl X x) (hm : X.mg x = some (.ref f)) (hk : PySem.W.keepIn X.K (.ref f) = true) (hb : Binds X.K fd ps ds) (hd : Vals dvs ds) (hx : Passes CX X E)
    (ha : PA X (e :: es) t) (hdb : (x == ("__debug__" : Str)) = false := by decide) (he : starEach (e :: es) X.env = (false, eval e X.env) :: starEach es X.env := by rfl) (hpl : (backTo pos (starEach es X.env)).any (·.1) = false := by rfl) :
    PE X (.Call (.Name x p) (e :: es) [] pos) (tCall sp dvs E t) := by
  refine ⟨fun pins s σ H Q I h => ?_⟩
  refine wpAny_Call_Name_kw (ld_glob I hg hm ?_ hdb)
  refine PySem.W.callWith_K (h₀ := X.base) I.ok.mod.kin hk (thn (ha.run pos pins s σ H _ I h) fun us s1 ⟨vs, H1, I1, r, q⟩ => ⟨I1.kIn, ?_⟩) he hpl
  exact run_fn F hr hb hd hx I1 r q
theorem pe_call0 (F : FnG X.prog X.w X.K X.mg X.base CX k f fd ps sp) (hr : RoomG k X.A) (hg : Gl X x) (hm : X.mg x = some (.ref f)) (hk : PySem.W.keepIn X.K (.ref f) = true) (hb : Binds X.K fd ps ds) (hd : Vals dvs ds) (hx : Passes CX X E)
    (hdb : (x == ("__debug__" : Str)) = false := by decide) : PE X (.Call (.Name x p) [] [] pos) (tCall sp dvs E tNil) := by
  refine ⟨fun pins s σ H Q I h => ?_⟩
  refine wpAny_Call_Name_kw (ld_glob I hg hm ?_ hdb)
  exact PySem.W.callWith_K0 I.kIn hk (run_fn (us := []) F hr hb hd hx I .nil h)

theorem run_fnN {pins : List (Addr × Obj)} {σ : L2.St} {H : Hp} {s : Shared} {Q : VK} {us ws : List Value} {vs zs : List V} (F : FnG X.prog X.w X.K X.mg X.base CX k f fd ps sp) (hr : RoomG k X.A) (hb : KBn X.K fd ps n ks g gV) (hx : Passes CX X E)
    (I : Inv X pins σ H s) (r : Vals vs us) (rz : Vals zs ws) (l1 : vs.length = n) (l2 : zs.length = ks.length) (h : sp (gV vs zs) H Q E) : wpAny (model X.prog X.w) X.A (call (.ref f) us (ks.zip ws)) (EP X pins σ Q) X.xe s := by
  have r2 := hb.rel r rz
  refine wpAny_call (codeAny_mono (F.run X.A X.stack s H ⟨us, ks.zip ws⟩ (g us ws) (gV vs zs) Q E hr I.env0 (hb.to s us ws I.kIn (r.length.symm.trans l1) (rz.length.symm.trans l2)) r2 h) fun r s' hq => ?_)
  cases r with
  | error e => exact hx pins σ H s e s' I hq
  | ok fl =>
    cases fl with
    | ret u => exact I.after hq
    | next => exact False.elim hq
    | brk => exact False.elim hq
    | cont => exact False.elim hq
/-- f(e, .., k = v, ..) -/
theorem pe_callN (F : FnG X.prog X.w X.K X.mg X.base CX k f fd ps sp) (hr : RoomG k X.A) (hg : Gl X x) (hm : X.mg x = some (.ref f)) (hk : PySem.W.keepIn X.K (.ref f) = true) (hb : KBn X.K fd ps n ks g gV) (hx : Passes CX X E)
    (ha : PA X (e :: es) t) (hkw : PK X kws tk) (hall : (backToKw pos (keywordEach kws X.env)).all (·.1.isSome) = true := by rfl) (hks : (backToKw pos (keywordEach kws X.env)).filterMap (·.1) = ks := by rfl)
    (hdb : (x == ("__debug__" : Str)) = false := by decide) (he : starEach (e :: es) X.env = (false, eval e X.env) :: starEach es X.env := by rfl)
    (hpl : ((backTo pos (starEach (e :: es) X.env)).any (·.1) || (backToKw pos (keywordEach kws X.env)).any (·.1.isNone)) = false := by rfl) :
    PE X (.Call (.Name x p) (e :: es) kws pos) (tCallN n ks.length sp gV E t tk) := by
  refine ⟨fun pins s σ H Q I h => ?_⟩
  refine wpAny_Call_Name_kw (ld_glob I hg hm ?_ hdb)
  refine PySem.W.callWith_KW (h₀ := X.base) I.ok.mod.kin hk hall (thn (ha.run pos pins s σ H _ I h) fun us s1 ⟨vs, H1, I1, r, q⟩ => ?_) hpl he
  refine thn (hkw.run pos pins s1 σ H1 _ I1 q) fun ws s2 ⟨zs, H2, I2, rz, l1, l2, q2⟩ => ⟨I2.kIn, ?_⟩
  rw [hks]
  exact run_fnN F hr hb hx I2 r rz l1 l2 q2
theorem pe_callN0 {CX : CXT} {g : List Value → List Value → List Value} {gV : List V → List V → List V} {spp : Sp} {E : XK} {tk : TA} (F : FnG X.prog X.w X.K X.mg X.base CX k f fd ps spp) (hr : RoomG k X.A) (hg : Gl X x) (hm : X.mg x = some (.ref f)) (hk : PySem.W.keepIn X.K (.ref f) = true) (hb : KBn X.K fd ps 0 ks g gV) (hx : Passes CX X E)
    (hkw : PK X kws tk) (hall : (backToKw pos (keywordEach kws X.env)).all (·.1.isSome) = true := by rfl) (hks : (backToKw pos (keywordEach kws X.env)).filterMap (·.1) = ks := by rfl)
    (hdb : (x == ("__debug__" : Str)) = false := by decide)
    (hpl : ((backTo pos (starEach [] X.env)).any (·.1) || (backToKw pos (keywordEach kws X.env)).any (·.1.isNone)) = false := by rfl) :
    PE X (.Call (.Name x p) [] kws pos) (tCallN 0 ks.length spp gV E tNil tk) := by
  refine ⟨fun pins s σ H Q I h => ?_⟩
  refine wpAny_Call_Name_kw (ld_glob I hg hm ?_ hdb)
  refine PySem.W.callWith_KW0 (h₀ := X.base) I.ok.mod.kin hk hall ?_ hpl
  refine thn (hkw.run pos pins s σ H _ I h) fun ws s2 ⟨zs, H2, I2, rz, l1, l2, q2⟩ => ⟨I2.kIn, ?_⟩
  rw [hks]
  exact run_fnN F hr hb hx I2 .nil rz l1 l2 q2
end
theorem fn_of {CX : CXT} {P : Program} {w : World} {K : PySem.W.Frag} {mg : Str → Option Value} {base : Heap} {k : Nat} {f : Addr} {name qual : Str} {params : Arguments} {body : List Stmt} {scope : Scope} {dV kV doc pm cdv ct oc : Value} {an od : Option Addr}
    {osl : Array (Option Value)} {N ps : List Str} {sp : Sp} (lk : K.lookup f = some ⟨oc, od, .func (PySem.W.fnOf name qual params body scope dV kV doc pm an cdv ct), osl⟩) (hcd : PySem.W.codeIn K cdv qual = true) (S : FnScope N ps scope)
    (len : ∀ vs H Q E, sp vs H Q E → vs.length = ps.length)
    (hbody : ∀ (A : Around) (outer : List Env) (s : Shared) (H : Hp) (vs : List V) (Q : VK) (E : XK), RoomG k (A.deeper (envOfC qual scope s.heap.objs.size f cdv)) → sp vs H Q E →
      ∃ t, PSs (cxOf CX P w K mg base N qual scope f cdv A outer s H E) body t ∧ t { nx := fun _ H' => Q .non H', rt := Q } (start N vs) H) :
    FnG P w K mg base CX (k + 1) f (PySem.W.fnOf name qual params body scope dV kV doc pm an cdv ct) ps sp := by
  refine ⟨len, fun A outer s H args us vs Q E hr e0 hb r hsp => ?_⟩
  have hl := len _ _ _ _ hsp
  have KX : K.In s.heap := e0.mod.kin.keeps fun b o e => (e0.bs b o e).1
  have lim : s.heap.NoLimit := e0.mod.nolimit.keeps fun b o e => (e0.bs b o e).1
  have hkind : ∀ y ∈ ps.zip us, scope.names.lookup y.1 = some .local ∨ (scope.names.lookup y.1 = some .cell ∧ ((cellsFrom (s.heap.objs.size + 1) scope.names []).lookup y.1).isSome = true) := fun ⟨n, v⟩ hy => by
    rcases S.par n (List.of_mem_zip hy).1 with q | q
    · exact .inl q
    · exact .inr ⟨q, PySem.W.cellsFrom_some _ _ _ (.inl q)⟩
  refine codeAny_call_function hr.r.depth (KX _ _ lk) rfl S.co S.gen rfl (PySem.W.codeRec_of KX hcd) (hb _ _ _ _ ?_)
  refine wpAny_newFunctionEnv_cells S.kind hkind fun env he s1 x => ?_
  subst he
  refine ⟨lim.keeps x.toInCall.keep, codeAny_func ?_⟩
  obtain ⟨t, ht, hq⟩ := hbody A outer s H vs Q E (hr.deeper _) hsp
  have I : Inv (cxOf CX P w K mg base N qual scope f cdv A outer s H E) [] (start N vs) H s1 := inv_start S hr.r.hd e0 hl r x
  refine wpAny_mono (ht.run [] s1 (start N vs) H _ I hq) (fun fl s' hs => ?_) fun e s' hs => hs
  have fin : ∀ {σ' : L2.St} {H' : Hp} {v : V} {u : Value}, Inv (cxOf CX P w K mg base N qual scope f cdv A outer s H E) [] σ' H' s' → RelV v u → Q v H' → CE outer P w H s Q u s' :=
    fun {σ' H' v u} J rv q => ⟨v, H', J.os, J.bare, J.base, J.hok, rv, q⟩
  cases fl with
  | ret u =>
    obtain ⟨v, σ', H', J, rv, q⟩ := hs
    exact fin J rv q
  | next =>
    obtain ⟨σ', H', J, q⟩ := hs
    exact fin (v := V.non) (u := Value.none) J rfl q
  | brk =>
    obtain ⟨_, _, _, q⟩ := hs
    exact False.elim q
  | cont =>
    obtain ⟨_, _, _, q⟩ := hs
    exact False.elim q

section
variable {P : Program} {w : World} {K : PySem.W.Frag} {mg : Str → Option Value} {base : Heap}
theorem fun_ok {x qual : Str} {st : Stmt} {f : Addr} {fd : FuncData} {N ps : List Str} {k : Nat} {sp : Sp} (F : Fun K x qual st f fd) (S : FnScope N ps (defScope st)) (len : ∀ vs H Q E, sp vs H Q E → vs.length = ps.length)
    (hbody : ∀ (cdv : Value) (A : Around) (outer : List Env) (s : Shared) (H : Hp) (vs : List V) (Q : VK) (E : XK), RoomG k (A.deeper (envOfC qual (defScope st) s.heap.objs.size f cdv)) → sp vs H Q E →
      ∃ t, PSs (cxOf CX0 P w K mg base N qual (defScope st) f cdv A outer s H E).nox (defBody st) t ∧ t { nx := fun _ H' => Q .non H', rt := Q } (start N vs) H) : FnG P w K mg base CX0 (k + 1) f fd ps sp := by
  obtain ⟨oc, od, kV, doc, pm, an, cdv, ct, osl, rfl, lk, hcd⟩ := F.ex
  refine fn_of lk hcd S len fun A outer s H vs Q E hr hsp => ?_
  obtain ⟨t, h, q⟩ := hbody cdv A outer s H vs Q E hr hsp
  exact ⟨t, h.nox, q⟩
theorem funD_ok {x qual : Str} {params : Arguments} {body : List Stmt} {scope : Scope} {dvs : List V} {kws : List (Str × V)} {f : Addr} {fd : FuncData} {CX : CXT} {N ps : List Str} {k : Nat} {sp : Sp} (F : FunD K x qual params body scope dvs kws f fd) (S : FnScope N ps scope) (len : ∀ vs H Q E, sp vs H Q E → vs.length = ps.length)
    (hbody : ∀ (cdv : Value) (A : Around) (outer : List Env) (s : Shared) (H : Hp) (vs : List V) (Q : VK) (E : XK), RoomG k (A.deeper (envOfC qual scope s.heap.objs.size f cdv)) → sp vs H Q E →
      ∃ t, PSs (cxOf CX P w K mg base N qual scope f cdv A outer s H E) body t ∧ t { nx := fun _ H' => Q .non H', rt := Q } (start N vs) H) : FnG P w K mg base CX (k + 1) f fd ps sp := by
  obtain ⟨oc, od, dV, kV, doc, pm, an, cdv, ct, osl, rfl, lk, hcd, _, _⟩ := F.ex
  exact fn_of lk hcd S len fun A outer s H vs Q E hr hsp => hbody cdv A outer s H vs Q E hr hsp
end
/-! ### the end -/
theorem law_call {P : Program} {w : World} {K : PySem.W.Frag} {mg mb : Str → Option Value} {CX : CXT} {k : Nat} {fa a : Addr} {fd : FuncData} {x : Str} {sp : Sp} {s₁ : Shared} {vs : List Value} {ns : List Int}
    (KX : K.In s₁.heap) (hns : s₁.heap.Ns mainGlobals mg) (hb : s₁.heap.Ns builtinsNs mb) (hbb : ∀ x : Str, x ≠ "__name__" → mb x = bootBuiltins x) (hlim : s₁.heap.NoLimit) (hg : s₁.gens = #[])
    (ha : s₁.heap.get? a = some { cls := .type "list", data := .seq vs.toArray }) (hi : IntsAre vs ns) (hl : ns.length ≤ sizeLine) (hr : RoomG k callerA)
    (F : ∀ base : Heap, K.In base → base.Ns mainGlobals mg → FnG P w K mg base CX k fa fd [x] sp) (hbind : ∀ (s : Shared) (u : Value), BindsTo s fd ⟨[u], []⟩ [(x, u)])
    (hsp : ∀ H : Hp, Only H → SqL K H a (ns.map V.int) → sp [.ref a] H (fun v _ => v = .bl true) fun _ _ _ => False)
    (hCX : ∀ H e s', CX [] H s₁ (fun _ _ _ => False) e s' → False) :
    codeAny (model P w) callerA (.call (.ref fa) ⟨[.ref a], []⟩) (fun r s' => r = .ok (.ret (.bool true)) ∧ OldK s₁.heap s'.heap ∧ s'.os = s₁.os ∧ AllBare s'.gens) s₁ := by
  have rv := vals_ints hi
  have lenV := hi.length
  -- from an abstract heap in which nothing but the script may be tracked
  have core : ∀ H : Hp, Only H → SqL K H a (ns.map V.int) → HOk P w H s₁.heap → (∀ b, H b ≠ none → b = a) → (H a ≠ none → K.lookup a = none) →
      codeAny (model P w) callerA (.call (.ref fa) ⟨[.ref a], []⟩) (fun r s' => r = .ok (.ret (.bool true)) ∧ OldK s₁.heap s'.heap ∧ s'.os = s₁.os ∧ AllBare s'.gens) s₁ := by
    intro H hO hS hok hA hK
    have base_of : ∀ {b : Addr} {o : Obj}, s₁.heap.get? b = some o → H b = none → (hidT s₁.heap H).get? b = some o := fun e n => hidT_get e n
    have noA : ∀ {b : Addr} {o : Obj} {es : Array DictEntry} {ep : Nat}, s₁.heap.get? b = some o → o.data = .dict es ep → H b = none := fun {b o es ep} e d => by
      cases q : H b with
      | none => rfl
      | some u =>
        have e' : b = a := hA b (by rw [q]; simp)
        subst e'
        rw [ha] at e; cases e
        have d' : Data.seq vs.toArray _ = Data.dict es ep := d
        cases d'
    have nsK : ∀ {b : Addr} {m : Str → Option Value}, s₁.heap.Ns b m → (hidT s₁.heap H).Ns b m := fun {b m} ⟨o, es, ep, e, d, r⟩ => ⟨o, es, ep, base_of e (noA e d), d, r⟩
    have hKb : K.In (hidT s₁.heap H) := fun b o e => base_of (KX b o e) (by
      cases q : H b with
      | none => rfl
      | some u =>
        have e' : b = a := hA b (by rw [q]; simp)
        subst e'
        rw [hK (by rw [q]; simp)] at e; cases e)
    have hM : Mod K mg (hidT s₁.heap H) := ⟨hKb, nsK hns, ⟨mb, nsK hb, hbb⟩, let ⟨mc, h1, h2⟩ := hlim; ⟨mc, nsK h1, h2⟩⟩
    have e0 : Env0 P w K mg (hidT s₁.heap H) callerA [] s₁ H := ⟨rfl, hM, fun b o e => of_hidT e, Nat.le_of_eq (hidT_size _ _), trivial, fun b hb => absurd (show b ∈ ([] : List Addr) from hb) (by simp), hok, .of_eq hg⟩
    refine codeAny_mono ((F _ hKb (nsK hns)).run callerA [] s₁ H ⟨[.ref a], []⟩ [.ref a] [.ref a] _ _ hr e0 (hbind s₁ (.ref a)) (.cons rfl .nil) (hsp H hO hS)) fun r s' h => ?_
    cases r with
    | error e => exact (hCX H e s' h).elim
    | ok fl =>
      cases fl with
      | next => exact False.elim h
      | brk => exact False.elim h
      | cont => exact False.elim h
      | ret u =>
        obtain ⟨v, H', os, bare, un, hok', r', q⟩ := h
        have q' : v = .bl true := q
        subst q'
        obtain rfl : u = Value.bool true := r'
        refine ⟨rfl, OldK.of_keep fun b o e => ?_, os, bare⟩
        cases q : H b with
        | none => exact un.keep b o e q (by intro z; exact absurd (show b ∈ ([] : List Addr) from z) (by simp)) (by simp)
        | some u =>
          rcases hO b with z | ⟨ob, xs, z⟩
          · rw [q] at z; cases z
          · have z2 := un.frzs b ob _ z
            obtain ⟨e1, _⟩ := hok b _ z
            obtain ⟨e2, _⟩ := hok' b _ z2
            rw [e] at e1; cases e1
            exact e2
  cases hk : K.lookup a with
  | some o =>
    -- the script is one of the module's own objects
    have e := KX a o hk
    rw [ha] at e
    cases e
    refine core (fun _ => none) (fun _ => .inl rfl) (.inr ⟨_, vs.toArray, _, hk, rfl, rfl, rfl, by rw [List.size_toArray, lenV]; exact hl, by simpa using rv⟩) (fun b u z => by have z' : (none : Option HO) = some u := z; cases z') (fun b z => absurd rfl z) fun z => absurd rfl z
  | none =>
    refine core (fun b => if b = a then some (.frz { cls := .type "list", data := .seq vs.toArray } (.lst (ns.map V.int))) else none) (fun b => ?_) (.inl (.inr ⟨{ cls := .type "list", data := .seq vs.toArray }, if_pos rfl⟩)) (fun b u z => ?_) (fun b z => ?_) fun _ => hk
    · by_cases hb : b = a
      · exact .inr ⟨_, _, if_pos hb⟩
      · exact .inl (if_neg hb)
    · by_cases hb : b = a
      · have z' := (if_pos hb).symm.trans z
        cases z'
        subst hb
        exact ⟨ha, by rw [List.length_map]; exact hl, vs, _, rv, ha⟩
      · have z' := (if_neg hb).symm.trans z
        cases z'
    · by_cases hb : b = a
      · exact hb
      · exact absurd (if_neg hb) z
theorem walk_of {l : PySem.W.OpenLaw} {n k : Nat} {q : Program} {loose : List Str} {XP : (Str → Option Value) → Heap → Prop} {YP : World → Heap → Prop} {d : DefRec} {K : Params → PySem.W.Frag} {CX : World → CXT} {sp : World → Sp} {x : Str}
    (hn : l.most = some n) (hn2 : n ≤ sizeLine) (hdf : d.params.defaults = []) (hr : RoomG k callerA)
    (hY : ∀ (w : World) (h : Heap), YP w h → (K w.params).In h)
    (F : ∀ (w : World) (mg : Str → Option Value) (fa : Addr) (h : Heap), (K w.params).In h → h.Ns mainGlobals mg → mg d.name = some (.ref fa) →
      ∃ fd : FuncData, (∀ (s : Shared) (u : Value), BindsTo s fd ⟨[u], []⟩ [(x, u)]) ∧
        ∀ base : Heap, (K w.params).In base → base.Ns mainGlobals mg → FnG l.prog w (K w.params) mg base (CX w) k fa fd [x] (sp w))
    (hsp : ∀ (w : World) (H : Hp) (a : Addr) (ns : List Int), ns.length ≤ n → Only H → SqL (K w.params) H a (ns.map V.int) → sp w [.ref a] H (fun v _ => v = .bl true) fun _ _ _ => False)
    (hCX : ∀ (w : World) (H : Hp) (s : Shared) (e : Value) (s' : Shared), CX w [] H s (fun _ _ _ => False) e s' → False) :
    PySem.W.WalkO q loose XP YP l.row.toRowW d [] (fun f vs => PySem.call f vs) := by
  refine Att.attach_call hn hdf fun w s₀ s₁ mg mb fa o pm cd doc a vs ns G Y ho hd hcd hmg hobj hints hlen hg => ?_
  have KX := hY w _ Y
  obtain ⟨fd, hb, hF⟩ := F w mg fa _ KX G.T.g hmg
  exact law_call KX G.T.g G.T.b G.T.builtins G.T.nolimit hg hobj hints (Nat.le_trans hlen hn2) hr hF hb (fun H hO hS => hsp w H a ns hlen hO hS) fun H e s' => hCX w H s₁ e s'
end DG

/-! A layer over the hand layer: values as data (no addresses but of what changes), readings as predicates over data. -/
namespace DL
open PySem PySem.Spec PyProof.Rows L2

/-- data: what a value is, all through; obj: a thing that may change, by its place -/
inductive D where
  | non | bl (b : Bool) | int (i : Int) | str (s : Str) | ty (n : String) | lst (xs : List D) | ext (xs : List D) | tup (xs : List D) | obj (a : Addr)

/-- a tuple as data: made in the run, or standing in the written part -/
def TupAt (K : PySem.W.Frag) (I : Hp) (a : Addr) (xs : List V) : Prop := I a = some (.tup xs) ∨
    ∃ (o : Obj) (its : Array Value) (n : Nat), K.lookup a = some o ∧ o.cls = .type "tuple" ∧ o.data = .seq its n ∧ its.size ≤ sizeLine ∧ Vals xs its.toList
mutual
def Rep (K : PySem.W.Frag) (I : Hp) : D → V → Prop
  | .non, v => v = .non
  | .bl b, v => v = .bl b
  | .int i, v => v = .int i
  | .str s, v => v = .str s
  | .ty n, v => v = .ty n
  | .lst ds, v => ∃ a xs, v = .ref a ∧ I a = some (.lst xs) ∧ RepL K I ds xs
  | .ext ds, v => ∃ a xs, v = .ref a ∧ SqL K I a xs ∧ RepL K I ds xs
  | .tup ds, v => ∃ a xs, v = .ref a ∧ TupAt K I a xs ∧ RepL K I ds xs
  | .obj a, v => v = .ref a
def RepL (K : PySem.W.Frag) (I : Hp) : List D → List V → Prop
  | [], vs => vs = []
  | d :: ds, vs => ∃ v r, vs = v :: r ∧ Rep K I d v ∧ RepL K I ds r
end

/-- what a changing thing holds -/
inductive MO where
  | lst (xs : List D)
  | ins (C : Addr) (fs : List (Str × D))
  | dK (kvs : List (Key × D))
  | dZ (o : Obj) (vs : List (Key × V)) (kvs : List (Key × D))
  | dT (kvs : List (List Key × D))
  | dU (o : Obj) (vs : List (List Key × V)) (kvs : List (List Key × D))
abbrev Store := Addr → Option MO
abbrev DSt := List (Option D)
def supd (S : Store) (a : Addr) (m : MO) : Store := fun b => if b = a then some m else S b
def sdel (S : Store) (a : Addr) : Store := fun b => if b = a then none else S b

def RepF {κ : Type} (K : PySem.W.Frag) (I : Hp) : List (κ × D) → List (κ × V) → Prop
  | [], vs => vs = []
  | d :: ds, vs => ∃ v r, vs = (d.1, v) :: r ∧ Rep K I d.2 v ∧ RepF K I ds r
def RepM (K : PySem.W.Frag) (I H : Hp) (a : Addr) : MO → Prop
  | .lst ds => ∃ xs, H a = some (.lst xs) ∧ RepL K I ds xs
  | .ins C fs => ∃ dx vs, H a = some (.ins C dx vs) ∧ H dx = some (.own a) ∧ RepF K I fs vs
  | .dK kvs => ∃ vs, H a = some (.dK vs) ∧ RepF K I kvs vs
  | .dZ o vs kvs => H a = some (.frz o (.dK vs)) ∧ RepF K I kvs vs
  | .dT kvs => ∃ vs, H a = some (.dT vs) ∧ RepF K I kvs vs
  | .dU o vs kvs => H a = some (.frz o (.dT vs)) ∧ RepF K I kvs vs
/-- what is hidden is no instance's own dict, no tuple -/
def NoHid (o : HO) : Prop := (∀ y, o ≠ .own y) ∧ ∀ ys, o ≠ .tup ys

section
variable {K : PySem.W.Frag} {I I' I'' H H' F : Hp} {S S' : Store}
theorem tupAt_same {H H' : Hp} {a : Addr} {xs : List V} (e : Same H H') (h : TupAt K H a xs) : TupAt K H' a xs := by
  rcases h with h | h
  · exact .inl (e _ _ h)
  · exact .inr h
theorem sqT_same {H H' : Hp} {a : Addr} {xs : List V} (e : Same H H') (h : TupAt K H a xs) : SqT K H' a xs := by
  rcases h with h | h
  · exact .inl (.inl (e _ _ h))
  · exact .inr h
mutual
theorem Rep.mono (e : Same I I') : ∀ (d : D) (v : V), Rep K I d v → Rep K I' d v
  | .non, _, h => by simpa only [Rep] using h
  | .bl _, _, h => by simpa only [Rep] using h
  | .int _, _, h => by simpa only [Rep] using h
  | .str _, _, h => by simpa only [Rep] using h
  | .ty _, _, h => by simpa only [Rep] using h
  | .obj _, _, h => by simpa only [Rep] using h
  | .lst ds, v, h => by
    simp only [Rep] at h ⊢
    obtain ⟨a, xs, rfl, hs, hr⟩ := h
    exact ⟨a, xs, rfl, e _ _ hs, RepL.mono e ds xs hr⟩
  | .ext ds, v, h => by
    simp only [Rep] at h ⊢
    obtain ⟨a, xs, rfl, hs, hr⟩ := h
    exact ⟨a, xs, rfl, e.seq hs, RepL.mono e ds xs hr⟩
  | .tup ds, v, h => by
    simp only [Rep] at h ⊢
    obtain ⟨a, xs, rfl, hs, hr⟩ := h
    exact ⟨a, xs, rfl, tupAt_same e hs, RepL.mono e ds xs hr⟩
theorem RepL.mono (e : Same I I') : ∀ (ds : List D) (vs : List V), RepL K I ds vs → RepL K I' ds vs
  | [], _, h => by simpa only [RepL] using h
  | d :: ds, vs, h => by
    simp only [RepL] at h ⊢
    obtain ⟨v, r, rfl, h1, h2⟩ := h
    exact ⟨v, r, rfl, Rep.mono e d v h1, RepL.mono e ds r h2⟩
end
theorem RepF.mono {κ : Type} (e : Same I I') : ∀ (ds : List (κ × D)) (vs : List (κ × V)), RepF K I ds vs → RepF K I' ds vs
  | [], _, h => by simpa only [RepF] using h
  | d :: ds, vs, h => by
    simp only [RepF] at h ⊢
    obtain ⟨v, r, rfl, h1, h2⟩ := h
    exact ⟨v, r, rfl, Rep.mono e d.2 v h1, RepF.mono e ds r h2⟩
theorem RepL.len : ∀ {ds : List D} {vs : List V}, RepL K I ds vs → vs.length = ds.length
  | [], _, h => by
    simp only [RepL] at h
    subst h; rfl
  | d :: ds, vs, h => by
    simp only [RepL] at h
    obtain ⟨v, r, rfl, h1, h2⟩ := h
    simp [RepL.len h2]
theorem RepL.get : ∀ {ds : List D} {vs : List V} {i : Nat} {d : D}, RepL K I ds vs → ds[i]? = some d → ∃ v, vs[i]? = some v ∧ Rep K I d v
  | [], _, _, _, _, e => by simp at e
  | d :: ds, vs, 0, x, h, e => by
    simp only [RepL] at h
    obtain ⟨v, r, rfl, h1, h2⟩ := h
    simp at e; subst e
    exact ⟨v, rfl, h1⟩
  | d :: ds, vs, i + 1, x, h, e => by
    simp only [RepL] at h
    obtain ⟨v, r, rfl, h1, h2⟩ := h
    obtain ⟨w, e1, e2⟩ := RepL.get (i := i) h2 (by simpa using e)
    exact ⟨w, by simpa using e1, e2⟩
theorem RepL.app : ∀ {ds es : List D} {vs ws : List V}, RepL K I ds vs → RepL K I es ws → RepL K I (ds ++ es) (vs ++ ws)
  | [], _, _, _, h, h' => by
    simp only [RepL] at h
    subst h; simpa using h'
  | d :: ds, es, vs, ws, h, h' => by
    simp only [RepL] at h
    obtain ⟨v, r, rfl, h1, h2⟩ := h
    simp only [List.cons_append, RepL]
    exact ⟨v, r ++ ws, rfl, h1, h2.app h'⟩
theorem RepL.nil : RepL K I [] [] := by simp only [RepL]
theorem RepL.cons {d : D} {v : V} {ds : List D} {vs : List V} (h : Rep K I d v) (h' : RepL K I ds vs) : RepL K I (d :: ds) (v :: vs) := by
  simp only [RepL]
  exact ⟨v, vs, rfl, h, h'⟩
theorem RepL.one {d : D} {v : V} (h : Rep K I d v) : RepL K I [d] [v] := RepL.cons h RepL.nil
theorem RepL.set : ∀ {ds : List D} {vs : List V} {d : D} {v : V} (i : Nat), RepL K I ds vs → Rep K I d v → RepL K I (ds.set i d) (vs.set i v)
  | [], _, _, _, _, h, _ => by
    simp only [RepL] at h
    subst h; simp only [List.set_nil]; exact RepL.nil
  | d :: ds, vs, x, y, 0, h, h' => by
    simp only [RepL] at h
    obtain ⟨v, r, rfl, h1, h2⟩ := h
    exact RepL.cons h' h2
  | d :: ds, vs, x, y, i + 1, h, h' => by
    simp only [RepL] at h
    obtain ⟨v, r, rfl, h1, h2⟩ := h
    exact RepL.cons h1 (h2.set i h')
theorem RepL.drop : ∀ {ds : List D} {vs : List V} (n : Nat), RepL K I ds vs → RepL K I (ds.drop n) (vs.drop n)
  | _, _, 0, h => by simpa using h
  | [], _, n + 1, h => by
    simp only [RepL] at h
    subst h; simp only [List.drop_nil]; exact RepL.nil
  | d :: ds, vs, n + 1, h => by
    simp only [RepL] at h
    obtain ⟨v, r, rfl, h1, h2⟩ := h
    simpa using h2.drop n
theorem RepL.take : ∀ {ds : List D} {vs : List V} (n : Nat), RepL K I ds vs → RepL K I (ds.take n) (vs.take n)
  | _, _, 0, h => by simp only [List.take_zero]; exact RepL.nil
  | [], _, n + 1, h => by
    simp only [RepL] at h
    subst h; simp only [List.take_nil]; exact RepL.nil
  | d :: ds, vs, n + 1, h => by
    simp only [RepL] at h
    obtain ⟨v, r, rfl, h1, h2⟩ := h
    simp only [List.take_succ_cons]
    exact RepL.cons h1 (h2.take n)
theorem RepL.rev : ∀ {ds : List D} {vs : List V}, RepL K I ds vs → RepL K I ds.reverse vs.reverse
  | [], _, h => by
    simp only [RepL] at h
    subst h; exact RepL.nil
  | d :: ds, vs, h => by
    simp only [RepL] at h
    obtain ⟨v, r, rfl, h1, h2⟩ := h
    simp only [List.reverse_cons]
    exact h2.rev.app (RepL.one h1)
theorem RepL.inv1 {d : D} {vs : List V} (h : RepL K I [d] vs) : ∃ v, vs = [v] ∧ Rep K I d v := by
  simp only [RepL] at h
  obtain ⟨v, r, rfl, h1, rfl⟩ := h
  exact ⟨v, rfl, h1⟩
theorem RepL.inv2 {d e : D} {vs : List V} (h : RepL K I [d, e] vs) : ∃ v w, vs = [v, w] ∧ Rep K I d v ∧ Rep K I e w := by
  simp only [RepL] at h
  obtain ⟨v, r, rfl, h1, w, r', rfl, h2, rfl⟩ := h
  exact ⟨v, w, rfl, h1, h2⟩
theorem RepL.inv3 {d e f : D} {vs : List V} (h : RepL K I [d, e, f] vs) : ∃ v w u, vs = [v, w, u] ∧ Rep K I d v ∧ Rep K I e w ∧ Rep K I f u := by
  simp only [RepL] at h
  obtain ⟨v, r, rfl, h1, w, r', rfl, h2, u, r'', rfl, h3, rfl⟩ := h
  exact ⟨v, w, u, rfl, h1, h2, h3⟩
theorem rep_int {i : Int} : Rep K I (.int i) (.int i) := by simp only [Rep]
theorem rep_bl {b : Bool} : Rep K I (.bl b) (.bl b) := by simp only [Rep]
theorem rep_str {s : Str} : Rep K I (.str s) (.str s) := by simp only [Rep]
theorem rep_non : Rep K I .non .non := by simp only [Rep]
theorem Rep.int_of {i : Int} {v : V} (h : Rep K I (.int i) v) : v = .int i := by simpa only [Rep] using h
theorem Rep.bl_of {i : Bool} {v : V} (h : Rep K I (.bl i) v) : v = .bl i := by simpa only [Rep] using h
theorem Rep.str_of {i : Str} {v : V} (h : Rep K I (.str i) v) : v = .str i := by simpa only [Rep] using h
theorem Rep.non_of {v : V} (h : Rep K I .non v) : v = .non := by simpa only [Rep] using h
theorem Rep.obj_of {a : Addr} {v : V} (h : Rep K I (.obj a) v) : v = .ref a := by simpa only [Rep] using h
theorem Rep.lst_of {ds : List D} {v : V} (h : Rep K I (.lst ds) v) : ∃ a xs, v = .ref a ∧ I a = some (.lst xs) ∧ RepL K I ds xs := by simpa only [Rep] using h
theorem Rep.ext_of {ds : List D} {v : V} (h : Rep K I (.ext ds) v) : ∃ a xs, v = .ref a ∧ SqL K I a xs ∧ RepL K I ds xs := by simpa only [Rep] using h
theorem Rep.tup_of {ds : List D} {v : V} (h : Rep K I (.tup ds) v) : ∃ a xs, v = .ref a ∧ TupAt K I a xs ∧ RepL K I ds xs := by simpa only [Rep] using h

/-! ### the heap behind the data -/
structure Ok (K : PySem.W.Frag) (I : Hp) (S : Store) (F H : Hp) : Prop where
  i : ∀ a o, I a = some o → H a = some o
  s : ∀ a m, S a = some m → I a = none ∧ RepM K I H a m
  f : ∀ a o, F a = some o → H a = some o ∧ I a = none ∧ S a = none ∧ NoHid o

theorem RepM.there {a : Addr} {m : MO} (h : RepM K I H a m) : ∃ o, H a = some o ∧ ∀ y, o ≠ .own y := by
  cases m with
  | lst ds => obtain ⟨xs, e, _⟩ := h; exact ⟨_, e, fun y z => by cases z⟩
  | ins C fs => obtain ⟨dx, vs, e, _⟩ := h; exact ⟨_, e, fun y z => by cases z⟩
  | dK kvs => obtain ⟨vs, e, _⟩ := h; exact ⟨_, e, fun y z => by cases z⟩
  | dZ o vs kvs => exact ⟨_, h.1, fun y z => by cases z⟩
  | dT kvs => obtain ⟨vs, e, _⟩ := h; exact ⟨_, e, fun y z => by cases z⟩
  | dU o vs kvs => exact ⟨_, h.1, fun y z => by cases z⟩
theorem RepM.mono {a : Addr} {m : MO} (h : RepM K I H a m) (e : Same I I') (ha : H' a = H a) (hd : ∀ dx, H dx = some (.own a) → H' dx = some (.own a)) : RepM K I' H' a m := by
  cases m with
  | lst ds => obtain ⟨xs, q, r⟩ := h; exact ⟨xs, ha.trans q, r.mono e⟩
  | ins C fs => obtain ⟨dx, vs, q, q2, r⟩ := h; exact ⟨dx, vs, ha.trans q, hd dx q2, r.mono e⟩
  | dK kvs => obtain ⟨vs, q, r⟩ := h; exact ⟨vs, ha.trans q, r.mono e⟩
  | dZ o vs kvs => exact ⟨ha.trans h.1, h.2.mono e⟩
  | dT kvs => obtain ⟨vs, q, r⟩ := h; exact ⟨vs, ha.trans q, r.mono e⟩
  | dU o vs kvs => exact ⟨ha.trans h.1, h.2.mono e⟩
theorem Ok.same (h : Ok K I S F H) : Same I H := h.i
theorem Ok.freshI (h : Ok K I S F H) {p : Addr} (n : H p = none) : I p = none := by
  cases e : I p with
  | none => rfl
  | some o => rw [h.i p o e] at n; cases n
theorem Ok.freshS (h : Ok K I S F H) {p : Addr} (n : H p = none) : S p = none := by
  cases e : S p with
  | none => rfl
  | some o =>
    obtain ⟨_, q, _⟩ := (h.s p o e).2.there
    rw [q] at n; cases n
theorem Ok.freshF (h : Ok K I S F H) {p : Addr} (n : H p = none) : F p = none := by
  cases e : F p with
  | none => rfl
  | some o => rw [(h.f p o e).1] at n; cases n
theorem same_new {p : Addr} {o : HO} (n : I p = none) : Same I (upd I p o) := fun b x e => by
  rw [upd_ne (ne_of_none e n)]
  exact e
/-- a new thing that never changes -/
theorem Ok.newI (h : Ok K I S F H) {p : Addr} {o : HO} (n : H p = none) : Ok K (upd I p o) S F (upd H p o) := by
  refine ⟨fun a x e => ?_, fun a m e => ?_, fun a x e => ?_⟩
  · by_cases q : a = p
    · subst q; rw [upd_same] at e ⊢; exact e
    · rw [upd_ne q] at e ⊢; exact h.i a x e
  · obtain ⟨h1, h2⟩ := h.s a m e
    obtain ⟨x, h3, _⟩ := h2.there
    have ne : a ≠ p := ne_of_none h3 n
    refine ⟨by rw [upd_ne ne]; exact h1, h2.mono (same_new (h.freshI n)) (upd_ne ne) fun dx q => ?_⟩
    rw [upd_ne (ne_of_none q n)]; exact q
  · obtain ⟨h1, h2, h3, h4⟩ := h.f a x e
    have ne : a ≠ p := ne_of_none h1 n
    exact ⟨by rw [upd_ne ne]; exact h1, by rw [upd_ne ne]; exact h2, h3, h4⟩
/-- a new list that may change -/
theorem Ok.newM (h : Ok K I S F H) {p : Addr} {xs : List V} {ds : List D} (n : H p = none) (r : RepL K I ds xs) : Ok K I (supd S p (.lst ds)) F (upd H p (.lst xs)) := by
  refine ⟨fun a x e => ?_, fun a m e => ?_, fun a x e => ?_⟩
  · rw [upd_ne (ne_of_none (h.i a x e) n)]; exact h.i a x e
  · unfold supd at e
    by_cases q : a = p
    · subst q
      rw [if_pos rfl] at e; cases e
      exact ⟨h.freshI n, xs, upd_same, r⟩
    · rw [if_neg q] at e
      obtain ⟨h1, h2⟩ := h.s a m e
      refine ⟨h1, h2.mono (Same.refl I) (upd_ne q) fun dx q => ?_⟩
      rw [upd_ne (ne_of_none q n)]; exact q
  · obtain ⟨h1, h2, h3, h4⟩ := h.f a x e
    have ne : a ≠ p := ne_of_none h1 n
    exact ⟨by rw [upd_ne ne]; exact h1, h2, by unfold supd; rw [if_neg ne]; exact h3, h4⟩
/-- a new thing that is hidden -/
theorem Ok.newF (h : Ok K I S F H) {p : Addr} {o : HO} (n : H p = none) (no : NoHid o) : Ok K I S (upd F p o) (upd H p o) := by
  refine ⟨fun a x e => ?_, fun a m e => ?_, fun a x e => ?_⟩
  · rw [upd_ne (ne_of_none (h.i a x e) n)]; exact h.i a x e
  · obtain ⟨h1, h2⟩ := h.s a m e
    obtain ⟨x, h3, _⟩ := h2.there
    have ne : a ≠ p := ne_of_none h3 n
    refine ⟨h1, h2.mono (Same.refl I) (upd_ne ne) fun dx q => ?_⟩
    rw [upd_ne (ne_of_none q n)]; exact q
  · by_cases q : a = p
    · subst q
      rw [upd_same] at e ⊢; cases e
      exact ⟨rfl, h.freshI n, h.freshS n, no⟩
    · rw [upd_ne q] at e
      obtain ⟨h1, h2, h3, h4⟩ := h.f a x e
      exact ⟨by rw [upd_ne q]; exact h1, h2, h3, h4⟩
/-- a changing list changes -/
theorem Ok.write (h : Ok K I S F H) {p : Addr} {m : MO} {o : HO} {m' : MO} (e : S p = some m) (no : ∀ y, H p ≠ some (.own y)) (r : RepM K I (upd H p o) p m') : Ok K I (supd S p m') F (upd H p o) := by
  obtain ⟨i0, m0⟩ := h.s p m e
  refine ⟨fun a x q => ?_, fun a m q => ?_, fun a x q => ?_⟩
  · rw [upd_ne (ne_of_none q i0)]; exact h.i a x q
  · unfold supd at q
    by_cases z : a = p
    · subst z
      rw [if_pos rfl] at q; cases q
      exact ⟨i0, r⟩
    · rw [if_neg z] at q
      obtain ⟨h1, h2⟩ := h.s a m q
      refine ⟨h1, h2.mono (Same.refl I) (upd_ne z) fun dx q => ?_⟩
      by_cases zz : dx = p
      · subst zz; exact absurd q (no _)
      · rw [upd_ne zz]; exact q
  · obtain ⟨h1, h2, h3, h4⟩ := h.f a x q
    have ne : a ≠ p := fun z => by subst z; rw [h3] at e; cases e
    exact ⟨by rw [upd_ne ne]; exact h1, h2, by unfold supd; rw [if_neg ne]; exact h3, h4⟩
theorem Ok.writeL (h : Ok K I S F H) {p : Addr} {m : MO} {xs : List V} {ds : List D} (e : S p = some m) (r : RepL K I ds xs) : Ok K I (supd S p (.lst ds)) F (upd H p (.lst xs)) := by
  refine h.write e (fun y z => ?_) ⟨xs, upd_same, r⟩
  obtain ⟨o, q, no⟩ := (h.s p m e).2.there
  rw [q] at z
  exact no y (Option.some.inj z)
/-- a hidden thing changes -/
theorem Ok.writeF (h : Ok K I S F H) {p : Addr} {o o' : HO} (e : F p = some o) (no : NoHid o') : Ok K I S (upd F p o') (upd H p o') := by
  obtain ⟨f1, f2, f3, f4⟩ := h.f p o e
  refine ⟨fun a x q => ?_, fun a m q => ?_, fun a x q => ?_⟩
  · rw [upd_ne (ne_of_none q f2)]; exact h.i a x q
  · obtain ⟨h1, h2⟩ := h.s a m q
    have ne : a ≠ p := fun z => by subst z; rw [f3] at q; cases q
    refine ⟨h1, h2.mono (Same.refl I) (upd_ne ne) fun dx q => ?_⟩
    by_cases zz : dx = p
    · subst zz
      rw [f1] at q
      exact absurd (Option.some.inj q) (f4.1 _)
    · rw [upd_ne zz]; exact q
  · by_cases z : a = p
    · subst z
      rw [upd_same] at q ⊢; cases q
      exact ⟨rfl, f2, f3, no⟩
    · rw [upd_ne z] at q
      obtain ⟨h1, h2, h3, h4⟩ := h.f a x q
      exact ⟨by rw [upd_ne z]; exact h1, h2, h3, h4⟩
/-- a hidden thing is laid with what never changes -/
theorem Ok.showF (h : Ok K I S F H) {p : Addr} {o : HO} (e : F p = some o) : Ok K (upd I p o) S (fun b => if b = p then none else F b) H := by
  obtain ⟨f1, f2, f3, f4⟩ := h.f p o e
  refine ⟨fun a x q => ?_, fun a m q => ?_, fun a x q => ?_⟩
  · by_cases z : a = p
    · subst z; rw [upd_same] at q; cases q; exact f1
    · rw [upd_ne z] at q; exact h.i a x q
  · obtain ⟨h1, h2⟩ := h.s a m q
    have ne : a ≠ p := fun z => by subst z; rw [f3] at q; cases q
    exact ⟨by rw [upd_ne ne]; exact h1, h2.mono (same_new f2) rfl fun _ q => q⟩
  · by_cases z : a = p
    · rw [if_pos z] at q; cases q
    · rw [if_neg z] at q
      obtain ⟨h1, h2, h3, h4⟩ := h.f a x q
      exact ⟨h1, by rw [upd_ne z]; exact h2, h3, h4⟩
/-- a list that changed is to change no more -/
theorem Ok.freeze (h : Ok K I S F H) {p : Addr} {ds : List D} (e : S p = some (.lst ds)) : ∃ xs, RepL K I ds xs ∧ I p = none ∧ Ok K (upd I p (.lst xs)) (sdel S p) F H := by
  obtain ⟨i0, xs, hp, r⟩ := h.s p _ e
  refine ⟨xs, r, i0, fun a x q => ?_, fun a m q => ?_, fun a x q => ?_⟩
  · by_cases z : a = p
    · subst z; rw [upd_same] at q; cases q; exact hp
    · rw [upd_ne z] at q; exact h.i a x q
  · unfold sdel at q
    by_cases z : a = p
    · rw [if_pos z] at q; cases q
    · rw [if_neg z] at q
      obtain ⟨h1, h2⟩ := h.s a m q
      exact ⟨by rw [upd_ne z]; exact h1, h2.mono (same_new i0) rfl fun _ q => q⟩
  · obtain ⟨h1, h2, h3, h4⟩ := h.f a x q
    have ne : a ≠ p := fun z => by subst z; rw [h3] at e; cases e
    exact ⟨h1, by rw [upd_ne ne]; exact h2, by unfold sdel; rw [if_neg ne]; exact h3, h4⟩
theorem rep_new_lst {p : Addr} {xs : List V} {ds : List D} (n : I p = none) (r : RepL K I ds xs) : Rep K (upd I p (.lst xs)) (.lst ds) (.ref p) := by
  simp only [Rep]
  exact ⟨p, xs, rfl, upd_same, r.mono (same_new n)⟩
theorem rep_new_tup {p : Addr} {xs : List V} {ds : List D} (n : I p = none) (r : RepL K I ds xs) : Rep K (upd I p (.tup xs)) (.tup ds) (.ref p) := by
  simp only [Rep]
  exact ⟨p, xs, rfl, .inl upd_same, r.mono (same_new n)⟩
end

/-! ### slots -/
def RepS (K : PySem.W.Frag) (I : Hp) (ρ : DSt) (σ : L2.St) : Prop := ρ.length = σ.length ∧ ∀ (i : Nat) (d : D), ρ[i]? = some (some d) → ∃ v, σ[i]? = some (some v) ∧ Rep K I d v
section
variable {K : PySem.W.Frag} {I I' : Hp} {ρ : DSt} {σ : L2.St}
theorem RepS.mono (h : RepS K I ρ σ) (e : Same I I') : RepS K I' ρ σ := ⟨h.1, fun i d q => let ⟨v, a, b⟩ := h.2 i d q; ⟨v, a, b.mono e⟩⟩
theorem RepS.set (h : RepS K I ρ σ) {d : D} {v : V} (i : Nat) (r : Rep K I d v) : RepS K I (ρ.set i (some d)) (σ.set i (some v)) := by
  refine ⟨by simp [h.1], fun j x q => ?_⟩
  by_cases hj : i = j
  · subst hj
    by_cases hi : i < ρ.length
    · rw [List.getElem?_set_self hi] at q
      cases q
      exact ⟨v, by rw [List.getElem?_set_self (by rw [← h.1]; exact hi)], r⟩
    · rw [List.getElem?_eq_none (by simpa using hi)] at q; cases q
  · rw [List.getElem?_set_ne hj] at q
    obtain ⟨w, a, b⟩ := h.2 j x q
    exact ⟨w, by rw [List.getElem?_set_ne hj]; exact a, b⟩
theorem RepS.unset (h : RepS K I ρ σ) (i : Nat) : RepS K I (ρ.set i none) (σ.set i none) := by
  refine ⟨by simp [h.1], fun j x q => ?_⟩
  by_cases hj : i = j
  · subst hj
    by_cases hi : i < ρ.length
    · rw [List.getElem?_set_self hi] at q; cases q
    · rw [List.getElem?_eq_none (by simpa using hi)] at q; cases q
  · rw [List.getElem?_set_ne hj] at q
    obtain ⟨w, a, b⟩ := h.2 j x q
    exact ⟨w, by rw [List.getElem?_set_ne hj]; exact a, b⟩
def dwipe (ρ : DSt) : List Nat → DSt
  | [] => ρ
  | v :: vs => (dwipe ρ vs).set v none
theorem RepS.wipe (h : RepS K I ρ σ) : ∀ vs : List Nat, RepS K I (dwipe ρ vs) (L2.wipe σ vs)
  | [] => h
  | v :: vs => (h.wipe vs).unset v
theorem repS_start {N : List Str} {ds : List D} {vs : List V} (r : RepL K I ds vs) : RepS K I (ds.map some ++ List.replicate (N.length - ds.length) none) (L2.start N vs) := by
  have l := r.len
  refine ⟨by simp [L2.start, l], fun i d q => ?_⟩
  by_cases hi : i < ds.length
  · rw [List.getElem?_append_left (by simpa using hi)] at q
    rw [List.getElem?_map] at q
    cases e : ds[i]? with
    | none => rw [e] at q; cases q
    | some x =>
      rw [e] at q
      cases q
      obtain ⟨v, e1, e2⟩ := r.get e
      refine ⟨v, ?_, e2⟩
      unfold L2.start
      rw [List.getElem?_append_left (by simpa [l] using hi), List.getElem?_map, e1]
      rfl
  · rw [List.getElem?_append_right (by simpa using hi)] at q
    rw [List.getElem?_replicate] at q
    split at q <;> cases q
end
end DL

namespace DL
open PySem PySem.Spec PyProof.Rows L2

/-! ### readings over data -/
abbrev DE := DSt → Store → (D → Store → Prop) → Prop
abbrev DT := DSt → Store → (Bool → Store → Prop) → Prop
abbrev DA := DSt → Store → (List D → Store → Prop) → Prop
/-- what is walked: its data, what must stay as it is meanwhile -/
abbrev DI := DSt → Store → (List D → Option (Store → Prop) → Store → Prop) → Prop
structure DEnds where
  nx : DSt → Store → Prop
  rt : D → Store → Prop
  bk : DSt → Store → Prop := fun _ _ => False
  ct : DSt → Store → Prop := fun _ _ => False
abbrev DS := DEnds → DSt → Store → Prop
abbrev DSp := List D → Store → (D → Store → Prop) → Prop

section
variable (K : PySem.W.Frag)
def Sees (I F : Hp) (P : D → Store → Prop) (Q : VK) : Prop := ∀ x S' v I' H', P x S' → Same I I' → Ok K I' S' F H' → Rep K I' x v → Q v H'
def SeesT (I F : Hp) (P : Bool → Store → Prop) (Q : Bool → Hp → Prop) : Prop := ∀ b S' I' H', P b S' → Same I I' → Ok K I' S' F H' → Q b H'
def SeesA (I F : Hp) (P : List D → Store → Prop) (Q : List V → Hp → Prop) : Prop := ∀ xs S' vs I' H', P xs S' → Same I I' → Ok K I' S' F H' → RepL K I' xs vs → Q vs H'
def SeesS (I F : Hp) (P : DSt → Store → Prop) (Q : L2.St → Hp → Prop) : Prop := ∀ ρ S' σ I' H', P ρ S' → Same I I' → Ok K I' S' F H' → RepS K I' ρ σ → Q σ H'
def upE (d : DE) : TE := fun σ H Q => ∃ ρ I S F P, RepS K I ρ σ ∧ Ok K I S F H ∧ d ρ S P ∧ Sees K I F P Q
def upT (d : DT) : TT := fun σ H Q => ∃ ρ I S F P, RepS K I ρ σ ∧ Ok K I S F H ∧ d ρ S P ∧ SeesT K I F P Q
def upA (d : DA) : TA := fun σ H Q => ∃ ρ I S F P, RepS K I ρ σ ∧ Ok K I S F H ∧ d ρ S P ∧ SeesA K I F P Q
structure SeesD (I F : Hp) (DD : DEnds) (E : Ends) : Prop where
  nx : SeesS K I F DD.nx E.nx
  rt : Sees K I F DD.rt E.rt
  bk : SeesS K I F DD.bk E.bk
  ct : SeesS K I F DD.ct E.ct
def upS (d : DS) : TS := fun E σ H => ∃ ρ I S F DD, RepS K I ρ σ ∧ Ok K I S F H ∧ d DD ρ S ∧ SeesD K I F DD E
/-- a def's promise -/
def upSp (d : DSp) : Sp := fun vs H Q _ => ∃ ds I S F P, RepL K I ds vs ∧ Ok K I S F H ∧ d ds S P ∧ Sees K I F P Q
end
section
variable {K : PySem.W.Frag} {I I' F : Hp}
theorem Sees.mono {P : D → Store → Prop} {Q : VK} (h : Sees K I F P Q) (e : Same I I') : Sees K I' F P Q := fun x S' v I2 H' p e2 ok r => h x S' v I2 H' p (e.trans e2) ok r
theorem SeesT.mono {P : Bool → Store → Prop} {Q : Bool → Hp → Prop} (h : SeesT K I F P Q) (e : Same I I') : SeesT K I' F P Q := fun x S' I2 H' p e2 ok => h x S' I2 H' p (e.trans e2) ok
theorem SeesA.mono {P : List D → Store → Prop} {Q : List V → Hp → Prop} (h : SeesA K I F P Q) (e : Same I I') : SeesA K I' F P Q := fun x S' v I2 H' p e2 ok r => h x S' v I2 H' p (e.trans e2) ok r
theorem SeesS.mono {P : DSt → Store → Prop} {Q : L2.St → Hp → Prop} (h : SeesS K I F P Q) (e : Same I I') : SeesS K I' F P Q := fun x S' v I2 H' p e2 ok r => h x S' v I2 H' p (e.trans e2) ok r
theorem SeesD.mono {DD : DEnds} {E : Ends} (h : SeesD K I F DD E) (e : Same I I') : SeesD K I' F DD E := ⟨h.nx.mono e, h.rt.mono e, h.bk.mono e, h.ct.mono e⟩
end

abbrev JE (X : Cx) (e : Expr) (d : DE) : Prop := PE X e (upE X.K d)
abbrev JT (X : Cx) (e : Expr) (d : DT) : Prop := PT X e (upT X.K d)
abbrev JW (X : Cx) (e : Expr) (d : DT) : Prop := PW X e (upT X.K d)
abbrev JA (X : Cx) (es : List Expr) (d : DA) : Prop := PA X es (upA X.K d)
abbrev JS (X : Cx) (st : Stmt) (d : DS) : Prop := PS X st (upS X.K d)
abbrev JSs (X : Cx) (st : List Stmt) (d : DS) : Prop := PSs X st (upS X.K d)

theorem je_of {X : Cx} {e : Expr} {t u : TE} (h : PE X e t) (i : ∀ σ H Q, u σ H Q → t σ H Q) : PE X e u := ⟨fun pins s σ H Q I q => h.run pins s σ H Q I (i _ _ _ q)⟩
theorem jt_of {X : Cx} {e : Expr} {t u : TT} (h : PT X e t) (i : ∀ σ H Q, u σ H Q → t σ H Q) : PT X e u := ⟨fun pins s σ H Q I q => h.run pins s σ H Q I (i _ _ _ q)⟩
theorem jw_of {X : Cx} {e : Expr} {t u : TT} (h : PW X e t) (i : ∀ σ H Q, u σ H Q → t σ H Q) : PW X e u := ⟨fun wh pins s σ H Q I q => h.run wh pins s σ H Q I (i _ _ _ q)⟩
theorem ja_of {X : Cx} {e : List Expr} {t u : TA} (h : PA X e t) (i : ∀ σ H Q, u σ H Q → t σ H Q) : PA X e u := ⟨fun pos pins s σ H Q I q => h.run pos pins s σ H Q I (i _ _ _ q)⟩
theorem js_of {X : Cx} {e : Stmt} {t u : TS} (h : PS X e t) (i : ∀ D σ H, u D σ H → t D σ H) : PS X e u := ⟨fun pins s σ H Q I q => h.run pins s σ H Q I (i _ _ _ q)⟩
theorem jss_of {X : Cx} {e : List Stmt} {t u : TS} (h : PSs X e t) (i : ∀ D σ H, u D σ H → t D σ H) : PSs X e u := ⟨fun pins s σ H Q I q => h.run pins s σ H Q I (i _ _ _ q)⟩

/-! ### names, constants -/
def dVar (i : Nat) : DE := fun ρ S P => match ρ[i]? with
  | some (some x) => P x S
  | _ => False
def dC (x : D) : DE := fun _ S P => P x S
section
variable {X : Cx} {pos : Pos}
theorem je_var (i : Nat) {x : Str} (hN : X.N[i]? = some x := by rfl) (hv : Vis X.env.scope x := by first | exact Or.inl rfl | exact Or.inr (Or.inl rfl) | exact Or.inr (Or.inr rfl)) (hd : (x == ("__debug__" : Str)) = false := by decide)
    (hcd : (x == ("__classdict__" : Str)) = false := by decide) : JE X (.Name x pos) (dVar i) :=
  je_of (pe_var hN hv hd hcd) fun σ H Q ⟨ρ, I, S, F, P, rs, ok, h, q⟩ => by
    unfold dVar at h
    split at h
    · rename_i x e
      obtain ⟨v, e1, r⟩ := rs.2 i x e
      exact ⟨v, e1, q _ _ _ _ _ h (Same.refl I) ok r⟩
    · exact h.elim
theorem je_c {e : Expr} {x : D} {v : V} (h : PE X e (tC v)) (r : ∀ I, Rep X.K I x v) : JE X e (dC x) :=
  je_of h fun σ H Q ⟨ρ, I, S, F, P, rs, ok, h, q⟩ => q _ _ _ _ _ h (Same.refl I) ok (r I)
theorem je_int {i : Int} {j} : JE X (.Constant (.int i) j pos) (dC (.int i)) := je_c pe_int fun _ => rep_int
theorem je_bl {b : Bool} {j} : JE X (.Constant (.bool b) j pos) (dC (.bl b)) := je_c pe_bl fun _ => rep_bl
theorem je_non {j} : JE X (.Constant .none j pos) (dC .non) := je_c pe_non fun _ => rep_non
theorem je_str {x : Str} {j} : JE X (.Constant (.str x) j pos) (dC (.str x)) := je_c pe_str fun _ => rep_str
/-- a module's name -/
theorem je_glob {x : Str} {d : D} {v : V} {u : Value} (hg : Gl X x) (hm : X.mg x = some u) (r : RelV v u) (hr : ∀ I, Rep X.K I d v) (hd : (x == ("__debug__" : Str)) = false := by decide) : JE X (.Name x pos) (dC d) := je_c (pe_glob hg hm r hd) hr
/-- a built-in class as a value -/
theorem je_ty {x : Str} {n : String} (hg : Gl X x) (hm : X.mg x = none) (hv : bootBuiltins x = some (.type n)) (hn : x ≠ "__name__" := by decide) (hd : (x == ("__debug__" : Str)) = false := by decide) : JE X (.Name x pos) (dC (.ty n)) :=
  je_c (pe_bltn (v := .ty n) hg hm hv rfl hn hd) fun _ => by simp only [Rep]

/-! ### operators -/
abbrev D2 := D → D → Store → (D → Store → Prop) → Prop
abbrev D1 := D → Store → (D → Store → Prop) → Prop
def dOp (o : D2) (a b : DE) : DE := fun ρ S P => a ρ S fun x S1 => b ρ S1 fun y S2 => o x y S2 P
def dUn (o : D1) (a : DE) : DE := fun ρ S P => a ρ S fun x S1 => o x S1 P
def Imp2 (K : PySem.W.Frag) (r : R2) (o : D2) : Prop := ∀ x y v w I S F H P Q, Ok K I S F H → Rep K I x v → Rep K I y w → o x y S P → Sees K I F P Q → r v w H Q
def Imp1 (K : PySem.W.Frag) (r : V → Hp → VK → Prop) (o : D1) : Prop := ∀ x v I S F H P Q, Ok K I S F H → Rep K I x v → o x S P → Sees K I F P Q → r v H Q
variable {a b : Expr} {da db : DE}
theorem up_op {K : PySem.W.Frag} {r : R2} {o : D2} (i : Imp2 K r o) : ∀ σ H Q, upE K (dOp o da db) σ H Q → tOp r (upE K da) (upE K db) σ H Q := fun σ H Q ⟨ρ, I, S, F, P, rs, ok, h, q⟩ =>
  ⟨ρ, I, S, F, _, rs, ok, h, fun x S1 v I1 H1 h1 e1 ok1 r1 => ⟨ρ, I1, S1, F, _, rs.mono e1, ok1, h1, fun y S2 w I2 H2 h2 e2 ok2 r2 =>
    i x y v w I2 S2 F H2 P Q ok2 (r1.mono e2) r2 h2 (q.mono (e1.trans e2))⟩⟩
theorem je_op {op : Operator} {r : R2} {o : D2} (h : OpR X (binaryOp op) r) (i : Imp2 X.K r o) (ha : JE X a da) (hb : JE X b db) : JE X (.BinOp a op b pos) (dOp o da db) := je_of (pe_op h ha hb) (up_op i)
theorem je_un {op : UnaryOp} {r : V → Hp → VK → Prop} {o : D1} (h : UnR X (unaryOp op) r) (i : Imp1 X.K r o) (ha : JE X a da) : JE X (.UnaryOp op a pos) (dUn o da) :=
  je_of (pe_un h ha) fun σ H Q ⟨ρ, I, S, F, P, rs, ok, h, q⟩ => ⟨ρ, I, S, F, _, rs, ok, h, fun x S1 v I1 H1 h1 e1 ok1 r1 => i x v I1 S1 F H1 P Q ok1 r1 h1 (q.mono e1)⟩
theorem je_cmp {op : CmpOp} {r : R2} {o : D2} (h : OpR X (compareOp op) r) (i : Imp2 X.K r o) (ha : JE X a da) (hb : JE X b db) (hm : behindInMarks op b = false) : JE X (.Compare a [op] [b] pos) (dOp o da db) := je_of (pe_cmpR h ha hb hm) (up_op i)
def dTest (d : DE) : DT := fun ρ S P => d ρ S fun x S1 => match x with
  | .bl k => P k S1
  | _ => False
theorem up_test {K : PySem.W.Frag} {t : TE} {d : DE} (h : ∀ σ H Q, upE K d σ H Q → t σ H Q) : ∀ σ H Q, upT K (dTest d) σ H Q → tTest t σ H Q := fun σ H Q ⟨ρ, I, S, F, P, rs, ok, hh, q⟩ =>
  h _ _ _ ⟨ρ, I, S, F, _, rs, ok, hh, fun x S1 v I1 H1 h1 e1 ok1 r1 => by
    cases x with
    | bl k => exact ⟨k, r1.bl_of, q k S1 I1 H1 h1 e1 ok1⟩
    | _ => exact h1.elim⟩
theorem jt_cmp {op : CmpOp} {r : R2} {o : D2} (h : OpR X (compareOp op) r) (i : Imp2 X.K r o) (ha : JE X a da) (hb : JE X b db) (hm : behindInMarks op b = false) : JT X (.Compare a [op] [b] pos) (dTest (dOp o da db)) := jt_of (pt_cmpR h ha hb hm) (up_test (up_op i))

/-! ### and, or, not, if -/
def dAnd (t u : DT) : DT := fun ρ S P => t ρ S fun c S1 => if c = true then u ρ S1 P else P false S1
def dOr (t u : DT) : DT := fun ρ S P => t ρ S fun c S1 => if c = true then P true S1 else u ρ S1 P
def dNot (t : DT) : DT := fun ρ S P => t ρ S fun c S1 => P (!c) S1
/-- and, or as values, truths all but the last -/
def dAndV (a b : DE) : DE := fun ρ S P => a ρ S fun x S1 => match x with
  | .bl c => if c = true then b ρ S1 P else P (.bl false) S1
  | _ => False
def dOrV (a b : DE) : DE := fun ρ S P => a ρ S fun x S1 => match x with
  | .bl c => if c = true then P (.bl true) S1 else b ρ S1 P
  | _ => False
def dNotV (a : DE) : DE := fun ρ S P => a ρ S fun x S1 => match x with
  | .bl c => P (.bl (!c)) S1
  | _ => False
def dIf (c : DT) (a b : DE) : DE := fun ρ S P => c ρ S fun k S1 => if k = true then a ρ S1 P else b ρ S1 P
variable {dt du : DT} {rest : List Expr}
theorem jw_and1 (ha : JT X a dt) : JW X (.BoolOp .And [a] pos) dt := pw_and1 ha
theorem jw_or1 (ha : JT X a dt) : JW X (.BoolOp .Or [a] pos) dt := pw_or1 ha
theorem jw_and (ha : JT X a dt) (hb : JW X (.BoolOp .And (b :: rest) pos) du) : JW X (.BoolOp .And (a :: b :: rest) pos) (dAnd dt du) :=
  jw_of (pw_and ha hb) fun σ H Q ⟨ρ, I, S, F, P, rs, ok, h, q⟩ => ⟨ρ, I, S, F, _, rs, ok, h, fun c S1 I1 H1 h1 e1 ok1 => by
    cases c with
    | true => exact ⟨ρ, I1, S1, F, P, rs.mono e1, ok1, h1, q.mono e1⟩
    | false => exact q _ _ _ _ h1 e1 ok1⟩
theorem jw_or (ha : JT X a dt) (hb : JW X (.BoolOp .Or (b :: rest) pos) du) : JW X (.BoolOp .Or (a :: b :: rest) pos) (dOr dt du) :=
  jw_of (pw_or ha hb) fun σ H Q ⟨ρ, I, S, F, P, rs, ok, h, q⟩ => ⟨ρ, I, S, F, _, rs, ok, h, fun c S1 I1 H1 h1 e1 ok1 => by
    cases c with
    | false => exact ⟨ρ, I1, S1, F, P, rs.mono e1, ok1, h1, q.mono e1⟩
    | true => exact q _ _ _ _ h1 e1 ok1⟩
theorem jt_w (h : JW X a dt) : JT X a dt := h.pt
theorem jt_not (ha : JT X a dt) : JT X (.UnaryOp .Not a pos) (dNot dt) :=
  jt_of (pt_not ha) fun σ H Q ⟨ρ, I, S, F, P, rs, ok, h, q⟩ => ⟨ρ, I, S, F, _, rs, ok, h, fun c S1 I1 H1 h1 e1 ok1 => q _ _ _ _ h1 e1 ok1⟩
/-- an expression that gives a truth, as a test -/
theorem jt_val (h : JE X a da) (he : ∀ whole, isTrue a X.env whole = (do let v ← whole; standAt a.pos; holding [v] (truthy v)) := by intro _; rfl) : JT X a (dTest da) :=
  jt_of (pt_val h he) fun σ H Q ⟨ρ, I, S, F, P, rs, ok, hh, q⟩ => ⟨ρ, I, S, F, _, rs, ok, hh, fun x S1 v I1 H1 h1 e1 ok1 r1 => by
    cases x with
    | bl k => exact ⟨k, r1.bl_of, q k S1 I1 H1 h1 e1 ok1⟩
    | _ => exact h1.elim⟩
theorem je_one {op} (h : JE X a da) : JE X (.BoolOp op [a] pos) da := pe_one h
theorem je_and (ha : JE X a da) (hb : JE X (.BoolOp .And (b :: rest) pos) db) : JE X (.BoolOp .And (a :: b :: rest) pos) (dAndV da db) :=
  je_of (pe_and ha hb) fun σ H Q ⟨ρ, I, S, F, P, rs, ok, h, q⟩ => ⟨ρ, I, S, F, _, rs, ok, h, fun x S1 v I1 H1 h1 e1 ok1 r1 => by
    cases x with
    | bl c =>
      refine ⟨c, r1.bl_of, ?_⟩
      cases c with
      | true => exact ⟨ρ, I1, S1, F, P, rs.mono e1, ok1, h1, q.mono e1⟩
      | false => exact q _ _ _ _ _ h1 e1 ok1 rep_bl
    | _ => exact h1.elim⟩
theorem je_or (ha : JE X a da) (hb : JE X (.BoolOp .Or (b :: rest) pos) db) : JE X (.BoolOp .Or (a :: b :: rest) pos) (dOrV da db) :=
  je_of (pe_or ha hb) fun σ H Q ⟨ρ, I, S, F, P, rs, ok, h, q⟩ => ⟨ρ, I, S, F, _, rs, ok, h, fun x S1 v I1 H1 h1 e1 ok1 r1 => by
    cases x with
    | bl c =>
      refine ⟨c, r1.bl_of, ?_⟩
      cases c with
      | false => exact ⟨ρ, I1, S1, F, P, rs.mono e1, ok1, h1, q.mono e1⟩
      | true => exact q _ _ _ _ _ h1 e1 ok1 rep_bl
    | _ => exact h1.elim⟩
theorem je_not (ha : JE X a da) : JE X (.UnaryOp .Not a pos) (dNotV da) :=
  je_of (pe_not ha) fun σ H Q ⟨ρ, I, S, F, P, rs, ok, h, q⟩ => ⟨ρ, I, S, F, _, rs, ok, h, fun x S1 v I1 H1 h1 e1 ok1 r1 => by
    cases x with
    | bl c => exact ⟨c, r1.bl_of, q _ _ _ _ _ h1 e1 ok1 rep_bl⟩
    | _ => exact h1.elim⟩
theorem je_ifE {c : Expr} (hc : JT X c dt) (ha : JE X a da) (hb : JE X b db) : JE X (.IfExp c a b pos) (dIf dt da db) :=
  je_of (pe_ifExp hc ha hb) fun σ H Q ⟨ρ, I, S, F, P, rs, ok, h, q⟩ => ⟨ρ, I, S, F, _, rs, ok, h, fun c S1 I1 H1 h1 e1 ok1 => by
    cases c with
    | true => exact ⟨ρ, I1, S1, F, P, rs.mono e1, ok1, h1, q.mono e1⟩
    | false => exact ⟨ρ, I1, S1, F, P, rs.mono e1, ok1, h1, q.mono e1⟩⟩

/-! ### arguments, displays -/
def dNil : DA := fun _ S P => P [] S
def dCons (a : DE) (r : DA) : DA := fun ρ S P => a ρ S fun x S1 => r ρ S1 fun xs S2 => P (x :: xs) S2
variable {es : List Expr} {ds : DA}
theorem ja_nil : JA X [] dNil := ja_of pa_nil fun σ H Q ⟨ρ, I, S, F, P, rs, ok, h, q⟩ => q _ _ _ _ _ h (Same.refl I) ok RepL.nil
theorem ja_cons (ha : JE X a da) (hr : JA X es ds) (hs : starEach (a :: es) X.env = (false, eval a X.env) :: starEach es X.env := by rfl) : JA X (a :: es) (dCons da ds) :=
  ja_of (pa_cons ha hr hs) fun σ H Q ⟨ρ, I, S, F, P, rs, ok, h, q⟩ => ⟨ρ, I, S, F, _, rs, ok, h, fun x S1 v I1 H1 h1 e1 ok1 r1 => ⟨ρ, I1, S1, F, _, rs.mono e1, ok1, h1, fun xs S2 vs I2 H2 h2 e2 ok2 r2 =>
    q _ _ _ _ _ h2 (e1.trans e2) ok2 (RepL.cons (r1.mono e2) r2)⟩⟩
def dTup (a : DA) : DE := fun ρ S P => a ρ S fun xs S1 => xs.length ≤ 100000 ∧ P (.tup xs) S1
def dLst (a : DA) : DE := fun ρ S P => a ρ S fun xs S1 => xs.length ≤ 100000 ∧ P (.lst xs) S1
/-- a list that is to change -/
def dLstM (a : DA) : DE := fun ρ S P => a ρ S fun xs S1 => xs.length ≤ 100000 ∧ ∀ p, S1 p = none → P (.obj p) (supd S1 p (.lst xs))
theorem line5 {n : Nat} (h : n ≤ 100000) : n ≤ sizeLine := Nat.le_trans h (by decide)
theorem je_tup {x1} (h : JA X es ds) : JE X (.Tuple es x1 pos) (dTup ds) :=
  je_of (pe_tup h) fun σ H Q ⟨ρ, I, S, F, P, rs, ok, hh, q⟩ => ⟨ρ, I, S, F, _, rs, ok, hh, fun xs S1 vs I1 H1 ⟨hl, h1⟩ e1 ok1 r1 =>
    ⟨line5 (by rw [r1.len]; exact hl), fun p hp => q _ _ _ _ _ h1 (e1.trans (same_new (ok1.freshI hp))) (ok1.newI hp) (rep_new_tup (ok1.freshI hp) r1)⟩⟩
theorem je_lst (h : JA X es ds) : JE X (.List es pos) (dLst ds) :=
  je_of (pe_lst h) fun σ H Q ⟨ρ, I, S, F, P, rs, ok, hh, q⟩ => ⟨ρ, I, S, F, _, rs, ok, hh, fun xs S1 vs I1 H1 ⟨hl, h1⟩ e1 ok1 r1 =>
    ⟨line5 (by rw [r1.len]; exact hl), fun p hp => q _ _ _ _ _ h1 (e1.trans (same_new (ok1.freshI hp))) (ok1.newI hp) (rep_new_lst (ok1.freshI hp) r1)⟩⟩
theorem je_lstM (h : JA X es ds) : JE X (.List es pos) (dLstM ds) :=
  je_of (pe_lst h) fun σ H Q ⟨ρ, I, S, F, P, rs, ok, hh, q⟩ => ⟨ρ, I, S, F, _, rs, ok, hh, fun xs S1 vs I1 H1 ⟨hl, h1⟩ e1 ok1 r1 =>
    ⟨line5 (by rw [r1.len]; exact hl), fun p hp => q _ _ _ _ _ (h1 p (ok1.freshS hp)) e1 (ok1.newM hp r1) (by simp only [Rep])⟩⟩

/-! ### calls -/
def dCall (sp : DSp) (dv : List D) (a : DA) : DE := fun ρ S P => a ρ S fun xs S1 => sp (xs ++ dv) S1 P
abbrev FnD (P : Program) (w : World) (K : PySem.W.Frag) (mg : Str → Option Value) (base : Heap) (k : Nat) (f : Addr) (fd : FuncData) (ps : List Str) (sp : DSp) : Prop := DG.FnG P w K mg base CX0 k f fd ps (upSp K sp)
theorem je_call {k : Nat} {f : Addr} {fd : FuncData} {ps : List Str} {sp : DSp} {dv : List D} {dvs : List V} {dd : List Value} {x : Str} {p : Pos} (G : FnD X.prog X.w X.K X.mg X.base k f fd ps sp) (hr : DG.RoomG k X.A) (hg : Gl X x) (hm : X.mg x = some (.ref f)) (hk : PySem.W.keepIn X.K (.ref f) = true)
    (hb : Binds X.K fd ps dd) (hd : Vals dvs dd) (hdv : ∀ I, RepL X.K I dv dvs) (ha : JA X (a :: es) ds) (hdb : (x == ("__debug__" : Str)) = false := by decide) (he : starEach (a :: es) X.env = (false, eval a X.env) :: starEach es X.env := by rfl)
    (hpl : (backTo pos (starEach es X.env)).any (·.1) = false := by rfl) : JE X (.Call (.Name x p) (a :: es) [] pos) (dCall sp dv ds) :=
  je_of (DG.pe_call G hr hg hm hk hb hd pass0 ha hdb he hpl) fun σ H Q ⟨ρ, I, S, F, P, rs, ok, h, q⟩ => ⟨ρ, I, S, F, _, rs, ok, h, fun xs S1 vs I1 H1 h1 e1 ok1 r1 => ⟨_, I1, S1, F, P, r1.app (hdv I1), ok1, h1, q.mono e1⟩⟩
theorem je_call0 {k : Nat} {f : Addr} {fd : FuncData} {ps : List Str} {sp : DSp} {dv : List D} {dvs : List V} {dd : List Value} {x : Str} {p : Pos} (G : FnD X.prog X.w X.K X.mg X.base k f fd ps sp) (hr : DG.RoomG k X.A) (hg : Gl X x) (hm : X.mg x = some (.ref f)) (hk : PySem.W.keepIn X.K (.ref f) = true)
    (hb : Binds X.K fd ps dd) (hd : Vals dvs dd) (hdv : ∀ I, RepL X.K I dv dvs) (hdb : (x == ("__debug__" : Str)) = false := by decide) : JE X (.Call (.Name x p) [] [] pos) (dCall sp dv dNil) :=
  je_of (DG.pe_call0 G hr hg hm hk hb hd pass0 hdb) fun σ H Q ⟨ρ, I, S, F, P, rs, ok, h, q⟩ => ⟨_, I, S, F, P, RepL.nil.app (hdv I), ok, h, q⟩
/-- a built-in's call, by its rule -/
abbrev DC := List D → Store → (D → Store → Prop) → Prop
def ImpC (K : PySem.W.Frag) (r : List V → Hp → VK → Prop) (o : DC) : Prop := ∀ xs vs I S F H P Q, Ok K I S F H → RepL K I xs vs → o xs S P → Sees K I F P Q → r vs H Q
def dCB (o : DC) (a : DA) : DE := fun ρ S P => a ρ S fun xs S1 => o xs S1 P
theorem up_cb {K : PySem.W.Frag} {r : List V → Hp → VK → Prop} {o : DC} (i : ImpC K r o) : ∀ σ H Q, upE K (dCB o ds) σ H Q → tCB r (upA K ds) σ H Q := fun σ H Q ⟨ρ, I, S, F, P, rs, ok, h, q⟩ =>
  ⟨ρ, I, S, F, _, rs, ok, h, fun xs S1 vs I1 H1 h1 e1 ok1 r1 => i xs vs I1 S1 F H1 P Q ok1 r1 h1 (q.mono e1)⟩
theorem je_callB {r : List V → Hp → VK → Prop} {o : DC} {id : String} {x : Str} {p : Pos} (hc : CallR X (.builtin id) r) (i : ImpC X.K r o) (hg : Gl X x) (hm : X.mg x = none) (hv : bootBuiltins x = some (.builtin id)) (ha : JA X (a :: es) ds) (hn : x ≠ "__name__" := by decide) (hdb : (x == ("__debug__" : Str)) = false := by decide)
    (hs : starEach (a :: es) X.env = (false, eval a X.env) :: starEach es X.env := by rfl) (hpl : (backTo pos (starEach es X.env)).any (·.1) = false := by rfl) : JE X (.Call (.Name x p) (a :: es) [] pos) (dCB o ds) := je_of (pe_callB hc hg hm hv ha hn hdb hs hpl) (up_cb i)
theorem je_callTy {r : List V → Hp → VK → Prop} {o : DC} {T : String} {x : Str} {p : Pos} (hc : CallR X (.type T) r) (i : ImpC X.K r o) (hg : Gl X x) (hm : X.mg x = none) (hv : bootBuiltins x = some (.type T)) (ha : JA X (a :: es) ds) (hn : x ≠ "__name__" := by decide) (hdb : (x == ("__debug__" : Str)) = false := by decide)
    (hs : starEach (a :: es) X.env = (false, eval a X.env) :: starEach es X.env := by rfl) (hpl : (backTo pos (starEach es X.env)).any (·.1) = false := by rfl) : JE X (.Call (.Name x p) (a :: es) [] pos) (dCB o ds) := je_of (pe_callTy hc hg hm hv ha hn hdb hs hpl) (up_cb i)
end
end DL

namespace DL
open PySem PySem.Spec PyProof.Rows L2

/-! ### statements -/
def dNext : DS := fun DD ρ S => DD.nx ρ S
def dSeq (t u : DS) : DS := fun DD ρ S => t { DD with nx := u DD } ρ S
def dBreak : DS := fun DD ρ S => DD.bk ρ S
def dCont : DS := fun DD ρ S => DD.ct ρ S
def dDrop (d : DE) : DS := fun DD ρ S => d ρ S fun _ S1 => DD.nx ρ S1
def dRet (d : DE) : DS := fun DD ρ S => d ρ S DD.rt
/-- what is given back is to change no more -/
def dRetZ (d : DE) : DS := fun DD ρ S => d ρ S fun x S1 => match x with
  | .obj p => ∃ ds, S1 p = some (.lst ds) ∧ DD.rt (.lst ds) (sdel S1 p)
  | _ => False
def dRetN : DS := fun DD _ S => DD.rt .non S
def dIfS (c : DT) (t u : DS) : DS := fun DD ρ S => c ρ S fun b S1 => if b = true then t DD ρ S1 else u DD ρ S1
def dNever : DS := fun _ _ _ => False
section
variable {X : Cx} {pos : Pos} {st : Stmt} {sts : List Stmt} {t u : DS} {e : Expr} {de : DE} {dc : DT}
theorem jss_nil : JSs X [] dNext := jss_of pss_nil fun D σ H ⟨ρ, I, S, F, DD, rs, ok, h, q⟩ => q.nx _ _ _ _ _ h (Same.refl I) ok rs
theorem jss_cons (h1 : JS X st t) (h2 : JSs X sts u) : JSs X (st :: sts) (dSeq t u) :=
  jss_of (pss_cons h1 h2) fun D σ H ⟨ρ, I, S, F, DD, rs, ok, h, q⟩ =>
    ⟨ρ, I, S, F, _, rs, ok, h, ⟨fun ρ1 S1 σ1 I1 H1 h1 e1 ok1 rs1 => ⟨ρ1, I1, S1, F, DD, rs1, ok1, h1, q.mono e1⟩, q.rt, q.bk, q.ct⟩⟩
theorem jss_one (h1 : JS X st t) : JSs X [st] t := pss_one h1
theorem js_pass : JS X (.Pass pos) dNext := js_of ps_pass fun D σ H ⟨ρ, I, S, F, DD, rs, ok, h, q⟩ => q.nx _ _ _ _ _ h (Same.refl I) ok rs
theorem js_break : JS X (.Break pos) dBreak := js_of ps_break fun D σ H ⟨ρ, I, S, F, DD, rs, ok, h, q⟩ => q.bk _ _ _ _ _ h (Same.refl I) ok rs
theorem js_continue : JS X (.Continue pos) dCont := js_of ps_continue fun D σ H ⟨ρ, I, S, F, DD, rs, ok, h, q⟩ => q.ct _ _ _ _ _ h (Same.refl I) ok rs
theorem js_expr (he : JE X e de) (hs : swapsWith e none pos.line X.env = pure false := by rfl) : JS X (.Expr e pos) (dDrop de) :=
  js_of (ps_expr he hs) fun D σ H ⟨ρ, I, S, F, DD, rs, ok, h, q⟩ => ⟨ρ, I, S, F, _, rs, ok, h, fun x S1 v I1 H1 h1 e1 ok1 r1 => q.nx _ _ _ _ _ h1 e1 ok1 (rs.mono e1)⟩
theorem js_ret (he : JE X e de) : JS X (.Return (some e) pos) (dRet de) :=
  js_of (ps_ret he) fun D σ H ⟨ρ, I, S, F, DD, rs, ok, h, q⟩ => ⟨ρ, I, S, F, _, rs, ok, h, q.rt⟩
theorem js_retZ (he : JE X e de) : JS X (.Return (some e) pos) (dRetZ de) :=
  js_of (ps_ret he) fun D σ H ⟨ρ, I, S, F, DD, rs, ok, h, q⟩ => ⟨ρ, I, S, F, _, rs, ok, h, fun x S1 v I1 H1 h1 e1 ok1 r1 => by
    cases x with
    | obj p =>
      obtain ⟨ds, e, h2⟩ := h1
      obtain ⟨xs, rl, i0, ok2⟩ := ok1.freeze e
      cases r1.obj_of
      exact q.rt _ _ _ _ _ h2 (e1.trans (same_new i0)) ok2 (rep_new_lst i0 rl)
    | _ => exact h1.elim⟩
theorem js_retN : JS X (.Return none pos) dRetN := js_of ps_retN fun D σ H ⟨ρ, I, S, F, DD, rs, ok, h, q⟩ => q.rt _ _ _ _ _ h (Same.refl I) ok rep_non
theorem js_if {c : Expr} {a b : List Stmt} (hc : JT X c dc) (ha : JSs X a t) (hb : JSs X b u) : JS X (.If c a b pos) (dIfS dc t u) :=
  js_of (ps_if hc ha hb) fun D σ H ⟨ρ, I, S, F, DD, rs, ok, h, q⟩ => ⟨ρ, I, S, F, _, rs, ok, h, fun c S1 I1 H1 h1 e1 ok1 => by
    cases c with
    | true => exact ⟨ρ, I1, S1, F, DD, rs.mono e1, ok1, h1, q.mono e1⟩
    | false => exact ⟨ρ, I1, S1, F, DD, rs.mono e1, ok1, h1, q.mono e1⟩⟩
theorem js_never : JS X st dNever := js_of ps_never fun D σ H ⟨ρ, I, S, F, DD, rs, ok, h, q⟩ => h
theorem jss_never : JSs X sts dNever := jss_of pss_never fun D σ H ⟨ρ, I, S, F, DD, rs, ok, h, q⟩ => h

/-! ### targets -/
/-- names, and tuples of such -/
inductive Tgt where
  | nm (i : Nat)
  | tp (ts : List Tgt)
mutual
def Tgt.slots : Tgt → List Nat
  | .nm i => [i]
  | .tp ts => Tgt.slotsL ts
def Tgt.slotsL : List Tgt → List Nat
  | [] => []
  | t :: ts => t.slots ++ Tgt.slotsL ts
end
mutual
def Tgt.put : Tgt → D → DSt → Option DSt
  | .nm i, x, ρ => some (ρ.set i (some x))
  | .tp ts, .tup xs, ρ => Tgt.putL ts xs ρ
  | .tp ts, .lst xs, ρ => Tgt.putL ts xs ρ
  | .tp _, _, _ => none
def Tgt.putL : List Tgt → List D → DSt → Option DSt
  | [], [], ρ => some ρ
  | t :: ts, x :: xs, ρ => (t.put x ρ).bind fun ρ' => Tgt.putL ts xs ρ'
  | _, _, _ => none
end
/-- σ' is σ but at the slots vs -/
def But (vs : List Nat) (σ σ' : L2.St) : Prop := σ'.length = σ.length ∧ ∀ i, i ∉ vs → σ'[i]? = σ[i]?
theorem wipe_get (σ : L2.St) (i : Nat) : ∀ vs : List Nat, (L2.wipe σ vs)[i]? = if i ∈ vs then (if i < σ.length then some none else none) else σ[i]?
  | [] => by simp [L2.wipe]
  | v :: vs => by
    have ih := wipe_get σ i vs
    unfold L2.wipe
    by_cases h : v = i
    · subst h
      by_cases hl : v < σ.length
      · rw [List.getElem?_set_self (by rw [L2.wipe_length]; exact hl), if_pos (by simp), if_pos hl]
      · rw [List.getElem?_eq_none (by rw [List.length_set, L2.wipe_length]; omega), if_pos (by simp), if_neg hl]
    · rw [List.getElem?_set_ne h, ih]
      have : (i ∈ v :: vs) ↔ i ∈ vs := by simp [Ne.symm h]
      simp only [this]
theorem But.wipe {vs : List Nat} {σ σ' : L2.St} (h : But vs σ σ') : L2.wipe σ' vs = L2.wipe σ vs := by
  apply List.ext_getElem?
  intro i
  rw [wipe_get, wipe_get, h.1]
  split
  · rfl
  · rename_i hi; exact h.2 i hi
def upG (K : PySem.W.Frag) (t : Tgt) : TG := fun v σ H Q => ∃ ρ ρ' I S F x, RepS K I ρ σ ∧ Ok K I S F H ∧ Rep K I x v ∧ t.put x ρ = some ρ' ∧ ∀ σ', RepS K I ρ' σ' → But t.slots σ σ' → Q σ' H
def upGs (K : PySem.W.Frag) (ts : List Tgt) : TGs := fun vs σ H Q => ∃ ρ ρ' I S F xs, RepS K I ρ σ ∧ Ok K I S F H ∧ RepL K I xs vs ∧ Tgt.putL ts xs ρ = some ρ' ∧ ∀ σ', RepS K I ρ' σ' → But (Tgt.slotsL ts) σ σ' → Q σ' H
abbrev JG (X : Cx) (e : Expr) (t : Tgt) : Prop := PG X e (upG X.K t)
abbrev JGs (X : Cx) (es : List Expr) (ts : List Tgt) : Prop := PGs X es (upGs X.K ts)
theorem jg_of {X : Cx} {e : Expr} {t u : TG} (h : PG X e t) (i : ∀ v σ H Q, u v σ H Q → t v σ H Q) : PG X e u := ⟨by
  intro pins s σ H v x Q I r q
  exact h.run pins s σ H v x Q I r (i _ _ _ _ q)⟩
theorem jgs_of {X : Cx} {e : List Expr} {t u : TGs} (h : PGs X e t) (i : ∀ v σ H Q, u v σ H Q → t v σ H Q) : PGs X e u := ⟨by
  intro pins s σ H v x Q I r q
  exact h.run pins s σ H v x Q I r (i _ _ _ _ q)⟩
theorem jg_name (i : Nat) {x : Str} (hN : X.N.Nodup) (hi : X.N[i]? = some x) (hx : Loc X.env.scope x) (hf : X.fn x = true ∨ X.env.scope.names.lookup x = some .local := by first | exact .inl rfl | exact .inr rfl | assumption) : JG X (.Name x pos) (.nm i) :=
  jg_of (pg_name hN hi hx hf) fun v σ H Q ⟨ρ, ρ', I, S, F, x, rs, ok, r, hp, q⟩ => by
    simp only [Tgt.put, Option.some.injEq] at hp
    subst hp
    refine q _ (rs.set i r) ⟨by simp, fun j hj => ?_⟩
    rw [List.getElem?_set_ne]
    intro e
    exact hj (by simp [Tgt.slots, e])
theorem jgs_nil : JGs X [] [] := jgs_of pgs_nil fun v σ H Q ⟨ρ, ρ', I, S, F, xs, rs, ok, r, hp, q⟩ => by
  cases xs with
  | nil =>
    simp only [Tgt.putL, Option.some.injEq] at hp
    subst hp
    simp only [RepL] at r
    exact ⟨r, q σ rs ⟨rfl, fun _ _ => rfl⟩⟩
  | cons x xs => simp [Tgt.putL] at hp
theorem jgs_cons {es : List Expr} {t : Tgt} {ts : List Tgt} (h1 : JG X e t) (h2 : JGs X es ts) (hs : (assignEach (e :: es) X.env).map (·.2) = assign e X.env :: (assignEach es X.env).map (·.2) := by rfl) : JGs X (e :: es) (t :: ts) :=
  jgs_of (pgs_cons h1 h2 hs) fun v σ H Q ⟨ρ, ρ', I, S, F, xs, rs, ok, r, hp, q⟩ => by
    cases xs with
    | nil => simp [Tgt.putL] at hp
    | cons x xs =>
      simp only [Tgt.putL] at hp
      cases e1 : t.put x ρ with
      | none => rw [e1] at hp; cases hp
      | some ρ1 =>
        rw [e1] at hp
        have hp : Tgt.putL ts xs ρ1 = some ρ' := hp
        simp only [RepL] at r
        obtain ⟨w, rr, rfl, r1, r2⟩ := r
        refine ⟨w, rr, rfl, ρ, ρ1, I, S, F, x, rs, ok, r1, e1, fun σ1 rs1 b1 => ⟨ρ1, ρ', I, S, F, xs, rs1, ok, r2, hp, fun σ2 rs2 b2 => q σ2 rs2 ⟨b2.1.trans b1.1, fun i hi => ?_⟩⟩⟩
        have hi2 : i ∉ t.slots ∧ i ∉ Tgt.slotsL ts := by
          simp only [Tgt.slotsL, List.mem_append, not_or] at hi
          exact hi
        rw [b2.2 i hi2.2, b1.2 i hi2.1]
theorem pg_or {X : Cx} {e : Expr} {t u : TG} (h : PG X e t) (h' : PG X e u) : PG X e (fun v σ H Q => t v σ H Q ∨ u v σ H Q) := ⟨by
  intro pins s σ H v w Q I r hw
  rcases hw with hw | hw
  · exact h.run pins s σ H v w Q I r hw
  · exact h'.run pins s σ H v w Q I r hw⟩
theorem jg_tup {es : List Expr} {k : Nat} {ts : List Tgt} {n : Nat} (hc : X.calm = true) (h : JGs X es ts) (hl : ts.length = n := by rfl)
    (hn : (assignEach es X.env).length = n := by rfl) (hst : (assignEach es X.env).findIdx? (·.1) = none := by rfl) : JG X (.Tuple es k pos) (.tp ts) :=
  jg_of (pg_or (pg_tup hc h hn hst) (pg_unl hc h hn hst)) fun v σ H Q ⟨ρ, ρ', I, S, F, x, rs, ok, r, hp, q⟩ => by
    have key : ∀ (ts : List Tgt) (xs : List D) (ρ : DSt), Tgt.putL ts xs ρ = some ρ' → xs.length = ts.length := by
      intro ts
      induction ts with
      | nil => intro xs ρ h; cases xs with
        | nil => rfl
        | cons _ _ => simp [Tgt.putL] at h
      | cons t ts ih => intro xs ρ h; cases xs with
        | nil => simp [Tgt.putL] at h
        | cons y ys =>
          simp only [Tgt.putL] at h
          cases e1 : t.put y ρ with
          | none => rw [e1] at h; cases h
          | some ρ1 => rw [e1] at h; simp [ih ys ρ1 h]
    cases x with
    | tup xs =>
      simp only [Tgt.put] at hp
      obtain ⟨a, vs, rfl, hs, rl⟩ := r.tup_of
      have hle := key ts xs ρ hp
      refine .inl ⟨a, vs, rfl, sqT_same ok.same hs, by rw [rl.len, hle, hl], ρ, ρ', I, S, F, xs, rs, ok, rl, hp, fun σ' rs' b => q σ' rs' b⟩
    | lst xs =>
      simp only [Tgt.put] at hp
      obtain ⟨a, vs, rfl, hs, rl⟩ := r.lst_of
      have hle := key ts xs ρ hp
      refine .inr ⟨a, vs, rfl, .of (ok.i _ _ hs), by rw [rl.len, hle, hl], ρ, ρ', I, S, F, xs, rs, ok, rl, hp, fun σ' rs' b => q σ' rs' b⟩
    | _ => simp [Tgt.put] at hp

/-! ### assignments -/
def dSet (i : Nat) (d : DE) : DS := fun DD ρ S => d ρ S fun x S1 => DD.nx (ρ.set i (some x)) S1
def dAsg (t : Tgt) (d : DE) : DS := fun DD ρ S => d ρ S fun x S1 => match t.put x ρ with
  | some ρ' => DD.nx ρ' S1
  | none => False
theorem js_set (i : Nat) {x : Str} {pos' : Pos} (hN : X.N.Nodup) (hi : X.N[i]? = some x) (hx : Loc X.env.scope x) (he : JE X e de) (hs : swapsWith e (some (.Name x pos')) pos.line X.env = pure false := by rfl) (hf : X.fn x = true ∨ X.env.scope.names.lookup x = some .local := by first | exact .inl rfl | exact .inr rfl | assumption) :
    JS X (.Assign [.Name x pos'] e pos) (dSet i de) :=
  js_of (ps_set (i := i) hN hi hx he hs hf) fun D σ H ⟨ρ, I, S, F, DD, rs, ok, h, q⟩ => ⟨ρ, I, S, F, _, rs, ok, h, fun x S1 v I1 H1 h1 e1 ok1 r1 => q.nx _ _ _ _ _ h1 e1 ok1 ((rs.mono e1).set i r1)⟩
theorem js_asg {tg : Expr} {t : Tgt} (he : JE X e de) (hg : JG X tg t) (hs : swapsWithSole [tg] e pos.line X.env = pure false := by rfl) (hw : swappedStores [tg] e X.env = pure none := by rfl)
    (h1 : (assignEach [tg] X.env).map (·.2) = [assign tg X.env] := by rfl) : JS X (.Assign [tg] e pos) (dAsg t de) :=
  js_of (ps_asg he hg hs hw h1) fun D σ H ⟨ρ, I, S, F, DD, rs, ok, h, q⟩ => ⟨ρ, I, S, F, _, rs, ok, h, fun x S1 v I1 H1 h1 e1 ok1 r1 => by
    cases e2 : t.put x ρ with
    | none => rw [e2] at h1; exact h1.elim
    | some ρ' =>
      rw [e2] at h1
      exact ⟨ρ, ρ', I1, S1, F, x, rs.mono e1, ok1, r1, e2, fun σ' rs' _ => q.nx _ _ _ _ _ h1 e1 ok1 rs'⟩⟩
def dPar (i j : Nat) (a : DA) : DS := fun DD ρ S => a ρ S fun xs S1 => match xs with
  | [x, y] => DD.nx ((ρ.set i (some x)).set j (some y)) S1
  | _ => False
theorem js_par (i j : Nat) {x y : Str} {a b : Expr} {da : DA} {px py pt : Pos} {kt k2 pt2} (hc : X.calm = true) (hN : X.N.Nodup) (hi : X.N[i]? = some x) (hj : X.N[j]? = some y) (hij : i ≠ j)
    (hx : X.env.scope.names.lookup x = some .local) (hy : X.env.scope.names.lookup y = some .local) (ha : JA X [a, b] da)
    (hw : swappedStores [.Tuple [.Name x px, .Name y py] kt pt] (.Tuple [a, b] k2 pt2) X.env = pure (some [x, y]))
    (hs : swapsWithSole [.Tuple [.Name x px, .Name y py] kt pt] (.Tuple [a, b] k2 pt2) pos.line X.env = pure false := by rfl) :
    JS X (.Assign [.Tuple [.Name x px, .Name y py] kt pt] (.Tuple [a, b] k2 pt2) pos) (dPar i j da) :=
  js_of (ps_par hc hN hi hj hij hx hy ha hw hs) fun D σ H ⟨ρ, I, S, F, DD, rs, ok, h, q⟩ => ⟨ρ, I, S, F, _, rs, ok, h, fun xs S1 vs I1 H1 h1 e1 ok1 r1 => by
    match xs, h1 with
    | [x, y], h1 =>
      obtain ⟨v, w, rfl, ra, rb⟩ := r1.inv2
      exact ⟨v, w, rfl, q.nx _ _ _ _ _ h1 e1 ok1 (((rs.mono e1).set i ra).set j rb)⟩⟩
/-- x op= e -/
def ImpIp (K : PySem.W.Frag) (r : TIp) (o : D2) : Prop := ∀ x y v w I S F H P Q, Ok K I S F H → Rep K I x v → Rep K I y w → o x y S P → Sees K I F P Q → r v w H Q
def dAug (i : Nat) (o : D2) (d : DE) : DS := fun DD ρ S => match ρ[i]? with
  | some (some x) => d ρ S fun y S1 => o x y S1 fun z S2 => DD.nx (ρ.set i (some z)) S2
  | _ => False
theorem js_aug (i : Nat) {x : Str} {op : Operator} {ti : TIp} {o : D2} {pos' : Pos} (hN : X.N.Nodup) (hi : X.N[i]? = some x) (hx : Loc X.env.scope x) (he : JE X e de) (ho : PIp X op ti) (im : ImpIp X.K ti o) (hf : X.fn x = true ∨ X.env.scope.names.lookup x = some .local := by first | exact .inl rfl | exact .inr rfl | assumption) :
    JS X (.AugAssign (.Name x pos') op e pos) (dAug i o de) :=
  js_of (ps_aug (i := i) hN hi hx he ho hf) fun D σ H ⟨ρ, I, S, F, DD, rs, ok, h, q⟩ => by
    unfold dAug at h
    split at h
    · rename_i x ex
      obtain ⟨v, e1, r⟩ := rs.2 i x ex
      refine ⟨v, e1, ρ, I, S, F, _, rs, ok, h, fun y S1 w I1 H1 h1 e1 ok1 r1 => ?_⟩
      exact im x y v w I1 S1 F H1 _ _ ok1 (r.mono e1) r1 h1 fun z S2 u I2 H2 h2 e2 ok2 r2 => q.nx _ _ _ _ _ h2 (e1.trans e2) ok2 ((rs.mono (e1.trans e2)).set i r2)
    · exact h.elim

/-! ### while -/
def dWhile (c : DT) (b : DS) : DS := fun DD ρ S => ∃ W : Nat → DSt → Store → Prop, (∃ m, W m ρ S) ∧ ∀ m ρ S, W m ρ S →
  c ρ S fun k S1 => if k = true then b { DD with nx := fun ρ' S' => ∃ m', m' < m ∧ W m' ρ' S', ct := fun ρ' S' => ∃ m', m' < m ∧ W m' ρ' S', bk := DD.nx } ρ S1 else DD.nx ρ S1
theorem js_while {c : Expr} {body : List Stmt} (hp : PassesOwn (model X.prog X.w) X.A X.env X.xe) (hc : JT X c dc) (hb : JSs X body t) : JS X (.While c body [] pos) (dWhile dc t) :=
  js_of (ps_while hp hc hb) fun D σ H ⟨ρ, I, S, F, DD, rs, ok, ⟨W, ⟨m0, w0⟩, turn⟩, q⟩ => by
    refine ⟨fun m σ H => ∃ ρ I' S, Same I I' ∧ RepS X.K I' ρ σ ∧ Ok X.K I' S F H ∧ W m ρ S, ⟨m0, ρ, I, S, Same.refl I, rs, ok, w0⟩, ?_⟩
    rintro m σ1 H1 ⟨ρ1, I1, S1, e1, rs1, ok1, w1⟩
    refine ⟨ρ1, I1, S1, F, _, rs1, ok1, turn m ρ1 S1 w1, fun k S2 I2 H2 h2 e2 ok2 => ?_⟩
    cases k with
    | true =>
      rw [if_pos rfl] at h2 ⊢
      refine ⟨fun σ' H' => ∃ m', m' < m ∧ ∃ ρ I' S, Same I I' ∧ RepS X.K I' ρ σ' ∧ Ok X.K I' S F H' ∧ W m' ρ S, fun σ' H' h => h, ρ1, I2, S2, F, _, rs1.mono e2, ok2, h2, ⟨?_, ?_, ?_, ?_⟩⟩
      · intro ρ3 S3 σ3 I3 H3 ⟨m', hm, w3⟩ e3 ok3 rs3
        exact ⟨m', hm, ρ3, I3, S3, (e1.trans e2).trans e3, rs3, ok3, w3⟩
      · exact q.rt.mono (e1.trans e2)
      · exact q.nx.mono (e1.trans e2)
      · intro ρ3 S3 σ3 I3 H3 ⟨m', hm, w3⟩ e3 ok3 rs3
        exact ⟨m', hm, ρ3, I3, S3, (e1.trans e2).trans e3, rs3, ok3, w3⟩
    | false =>
      rw [if_neg Bool.false_ne_true] at h2 ⊢
      exact q.nx _ _ _ _ _ h2 (e1.trans e2) ok2 (rs1.mono e2)

/-! ### what is walked -/
/-- a list that may change is walked: it stays meanwhile -/
def PinOk : Option (Store → Prop) → Store → Prop
  | none, _ => True
  | some p, S => p S
/-- J walks the data ds -/
structure ItOk (K : PySem.W.Frag) (I : Hp) (J : It) (ds : List D) (pin : Option (Store → Prop)) : Prop where
  go : ∀ I2 S F H, Same I I2 → Ok K I2 S F H → PinOk pin S → ∀ i d, ds[i]? = some d → J.go i H ∧ ∀ x H', J.yld i H x H' → ∃ I3, Same I2 I3 ∧ Ok K I3 S F H' ∧ Rep K I3 d x
  stop : ∀ I2 S F H, Same I I2 → Ok K I2 S F H → PinOk pin S → ∀ i, i = ds.length → J.stop i H
theorem ItOk.mono {K : PySem.W.Frag} {I I' : Hp} {J : It} {ds : List D} {pin : Option (Store → Prop)} (h : ItOk K I J ds pin) (e : Same I I') : ItOk K I' J ds pin :=
  ⟨fun I2 S F H e2 => h.go I2 S F H (e.trans e2), fun I2 S F H e2 => h.stop I2 S F H (e.trans e2)⟩
def SeesI (K : PySem.W.Frag) (I F : Hp) (P : List D → Option (Store → Prop) → Store → Prop) (R : It → Hp → Prop) : Prop := ∀ ds pin S' I' H' J, P ds pin S' → Same I I' → Ok K I' S' F H' → ItOk K I' J ds pin → R J H'
theorem SeesI.mono {K : PySem.W.Frag} {I I' F : Hp} {P : List D → Option (Store → Prop) → Store → Prop} {R : It → Hp → Prop} (h : SeesI K I F P R) (e : Same I I') : SeesI K I' F P R := fun ds pin S' I2 H' J p e2 => h ds pin S' I2 H' J p (e.trans e2)
def upI (K : PySem.W.Frag) (d : DI) : TI := fun σ H R => ∃ ρ I S F P, RepS K I ρ σ ∧ Ok K I S F H ∧ d ρ S P ∧ SeesI K I F P R
abbrev JI (X : Cx) (tg iter : Expr) (d : DI) : Prop := PI X tg iter (upI X.K d)
theorem ji_of {X : Cx} {tg e : Expr} {t u : TI} (h : PI X tg e t) (i : ∀ σ H R, u σ H R → t σ H R) : PI X tg e u := ⟨fun pins s σ H R I q => h.run pins s σ H R I (i _ _ _ q)⟩

/-! ### for -/
/-- a loop over the data ds: W by the turn -/
def ForB (t : Tgt) (b : DS) (DD : DEnds) (ds : List D) (ρ : DSt) (S1 : Store) : Prop := ∃ W : Nat → DSt → Store → Prop, W 0 ρ S1 ∧
  (∀ i d ρ S, ds[i]? = some d → W i ρ S → ∃ ρ', t.put d ρ = some ρ' ∧ b { DD with nx := W (i + 1), ct := W (i + 1), bk := DD.nx } ρ' S) ∧ ∀ ρ S, W ds.length ρ S → DD.nx ρ S
/-- the same, of a list that may change: p, that it stays -/
def ForP (t : Tgt) (b : DS) (DD : DEnds) (ds : List D) (p : Store → Prop) (ρ : DSt) (S1 : Store) : Prop := ∃ W : Nat → DSt → Store → Prop, W 0 ρ S1 ∧ (∀ i ρ S, W i ρ S → p S) ∧
  (∀ i d ρ S, ds[i]? = some d → W i ρ S → ∃ ρ', t.put d ρ = some ρ' ∧ b { DD with nx := W (i + 1), ct := W (i + 1), bk := DD.nx } ρ' S) ∧ ∀ ρ S, W ds.length ρ S → DD.nx ρ S
def ForN (t : Tgt) (b : DS) (DD : DEnds) (ds : List D) (pin : Option (Store → Prop)) (ρ : DSt) (S1 : Store) : Prop := match pin with
  | none => ForB t b DD ds ρ S1
  | some p => ForP t b DD ds p ρ S1
theorem ForN.all {t : Tgt} {b : DS} {DD : DEnds} {ds : List D} {pin : Option (Store → Prop)} {ρ : DSt} {S1 : Store} (h : ForN t b DD ds pin ρ S1) : ∃ W : Nat → DSt → Store → Prop, W 0 ρ S1 ∧ (∀ i ρ S, W i ρ S → PinOk pin S) ∧
    (∀ i d ρ S, ds[i]? = some d → W i ρ S → ∃ ρ', t.put d ρ = some ρ' ∧ b { DD with nx := W (i + 1), ct := W (i + 1), bk := DD.nx } ρ' S) ∧ ∀ ρ S, W ds.length ρ S → DD.nx ρ S := by
  cases pin with
  | none => obtain ⟨W, w0, w1, w2⟩ := h; exact ⟨W, w0, fun _ _ _ _ => trivial, w1, w2⟩
  | some p => exact h
def dFor (di : DI) (t : Tgt) (b : DS) : DS := fun DD ρ S => di ρ S fun ds pin S1 => ForN t b DD ds pin ρ S1
theorem js_for {tg iter : Expr} {body : List Stmt} {di : DI} {tt : Tgt} (hp : PassesOwn (model X.prog X.w) X.A X.env X.xe) (hc : X.calm = true) (hi : JI X tg iter di) (hg : JG X tg tt) (hb : JSs X body t)
    (hs : ∀ x, foldedSetIterable iter X.env x = pure x := by intro _; rfl) : JS X (.For tg iter body [] pos) (dFor di tt t) :=
  js_of (ps_for hp hc hi hg hb hs) fun D σ H ⟨ρ, I, S, F, DD, rs, ok, h, q⟩ => by
    refine ⟨ρ, I, S, F, _, rs, ok, h, fun ds pin S1 I1 H1 J hB e1 ok1 it => ?_⟩
    obtain ⟨W, w0, hpin, turn, fin⟩ := ForN.all hB
    refine ⟨fun i m σ H => m + i = ds.length ∧ ∃ ρ I' S, Same I1 I' ∧ RepS X.K I' ρ σ ∧ Ok X.K I' S F H ∧ W i ρ S, ⟨ds.length, by simp, ρ, I1, S1, Same.refl I1, rs.mono e1, ok1, w0⟩, ?_⟩
    rintro i m σ2 H2 ⟨em, ρ2, I2, S2, e2, rs2, ok2, w2⟩
    by_cases hi : i < ds.length
    · refine .inr ?_
      obtain ⟨g1, g2⟩ := it.go I2 S2 F H2 e2 ok2 (hpin _ _ _ w2) i ds[i] (List.getElem?_eq_getElem hi)
      obtain ⟨ρ3, hput, hbody⟩ := turn i ds[i] ρ2 S2 (List.getElem?_eq_getElem hi) w2
      refine ⟨g1, fun σ' H' => ∃ ρ I' S, Same I1 I' ∧ RepS X.K I' ρ σ' ∧ Ok X.K I' S F H' ∧ W (i + 1) ρ S, fun σ' H' h => ⟨m - 1, by omega, by omega, h⟩, fun x H3 hy => ?_⟩
      obtain ⟨I3, e3, ok3, r3⟩ := g2 x H3 hy
      refine ⟨ρ2, ρ3, I3, S2, F, ds[i], rs2.mono e3, ok3, r3, hput, fun σ3 rs3 _ => ?_⟩
      refine ⟨ρ3, I3, S2, F, _, rs3, ok3, hbody, ⟨?_, ?_, ?_, ?_⟩⟩
      · intro ρ4 S4 σ4 I4 H4 w4 e4 ok4 rs4
        exact ⟨ρ4, I4, S4, (e2.trans e3).trans e4, rs4, ok4, w4⟩
      · exact q.rt.mono (((e1.trans e2)).trans e3)
      · exact q.nx.mono (((e1.trans e2)).trans e3)
      · intro ρ4 S4 σ4 I4 H4 w4 e4 ok4 rs4
        exact ⟨ρ4, I4, S4, (e2.trans e3).trans e4, rs4, ok4, w4⟩
    · have e : i = ds.length := by omega
      subst e
      exact .inl ⟨it.stop I2 S2 F H2 e2 ok2 (hpin _ _ _ w2) _ rfl, q.nx _ _ _ _ _ (fin ρ2 S2 w2) (e1.trans e2) ok2 rs2⟩

/-! ### comprehensions -/
def dYes : DT := fun _ S P => P true S
def upTs (K : PySem.W.Frag) (d : DT) : TT := upT K d
abbrev JTs (X : Cx) (ifs : List Expr) (d : DT) : Prop := PTs X ifs (upT X.K d)
theorem jts_of {X : Cx} {e : List Expr} {t u : TT} (h : PTs X e t) (i : ∀ σ H Q, u σ H Q → t σ H Q) : PTs X e u := ⟨fun pins s σ H Q I q => h.run pins s σ H Q I (i _ _ _ q)⟩
theorem jts_nil : JTs X [] dYes := jts_of pts_nil fun σ H Q ⟨ρ, I, S, F, P, rs, ok, h, q⟩ => q _ _ _ _ h (Same.refl I) ok
theorem jts_one {c : Expr} (h : JT X c dc) : JTs X [c] dc := pts_one h
/-- the new list is one that changes no more -/
def LcB (t : Tgt) (tt : DT) (de : DE) (P : D → Store → Prop) (ds : List D) (ρ : DSt) (S1 : Store) : Prop := ds.length ≤ 100000 ∧ ∃ W : Nat → List D → Store → Prop, W 0 [] S1 ∧
  (∀ i d acc S, ds[i]? = some d → W i acc S → ∃ ρ', t.put d (dwipe ρ t.slots) = some ρ' ∧ tt ρ' S fun b S2 => if b = true then de ρ' S2 fun y S3 => W (i + 1) (acc ++ [y]) S3 else W (i + 1) acc S2) ∧ ∀ acc S, W ds.length acc S → P (.lst acc) S
def LcP (t : Tgt) (tt : DT) (de : DE) (P : D → Store → Prop) (ds : List D) (p : Store → Prop) (ρ : DSt) (S1 : Store) : Prop := ds.length ≤ 100000 ∧ ∃ W : Nat → List D → Store → Prop, W 0 [] S1 ∧ (∀ i acc S, W i acc S → p S) ∧
  (∀ i d acc S, ds[i]? = some d → W i acc S → ∃ ρ', t.put d (dwipe ρ t.slots) = some ρ' ∧ tt ρ' S fun b S2 => if b = true then de ρ' S2 fun y S3 => W (i + 1) (acc ++ [y]) S3 else W (i + 1) acc S2) ∧ ∀ acc S, W ds.length acc S → P (.lst acc) S
def LcN (t : Tgt) (tt : DT) (de : DE) (P : D → Store → Prop) (ds : List D) (pin : Option (Store → Prop)) (ρ : DSt) (S1 : Store) : Prop := match pin with
  | none => LcB t tt de P ds ρ S1
  | some p => LcP t tt de P ds p ρ S1
theorem LcN.all {t : Tgt} {tt : DT} {de : DE} {P : D → Store → Prop} {ds : List D} {pin : Option (Store → Prop)} {ρ : DSt} {S1 : Store} (h : LcN t tt de P ds pin ρ S1) : ds.length ≤ 100000 ∧ ∃ W : Nat → List D → Store → Prop, W 0 [] S1 ∧ (∀ i acc S, W i acc S → PinOk pin S) ∧
    (∀ i d acc S, ds[i]? = some d → W i acc S → ∃ ρ', t.put d (dwipe ρ t.slots) = some ρ' ∧ tt ρ' S fun b S2 => if b = true then de ρ' S2 fun y S3 => W (i + 1) (acc ++ [y]) S3 else W (i + 1) acc S2) ∧ ∀ acc S, W ds.length acc S → P (.lst acc) S := by
  cases pin with
  | none => obtain ⟨hl, W, w0, w1, w2⟩ := h; exact ⟨hl, W, w0, fun _ _ _ _ => trivial, w1, w2⟩
  | some p => exact h
def dLc (di : DI) (t : Tgt) (tt : DT) (de : DE) : DE := fun ρ S P => di ρ S fun ds pin S1 => LcN t tt de P ds pin ρ S1
/-- each item by itself, nothing drawn -/
theorem lc_map {t : Tgt} {de : DE} {P : D → Store → Prop} {ds : List D} {ρ : DSt} {S : Store} (f : D → D) (hl : ds.length ≤ 100000)
    (h : ∀ (i : Nat) (d : D), ds[i]? = some d → ∃ ρ', t.put d (dwipe ρ t.slots) = some ρ' ∧ ∀ Q : D → Store → Prop, Q (f d) S → de ρ' S Q) (q : P (.lst (ds.map f)) S) : LcB t dYes de P ds ρ S := by
  refine ⟨hl, fun i acc S' => acc = (ds.take i).map f ∧ S' = S, ⟨rfl, rfl⟩, ?_, ?_⟩
  · rintro i d acc S' hd ⟨rfl, rfl⟩
    obtain ⟨ρ', h1, h2⟩ := h i d hd
    refine ⟨ρ', h1, ?_⟩
    simp only [dYes, reduceIte]
    refine h2 _ ⟨?_, rfl⟩
    rw [List.take_add_one, hd]
    simp
  · rintro acc S' ⟨rfl, rfl⟩
    rw [List.take_length]
    exact q
theorem up_lc {X : Cx} {di : DI} {t : Tgt} {tt : DT} {de : DE} : ∀ σ H Q, upE X.K (dLc di t tt de) σ H Q → tLc (upI X.K di) (upG X.K t) (upT X.K tt) (upE X.K de) t.slots σ H Q := fun σ H Q ⟨ρ, I, S, F, P, rs, ok, h, q⟩ => by
  refine ⟨ρ, I, S, F, _, rs, ok, h, fun ds pin S1 I1 H1 J hB e1 ok1 it => fun Dd hD => ?_⟩
  obtain ⟨hlen, W, w0, hpin, turn, fin⟩ := LcN.all hB
  have fI : I1 Dd = none := ok1.freshI hD
  refine ⟨fun i m H => m + i = ds.length ∧ ∃ I' S' acc vs, Same I1 I' ∧ Ok X.K I' S' (upd F Dd (.lst vs)) H ∧ RepL X.K I' acc vs ∧ acc.length ≤ i ∧ W i acc S', ⟨ds.length, by simp, I1, S1, [], [], Same.refl I1, ok1.newF hD ⟨fun y z => (by cases z), fun y z => (by cases z)⟩, RepL.nil, Nat.le_refl _, w0⟩, ?_⟩
  rintro i m H2 ⟨em, I2, S2, acc, vs, e2, ok2, rl, hacc, w2⟩
  by_cases hi : i < ds.length
  · refine .inr ?_
    obtain ⟨g1, g2⟩ := it.go I2 S2 _ H2 e2 ok2 (hpin _ _ _ w2) i ds[i] (List.getElem?_eq_getElem hi)
    obtain ⟨ρ3, hput, hbody⟩ := turn i ds[i] acc S2 (List.getElem?_eq_getElem hi) w2
    refine ⟨g1, fun H' => ∃ I' S' acc vs, Same I1 I' ∧ Ok X.K I' S' (upd F Dd (.lst vs)) H' ∧ RepL X.K I' acc vs ∧ acc.length ≤ i + 1 ∧ W (i + 1) acc S', fun H' h => ⟨m - 1, by omega, by omega, h⟩, fun x H3 hy => ?_⟩
    obtain ⟨I3, e3, ok3, r3⟩ := g2 x H3 hy
    refine ⟨dwipe ρ t.slots, ρ3, I3, S2, _, ds[i], ((rs.mono e1).mono (e2.trans e3)).wipe _, ok3, r3, hput, fun σ3 rs3 b3 => ⟨by
      rw [b3.wipe]
      apply List.ext_getElem?
      intro j
      rw [wipe_get, wipe_get, L2.wipe_length]
      split <;> simp_all, ?_⟩⟩
    refine ⟨ρ3, I3, S2, _, _, rs3, ok3, hbody, fun b S4 I4 H4 h4 e4 ok4 => ?_⟩
    cases b with
    | true =>
      rw [if_pos rfl] at h4 ⊢
      refine ⟨ρ3, I4, S4, _, _, rs3.mono e4, ok4, h4, fun y S5 v I5 H5 h5 e5 ok5 r5 => ?_⟩
      have hF : (upd F Dd (.lst vs)) Dd = some (.lst vs) := upd_same
      refine ⟨vs, (ok5.f Dd _ hF).1, ?_, I5, S5, acc ++ [y], vs ++ [v], (((e2.trans e3).trans e4).trans e5), ?_, (rl.mono ((e3.trans e4).trans e5)).app (RepL.one r5), by simp; omega, h5⟩
      · rw [rl.len]
        have : (100000 : Nat) < sizeLine := by decide
        omega
      · have := ok5.writeF (o' := .lst (vs ++ [v])) hF ⟨fun y z => (by cases z), fun y z => (by cases z)⟩
        rwa [upd_upd] at this
    | false =>
      rw [if_neg Bool.false_ne_true] at h4 ⊢
      exact ⟨I4, S4, acc, vs, ((e2.trans e3).trans e4), ok4, rl.mono (e3.trans e4), by omega, h4⟩
  · have e : i = ds.length := by omega
    subst e
    refine .inl ⟨it.stop I2 S2 _ H2 e2 ok2 (hpin _ _ _ w2) _ rfl, ?_⟩
    have hF : (upd F Dd (.lst vs)) Dd = some (.lst vs) := upd_same
    have i2 : I2 Dd = none := (ok2.f Dd _ hF).2.1
    have ok3 := ok2.showF hF
    have ok4 : Ok X.K (upd I2 Dd (.lst vs)) S2 F H2 := by
      refine ⟨ok3.i, ok3.s, fun a x q => ?_⟩
      have ne : a ≠ Dd := fun z => by
        subst z
        rw [(ok1.freshF hD)] at q; cases q
      exact ok3.f a x (by show (if a = Dd then none else upd F Dd (.lst vs) a) = some x; rw [if_neg ne, upd_ne ne]; exact q)
    exact q _ _ _ _ _ (fin acc S2 w2) ((e1.trans e2).trans (same_new i2)) ok4 (rep_new_lst i2 rl)
theorem je_lc {elt tg iter : Expr} {ifs : List Expr} {scope : Scope} (own : List (Str × Nat)) {di : DI} {t : Tgt} {tt : DT} {de : DE} (hc : X.calm = true) (hN : X.N.Nodup) (hi : JI X tg iter di) (ok : BlkOk X.N X.env.scope scope own) (ho : own.map (·.2) = t.slots)
    (hg : ∀ (s : Shared) (H : Hp) (C : Addr) (cl : List (Str × Addr)) (fp : List Addr), JG (X.blk s H scope (compEnvC scope cl C X.env) fp) tg t) (ht : ∀ (s : Shared) (H : Hp) (C : Addr) (cl : List (Str × Addr)) (fp : List Addr), JTs (X.blk s H scope (compEnvC scope cl C X.env) fp) ifs tt)
    (he : ∀ (s : Shared) (H : Hp) (C : Addr) (cl : List (Str × Addr)) (fp : List Addr), JE (X.blk s H scope (compEnvC scope cl C X.env) fp) elt de) (hs : ∀ x, foldedSetIterable iter X.env x = pure x := by intro _; rfl) :
    JE X (.ListComp elt [⟨tg, iter, ifs, 0⟩] scope pos) (dLc di t tt de) :=
  je_of (pe_lc hc hN hi ok hg ht he hs) fun σ H Q h => by
    rw [ho]
    exact up_lc σ H Q h
theorem js_setLc (i : Nat) {y : Str} {py : Pos} {elt tg iter : Expr} {ifs : List Expr} {scope : Scope} (own : List (Str × Nat)) {spos : Pos} {di : DI} {t : Tgt} {tt : DT} {de : DE} (hc : X.calm = true) (hN : X.N.Nodup) (hy : X.N[i]? = some y) (hyl : X.env.scope.names.lookup y = some .local)
    (hsw : swapsWith (.ListComp elt [⟨tg, iter, ifs, 0⟩] scope pos) (some (.Name y py)) spos.line X.env = pure true) (hi : JI X tg iter di) (ok : BlkOk X.N X.env.scope scope own) (ho : own.map (·.2) = t.slots)
    (hg : ∀ (s : Shared) (H : Hp) (C : Addr) (cl : List (Str × Addr)) (fp : List Addr), JG (X.blk s H scope (compEnvC scope cl C X.env) fp) tg t) (ht : ∀ (s : Shared) (H : Hp) (C : Addr) (cl : List (Str × Addr)) (fp : List Addr), JTs (X.blk s H scope (compEnvC scope cl C X.env) fp) ifs tt)
    (he : ∀ (s : Shared) (H : Hp) (C : Addr) (cl : List (Str × Addr)) (fp : List Addr), JE (X.blk s H scope (compEnvC scope cl C X.env) fp) elt de) (hs : ∀ x, foldedSetIterable iter X.env x = pure x := by intro _; rfl) :
    JS X (.Assign [.Name y py] (.ListComp elt [⟨tg, iter, ifs, 0⟩] scope pos) spos) (dSet i (dLc di t tt de)) :=
  js_of (ps_setLc hc hN hy hyl hsw hi ok hg ht he hs) fun D σ H ⟨ρ, I, S, F, DD, rs, ok, h, q⟩ => by
    rw [ho]
    exact up_lc (X := X) σ H _ ⟨ρ, I, S, F, _, rs, ok, h, fun x S1 v I1 H1 h1 e1 ok1 r1 => q.nx _ _ _ _ _ h1 e1 ok1 ((rs.mono e1).set i r1)⟩
end

/-! ### a def keeps its promise -/
section
variable {P : Program} {w : World} {K : PySem.W.Frag} {mg : Str → Option Value} {base : Heap}
def dEnd (Q : D → Store → Prop) : DEnds := { nx := fun _ S => Q .non S, rt := Q }
theorem fn_d {x qual : Str} {st : Stmt} {f : Addr} {fd : FuncData} {N ps : List Str} {k : Nat} {sp : DSp} (F : Fun K x qual st f fd) (S : FnScope N ps (defScope st)) (len : ∀ ds S P, sp ds S P → ds.length = ps.length)
    (hbody : ∀ (cdv : Value) (A : Around) (outer : List Env) (s : Shared) (H : Hp) (E : XK), DG.RoomG k (A.deeper (envOfC qual (defScope st) s.heap.objs.size f cdv)) →
      ∃ d : DS, JSs (cxOf CX0 P w K mg base N qual (defScope st) f cdv A outer s H E).nox (defBody st) d ∧ ∀ ds S P, sp ds S P → d (dEnd P) (ds.map some ++ List.replicate (N.length - ds.length) none) S) : FnD P w K mg base (k + 1) f fd ps sp := by
  refine DG.fun_ok F S (fun vs H Q E h => ?_) (fun cdv A outer s H vs Q E hr h => ?_)
  · obtain ⟨ds, I, S, F, P, r, ok, h, q⟩ := h
    rw [r.len]
    exact len _ _ _ h
  · obtain ⟨ds, I, S', F', P', r, ok, h, q⟩ := h
    obtain ⟨d, h1, h2⟩ := hbody cdv A outer s H E hr
    refine ⟨_, h1, _, I, S', F', _, repS_start r, ok, h2 ds S' P' h, ⟨?_, q, ?_, ?_⟩⟩
    · intro ρ S2 σ I2 H2 p e2 ok2 _
      exact q _ _ _ _ _ p e2 ok2 rep_non
    · intro ρ S2 σ I2 H2 p e2 ok2 _
      exact p.elim
    · intro ρ S2 σ I2 H2 p e2 ok2 _
      exact p.elim
end
end DL

namespace DL
open PySem PySem.Spec PyProof.Rows L2

/-! ### lists and tuples as data -/
def lstOf (S : Store) : D → Option (List D)
  | .lst ds => some ds
  | .ext ds => some ds
  | .obj a => match S a with
    | some (.lst ds) => some ds
    | _ => none
  | _ => none
def tupOf : D → Option (List D)
  | .tup ds => some ds
  | _ => none
def seqOf (S : Store) : D → Option (List D)
  | .tup ds => some ds
  | x => lstOf S x
section
variable {K : PySem.W.Frag} {I F H : Hp} {S : Store}
theorem lst_sq (ok : Ok K I S F H) {x : D} {v : V} {ds : List D} (r : Rep K I x v) (h : lstOf S x = some ds) : ∃ a xs, v = .ref a ∧ SqL K H a xs ∧ RepL K I ds xs := by
  cases x with
  | lst es =>
    simp only [lstOf, Option.some.injEq] at h; subst h
    obtain ⟨a, xs, rfl, e, rl⟩ := r.lst_of
    exact ⟨a, xs, rfl, .of (ok.i _ _ e), rl⟩
  | ext es =>
    simp only [lstOf, Option.some.injEq] at h; subst h
    obtain ⟨a, xs, rfl, e, rl⟩ := r.ext_of
    exact ⟨a, xs, rfl, ok.same.seq e, rl⟩
  | obj a =>
    unfold lstOf at h
    cases e : S a with
    | none => simp [e] at h
    | some m =>
      cases m with
      | lst es =>
        simp [e] at h; subst h
        obtain ⟨_, xs, q, rl⟩ := ok.s a _ e
        exact ⟨a, xs, r.obj_of, .of q, rl⟩
      | _ => simp [e] at h
  | _ => simp [lstOf] at h
/-- one that can be added to, repeated: tracked by itself -/
theorem lst_hp (ok : Ok K I S F H) {x : D} {v : V} {ds : List D} (r : Rep K I x v) (h : lstOf S x = some ds) (ne : ∀ es, x ≠ .ext es) : ∃ a xs, v = .ref a ∧ H a = some (.lst xs) ∧ RepL K I ds xs := by
  cases x with
  | lst es =>
    simp only [lstOf, Option.some.injEq] at h; subst h
    obtain ⟨a, xs, rfl, e, rl⟩ := r.lst_of
    exact ⟨a, xs, rfl, ok.i _ _ e, rl⟩
  | ext es => exact absurd rfl (ne es)
  | obj a =>
    unfold lstOf at h
    cases e : S a with
    | none => simp [e] at h
    | some m =>
      cases m with
      | lst es =>
        simp [e] at h; subst h
        obtain ⟨_, xs, q, rl⟩ := ok.s a _ e
        exact ⟨a, xs, r.obj_of, q, rl⟩
      | _ => simp [e] at h
  | _ => simp [lstOf] at h
theorem tup_sq (ok : Ok K I S F H) {v : V} {ds : List D} (r : Rep K I (.tup ds) v) : ∃ a xs, v = .ref a ∧ SqT K H a xs ∧ RepL K I ds xs := by
  obtain ⟨a, xs, rfl, e, rl⟩ := r.tup_of
  exact ⟨a, xs, rfl, sqT_same ok.same e, rl⟩
end

/-! ### arithmetic -/
def MulB (i j : Int) : Prop := CMul i j ∨ CMulW i j
def DivB (j : Int) : Prop := j ≠ 0 ∧ j.natAbs.log2 < 9000
def dAdd : D2 := fun x y S P => match x, y with
  | .int i, .int j => P (.int (i + j)) S
  | .str a, .str b => a.length + b.length ≤ 100000 ∧ P (.str (a ++ b)) S
  | .tup xs, .tup ys => xs.length + ys.length ≤ 100000 ∧ P (.tup (xs ++ ys)) S
  | .ext _, _ => False
  | _, .ext _ => False
  | x, y => match lstOf S x, lstOf S y with
    | some xs, some ys => xs.length + ys.length ≤ 100000 ∧ P (.lst (xs ++ ys)) S
    | _, _ => False
def dSub : D2 := fun x y S P => match x, y with
  | .int i, .int j => P (.int (i - j)) S
  | _, _ => False
def dMul : D2 := fun x y S P => match x, y with
  | .int i, .int j => MulB i j ∧ P (.int (i * j)) S
  | .lst xs, .int k => -(2 ^ 63) ≤ k ∧ k < 2 ^ 63 ∧ xs.length * k.toNat ≤ 100000 ∧ P (.lst (List.replicate k.toNat xs).flatten) S
  | _, _ => False
def dFdiv : D2 := fun x y S P => match x, y with
  | .int i, .int j => DivB j ∧ P (.int (i.fdiv j)) S
  | _, _ => False
def dMod : D2 := fun x y S P => match x, y with
  | .int i, .int j => 0 < j ∧ P (.int (i % j)) S
  | _, _ => False
def dPow : D2 := fun x y S P => match x, y with
  | .int i, .int j => CPow i j ∧ P (.int (i ^ j.toNat)) S
  | _, _ => False
def dNeg : D1 := fun x S P => match x with
  | .int i => P (.int (-i)) S
  | _ => False
def dLt : D2 := fun x y S P => match x, y with
  | .int i, .int j => P (.bl (decide (i < j))) S
  | _, _ => False
def dLe : D2 := fun x y S P => match x, y with
  | .int i, .int j => P (.bl (decide (i ≤ j))) S
  | _, _ => False
def dGt : D2 := fun x y S P => match x, y with
  | .int i, .int j => P (.bl (decide (j < i))) S
  | _, _ => False
def dGe : D2 := fun x y S P => match x, y with
  | .int i, .int j => P (.bl (decide (j ≤ i))) S
  | _, _ => False
section
variable {X : Cx} {pos : Pos} {a b : Expr} {da db : DE}
theorem op_mulA : OpR X (binaryOp .Mult) (rI MulB fun i j => .int (i * j)) := opI fun i j _ _ _ _ _ hc q => by
  rcases hc with h | h
  · exact mul_int q h.ok
  · exact mul_int q h.ok
theorem op_fdivA : OpR X (binaryOp .FloorDiv) (rI (fun _ j => DivB j) fun i j => .int (i.fdiv j)) := opI fun i j _ _ _ _ _ hc q => floordiv_int hc.1 q (.inl (PyProof.noPylong_of_log2 hc.2))
theorem i_add {K : PySem.W.Frag} : Imp2 K (fun x y H Q => (rI0 fun i j => .int (i + j)) x y H Q ∨ (∃ i j, x = .str i ∧ y = .str j ∧ i.length + j.length ≤ sizeLine ∧ Q (.str (i ++ j)) H) ∨ rCatA K x y H Q ∨ rCat x y H Q) dAdd := by
  intro x y v w I S F H P Q ok rx ry h q
  have lists : ∀ xs ys, lstOf S x = some xs → lstOf S y = some ys → (∀ es, x ≠ .ext es) → (∀ es, y ≠ .ext es) → xs.length + ys.length ≤ 100000 → P (.lst (xs ++ ys)) S → rCat v w H Q := fun xs ys ex ey nx ny hl p => by
    obtain ⟨l, xs', rfl, h1, r1⟩ := lst_hp ok rx ex nx
    obtain ⟨l', ys', rfl, h2, r2⟩ := lst_hp ok ry ey ny
    exact ⟨l, l', xs', ys', rfl, rfl, h1, h2, line5 (by rw [r1.len, r2.len]; exact hl), fun p' hp => q _ _ _ _ _ p (same_new (ok.freshI hp)) (ok.newI hp) (rep_new_lst (ok.freshI hp) (r1.app r2))⟩
  unfold dAdd at h
  split at h
  · cases rx.int_of; cases ry.int_of
    exact .inl ⟨_, _, rfl, rfl, q _ _ _ _ _ h (Same.refl I) ok rep_int⟩
  · cases rx.str_of; cases ry.str_of
    exact .inr (.inl ⟨_, _, rfl, rfl, line5 h.1, q _ _ _ _ _ h.2 (Same.refl I) ok rep_str⟩)
  · rename_i xs ys
    obtain ⟨l, xs', rfl, h1, r1⟩ := tup_sq ok rx
    obtain ⟨l', ys', rfl, h2, r2⟩ := tup_sq ok ry
    refine .inr (.inr (.inl ⟨l, l', xs', ys', rfl, rfl, h1, h2, line5 (by rw [r1.len, r2.len]; exact h.1), fun e => ?_, fun _ e => ?_, fun _ _ p hp => ?_⟩))
    · have : xs = [] := by
        have := r1.len; rw [e] at this
        exact List.eq_nil_of_length_eq_zero this.symm
      subst this
      exact q _ _ _ _ _ h.2 (Same.refl I) ok (by simpa using ry)
    · have : ys = [] := by
        have := r2.len; rw [e] at this
        exact List.eq_nil_of_length_eq_zero this.symm
      subst this
      exact q _ _ _ _ _ h.2 (Same.refl I) ok (by simpa using rx)
    · exact q _ _ _ _ _ h.2 (same_new (ok.freshI hp)) (ok.newI hp) (rep_new_tup (ok.freshI hp) (r1.app r2))
  · exact h.elim
  · exact h.elim
  · split at h
    · rename_i xs ys e1 e2
      refine .inr (.inr (.inr (lists xs ys e1 e2 (fun es z => ?_) (fun es z => ?_) h.1 h.2)))
      · simp_all
      · simp_all
    · exact h.elim
theorem je_add (ha : JE X a da) (hb : JE X b db) : JE X (.BinOp a .Add b pos) (dOp dAdd da db) := je_op (op_add.or (op_add_str.or (op_catA.or op_cat))) i_add ha hb
theorem i_sub {K : PySem.W.Frag} : Imp2 K (rI0 fun i j => .int (i - j)) dSub := by
  intro x y v w I S F H P Q ok rx ry h q
  unfold dSub at h
  split at h
  · cases rx.int_of; cases ry.int_of
    exact ⟨_, _, rfl, rfl, q _ _ _ _ _ h (Same.refl I) ok rep_int⟩
  · exact h.elim
theorem je_sub (ha : JE X a da) (hb : JE X b db) : JE X (.BinOp a .Sub b pos) (dOp dSub da db) := je_op op_sub i_sub ha hb
theorem repL_rep {K : PySem.W.Frag} {I : Hp} {ds : List D} {vs : List V} (h : RepL K I ds vs) : ∀ k : Nat, RepL K I (List.replicate k ds).flatten (List.replicate k vs).flatten
  | 0 => by simpa using RepL.nil
  | k + 1 => by
    simp only [List.replicate_succ, List.flatten_cons]
    exact h.app (repL_rep h k)
theorem i_mul {K : PySem.W.Frag} : Imp2 K (fun x y H Q => (rI MulB fun i j => .int (i * j)) x y H Q ∨ rRep x y H Q) dMul := by
  intro x y v w I S F H P Q ok rx ry h q
  unfold dMul at h
  split at h
  · cases rx.int_of; cases ry.int_of
    exact .inl ⟨_, _, rfl, rfl, h.1, q _ _ _ _ _ h.2 (Same.refl I) ok rep_int⟩
  · rename_i xs k
    obtain ⟨l, xs', rfl, h1, r1⟩ := rx.lst_of
    cases ry.int_of
    exact .inr ⟨l, k, xs', rfl, rfl, ok.i _ _ h1, h.1, h.2.1, line5 (by rw [r1.len]; exact h.2.2.1), fun p hp => q _ _ _ _ _ h.2.2.2 (same_new (ok.freshI hp)) (ok.newI hp) (rep_new_lst (ok.freshI hp) (repL_rep r1 _))⟩
  · exact h.elim
theorem je_mul (ha : JE X a da) (hb : JE X b db) : JE X (.BinOp a .Mult b pos) (dOp dMul da db) := je_op (op_mulA.or op_rep) i_mul ha hb
theorem i_fdiv {K : PySem.W.Frag} : Imp2 K (rI (fun _ j => DivB j) fun i j => .int (i.fdiv j)) dFdiv := by
  intro x y v w I S F H P Q ok rx ry h q
  unfold dFdiv at h
  split at h
  · cases rx.int_of; cases ry.int_of
    exact ⟨_, _, rfl, rfl, h.1, q _ _ _ _ _ h.2 (Same.refl I) ok rep_int⟩
  · exact h.elim
theorem je_fdiv (ha : JE X a da) (hb : JE X b db) : JE X (.BinOp a .FloorDiv b pos) (dOp dFdiv da db) := je_op op_fdivA i_fdiv ha hb
theorem i_mod {K : PySem.W.Frag} : Imp2 K (rI (fun _ j => 0 < j) fun i j => .int (i % j)) dMod := by
  intro x y v w I S F H P Q ok rx ry h q
  unfold dMod at h
  split at h
  · cases rx.int_of; cases ry.int_of
    exact ⟨_, _, rfl, rfl, h.1, q _ _ _ _ _ h.2 (Same.refl I) ok rep_int⟩
  · exact h.elim
theorem je_mod (ha : JE X a da) (hb : JE X b db) : JE X (.BinOp a .Mod b pos) (dOp dMod da db) := je_op op_mod i_mod ha hb
theorem i_pow {K : PySem.W.Frag} : Imp2 K (rI CPow fun i j => .int (i ^ j.toNat)) dPow := by
  intro x y v w I S F H P Q ok rx ry h q
  unfold dPow at h
  split at h
  · cases rx.int_of; cases ry.int_of
    exact ⟨_, _, rfl, rfl, h.1, q _ _ _ _ _ h.2 (Same.refl I) ok rep_int⟩
  · exact h.elim
theorem je_pow (ha : JE X a da) (hb : JE X b db) : JE X (.BinOp a .Pow b pos) (dOp dPow da db) := je_op op_pow i_pow ha hb
theorem i_neg {K : PySem.W.Frag} : Imp1 K (rU fun i => .int (-i)) dNeg := by
  intro x v I S F H P Q ok rx h q
  unfold dNeg at h
  split at h
  · cases rx.int_of
    exact ⟨_, rfl, q _ _ _ _ _ h (Same.refl I) ok rep_int⟩
  · exact h.elim
theorem je_neg (ha : JE X a da) : JE X (.UnaryOp .USub a pos) (dUn dNeg da) := je_un un_neg i_neg ha
theorem i_lt {K : PySem.W.Frag} : Imp2 K (rI0 fun i j => .bl (decide (i < j))) dLt := by
  intro x y v w I S F H P Q ok rx ry h q
  unfold dLt at h
  split at h
  · cases rx.int_of; cases ry.int_of
    exact ⟨_, _, rfl, rfl, q _ _ _ _ _ h (Same.refl I) ok rep_bl⟩
  · exact h.elim
theorem i_le {K : PySem.W.Frag} : Imp2 K (rI0 fun i j => .bl (decide (i ≤ j))) dLe := by
  intro x y v w I S F H P Q ok rx ry h q
  unfold dLe at h
  split at h
  · cases rx.int_of; cases ry.int_of
    exact ⟨_, _, rfl, rfl, q _ _ _ _ _ h (Same.refl I) ok rep_bl⟩
  · exact h.elim
theorem i_gt {K : PySem.W.Frag} : Imp2 K (rI0 fun i j => .bl (decide (j < i))) dGt := by
  intro x y v w I S F H P Q ok rx ry h q
  unfold dGt at h
  split at h
  · cases rx.int_of; cases ry.int_of
    exact ⟨_, _, rfl, rfl, q _ _ _ _ _ h (Same.refl I) ok rep_bl⟩
  · exact h.elim
theorem i_ge {K : PySem.W.Frag} : Imp2 K (rI0 fun i j => .bl (decide (j ≤ i))) dGe := by
  intro x y v w I S F H P Q ok rx ry h q
  unfold dGe at h
  split at h
  · cases rx.int_of; cases ry.int_of
    exact ⟨_, _, rfl, rfl, q _ _ _ _ _ h (Same.refl I) ok rep_bl⟩
  · exact h.elim
theorem je_lt (ha : JE X a da) (hb : JE X b db) : JE X (.Compare a [.Lt] [b] pos) (dOp dLt da db) := je_cmp op_lt i_lt ha hb (nomark _)
theorem je_le (ha : JE X a da) (hb : JE X b db) : JE X (.Compare a [.LtE] [b] pos) (dOp dLe da db) := je_cmp op_le i_le ha hb (nomark _)
theorem je_gt (ha : JE X a da) (hb : JE X b db) : JE X (.Compare a [.Gt] [b] pos) (dOp dGt da db) := je_cmp op_gt i_gt ha hb (nomark _)
theorem je_ge (ha : JE X a da) (hb : JE X b db) : JE X (.Compare a [.GtE] [b] pos) (dOp dGe da db) := je_cmp op_ge i_ge ha hb (nomark _)
theorem jt_lt (ha : JE X a da) (hb : JE X b db) : JT X (.Compare a [.Lt] [b] pos) (dTest (dOp dLt da db)) := jt_cmp op_lt i_lt ha hb (nomark _)
theorem jt_le (ha : JE X a da) (hb : JE X b db) : JT X (.Compare a [.LtE] [b] pos) (dTest (dOp dLe da db)) := jt_cmp op_le i_le ha hb (nomark _)
theorem jt_gt (ha : JE X a da) (hb : JE X b db) : JT X (.Compare a [.Gt] [b] pos) (dTest (dOp dGt da db)) := jt_cmp op_gt i_gt ha hb (nomark _)
theorem jt_ge (ha : JE X a da) (hb : JE X b db) : JT X (.Compare a [.GtE] [b] pos) (dTest (dOp dGe da db)) := jt_cmp op_ge i_ge ha hb (nomark _)

/-! chains a < b < c -/
def dChain (o o' : D2) (da db dc : DE) : DE := fun ρ S P => da ρ S fun x S1 => db ρ S1 fun y S2 => o x y S2 fun z S3 => match z with
  | .bl k => if k = true then dc ρ S3 fun u S4 => o' y u S4 P else P (.bl false) S3
  | _ => False
end

/-! ### == and != -/
mutual
def D.py : D → Option PyData
  | .non => some .none
  | .bl b => some (.bool b)
  | .int i => some (.int i)
  | .str s => some (.str s)
  | .lst ds => (D.pyL ds).map .list
  | .ext ds => (D.pyL ds).map .list
  | .tup ds => (D.pyL ds).map .tuple
  | .ty _ => none
  | .obj _ => none
def D.pyL : List D → Option (List PyData)
  | [] => some []
  | d :: ds => match d.py, D.pyL ds with
    | some p, some ps => some (p :: ps)
    | _, _ => none
end
section
variable {K : PySem.W.Frag} {I H : Hp}
mutual
theorem rep_dp (e : Same I H) : ∀ (d : D) (v : V) (p : PyData), Rep K I d v → d.py = some p → Dp K H v p
  | .non, v, p, h, q => by cases h.non_of; simp only [D.py, Option.some.injEq] at q; subst q; exact .non
  | .bl b, v, p, h, q => by cases h.bl_of; simp only [D.py, Option.some.injEq] at q; subst q; exact .bl b
  | .int b, v, p, h, q => by cases h.int_of; simp only [D.py, Option.some.injEq] at q; subst q; exact .int b
  | .str b, v, p, h, q => by cases h.str_of; simp only [D.py, Option.some.injEq] at q; subst q; exact .str b
  | .lst ds, v, p, h, q => by
    obtain ⟨a, xs, rfl, h1, r⟩ := h.lst_of
    simp only [D.py] at q
    cases z : D.pyL ds with
    | none => rw [z] at q; cases q
    | some ps =>
      rw [z] at q; simp only [Option.map_some, Option.some.injEq] at q; subst q
      exact .lst (.of (e _ _ h1)) (rep_dpL e ds xs ps r z)
  | .ext ds, v, p, h, q => by
    obtain ⟨a, xs, rfl, h1, r⟩ := h.ext_of
    simp only [D.py] at q
    cases z : D.pyL ds with
    | none => rw [z] at q; cases q
    | some ps =>
      rw [z] at q; simp only [Option.map_some, Option.some.injEq] at q; subst q
      exact .lst (e.seq h1) (rep_dpL e ds xs ps r z)
  | .tup ds, v, p, h, q => by
    obtain ⟨a, xs, rfl, h1, r⟩ := h.tup_of
    simp only [D.py] at q
    cases z : D.pyL ds with
    | none => rw [z] at q; cases q
    | some ps =>
      rw [z] at q; simp only [Option.map_some, Option.some.injEq] at q; subst q
      exact .tup (sqT_same e h1) (rep_dpL e ds xs ps r z)
  | .ty _, v, p, h, q => by simp [D.py] at q
  | .obj _, v, p, h, q => by simp [D.py] at q
theorem rep_dpL (e : Same I H) : ∀ (ds : List D) (vs : List V) (ps : List PyData), RepL K I ds vs → D.pyL ds = some ps → DpAll K H vs ps
  | [], vs, ps, h, q => by
    simp only [RepL] at h
    simp only [D.pyL, Option.some.injEq] at q
    subst h q; exact .nil
  | d :: ds, vs, ps, h, q => by
    simp only [RepL] at h
    obtain ⟨v, r, rfl, h1, h2⟩ := h
    simp only [D.pyL] at q
    cases e1 : d.py with
    | none => rw [e1] at q; cases q
    | some p =>
      cases e2 : D.pyL ds with
      | none => rw [e1, e2] at q; cases q
      | some ps' =>
        rw [e1, e2] at q; simp only [Option.some.injEq] at q; subst q
        exact .cons (rep_dp e d v p h1 e1) (rep_dpL e ds r ps' h2 e2)
end
end
/-- what == gives of two data -/
def dEqB : D → D → Option Bool
  | .int i, .int j => some (decide (i = j))
  | .bl i, .bl j => some (decide (i = j))
  | .str i, .str j => some (decide (i = j))
  | .non, .non => some true
  | .non, .int _ => some false
  | .int _, .non => some false
  | .non, .str _ => some false
  | .str _, .non => some false
  | .non, .bl _ => some false
  | .bl _, .non => some false
  | .int _, .str _ => some false
  | .str _, .int _ => some false
  | .bl _, .str _ => some false
  | .str _, .bl _ => some false
  | x, y => match x.py, y.py with
    | some p, some q => if SeqAt.shaped p = true ∧ SeqAt.shaped q = true then some (PyData.eqv p q) else none
    | _, _ => none
def dEq : D2 := fun x y S P => match dEqB x y with
  | some k => P (.bl k) S
  | none => False
def dNe : D2 := fun x y S P => match dEqB x y with
  | some k => P (.bl (!k)) S
  | none => False
section
variable {K : PySem.W.Frag}
theorem eqB_of {I H : Hp} {x y : D} {v w : V} {k : Bool} (e : Same I H) (rx : Rep K I x v) (ry : Rep K I y w) (h : dEqB x y = some k) :
    (scal v w = true ∧ decide (v = w) = k) ∨ ∃ p q, Dp K H v p ∧ Dp K H w q ∧ SeqAt.shaped p = true ∧ SeqAt.shaped q = true ∧ PyData.eqv p q = k := by
  unfold dEqB at h
  split at h
  case h_1 => cases rx.int_of; cases ry.int_of; cases h; exact .inl ⟨rfl, by simp⟩
  case h_2 => cases rx.bl_of; cases ry.bl_of; cases h; exact .inl ⟨rfl, by simp⟩
  case h_3 => cases rx.str_of; cases ry.str_of; cases h; exact .inl ⟨rfl, by simp⟩
  case h_4 => cases rx.non_of; cases ry.non_of; cases h; exact .inl ⟨rfl, by simp⟩
  case h_5 => cases rx.non_of; cases ry.int_of; cases h; exact .inl ⟨rfl, by simp⟩
  case h_6 => cases rx.int_of; cases ry.non_of; cases h; exact .inl ⟨rfl, by simp⟩
  case h_7 => cases rx.non_of; cases ry.str_of; cases h; exact .inl ⟨rfl, by simp⟩
  case h_8 => cases rx.str_of; cases ry.non_of; cases h; exact .inl ⟨rfl, by simp⟩
  case h_9 => cases rx.non_of; cases ry.bl_of; cases h; exact .inl ⟨rfl, by simp⟩
  case h_10 => cases rx.bl_of; cases ry.non_of; cases h; exact .inl ⟨rfl, by simp⟩
  case h_11 => cases rx.int_of; cases ry.str_of; cases h; exact .inl ⟨rfl, by simp⟩
  case h_12 => cases rx.str_of; cases ry.int_of; cases h; exact .inl ⟨rfl, by simp⟩
  case h_13 => cases rx.bl_of; cases ry.str_of; cases h; exact .inl ⟨rfl, by simp⟩
  case h_14 => cases rx.str_of; cases ry.bl_of; cases h; exact .inl ⟨rfl, by simp⟩
  case h_15 =>
    split at h
    · rename_i p q e1 e2
      split at h
      · rename_i hs
        cases h
        exact .inr ⟨p, q, rep_dp e _ _ _ rx e1, rep_dp e _ _ _ ry e2, hs.1, hs.2, rfl⟩
      · cases h
    · cases h
theorem i_eq : Imp2 K (fun x y H Q => rEq x y H Q ∨ rEqD K x y H Q) dEq := by
  intro x y v w I S F H P Q ok rx ry h q
  unfold dEq at h
  split at h
  · rename_i k e
    rcases eqB_of ok.same rx ry e with ⟨h1, h2⟩ | ⟨p, p', h1, h2, h3, h4, h5⟩
    · exact .inl ⟨h1, by rw [h2]; exact q _ _ _ _ _ h (Same.refl I) ok rep_bl⟩
    · exact .inr ⟨p, p', h1, h2, h3, h4, by rw [h5]; exact q _ _ _ _ _ h (Same.refl I) ok rep_bl⟩
  · exact h.elim
theorem i_ne : Imp2 K (fun x y H Q => rNe x y H Q ∨ rNeD K x y H Q) dNe := by
  intro x y v w I S F H P Q ok rx ry h q
  unfold dNe at h
  split at h
  · rename_i k e
    rcases eqB_of ok.same rx ry e with ⟨h1, h2⟩ | ⟨p, p', h1, h2, h3, h4, h5⟩
    · exact .inl ⟨h1, by rw [h2]; exact q _ _ _ _ _ h (Same.refl I) ok rep_bl⟩
    · exact .inr ⟨p, p', h1, h2, h3, h4, by rw [h5]; exact q _ _ _ _ _ h (Same.refl I) ok rep_bl⟩
  · exact h.elim
variable {X : Cx} {pos : Pos} {a b : Expr} {da db : DE}
theorem je_eq {k : Nat} (hr : DG.RoomG k X.A) (ha : JE X a da) (hb : JE X b db) : JE X (.Compare a [.Eq] [b] pos) (dOp dEq da db) := je_cmp (op_eq.or (op_eqD hr.r.units)) i_eq ha hb (nomark _)
theorem je_ne {k : Nat} (hr : DG.RoomG k X.A) (ha : JE X a da) (hb : JE X b db) : JE X (.Compare a [.NotEq] [b] pos) (dOp dNe da db) := je_cmp (op_ne.or (op_neD hr.r.units)) i_ne ha hb (nomark _)
theorem jt_eq {k : Nat} (hr : DG.RoomG k X.A) (ha : JE X a da) (hb : JE X b db) : JT X (.Compare a [.Eq] [b] pos) (dTest (dOp dEq da db)) := jt_cmp (op_eq.or (op_eqD hr.r.units)) i_eq ha hb (nomark _)
theorem jt_ne {k : Nat} (hr : DG.RoomG k X.A) (ha : JE X a da) (hb : JE X b db) : JT X (.Compare a [.NotEq] [b] pos) (dTest (dOp dNe da db)) := jt_cmp (op_ne.or (op_neD hr.r.units)) i_ne ha hb (nomark _)
end

/-! ### is None, in -/
def isNon : D → Bool
  | .non => true
  | _ => false
def dIsN : D2 := fun x y S P => match y with
  | .non => P (.bl (isNon x)) S
  | _ => False
def dNotN : D2 := fun x y S P => match y with
  | .non => P (.bl (!isNon x)) S
  | _ => False
def isFlat : D → Bool
  | .non | .bl _ | .int _ | .str _ => true
  | _ => false
/-- y is in the list, as == has it, of flat things -/
def eqFlat : D → D → Bool
  | .non, .non => true
  | .bl a, .bl b => a == b
  | .bl a, .int j => (if a then 1 else 0) == j
  | .int i, .bl b => i == (if b then 1 else 0)
  | .int i, .int j => decide (i = j)
  | .str x, .str y => decide (x = y)
  | _, _ => false
def dIn (neg : Bool) : D2 := fun x y S P => match seqOf S y with
  | some ys => isFlat x = true ∧ ys.all isFlat = true ∧ P (.bl (if neg then !(ys.any fun z => eqFlat z x) else ys.any fun z => eqFlat z x)) S
  | none => False
section
variable {K : PySem.W.Frag} {I F H : Hp}
theorem flat_rep {x : D} {v : V} (r : Rep K I x v) (h : isFlat x = true) : flatV v = true := by
  cases x with
  | non => cases r.non_of; rfl
  | bl b => cases r.bl_of; rfl
  | int i => cases r.int_of; rfl
  | str s => cases r.str_of; rfl
  | _ => simp [isFlat] at h
theorem eqFlat_rep {x y : D} {v w : V} (rx : Rep K I x v) (ry : Rep K I y w) (hx : isFlat x = true) (hy : isFlat y = true) : eqV v w = eqFlat x y := by
  cases x <;> simp only [isFlat, Bool.false_eq_true] at hx <;> cases y <;> simp only [isFlat, Bool.false_eq_true] at hy <;>
    simp only [Rep] at rx ry <;> subst rx <;> subst ry <;> first | rfl | simp [eqV, eqFlat] | (simp [eqV, eqFlat]; done)
theorem flats_rep : ∀ {xs : List D} {vs : List V}, RepL K I xs vs → xs.all isFlat = true → vs.all flatV = true
  | [], vs, r, _ => by
    simp only [RepL] at r
    subst r; rfl
  | x :: xs, vs, r, h => by
    simp only [RepL] at r
    obtain ⟨v, r', rfl, h1, h2⟩ := r
    simp only [List.all_cons, Bool.and_eq_true] at h ⊢
    exact ⟨flat_rep h1 h.1, flats_rep h2 h.2⟩
theorem anys_rep {x : D} {v : V} (rx : Rep K I x v) (fx : isFlat x = true) : ∀ {xs : List D} {vs : List V}, RepL K I xs vs → xs.all isFlat = true → inV v vs = xs.any fun z => eqFlat z x
  | [], vs, r, _ => by
    simp only [RepL] at r
    subst r; rfl
  | y :: xs, vs, r, h => by
    simp only [RepL] at r
    obtain ⟨w, r', rfl, h1, h2⟩ := r
    simp only [List.all_cons, Bool.and_eq_true] at h
    show (eqV w v || inV v r') = _
    rw [eqFlat_rep h1 rx h.1 fx, anys_rep rx fx h2 h.2]
    rfl
theorem seq_sq (ok : Ok K I S F H) {x : D} {v : V} {ds : List D} (r : Rep K I x v) (h : seqOf S x = some ds) : ∃ a xs, v = .ref a ∧ (SqL K H a xs ∨ SqT K H a xs) ∧ RepL K I ds xs := by
  cases x with
  | tup es =>
    simp only [seqOf, Option.some.injEq] at h; subst h
    obtain ⟨a, xs, e, q, rl⟩ := tup_sq ok r
    exact ⟨a, xs, e, .inr q, rl⟩
  | _ =>
    simp only [seqOf] at h
    obtain ⟨a, xs, e, q, rl⟩ := lst_sq ok r h
    exact ⟨a, xs, e, .inl q, rl⟩
theorem i_in (neg : Bool) : Imp2 K (rIn K neg) (dIn neg) := by
  intro x y v w I S F H P Q ok rx ry h q
  unfold dIn at h
  split at h
  · rename_i ys e
    obtain ⟨a, vs, rfl, hs, rl⟩ := seq_sq ok ry e
    refine ⟨a, vs, rfl, hs, flat_rep rx h.1, flats_rep rl h.2.1, ?_⟩
    rw [anys_rep rx h.1 rl h.2.1]
    exact q _ _ _ _ _ h.2.2 (Same.refl I) ok rep_bl
  · exact h.elim
theorem isNon_rep {I : Hp} {x : D} {v : V} (r : Rep K I x v) : decide (v = .non) = isNon x := by
  cases x with
  | non => cases r.non_of; rfl
  | bl b => cases r.bl_of; rfl
  | int i => cases r.int_of; rfl
  | str s => cases r.str_of; rfl
  | ty n => simp only [Rep] at r; subst r; rfl
  | obj a => cases r.obj_of; rfl
  | lst ds => obtain ⟨a, xs, rfl, _⟩ := r.lst_of; rfl
  | ext ds => obtain ⟨a, xs, rfl, _⟩ := r.ext_of; rfl
  | tup ds => obtain ⟨a, xs, rfl, _⟩ := r.tup_of; rfl
theorem i_isN : Imp2 K (fun x y H Q => y = .non ∧ Q (.bl (decide (x = .non))) H) dIsN := by
  intro x y v w I S F H P Q ok rx ry h q
  unfold dIsN at h
  split at h
  · refine ⟨ry.non_of, ?_⟩
    rw [isNon_rep rx]
    exact q _ _ _ _ _ h (Same.refl I) ok rep_bl
  · exact h.elim
theorem i_notN : Imp2 K (fun x y H Q => y = .non ∧ Q (.bl (!decide (x = .non))) H) dNotN := by
  intro x y v w I S F H P Q ok rx ry h q
  unfold dNotN at h
  split at h
  · refine ⟨ry.non_of, ?_⟩
    rw [isNon_rep rx]
    exact q _ _ _ _ _ h (Same.refl I) ok rep_bl
  · exact h.elim
variable {X : Cx} {pos : Pos} {a b : Expr} {da db : DE}
theorem je_in (ha : JE X a da) (hb : JE X b db) (hm : behindInMarks .In b = false := by rfl) : JE X (.Compare a [.In] [b] pos) (dOp (dIn false) da db) := je_cmp op_in_seq (i_in false) ha hb hm
theorem je_notin (ha : JE X a da) (hb : JE X b db) (hm : behindInMarks .NotIn b = false := by rfl) : JE X (.Compare a [.NotIn] [b] pos) (dOp (dIn true) da db) := je_cmp op_notIn_seq (i_in true) ha hb hm
theorem jt_in (ha : JE X a da) (hb : JE X b db) (hm : behindInMarks .In b = false := by rfl) : JT X (.Compare a [.In] [b] pos) (dTest (dOp (dIn false) da db)) := jt_cmp op_in_seq (i_in false) ha hb hm
theorem jt_notin (ha : JE X a da) (hb : JE X b db) (hm : behindInMarks .NotIn b = false := by rfl) : JT X (.Compare a [.NotIn] [b] pos) (dTest (dOp (dIn true) da db)) := jt_cmp op_notIn_seq (i_in true) ha hb hm
theorem je_isN (ha : JE X a da) (hb : JE X b db) : JE X (.Compare a [.Is] [b] pos) (dOp dIsN da db) := je_cmp op_isN i_isN ha hb (nomark _)
theorem je_notN (ha : JE X a da) (hb : JE X b db) : JE X (.Compare a [.IsNot] [b] pos) (dOp dNotN da db) := je_cmp op_notN i_notN ha hb (nomark _)
theorem jt_isN (ha : JE X a da) (hb : JE X b db) : JT X (.Compare a [.Is] [b] pos) (dTest (dOp dIsN da db)) := jt_cmp op_isN i_isN ha hb (nomark _)
theorem jt_notN (ha : JE X a da) (hb : JE X b db) : JT X (.Compare a [.IsNot] [b] pos) (dTest (dOp dNotN da db)) := jt_cmp op_notN i_notN ha hb (nomark _)
end

/-! ### subscripts -/
def dIx : D2 := fun x y S P => match y with
  | .int i => match x with
    | .str z => z.length ≤ 100000 ∧ (match atI z.cps.toList i with
      | some c => P (.str ⟨#[c]⟩) S
      | none => False)
    | x => match seqOf S x with
      | some ds => match atI ds i with
        | some d => P d S
        | none => False
      | none => False
  | _ => False
def dcut (xs : List D) (lo hi : Option Int) : List D := (xs.drop (HT.sIx xs.length 0 lo)).take (HT.sIx xs.length xs.length hi - HT.sIx xs.length 0 lo)
abbrev DO := DSt → Store → (Option Int → Store → Prop) → Prop
def dNoPart : DO := fun _ S P => P none S
def dPart (d : DE) : DO := fun ρ S P => d ρ S fun x S1 => match x with
  | .int i => P (some i) S1
  | _ => False
def dSl (d : DE) (lo hi : DO) : DE := fun ρ S P => d ρ S fun x S1 => lo ρ S1 fun l S2 => hi ρ S2 fun u S3 => match x with
  | .tup ds => P (.tup (dcut ds l u)) S3
  | x => match lstOf S3 x with
    | some ds => P (.lst (dcut ds l u)) S3
    | none => False
section
variable {K : PySem.W.Frag} {I F H : Hp} {S : Store}
theorem atI_rep {ds : List D} {vs : List V} {i : Int} {d : D} (r : RepL K I ds vs) (h : atI ds i = some d) : ∃ v, atI vs i = some v ∧ Rep K I d v := by
  unfold atI at h ⊢
  rw [r.len]
  cases e : ixN ds.length i with
  | none => rw [e] at h; cases h
  | some j =>
    rw [e] at h
    exact r.get (i := j) h
theorem i_ix : Imp2 K (rIx K) dIx := by
  intro x y v w I S F H P Q ok rx ry h q
  unfold dIx at h
  split at h
  · rename_i i
    cases ry.int_of
    split at h
    · rename_i z
      cases rx.str_of
      obtain ⟨hl, h⟩ := h
      split at h
      · rename_i c e
        exact .inr (.inr ⟨_, _, c, rfl, rfl, line5 hl, e, q _ _ _ _ _ h (Same.refl I) ok rep_str⟩)
      · exact h.elim
    · split at h
      · rename_i ds e
        split at h
        · rename_i d e2
          obtain ⟨a, xs, rfl, hs, rl⟩ := seq_sq ok rx e
          obtain ⟨u, e3, r3⟩ := atI_rep rl e2
          rcases hs with hs | hs
          · exact .inl ⟨a, xs, i, u, rfl, rfl, hs, e3, q _ _ _ _ _ h (Same.refl I) ok r3⟩
          · exact .inr (.inl ⟨a, xs, i, u, rfl, rfl, hs, e3, q _ _ _ _ _ h (Same.refl I) ok r3⟩)
        · exact h.elim
      · exact h.elim
  · exact h.elim
theorem cut_rep {ds : List D} {vs : List V} (lo hi : Option Int) (r : RepL K I ds vs) : RepL K I (dcut ds lo hi) (cutV vs lo hi) := by
  unfold dcut cutV
  rw [r.len]
  exact (r.drop _).take _
variable {X : Cx} {pos : Pos} {a b : Expr} {da db : DE}
theorem je_ix (ha : JE X a da) (hb : JE X b db) (hs : PlainIx b := by exact fun _ _ => rfl) : JE X (.Subscript a b pos) (dOp dIx da db) := je_of (pe_ix ix_seq ha hb hs) (up_op i_ix)
def upO (K : PySem.W.Frag) (d : DO) : TO := fun σ H Q => ∃ ρ I S F P, RepS K I ρ σ ∧ Ok K I S F H ∧ d ρ S P ∧ ∀ o S' I' H', P o S' → Same I I' → Ok K I' S' F H' → Q o H'
abbrev JO (X : Cx) (e : Option Expr) (d : DO) : Prop := PO X e (upO X.K d)
theorem jo_of {X : Cx} {e : Option Expr} {t u : TO} (h : PO X e t) (i : ∀ σ H Q, u σ H Q → t σ H Q) : PO X e u := ⟨by
  intro pins s σ H Q I q
  exact h.run pins s σ H Q I (i _ _ _ q)⟩
theorem jo_none : JO X none dNoPart := jo_of po_none fun σ H Q ⟨ρ, I, S, F, P, rs, ok, h, q⟩ => q _ _ _ _ h (Same.refl I) ok
theorem jo_some (h : JE X a da) : JO X (some a) (dPart da) := jo_of (po_some h) fun σ H Q ⟨ρ, I, S, F, P, rs, ok, hh, q⟩ => ⟨ρ, I, S, F, _, rs, ok, hh, fun x S1 v I1 H1 h1 e1 ok1 r1 => by
  cases x with
  | int i => exact ⟨i, r1.int_of, q _ _ _ _ h1 e1 ok1⟩
  | _ => exact h1.elim⟩
theorem je_sl {lo hi : Option Expr} {dl dh : DO} {p2 : Pos} (he : JE X a da) (hl : JO X lo dl) (hu : JO X hi dh) : JE X (.Subscript a (.Slice lo hi none p2) pos) (dSl da dl dh) :=
  je_of (pe_slice (sl_list.or sl_tupA) he hl hu) fun σ H Q ⟨ρ, I, S, F, P, rs, ok, h, q⟩ =>
    ⟨ρ, I, S, F, _, rs, ok, h, fun x S1 v I1 H1 h1 e1 ok1 r1 => ⟨ρ, I1, S1, F, _, rs.mono e1, ok1, h1, fun l S2 I2 H2 h2 e2 ok2 => ⟨ρ, I2, S2, F, _, rs.mono (e1.trans e2), ok2, h2, fun u S3 I3 H3 h3 e3 ok3 => by
      have r3 : Rep X.K I3 x v := r1.mono (e2.trans e3)
      have e13 := (e1.trans e2).trans e3
      split at h3
      · rename_i ds
        obtain ⟨a, xs, rfl, hs, rl⟩ := tup_sq ok3 r3
        refine .inr ⟨a, xs, rfl, hs, fun ew => ?_, fun _ p hp => q _ _ _ _ _ h3 (e13.trans (same_new (ok3.freshI hp))) (ok3.newI hp) (rep_new_tup (ok3.freshI hp) (cut_rep _ _ rl))⟩
        have hw : dcut ds l u = ds := by
          unfold dcut
          rw [← rl.len, ew.1, ew.2, rl.len]
          simp
        rw [hw] at h3
        exact q _ _ _ _ _ h3 e13 ok3 r3
      · split at h3
        · rename_i ds e
          obtain ⟨a, xs, rfl, hs, rl⟩ := lst_sq ok3 r3 e
          exact .inl ⟨a, xs, rfl, hs, fun p hp => q _ _ _ _ _ h3 (e13.trans (same_new (ok3.freshI hp))) (ok3.newI hp) (rep_new_lst (ok3.freshI hp) (cut_rep _ _ rl))⟩
        · exact h3.elim⟩⟩⟩
/-- xs[::-1] -/
def dRevL (d : DE) : DE := fun ρ S P => d ρ S fun x S1 => match lstOf S1 x with
  | some ds => P (.lst ds.reverse) S1
  | none => False
theorem je_revL {k : Nat} {p1 p2 p3 : Pos} (he : JE X a da) : JE X (.Subscript a (.Slice none none (some (.UnaryOp .USub (.Constant (.int 1) k p1) p2)) p3) pos) (dRevL da) :=
  je_of (pe_revL he) fun σ H Q ⟨ρ, I, S, F, P, rs, ok, h, q⟩ => ⟨ρ, I, S, F, _, rs, ok, h, fun x S1 v I1 H1 h1 e1 ok1 r1 => by
    split at h1
    · rename_i ds e
      obtain ⟨a, xs, rfl, hs, rl⟩ := lst_sq ok1 r1 e
      exact ⟨a, xs, rfl, hs, fun p hp => q _ _ _ _ _ h1 (e1.trans (same_new (ok1.freshI hp))) (ok1.newI hp) (rep_new_lst (ok1.freshI hp) rl.rev)⟩
    · exact h1.elim⟩
end
end DL

namespace DL
open PySem PySem.Spec PyProof.Rows L2

/-! ### keywords -/
def pick {α : Type} (perm : List Nat) (us ws : List α) : List α := perm.filterMap fun i => (us ++ ws)[i]?
theorem pick_rep {K : PySem.W.Frag} {I : Hp} {ds : List D} {vs : List V} (r : RepL K I ds vs) : ∀ perm : List Nat, RepL K I (perm.filterMap fun i => ds[i]?) (perm.filterMap fun i => vs[i]?)
  | [] => RepL.nil
  | i :: p => by
    cases e : ds[i]? with
    | none =>
      have e2 : vs[i]? = none := by
        rw [List.getElem?_eq_none_iff] at e ⊢
        rw [r.len]; exact e
      simp only [List.filterMap_cons, e, e2]
      exact pick_rep r p
    | some d =>
      obtain ⟨v, e2, r2⟩ := r.get e
      simp only [List.filterMap_cons, e, e2]
      exact RepL.cons r2 (pick_rep r p)
theorem pick_vals {vs : List V} {us : List Value} (r : Vals vs us) : ∀ perm : List Nat, Vals (perm.filterMap fun i => vs[i]?) (perm.filterMap fun i => us[i]?)
  | [] => .nil
  | i :: p => by
    cases e : vs[i]? with
    | none =>
      have e2 := r.none_of e
      simp only [List.filterMap_cons, e, e2]
      exact pick_vals r p
    | some v =>
      obtain ⟨u, e2, r2⟩ := r.get e
      simp only [List.filterMap_cons, e, e2]
      exact .cons r2 (pick_vals r p)
/-- a def without defaults called with n values and keywords ks, put in order by perm -/
theorem kbn_mk {K : PySem.W.Frag} {x qual : Str} {st : Stmt} {f : Addr} {fd : FuncData} {ps ks : List Str} {n : Nat} {perm : List Nat} (F : Fun K x qual st f fd)
    (h : ∀ (kV doc pm : Value) (an : Option Addr) (cdv ct : Value) (us ws : List Value), us.length = n → ws.length = ks.length → bindArgs (PySem.W.fnOf x qual (defArgs st) (defBody st) (defScope st) .none kV doc pm an cdv ct) ⟨us, ks.zip ws⟩ = pure (ps.zip (pick perm us ws))) :
    KBn K fd ps n ks (pick perm) (pick perm) := by
  obtain ⟨oc, od, kV, doc, pm, an, cdv, ct, osl, rfl, lk, hcd⟩ := F.ex
  exact ⟨fun s us ws _ h1 h2 => .of_eq (h kV doc pm an cdv ct us ws h1 h2), fun r1 r2 => pick_vals (r1.append r2) perm⟩
def upK (K : PySem.W.Frag) (d : DA) : TA := upA K d
abbrev JK (X : Cx) (kws : List Keyword) (d : DA) : Prop := PK X kws (upA X.K d)
theorem jk_of {X : Cx} {e : List Keyword} {t u : TA} (h : PK X e t) (i : ∀ σ H Q, u σ H Q → t σ H Q) : PK X e u := ⟨fun pos pins s σ H Q I q => h.run pos pins s σ H Q I (i _ _ _ q)⟩
def dCallK (sp : DSp) (n m : Nat) (perm : List Nat) (a kw : DA) : DE := fun ρ S P => a ρ S fun xs S1 => kw ρ S1 fun ys S2 => xs.length = n ∧ ys.length = m ∧ sp (pick perm xs ys) S2 P
section
variable {X : Cx} {pos kpos : Pos} {a b : Expr} {da db : DE} {es : List Expr} {ds dk : DA} {kws : List Keyword} {nm : Option Str}
theorem jk_nil : JK X [] dNil := jk_of pk_nil fun σ H Q ⟨ρ, I, S, F, P, rs, ok, h, q⟩ => q _ _ _ _ _ h (Same.refl I) ok RepL.nil
theorem jk_cons (ha : JE X a da) (hr : JK X kws ds) : JK X (⟨nm, a, kpos⟩ :: kws) (dCons da ds) :=
  jk_of (pk_cons ha hr) fun σ H Q ⟨ρ, I, S, F, P, rs, ok, h, q⟩ => ⟨ρ, I, S, F, _, rs, ok, h, fun x S1 v I1 H1 h1 e1 ok1 r1 => ⟨ρ, I1, S1, F, _, rs.mono e1, ok1, h1, fun xs S2 vs I2 H2 h2 e2 ok2 r2 =>
    q _ _ _ _ _ h2 (e1.trans e2) ok2 (RepL.cons (r1.mono e2) r2)⟩⟩
variable {k n : Nat} {f : Addr} {fd : FuncData} {ps ks : List Str} {sp : DSp} {x : Str} {p : Pos} {perm : List Nat}
theorem up_callN : ∀ σ H Q, upE X.K (dCallK sp n ks.length perm ds dk) σ H Q → tCallN n ks.length (upSp X.K sp) (pick perm) E0 (upA X.K ds) (upA X.K dk) σ H Q := fun σ H Q ⟨ρ, I, S, F, P, rs, ok, h, q⟩ =>
  ⟨ρ, I, S, F, _, rs, ok, h, fun xs S1 vs I1 H1 h1 e1 ok1 r1 => ⟨ρ, I1, S1, F, _, rs.mono e1, ok1, h1, fun ys S2 ws I2 H2 ⟨l1, l2, h2⟩ e2 ok2 r2 =>
    ⟨by rw [r1.len]; exact l1, by rw [r2.len]; exact l2, _, I2, S2, F, P, pick_rep ((r1.mono e2).app r2) perm, ok2, h2, q.mono (e1.trans e2)⟩⟩⟩
theorem je_callK (G : FnD X.prog X.w X.K X.mg X.base k f fd ps sp) (hr : DG.RoomG k X.A) (hg : Gl X x) (hm : X.mg x = some (.ref f)) (hk : PySem.W.keepIn X.K (.ref f) = true) (hb : KBn X.K fd ps n ks (pick perm) (pick perm))
    (ha : JA X (a :: es) ds) (hkw : JK X kws dk) (hall : (backToKw pos (keywordEach kws X.env)).all (·.1.isSome) = true := by rfl) (hks : (backToKw pos (keywordEach kws X.env)).filterMap (·.1) = ks := by rfl)
    (hdb : (x == ("__debug__" : Str)) = false := by decide) (he : starEach (a :: es) X.env = (false, eval a X.env) :: starEach es X.env := by rfl)
    (hpl : ((backTo pos (starEach (a :: es) X.env)).any (·.1) || (backToKw pos (keywordEach kws X.env)).any (·.1.isNone)) = false := by rfl) :
    JE X (.Call (.Name x p) (a :: es) kws pos) (dCallK sp n ks.length perm ds dk) := je_of (DG.pe_callN G hr hg hm hk hb pass0 ha hkw hall hks hdb he hpl) up_callN
theorem je_callK0 (G : FnD X.prog X.w X.K X.mg X.base k f fd ps sp) (hr : DG.RoomG k X.A) (hg : Gl X x) (hm : X.mg x = some (.ref f)) (hk : PySem.W.keepIn X.K (.ref f) = true) (hb : KBn X.K fd ps 0 ks (pick perm) (pick perm))
    (hkw : JK X kws dk) (hall : (backToKw pos (keywordEach kws X.env)).all (·.1.isSome) = true := by rfl) (hks : (backToKw pos (keywordEach kws X.env)).filterMap (·.1) = ks := by rfl)
    (hdb : (x == ("__debug__" : Str)) = false := by decide)
    (hpl : ((backTo pos (starEach [] X.env)).any (·.1) || (backToKw pos (keywordEach kws X.env)).any (·.1.isNone)) = false := by rfl) :
    JE X (.Call (.Name x p) [] kws pos) (dCallK sp 0 ks.length perm dNil dk) :=
  je_of (DG.pe_callN0 G hr hg hm hk hb pass0 hkw hall hks hdb hpl) fun σ H Q ⟨ρ, I, S, F, P, rs, ok, h, q⟩ =>
    ⟨ρ, I, S, F, _, rs, ok, h, fun ys S2 ws I2 H2 ⟨l1, l2, h2⟩ e2 ok2 r2 => ⟨rfl, by rw [r2.len]; exact l2, _, I2, S2, F, P, pick_rep (RepL.nil.app r2) perm, ok2, h2, q.mono e2⟩⟩
end

/-! ### built-ins -/
def dInts : List D → Option (List Int)
  | [] => some []
  | .int i :: r => (dInts r).map (i :: ·)
  | _ => none
def dBools : List D → Option (List Bool)
  | [] => some []
  | .bl i :: r => (dBools r).map (i :: ·)
  | _ => none
theorem dInts_map : ∀ ns : List Int, dInts (ns.map .int) = some ns
  | [] => rfl
  | n :: ns => by simp [dInts, dInts_map ns]
theorem dBools_map : ∀ ns : List Bool, dBools (ns.map .bl) = some ns
  | [] => rfl
  | n :: ns => by simp [dBools, dBools_map ns]
theorem dInts_rep {K : PySem.W.Frag} {I : Hp} : ∀ {ds : List D} {vs : List V} {ns : List Int}, RepL K I ds vs → dInts ds = some ns → vs = ns.map V.int
  | [], vs, ns, r, h => by
    simp only [RepL] at r
    simp only [dInts, Option.some.injEq] at h
    subst r h; rfl
  | d :: ds, vs, ns, r, h => by
    simp only [RepL] at r
    obtain ⟨v, r', rfl, h1, h2⟩ := r
    cases d with
    | int i =>
      simp only [dInts] at h
      cases e : dInts ds with
      | none => rw [e] at h; cases h
      | some ms =>
        rw [e] at h
        simp only [Option.map_some, Option.some.injEq] at h
        subst h
        rw [dInts_rep h2 e, h1.int_of]; rfl
    | _ => simp [dInts] at h
theorem dBools_rep {K : PySem.W.Frag} {I : Hp} : ∀ {ds : List D} {vs : List V} {ns : List Bool}, RepL K I ds vs → dBools ds = some ns → vs = ns.map V.bl
  | [], vs, ns, r, h => by
    simp only [RepL] at r
    simp only [dBools, Option.some.injEq] at h
    subst r h; rfl
  | d :: ds, vs, ns, r, h => by
    simp only [RepL] at r
    obtain ⟨v, r', rfl, h1, h2⟩ := r
    cases d with
    | bl i =>
      simp only [dBools] at h
      cases e : dBools ds with
      | none => rw [e] at h; cases h
      | some ms =>
        rw [e] at h
        simp only [Option.map_some, Option.some.injEq] at h
        subst h
        rw [dBools_rep h2 e, h1.bl_of]; rfl
    | _ => simp [dBools] at h
def cAbs : DC := fun xs S P => match xs with
  | [.int i] => P (.int (if i < 0 then -i else i)) S
  | _ => False
def cMax2 : DC := fun xs S P => match xs with
  | [.int i, .int j] => P (.int (if j > i then j else i)) S
  | _ => False
def cMin2 : DC := fun xs S P => match xs with
  | [.int i, .int j] => P (.int (if j < i then j else i)) S
  | _ => False
def cMaxL : DC := fun xs S P => match xs with
  | [x] => match (lstOf S x).bind dInts with
    | some ns => 0 < ns.length ∧ ∀ m, m ∈ ns → (∀ y, y ∈ ns → y ≤ m) → P (.int m) S
    | none => False
  | _ => False
def cMinL : DC := fun xs S P => match xs with
  | [x] => match (lstOf S x).bind dInts with
    | some ns => 0 < ns.length ∧ ∀ m, m ∈ ns → (∀ y, y ∈ ns → m ≤ y) → P (.int m) S
    | none => False
  | _ => False
def cSum : DC := fun xs S P => match xs with
  | [x] => match (lstOf S x).bind dInts with
    | some ns => P (.int ns.sum) S
    | none => False
  | _ => False
def cAny : DC := fun xs S P => match xs with
  | [x] => match (lstOf S x).bind dBools with
    | some ns => P (.bl (ns.any id)) S
    | none => False
  | _ => False
def cAll : DC := fun xs S P => match xs with
  | [x] => match (lstOf S x).bind dBools with
    | some ns => P (.bl (ns.all id)) S
    | none => False
  | _ => False
def cInt : DC := fun xs S P => match xs with
  | [.int i] => P (.int i) S
  | [.bl k] => P (.int (if k then 1 else 0)) S
  | _ => False
def cLen : DC := fun xs S P => match xs with
  | [.str z] => z.length ≤ 100000 ∧ P (.int z.length) S
  | [x] => match seqOf S x with
    | some ds => P (.int ds.length) S
    | none => False
  | _ => False
def cList : DC := fun xs S P => match xs with
  | [x] => match seqOf S x with
    | some ds => P (.lst ds) S
    | none => False
  | _ => False
/-- list(..), to be changed -/
def cListM : DC := fun xs S P => match xs with
  | [x] => match seqOf S x with
    | some ds => ∀ p, S p = none → P (.obj p) (supd S p (.lst ds))
    | none => False
  | _ => False
def cTuple : DC := fun xs S P => match xs with
  | [x] => match seqOf S x with
    | some ds => P (.tup ds) S
    | none => False
  | _ => False
section
variable {K : PySem.W.Frag}
theorem i_abs : ImpC K (fun xs H Q => ∃ i, xs = [.int i] ∧ Q (.int (if i < 0 then -i else i)) H) cAbs := by
  intro xs vs I S F H P Q ok r h q
  unfold cAbs at h
  split at h
  · obtain ⟨v, rfl, rv⟩ := r.inv1
    cases rv.int_of
    exact ⟨_, rfl, q _ _ _ _ _ h (Same.refl I) ok rep_int⟩
  · exact h.elim
theorem i_max2 : ImpC K (fun xs H Q => ∃ i j, xs = [.int i, .int j] ∧ Q (.int (if j > i then j else i)) H) cMax2 := by
  intro xs vs I S F H P Q ok r h q
  unfold cMax2 at h
  split at h
  · obtain ⟨v, w, rfl, rv, rw⟩ := r.inv2
    cases rv.int_of; cases rw.int_of
    exact ⟨_, _, rfl, q _ _ _ _ _ h (Same.refl I) ok rep_int⟩
  · exact h.elim
theorem i_min2 : ImpC K (fun xs H Q => ∃ i j, xs = [.int i, .int j] ∧ Q (.int (if j < i then j else i)) H) cMin2 := by
  intro xs vs I S F H P Q ok r h q
  unfold cMin2 at h
  split at h
  · obtain ⟨v, w, rfl, rv, rw⟩ := r.inv2
    cases rv.int_of; cases rw.int_of
    exact ⟨_, _, rfl, q _ _ _ _ _ h (Same.refl I) ok rep_int⟩
  · exact h.elim
theorem lstInts {I F H : Hp} {S : Store} (ok : Ok K I S F H) {x : D} {v : V} {ns : List Int} (r : Rep K I x v) (h : (lstOf S x).bind dInts = some ns) : ∃ a, v = .ref a ∧ SqL K H a (ns.map V.int) := by
  cases e : lstOf S x with
  | none => rw [e] at h; cases h
  | some ds =>
    rw [e] at h
    obtain ⟨a, xs, rfl, hs, rl⟩ := lst_sq ok r e
    exact ⟨a, rfl, by rw [← dInts_rep rl h]; exact hs⟩
theorem lstBools {I F H : Hp} {S : Store} (ok : Ok K I S F H) {x : D} {v : V} {ns : List Bool} (r : Rep K I x v) (h : (lstOf S x).bind dBools = some ns) : ∃ a, v = .ref a ∧ SqL K H a (ns.map V.bl) := by
  cases e : lstOf S x with
  | none => rw [e] at h; cases h
  | some ds =>
    rw [e] at h
    obtain ⟨a, xs, rfl, hs, rl⟩ := lst_sq ok r e
    exact ⟨a, rfl, by rw [← dBools_rep rl h]; exact hs⟩
theorem i_maxL : ImpC K (rMax K) cMaxL := by
  intro xs vs I S F H P Q ok r h q
  unfold cMaxL at h
  split at h
  · split at h
    · rename_i ns e
      obtain ⟨v, rfl, rv⟩ := r.inv1
      obtain ⟨a, rfl, hs⟩ := lstInts ok rv e
      exact ⟨a, ns, rfl, hs, h.1, fun m hm hy => q _ _ _ _ _ (h.2 m hm hy) (Same.refl I) ok rep_int⟩
    · exact h.elim
  · exact h.elim
theorem i_minL : ImpC K (rMin K) cMinL := by
  intro xs vs I S F H P Q ok r h q
  unfold cMinL at h
  split at h
  · split at h
    · rename_i ns e
      obtain ⟨v, rfl, rv⟩ := r.inv1
      obtain ⟨a, rfl, hs⟩ := lstInts ok rv e
      exact ⟨a, ns, rfl, hs, h.1, fun m hm hy => q _ _ _ _ _ (h.2 m hm hy) (Same.refl I) ok rep_int⟩
    · exact h.elim
  · exact h.elim
theorem i_sum : ImpC K (rSum K) cSum := by
  intro xs vs I S F H P Q ok r h q
  unfold cSum at h
  split at h
  · split at h
    · rename_i ns e
      obtain ⟨v, rfl, rv⟩ := r.inv1
      obtain ⟨a, rfl, hs⟩ := lstInts ok rv e
      exact ⟨a, ns, rfl, hs, q _ _ _ _ _ h (Same.refl I) ok rep_int⟩
    · exact h.elim
  · exact h.elim
theorem i_any : ImpC K (rAny K) cAny := by
  intro xs vs I S F H P Q ok r h q
  unfold cAny at h
  split at h
  · split at h
    · rename_i ns e
      obtain ⟨v, rfl, rv⟩ := r.inv1
      obtain ⟨a, rfl, hs⟩ := lstBools ok rv e
      exact ⟨a, ns, rfl, hs, q _ _ _ _ _ h (Same.refl I) ok rep_bl⟩
    · exact h.elim
  · exact h.elim
theorem i_all : ImpC K (rAll K) cAll := by
  intro xs vs I S F H P Q ok r h q
  unfold cAll at h
  split at h
  · split at h
    · rename_i ns e
      obtain ⟨v, rfl, rv⟩ := r.inv1
      obtain ⟨a, rfl, hs⟩ := lstBools ok rv e
      exact ⟨a, ns, rfl, hs, q _ _ _ _ _ h (Same.refl I) ok rep_bl⟩
    · exact h.elim
  · exact h.elim
theorem i_int : ImpC K (fun xs H Q => (∃ i, xs = [.int i] ∧ Q (.int i) H) ∨ ∃ k, xs = [.bl k] ∧ Q (.int (if k then 1 else 0)) H) cInt := by
  intro xs vs I S F H P Q ok r h q
  unfold cInt at h
  split at h
  · obtain ⟨v, rfl, rv⟩ := r.inv1
    cases rv.int_of
    exact .inl ⟨_, rfl, q _ _ _ _ _ h (Same.refl I) ok rep_int⟩
  · obtain ⟨v, rfl, rv⟩ := r.inv1
    cases rv.bl_of
    exact .inr ⟨_, rfl, q _ _ _ _ _ h (Same.refl I) ok rep_int⟩
  · exact h.elim
theorem i_len : ImpC K (fun xs H Q => (∃ p ys, xs = [.ref p] ∧ (SqL K H p ys ∨ SqT K H p ys) ∧ Q (.int ys.length) H) ∨ ∃ z, xs = [.str z] ∧ z.length ≤ sizeLine ∧ Q (.int z.length) H) cLen := by
  intro xs vs I S F H P Q ok r h q
  unfold cLen at h
  split at h
  · obtain ⟨v, rfl, rv⟩ := r.inv1
    cases rv.str_of
    exact .inr ⟨_, rfl, line5 h.1, q _ _ _ _ _ h.2 (Same.refl I) ok rep_int⟩
  · split at h
    · rename_i ds e
      obtain ⟨v, rfl, rv⟩ := r.inv1
      obtain ⟨a, xs, rfl, hs, rl⟩ := seq_sq ok rv e
      exact .inl ⟨a, xs, rfl, hs, by rw [rl.len]; exact q _ _ _ _ _ h (Same.refl I) ok rep_int⟩
    · exact h.elim
  · exact h.elim
theorem i_list : ImpC K (fun xs H Q => ∃ p ys, xs = [.ref p] ∧ (SqL K H p ys ∨ SqT K H p ys) ∧ ∀ l, H l = none → Q (.ref l) (upd H l (.lst ys))) cList := by
  intro xs vs I S F H P Q ok r h q
  unfold cList at h
  split at h
  · split at h
    · rename_i ds e
      obtain ⟨v, rfl, rv⟩ := r.inv1
      obtain ⟨a, xs, rfl, hs, rl⟩ := seq_sq ok rv e
      exact ⟨a, xs, rfl, hs, fun l hl => q _ _ _ _ _ h (same_new (ok.freshI hl)) (ok.newI hl) (rep_new_lst (ok.freshI hl) rl)⟩
    · exact h.elim
  · exact h.elim
theorem i_listM : ImpC K (fun xs H Q => ∃ p ys, xs = [.ref p] ∧ (SqL K H p ys ∨ SqT K H p ys) ∧ ∀ l, H l = none → Q (.ref l) (upd H l (.lst ys))) cListM := by
  intro xs vs I S F H P Q ok r h q
  unfold cListM at h
  split at h
  · split at h
    · rename_i ds e
      obtain ⟨v, rfl, rv⟩ := r.inv1
      obtain ⟨a, xs, rfl, hs, rl⟩ := seq_sq ok rv e
      exact ⟨a, xs, rfl, hs, fun l hl => q _ _ _ _ _ (h l (ok.freshS hl)) (Same.refl I) (ok.newM hl rl) (by simp only [Rep])⟩
    · exact h.elim
  · exact h.elim
theorem i_tuple : ImpC K (fun xs H Q => ∃ p ys, xs = [.ref p] ∧ ((SqL K H p ys ∧ ∀ l, H l = none → Q (.ref l) (upd H l (.tup ys))) ∨ (SqT K H p ys ∧ Q (.ref p) H))) cTuple := by
  intro xs vs I S F H P Q ok r h q
  unfold cTuple at h
  split at h
  · rename_i x
    split at h
    · rename_i ds e
      obtain ⟨v, rfl, rv⟩ := r.inv1
      cases x with
      | tup es =>
        simp only [seqOf, Option.some.injEq] at e; subst e
        obtain ⟨a, xs, rfl, hs, rl⟩ := tup_sq ok rv
        exact ⟨a, xs, rfl, .inr ⟨hs, q _ _ _ _ _ h (Same.refl I) ok rv⟩⟩
      | _ =>
        simp only [seqOf] at e
        obtain ⟨a, xs, rfl, hs, rl⟩ := lst_sq ok rv e
        exact ⟨a, xs, rfl, .inl ⟨hs, fun l hl => q _ _ _ _ _ h (same_new (ok.freshI hl)) (ok.newI hl) (rep_new_tup (ok.freshI hl) rl)⟩⟩
    · exact h.elim
  · exact h.elim
/-! isinstance -/
def tyName (S : Store) : D → Option String
  | .non => some "NoneType"
  | .bl _ => some "bool"
  | .int _ => some "int"
  | .str _ => some "str"
  | .lst _ => some "list"
  | .tup _ => some "tuple"
  | .obj a => match S a with
    | some (.lst _) => some "list"
    | some (.dK _) => some "dict"
    | _ => none
  | _ => none
def isTy (m n : String) : Bool := m == n || (m == "bool" && n == "int")
def knownTy (n : String) : Bool := n == "bool" || n == "int" || n == "str" || n == "list" || n == "tuple" || n == "dict"
theorem kit_isTy : ∀ m ∈ ["NoneType", "bool", "int", "str", "list", "tuple", "dict"], ∀ n ∈ ["bool", "int", "str", "list", "tuple", "dict"], kitB m n = some (isTy m n) := by decide +kernel
theorem tyName_in {S : Store} {x : D} {m : String} (h : tyName S x = some m) : m ∈ ["NoneType", "bool", "int", "str", "list", "tuple", "dict"] := by
  unfold tyName at h
  split at h <;> first | (cases h; done) | skip
  all_goals try (simp only [Option.some.injEq] at h; subst h; decide)
  split at h <;> first | (cases h; done) | skip
  all_goals (simp only [Option.some.injEq] at h; subst h; decide)
theorem known_in {n : String} (h : knownTy n = true) : n ∈ ["bool", "int", "str", "list", "tuple", "dict"] := by
  unfold knownTy at h
  simp only [Bool.or_eq_true, beq_iff_eq] at h
  rcases h with ((((h | h) | h) | h) | h) | h <;> simp [h]
theorem ty_x {I F H : Hp} {S : Store} (ok : Ok K I S F H) {x : D} {v : V} {m : String} (r : Rep K I x v) (h : tyName S x = some m) : TyX K H v (.type m) := by
  cases x with
  | non => cases r.non_of; simp only [tyName, Option.some.injEq] at h; subst h; exact .base .non
  | bl b => cases r.bl_of; simp only [tyName, Option.some.injEq] at h; subst h; exact .base (.bl b)
  | int b => cases r.int_of; simp only [tyName, Option.some.injEq] at h; subst h; exact .base (.int b)
  | str b => cases r.str_of; simp only [tyName, Option.some.injEq] at h; subst h; exact .base (.str b)
  | lst ds =>
    obtain ⟨a, xs, rfl, e, _⟩ := r.lst_of
    simp only [tyName, Option.some.injEq] at h; subst h; exact .base (.lst (ok.i _ _ e))
  | ext ds => simp [tyName] at h
  | ty n => simp [tyName] at h
  | tup ds =>
    obtain ⟨a, xs, rfl, e, _⟩ := tup_sq ok r
    simp only [tyName, Option.some.injEq] at h; subst h
    rcases e with (e | ⟨o, e⟩) | ⟨o, its, n, e, c, _⟩
    · exact .base (.tup e)
    · exact .fTuple e
    · exact .kTuple e c
  | obj a =>
    cases r.obj_of
    simp only [tyName] at h
    split at h
    · rename_i ds e
      simp only [Option.some.injEq] at h; subst h
      obtain ⟨_, xs, q, _⟩ := ok.s a _ e
      exact .base (.lst q)
    · rename_i ds e
      simp only [Option.some.injEq] at h; subst h
      obtain ⟨_, xs, q, _⟩ := ok.s a _ e
      exact .base (.dK q)
    · cases h
def tys : List D → Option (List String)
  | [] => some []
  | .ty n :: r => if knownTy n = true then (tys r).map (n :: ·) else none
  | _ => none
def cIsi : DC := fun xs S P => match xs with
  | [x, .ty n] => match tyName S x with
    | some m => knownTy n = true ∧ P (.bl (isTy m n)) S
    | none => False
  | [x, .tup cs] => match tyName S x, tys cs with
    | some m, some ns => P (.bl (ns.any fun n => isTy m n)) S
    | _, _ => False
  | _ => False
theorem tys_rep {I : Hp} {m : String} (hm : m ∈ ["NoneType", "bool", "int", "str", "list", "tuple", "dict"]) : ∀ {cs : List D} {vs : List V} {ns : List String}, RepL K I cs vs → tys cs = some ns →
    ∃ us : List Value, Paired ClsV vs us ∧ PySem.W.kitAny K (.type m) us = some (ns.any fun n => isTy m n)
  | [], vs, ns, r, h => by
    simp only [RepL] at r
    simp only [tys, Option.some.injEq] at h
    subst r h
    exact ⟨[], .nil, kitAny_nil⟩
  | d :: cs, vs, ns, r, h => by
    simp only [RepL] at r
    obtain ⟨v, r', rfl, h1, h2⟩ := r
    cases d with
    | ty n =>
      simp only [tys] at h
      split at h
      · rename_i hk
        cases e : tys cs with
        | none => rw [e] at h; cases h
        | some ms =>
          rw [e] at h
          simp only [Option.map_some, Option.some.injEq] at h
          subst h
          obtain ⟨us, p, q⟩ := tys_rep hm h2 e
          simp only [Rep] at h1
          subst h1
          refine ⟨.type n :: us, .cons (.ty n) p, kitAny_cons (b := isTy m n) (kit_ty (kit_isTy m hm n (known_in hk))) (fun e => ?_) (fun e => ?_)⟩
          · simp [e, q]
          · simp [e]
      · cases h
    | _ => simp [tys] at h
theorem i_isi : ImpC K (fun xs H Q => rIsi K xs H Q ∨ rIsiT K xs H Q ∨ rIsiK K xs H Q) cIsi := by
  intro xs vs I S F H P Q ok r h q
  unfold cIsi at h
  split at h
  · rename_i x n
    split at h
    · rename_i m e
      obtain ⟨v, w, rfl, rv, rw⟩ := r.inv2
      simp only [Rep] at rw
      subst rw
      exact .inl ⟨v, .ty n, .type m, .type n, isTy m n, rfl, .ty n, ty_x ok rv e, kit_ty (kit_isTy m (tyName_in e) n (known_in h.1)), q _ _ _ _ _ h.2 (Same.refl I) ok rep_bl⟩
    · exact h.elim
  · rename_i x cs
    split at h
    · rename_i m ns e1 e2
      obtain ⟨v, w, rfl, rv, rw⟩ := r.inv2
      obtain ⟨a, ys, rfl, hs, rl⟩ := rw.tup_of
      obtain ⟨us, p, hk⟩ := tys_rep (tyName_in e1) rl e2
      rcases hs with hs | ⟨o, its, n, lk, oc, od, _, vl⟩
      · exact .inr (.inl ⟨v, a, ys, .type m, us, _, rfl, ok.i _ _ hs, p, ty_x ok rv e1, hk, q _ _ _ _ _ h (Same.refl I) ok rep_bl⟩)
      · have eu := ClsV.all p vl
        obtain ⟨c1, d1, t1, sl1⟩ := o
        simp only at oc od
        subst oc od
        refine .inr (.inr ⟨v, a, d1, us, n, sl1, .type m, _, rfl, ?_, ty_x ok rv e1, hk, q _ _ _ _ _ h (Same.refl I) ok rep_bl⟩)
        rw [lk, ← eu]
    · exact h.elim
  · exact h.elim
end
end DL

namespace DL
open PySem PySem.Spec PyProof.Rows L2

/-! ### built-ins by name -/
theorem b_abs : bootBuiltins "abs" = some (.builtin "abs") := by decide +kernel
theorem b_max : bootBuiltins "max" = some (.builtin "max") := by decide +kernel
theorem b_min : bootBuiltins "min" = some (.builtin "min") := by decide +kernel
theorem b_len : bootBuiltins "len" = some (.builtin "len") := by decide +kernel
theorem b_sum : bootBuiltins "sum" = some (.builtin "sum") := by decide +kernel
theorem b_any : bootBuiltins "any" = some (.builtin "any") := by decide +kernel
theorem b_all : bootBuiltins "all" = some (.builtin "all") := by decide +kernel
theorem b_isi : bootBuiltins "isinstance" = some (.builtin "isinstance") := by decide +kernel
theorem b_int : bootBuiltins "int" = some (.type "int") := by decide +kernel
theorem b_bool : bootBuiltins "bool" = some (.type "bool") := by decide +kernel
theorem b_str : bootBuiltins "str" = some (.type "str") := by decide +kernel
theorem b_list : bootBuiltins "list" = some (.type "list") := by decide +kernel
theorem b_tuple : bootBuiltins "tuple" = some (.type "tuple") := by decide +kernel
theorem b_dict : bootBuiltins "dict" = some (.type "dict") := by decide +kernel
section
variable {X : Cx} {pos p : Pos} {a b : Expr} {da db : DE} {es : List Expr} {ds : DA}
theorem je_abs (hm : X.mg "abs" = none) (ha : JA X [a] ds) (hg : Gl X "abs" := by rfl) (hs : starEach [a] X.env = [(false, eval a X.env)] := by rfl) : JE X (.Call (.Name "abs" p) [a] [] pos) (dCB cAbs ds) := je_callB call_abs i_abs hg hm b_abs ha (hs := hs) (hpl := by rfl)
theorem je_max2 (hm : X.mg "max" = none) (ha : JA X [a, b] ds) (hc : X.calm = true := by rfl) (hg : Gl X "max" := by rfl) (hs : starEach [a, b] X.env = (false, eval a X.env) :: starEach [b] X.env := by rfl) (hpl : (backTo pos (starEach [b] X.env)).any (·.1) = false := by rfl) : JE X (.Call (.Name "max" p) [a, b] [] pos) (dCB cMax2 ds) := je_callB (call_max2 hc) i_max2 hg hm b_max ha (hs := hs) (hpl := hpl)
theorem je_min2 (hm : X.mg "min" = none) (ha : JA X [a, b] ds) (hc : X.calm = true := by rfl) (hg : Gl X "min" := by rfl) (hs : starEach [a, b] X.env = (false, eval a X.env) :: starEach [b] X.env := by rfl) (hpl : (backTo pos (starEach [b] X.env)).any (·.1) = false := by rfl) : JE X (.Call (.Name "min" p) [a, b] [] pos) (dCB cMin2 ds) := je_callB (call_min2 hc) i_min2 hg hm b_min ha (hs := hs) (hpl := hpl)
theorem je_maxL (hm : X.mg "max" = none) (ha : JA X [a] ds) (hc : X.calm = true := by rfl) (hg : Gl X "max" := by rfl) (hs : starEach [a] X.env = [(false, eval a X.env)] := by rfl) : JE X (.Call (.Name "max" p) [a] [] pos) (dCB cMaxL ds) := je_callB (cr_max hc) i_maxL hg hm b_max ha (hs := hs) (hpl := by rfl)
theorem je_minL (hm : X.mg "min" = none) (ha : JA X [a] ds) (hc : X.calm = true := by rfl) (hg : Gl X "min" := by rfl) (hs : starEach [a] X.env = [(false, eval a X.env)] := by rfl) : JE X (.Call (.Name "min" p) [a] [] pos) (dCB cMinL ds) := je_callB (cr_min hc) i_minL hg hm b_min ha (hs := hs) (hpl := by rfl)
theorem je_sum (hm : X.mg "sum" = none) (ha : JA X [a] ds) (hc : X.calm = true := by rfl) (hg : Gl X "sum" := by rfl) (hs : starEach [a] X.env = [(false, eval a X.env)] := by rfl) : JE X (.Call (.Name "sum" p) [a] [] pos) (dCB cSum ds) := je_callB (cr_sum hc) i_sum hg hm b_sum ha (hs := hs) (hpl := by rfl)
theorem je_any (hm : X.mg "any" = none) (ha : JA X [a] ds) (hc : X.calm = true := by rfl) (hg : Gl X "any" := by rfl) (hs : starEach [a] X.env = [(false, eval a X.env)] := by rfl) : JE X (.Call (.Name "any" p) [a] [] pos) (dCB cAny ds) := je_callB (cr_any hc) i_any hg hm b_any ha (hs := hs) (hpl := by rfl)
theorem je_all (hm : X.mg "all" = none) (ha : JA X [a] ds) (hc : X.calm = true := by rfl) (hg : Gl X "all" := by rfl) (hs : starEach [a] X.env = [(false, eval a X.env)] := by rfl) : JE X (.Call (.Name "all" p) [a] [] pos) (dCB cAll ds) := je_callB (cr_all hc) i_all hg hm b_all ha (hs := hs) (hpl := by rfl)
theorem je_len (hm : X.mg "len" = none) (ha : JA X [a] ds) (hg : Gl X "len" := by rfl) (hs : starEach [a] X.env = [(false, eval a X.env)] := by rfl) : JE X (.Call (.Name "len" p) [a] [] pos) (dCB cLen ds) := je_callB (call_len_seq.or call_len_str) i_len hg hm b_len ha (hs := hs) (hpl := by rfl)
theorem je_isi (hm : X.mg "isinstance" = none) (ha : JA X [a, b] ds) (hg : Gl X "isinstance" := by rfl) (hs : starEach [a, b] X.env = (false, eval a X.env) :: starEach [b] X.env := by rfl) (hpl : (backTo pos (starEach [b] X.env)).any (·.1) = false := by rfl) : JE X (.Call (.Name "isinstance" p) [a, b] [] pos) (dCB cIsi ds) := je_callB (call_isi.or (call_isiT.or call_isiK)) i_isi hg hm b_isi ha (hs := hs) (hpl := hpl)
theorem je_intC (hm : X.mg "int" = none) (ha : JA X [a] ds) (hg : Gl X "int" := by rfl) (hs : starEach [a] X.env = [(false, eval a X.env)] := by rfl) : JE X (.Call (.Name "int" p) [a] [] pos) (dCB cInt ds) := je_callTy call_int1 i_int hg hm b_int ha (hs := hs) (hpl := by rfl)
theorem je_listC (hm : X.mg "list" = none) (ha : JA X [a] ds) (hg : Gl X "list" := by rfl) (hs : starEach [a] X.env = [(false, eval a X.env)] := by rfl) : JE X (.Call (.Name "list" p) [a] [] pos) (dCB cList ds) := je_callTy call_list_of i_list hg hm b_list ha (hs := hs) (hpl := by rfl)
theorem je_listCM (hm : X.mg "list" = none) (ha : JA X [a] ds) (hg : Gl X "list" := by rfl) (hs : starEach [a] X.env = [(false, eval a X.env)] := by rfl) : JE X (.Call (.Name "list" p) [a] [] pos) (dCB cListM ds) := je_callTy call_list_of i_listM hg hm b_list ha (hs := hs) (hpl := by rfl)
theorem je_tupC (hm : X.mg "tuple" = none) (ha : JA X [a] ds) (hg : Gl X "tuple" := by rfl) (hs : starEach [a] X.env = [(false, eval a X.env)] := by rfl) : JE X (.Call (.Name "tuple" p) [a] [] pos) (dCB cTuple ds) := je_callTy call_tuple_of i_tuple hg hm b_tuple ha (hs := hs) (hpl := by rfl)
theorem je_tyInt (hm : X.mg "int" = none) (hg : Gl X "int" := by rfl) : JE X (.Name "int" p) (dC (.ty "int")) := je_ty hg hm b_int
theorem je_tyBool (hm : X.mg "bool" = none) (hg : Gl X "bool" := by rfl) : JE X (.Name "bool" p) (dC (.ty "bool")) := je_ty hg hm b_bool
theorem je_tyStr (hm : X.mg "str" = none) (hg : Gl X "str" := by rfl) : JE X (.Name "str" p) (dC (.ty "str")) := je_ty hg hm b_str
theorem je_tyList (hm : X.mg "list" = none) (hg : Gl X "list" := by rfl) : JE X (.Name "list" p) (dC (.ty "list")) := je_ty hg hm b_list
theorem je_tyTuple (hm : X.mg "tuple" = none) (hg : Gl X "tuple" := by rfl) : JE X (.Name "tuple" p) (dC (.ty "tuple")) := je_ty hg hm b_tuple
theorem je_tyDict (hm : X.mg "dict" = none) (hg : Gl X "dict" := by rfl) : JE X (.Name "dict" p) (dC (.ty "dict")) := je_ty hg hm b_dict
end

/-! ### what is walked -/
/-- a list that may change, walked, is to stay -/
def pinOf (S : Store) : D → Option (Store → Prop)
  | .obj l => some fun S' => S' l = S l
  | _ => none
def dItSeq (d : DE) : DI := fun ρ S P => d ρ S fun x S1 => match seqOf S1 x with
  | some ds => P ds (pinOf S1 x) S1
  | none => False
def rng (lo : Int) (n : Nat) : List D := (List.range n).map fun (i : Nat) => .int (lo + (i : Int))
theorem rng_len (lo : Int) (n : Nat) : (rng lo n).length = n := by simp [rng]
theorem rng_get {lo : Int} {n i : Nat} {d : D} (h : (rng lo n)[i]? = some d) : i < n ∧ d = .int (lo + (i : Int)) := by
  unfold rng at h
  rw [List.getElem?_map] at h
  by_cases hi : i < n
  · rw [List.getElem?_range hi] at h
    cases h
    exact ⟨hi, rfl⟩
  · rw [List.getElem?_eq_none (by simpa using hi)] at h; cases h
def dRng1 (a : DA) : DI := fun ρ S P => a ρ S fun xs S1 => match xs with
  | [.int j] => -(2 ^ 62) ≤ j ∧ j < 2 ^ 62 ∧ P (rng 0 j.toNat) none S1
  | _ => False
def dRng2 (a : DA) : DI := fun ρ S P => a ρ S fun xs S1 => match xs with
  | [.int i, .int j] => (-(2 ^ 62) ≤ i ∧ i < 2 ^ 62 ∧ -(2 ^ 62) ≤ j ∧ j < 2 ^ 62) ∧ P (rng i (j - i).toNat) none S1
  | _ => False
def rngC (lo c : Int) (n : Nat) : List D := (List.range n).map fun (i : Nat) => .int (lo + (i : Int) * c)
def dRng3 (a : DA) : DI := fun ρ S P => a ρ S fun xs S1 => match xs with
  | [.int i, .int j, .int c] => ∃ n, RgC i j c n ∧ P (rngC i c n) none S1
  | _ => False
def zipD (as bs : List D) : List D := List.zipWith (fun a b => .tup [a, b]) as bs
section
variable {X : Cx} {pos p : Pos} {tg a b c : Expr} {da db : DE} {es : List Expr} {ds : DA}
/-- a list or a tuple -/
theorem pi_seq {l : Expr} {tl : TE} (hl : PE X l tl) : PI X tg l (fun σ H R => tl σ H fun x H1 => ∃ a, x = .ref a ∧ (((∃ xs, SqL X.K H1 a xs) ∧ R (Itl X.K a) H1) ∨ ((∃ xs, SqT X.K H1 a xs) ∧ R (Itt X.K a) H1))) := by
  refine ⟨fun pins s σ H R I h => ?_⟩
  refine thn (hl.run pins s σ H _ I h) fun v s1 ⟨x, H1, I1, r1, q1⟩ => ?_
  obtain ⟨a, e, q1⟩ := q1
  subst e
  cases r1
  rcases q1 with ⟨⟨xs, hq⟩, q⟩ | ⟨⟨xs, hq⟩, q⟩
  · obtain ⟨its, rv, p, hz⟩ := I1.list hq
    refine wpAny_pyIter_list p.isList ?_
    refine ⟨s1.heap.objs.size, [s1.heap.objs.size], _, _, H1, rfl, I1.kept (t' := s1.toks) fun b o e => Heap.get?_push_of_some _ e, turn_list a _, ⟨_, Heap.get?_push_size _ rfl, rfl, rfl⟩, fun b hb => ?_, q⟩
    have e : b = s1.heap.objs.size := by simpa using hb
    subst e
    exact I1.fpOk (Nat.le_refl _) (I1.hok.fresh (Nat.le_refl _))
  · obtain ⟨its, rv, p, hz⟩ := I1.tuple hq
    refine wpAny_pyIter_tuple (show s1.heap.IsTuple a its.toArray from p) ?_
    refine ⟨s1.heap.objs.size, [s1.heap.objs.size], _, _, H1, rfl, I1.kept (t' := s1.toks) fun b o e => Heap.get?_push_of_some _ e, turn_tuple a _, ⟨_, Heap.get?_push_size _ rfl, rfl, rfl⟩, fun b hb => ?_, q⟩
    have e : b = s1.heap.objs.size := by simpa using hb
    subst e
    exact I1.fpOk (Nat.le_refl _) (I1.hok.fresh (Nat.le_refl _))
theorem itl_ok {K : PySem.W.Frag} {I : Hp} {a : Addr} {ds : List D} {pin : Option (Store → Prop)} (hs : ∀ I2 S F H, Same I I2 → Ok K I2 S F H → PinOk pin S → ∃ xs, SqL K H a xs ∧ RepL K I2 ds xs) : ItOk K I (Itl K a) ds pin where
  go I2 S F H e ok pk i d hd := by
    obtain ⟨xs, h2, rl⟩ := hs I2 S F H e ok pk
    obtain ⟨v, e1, r1⟩ := rl.get hd
    refine ⟨⟨xs, v, h2, e1⟩, fun x H' hy => ?_⟩
    obtain ⟨rfl, hy⟩ := hy
    have := hy xs h2
    rw [e1] at this
    cases this
    exact ⟨I2, Same.refl _, ok, r1⟩
  stop I2 S F H e ok pk i hi := by
    obtain ⟨xs, h2, rl⟩ := hs I2 S F H e ok pk
    exact ⟨xs, h2, by rw [rl.len]; exact Nat.le_of_eq hi.symm⟩
theorem itt_ok {K : PySem.W.Frag} {I : Hp} {a : Addr} {ds : List D} {pin : Option (Store → Prop)} (hs : ∀ I2 S F H, Same I I2 → Ok K I2 S F H → PinOk pin S → ∃ xs, SqT K H a xs ∧ RepL K I2 ds xs) : ItOk K I (Itt K a) ds pin where
  go I2 S F H e ok pk i d hd := by
    obtain ⟨xs, h2, rl⟩ := hs I2 S F H e ok pk
    obtain ⟨v, e1, r1⟩ := rl.get hd
    refine ⟨⟨xs, v, h2, e1⟩, fun x H' hy => ?_⟩
    obtain ⟨rfl, hy⟩ := hy
    have := hy xs h2
    rw [e1] at this
    cases this
    exact ⟨I2, Same.refl _, ok, r1⟩
  stop I2 S F H e ok pk i hi := by
    obtain ⟨xs, h2, rl⟩ := hs I2 S F H e ok pk
    exact ⟨xs, h2, by rw [rl.len]; exact Nat.le_of_eq hi.symm⟩
/-- a list (b false) or a tuple (b true) -/
def Sq (b : Bool) (K : PySem.W.Frag) (H : Hp) (a : Addr) (xs : List V) : Prop := match b with | true => SqT K H a xs | false => SqL K H a xs
theorem src_sq {K : PySem.W.Frag} {I F H : Hp} {S : Store} {x : D} {v : V} {ds : List D} (ok : Ok K I S F H) (r : Rep K I x v) (h : seqOf S x = some ds) :
    ∃ b a, v = .ref a ∧ ∀ I2 S2 F2 H2, Same I I2 → Ok K I2 S2 F2 H2 → PinOk (pinOf S x) S2 → ∃ xs, Sq b K H2 a xs ∧ RepL K I2 ds xs := by
  cases x with
  | tup es =>
    simp only [seqOf, Option.some.injEq] at h; subst h
    obtain ⟨a, xs, rfl, hs, rl⟩ := r.tup_of
    exact ⟨true, a, rfl, fun I2 S2 F2 H2 e ok2 _ => ⟨xs, sqT_same ok2.same (tupAt_same e hs), rl.mono e⟩⟩
  | lst es =>
    simp only [seqOf, lstOf, Option.some.injEq] at h; subst h
    obtain ⟨a, xs, rfl, hs, rl⟩ := r.lst_of
    exact ⟨false, a, rfl, fun I2 S2 F2 H2 e ok2 _ => ⟨xs, ok2.same.seq (e.seq (.of hs)), rl.mono e⟩⟩
  | ext es =>
    simp only [seqOf, lstOf, Option.some.injEq] at h; subst h
    obtain ⟨a, xs, rfl, hs, rl⟩ := r.ext_of
    exact ⟨false, a, rfl, fun I2 S2 F2 H2 e ok2 _ => ⟨xs, ok2.same.seq (e.seq hs), rl.mono e⟩⟩
  | obj l =>
    simp only [seqOf, lstOf] at h
    cases e : S l with
    | none => simp [e] at h
    | some m =>
      cases m with
      | lst es =>
        simp [e] at h; subst h
        refine ⟨false, l, r.obj_of, fun I2 S2 F2 H2 e2 ok2 pk => ?_⟩
        have pk' : S2 l = S l := pk
        rw [e] at pk'
        obtain ⟨_, ys, q2, rl⟩ := ok2.s l _ pk'
        exact ⟨ys, .of q2, rl⟩
      | _ => simp [e] at h
  | _ => simp [seqOf, lstOf] at h
theorem pin_self (S : Store) (x : D) : PinOk (pinOf S x) S := by
  cases x <;> first | trivial | rfl
theorem ji_seq (h : JE X a da) : JI X tg a (dItSeq da) :=
  ji_of (pi_seq h) fun σ H R ⟨ρ, I, S, F, P, rs, ok, hh, q⟩ => ⟨ρ, I, S, F, _, rs, ok, hh, fun x S1 v I1 H1 h1 e1 ok1 r1 => by
    split at h1
    · rename_i ds hds
      obtain ⟨b, a, rfl, hs⟩ := src_sq ok1 r1 hds
      obtain ⟨xs, q1, _⟩ := hs _ _ _ _ (Same.refl _) ok1 (pin_self _ _)
      cases b
      · exact ⟨a, rfl, .inl ⟨⟨xs, q1⟩, q _ _ _ _ _ _ h1 e1 ok1 (itl_ok hs)⟩⟩
      · exact ⟨a, rfl, .inr ⟨⟨xs, q1⟩, q _ _ _ _ _ _ h1 e1 ok1 (itt_ok hs)⟩⟩
    · exact h1.elim⟩
theorem itr_ok {K : PySem.W.Frag} {I : Hp} (lo : Int) (n : Nat) : ItOk K I (Itr lo n) (rng lo n) none where
  go I2 S F H e ok _ i d hd := by
    obtain ⟨hi, rfl⟩ := rng_get hd
    exact ⟨hi, fun x H' ⟨e1, e2⟩ => ⟨I2, Same.refl _, by rw [e1]; exact ok, by rw [e2]; exact rep_int⟩⟩
  stop I2 S F H e ok _ i hi := by rw [rng_len] at hi; exact Nat.le_of_eq hi.symm
theorem ji_range1 (hm : X.mg "range" = none) (ha : JA X [a] ds) (hg : Gl X "range" := by rfl) (hs : starEach [a] X.env = [(false, eval a X.env)] := by rfl) : JI X tg (.Call (.Name "range" p) [a] [] pos) (dRng1 ds) :=
  ji_of (pi_range1 hg hm ha hs) fun σ H R ⟨ρ, I, S, F, P, rs, ok, hh, q⟩ => ⟨ρ, I, S, F, _, rs, ok, hh, fun xs S1 v I1 H1 h1 e1 ok1 r1 => by
    split at h1
    · obtain ⟨v, rfl, rv⟩ := r1.inv1
      cases rv.int_of
      exact ⟨_, rfl, h1.1, h1.2.1, q _ _ _ _ _ _ h1.2.2 e1 ok1 (itr_ok _ _)⟩
    · exact h1.elim⟩
theorem ji_range2 (hm : X.mg "range" = none) (ha : JA X [a, b] ds) (hg : Gl X "range" := by rfl) (hs : starEach [a, b] X.env = [(false, eval a X.env), (false, eval b X.env)] := by rfl) (hs2 : starEach [b] X.env = [(false, eval b X.env)] := by rfl) : JI X tg (.Call (.Name "range" p) [a, b] [] pos) (dRng2 ds) :=
  ji_of (pi_range2 hg hm ha hs hs2) fun σ H R ⟨ρ, I, S, F, P, rs, ok, hh, q⟩ => ⟨ρ, I, S, F, _, rs, ok, hh, fun xs S1 v I1 H1 h1 e1 ok1 r1 => by
    split at h1
    · obtain ⟨v, w, rfl, rv, rw⟩ := r1.inv2
      cases rv.int_of; cases rw.int_of
      exact ⟨_, _, rfl, h1.1, q _ _ _ _ _ _ h1.2 e1 ok1 (itr_ok _ _)⟩
    · exact h1.elim⟩
theorem rngC_len (lo c : Int) (n : Nat) : (rngC lo c n).length = n := by simp [rngC]
theorem itc_ok {K : PySem.W.Frag} {I : Hp} (lo c : Int) (n : Nat) : ItOk K I (Itc lo c n) (rngC lo c n) none where
  go I2 S F H e ok _ i d hd := by
    unfold rngC at hd
    rw [List.getElem?_map] at hd
    by_cases hi : i < n
    · rw [List.getElem?_range hi] at hd
      cases hd
      exact ⟨hi, fun x H' ⟨e1, e2⟩ => ⟨I2, Same.refl _, by rw [e1]; exact ok, by rw [e2]; exact rep_int⟩⟩
    · rw [List.getElem?_eq_none (by simpa using hi)] at hd; cases hd
  stop I2 S F H e ok _ i hi := by rw [rngC_len] at hi; exact Nat.le_of_eq hi.symm
theorem ji_range3 (hm : X.mg "range" = none) (ha : JA X [a, b, c] ds) (hg : Gl X "range" := by rfl) (hs : starEach [a, b, c] X.env = (false, eval a X.env) :: starEach [b, c] X.env := by rfl) (hpl : (backTo pos (starEach [b, c] X.env)).any (·.1) = false := by rfl) : JI X tg (.Call (.Name "range" p) [a, b, c] [] pos) (dRng3 ds) :=
  ji_of (pi_range3 hg hm ha hs hpl) fun σ H R ⟨ρ, I, S, F, P, rs, ok, hh, q⟩ => ⟨ρ, I, S, F, _, rs, ok, hh, fun xs S1 v I1 H1 h1 e1 ok1 r1 => by
    split at h1
    · obtain ⟨v, w, u, rfl, rv, rw, ru⟩ := r1.inv3
      cases rv.int_of; cases rw.int_of; cases ru.int_of
      obtain ⟨n, hr, h1⟩ := h1
      exact ⟨_, _, _, n, rfl, hr, q _ _ _ _ _ _ h1 e1 ok1 (itc_ok _ _ _)⟩
    · exact h1.elim⟩
theorem rep_tup2 {K : PySem.W.Frag} {I : Hp} {T : Addr} {x y : V} {d e : D} (n : I T = none) (h1 : Rep K I d x) (h2 : Rep K I e y) : Rep K (upd I T (.tup [x, y])) (.tup [d, e]) (.ref T) := rep_new_tup n (RepL.cons h1 (RepL.one h2))
end

/-! ### changes -/
section
variable {X : Cx} {pos p apos : Pos} {tg a b c o i : Expr} {da db d1 d2 : DE} {es : List Expr} {ds : DA}
def dAppend (a b : DE) : DE := fun ρ S P => a ρ S fun x S1 => match x with
  | .obj l => ∃ es, S1 l = some (.lst es) ∧ b ρ S1 fun y S2 => ∃ ds, S2 l = some (.lst ds) ∧ ds.length < 100000 ∧ P .non (supd S2 l (.lst (ds ++ [y])))
  | _ => False
theorem je_append (ha : JE X o da) (hb : JE X a db) (hbase : attributeBase o "append" X.env (eval o X.env) = eval o X.env := by rfl) (hs0 : starEach [a] X.env = [(false, eval a X.env)] := by rfl)
    (hfew : ((backTo pos (starEach [a] X.env)).all (fun x => !x.1) && (backToKw pos (keywordEach [] X.env)).all (fun x => x.1.isSome)
      && decide ([a].length + ([] : List Keyword).length + (if ([] : List Keyword).isEmpty then 0 else 1) < 30)) = true := by rfl)
    (hline : (apos.endLine == pos.line) = true := by rfl) : JE X (.Call (.Attribute o "append" apos) [a] [] pos) (dAppend da db) :=
  je_of (pe_bm PySem.F.plainAttrs_list PySem.F.slot_list_append PySem.F.type_list_append mt_append ha (pa_cons hb pa_nil hs0) hbase hfew hline (hs := hs0) (hplain := by rfl)) fun σ H Q ⟨ρ, I, S, F, P, rs, ok, hh, q⟩ =>
    ⟨ρ, I, S, F, _, rs, ok, hh, fun x S1 v I1 H1 h1 e1 ok1 r1 => by
      cases x with
      | obj l =>
        obtain ⟨es, e2, h2⟩ := h1
        obtain ⟨_, ys, q2, _⟩ := ok1.s l _ e2
        cases r1.obj_of
        refine ⟨.inl ⟨rfl, ys, .of q2⟩, ρ, I1, S1, F, _, rs.mono e1, ok1, h2, fun y S2 w I2 H2 h3 e3 ok2 r2 => ?_⟩
        obtain ⟨ds, e4, hl, h4⟩ := h3
        obtain ⟨_, zs, q4, rl⟩ := ok2.s l _ e4
        refine ⟨l, zs, w, rfl, rfl, q4, ?_, q _ _ _ _ _ h4 (e1.trans e3) (ok2.writeL e4 (rl.app (RepL.one r2))) rep_non⟩
        rw [rl.len]
        exact Nat.lt_of_lt_of_le hl (by decide)
      | _ => exact h1.elim⟩
/-- o[i] = e -/
def dSetIx (de d1 d2 : DE) : DS := fun DD ρ S => de ρ S fun x S1 => d1 ρ S1 fun o S2 => d2 ρ S2 fun i S3 => match o, i with
  | .obj l, .int k => match S3 l with
    | some (.lst ds) => match ixN ds.length k with
      | some j => DD.nx ρ (supd S3 l (.lst (ds.set j x)))
      | none => False
    | _ => False
  | _, _ => False
theorem js_setIx {e : Expr} {de : DE} (he : JE X e de) (ho : JE X o d1) (hi : JE X i d2)
    (ha : ∀ v, assign (.Subscript o i p) X.env v = (do
      let ov ← holding [v] (eval o X.env)
      let iv ← holding [v, ov] (eval i X.env)
      standAt p
      holding [v, ov, iv] (setItem ov iv v)
      release [v, ov, iv] []) := by intro _; rfl)
    (hs : swapsWithSole [.Subscript o i p] e pos.line X.env = pure false := by rfl) (hw : swappedStores [.Subscript o i p] e X.env = pure none := by rfl)
    (h1 : (assignEach [.Subscript o i p] X.env).map (·.2) = [assign (.Subscript o i p) X.env] := by rfl) : JS X (.Assign [.Subscript o i p] e pos) (dSetIx de d1 d2) :=
  js_of (ps_asg he (pg_sub ho hi set_list ha) hs hw h1) fun D σ H ⟨ρ, I, S, F, DD, rs, ok, h, q⟩ => ⟨ρ, I, S, F, _, rs, ok, h, fun x S1 v I1 H1 h1 e1 ok1 r1 =>
    ⟨ρ, I1, S1, F, _, rs.mono e1, ok1, h1, fun o S2 w I2 H2 h2 e2 ok2 r2 => ⟨ρ, I2, S2, F, _, rs.mono (e1.trans e2), ok2, h2, fun i S3 u I3 H3 h3 e3 ok3 r3 => by
      have rx := r1.mono (e2.trans e3)
      have ro := r2.mono e3
      split at h3
      · rename_i l k
        split at h3
        · rename_i ds eS
          split at h3
          · rename_i j ej
            obtain ⟨_, zs, q4, rl⟩ := ok3.s l _ eS
            cases ro.obj_of
            cases r3.int_of
            refine ⟨l, zs, k, j, rfl, rfl, q4, by rw [rl.len]; exact ej, q.nx _ _ _ _ _ h3 ((e1.trans e2).trans e3) (ok3.writeL eS (rl.set j rx)) (rs.mono ((e1.trans e2).trans e3))⟩
          · exact h3.elim
        · exact h3.elim
      · exact h3.elim⟩⟩⟩
/-! in-place operators on a name -/
theorem i_iadd {K : PySem.W.Frag} : ImpIp K (rI0 fun i j => .int (i + j)) (fun x y S P => match x, y with
  | .int i, .int j => P (.int (i + j)) S
  | _, _ => False) := by
  intro x y v w I S F H P Q ok rx ry h q
  split at h
  · cases rx.int_of; cases ry.int_of
    exact ⟨_, _, rfl, rfl, q _ _ _ _ _ h (Same.refl I) ok rep_int⟩
  · exact h.elim
theorem iop_mulA : OpR X (inplaceOp .Mult) (rI MulB fun i j => .int (i * j)) := opI fun i j _ _ _ _ _ hc q => by
  rcases hc with h | h
  · exact imul_int q h.ok
  · exact imul_int q h.ok
def dIAdd : D2 := fun x y S P => match x, y with
  | .int i, .int j => P (.int (i + j)) S
  | _, _ => False
def dIMul : D2 := fun x y S P => match x, y with
  | .int i, .int j => MulB i j ∧ P (.int (i * j)) S
  | _, _ => False
theorem i_imul {K : PySem.W.Frag} : ImpIp K (rI MulB fun i j => .int (i * j)) dIMul := by
  intro x y v w I S F H P Q ok rx ry h q
  unfold dIMul at h
  split at h
  · cases rx.int_of; cases ry.int_of
    exact ⟨_, _, rfl, rfl, h.1, q _ _ _ _ _ h.2 (Same.refl I) ok rep_int⟩
  · exact h.elim
variable {e : Expr} {de : DE} {x : Str} {pos' : Pos}
theorem js_iadd (i : Nat) (hN : X.N.Nodup) (hi : X.N[i]? = some x) (hx : Loc X.env.scope x) (he : JE X e de) (hf : X.fn x = true ∨ X.env.scope.names.lookup x = some .local := by first | exact .inl rfl | exact .inr rfl | assumption) : JS X (.AugAssign (.Name x pos') .Add e pos) (dAug i dIAdd de) := js_aug i hN hi hx he (ti := rI0 fun i j => .int (i + j)) iop_add i_iadd hf
theorem js_isub (i : Nat) (hN : X.N.Nodup) (hi : X.N[i]? = some x) (hx : Loc X.env.scope x) (he : JE X e de) (hf : X.fn x = true ∨ X.env.scope.names.lookup x = some .local := by first | exact .inl rfl | exact .inr rfl | assumption) : JS X (.AugAssign (.Name x pos') .Sub e pos) (dAug i dSub de) := js_aug i hN hi hx he (ti := rI0 fun i j => .int (i - j)) iop_sub i_sub hf
theorem js_imul (i : Nat) (hN : X.N.Nodup) (hi : X.N[i]? = some x) (hx : Loc X.env.scope x) (he : JE X e de) (hf : X.fn x = true ∨ X.env.scope.names.lookup x = some .local := by first | exact .inl rfl | exact .inr rfl | assumption) : JS X (.AugAssign (.Name x pos') .Mult e pos) (dAug i dIMul de) := js_aug i hN hi hx he (ti := rI MulB fun i j => .int (i * j)) iop_mulA i_imul hf
end
end DL

namespace DL
open PySem PySem.Spec PyProof.Rows L2

/-- the def called x keeps its promise sp, called with every argument by its place -/
structure Does (P : Program) (w : World) (K : PySem.W.Frag) (mg : Str → Option Value) (base : Heap) (k : Nat) (x : Str) (ps : List Str) (f : Addr) (fd : FuncData) (sp : DSp) : Prop where
  g : mg x = some (.ref f)
  kp : PySem.W.keepIn K (.ref f) = true
  b : Binds K fd ps []
  ok : FnD P w K mg base k f fd ps sp
section
variable {X : Cx} {pos p : Pos} {a : Expr} {es : List Expr} {ds : DA} {k j : Nat} {x : Str} {ps : List Str} {f : Addr} {fd : FuncData} {sp : DSp}
theorem je_f (G : Does X.prog X.w X.K X.mg X.base k x ps f fd sp) (hr : DG.RoomG j X.A) (ha : JA X (a :: es) ds) (hk : k ≤ j := by decide) (hg : Gl X x := by rfl) (hdb : (x == ("__debug__" : Str)) = false := by decide) (he : starEach (a :: es) X.env = (false, eval a X.env) :: starEach es X.env := by rfl)
    (hpl : (backTo pos (starEach es X.env)).any (·.1) = false := by rfl) : JE X (.Call (.Name x p) (a :: es) [] pos) (dCB sp ds) :=
  je_of (je_call G.ok (hr.mono hk) hg G.g G.kp G.b .nil (fun _ => RepL.nil) ha hdb he hpl) fun σ H Q ⟨ρ, I, S, F, P, rs, ok, h, q⟩ => ⟨ρ, I, S, F, P, rs, ok, by simpa only [dCall, dCB, List.append_nil] using h, q⟩
variable {ks : List Str} {n m : Nat} {perm : List Nat} {kws : List Keyword} {dk : DA}
theorem je_fk (G : Does X.prog X.w X.K X.mg X.base k x ps f fd sp) (hr : DG.RoomG j X.A) (hb : KBn X.K fd ps n ks (pick perm) (pick perm)) (ha : JA X (a :: es) ds) (hkw : JK X kws dk) (hl : ks.length = m := by rfl) (hk : k ≤ j := by decide) (hg : Gl X x := by rfl)
    (hall : (backToKw pos (keywordEach kws X.env)).all (·.1.isSome) = true := by rfl) (hks : (backToKw pos (keywordEach kws X.env)).filterMap (·.1) = ks := by rfl)
    (hdb : (x == ("__debug__" : Str)) = false := by decide) (he : starEach (a :: es) X.env = (false, eval a X.env) :: starEach es X.env := by rfl)
    (hpl : ((backTo pos (starEach (a :: es) X.env)).any (·.1) || (backToKw pos (keywordEach kws X.env)).any (·.1.isNone)) = false := by rfl) :
    JE X (.Call (.Name x p) (a :: es) kws pos) (dCallK sp n m perm ds dk) := hl ▸ je_callK G.ok (hr.mono hk) hg G.g G.kp hb ha hkw hall hks hdb he hpl
theorem je_fk0 (G : Does X.prog X.w X.K X.mg X.base k x ps f fd sp) (hr : DG.RoomG j X.A) (hb : KBn X.K fd ps 0 ks (pick perm) (pick perm)) (hkw : JK X kws dk) (hl : ks.length = m := by rfl) (hk : k ≤ j := by decide) (hg : Gl X x := by rfl)
    (hall : (backToKw pos (keywordEach kws X.env)).all (·.1.isSome) = true := by rfl) (hks : (backToKw pos (keywordEach kws X.env)).filterMap (·.1) = ks := by rfl)
    (hdb : (x == ("__debug__" : Str)) = false := by decide)
    (hpl : ((backTo pos (starEach [] X.env)).any (·.1) || (backToKw pos (keywordEach kws X.env)).any (·.1.isNone)) = false := by rfl) :
    JE X (.Call (.Name x p) [] kws pos) (dCallK sp 0 m perm dNil dk) := hl ▸ je_callK0 G.ok (hr.mono hk) hg G.g G.kp hb hkw hall hks hdb hpl
end
/-- a def with positional defaults: its body's promise -/
theorem fn_dD {P : Program} {w : World} {K : PySem.W.Frag} {mg : Str → Option Value} {base : Heap} {x qual : Str} {st : Stmt} {f : Addr} {fd : FuncData} {N ps : List Str} {k : Nat} {sp : DSp} {dvs : List V} {kws : List (Str × V)}
    (F : FunD K x qual (defArgs st) (defBody st) (defScope st) dvs kws f fd) (S : FnScope N ps (defScope st)) (len : ∀ ds S P, sp ds S P → ds.length = ps.length)
    (hbody : ∀ (cdv : Value) (A : Around) (outer : List Env) (s : Shared) (H : Hp) (E : XK), DG.RoomG k (A.deeper (envOfC qual (defScope st) s.heap.objs.size f cdv)) →
      ∃ d : DS, JSs (cxOf CX0 P w K mg base N qual (defScope st) f cdv A outer s H E).nox (defBody st) d ∧ ∀ ds S P, sp ds S P → d (dEnd P) (ds.map some ++ List.replicate (N.length - ds.length) none) S) : FnD P w K mg base (k + 1) f fd ps sp := by
  refine DG.funD_ok F S (fun vs H Q E h => ?_) (fun cdv A outer s H vs Q E hr h => ?_)
  · obtain ⟨ds, I, S, F, P, r, ok, h, q⟩ := h
    rw [r.len]
    exact len _ _ _ h
  · obtain ⟨ds, I, S', F', P', r, ok, h, q⟩ := h
    obtain ⟨d, h1, h2⟩ := hbody cdv A outer s H E hr
    refine ⟨_, h1.nox, _, I, S', F', _, repS_start r, ok, h2 ds S' P' h, ⟨?_, q, ?_, ?_⟩⟩
    · intro ρ S2 σ I2 H2 p e2 ok2 _
      exact q _ _ _ _ _ p e2 ok2 rep_non
    · intro ρ S2 σ I2 H2 p e2 ok2 _
      exact p.elim
    · intro ρ S2 σ I2 H2 p e2 ok2 _
      exact p.elim

/-! ### chains -/
section
variable {X : Cx} {pos : Pos} {a b c : Expr} {da db dc : DE} {op op' : CmpOp} {r r' : R2} {o o' : D2}
def dChainR (o o' : D2) (da db dc : DE) : DE := fun ρ S P => da ρ S fun x S1 => db ρ S1 fun y S2 => o x y S2 fun z S3 => match z with
  | .bl k => if k = true then dc ρ S3 fun u S4 => o' y u S4 P else P (.bl false) S3
  | _ => False
theorem up_chain {K : PySem.W.Frag} (i : Imp2 K r o) (i' : Imp2 K r' o') : ∀ σ H Q, upE K (dChainR o o' da db dc) σ H Q → tChain r r' (upE K da) (upE K db) (upE K dc) σ H Q := fun σ H Q ⟨ρ, I, S, F, P, rs, ok, h, q⟩ =>
  ⟨ρ, I, S, F, _, rs, ok, h, fun x S1 v I1 H1 h1 e1 ok1 r1 => ⟨ρ, I1, S1, F, _, rs.mono e1, ok1, h1, fun y S2 w I2 H2 h2 e2 ok2 r2 =>
    i x y v w I2 S2 F H2 _ _ ok2 (r1.mono e2) r2 h2 fun z S3 u I3 H3 h3 e3 ok3 r3 => by
      cases z with
      | bl k =>
        refine ⟨k, r3.bl_of, ?_⟩
        cases k with
        | true =>
          simp only [reduceIte] at h3 ⊢
          exact ⟨ρ, I3, S3, F, _, rs.mono ((e1.trans e2).trans e3), ok3, h3, fun u S4 t I4 H4 h4 e4 ok4 r4 => i' y u w t I4 S4 F H4 P Q ok4 (r2.mono (e3.trans e4)) r4 h4 (q.mono (((e1.trans e2).trans e3).trans e4))⟩
        | false =>
          simp only [Bool.false_eq_true, reduceIte] at h3 ⊢
          exact q _ _ _ _ _ h3 ((e1.trans e2).trans e3) ok3 rep_bl
      | _ => exact h3.elim⟩⟩
end
end DL

namespace DL
open PySem PySem.Spec PyProof.Rows L2

/-! ### the law's own promise -/
def sp_law : DSp := fun ds S P => ∃ ns : List Int, ds = [.ext (ns.map .int)] ∧ ns.length ≤ 63 ∧ ∀ S', P (.bl true) S'
def spLaw (K : PySem.W.Frag) : Sp := fun vs H Q _ => ∃ (a : Addr) (ns : List Int), vs = [.ref a] ∧ SqL K H a (ns.map V.int) ∧ ns.length ≤ 63 ∧ ∀ H', Q (.bl true) H'
theorem repL_ints {K : PySem.W.Frag} {I : Hp} : ∀ ns : List Int, RepL K I (ns.map .int) (ns.map V.int)
  | [] => RepL.nil
  | n :: ns => RepL.cons rep_int (repL_ints ns)
theorem law_up {K : PySem.W.Frag} : ∀ vs H Q E, spLaw K vs H Q E → upSp K sp_law vs H Q E := fun vs H Q E ⟨a, ns, e, hs, hl, q⟩ => by
  subst e
  refine ⟨[.ext (ns.map .int)], fun b => if b = a then H b else none, fun _ => none, fun _ => none, fun x _ => x = .bl true, RepL.one ?_, ⟨fun b o e => ?_, fun b m e => (nomatch e), fun b o e => (nomatch e)⟩, ⟨ns, rfl, hl, fun _ => rfl⟩, fun x S' v I' H' p _ _ r => ?_⟩
  · simp only [Rep]
    refine ⟨a, _, rfl, ?_, repL_ints ns⟩
    rcases hs with (h | ⟨o, h⟩) | h
    · exact .inl (.inl (by simpa using h))
    · exact .inl (.inr ⟨o, by simpa using h⟩)
    · exact .inr h
  · by_cases z : b = a
    · rw [if_pos z] at e; exact e
    · rw [if_neg z] at e; cases e
  · subst p
    rw [r.bl_of]
    exact q H'
theorem law_len : ∀ ds S P, sp_law ds S P → ds.length = 1 := fun ds S P ⟨ns, e, _⟩ => by rw [e]; rfl
/-- a def of one positional default or more: the whole is given -/
theorem funD_mk {K : PySem.W.Frag} {x qual : Str} {st : Stmt} {f : Addr} {oc : Value} {od an : Option Addr} {osl : Array (Option Value)} {dV kV doc pm cdv ct : Value} {dvs : List V} (l : K.lookup f = some ⟨oc, od, .func (PySem.W.fnOf x qual (defArgs st) (defBody st) (defScope st) dV kV doc pm an cdv ct), osl⟩)
    (c : PySem.W.codeIn K cdv qual = true) (k : PySem.W.keepIn K (.ref f) = true) (d : DflV K dV dvs) : FunD K x qual (defArgs st) (defBody st) (defScope st) dvs [] f (PySem.W.fnOf x qual (defArgs st) (defBody st) (defScope st) dV kV doc pm an cdv ct) :=
  ⟨⟨oc, od, dV, kV, doc, pm, an, cdv, ct, osl, rfl, l, c, d, .inl rfl⟩, k⟩
theorem bindsAll {K : PySem.W.Frag} {x qual : Str} {st : Stmt} {f : Addr} {fd : FuncData} {dvs : List V} {ps : List Str} (F : FunD K x qual (defArgs st) (defBody st) (defScope st) dvs [] f fd) (n : Nat) (hd : dvs ≠ []) (hn : n = ps.length)
    (h : ∀ (T : Addr) (kV doc pm : Value) (an : Option Addr) (cdv ct : Value) (us its : List Value), us.length = n → its.length = dvs.length →
      ∃ k, bindArgs (PySem.W.fnOf x qual (defArgs st) (defBody st) (defScope st) (.ref T) kV doc pm an cdv ct) ⟨us, []⟩ = seqItems? (.ref T) >>= k ∧ k (some its.toArray) = pure (ps.zip us)) : Binds K fd ps [] := by
  obtain ⟨ds, v, b⟩ := F.binds1 (ps := ps) n dvs.length hd (by omega) fun T kV doc pm an cdv ct us its h1 h2 => by
    obtain ⟨k, e1, e2⟩ := h T kV doc pm an cdv ct us its h1 h2
    refine ⟨k, e1, ?_⟩
    rw [e2, ← h2, List.drop_length, List.append_nil]
  rw [List.drop_length] at v
  cases v
  exact b
end DL

namespace DZ
open PySem PySem.Spec PyProof.Rows L2
open Sem (wp)
/-! zip(a, b, strict=True) -/
abbrev IsZipS (h : Heap) (z TI TO : Addr) (f0 : Value) : Prop :=
  h.get? z = some { cls := .type "zip", dict := none, data := .fields #[f0, .bool false, .bool true, .ref TI, .ref TO], slots := #[] }
section
variable {prog : Program} {w : World} {A : Around} {E : Value → Shared → Prop} {s : Shared}
theorem orEnd_item {it : Addr} {fp : List Addr} {n i : Nat} {P : Nat → Value → Prop} {St : Nat → Heap → Prop} {Q : Option Value → Shared → Prop} (D : Draws prog w A it fp n P St) (hi : i < n) (st : St i s.heap)
    (hQ : ∀ x h' tk, P i x → St (i + 1) h' → Heap.SameBut it s.heap h' → Q (some x) { s with heap := h', toks := tk }) : wpAny (model prog w) A (Builtin.SmallTypes.nextOrEnd (.ref it)) Q E s := by
  unfold Builtin.SmallTypes.nextOrEnd
  exact wpAny_bind (wpAny_attempt (D.item i _ _ _ hi st fun x h' tk a b c => wpAny_pure (hQ x h' tk a b c)))
theorem orEnd_done {it : Addr} {fp : List Addr} {n : Nat} {P : Nat → Value → Prop} {St : Nat → Heap → Prop} {Q : Option Value → Shared → Prop} (D : Draws prog w A it fp n P St) (st : St n s.heap)
    (hQ : ∀ h', Heap.ExtBut it s.heap h' → Q none { s with heap := h' }) : wpAny (model prog w) A (Builtin.SmallTypes.nextOrEnd (.ref it)) Q E s := by
  unfold Builtin.SmallTypes.nextOrEnd
  refine wpAny_bind (wpAny_attempt (D.done s _ _ st fun h' e hk he => ?_))
  obtain ⟨o, ho, hc⟩ := he
  exact wpAny_bind (wpAny_isInstance (T := "StopIteration") (b := true) ⟨o, ho, hc⟩ isSubtype_stop (wpAny_pure (hQ _ hk)))
theorem stop_raises {α : Type} {Q : α → Shared → Prop} (hh : A.handled = none)
    (hE : ∀ h' e, (∀ c o, s.heap.get? c = some o → h'.get? c = some o) → (∃ o, h'.get? e = some o ∧ o.cls = .type "StopIteration") → E (.ref e) { s with heap := h' }) : wpAny (model prog w) A (Builtin.SmallTypes.stopIteration : Sem α) Q E s := by
  unfold Builtin.SmallTypes.stopIteration
  refine wpAny_bind ?_
  simp only [newExc, newTuple]
  refine wpAny_bind (wpAny_newObj_type ?_ (by size_fits))
  refine wpAny_bind (m := firstArgMember _ _) (wpAny_of_eq (a := Value.none) (by first | rfl | (simp only [firstArgMember]; rfl)) ?_)
  refine wpAny_newObj_type ?_ (by size_fits)
  simp only [raiseNew]
  refine wpAny_bind (wpAny_handled ?_)
  rw [hh]
  refine wpAny_bind (wpAny_pure (wpAny_throw ?_))
  exact hE _ _ (fun c o e => Heap.get?_push_of_some _ (Heap.get?_push_of_some _ e)) ⟨_, Heap.get?_push_size _ rfl, rfl⟩
end
section
variable {prog : Program} {w : World} {A : Around} {E : Value → Shared → Prop} {s : Shared} {z TI TO i1 i2 : Addr} {fp1 fp2 : List Addr} {n1 n2 i : Nat} {P1 P2 : Nat → Value → Prop} {St1 St2 : Nat → Heap → Prop} {a1 a2 : Value}
theorem zS_next_item {Q : Value → Shared → Prop} (S : ZipSep2 z TI TO i1 i2 fp1 fp2) (D1 : Draws prog w A i1 fp1 n1 P1 St1) (D2 : Draws prog w A i2 fp2 n2 P2 St2)
    (hz : IsZipS s.heap z TI TO .none) (hTI : IsTupOf2 s.heap TI (.ref i1) (.ref i2)) (hTO : IsTupOf2 s.heap TO a1 a2) (st1 : St1 i s.heap) (st2 : St2 i s.heap) (hlt1 : i < n1) (hlt2 : i < n2)
    (hQ : ∀ x1 x2 h' tk, P1 i x1 → P2 i x2 → IsZipS h' z TI TO (rawInt s.heap.objs.size) → IsTupOf2 h' TO x1 x2 → St1 (i + 1) h' → St2 (i + 1) h' → IsTupOf2 h' s.heap.objs.size x1 x2 → h'.objs.size = s.heap.objs.size + 1 →
      (∀ c o, c ≠ z → c ≠ TO → c ≠ i1 → c ≠ i2 → s.heap.get? c = some o → h'.get? c = some o) → Q (.ref s.heap.objs.size) { s with heap := h', toks := tk }) :
    wpAny (model prog w) A (Builtin.«zip.__next__» ⟨[.ref z], []⟩) (fun fin s' => ∃ v, fin = .done (.ret v) ∧ Q v s') E s := by
  obtain ⟨hp, g, d, tk0, os⟩ := s
  show wpAny _ _ (field (.ref z) 2 >>= _) _ _ _
  refine wpAny_bind (wpAny_field hz rfl (x := .bool true) rfl ?_)
  show wpAny _ _ (field (.ref z) 3 >>= _) _ _ _
  refine wpAny_bind (wpAny_field hz rfl (x := .ref TI) rfl ?_)
  refine wpAny_bind (wpAny_seqItems hTI rfl ?_)
  show wpAny _ _ (Builtin.SmallTypes.ownedTupleIsFree (.ref z) >>= _) _ _ _
  refine wpAny_bind ?_
  unfold Builtin.SmallTypes.ownedTupleIsFree
  refine wpAny_bind (wpAny_field hz rfl (x := .none) rfl (wpAny_pure ?_))
  simp only [if_true]
  refine wpAny_bind (wpAny_rule ?_)
  refine wpAny_bind (wpAny_field hz rfl (x := .ref TO) rfl ?_)
  refine wpAny_bind (wpAny_setField_rec hz (by simp) fun g0 hz0 hs0 => ?_)
  replace hz0 : IsZipS g0 z TI TO .ellipsis := hz0
  replace hs0 : Heap.SameBut z hp g0 := hs0
  refine wpAny_bind ?_
  simp only [List.zipIdx_cons, List.zipIdx_nil, List.forIn_cons, List.forIn_nil]
  refine wpAny_bind (wpAny_bind (wpAny_onRaise ?_))
  show wpAny _ _ (Builtin.SmallTypes.nextOrEnd (.ref i1)) _ _ ⟨g0, g, d, tk0, os⟩
  refine orEnd_item (s := ⟨g0, g, d, tk0, os⟩) D1 hlt1 (D1.over st1 hs0 S.zf1) fun x1 p1 tk1 hx1 sn1 hp1 => ?_
  replace hp1 : Heap.SameBut i1 g0 p1 := hp1
  have hU1 : IsTupOf2 p1 TO a1 a2 := hp1.extBut _ _ S.Ti1 (hs0.extBut _ _ S.TOz hTO)
  refine wpAny_bind (wpAny_seqItems (s := ⟨p1, g, d, tk1, os⟩) hU1 rfl ?_)
  refine wpAny_bind (updateSeq_IsTupOf2 (s := ⟨p1, g, d, tk1, os⟩) hU1 fun g1 hT1 hs1 => ?_)
  replace hT1 : IsTupOf2 g1 TO x1 a2 := hT1
  replace hs1 : Heap.SameBut TO p1 g1 := hs1
  refine wpAny_bind (wpAny_letGo (wpAny_pure ?_))
  refine wpAny_bind (wpAny_bind (wpAny_onRaise ?_))
  show wpAny _ _ (Builtin.SmallTypes.nextOrEnd (.ref i2)) _ _ ⟨g1, g, d, tk1, os⟩
  refine orEnd_item (s := ⟨g1, g, d, tk1, os⟩) D2 hlt2 (D2.over (D2.over (D2.over st2 hs0 S.zf2) hp1 S.sep1_2) hs1 S.Tf2) fun x2 p2 tk2 hx2 sn2 hp2 => ?_
  replace hp2 : Heap.SameBut i2 g1 p2 := hp2
  have hU2 : IsTupOf2 p2 TO x1 a2 := hp2.extBut _ _ S.Ti2 hT1
  refine wpAny_bind (wpAny_seqItems (s := ⟨p2, g, d, tk2, os⟩) hU2 rfl ?_)
  refine wpAny_bind (updateSeq_IsTupOf2 (s := ⟨p2, g, d, tk2, os⟩) hU2 fun g2 hT2 hs2 => ?_)
  replace hT2 : IsTupOf2 g2 TO x1 x2 := hT2
  replace hs2 : Heap.SameBut TO p2 g2 := hs2
  refine wpAny_bind (wpAny_letGo (wpAny_pure (wpAny_pure ?_)))
  refine wpAny_bind (wpAny_seqItems (s := ⟨g2, g, d, tk2, os⟩) hT2 rfl ?_)
  refine wpAny_bind (wpAny_newTuple ?_)
  have hsz : g2.objs.size = hp.objs.size := by rw [hs2.1, hp2.1, hs1.1, hp1.1, hs0.1]
  have hzz : IsZipS g2 z TI TO .ellipsis := (hs2.extBut _ _ S.TOz.symm (hp2.extBut _ _ S.zi2 (hs1.extBut _ _ S.TOz.symm (hp1.extBut _ _ S.zi1 hz0))))
  have hkk : ∀ c o, c ≠ z → c ≠ TO → c ≠ i1 → c ≠ i2 → hp.get? c = some o → g2.get? c = some o := fun c o cz cT c1 c2 e =>
    (hs2.extBut _ _ cT (hp2.extBut _ _ c2 (hs1.extBut _ _ cT (hp1.extBut _ _ c1 (hs0.extBut _ _ cz e)))))
  have hj1 : St1 (i + 1) g2 := (D1.over (D1.over (D1.over sn1 hs1 S.Tf1) hp2 S.sep2_1) hs2 S.Tf1)
  have hj2 : St2 (i + 1) g2 := (D2.over sn2 hs2 S.Tf2)
  have hzlt : z < g2.objs.size := Heap.lt_size hzz
  show wpAny _ _ (Builtin.SmallTypes.ownedTupleHandOut (.ref z) (.ref g2.objs.size) >>= _) _ _ ⟨g2.push { cls := .type "tuple", data := .seq #[x1, x2] }, g, d, tk2, os⟩
  refine wpAny_bind ?_
  unfold Builtin.SmallTypes.ownedTupleHandOut
  have hz₆ : IsZipS (g2.push { cls := .type "tuple", data := .seq #[x1, x2] }) z TI TO .ellipsis := Heap.get?_push_of_some _ hzz
  refine wpAny_bind (wpAny_setField_rec hz₆ (by simp) fun h₇ hz₇ hs₇ => ?_)
  replace hz₇ : IsZipS h₇ z TI TO (rawInt g2.objs.size) := hz₇
  refine wpAny_setField_rec hz₇ (by simp) fun h₈ hz₈ hs₈ => ?_
  replace hz₈ : IsZipS h₈ z TI TO (rawInt g2.objs.size) := hz₈
  replace hs₇ : Heap.SameBut z (g2.push { cls := .type "tuple", data := .seq #[x1, x2] }) h₇ := hs₇
  replace hs₈ : Heap.SameBut z h₇ h₈ := hs₈
  have up : ∀ c o, c ≠ z → g2.get? c = some o → h₈.get? c = some o := fun c o c1 e => hs₈.extBut _ _ c1 (hs₇.extBut _ _ c1 (Heap.get?_push_of_some _ e))
  have hT₈ : IsTupOf2 h₈ g2.objs.size x1 x2 := hs₈.extBut _ _ (Nat.ne_of_gt hzlt) (hs₇.extBut _ _ (Nat.ne_of_gt hzlt) (Heap.get?_push_size _ rfl))
  have hz8 : h₈.objs.size = g2.objs.size + 1 := by rw [hs₈.1, hs₇.1, Heap.size_push]
  rw [hsz] at hz₈ hT₈ hz8
  refine wpAny_pure ⟨_, rfl, ?_⟩
  show Q (.ref g2.objs.size) ⟨h₈, g, d, tk2, os⟩
  rw [hsz]
  exact hQ x1 x2 h₈ tk2 hx1 hx2 hz₈ (up _ _ S.TOz hT2) (D1.frame _ _ _ hj1 fun b hb o e => up b o (fun q => S.zf1 (q ▸ hb)) e) (D2.frame _ _ _ hj2 fun b hb o e => up b o (fun q => S.zf2 (q ▸ hb)) e) hT₈ hz8 fun c o cz cT c1 c2 e => up c o cz (hkk c o cz cT c1 c2 e)

theorem zS_next_end {Q : Fin → Shared → Prop} (hh : A.handled = none) (S : ZipSep2 z TI TO i1 i2 fp1 fp2) (D1 : Draws prog w A i1 fp1 n1 P1 St1) (D2 : Draws prog w A i2 fp2 n2 P2 St2)
    (hz : IsZipS s.heap z TI TO .none) (hTI : IsTupOf2 s.heap TI (.ref i1) (.ref i2)) (hTO : IsTupOf2 s.heap TO a1 a2) (st1 : St1 n1 s.heap) (st2 : St2 n2 s.heap)
    (hE : ∀ h' tk e, (∀ c o, c ≠ z → c ≠ TO → c ≠ i1 → c ≠ i2 → s.heap.get? c = some o → h'.get? c = some o) → (∃ o, h'.get? e = some o ∧ o.cls = .type "StopIteration") → E (.ref e) { s with heap := h', toks := tk }) :
    wpAny (model prog w) A (Builtin.«zip.__next__» ⟨[.ref z], []⟩) Q E s := by
  obtain ⟨hp, g, d, tk0, os⟩ := s
  show wpAny _ _ (field (.ref z) 2 >>= _) _ _ _
  refine wpAny_bind (wpAny_field hz rfl (x := .bool true) rfl ?_)
  show wpAny _ _ (field (.ref z) 3 >>= _) _ _ _
  refine wpAny_bind (wpAny_field hz rfl (x := .ref TI) rfl ?_)
  refine wpAny_bind (wpAny_seqItems hTI rfl ?_)
  show wpAny _ _ (Builtin.SmallTypes.ownedTupleIsFree (.ref z) >>= _) _ _ _
  refine wpAny_bind ?_
  unfold Builtin.SmallTypes.ownedTupleIsFree
  refine wpAny_bind (wpAny_field hz rfl (x := .none) rfl (wpAny_pure ?_))
  simp only [if_true]
  refine wpAny_bind (wpAny_rule ?_)
  refine wpAny_bind (wpAny_field hz rfl (x := .ref TO) rfl ?_)
  refine wpAny_bind (wpAny_setField_rec hz (by simp) fun g0 hz0 hs0 => ?_)
  replace hz0 : IsZipS g0 z TI TO .ellipsis := hz0
  replace hs0 : Heap.SameBut z hp g0 := hs0
  refine wpAny_bind ?_
  simp only [List.zipIdx_cons, List.zipIdx_nil, List.forIn_cons, List.forIn_nil]
  refine wpAny_bind (wpAny_bind (wpAny_onRaise ?_))
  show wpAny _ _ (Builtin.SmallTypes.nextOrEnd (.ref i1)) _ _ ⟨g0, g, d, tk0, os⟩
  refine orEnd_done (s := ⟨g0, g, d, tk0, os⟩) D1 (D1.over st1 hs0 S.zf1) fun p1 hp1 => ?_
  replace hp1 : Heap.ExtBut i1 g0 p1 := hp1
  have hz1 : IsZipS p1 z TI TO .ellipsis := hp1 _ _ S.zi1 hz0
  refine wpAny_bind (wpAny_setField_rec (s := ⟨p1, g, d, tk0, os⟩) hz1 (by simp) fun g1 hz1' hs1 => ?_)
  replace hs1 : Heap.SameBut z p1 g1 := hs1
  refine wpAny_bind ?_
  show wpAny _ _ (((Builtin.SmallTypes.nextOrEnd (.ref i2) >>= _) >>= _) >>= _) _ _ ⟨g1, g, d, tk0, os⟩
  have st2' : St2 n2 g1 := D2.over (D2.frame _ _ _ (D2.over st2 hs0 S.zf2) fun b hb o e => hp1 b o (fun q => S.sep1_2 (q ▸ hb)) e) hs1 S.zf2
  refine wpAny_bind (wpAny_bind (wpAny_bind (orEnd_done (s := ⟨g1, g, d, tk0, os⟩) D2 st2' fun p2 hp2 => ?_)))
  replace hp2 : Heap.ExtBut i2 g1 p2 := hp2
  simp only [Option.isSome_none, Bool.false_eq_true, if_false]
  refine wpAny_pure (wpAny_pure (wpAny_bind (wpAny_rule ?_)))
  refine stop_raises hh fun h' e hk he => ?_
  exact hE h' tk0 e (fun c o cz cT c1 c2 x => hk _ _ (hp2 _ _ c2 (hs1.extBut _ _ cz (hp1 _ _ c1 (hs0.extBut _ _ cz x))))) he

theorem pyNext_zS_item {Q : Option Value → Shared → Prop} (S : ZipSep2 z TI TO i1 i2 fp1 fp2) (D1 : Draws prog w A.in1 i1 fp1 n1 P1 St1) (D2 : Draws prog w A.in1 i2 fp2 n2 P2 St2)
    (hz : IsZipS s.heap z TI TO .none) (hTI : IsTupOf2 s.heap TI (.ref i1) (.ref i2)) (hTO : IsTupOf2 s.heap TO a1 a2) (st1 : St1 i s.heap) (st2 : St2 i s.heap) (hlt1 : i < n1) (hlt2 : i < n2)
    (hQ : ∀ x1 x2 h' tk, P1 i x1 → P2 i x2 → IsZipS h' z TI TO (rawInt s.heap.objs.size) → IsTupOf2 h' TO x1 x2 → St1 (i + 1) h' → St2 (i + 1) h' → IsTupOf2 h' s.heap.objs.size x1 x2 → h'.objs.size = s.heap.objs.size + 1 →
      (∀ c o, c ≠ z → c ≠ TO → c ≠ i1 → c ≠ i2 → s.heap.get? c = some o → h'.get? c = some o) → Q (some (.ref s.heap.objs.size)) { s with heap := h', toks := tk }) :
    wpAny (model prog w) A (pyNext (.ref z)) Q E s := by
  have hT : s.TypeIs (.ref z) "zip" := ⟨_, hz, rfl⟩
  unfold pyNext
  exact wpAny_bind (wpAny_attempt (wpAny_callSpecial?_slot (name := Str.ofString "__next__") hT F.slot_zip_next
    (wpAny_call_entry F.slot_zip_next hT F.entry_zip_next
      (zS_next_item S D1 D2 hz hTI hTO st1 st2 hlt1 hlt2 fun x1 x2 h' tk y1 y2 b1 b2 d1 d2 b5 b6 b7 => wpAny_pure (hQ x1 x2 h' tk y1 y2 b1 b2 d1 d2 b5 b6 b7)) (F.args_zip_next_1 _))))
theorem pyNext_zS_end {Q : Option Value → Shared → Prop} (hh : A.in1.handled = none) (S : ZipSep2 z TI TO i1 i2 fp1 fp2) (D1 : Draws prog w A.in1 i1 fp1 n1 P1 St1) (D2 : Draws prog w A.in1 i2 fp2 n2 P2 St2)
    (hz : IsZipS s.heap z TI TO .none) (hTI : IsTupOf2 s.heap TI (.ref i1) (.ref i2)) (hTO : IsTupOf2 s.heap TO a1 a2) (st1 : St1 n1 s.heap) (st2 : St2 n2 s.heap)
    (hQ : ∀ h' tk, (∀ c o, c ≠ z → c ≠ TO → c ≠ i1 → c ≠ i2 → s.heap.get? c = some o → h'.get? c = some o) → Q none { s with heap := h', toks := tk }) : wpAny (model prog w) A (pyNext (.ref z)) Q E s := by
  have hT : s.TypeIs (.ref z) "zip" := ⟨_, hz, rfl⟩
  unfold pyNext
  refine wpAny_bind (wpAny_attempt (wpAny_callSpecial?_slot (name := Str.ofString "__next__") hT F.slot_zip_next
    (wpAny_call_entry F.slot_zip_next hT F.entry_zip_next (zS_next_end hh S D1 D2 hz hTI hTO st1 st2 fun h' tk e hk he => ?_) (F.args_zip_next_1 _))))
  obtain ⟨o, ho, hc⟩ := he
  refine wpAny_bind (wpAny_isInstance (T := "StopIteration") (b := true) ⟨o, ho, hc⟩ isSubtype_stop ?_)
  exact wpAny_pure (hQ _ _ hk)
theorem letGo_zS {elts : List Expr} {x1} {pos : Pos} {z TI TO T : Addr} {Q : Unit → Shared → Prop} (hz : IsZipS s.heap z TI TO (rawInt T))
    (hQ : ∀ h', IsZipS h' z TI TO .none → Heap.SameBut z s.heap h' → Q () { s with heap := h' }) :
    wpAny (model prog w) A (letOwnedTupleGo (.Tuple elts x1 pos) (.ref z) (.ref T)) Q E s := by
  unfold letOwnedTupleGo
  refine wpAny_bind (wpAny_load hz ?_)
  show wpAny _ _ (if (["enumerate", "zip", "dict_itemiterator", "dict_reverseitemiterator", "odict_iterator", "itertools.zip_longest", "itertools.pairwise"].contains "zip" &&
      (#[rawInt T, .bool false, .bool true, .ref TI, .ref TO] : Array Value)[0]? == some (rawInt T)) = true then _ else _) Q E s
  rw [if_pos (by simp)]
  refine wpAny_bind (wpAny_rule ?_)
  show wpAny _ _ (setField (.ref z) 0 .none) Q E s
  exact wpAny_setField_rec hz (by simp) fun h' hz' hs' => hQ h' hz' hs'
theorem pyIter_zS {z TI TO : Addr} {f0 : Value} {Q : Value → Shared → Prop} (hz : IsZipS s.heap z TI TO f0) (h : Q (.ref z) s) : wpAny (model prog w) A (pyIter (.ref z)) Q E s := by
  have hT : s.TypeIs (.ref z) "zip" := ⟨_, hz, rfl⟩
  refine wpAny_pyIter_slot hT F.slot_zip_iter (wpAny_call_entry F.slot_zip_iter hT F.entry_zip_iter ?_ (F.args_zip_iter_1 _))
  show wpAny _ _ (ret (.ref z)) _ _ s
  exact wpAny_pure ⟨_, rfl, "zip", _, hT, F.slot_zip_next.lookup, h⟩
end

/-! ### zip(v1, v2, strict=True) begins -/
theorem typeCall_zS (a b : Value) : checkTypeCall "zip" ⟨[a, b], [(Str.ofString "strict", .bool true)]⟩ = pure () := by kernel_rfl
theorem newCall_zS (a b : Value) : checkBuiltinCall "zip.__new__" ⟨[.type "zip", a, b], [(Str.ofString "strict", .bool true)]⟩ = pure () := by kernel_rfl
theorem args_object_init_zS (obj a b : Value) : argsOk "object.__init__" ⟨[obj, a, b], [(Str.ofString "strict", .bool true)]⟩ := by unfold argsOk; kernel_rfl
abbrev zsZ (h : Heap) (o1 o2 : Obj) : Heap := (gzO2 h o1 o2).push { cls := .type "zip", data := .fields #[.none, .bool false, .bool true, .ref ((h.push o1).push o2).objs.size, .ref (gzT2 h o1 o2).objs.size] }
theorem meets_zS {v1 v2 : Value} {o1 o2 : Obj} {H1 H2 : Heap → Prop} (B1 : Begins v1 o1 H1) (B2 : Begins v2 o2 H2) :
    Meets (Builtin.«zip.__new__» ⟨[.type "zip", v1, v2], [(Str.ofString "strict", .bool true)]⟩) (fun _ R s => (H1 s.heap ∧ H2 s.heap) ∧
      R (.ok (.ret (.ref (gzO2 s.heap o1 o2).objs.size))) { s with heap := zsZ s.heap o1 o2 }) :=
  .of_wp fun prog w A R s h => by
    obtain ⟨hp, g, d, tk, os⟩ := s; obtain ⟨⟨h1, h2⟩, h⟩ := h
    have hsub := sub_zip
    have e1 : (Str.ofString "strict" == ("strict" : Str)) = true := by decide +kernel
    have e2 : (Str.ofString "strict" != ("strict" : Str)) = false := by decide +kernel
    have q1 : ∀ {A' : Around} {E : Value → Shared → Prop} {Q : Value → Shared → Prop}, Q (.ref hp.objs.size) ⟨(hp.push o1), g, d, tk, os⟩ → wpAny (model prog w) A' (pyIter v1) Q E ⟨hp, g, d, tk, os⟩ :=
      fun q => B1.iter prog w _ _ ⟨hp, g, d, tk, os⟩ _ (B1.keeps _ _ h1 fun b o' e => e) q
    have q2 : ∀ {A' : Around} {E : Value → Shared → Prop} {Q : Value → Shared → Prop}, Q (.ref (hp.push o1).objs.size) ⟨((hp.push o1).push o2), g, d, tk, os⟩ → wpAny (model prog w) A' (pyIter v2) Q E ⟨(hp.push o1), g, d, tk, os⟩ :=
      fun q => B2.iter prog w _ _ ⟨(hp.push o1), g, d, tk, os⟩ _ (B2.keeps _ _ h2 fun b o' e => (Heap.get?_push_of_some _ e)) q
    wp_walk using q1, q2
    exact ⟨_, rfl, h⟩
end DZ
namespace DL
open PySem PySem.Spec PyProof.Rows L2 DZ
/-! ### zip of lists and tuples, in any mix, strict or not -/
def IterAt (b : Bool) (h : Heap) (it a : Addr) (i : Nat) : Prop := match b with | true => h.IsTupleIter it a i | false => h.IsListIter it a i
def SrcAt (b : Bool) (h : Heap) (a : Addr) (items : Array Value) : Prop := match b with | true => h.IsTuple a items | false => h.IsList a items
def iterOf (b : Bool) (a : Addr) : Obj := match b with | true => { cls := .type "tuple_iterator", data := .fields #[.ref a, .int 0 0] } | false => { cls := .type "list_iterator", data := .fields #[.ref a, .int 0 0] }
abbrev ZipAt (st : Bool) (h : Heap) (z TI TO : Addr) (f0 : Value) : Prop :=
  h.get? z = some { cls := .type "zip", dict := none, data := .fields #[f0, .bool false, .bool st, .ref TI, .ref TO], slots := #[] }
theorem draws_src {prog : Program} {w : World} {A : Around} (hh : A.handled = none) (b : Bool) (it a : Addr) (hne : a ≠ it) (items : Array Value) :
    Draws prog w A it [it, a] items.size (fun i v => items[i]? = some v) (fun i h => IterAt b h it a i ∧ SrcAt b h a items) := by
  cases b
  · exact .list hh it a hne items
  · exact .tuple hh it a hne items
theorem begins_src (b : Bool) (a : Addr) (items : Array Value) : Begins (.ref a) (iterOf b a) fun h => SrcAt b h a items := by
  cases b
  · exact begins_list a items
  · exact begins_tuple a items
theorem iterAt_new {b : Bool} {h : Heap} {it a : Addr} (e : h.get? it = some (iterOf b a)) : IterAt b h it a 0 := by
  cases b
  · exact ⟨_, e, rfl, rfl⟩
  · exact ⟨_, e, rfl, rfl⟩
theorem IterAt.live {b : Bool} {h : Heap} {it a : Addr} {i : Nat} (e : IterAt b h it a i) : ∃ o, h.get? it = some o := by
  cases b
  · obtain ⟨o, e, _⟩ := e; exact ⟨o, e⟩
  · obtain ⟨o, e, _⟩ := e; exact ⟨o, e⟩
theorem IterAt.noseq {b : Bool} {h : Heap} {it a : Addr} {i : Nat} (e : IterAt b h it a i) : ∃ o, h.get? it = some o ∧ ∀ v, o.data ≠ .cell v := by
  cases b
  · obtain ⟨o, e, _, d⟩ := e; exact ⟨o, e, fun v q => by rw [d] at q; cases q⟩
  · obtain ⟨o, e, _, d⟩ := e; exact ⟨o, e, fun v q => by rw [d] at q; cases q⟩
theorem IterAt.at {b : Bool} {h h' : Heap} {it a : Addr} {i : Nat} (e : IterAt b h it a i) (k : ∀ o, h.get? it = some o → h'.get? it = some o) : IterAt b h' it a i := by
  cases b
  · exact Heap.IsListIter.at e k
  · exact Heap.IsTupleIter.at e k
theorem inv_src {X : Cx} {pins : List (Addr × Obj)} {σ : L2.St} {H : Hp} {s : Shared} {b : Bool} {a : Addr} {xs : List V} (I : Inv X pins σ H s) (h : Sq b X.K H a xs) : ∃ its : List Value, Vals xs its ∧ SrcAt b s.heap a its.toArray := by
  cases b
  · obtain ⟨its, rv, p, _⟩ := I.list h
    exact ⟨its, rv, p.isList⟩
  · obtain ⟨its, rv, p, _⟩ := I.tuple h
    exact ⟨its, rv, p⟩
theorem inv_src_inj {X : Cx} {pins : List (Addr × Obj)} {σ : L2.St} {H : Hp} {s : Shared} {b : Bool} {a : Addr} {xs ys : List V} (I : Inv X pins σ H s) (h : Sq b X.K H a xs) (h' : Sq b X.K H a ys) : xs = ys := by
  cases b
  · exact I.list_inj h h'
  · exact I.tuple_inj h h'
theorem SrcAt.lt {b : Bool} {h : Heap} {a : Addr} {its : Array Value} (p : SrcAt b h a its) : a < h.objs.size := by
  cases b
  · obtain ⟨o, e, _⟩ := p; exact Heap.lt_size e
  · obtain ⟨o, e, _⟩ := p; exact Heap.lt_size e
theorem zipSep {z TI TO i1 i2 a b : Addr} (D : ZipApart z TI TO i1 i2 a b) : ZipSep2 z TI TO i1 i2 [i1, a] [i2, b] where
  TIz := D.TIz
  TOz := D.TOz
  TITO := D.TITO
  TIi1 := D.TIi1
  mem1 := by simp
  zf1 := by simp [D.i1z.symm, D.l1z.symm]
  Tf1 := by simp [D.TOi1, D.l1TO.symm]
  TIi2 := D.TIi2
  mem2 := by simp
  zf2 := by simp [D.i2z.symm, D.l2z.symm]
  Tf2 := by simp [D.TOi2, D.l2TO.symm]
  sep1_2 := by simp [D.i12, D.l2i1.symm]
  sep2_1 := by simp [D.i12.symm, D.l1i2.symm]
section
variable {prog : Program} {w : World} {A : Around} {E : Value → Shared → Prop} {s : Shared} {z TI TO i1 i2 : Addr} {fp1 fp2 : List Addr} {n1 n2 i : Nat} {P1 P2 : Nat → Value → Prop} {St1 St2 : Nat → Heap → Prop} {a1 a2 : Value}
theorem pyNext_zA_item (st : Bool) {Q : Option Value → Shared → Prop} (S : ZipSep2 z TI TO i1 i2 fp1 fp2) (D1 : Draws prog w A.in1 i1 fp1 n1 P1 St1) (D2 : Draws prog w A.in1 i2 fp2 n2 P2 St2)
    (hz : ZipAt st s.heap z TI TO .none) (hTI : IsTupOf2 s.heap TI (.ref i1) (.ref i2)) (hTO : IsTupOf2 s.heap TO a1 a2) (st1 : St1 i s.heap) (st2 : St2 i s.heap) (hlt1 : i < n1) (hlt2 : i < n2)
    (hQ : ∀ x1 x2 h' tk, P1 i x1 → P2 i x2 → ZipAt st h' z TI TO (rawInt s.heap.objs.size) → IsTupOf2 h' TO x1 x2 → St1 (i + 1) h' → St2 (i + 1) h' → IsTupOf2 h' s.heap.objs.size x1 x2 → h'.objs.size = s.heap.objs.size + 1 →
      (∀ c o, c ≠ z → c ≠ TO → c ≠ i1 → c ≠ i2 → s.heap.get? c = some o → h'.get? c = some o) → Q (some (.ref s.heap.objs.size)) { s with heap := h', toks := tk }) :
    wpAny (model prog w) A (pyNext (.ref z)) Q E s := by
  cases st
  · exact wpAny_pyNext_zipD2_item S D1 D2 hz hTI hTO st1 st2 hlt1 hlt2 hQ
  · exact pyNext_zS_item S D1 D2 hz hTI hTO st1 st2 hlt1 hlt2 hQ
theorem pyNext_zA_end (st : Bool) {Q : Option Value → Shared → Prop} (hh : A.in1.handled = none) (S : ZipSep2 z TI TO i1 i2 fp1 fp2) (D1 : Draws prog w A.in1 i1 fp1 n1 P1 St1) (D2 : Draws prog w A.in1 i2 fp2 n2 P2 St2)
    (hz : ZipAt st s.heap z TI TO .none) (hTI : IsTupOf2 s.heap TI (.ref i1) (.ref i2)) (hTO : IsTupOf2 s.heap TO a1 a2) (st1 : St1 i s.heap) (st2 : St2 i s.heap) (hle1 : i ≤ n1) (hle2 : i ≤ n2) (hend : i = n1 ∨ i = n2) (hst : st = true → i = n1 ∧ i = n2)
    (hQ : ∀ h' tk, (∀ c o, c ≠ z → c ≠ TO → c ≠ i1 → c ≠ i2 → s.heap.get? c = some o → h'.get? c = some o) → Q none { s with heap := h', toks := tk }) : wpAny (model prog w) A (pyNext (.ref z)) Q E s := by
  cases st
  · exact wpAny_pyNext_zipD2_end S D1 D2 hz hTI hTO st1 st2 hle1 hle2 hend hQ
  · obtain ⟨e1, e2⟩ := hst rfl
    exact pyNext_zS_end hh S D1 D2 hz hTI hTO (e1 ▸ st1) (e2 ▸ st2) hQ
theorem letGo_zA (st : Bool) {elts : List Expr} {x1} {pos : Pos} {z TI TO T : Addr} {Q : Unit → Shared → Prop} (hz : ZipAt st s.heap z TI TO (rawInt T))
    (hQ : ∀ h', ZipAt st h' z TI TO .none → Heap.SameBut z s.heap h' → Q () { s with heap := h' }) :
    wpAny (model prog w) A (letOwnedTupleGo (.Tuple elts x1 pos) (.ref z) (.ref T)) Q E s := by
  cases st
  · exact wpAny_letOwnedTupleGo_zip hz hQ
  · exact letGo_zS hz hQ
theorem pyIter_zA (st : Bool) {z TI TO : Addr} {f0 : Value} {Q : Value → Shared → Prop} (hz : ZipAt st s.heap z TI TO f0) (h : Q (.ref z) s) : wpAny (model prog w) A (pyIter (.ref z)) Q E s := by
  cases st
  · exact wpAny_pyIter_zip hz h
  · exact pyIter_zS hz h
end
/-- the lists and tuples at a and b as they stand at each turn, the items in new pairs -/
def ItZ (st b1 b2 : Bool) (K : PySem.W.Frag) (a b : Addr) : It :=
  ⟨fun i H => ∃ (xs ys : List V) (x y : V), Sq b1 K H a xs ∧ Sq b2 K H b ys ∧ xs[i]? = some x ∧ ys[i]? = some y,
    fun i H v H' => ∃ T x y, v = .ref T ∧ H T = none ∧ H' = upd H T (.tup [x, y]) ∧ (∀ xs, Sq b1 K H a xs → xs[i]? = some x) ∧ ∀ ys, Sq b2 K H b ys → ys[i]? = some y,
    fun i H => ∃ xs ys : List V, Sq b1 K H a xs ∧ Sq b2 K H b ys ∧ i ≤ xs.length ∧ i ≤ ys.length ∧ (i = xs.length ∨ i = ys.length) ∧ (st = true → i = xs.length ∧ i = ys.length)⟩
theorem turn_zA {st b1 b2 : Bool} {P : Program} {w : World} {K : PySem.W.Frag} {elts : List Expr} {kk : Nat} {tpos : Pos} {a b z TI TO i1 i2 : Addr} (D : ZipApart z TI TO i1 i2 a b) :
    Turn P w K (.Tuple elts kk tpos) (ItZ st b1 b2 K a b) [z, TI, TO, i1, i2] z (fun i h => ZipAt st h z TI TO .none ∧ IsPair h TI (.ref i1) (.ref i2) ∧ (∃ x y, IsPair h TO x y) ∧ IterAt b1 h i1 a i ∧ IterAt b2 h i2 b i) where
  mem := by simp
  obj := fun i h st c hc => by
    obtain ⟨hz, hTI, ⟨x, y, hTO⟩, h1, h2⟩ := st
    have e' : c = z ∨ c = TI ∨ c = TO ∨ c = i1 ∨ c = i2 := by simpa using hc
    rcases e' with q | q | q | q | q
    · rw [q]; exact ⟨_, hz, fun v q => nomatch q⟩
    · rw [q]; exact ⟨_, hTI, fun v q => nomatch q⟩
    · rw [q]; exact ⟨_, hTO, fun v q => nomatch q⟩
    · rw [q]
      cases b1
      · obtain ⟨o1, e1, _, d1⟩ := h1
        exact ⟨o1, e1, fun v q => by rw [d1] at q; cases q⟩
      · obtain ⟨o1, e1, _, d1⟩ := h1
        exact ⟨o1, e1, fun v q => by rw [d1] at q; cases q⟩
    · rw [q]
      cases b2
      · obtain ⟨o1, e1, _, d1⟩ := h2
        exact ⟨o1, e1, fun v q => by rw [d1] at q; cases q⟩
      · obtain ⟨o1, e1, _, d1⟩ := h2
        exact ⟨o1, e1, fun v q => by rw [d1] at q; cases q⟩
  keep := fun i h h' st k => by
    obtain ⟨hz, hTI, ⟨x, y, hTO⟩, h1, h2⟩ := st
    exact ⟨k z (by simp) _ hz, k TI (by simp) _ hTI, ⟨x, y, k TO (by simp) _ hTO⟩, h1.at fun o q => k i1 (by simp) o q, h2.at fun o q => k i2 (by simp) o q⟩
  item := by
    intro X hP hw hK hc i pins s σ H E I hf hst hg
    subst hP hw hK
    have hh1 : X.A.in1.handled = none := I.ok.hd hc
    obtain ⟨hz, hTI, ⟨x0, y0, hTO⟩, h1, h2⟩ := hst
    obtain ⟨xs, ys, x, y, hqx, hqy, hx, hy⟩ := hg
    obtain ⟨its, rv, p⟩ := inv_src I hqx
    obtain ⟨its2, rv2, p2⟩ := inv_src I hqy
    obtain ⟨u, hu, ru⟩ := rv.get hx
    obtain ⟨u2, hu2, ru2⟩ := rv2.get hy
    have hzl : z < s.heap.objs.size := Heap.lt_size hz
    have l1 : i < its.toArray.size := by
      have := (List.getElem?_eq_some_iff.mp hu).1
      simpa using this
    have l2 : i < its2.toArray.size := by
      have := (List.getElem?_eq_some_iff.mp hu2).1
      simpa using this
    refine pyNext_zA_item st (zipSep D) (draws_src hh1 b1 i1 a D.l1i1 its.toArray) (draws_src hh1 b2 i2 b D.l2i2 its2.toArray) hz hTI hTO ⟨h1, p⟩ ⟨h2, p2⟩ l1 l2 fun w1 w2 h' tk q1 q2 z' TO' h1' h2' hT hsz hk => ?_
    have ew1 : u = w1 := by rw [List.getElem?_toArray, hu] at q1; exact Option.some.inj q1
    have ew2 : u2 = w2 := by rw [List.getElem?_toArray, hu2] at q2; exact Option.some.inj q2
    subst ew1 ew2
    refine ⟨_, rfl, letGo_zA st (s := { s with heap := h', toks := tk }) z' fun h'' z'' sb => ?_⟩
    have hT2 : h''.get? s.heap.objs.size = some { cls := .type "tuple", data := .seq #[u, u2] } := (sb.2 _ (Nat.ne_of_gt hzl)).trans hT
    have new : ObjOk X.prog X.w (upd H s.heap.objs.size (.tup [x, y])) h'' s.heap.objs.size (.tup [x, y]) :=
      ⟨by show 2 ≤ sizeLine; decide, [u, u2], .cons ru (.cons ru2 .nil), ⟨_, hT2, rfl, _, rfl⟩⟩
    have I1 : Inv X pins σ (upd H s.heap.objs.size (.tup [x, y])) { s with heap := h'', toks := tk } :=
      I.turnedNew (t' := tk) (ch := [z, TI, TO, i1, i2]) (fun c o hb q => (sb.2 c (fun q' => hb (by simp [q']))).trans (hk c o (fun q' => hb (by simp [q'])) (fun q' => hb (by simp [q'])) (fun q' => hb (by simp [q'])) (fun q' => hb (by simp [q'])) q)) hf (Nat.le_refl _) new
    refine ⟨.ref s.heap.objs.size, _, I1, rfl, ⟨_, x, y, rfl, I.hok.fresh (Nat.le_refl _), rfl, fun l hl => by rw [inv_src_inj I hl hqx]; exact hx, fun l hl => by rw [inv_src_inj I hl hqy]; exact hy⟩, ⟨z'', ?_, ⟨u, u2, ?_⟩, ?_, ?_⟩, fun c hcm => ?_⟩
    · exact (sb.2 _ D.TIz).trans (hk _ _ D.TIz D.TITO D.TIi1 D.TIi2 hTI)
    · exact (sb.2 _ D.TOz).trans TO'
    · exact h1'.1.at fun o q => (sb.2 _ D.i1z).trans q
    · exact h2'.1.at fun o q => (sb.2 _ D.i2z).trans q
    · have hlt : c < s.heap.objs.size := by
        have e' : c = z ∨ c = TI ∨ c = TO ∨ c = i1 ∨ c = i2 := by simpa using hcm
        rcases e' with q | q | q | q | q
        · rw [q]; exact hzl
        · rw [q]; exact Heap.lt_size hTI
        · rw [q]; exact Heap.lt_size hTO
        · rw [q]; obtain ⟨_, e1⟩ := h1.live; exact Heap.lt_size e1
        · rw [q]; obtain ⟨_, e2⟩ := h2.live; exact Heap.lt_size e2
      rw [upd_ne (Nat.ne_of_lt hlt)]
      exact (hf c hcm).1
  done := by
    intro X hP hw hK hc i pins s σ H E I hf hst hg
    subst hP hw hK
    have hh1 : X.A.in1.handled = none := I.ok.hd hc
    obtain ⟨hz, hTI, ⟨x0, y0, hTO⟩, h1, h2⟩ := hst
    obtain ⟨xs, ys, hqx, hqy, hle1, hle2, hend, hs⟩ := hg
    obtain ⟨its, rv, p⟩ := inv_src I hqx
    obtain ⟨its2, rv2, p2⟩ := inv_src I hqy
    have l1 := rv.length
    have l2 := rv2.length
    refine pyNext_zA_end st hh1 (zipSep D) (draws_src hh1 b1 i1 a D.l1i1 its.toArray) (draws_src hh1 b2 i2 b D.l2i2 its2.toArray) hz hTI hTO ⟨h1, p⟩ ⟨h2, p2⟩ (by simp; omega) (by simp; omega) (by simp; omega) (fun e => by have := hs e; simp; omega) fun h' tk hk => ⟨rfl, I.turnedL (t' := tk) (ch := [z, TI, TO, i1, i2]) (fun c o hb q =>
      hk c o (fun q' => hb (by simp [q'])) (fun q' => hb (by simp [q'])) (fun q' => hb (by simp [q'])) (fun q' => hb (by simp [q'])) q) hf⟩
  self := fun A i s Q E st' h => pyIter_zA st st'.1 h
end DL
namespace DZ
open PySem PySem.Spec PyProof.Rows L2
section
variable {prog : Program} {w : World} {A : Around} {E : Value → Shared → Prop} {s : Shared}
/-- zip of 2, strict: its 5 new cells -/
theorem zS_begins2 {v1 v2 : Value} {o1 o2 : Obj} {H1 H2 : Heap → Prop} {Q : Value → Shared → Prop} (B1 : Begins v1 o1 H1) (B2 : Begins v2 o2 H2) (h1 : H1 s.heap) (h2 : H2 s.heap)
    (h : ∀ h', IsZipS h' (s.heap.objs.size + 4) (s.heap.objs.size + 2) (s.heap.objs.size + 3) .none → IsTupOf2 h' (s.heap.objs.size + 2) (.ref s.heap.objs.size) (.ref (s.heap.objs.size + 1)) →
      IsTupOf2 h' (s.heap.objs.size + 3) .none .none → h'.get? s.heap.objs.size = some o1 → h'.get? (s.heap.objs.size + 1) = some o2 → h'.objs.size = s.heap.objs.size + 5 →
      (∀ c o, s.heap.get? c = some o → h'.get? c = some o) → Q (.ref (s.heap.objs.size + 4)) { s with heap := h' }) :
    wpAny (model prog w) A (call (.type "zip") [v1, v2] [(Str.ofString "strict", .bool true)]) Q E s := by
  refine callType_newKw F.called_zip (by decide) (typeCall_zS _ _) (newCall_zS _ _) (fun obj => args_object_init_zS obj _ _) F.entry_zip_new
    (meets_zS B1 B2) ⟨⟨h1, h2⟩, ?_⟩
  have z1 : (s.heap.push o1).objs.size = s.heap.objs.size + 1 := by rw [Heap.size_push]
  have z2 : ((s.heap.push o1).push o2).objs.size = s.heap.objs.size + 2 := by rw [Heap.size_push, z1]
  have zT : (gzT2 s.heap o1 o2).objs.size = s.heap.objs.size + 3 := by rw [Heap.size_push, z2]
  have zO : (gzO2 s.heap o1 o2).objs.size = s.heap.objs.size + 4 := by rw [Heap.size_push, zT]
  have zZ : (zsZ s.heap o1 o2).objs.size = s.heap.objs.size + 5 := by rw [Heap.size_push, zO]
  have gZ : (zsZ s.heap o1 o2).get? (gzO2 s.heap o1 o2).objs.size = some { cls := .type "zip", data := .fields #[.none, .bool false, .bool true, .ref ((s.heap.push o1).push o2).objs.size, .ref (gzT2 s.heap o1 o2).objs.size] } := Heap.get?_push_size _ rfl
  have gO : (zsZ s.heap o1 o2).get? (gzT2 s.heap o1 o2).objs.size = some { cls := .type "tuple", data := .seq #[.none, .none] } := Heap.get?_push_of_some _ (Heap.get?_push_size _ rfl)
  have gT : (zsZ s.heap o1 o2).get? ((s.heap.push o1).push o2).objs.size = some { cls := .type "tuple", data := .seq #[.ref s.heap.objs.size, .ref (s.heap.push o1).objs.size] } := Heap.get?_push_of_some _ (Heap.get?_push_of_some _ (Heap.get?_push_size _ rfl))
  have g1 : (zsZ s.heap o1 o2).get? s.heap.objs.size = some o1 := Heap.get?_push_of_some _ (Heap.get?_push_of_some _ (Heap.get?_push_of_some _ (Heap.get?_push_of_some _ (Heap.get?_push_size _ B1.free))))
  have g2 : (zsZ s.heap o1 o2).get? (s.heap.push o1).objs.size = some o2 := Heap.get?_push_of_some _ (Heap.get?_push_of_some _ (Heap.get?_push_of_some _ (Heap.get?_push_size _ B2.free)))
  rw [zO, zT, z2] at gZ
  rw [zT] at gO
  rw [z2, z1] at gT
  rw [z1] at g2
  show _ ∧ _
  rw [zO]
  exact ⟨⟨_, gZ, rfl⟩, h _ gZ gT gO g1 g2 zZ fun c o e => Heap.get?_push_of_some _ (Heap.get?_push_of_some _ (Heap.get?_push_of_some _ (Heap.get?_push_of_some _ (Heap.get?_push_of_some _ e))))⟩
end
section
variable {M : Model} {A : Around} {E : Value → Shared → Prop} {s : Shared} {env : Env}
theorem callWith_type_kw {pos : Pos} {id : String} {e : Expr} {rest : List Expr} {kws : List Keyword} {Q : Value → Shared → Prop}
    (h : wpAny M A (spliced (backTo pos (starEach (e :: rest) env))) (fun vs s₁ => wpAny M A (evalAll ((backToKw pos (keywordEach kws env)).map (·.2)))
      (fun kvs s₂ => wpAny M A (call (.type id) vs (((backToKw pos (keywordEach kws env)).filterMap (·.1)).zip kvs)) Q E s₂) E s₁) E s)
    (he : backTo pos (starEach (e :: rest) env) = (false, eval e env) :: backTo pos (starEach rest env) := by rfl)
    (hplain : (backTo pos (starEach (e :: rest) env)).any (·.1) = false := by rfl)
    (hall : (backToKw pos (keywordEach kws env)).all (·.1.isSome) = true := by rfl)
    (hkw : (backToKw pos (keywordEach kws env)).any (·.1.isNone) = false := by rfl) :
    wpAny M A (callWith pos (.type id) [] (backTo pos (starEach (e :: rest) env)) (backToKw pos (keywordEach kws env))) Q E s := by
  rw [he] at h
  have h2 := evalArgs_kwB (f := .type id) (Q := fun a s₁ => wpAny M A (call (.type id) ([] ++ a.pos) a.kw) Q E s₁) hall h
  rw [← he] at h2
  unfold callWith
  refine wpAny_bind (wpAny_holding (wpAny_mono h2 (fun a s₁ h₁ => wpAny_bind (wpAny_standAt ?_)) fun _ _ x => x))
  simp only [hplain, hkw, Bool.or_false]
  refine wpAny_bind (wpAny_pure ?_)
  exact wpAny_bind (wpAny_mono h₁ (fun r s₂ hr => wpAny_bind (wpAny_holding (wpAny_point (wpAny_pure hr)))) fun _ _ x => x)
end
end DZ
namespace DL
open PySem PySem.Spec PyProof.Rows L2 DZ
def iZA (st : Bool) (K : PySem.W.Frag) (ta : TA) : TI := fun σ H R => ta σ H fun vs H1 => ∃ b1 b2 a b xs ys, vs = [.ref a, .ref b] ∧ Sq b1 K H1 a xs ∧ Sq b2 K H1 b ys ∧ R (ItZ st b1 b2 K a b) H1
section
variable {X : Cx} {e e2 k : Expr} {ta : TA} {p pos tpos kpos : Pos} {elts : List Expr} {kk : Nat}
theorem zA_of {st b1 b2 : Bool} {pins : List (Addr × Obj)} {σ : L2.St} {H1 : Hp} {s1 : Shared} {a b : Addr} {R : It → Hp → Prop} {h' : Heap} {its its2 : Array Value} (I1 : Inv X pins σ H1 s1) (p1 : SrcAt b1 s1.heap a its) (p2 : SrcAt b2 s1.heap b its2) (q : R (ItZ st b1 b2 X.K a b) H1)
    (hz : ZipAt st h' (s1.heap.objs.size + 4) (s1.heap.objs.size + 2) (s1.heap.objs.size + 3) .none) (hTI : IsTupOf2 h' (s1.heap.objs.size + 2) (.ref s1.heap.objs.size) (.ref (s1.heap.objs.size + 1))) (hTO : IsTupOf2 h' (s1.heap.objs.size + 3) .none .none)
    (g1 : h'.get? s1.heap.objs.size = some (iterOf b1 a)) (g2 : h'.get? (s1.heap.objs.size + 1) = some (iterOf b2 b)) (hk : ∀ c o, s1.heap.get? c = some o → h'.get? c = some o) :
    PIE X pins σ (.Tuple elts kk tpos) R (.ref (s1.heap.objs.size + 4)) { s1 with heap := h' } := by
  have I2 : Inv X pins σ H1 { s1 with heap := h' } := I1.kept (t' := s1.toks) hk
  have fresh5 : ∀ c, c ∈ [s1.heap.objs.size + 4, s1.heap.objs.size + 2, s1.heap.objs.size + 3, s1.heap.objs.size, s1.heap.objs.size + 1] → FpOk X pins H1 c := fun c hcm => by
    have e' : c = s1.heap.objs.size + 4 ∨ c = s1.heap.objs.size + 2 ∨ c = s1.heap.objs.size + 3 ∨ c = s1.heap.objs.size ∨ c = s1.heap.objs.size + 1 := by simpa using hcm
    have hle : s1.heap.objs.size ≤ c := by
      rcases e' with z | z | z | z | z
      · rw [z]; exact Nat.le_add_right _ _
      · rw [z]; exact Nat.le_add_right _ _
      · rw [z]; exact Nat.le_add_right _ _
      · rw [z]; exact Nat.le_refl _
      · rw [z]; exact Nat.le_add_right _ _
    exact I1.fpOk hle (I1.hok.fresh hle)
  exact ⟨s1.heap.objs.size + 4, [s1.heap.objs.size + 4, s1.heap.objs.size + 2, s1.heap.objs.size + 3, s1.heap.objs.size, s1.heap.objs.size + 1], _, _, H1, rfl, I2, turn_zA (PySem.W.ktu_apart s1.heap.objs.size a b p1.lt p2.lt), ⟨hz, hTI, ⟨_, _, hTO⟩, iterAt_new g1, iterAt_new g2⟩, fresh5, q⟩
theorem pi_zA0 (hg : Gl X "zip") (hm : X.mg "zip" = none) (ha : PA X [e, e2] ta)
    (hs : starEach [e, e2] X.env = (false, eval e X.env) :: starEach [e2] X.env := by rfl) (hpl : (backTo pos (starEach [e2] X.env)).any (·.1) = false := by rfl) :
    PI X (.Tuple elts kk tpos) (.Call (.Name "zip" p) [e, e2] [] pos) (iZA false X.K ta) := by
  refine ⟨fun pins s σ H R I h => ?_⟩
  refine Call_ (ld_blt I hg hm PyProof.Rows.boot_zip (PyProof.Rows.callWith_type1 (thn (ha.run pos pins s σ H _ I h) fun us s1 ⟨vs, H1, I1, r1, q1⟩ => ?_) hs hpl))
  obtain ⟨b1, b2, a, b, xs, ys, ex, hqx, hqy, q⟩ := q1
  subst ex
  cases r1 with
  | cons r rr =>
    cases rr with
    | cons r' rr =>
      cases rr
      cases r
      cases r'
      obtain ⟨its, rv, p1⟩ := inv_src I1 hqx
      obtain ⟨its2, rv2, p2⟩ := inv_src I1 hqy
      exact zip_begins2 (begins_src b1 a its.toArray) (begins_src b2 b its2.toArray) p1 p2 fun h' hz hTI hTO g1 g2 hsz hk => pyIter_zA false hz (zA_of I1 p1 p2 q hz hTI hTO g1 g2 hk)
theorem pi_zA1 (hg : Gl X "zip") (hm : X.mg "zip" = none) (ha : PA X [e, e2] ta) (ht : ∀ {E : Value → Shared → Prop} {s : Shared} {Q : Value → Shared → Prop}, Q (.bool true) s → wpAny (model X.prog X.w) X.A (eval k X.env) Q E s)
    (hs : starEach [e, e2] X.env = (false, eval e X.env) :: starEach [e2] X.env := by rfl) (hpl : (backTo pos (starEach [e2] X.env)).any (·.1) = false := by rfl) :
    PI X (.Tuple elts kk tpos) (.Call (.Name "zip" p) [e, e2] [⟨some (Str.ofString "strict"), k, kpos⟩] pos) (iZA true X.K ta) := by
  refine ⟨fun pins s σ H R I h => ?_⟩
  refine wpAny_Call_Name_kw (ld_blt I hg hm PyProof.Rows.boot_zip ?_)
  refine callWith_type_kw (thn (ha.run pos pins s σ H _ I h) fun us s1 ⟨vs, H1, I1, r1, q1⟩ => ?_) (by rw [hs]; rfl) (by rw [hs]; show (false || (backTo pos (starEach [e2] X.env)).any (·.1)) = false; rw [hpl]; rfl)
  refine PyProof.Rows.kws_cons (ht (PyProof.Rows.kws_nil ?_))
  obtain ⟨b1, b2, a, b, xs, ys, ex, hqx, hqy, q⟩ := q1
  subst ex
  cases r1 with
  | cons r rr =>
    cases rr with
    | cons r' rr =>
      cases rr
      cases r
      cases r'
      obtain ⟨its, rv, p1⟩ := inv_src I1 hqx
      obtain ⟨its2, rv2, p2⟩ := inv_src I1 hqy
      exact zS_begins2 (begins_src b1 a its.toArray) (begins_src b2 b its2.toArray) p1 p2 fun h' hz hTI hTO g1 g2 hsz hk => pyIter_zA true hz (zA_of I1 p1 p2 q hz hTI hTO g1 g2 hk)
end
/-! ### enumerate -/
theorem meets_enum1 {v : Value} {o : Obj} {H : Heap → Prop} (B : Begins v o H) :
    Meets (Builtin.«enumerate.__new__» ⟨[.type "enumerate", v], []⟩) (fun _ R s => H s.heap ∧
      R (.ok (.ret (.ref (s.heap.push o).objs.size))) { s with heap := (s.heap.push o).push { cls := .type "enumerate", data := .fields #[.none, .bool false, .ref s.heap.objs.size, rawInt 0, .none, .none] } }) :=
  .of_wp fun prog w A R s h => by
    obtain ⟨hp, g, d, tk, os⟩ := s; obtain ⟨h1, h⟩ := h
    have hsub := sub_enumerate
    have q1 : ∀ {A' : Around} {E : Value → Shared → Prop} {Q : Value → Shared → Prop}, Q (.ref hp.objs.size) ⟨hp.push o, g, d, tk, os⟩ → wpAny (model prog w) A' (pyIter v) Q E ⟨hp, g, d, tk, os⟩ :=
      fun q => B.iter prog w _ _ ⟨hp, g, d, tk, os⟩ _ h1 q
    wp_walk using q1
    refine wpAny_stack_any fun st => wpAny_pure ?_
    split
    · rename_i c _ _ _ _ _
      cases (c == Value.type "enumerate")
      · wp_walk using q1
        exact ⟨_, rfl, h⟩
      · wp_walk using q1
        exact ⟨_, rfl, h⟩
    · wp_walk using q1
      exact ⟨_, rfl, h⟩
theorem enum_begins1 {prog : Program} {w : World} {A : Around} {E : Value → Shared → Prop} {s : Shared} {v : Value} {o : Obj} {H : Heap → Prop} {Q : Value → Shared → Prop} (B : Begins v o H) (h1 : H s.heap)
    (h : ∀ h', IsEnum h' (s.heap.objs.size + 1) s.heap.objs.size 0 .none → h'.get? s.heap.objs.size = some o → h'.objs.size = s.heap.objs.size + 2 →
      (∀ b o, s.heap.get? b = some o → h'.get? b = some o) → Q (.ref (s.heap.objs.size + 1)) { s with heap := h' }) :
    wpAny (model prog w) A (call (.type "enumerate") [v]) Q E s := by
  refine callType_new F.called_enumerate (by decide) (F.typeCall_enumerate_1 _) (F.newCall_enumerate_1 _) (fun obj => F.args_object_init_2 obj _) F.entry_enumerate_new
    (meets_enum1 B) ⟨h1, ?_⟩
  have hz : (s.heap.push o).objs.size = s.heap.objs.size + 1 := Heap.size_push ..
  show _ ∧ _
  rw [hz]
  have he : IsEnum ((s.heap.push o).push { cls := .type "enumerate", data := .fields #[.none, .bool false, .ref s.heap.objs.size, rawInt 0, .none, .none] }) (s.heap.objs.size + 1) s.heap.objs.size 0 .none := by
    have := Heap.get?_push_size (s.heap.push o) (o := { cls := .type "enumerate", data := .fields #[.none, .bool false, .ref s.heap.objs.size, rawInt 0, .none, .none] }) rfl
    rw [hz] at this; exact this
  refine ⟨⟨_, he, rfl⟩, h _ he (Heap.get?_push_of_some _ (Heap.get?_push_size _ B.free)) (by rw [Heap.size_push, hz]) fun b o x => Heap.get?_push_of_some _ (Heap.get?_push_of_some _ x)⟩
/-- the list or tuple at a as it stands at each turn, counted from k -/
def ItE (b : Bool) (K : PySem.W.Frag) (k : Int) (a : Addr) : It :=
  ⟨fun i H => ∃ (xs : List V) (x : V), Sq b K H a xs ∧ xs[i]? = some x,
    fun i H v H' => ∃ T x, v = .ref T ∧ H T = none ∧ H' = upd H T (.tup [.int (k + (i : Int)), x]) ∧ ∀ xs, Sq b K H a xs → xs[i]? = some x,
    fun i H => ∃ xs : List V, Sq b K H a xs ∧ i = xs.length⟩
theorem turn_enA {b : Bool} {k : Int} {P : Program} {w : World} {K : PySem.W.Frag} {elts : List Expr} {kk : Nat} {tpos : Pos} {a e it : Addr} (hei : e ≠ it) (hae : a ≠ e) (hai : a ≠ it) :
    Turn P w K (.Tuple elts kk tpos) (ItE b K k a) [e, it] e (fun i h => (∃ old, IsEnum h e it (k + (i : Int)) old) ∧ IterAt b h it a i) where
  mem := by simp
  obj := fun i h st c hc => by
    obtain ⟨⟨old, he⟩, h1⟩ := st
    have e' : c = e ∨ c = it := by simpa using hc
    rcases e' with q | q
    · rw [q]; exact ⟨_, he, fun v q => nomatch q⟩
    · rw [q]; exact h1.noseq
  keep := fun i h h' st k => by
    obtain ⟨⟨old, he⟩, h1⟩ := st
    exact ⟨⟨old, k e (by simp) _ he⟩, h1.at fun o q => k it (by simp) o q⟩
  item := by
    intro X hP hw hK hc i pins s σ H E I hf st hg
    subst hP hw hK
    have hh1 : X.A.in1.handled = none := I.ok.hd hc
    obtain ⟨⟨old, he⟩, h1⟩ := st
    obtain ⟨xs, x, hq, hx⟩ := hg
    obtain ⟨its, rv, p⟩ := inv_src I hq
    obtain ⟨u, hu, ru⟩ := rv.get hx
    have hel : e < s.heap.objs.size := Heap.lt_size he
    have l1 : i < its.toArray.size := by
      have := (List.getElem?_eq_some_iff.mp hu).1
      simpa using this
    refine wpAny_pyNext_enum_itemC (draws_src hh1 b it a hai its.toArray) he ⟨h1, p⟩ l1 hei (by simp [hei, hae.symm]) fun w1 h' tk q1 ho h1' hT hsz hk => ?_
    have ew1 : u = w1 := by rw [List.getElem?_toArray, hu] at q1; exact Option.some.inj q1
    subst ew1
    refine ⟨_, rfl, wpAny_letOwnedTupleGo_enum (s := { s with heap := h', toks := tk + 1 }) ho fun h'' he' sb => ?_⟩
    have hT2 : h''.get? s.heap.objs.size = some { cls := .type "tuple", data := .seq #[.int (k + (i : Int)) tk, u] } := (sb.2 _ (Nat.ne_of_gt hel)).trans hT
    have new : ObjOk X.prog X.w (upd H s.heap.objs.size (.tup [.int (k + (i : Int)), x])) h'' s.heap.objs.size (.tup [.int (k + (i : Int)), x]) :=
      ⟨by show 2 ≤ sizeLine; decide, [.int (k + (i : Int)) tk, u], .cons ⟨_, rfl⟩ (.cons ru .nil), ⟨_, hT2, rfl, _, rfl⟩⟩
    have I1 : Inv X pins σ (upd H s.heap.objs.size (.tup [.int (k + (i : Int)), x])) { s with heap := h'', toks := tk + 1 } :=
      I.turnedNew (ch := [e, it]) (fun c o hb q => (sb.2 c (fun z => hb (by simp [z]))).trans (hk c o (fun z => hb (by simp [z])) (fun z => hb (by simp [z])) q)) hf (Nat.le_refl _) new
    refine ⟨.ref s.heap.objs.size, _, I1, rfl, ⟨_, x, rfl, I.hok.fresh (Nat.le_refl _), rfl, fun ys hy => by rw [inv_src_inj I hy hq]; exact hx⟩, ⟨⟨u, ?_⟩, h1'.1.at fun o q => (sb.2 it (Ne.symm hei)).trans q⟩, fun c hb => ?_⟩
    · have e1 : k + ((i + 1 : Nat) : Int) = k + (i : Int) + 1 := by omega
      rw [e1]; exact he'
    · have hb' : c < s.heap.objs.size := by
        have e' : c = e ∨ c = it := by simpa using hb
        rcases e' with z | z
        · rw [z]; exact hel
        · rw [z]; obtain ⟨_, e1⟩ := h1.live; exact Heap.lt_size e1
      rw [upd_ne (Nat.ne_of_lt hb')]
      exact (hf c hb).1
  done := by
    intro X hP hw hK hc i pins s σ H E I hf st hg
    subst hP hw hK
    have hh1 : X.A.in1.handled = none := I.ok.hd hc
    obtain ⟨⟨old, he⟩, h1⟩ := st
    obtain ⟨xs, hq, hx⟩ := hg
    obtain ⟨its, rv, p⟩ := inv_src I hq
    obtain ⟨f0, f1, f2, f3, f4, f5⟩ := hf it (by simp)
    have hl : i = its.toArray.size := by have := rv.length; simp; omega
    subst hl
    exact wpAny_pyNext_enum_endD (draws_src hh1 b it a hai its.toArray) he ⟨h1, p⟩ fun h' eb => ⟨rfl, I.turned (t' := s.toks) (fun c o hb q => eb c o hb q) f0 f1 f3 f4 f5⟩
  self := fun A i s Q E st h => let ⟨⟨_, he⟩, _⟩ := st; wpAny_pyIter_enum he h
def iEA (K : PySem.W.Frag) (ta : TA) : TI := fun σ H R => ta σ H fun vs H1 => ∃ b a xs, vs = [.ref a] ∧ Sq b K H1 a xs ∧ R (ItE b K 0 a) H1
def iEA1 (K : PySem.W.Frag) (ta : TA) : TI := fun σ H R => ta σ H fun vs H1 => ∃ b a xs k, vs = [.ref a, .int k] ∧ -(2 ^ 63) ≤ k ∧ k < 2 ^ 63 ∧ Sq b K H1 a xs ∧ R (ItE b K k a) H1
section
variable {X : Cx} {e e2 k : Expr} {ta : TA} {p pos tpos kpos : Pos} {elts : List Expr} {kk : Nat}
theorem eA_of {b : Bool} {k : Int} {pins : List (Addr × Obj)} {σ : L2.St} {H1 : Hp} {s1 : Shared} {a : Addr} {R : It → Hp → Prop} {h' : Heap} {its : Array Value} (I1 : Inv X pins σ H1 s1) (p1 : SrcAt b s1.heap a its) (q : R (ItE b X.K k a) H1)
    (he : IsEnum h' (s1.heap.objs.size + 1) s1.heap.objs.size k .none) (g1 : h'.get? s1.heap.objs.size = some (iterOf b a)) (hk : ∀ c o, s1.heap.get? c = some o → h'.get? c = some o) :
    PIE X pins σ (.Tuple elts kk tpos) R (.ref (s1.heap.objs.size + 1)) { s1 with heap := h' } := by
  have I2 : Inv X pins σ H1 { s1 with heap := h' } := I1.kept (t' := s1.toks) hk
  have lt := p1.lt
  refine ⟨s1.heap.objs.size + 1, [s1.heap.objs.size + 1, s1.heap.objs.size], _, _, H1, rfl, I2, turn_enA (Nat.succ_ne_self _) (Nat.ne_of_lt (Nat.lt_succ_of_lt lt)) (Nat.ne_of_lt lt), ⟨⟨.none, ?_⟩, iterAt_new g1⟩, fun c hb => ?_, q⟩
  · have e1 : k + ((0 : Nat) : Int) = k := by omega
    rw [e1]; exact he
  · have e' : c = s1.heap.objs.size + 1 ∨ c = s1.heap.objs.size := by simpa using hb
    have hle : s1.heap.objs.size ≤ c := by
      rcases e' with z | z
      · rw [z]; exact Nat.le_add_right _ _
      · rw [z]; exact Nat.le_refl _
    exact I1.fpOk hle (I1.hok.fresh hle)
theorem pi_eA (hg : Gl X "enumerate") (hm : X.mg "enumerate" = none) (ha : PA X [e] ta) (hs : starEach [e] X.env = [(false, eval e X.env)] := by rfl) :
    PI X (.Tuple elts kk tpos) (.Call (.Name "enumerate" p) [e] [] pos) (iEA X.K ta) := by
  refine ⟨fun pins s σ H R I h => ?_⟩
  refine Call_ (ld_blt I hg hm boot_enumerate (PyProof.Rows.callWith_type1 (thn (ha.run pos pins s σ H _ I h) fun us s1 ⟨vs, H1, I1, r1, q1⟩ => ?_) hs rfl))
  obtain ⟨b, a, xs, ex, hq, q⟩ := q1
  subst ex
  cases r1 with
  | cons r rr =>
    cases rr
    cases r
    obtain ⟨its, rv, p1⟩ := inv_src I1 hq
    exact enum_begins1 (begins_src b a its.toArray) p1 fun h' he g1 hsz hk => wpAny_pyIter_enum he (eA_of I1 p1 q he g1 hk)
theorem pi_eA1 (hg : Gl X "enumerate") (hm : X.mg "enumerate" = none) (ha : PA X [e, e2] ta) (hs : starEach [e, e2] X.env = (false, eval e X.env) :: starEach [e2] X.env := by rfl) (hpl : (backTo pos (starEach [e2] X.env)).any (·.1) = false := by rfl) :
    PI X (.Tuple elts kk tpos) (.Call (.Name "enumerate" p) [e, e2] [] pos) (iEA1 X.K ta) := by
  refine ⟨fun pins s σ H R I h => ?_⟩
  refine Call_ (ld_blt I hg hm boot_enumerate (PyProof.Rows.callWith_type1 (thn (ha.run pos pins s σ H _ I h) fun us s1 ⟨vs, H1, I1, r1, q1⟩ => ?_) hs hpl))
  obtain ⟨b, a, xs, k, ex, k0, k1, hq, q⟩ := q1
  subst ex
  cases r1 with
  | cons r rr =>
    cases rr with
    | cons r' rr =>
      cases rr
      cases r
      obtain ⟨tk, rfl⟩ := r'
      obtain ⟨its, rv, p1⟩ := inv_src I1 hq
      exact enum_begins (begins_src b a its.toArray) p1 k0 k1 fun h' he g1 hsz hk => wpAny_pyIter_enum he (eA_of I1 p1 q he g1 hk)
end
/-! ### the same over data -/
def enumD (k : Int) (ds : List D) : List D := ds.mapIdx fun i d => .tup [.int (k + (i : Int)), d]
theorem enumD_len (k : Int) (ds : List D) : (enumD k ds).length = ds.length := by simp [enumD]
theorem enumD_get {k : Int} {ds : List D} {i : Nat} {d : D} (h : (enumD k ds)[i]? = some d) : ∃ x, ds[i]? = some x ∧ d = .tup [.int (k + (i : Int)), x] := by
  unfold enumD at h
  rw [List.getElem?_mapIdx] at h
  cases e : ds[i]? with
  | none => rw [e] at h; cases h
  | some x => rw [e] at h; cases h; exact ⟨x, rfl, rfl⟩
theorem ite_ok {b : Bool} {k : Int} {K : PySem.W.Frag} {I : Hp} {a : Addr} {ds : List D} {pin : Option (Store → Prop)} (hs : ∀ I2 S F H, Same I I2 → Ok K I2 S F H → PinOk pin S → ∃ xs, Sq b K H a xs ∧ RepL K I2 ds xs) : ItOk K I (ItE b K k a) (enumD k ds) pin where
  go I2 S F H e ok pk i d hd := by
    obtain ⟨xs, h2, rl⟩ := hs I2 S F H e ok pk
    obtain ⟨x, ex, rfl⟩ := enumD_get hd
    obtain ⟨v, e1, r1⟩ := rl.get ex
    refine ⟨⟨xs, v, h2, e1⟩, fun z H' hy => ?_⟩
    obtain ⟨T, x0, rfl, nT, rfl, hy⟩ := hy
    have := hy xs h2
    rw [e1] at this
    cases this
    exact ⟨upd I2 T (.tup [.int (k + (i : Int)), v]), same_new (ok.freshI nT), ok.newI nT, rep_tup2 (ok.freshI nT) rep_int r1⟩
  stop I2 S F H e ok pk i hi := by
    obtain ⟨xs, h2, rl⟩ := hs I2 S F H e ok pk
    exact ⟨xs, h2, by rw [rl.len]; rw [enumD_len] at hi; exact hi⟩
def dEnum (a : DA) : DI := fun ρ S P => a ρ S fun xs S1 => match xs with
  | [x] => match seqOf S1 x with
    | some ds => P (enumD 0 ds) (pinOf S1 x) S1
    | none => False
  | _ => False
def dEnum2 (a : DA) : DI := fun ρ S P => a ρ S fun xs S1 => match xs with
  | [x, .int k] => match seqOf S1 x with
    | some ds => (-(2 ^ 63) ≤ k ∧ k < 2 ^ 63) ∧ P (enumD k ds) (pinOf S1 x) S1
    | none => False
  | _ => False
theorem zipD_get {as bs : List D} {i : Nat} {d : D} (h : (zipD as bs)[i]? = some d) : ∃ x y, as[i]? = some x ∧ bs[i]? = some y ∧ d = .tup [x, y] := by
  unfold zipD at h
  rw [List.getElem?_zipWith] at h
  cases e1 : as[i]? with
  | none => simp [e1] at h
  | some x =>
    cases e2 : bs[i]? with
    | none => simp [e1, e2] at h
    | some y =>
      simp only [e1, e2, Option.some.injEq] at h
      exact ⟨x, y, rfl, rfl, h.symm⟩
/-- both stay -/
def pin2 : Option (Store → Prop) → Option (Store → Prop) → Option (Store → Prop)
  | none, q => q
  | p, none => p
  | some p, some q => some fun S => p S ∧ q S
theorem pin2_ok {p q : Option (Store → Prop)} {S : Store} (h : PinOk (pin2 p q) S) : PinOk p S ∧ PinOk q S := by
  cases p with
  | none => exact ⟨trivial, h⟩
  | some p =>
    cases q with
    | none => exact ⟨h, trivial⟩
    | some q => exact h
theorem itz_ok {st : Bool} {K : PySem.W.Frag} {I : Hp} {b1 b2 : Bool} {a b : Addr} {as bs : List D} {p1 p2 : Option (Store → Prop)} (h1 : ∀ I2 S F H, Same I I2 → Ok K I2 S F H → PinOk p1 S → ∃ xs, Sq b1 K H a xs ∧ RepL K I2 as xs) (h2 : ∀ I2 S F H, Same I I2 → Ok K I2 S F H → PinOk p2 S → ∃ ys, Sq b2 K H b ys ∧ RepL K I2 bs ys)
    (hst : st = true → as.length = bs.length) : ItOk K I (ItZ st b1 b2 K a b) (zipD as bs) (pin2 p1 p2) where
  go I2 S F H e ok pk i d hd := by
    obtain ⟨x, y, ex, ey, rfl⟩ := zipD_get hd
    obtain ⟨xs, q1, r1⟩ := h1 I2 S F H e ok (pin2_ok pk).1
    obtain ⟨ys, q2, r2⟩ := h2 I2 S F H e ok (pin2_ok pk).2
    obtain ⟨v, ev, rv⟩ := r1.get ex
    obtain ⟨u, eu, ru⟩ := r2.get ey
    refine ⟨⟨xs, ys, v, u, q1, q2, ev, eu⟩, fun z H' hy => ?_⟩
    obtain ⟨T, x0, y0, rfl, nT, rfl, f1, f2⟩ := hy
    have e1 := f1 xs q1
    have e2 := f2 ys q2
    rw [ev] at e1; rw [eu] at e2
    cases e1; cases e2
    exact ⟨upd I2 T (.tup [v, u]), same_new (ok.freshI nT), ok.newI nT, rep_tup2 (ok.freshI nT) rv ru⟩
  stop I2 S F H e ok pk i hi := by
    obtain ⟨xs, q1, r1⟩ := h1 I2 S F H e ok (pin2_ok pk).1
    obtain ⟨ys, q2, r2⟩ := h2 I2 S F H e ok (pin2_ok pk).2
    have l1 := r1.len
    have l2 := r2.len
    simp only [zipD, List.length_zipWith] at hi
    exact ⟨xs, ys, q1, q2, by omega, by omega, by omega, fun q => by have := hst q; omega⟩
def dZip (a : DA) : DI := fun ρ S P => a ρ S fun xs S1 => match xs with
  | [x, y] => match seqOf S1 x, seqOf S1 y with
    | some as, some bs => P (zipD as bs) (pin2 (pinOf S1 x) (pinOf S1 y)) S1
    | _, _ => False
  | _ => False
def dZipS (a : DA) : DI := fun ρ S P => a ρ S fun xs S1 => match xs with
  | [x, y] => match seqOf S1 x, seqOf S1 y with
    | some as, some bs => as.length = bs.length ∧ P (zipD as bs) (pin2 (pinOf S1 x) (pinOf S1 y)) S1
    | _, _ => False
  | _ => False
section
variable {X : Cx} {e e2 : Expr} {ds : DA} {p pos tpos kpos cpos : Pos} {elts : List Expr} {kk ck : Nat}
theorem ji_zip (hm : X.mg "zip" = none) (ha : JA X [e, e2] ds) (hg : Gl X "zip" := by rfl) (hs : starEach [e, e2] X.env = (false, eval e X.env) :: starEach [e2] X.env := by rfl) (hpl : (backTo pos (starEach [e2] X.env)).any (·.1) = false := by rfl) :
    JI X (.Tuple elts kk tpos) (.Call (.Name "zip" p) [e, e2] [] pos) (dZip ds) :=
  ji_of (pi_zA0 hg hm ha hs hpl) fun σ H R ⟨ρ, I, S, F, P, rs, ok, hh, q⟩ => ⟨ρ, I, S, F, _, rs, ok, hh, fun xs S1 v I1 H1 h1 e1 ok1 r1 => by
    split at h1
    · rename_i x y
      obtain ⟨v, u, rfl, rv, ru⟩ := r1.inv2
      split at h1
      · rename_i as bs e3 e4
        obtain ⟨b1, a, rfl, hs1⟩ := src_sq ok1 rv e3
        obtain ⟨b2, b, rfl, hs2⟩ := src_sq ok1 ru e4
        obtain ⟨xs, q1, _⟩ := hs1 _ _ _ _ (Same.refl _) ok1 (pin_self _ _)
        obtain ⟨ys, q2, _⟩ := hs2 _ _ _ _ (Same.refl _) ok1 (pin_self _ _)
        exact ⟨b1, b2, a, b, xs, ys, rfl, q1, q2, q _ _ _ _ _ _ h1 e1 ok1 (itz_ok hs1 hs2 (fun e => nomatch e))⟩
      · exact h1.elim
    · exact h1.elim⟩
theorem ji_zipS (hm : X.mg "zip" = none) (ha : JA X [e, e2] ds) (hg : Gl X "zip" := by rfl) (hs : starEach [e, e2] X.env = (false, eval e X.env) :: starEach [e2] X.env := by rfl) (hpl : (backTo pos (starEach [e2] X.env)).any (·.1) = false := by rfl) :
    JI X (.Tuple elts kk tpos) (.Call (.Name "zip" p) [e, e2] [⟨some "strict", .Constant (.bool true) ck cpos, kpos⟩] pos) (dZipS ds) :=
  ji_of (pi_zA1 hg hm ha (fun h => Constant_bool h) hs hpl) fun σ H R ⟨ρ, I, S, F, P, rs, ok, hh, q⟩ => ⟨ρ, I, S, F, _, rs, ok, hh, fun xs S1 v I1 H1 h1 e1 ok1 r1 => by
    split at h1
    · rename_i x y
      obtain ⟨v, u, rfl, rv, ru⟩ := r1.inv2
      split at h1
      · rename_i as bs e3 e4
        obtain ⟨hl, h1⟩ := h1
        obtain ⟨b1, a, rfl, hs1⟩ := src_sq ok1 rv e3
        obtain ⟨b2, b, rfl, hs2⟩ := src_sq ok1 ru e4
        obtain ⟨xs, q1, _⟩ := hs1 _ _ _ _ (Same.refl _) ok1 (pin_self _ _)
        obtain ⟨ys, q2, _⟩ := hs2 _ _ _ _ (Same.refl _) ok1 (pin_self _ _)
        exact ⟨b1, b2, a, b, xs, ys, rfl, q1, q2, q _ _ _ _ _ _ h1 e1 ok1 (itz_ok hs1 hs2 (fun _ => hl))⟩
      · exact h1.elim
    · exact h1.elim⟩
theorem ji_enum (hm : X.mg "enumerate" = none) (ha : JA X [e] ds) (hg : Gl X "enumerate" := by rfl) (hs : starEach [e] X.env = [(false, eval e X.env)] := by rfl) : JI X (.Tuple elts kk tpos) (.Call (.Name "enumerate" p) [e] [] pos) (dEnum ds) :=
  ji_of (pi_eA hg hm ha hs) fun σ H R ⟨ρ, I, S, F, P, rs, ok, hh, q⟩ => ⟨ρ, I, S, F, _, rs, ok, hh, fun xs S1 v I1 H1 h1 e1 ok1 r1 => by
    split at h1
    · rename_i x
      obtain ⟨v, rfl, rv⟩ := r1.inv1
      split at h1
      · rename_i ds e3
        obtain ⟨b, a, rfl, hs1⟩ := src_sq ok1 rv e3
        obtain ⟨xs, q1, _⟩ := hs1 _ _ _ _ (Same.refl _) ok1 (pin_self _ _)
        exact ⟨b, a, xs, rfl, q1, q _ _ _ _ _ _ h1 e1 ok1 (ite_ok hs1)⟩
      · exact h1.elim
    · exact h1.elim⟩
theorem ji_enum2 (hm : X.mg "enumerate" = none) (ha : JA X [e, e2] ds) (hg : Gl X "enumerate" := by rfl) (hs : starEach [e, e2] X.env = (false, eval e X.env) :: starEach [e2] X.env := by rfl) (hpl : (backTo pos (starEach [e2] X.env)).any (·.1) = false := by rfl) : JI X (.Tuple elts kk tpos) (.Call (.Name "enumerate" p) [e, e2] [] pos) (dEnum2 ds) :=
  ji_of (pi_eA1 hg hm ha hs hpl) fun σ H R ⟨ρ, I, S, F, P, rs, ok, hh, q⟩ => ⟨ρ, I, S, F, _, rs, ok, hh, fun xs S1 v I1 H1 h1 e1 ok1 r1 => by
    split at h1
    · rename_i x k
      obtain ⟨v, u, rfl, rv, ru⟩ := r1.inv2
      cases ru.int_of
      split at h1
      · rename_i ds e3
        obtain ⟨⟨k0, k1⟩, h1⟩ := h1
        obtain ⟨b, a, rfl, hs1⟩ := src_sq ok1 rv e3
        obtain ⟨xs, q1, _⟩ := hs1 _ _ _ _ (Same.refl _) ok1 (pin_self _ _)
        exact ⟨b, a, xs, k, rfl, k0, k1, q1, q _ _ _ _ _ _ h1 e1 ok1 (ite_ok hs1)⟩
      · exact h1.elim
    · exact h1.elim⟩
end
end DL

namespace DL
open PySem PySem.Spec PyProof.Rows L2

/-! ### is True, is False -/
def dIsB : D2 := fun x y S P => match x, y with
  | .bl a, .bl b => P (.bl (decide (a = b))) S
  | _, _ => False
def dNotB : D2 := fun x y S P => match x, y with
  | .bl a, .bl b => P (.bl (!decide (a = b))) S
  | _, _ => False
theorem i_isB {K : PySem.W.Frag} : Imp2 K rIsB dIsB := by
  intro x y v w I S F H P Q ok rx ry h q
  unfold dIsB at h
  split at h
  · cases rx.bl_of; cases ry.bl_of
    exact ⟨_, _, rfl, rfl, q _ _ _ _ _ h (Same.refl I) ok rep_bl⟩
  · exact h.elim
theorem i_notB {K : PySem.W.Frag} : Imp2 K rNotB dNotB := by
  intro x y v w I S F H P Q ok rx ry h q
  unfold dNotB at h
  split at h
  · cases rx.bl_of; cases ry.bl_of
    exact ⟨_, _, rfl, rfl, q _ _ _ _ _ h (Same.refl I) ok rep_bl⟩
  · exact h.elim
section
variable {X : Cx} {pos p : Pos} {a b : Expr} {da db : DE} {x : Str}
theorem je_isB (ha : JE X a da) (hb : JE X b db) : JE X (.Compare a [.Is] [b] pos) (dOp dIsB da db) := je_cmp op_isBl i_isB ha hb (nomark _)
theorem je_notB (ha : JE X a da) (hb : JE X b db) : JE X (.Compare a [.IsNot] [b] pos) (dOp dNotB da db) := je_cmp op_notBl i_notB ha hb (nomark _)
theorem jt_isB (ha : JE X a da) (hb : JE X b db) : JT X (.Compare a [.Is] [b] pos) (dTest (dOp dIsB da db)) := jt_cmp op_isBl i_isB ha hb (nomark _)
theorem jt_notB (ha : JE X a da) (hb : JE X b db) : JT X (.Compare a [.IsNot] [b] pos) (dTest (dOp dNotB da db)) := jt_cmp op_notBl i_notB ha hb (nomark _)
/-! ### a module's constants -/
theorem je_globC {v : V} {u : Value} {d : D} (hm : X.mg x = some u) (r : RelV v u) (hd : ∀ I, Rep X.K I d v) (hg : Gl X x := by rfl) (hdb : (x == ("__debug__" : Str)) = false := by decide) : JE X (.Name x p) (dC d) :=
  je_of (pe_glob hg hm r hdb) fun σ H Q ⟨ρ, I, S, F, P, rs, ok, h, q⟩ => q _ _ _ _ _ h (Same.refl I) ok (hd I)
theorem je_cI {i : Int} (h : ∃ t, X.mg x = some (.int i t)) (hg : Gl X x := by rfl) (hdb : (x == ("__debug__" : Str)) = false := by decide) : JE X (.Name x p) (dC (.int i)) := by
  obtain ⟨t, h⟩ := h
  exact je_globC (v := .int i) h ⟨t, rfl⟩ (fun I => rep_int) hg hdb
theorem je_cS {z : Str} (h : ∃ t, X.mg x = some (.str z t)) (hg : Gl X x := by rfl) (hdb : (x == ("__debug__" : Str)) = false := by decide) : JE X (.Name x p) (dC (.str z)) := by
  obtain ⟨t, h⟩ := h
  exact je_globC (v := .str z) h ⟨t, rfl⟩ (fun I => by simp only [Rep]) hg hdb
/-- a tuple of the module's, of flat things -/
def TupK (K : PySem.W.Frag) (u : Value) (xs : List V) : Prop := ∃ a, u = .ref a ∧ ∃ (o : Obj) (its : Array Value) (n : Nat), K.lookup a = some o ∧ o.cls = .type "tuple" ∧ o.data = .seq its n ∧ its.size ≤ sizeLine ∧ Vals xs its.toList
theorem je_cT {ds : List D} {xs : List V} (h : ∃ u, X.mg x = some u ∧ TupK X.K u xs) (hd : ∀ I, RepL X.K I ds xs) (hg : Gl X x := by rfl) (hdb : (x == ("__debug__" : Str)) = false := by decide) : JE X (.Name x p) (dC (.tup ds)) := by
  obtain ⟨u, h, a, rfl, hk⟩ := h
  exact je_globC (v := .ref a) h rfl (fun I => by
    simp only [Rep]
    exact ⟨a, xs, rfl, .inr hk, hd I⟩) hg hdb
end

/-! ### repr -/
mutual
def pyD : D → Option PyData
  | .non => some .none
  | .bl b => some (.bool b)
  | .int i => some (.int i)
  | .str x => some (.str x)
  | .lst ds => (pyDL ds).map .list
  | .ext ds => (pyDL ds).map .list
  | .tup ds => (pyDL ds).map .tuple
  | .ty _ => none
  | .obj _ => none
def pyDL : List D → Option (List PyData)
  | [] => some []
  | d :: ds => (pyD d).bind fun p => (pyDL ds).map (p :: ·)
end
section
variable {X : Cx} {pins : List (Addr × Obj)} {σ : L2.St} {H I F : Hp} {s : Shared} {S : Store}
mutual
theorem reads_of (J : Inv X pins σ H s) (ok : Ok X.K I S F H) : ∀ (x : D) (v : V) (u : Value) (p : PyData), Rep X.K I x v → RelV v u → pyD x = some p → ∃ as, Reads s.heap u p as
  | .non, v, u, p, r, rv, h => by
    simp only [pyD, Option.some.injEq] at h; subst h
    cases r.non_of; cases (show u = Value.none from rv)
    exact ⟨_, .none⟩
  | .bl b, v, u, p, r, rv, h => by
    simp only [pyD, Option.some.injEq] at h; subst h
    cases r.bl_of; cases (show u = Value.bool b from rv)
    exact ⟨_, .bool b⟩
  | .int i, v, u, p, r, rv, h => by
    simp only [pyD, Option.some.injEq] at h; subst h
    cases r.int_of; obtain ⟨t, rfl⟩ := rv
    exact ⟨_, .int i t⟩
  | .str z, v, u, p, r, rv, h => by
    simp only [pyD, Option.some.injEq] at h; subst h
    cases r.str_of; obtain ⟨t, rfl⟩ := rv
    exact ⟨_, .str z t⟩
  | .lst ds, v, u, p, r, rv, h => by
    simp only [pyD, Option.map_eq_some_iff] at h
    obtain ⟨ps, h, rfl⟩ := h
    obtain ⟨a, xs, rfl, e, rl⟩ := r.lst_of
    cases rv
    obtain ⟨its, q, ⟨o, n, e1, e2, _, e3⟩, _⟩ := J.list (.of (ok.i _ _ e))
    obtain ⟨as, ra⟩ := reads_ofL J ok ds xs its ps rl q h
    exact ⟨_, .list e1 e2 e3 (by simpa using ra)⟩
  | .ext ds, v, u, p, r, rv, h => by
    simp only [pyD, Option.map_eq_some_iff] at h
    obtain ⟨ps, h, rfl⟩ := h
    obtain ⟨a, xs, rfl, e, rl⟩ := r.ext_of
    cases rv
    obtain ⟨its, q, ⟨o, n, e1, e2, _, e3⟩, _⟩ := J.list (ok.same.seq e)
    obtain ⟨as, ra⟩ := reads_ofL J ok ds xs its ps rl q h
    exact ⟨_, .list e1 e2 e3 (by simpa using ra)⟩
  | .tup ds, v, u, p, r, rv, h => by
    simp only [pyD, Option.map_eq_some_iff] at h
    obtain ⟨ps, h, rfl⟩ := h
    obtain ⟨a, xs, rfl, e, rl⟩ := r.tup_of
    cases rv
    obtain ⟨its, q, ⟨o, e1, e2, n, e3⟩, _⟩ := J.tuple (sqT_same ok.same e)
    obtain ⟨as, ra⟩ := reads_ofL J ok ds xs its ps rl q h
    exact ⟨_, .tuple e1 e2 e3 (by simpa using ra)⟩
  | .ty _, _, _, _, _, _, h => by simp [pyD] at h
  | .obj _, _, _, _, _, _, h => by simp [pyD] at h
theorem reads_ofL (J : Inv X pins σ H s) (ok : Ok X.K I S F H) : ∀ (ds : List D) (vs : List V) (us : List Value) (ps : List PyData), RepL X.K I ds vs → Vals vs us → pyDL ds = some ps → ∃ as, ReadsAll s.heap us ps as
  | [], vs, us, ps, r, rv, h => by
    simp only [pyDL, Option.some.injEq] at h; subst h
    simp only [RepL] at r; subst r
    cases rv
    exact ⟨_, .nil⟩
  | d :: ds, vs, us, ps, r, rv, h => by
    simp only [pyDL, Option.bind_eq_some_iff, Option.map_eq_some_iff] at h
    obtain ⟨p, h1, ps', h2, rfl⟩ := h
    simp only [RepL] at r
    obtain ⟨v, vs', rfl, r1, r2⟩ := r
    cases rv with
    | cons q qs =>
      obtain ⟨as, ra⟩ := reads_of J ok d v _ p r1 q h1
      obtain ⟨bs, rb⟩ := reads_ofL J ok ds vs' _ ps' r2 qs h2
      exact ⟨_, .cons ra rb⟩
end
mutual
theorem pyD_noDict : ∀ (x : D) (p : PyData), pyD x = some p → p.hasDict = false
  | .non, p, h => by simp only [pyD, Option.some.injEq] at h; subst h; rfl
  | .bl b, p, h => by simp only [pyD, Option.some.injEq] at h; subst h; rfl
  | .int i, p, h => by simp only [pyD, Option.some.injEq] at h; subst h; rfl
  | .str z, p, h => by simp only [pyD, Option.some.injEq] at h; subst h; rfl
  | .lst ds, p, h => by
    simp only [pyD, Option.map_eq_some_iff] at h
    obtain ⟨ps, h, rfl⟩ := h
    simp only [PyData.hasDict]; exact pyDL_noDict ds ps h
  | .ext ds, p, h => by
    simp only [pyD, Option.map_eq_some_iff] at h
    obtain ⟨ps, h, rfl⟩ := h
    simp only [PyData.hasDict]; exact pyDL_noDict ds ps h
  | .tup ds, p, h => by
    simp only [pyD, Option.map_eq_some_iff] at h
    obtain ⟨ps, h, rfl⟩ := h
    simp only [PyData.hasDict]; exact pyDL_noDict ds ps h
  | .ty _, _, h => by simp [pyD] at h
  | .obj _, _, h => by simp [pyD] at h
theorem pyDL_noDict : ∀ (ds : List D) (ps : List PyData), pyDL ds = some ps → PyData.hasDictAll ps = false
  | [], ps, h => by simp only [pyDL, Option.some.injEq] at h; subst h; rfl
  | d :: ds, ps, h => by
    simp only [pyDL, Option.bind_eq_some_iff, Option.map_eq_some_iff] at h
    obtain ⟨p, h1, ps', h2, rfl⟩ := h
    simp only [PyData.hasDictAll, pyD_noDict d p h1, pyDL_noDict ds ps' h2, Bool.or_false]
end
end
/-- what repr tells, with depth and length at most -/
structure Rp (d c : Nat) (x : D) (p : PyData) : Prop where
  e : pyD x = some p
  s : p.showable = true
  d : p.depth ≤ d
  c : p.shown.length ≤ c
/-- the text of a thing -/
def shownD (x : D) : Str := match pyD x with
  | some p => p.shown
  | none => ""
def Rpd (d c : Nat) (x : D) : Prop := ∃ p, Rp d c x p
def cRepr : DC := fun xs S P => match xs with
  | [x] => Rpd 40 16000000 x ∧ P (.str (shownD x)) S
  | _ => False
theorem Rpd.mono {d c d' c' : Nat} {x : D} (h : Rpd d c x) (h1 : d ≤ d') (h2 : c ≤ c') : Rpd d' c' x := by
  obtain ⟨p, h⟩ := h
  exact ⟨p, h.e, h.s, Nat.le_trans h.d h1, Nat.le_trans h.c h2⟩
theorem rp_non : Rpd 1 13 .non := ⟨.none, by simp [pyD], by simp [PyData.showable], by simp [PyData.depth], by simp only [PyData.shown]; decide⟩
theorem rp_bl {b : Bool} : Rpd 1 13 (.bl b) := ⟨.bool b, by simp [pyD], by simp [PyData.showable], by simp [PyData.depth], by simp only [PyData.shown]; cases b <;> decide⟩
theorem rp_int {i : Int} (h : i.natAbs < 10 ^ 12) : Rpd 1 13 (.int i) := ⟨.int i, by simp [pyD], by
  simp only [PyData.showable, decide_eq_true_eq]
  have : i.natAbs.log2 < 64 := PySem.Flt.log2_lt_of (by decide) (show i.natAbs < 2 ^ 64 by omega)
  omega, by simp [PyData.depth], PyData.shown_int_le h⟩
theorem rp_str {z : Str} {n : Nat} (h : (reprText z).length ≤ n) : Rpd 1 n (.str z) := ⟨.str z, by simp [pyD], by simp [PyData.showable], by simp [PyData.depth], by simpa only [PyData.shown] using h⟩
theorem rp_all {d c : Nat} : ∀ {ds : List D}, (∀ y, y ∈ ds → Rpd d c y) → ∃ ps, pyDL ds = some ps ∧ PyData.showableAll ps = true ∧ PyData.depthAll ps ≤ d ∧ ((PyData.shownAll ps).map (·.length)).sum ≤ ds.length * c ∧ (PyData.shownAll ps).length = ds.length
  | [], _ => ⟨[], by simp [pyDL], by simp [PyData.showableAll], by simp [PyData.depthAll], by simp [PyData.shownAll], by simp [PyData.shownAll]⟩
  | y :: ds, h => by
    obtain ⟨p, h1⟩ := h y (by simp)
    obtain ⟨ps, e1, e2, e3, e4, e5⟩ := rp_all (ds := ds) (fun z hz => h z (by simp [hz]))
    refine ⟨p :: ps, by simp [pyDL, h1.e, e1], by simp [PyData.showableAll, h1.s, e2], ?_, ?_, by simp [PyData.shownAll, e5]⟩
    · have := h1.d
      simp only [PyData.depthAll]
      omega
    · have := h1.c
      simp only [PyData.shownAll, List.map_cons, List.sum_cons, List.length_cons, Nat.succ_mul]
      omega
theorem rp_tup {d c n : Nat} {ds : List D} (h : ∀ y, y ∈ ds → Rpd d c y) (hn : ds.length ≤ n) : Rpd (d + 1) (n * (c + 2) + 3) (.tup ds) := by
  obtain ⟨ps, e1, e2, e3, e4, e5⟩ := rp_all h
  refine ⟨.tuple ps, by simp [pyD, e1], by simp [PyData.showable, e2], by simp only [PyData.depth]; omega, ?_⟩
  have := tupleText_len_le (PyData.shownAll ps)
  simp only [PyData.shown]
  have h2 := Nat.mul_le_mul_right (c + 2) hn
  rw [Nat.mul_add] at h2
  omega
theorem rp_lst {d c n : Nat} {ds : List D} (h : ∀ y, y ∈ ds → Rpd d c y) (hn : ds.length ≤ n) : Rpd (d + 1) (n * (c + 2) + 3) (.lst ds) := by
  obtain ⟨ps, e1, e2, e3, e4, e5⟩ := rp_all h
  refine ⟨.list ps, by simp [pyD, e1], by simp [PyData.showable, e2], by simp only [PyData.depth]; omega, ?_⟩
  have := listText_len_le (PyData.shownAll ps)
  simp only [PyData.shown]
  have h2 := Nat.mul_le_mul_right (c + 2) hn
  rw [Nat.mul_add] at h2
  omega
def rRepr (K : PySem.W.Frag) : List V → Hp → VK → Prop := fun vs H Q => ∃ x v I S F p, vs = [v] ∧ Ok K I S F H ∧ Rep K I x v ∧ Rp 40 16000000 x p ∧ Q (.str p.shown) H
theorem i_repr {K : PySem.W.Frag} : ImpC K (rRepr K) cRepr := by
  intro xs vs I S F H P Q ok r h q
  unfold cRepr at h
  split at h
  · obtain ⟨v, rfl, rv⟩ := r.inv1
    obtain ⟨⟨p, hp⟩, h⟩ := h
    unfold shownD at h
    rw [hp.e] at h
    exact ⟨_, v, I, S, F, p, rfl, ok, rv, hp, q _ _ _ _ _ h (Same.refl I) ok (by simp only [Rep])⟩
  · exact h.elim
theorem call_repr {X : Cx} {k : Nat} (hr : DG.RoomG k X.A) : CallR X (.builtin "repr") (rRepr X.K) := by
  intro pins s σ H xs us Q J r h
  obtain ⟨x, v, I, S, F, p, rfl, ok, rx, hp, q⟩ := h
  obtain ⟨u, rfl, rv⟩ := vals1 r
  obtain ⟨as, ra⟩ := reads_of J ok x v u p rx rv hp.e
  have hz : p.shown.length ≤ sizeLine := Nat.le_trans hp.c (by decide)
  have fin : ∀ t tk h', (∀ b o, s.heap.get? b = some o → h'.get? b = some o) → EP X pins σ Q (.str p.shown t) { s with heap := h', toks := tk } := fun t tk h' hk => ⟨.str p.shown, H, J.kept (t' := tk) hk, ⟨t, rfl⟩, q⟩
  have hd := hp.d
  cases ra with
  | none => exact P.repr_of_none (fin _ _ _ fun _ _ e => e)
  | bool b => exact P.repr_of_bool (by cases b <;> exact fin _ _ _ fun _ _ e => e)
  | int i t => exact P.repr_of_int (by have := hp.s; simpa [PyData.showable] using this) (fin _ _ _ fun _ _ e => e)
  | str z t => exact P.repr_of_str (fin _ _ _ fun _ _ e => e) hz
  | list h1 h2 h3 h4 =>
    have := hr.r.units
    exact repr_of_reads' (.list h1 h2 h3 h4) hp.s (PyData.noDict_hsm (pyD_noDict _ _ hp.e)) hr.g (by omega) (fun _ _ e => e) (fun h' t tk hk => fin _ _ _ hk) hz
  | tuple h1 h2 h3 h4 =>
    have := hr.r.units
    exact repr_of_reads' (.tuple h1 h2 h3 h4) hp.s (PyData.noDict_hsm (pyD_noDict _ _ hp.e)) hr.g (by omega) (fun _ _ e => e) (fun h' t tk hk => fin _ _ _ hk) hz
  | dict h1 h2 h3 h4 h5 =>
    have := pyD_noDict _ _ hp.e
    simp [PyData.hasDict] at this
theorem b_repr : bootBuiltins "repr" = some (.builtin "repr") := by decide +kernel
theorem je_repr {X : Cx} {pos p : Pos} {a : Expr} {ds : DA} {k : Nat} (hr : DG.RoomG k X.A) (hm : X.mg "repr" = none) (ha : JA X [a] ds) (hg : Gl X "repr" := by rfl) (hs : starEach [a] X.env = [(false, eval a X.env)] := by rfl) : JE X (.Call (.Name "repr" p) [a] [] pos) (dCB cRepr ds) := je_callB (call_repr hr) i_repr hg hm b_repr ha (hs := hs) (hpl := by rfl)
end DL
namespace DL
open PySem PySem.Spec PyProof.Rows L2
section
variable {X : Cx} {pos : Pos} {a b c : Expr} {da db dc : DE} {op op' : CmpOp} {r r' : R2} {o o' : D2}
theorem je_chain (ho : OpR X (compareOp op) r) (ho' : OpR X (compareOp op') r') (i : Imp2 X.K r o) (i' : Imp2 X.K r' o') (ha : JE X a da) (hb : JE X b db) (hc : JE X c dc)
    (hm : lastMarks [op, op'] [b, c] = false := by with_unfolding_all rfl) : JE X (.Compare a [op, op'] [b, c] pos) (dChainR o o' da db dc) := je_of (pe_chain ho ho' ha hb hc hm) (up_chain i i')
theorem jt_chain (ho : OpR X (compareOp op) r) (ho' : OpR X (compareOp op') r') (i : Imp2 X.K r o) (i' : Imp2 X.K r' o') (ha : JE X a da) (hb : JE X b db) (hc : JE X c dc)
    (hm : lastMarks [op, op'] [b, c] = false := by with_unfolding_all rfl) : JT X (.Compare a [op, op'] [b, c] pos) (dTest (dChainR o o' da db dc)) :=
  jt_of (pt_chain ho ho' ha hb hc hm) fun σ H Q h => up_test (up_chain i i') σ H Q h
end
/-- a def that is never called so -/
theorem fnd_never {P : Program} {w : World} {K : PySem.W.Frag} {mg : Str → Option Value} {base : Heap} {k : Nat} {f : Addr} {fd : FuncData} {ps : List Str} {sp : DSp} (hz : ∀ ds S P, sp ds S P → False) : FnD P w K mg base k f fd ps sp :=
  ⟨fun vs H Q E ⟨ds, I, S, F, P, _, _, h, _⟩ => (hz _ _ _ h).elim, fun A outer s H args us vs Q E _ _ _ _ ⟨ds, I, S, F, P, _, _, h, _⟩ => (hz _ _ _ h).elim⟩
end DL
namespace DL
open PySem PySem.Spec PyProof.Rows L2
def dPar3 (i j l : Nat) (a : DA) : DS := fun DD ρ S => a ρ S fun xs S1 => match xs with
  | [x, y, z] => DD.nx (((ρ.set i (some x)).set j (some y)).set l (some z)) S1
  | _ => False
theorem js_par3 (i j l : Nat) {X : Cx} {pos : Pos} {x y z : Str} {a b c : Expr} {da : DA} {px py pz pt : Pos} {kt k2 pt2} (hc : X.calm = true) (hN : X.N.Nodup) (hi : X.N[i]? = some x) (hj : X.N[j]? = some y) (hl : X.N[l]? = some z) (hij : i ≠ j) (hil : i ≠ l) (hjl : j ≠ l)
    (hx : X.env.scope.names.lookup x = some .local) (hy : X.env.scope.names.lookup y = some .local) (hz : X.env.scope.names.lookup z = some .local) (ha : JA X [a, b, c] da)
    (hw : swappedStores [.Tuple [.Name x px, .Name y py, .Name z pz] kt pt] (.Tuple [a, b, c] k2 pt2) X.env = pure (some [x, y, z]))
    (hs : swapsWithSole [.Tuple [.Name x px, .Name y py, .Name z pz] kt pt] (.Tuple [a, b, c] k2 pt2) pos.line X.env = pure false := by rfl) :
    JS X (.Assign [.Tuple [.Name x px, .Name y py, .Name z pz] kt pt] (.Tuple [a, b, c] k2 pt2) pos) (dPar3 i j l da) :=
  js_of (ps_par3 hc hN hi hj hl hij hil hjl hx hy hz ha hw hs) fun D σ H ⟨ρ, I, S, F, DD, rs, ok, h, q⟩ => ⟨ρ, I, S, F, _, rs, ok, h, fun xs S1 vs I1 H1 h1 e1 ok1 r1 => by
    unfold dPar3 at *
    split at h1
    · obtain ⟨v, w, u, rfl, rv, rw, ru⟩ := r1.inv3
      exact ⟨v, w, u, rfl, q.nx _ _ _ _ _ h1 e1 ok1 ((((rs.mono e1).set i rv).set j rw).set l ru)⟩
    · exact h1.elim⟩
end DL
namespace DL
open PySem PySem.Spec PyProof.Rows L2
/-! ### isinstance of data -/
theorem isi_non_int  {S : Store} {P : D → Store → Prop} : cIsi [.non, .ty "int"] S P = P (.bl false) S := propext ⟨fun h => h.2, fun h => ⟨by decide, h⟩⟩
theorem isi_non_bool  {S : Store} {P : D → Store → Prop} : cIsi [.non, .ty "bool"] S P = P (.bl false) S := propext ⟨fun h => h.2, fun h => ⟨by decide, h⟩⟩
theorem isi_non_str  {S : Store} {P : D → Store → Prop} : cIsi [.non, .ty "str"] S P = P (.bl false) S := propext ⟨fun h => h.2, fun h => ⟨by decide, h⟩⟩
theorem isi_non_list  {S : Store} {P : D → Store → Prop} : cIsi [.non, .ty "list"] S P = P (.bl false) S := propext ⟨fun h => h.2, fun h => ⟨by decide, h⟩⟩
theorem isi_non_tuple  {S : Store} {P : D → Store → Prop} : cIsi [.non, .ty "tuple"] S P = P (.bl false) S := propext ⟨fun h => h.2, fun h => ⟨by decide, h⟩⟩
theorem isi_non_lt  {S : Store} {P : D → Store → Prop} : cIsi [.non, .tup [.ty "list", .ty "tuple"]] S P = P (.bl false) S := rfl
theorem isi_bl_int {k : Bool} {S : Store} {P : D → Store → Prop} : cIsi [(.bl k), .ty "int"] S P = P (.bl true) S := propext ⟨fun h => h.2, fun h => ⟨by decide, h⟩⟩
theorem isi_bl_bool {k : Bool} {S : Store} {P : D → Store → Prop} : cIsi [(.bl k), .ty "bool"] S P = P (.bl true) S := propext ⟨fun h => h.2, fun h => ⟨by decide, h⟩⟩
theorem isi_bl_str {k : Bool} {S : Store} {P : D → Store → Prop} : cIsi [(.bl k), .ty "str"] S P = P (.bl false) S := propext ⟨fun h => h.2, fun h => ⟨by decide, h⟩⟩
theorem isi_bl_list {k : Bool} {S : Store} {P : D → Store → Prop} : cIsi [(.bl k), .ty "list"] S P = P (.bl false) S := propext ⟨fun h => h.2, fun h => ⟨by decide, h⟩⟩
theorem isi_bl_tuple {k : Bool} {S : Store} {P : D → Store → Prop} : cIsi [(.bl k), .ty "tuple"] S P = P (.bl false) S := propext ⟨fun h => h.2, fun h => ⟨by decide, h⟩⟩
theorem isi_bl_lt {k : Bool} {S : Store} {P : D → Store → Prop} : cIsi [(.bl k), .tup [.ty "list", .ty "tuple"]] S P = P (.bl false) S := rfl
theorem isi_int_int {i : Int} {S : Store} {P : D → Store → Prop} : cIsi [(.int i), .ty "int"] S P = P (.bl true) S := propext ⟨fun h => h.2, fun h => ⟨by decide, h⟩⟩
theorem isi_int_bool {i : Int} {S : Store} {P : D → Store → Prop} : cIsi [(.int i), .ty "bool"] S P = P (.bl false) S := propext ⟨fun h => h.2, fun h => ⟨by decide, h⟩⟩
theorem isi_int_str {i : Int} {S : Store} {P : D → Store → Prop} : cIsi [(.int i), .ty "str"] S P = P (.bl false) S := propext ⟨fun h => h.2, fun h => ⟨by decide, h⟩⟩
theorem isi_int_list {i : Int} {S : Store} {P : D → Store → Prop} : cIsi [(.int i), .ty "list"] S P = P (.bl false) S := propext ⟨fun h => h.2, fun h => ⟨by decide, h⟩⟩
theorem isi_int_tuple {i : Int} {S : Store} {P : D → Store → Prop} : cIsi [(.int i), .ty "tuple"] S P = P (.bl false) S := propext ⟨fun h => h.2, fun h => ⟨by decide, h⟩⟩
theorem isi_int_lt {i : Int} {S : Store} {P : D → Store → Prop} : cIsi [(.int i), .tup [.ty "list", .ty "tuple"]] S P = P (.bl false) S := rfl
theorem isi_str_int {z : Str} {S : Store} {P : D → Store → Prop} : cIsi [(.str z), .ty "int"] S P = P (.bl false) S := propext ⟨fun h => h.2, fun h => ⟨by decide, h⟩⟩
theorem isi_str_bool {z : Str} {S : Store} {P : D → Store → Prop} : cIsi [(.str z), .ty "bool"] S P = P (.bl false) S := propext ⟨fun h => h.2, fun h => ⟨by decide, h⟩⟩
theorem isi_str_str {z : Str} {S : Store} {P : D → Store → Prop} : cIsi [(.str z), .ty "str"] S P = P (.bl true) S := propext ⟨fun h => h.2, fun h => ⟨by decide, h⟩⟩
theorem isi_str_list {z : Str} {S : Store} {P : D → Store → Prop} : cIsi [(.str z), .ty "list"] S P = P (.bl false) S := propext ⟨fun h => h.2, fun h => ⟨by decide, h⟩⟩
theorem isi_str_tuple {z : Str} {S : Store} {P : D → Store → Prop} : cIsi [(.str z), .ty "tuple"] S P = P (.bl false) S := propext ⟨fun h => h.2, fun h => ⟨by decide, h⟩⟩
theorem isi_str_lt {z : Str} {S : Store} {P : D → Store → Prop} : cIsi [(.str z), .tup [.ty "list", .ty "tuple"]] S P = P (.bl false) S := rfl
theorem isi_lst_int {ds : List D} {S : Store} {P : D → Store → Prop} : cIsi [(.lst ds), .ty "int"] S P = P (.bl false) S := propext ⟨fun h => h.2, fun h => ⟨by decide, h⟩⟩
theorem isi_lst_bool {ds : List D} {S : Store} {P : D → Store → Prop} : cIsi [(.lst ds), .ty "bool"] S P = P (.bl false) S := propext ⟨fun h => h.2, fun h => ⟨by decide, h⟩⟩
theorem isi_lst_str {ds : List D} {S : Store} {P : D → Store → Prop} : cIsi [(.lst ds), .ty "str"] S P = P (.bl false) S := propext ⟨fun h => h.2, fun h => ⟨by decide, h⟩⟩
theorem isi_lst_list {ds : List D} {S : Store} {P : D → Store → Prop} : cIsi [(.lst ds), .ty "list"] S P = P (.bl true) S := propext ⟨fun h => h.2, fun h => ⟨by decide, h⟩⟩
theorem isi_lst_tuple {ds : List D} {S : Store} {P : D → Store → Prop} : cIsi [(.lst ds), .ty "tuple"] S P = P (.bl false) S := propext ⟨fun h => h.2, fun h => ⟨by decide, h⟩⟩
theorem isi_lst_lt {ds : List D} {S : Store} {P : D → Store → Prop} : cIsi [(.lst ds), .tup [.ty "list", .ty "tuple"]] S P = P (.bl true) S := rfl
theorem isi_tup_int {ds : List D} {S : Store} {P : D → Store → Prop} : cIsi [(.tup ds), .ty "int"] S P = P (.bl false) S := propext ⟨fun h => h.2, fun h => ⟨by decide, h⟩⟩
theorem isi_tup_bool {ds : List D} {S : Store} {P : D → Store → Prop} : cIsi [(.tup ds), .ty "bool"] S P = P (.bl false) S := propext ⟨fun h => h.2, fun h => ⟨by decide, h⟩⟩
theorem isi_tup_str {ds : List D} {S : Store} {P : D → Store → Prop} : cIsi [(.tup ds), .ty "str"] S P = P (.bl false) S := propext ⟨fun h => h.2, fun h => ⟨by decide, h⟩⟩
theorem isi_tup_list {ds : List D} {S : Store} {P : D → Store → Prop} : cIsi [(.tup ds), .ty "list"] S P = P (.bl false) S := propext ⟨fun h => h.2, fun h => ⟨by decide, h⟩⟩
theorem isi_tup_tuple {ds : List D} {S : Store} {P : D → Store → Prop} : cIsi [(.tup ds), .ty "tuple"] S P = P (.bl true) S := propext ⟨fun h => h.2, fun h => ⟨by decide, h⟩⟩
theorem isi_tup_lt {ds : List D} {S : Store} {P : D → Store → Prop} : cIsi [(.tup ds), .tup [.ty "list", .ty "tuple"]] S P = P (.bl true) S := rfl
/-! ### a sum of lists, to be changed -/
def notExt : D → Bool
  | .ext _ => false
  | _ => true
def dAddM : D2 := fun x y S P => match lstOf S x, lstOf S y with
  | some xs, some ys => (notExt x = true ∧ notExt y = true) ∧ xs.length + ys.length ≤ 100000 ∧ ∀ p, S p = none → P (.obj p) (supd S p (.lst (xs ++ ys)))
  | _, _ => False
theorem i_addM {K : PySem.W.Frag} : Imp2 K (rCat) dAddM := by
  intro x y v w I S F H P Q ok rx ry h q
  unfold dAddM at h
  split at h
  · rename_i xs ys e1 e2
    obtain ⟨⟨n1, n2⟩, hl, h⟩ := h
    obtain ⟨l, xs', rfl, h1, r1⟩ := lst_hp ok rx e1 (fun es z => by subst z; cases n1)
    obtain ⟨l', ys', rfl, h2, r2⟩ := lst_hp ok ry e2 (fun es z => by subst z; cases n2)
    exact ⟨l, l', xs', ys', rfl, rfl, h1, h2, line5 (by rw [r1.len, r2.len]; exact hl), fun p' hp => q _ _ _ _ _ (h p' (ok.freshS hp)) (Same.refl I) (ok.newM hp (r1.app r2)) (by simp only [Rep])⟩
  · exact h.elim
theorem je_addM {X : Cx} {pos : Pos} {a b : Expr} {da db : DE} (ha : JE X a da) (hb : JE X b db) : JE X (.BinOp a .Add b pos) (dOp dAddM da db) := je_op op_cat i_addM ha hb
end DL
namespace DL
open PySem PySem.Spec PyProof.Rows L2
/-! ### a comprehension's list, to be changed -/
theorem Ok.showM {K : PySem.W.Frag} {I F H : Hp} {S : Store} (h : Ok K I S F H) {p : Addr} {xs : List V} {ds : List D} (e : F p = some (.lst xs)) (r : RepL K I ds xs) : Ok K I (supd S p (.lst ds)) (fun b => if b = p then none else F b) H := by
  obtain ⟨f1, f2, f3, f4⟩ := h.f p _ e
  refine ⟨h.i, fun a m q => ?_, fun a x q => ?_⟩
  · unfold supd at q
    by_cases z : a = p
    · subst z
      rw [if_pos rfl] at q; cases q
      exact ⟨f2, xs, f1, r⟩
    · rw [if_neg z] at q
      exact h.s a m q
  · by_cases z : a = p
    · rw [if_pos z] at q; cases q
    · rw [if_neg z] at q
      obtain ⟨h1, h2, h3, h4⟩ := h.f a x q
      exact ⟨h1, h2, by unfold supd; rw [if_neg z]; exact h3, h4⟩
def dLcM (di : DI) (t : Tgt) (tt : DT) (de : DE) : DE := fun ρ S P => dLc di t tt de ρ S fun x S1 => match x with
  | .lst acc => ∀ p, S1 p = none → P (.obj p) (supd S1 p (.lst acc))
  | _ => False
theorem up_lcM {X : Cx} {di : DI} {t : Tgt} {tt : DT} {de : DE} : ∀ σ H Q, upE X.K (dLcM di t tt de) σ H Q → tLc (upI X.K di) (upG X.K t) (upT X.K tt) (upE X.K de) t.slots σ H Q := fun σ H Q ⟨ρ, I, S, F, P, rs, ok, h, q⟩ => by
  refine ⟨ρ, I, S, F, _, rs, ok, h, fun ds pin S1 I1 H1 J hB e1 ok1 it => fun Dd hD => ?_⟩
  obtain ⟨hlen, W, w0, hpin, turn, fin⟩ := LcN.all hB
  simp only at fin
  have fI : I1 Dd = none := ok1.freshI hD
  refine ⟨fun i m H => m + i = ds.length ∧ ∃ I' S' acc vs, Same I1 I' ∧ Ok X.K I' S' (upd F Dd (.lst vs)) H ∧ RepL X.K I' acc vs ∧ acc.length ≤ i ∧ W i acc S', ⟨ds.length, by simp, I1, S1, [], [], Same.refl I1, ok1.newF hD ⟨fun y z => (by cases z), fun y z => (by cases z)⟩, RepL.nil, Nat.le_refl _, w0⟩, ?_⟩
  rintro i m H2 ⟨em, I2, S2, acc, vs, e2, ok2, rl, hacc, w2⟩
  by_cases hi : i < ds.length
  · refine .inr ?_
    obtain ⟨g1, g2⟩ := it.go I2 S2 _ H2 e2 ok2 (hpin _ _ _ w2) i ds[i] (List.getElem?_eq_getElem hi)
    obtain ⟨ρ3, hput, hbody⟩ := turn i ds[i] acc S2 (List.getElem?_eq_getElem hi) w2
    refine ⟨g1, fun H' => ∃ I' S' acc vs, Same I1 I' ∧ Ok X.K I' S' (upd F Dd (.lst vs)) H' ∧ RepL X.K I' acc vs ∧ acc.length ≤ i + 1 ∧ W (i + 1) acc S', fun H' h => ⟨m - 1, by omega, by omega, h⟩, fun x H3 hy => ?_⟩
    obtain ⟨I3, e3, ok3, r3⟩ := g2 x H3 hy
    refine ⟨dwipe ρ t.slots, ρ3, I3, S2, _, ds[i], ((rs.mono e1).mono (e2.trans e3)).wipe _, ok3, r3, hput, fun σ3 rs3 b3 => ⟨by
      rw [b3.wipe]
      apply List.ext_getElem?
      intro j
      rw [wipe_get, wipe_get, L2.wipe_length]
      split <;> simp_all, ?_⟩⟩
    refine ⟨ρ3, I3, S2, _, _, rs3, ok3, hbody, fun b S4 I4 H4 h4 e4 ok4 => ?_⟩
    cases b with
    | true =>
      rw [if_pos rfl] at h4 ⊢
      refine ⟨ρ3, I4, S4, _, _, rs3.mono e4, ok4, h4, fun y S5 v I5 H5 h5 e5 ok5 r5 => ?_⟩
      have hF : (upd F Dd (.lst vs)) Dd = some (.lst vs) := upd_same
      refine ⟨vs, (ok5.f Dd _ hF).1, ?_, I5, S5, acc ++ [y], vs ++ [v], (((e2.trans e3).trans e4).trans e5), ?_, (rl.mono ((e3.trans e4).trans e5)).app (RepL.one r5), by simp; omega, h5⟩
      · rw [rl.len]
        have : (100000 : Nat) < sizeLine := by decide
        omega
      · have := ok5.writeF (o' := .lst (vs ++ [v])) hF ⟨fun y z => (by cases z), fun y z => (by cases z)⟩
        rwa [upd_upd] at this
    | false =>
      rw [if_neg Bool.false_ne_true] at h4 ⊢
      exact ⟨I4, S4, acc, vs, ((e2.trans e3).trans e4), ok4, rl.mono (e3.trans e4), by omega, h4⟩
  · have e : i = ds.length := by omega
    subst e
    refine .inl ⟨it.stop I2 S2 _ H2 e2 ok2 (hpin _ _ _ w2) _ rfl, ?_⟩
    have hF : (upd F Dd (.lst vs)) Dd = some (.lst vs) := upd_same
    have i2 : I2 Dd = none := (ok2.f Dd _ hF).2.1
    have ok4 : Ok X.K I2 (supd S2 Dd (.lst acc)) F H2 := by
      have ok3 := ok2.showM hF rl
      refine ⟨ok3.i, ok3.s, fun a x q => ?_⟩
      have ne : a ≠ Dd := fun z => by
        subst z
        rw [(ok1.freshF hD)] at q; cases q
      exact ok3.f a x (by show (if a = Dd then none else upd F Dd (.lst vs) a) = some x; rw [if_neg ne, upd_ne ne]; exact q)
    exact q _ _ _ _ _ (fin acc S2 w2 Dd (ok2.f Dd _ hF).2.2.1) (e1.trans e2) ok4 (by simp only [Rep])
section
variable {X : Cx} {pos : Pos}
theorem je_lcM {elt tg iter : Expr} {ifs : List Expr} {scope : Scope} (own : List (Str × Nat)) {di : DI} {t : Tgt} {tt : DT} {de : DE} (hc : X.calm = true) (hN : X.N.Nodup) (hi : JI X tg iter di) (ok : BlkOk X.N X.env.scope scope own) (ho : own.map (·.2) = t.slots)
    (hg : ∀ (s : Shared) (H : Hp) (C : Addr) (cl : List (Str × Addr)) (fp : List Addr), JG (X.blk s H scope (compEnvC scope cl C X.env) fp) tg t) (ht : ∀ (s : Shared) (H : Hp) (C : Addr) (cl : List (Str × Addr)) (fp : List Addr), JTs (X.blk s H scope (compEnvC scope cl C X.env) fp) ifs tt)
    (he : ∀ (s : Shared) (H : Hp) (C : Addr) (cl : List (Str × Addr)) (fp : List Addr), JE (X.blk s H scope (compEnvC scope cl C X.env) fp) elt de) (hs : ∀ x, foldedSetIterable iter X.env x = pure x := by intro _; rfl) :
    JE X (.ListComp elt [⟨tg, iter, ifs, 0⟩] scope pos) (dLcM di t tt de) :=
  je_of (pe_lc hc hN hi ok hg ht he hs) fun σ H Q h => by
    rw [ho]
    exact up_lcM σ H Q h
theorem js_setLcM (i : Nat) {y : Str} {py : Pos} {elt tg iter : Expr} {ifs : List Expr} {scope : Scope} (own : List (Str × Nat)) {spos : Pos} {di : DI} {t : Tgt} {tt : DT} {de : DE} (hc : X.calm = true) (hN : X.N.Nodup) (hy : X.N[i]? = some y) (hyl : X.env.scope.names.lookup y = some .local)
    (hsw : swapsWith (.ListComp elt [⟨tg, iter, ifs, 0⟩] scope pos) (some (.Name y py)) spos.line X.env = pure true) (hi : JI X tg iter di) (ok : BlkOk X.N X.env.scope scope own) (ho : own.map (·.2) = t.slots)
    (hg : ∀ (s : Shared) (H : Hp) (C : Addr) (cl : List (Str × Addr)) (fp : List Addr), JG (X.blk s H scope (compEnvC scope cl C X.env) fp) tg t) (ht : ∀ (s : Shared) (H : Hp) (C : Addr) (cl : List (Str × Addr)) (fp : List Addr), JTs (X.blk s H scope (compEnvC scope cl C X.env) fp) ifs tt)
    (he : ∀ (s : Shared) (H : Hp) (C : Addr) (cl : List (Str × Addr)) (fp : List Addr), JE (X.blk s H scope (compEnvC scope cl C X.env) fp) elt de) (hs : ∀ x, foldedSetIterable iter X.env x = pure x := by intro _; rfl) :
    JS X (.Assign [.Name y py] (.ListComp elt [⟨tg, iter, ifs, 0⟩] scope pos) spos) (dSet i (dLcM di t tt de)) :=
  js_of (ps_setLc hc hN hy hyl hsw hi ok hg ht he hs) fun D σ H ⟨ρ, I, S, F, DD, rs, ok, h, q⟩ => by
    rw [ho]
    exact up_lcM (X := X) σ H _ ⟨ρ, I, S, F, _, rs, ok, h, fun x S1 v I1 H1 h1 e1 ok1 r1 => q.nx _ _ _ _ _ h1 e1 ok1 ((rs.mono e1).set i r1)⟩
end
end DL

/-! fractions as data, their sizes -/
namespace Lb
open PySem PySem.Spec PyProof.Rows L2 DL

theorem supd_same0 {S : Store} {p : Addr} {m : MO} : supd S p m p = some m := by unfold supd; rw [if_pos rfl]
theorem put_nm {i : Nat} {x : D} {ρ : DSt} : Tgt.put (.nm i) x ρ = some (ρ.set i (some x)) := by simp only [Tgt.put]
theorem put_tp {ts : List Tgt} {xs : List D} {ρ : DSt} : Tgt.put (.tp ts) (.tup xs) ρ = Tgt.putL ts xs ρ := by simp only [Tgt.put]
theorem put_tl {ts : List Tgt} {xs : List D} {ρ : DSt} : Tgt.put (.tp ts) (.lst xs) ρ = Tgt.putL ts xs ρ := by simp only [Tgt.put]
theorem putL_nil {ρ : DSt} : Tgt.putL [] [] ρ = some ρ := by simp only [Tgt.putL]
theorem putL_cons {t : Tgt} {ts : List Tgt} {x : D} {xs : List D} {ρ : DSt} : Tgt.putL (t :: ts) (x :: xs) ρ = (t.put x ρ).bind fun ρ' => Tgt.putL ts xs ρ' := by simp only [Tgt.putL]
def encR (q : Rat) : D := .tup [.int q.num, .int (q.den : Int)]
theorem encR_inj {q r : Rat} (h : encR q = encR r) : q = r := by
  unfold encR at h
  simp only [D.tup.injEq, List.cons.injEq, D.int.injEq, and_true] at h
  exact Rat.ext h.1 (by omega)
theorem encR_int (n : Int) : encR (n : Rat) = .tup [.int n, .int 1] := rfl
/-- so many bits at most -/
def Sz (n : Nat) (q : Rat) : Prop := q.num.natAbs < 2 ^ n ∧ q.den < 2 ^ n
theorem Sz.mono {n m : Nat} {q : Rat} (h : Sz n q) (hm : n ≤ m) : Sz m q := ⟨Nat.lt_of_lt_of_le h.1 (Nat.pow_le_pow_right (by decide) hm), Nat.lt_of_lt_of_le h.2 (Nat.pow_le_pow_right (by decide) hm)⟩
theorem sz_int {n : Nat} {k : Int} (h : k.natAbs < 2 ^ n) (h1 : 1 ≤ n := by decide) : Sz n (k : Rat) := ⟨h, by show 1 < 2 ^ n; exact Nat.one_lt_two_pow (by omega)⟩
theorem frac_num {a b : Int} (hb : b ≠ 0) : ((a : Rat) / (b : Rat)).num = b.sign * a / (Int.gcd a b : Int) ∧ (((a : Rat) / (b : Rat)).den : Int) = (b.natAbs : Int) / (Int.gcd a b : Int) := by
  rw [← Rat.divInt_eq_div, Rat.num_divInt, Rat.den_divInt, if_neg hb, Int.gcd_comm b a]
  exact ⟨rfl, by simp⟩
theorem gcd_pos_r {a b : Int} (hb : b ≠ 0) : 0 < (Int.gcd a b : Int) := by
  have := Int.gcd_pos_of_ne_zero_right a hb
  omega
theorem natAbs_div_le (a : Int) (g : Int) (hg : 0 < g) : (a / g).natAbs ≤ a.natAbs := by
  exact Int.natAbs_ediv_le_natAbs a g
/-- the size of a quotient of whole numbers -/
theorem sz_frac {n : Nat} {a b : Int} (hb : b ≠ 0) (h1 : a.natAbs < 2 ^ n) (h2 : b.natAbs < 2 ^ n) : Sz n ((a : Rat) / (b : Rat)) := by
  obtain ⟨e1, e2⟩ := frac_num (a := a) hb
  have hg := gcd_pos_r (a := a) hb
  have hdvd : (Int.gcd a b : Int) ∣ a := Int.gcd_dvd_left a b
  refine ⟨?_, ?_⟩
  · rw [e1]
    refine Nat.lt_of_le_of_lt (natAbs_div_le _ _ hg) ?_
    rw [Int.natAbs_mul]
    have : b.sign.natAbs ≤ 1 := by
      rcases Int.lt_trichotomy b 0 with h | h | h
      · simp [Int.sign_eq_neg_one_of_neg h]
      · exact absurd h hb
      · simp [Int.sign_eq_one_of_pos h]
    calc b.sign.natAbs * a.natAbs ≤ 1 * a.natAbs := Nat.mul_le_mul_right _ this
      _ < 2 ^ n := by omega
  · have : (((a : Rat) / (b : Rat)).den : Int).natAbs ≤ b.natAbs := by
      rw [e2]
      exact Nat.le_trans (natAbs_div_le _ _ hg) (by simp)
    omega
theorem rat_eq (q : Rat) : q = (q.num : Rat) / ((q.den : Int) : Rat) := by
  rw [← Rat.divInt_eq_div, Rat.num_divInt_den]
theorem den_ne (q : Rat) : ((q.den : Int) : Rat) ≠ 0 := by
  have : (q.den : Int) ≠ 0 := by have := q.den_pos; omega
  intro h
  exact this (by exact_mod_cast h)
theorem rat_add (q r : Rat) : q + r = ((q.num * (r.den : Int) + r.num * (q.den : Int) : Int) : Rat) / (((q.den : Int) * (r.den : Int) : Int) : Rat) := by
  rw [← Rat.divInt_eq_div, Rat.add_def', ← Rat.divInt_ofNat, Int.natCast_mul]
theorem rat_sub (q r : Rat) : q - r = ((q.num * (r.den : Int) - r.num * (q.den : Int) : Int) : Rat) / (((q.den : Int) * (r.den : Int) : Int) : Rat) := by
  rw [← Rat.divInt_eq_div, Rat.sub_def', ← Rat.divInt_ofNat, Int.natCast_mul]
theorem rat_mul (q r : Rat) : q * r = ((q.num * r.num : Int) : Rat) / (((q.den : Int) * (r.den : Int) : Int) : Rat) := by
  rw [← Rat.divInt_eq_div, Rat.mul_def', ← Rat.divInt_ofNat, Int.natCast_mul]
theorem rat_div (q r : Rat) (h : r ≠ 0) : q / r = ((q.num * (r.den : Int) : Int) : Rat) / (((q.den : Int) * r.num : Int) : Rat) := by
  have hr : (r.num : Rat) ≠ 0 := by
    intro z
    exact h (Rat.num_eq_zero.mp (by exact_mod_cast z))
  have h1 := den_ne q
  have h2 := den_ne r
  have e1 := rat_eq q
  have e2 := rat_eq r
  generalize hqn : (q.num : Rat) = qn at *
  generalize hqd : ((q.den : Int) : Rat) = qd at *
  generalize hrn : (r.num : Rat) = rn at *
  generalize hrd : ((r.den : Int) : Rat) = rd at *
  rw [Rat.intCast_mul, Rat.intCast_mul, hqn, hqd, hrn, hrd, e1, e2]
  grind
theorem pow_bound {a b n m : Nat} (h1 : a < 2 ^ n) (h2 : b < 2 ^ m) : a * b < 2 ^ (n + m) := by
  rw [Nat.pow_add]
  exact Nat.mul_lt_mul'' h1 h2
theorem den_nz (q : Rat) : (q.den : Int) ≠ 0 := by have := q.den_pos; omega
theorem add_bound {q r : Rat} {n m : Nat} (h1 : Sz n q) (h2 : Sz m r) (s : Int) (hs : s.natAbs = 1) : (q.num * (r.den : Int) + s * (r.num * (q.den : Int))).natAbs < 2 ^ (n + m + 1) ∧ ((q.den : Int) * (r.den : Int)).natAbs < 2 ^ (n + m + 1) := by
  have a1 := pow_bound h1.1 h2.2
  have a2 := pow_bound h2.1 h1.2
  have a3 := pow_bound h1.2 h2.2
  have e : 2 ^ (n + m + 1) = 2 * 2 ^ (n + m) := by rw [Nat.pow_succ]; omega
  have e2 : 2 ^ (m + n) = 2 ^ (n + m) := by rw [Nat.add_comm]
  rw [e2] at a2
  constructor
  · refine Nat.lt_of_le_of_lt (Int.natAbs_add_le _ _) ?_
    rw [Int.natAbs_mul, Int.natAbs_mul, Int.natAbs_mul, hs]
    simp only [Int.natAbs_natCast, Nat.one_mul]
    omega
  · rw [Int.natAbs_mul]
    simp only [Int.natAbs_natCast]
    omega
theorem sz_add {q r : Rat} {n m : Nat} (h1 : Sz n q) (h2 : Sz m r) : Sz (n + m + 1) (q + r) := by
  rw [rat_add]
  have := add_bound h1 h2 1 rfl
  exact sz_frac (Int.mul_ne_zero (den_nz q) (den_nz r)) (by simpa using this.1) this.2
theorem sz_sub {q r : Rat} {n m : Nat} (h1 : Sz n q) (h2 : Sz m r) : Sz (n + m + 1) (q - r) := by
  rw [rat_sub]
  have := add_bound h1 h2 (-1) rfl
  exact sz_frac (Int.mul_ne_zero (den_nz q) (den_nz r)) (by
    have e : q.num * (r.den : Int) - r.num * (q.den : Int) = q.num * (r.den : Int) + -1 * (r.num * (q.den : Int)) := by omega
    rw [e]; exact this.1) this.2
theorem mul_bound {q r : Rat} {n m : Nat} (h1 : Sz n q) (h2 : Sz m r) : (q.num * r.num).natAbs < 2 ^ (n + m) ∧ ((q.den : Int) * (r.den : Int)).natAbs < 2 ^ (n + m) := by
  constructor
  · rw [Int.natAbs_mul]; exact pow_bound h1.1 h2.1
  · rw [Int.natAbs_mul]; simp only [Int.natAbs_natCast]; exact pow_bound h1.2 h2.2
theorem sz_mul {q r : Rat} {n m : Nat} (h1 : Sz n q) (h2 : Sz m r) : Sz (n + m) (q * r) := by
  rw [rat_mul]
  have := mul_bound h1 h2
  exact sz_frac (Int.mul_ne_zero (den_nz q) (den_nz r)) this.1 this.2
theorem div_bound {q r : Rat} {n m : Nat} (h1 : Sz n q) (h2 : Sz m r) : (q.num * (r.den : Int)).natAbs < 2 ^ (n + m) ∧ ((q.den : Int) * r.num).natAbs < 2 ^ (n + m) := by
  constructor
  · rw [Int.natAbs_mul]; exact pow_bound h1.1 h2.2
  · rw [Int.natAbs_mul]; simp only [Int.natAbs_natCast]; exact pow_bound h1.2 h2.1
theorem num_nz {r : Rat} (h : r ≠ 0) : r.num ≠ 0 := fun z => h (Rat.num_eq_zero.mp z)
theorem sz_div {q r : Rat} {n m : Nat} (h : r ≠ 0) (h1 : Sz n q) (h2 : Sz m r) : Sz (n + m) (q / r) := by
  rw [rat_div _ _ h]
  have := div_bound h1 h2
  exact sz_frac (Int.mul_ne_zero (den_nz q) (num_nz h)) this.1 this.2
theorem sz_neg {q : Rat} {n : Nat} (h : Sz n q) : Sz n (-q) := by
  refine ⟨?_, ?_⟩
  · rw [Rat.neg_num, Int.natAbs_neg]; exact h.1
  · rw [Rat.neg_den]; exact h.2
theorem log_lt {a n : Nat} (h : a < 2 ^ n) (hn : 0 < n) : a.log2 < n := PySem.Flt.log2_lt_of hn h
theorem mulB {i j : Int} {n m : Nat} (h1 : i.natAbs < 2 ^ n) (h2 : j.natAbs < 2 ^ m) (h : n + m ≤ 900000) : MulB i j := by
  refine .inr ?_
  unfold CMulW
  have a := log_lt (n := n + 1) (Nat.lt_trans h1 (Nat.pow_lt_pow_right (by decide) (by omega))) (by omega)
  have b := log_lt (n := m + 1) (Nat.lt_trans h2 (Nat.pow_lt_pow_right (by decide) (by omega))) (by omega)
  omega
theorem mulS {i j : Int} (h : -(2 ^ 64) < i ∧ i < 2 ^ 64 := by omega) : MulB i j := .inl (.inl h)
theorem mulS2 {i j : Int} (h : -(2 ^ 64) < j ∧ j < 2 ^ 64 := by omega) : MulB i j := .inl (.inr h)
theorem divB {j : Int} {n : Nat} (h0 : j ≠ 0) (h1 : j.natAbs < 2 ^ n) (h : n ≤ 8999) : DivB j := by
  have a := log_lt (n := n + 1) (Nat.lt_trans h1 (Nat.pow_lt_pow_right (by decide) (by omega))) (by omega)
  exact ⟨h0, by omega⟩
theorem divS {j : Int} (h0 : j ≠ 0) (h : j.natAbs < 2 ^ 60 := by omega) : DivB j := divB (n := 60) h0 h (by decide)

/-! powers of a base -/
theorem zpow_of_nat (b : Rat) (n : Nat) : b ^ (n : Int) = b ^ n := rfl
theorem intpow_cast (b : Int) (n : Nat) : ((b ^ n : Int) : Rat) = (b : Rat) ^ n := by
  induction n with
  | zero => simp
  | succ n ih => rw [Int.pow_succ, Rat.pow_succ, Rat.intCast_mul, ih]
theorem encR_zpow_nn (b : Int) (k : Int) (h : 0 ≤ k) : encR ((b : Rat) ^ k) = .tup [.int (b ^ k.toNat), .int 1] := by
  have : (b : Rat) ^ k = ((b ^ k.toNat : Int) : Rat) := by
    rw [intpow_cast, ← zpow_of_nat]
    congr 1; omega
  rw [this]; rfl
theorem encR_zpow_neg (b : Int) (k : Int) (hb : 0 < b) (h : k < 0) : encR ((b : Rat) ^ k) = .tup [.int 1, .int (b ^ (-k).toNat)] := by
  have hp : 0 < b ^ (-k).toNat := Int.pow_pos hb
  have : (b : Rat) ^ k = ((1 : Int) : Rat) / ((b ^ (-k).toNat : Int) : Rat) := by
    rw [intpow_cast, ← zpow_of_nat]
    have e : k = -(((-k).toNat : Nat) : Int) := by omega
    conv => lhs; rw [e, Rat.zpow_neg]
    simp [Rat.div_def]
  obtain ⟨e1, e2⟩ := frac_num (a := 1) (b := b ^ (-k).toNat) (by omega)
  unfold encR
  rw [this, e1, e2]
  have s : (b ^ (-k).toNat).sign = 1 := Int.sign_eq_one_of_pos hp
  have g1 : Int.gcd 1 (b ^ (-k).toNat) = 1 := by simp
  rw [s, g1]
  have e3 : ((b ^ (-k).toNat).natAbs : Int) = b ^ (-k).toNat := by omega
  rw [e3]
  simp
theorem sz_zpow {b k : Int} (hb : 0 < b) (hb2 : b ≤ 16) : Sz (4 * k.natAbs + 1) ((b : Rat) ^ k) := by
  have key : ∀ n : Nat, (b ^ n).natAbs < 2 ^ (4 * n + 1) := fun n => by
    rw [Int.natAbs_pow]
    have h1 : b.natAbs ≤ 2 ^ 4 := by omega
    calc b.natAbs ^ n ≤ (2 ^ 4) ^ n := Nat.pow_le_pow_left h1 n
      _ = 2 ^ (4 * n) := by rw [Nat.pow_mul]
      _ < 2 ^ (4 * n + 1) := Nat.pow_lt_pow_right (by decide) (by omega)
  by_cases h : 0 ≤ k
  · have e := encR_zpow_nn b k h
    unfold encR at e
    simp only [D.tup.injEq, List.cons.injEq, D.int.injEq, and_true] at e
    have hk : k.toNat = k.natAbs := by omega
    refine ⟨by rw [e.1, hk]; exact key _, ?_⟩
    have : ((b : Rat) ^ k).den = 1 := by omega
    rw [this]
    exact Nat.one_lt_two_pow (by omega)
  · have e := encR_zpow_neg b k hb (by omega)
    unfold encR at e
    simp only [D.tup.injEq, List.cons.injEq, D.int.injEq, and_true] at e
    have hk : (-k).toNat = k.natAbs := by omega
    refine ⟨by rw [e.1]; exact Nat.one_lt_two_pow (by omega), ?_⟩
    have h2 := key k.natAbs
    rw [hk] at e
    have h3 : ((((b : Rat) ^ k).den : Int)).natAbs < 2 ^ (4 * k.natAbs + 1) := by rw [e.2]; exact h2
    omega
end Lb

namespace Lb
open PySem PySem.Spec PyProof.Rows L2 DL
theorem atI_0 {α : Type} (a : α) (l : List α) : atI (a :: l) 0 = some a := by
  unfold atI ixN
  rw [if_pos (by decide), if_pos (by simp only [List.length_cons]; omega)]
  rfl
theorem atI_1 {α : Type} (a b : α) (l : List α) : atI (a :: b :: l) 1 = some b := by
  unfold atI ixN
  rw [if_pos (by decide), if_pos (by simp only [List.length_cons]; omega)]
  rfl
theorem atI_2 {α : Type} (a b c : α) (l : List α) : atI (a :: b :: c :: l) 2 = some c := by
  unfold atI ixN
  rw [if_pos (by decide), if_pos (by simp only [List.length_cons]; omega)]
  rfl
theorem atI_3 {α : Type} (a b c d : α) (l : List α) : atI (a :: b :: c :: d :: l) 3 = some d := by
  unfold atI ixN
  rw [if_pos (by decide), if_pos (by simp only [List.length_cons]; omega)]
  rfl
theorem eqB_ii {i j : Int} : dEqB (.int i) (.int j) = some (decide (i = j)) := rfl
theorem eqB_bb {i j : Bool} : dEqB (.bl i) (.bl j) = some (decide (i = j)) := rfl
theorem eqB_ss {i j : Str} : dEqB (.str i) (.str j) = some (decide (i = j)) := rfl
theorem eqB_nn : dEqB .non .non = some true := rfl
theorem eqB_ni {j : Int} : dEqB .non (.int j) = some false := rfl
theorem eqB_in {j : Int} : dEqB (.int j) .non = some false := rfl
theorem eqB_ns {j : Str} : dEqB .non (.str j) = some false := rfl
theorem eqB_sn {j : Str} : dEqB (.str j) .non = some false := rfl
theorem eqB_is {i : Int} {j : Str} : dEqB (.int i) (.str j) = some false := rfl
theorem eqB_si {i : Int} {j : Str} : dEqB (.str j) (.int i) = some false := rfl
theorem eqB_nb {j : Bool} : dEqB .non (.bl j) = some false := rfl
theorem eqB_bn {j : Bool} : dEqB (.bl j) .non = some false := rfl
theorem map_toNat_inj : ∀ (l m : List Char), l.map Char.toNat = m.map Char.toNat → l = m
  | [], [], _ => rfl
  | [], _ :: _, h => by simp at h
  | _ :: _, [], h => by simp at h
  | a :: l, b :: m, h => by
    simp only [List.map_cons, List.cons.injEq] at h
    rw [map_toNat_inj l m h.2, Char.toNat_inj.mp h.1]
theorem ofString_inj (a b : String) : (Str.ofString a = Str.ofString b) = (a = b) := by
  apply propext
  constructor
  · intro h
    rw [Str.ofString_eq_toList, Str.ofString_eq_toList] at h
    have h : List.map Char.toNat a.toList = List.map Char.toNat b.toList := congrArg (fun z : Str => z.cps.toList) h
    have : a.toList = b.toList := map_toNat_inj _ _ h
    exact String.ext this
  · intro h; rw [h]
local macro_rules | `(tactic| walk_at "dgo") => `(tactic| try simp only [dSeq, dSet, dPar, dOp, dUn, dVar, dC, dCB, dCons, dNil, dTup, dLst, dLstM, dIfS, dIf, dTest, dNot, dAnd, dOr, dAndV, dOrV, dNotV, dRet, dRetN, dEnd, dNext, dAdd, dSub, dMul, dFdiv, dMod, dPow, dNeg, dLt, dLe, dGt, dGe, dEq, dNe, eqB_ii, eqB_bb, eqB_ss, eqB_nn, eqB_ni, eqB_in, eqB_ns, eqB_sn, eqB_is, eqB_si, eqB_nb, eqB_bn, dIx, dIn, dIsN, dNotN, DL.isNon, cAbs, cMax2, cMin2, cInt, cLen, cList, cTuple, dIsB, dNotB, dPar3, ForN, LcN, pinOf, pin2, dEnum2, dAppend, supd_same0, isi_non_int, isi_non_bool, isi_non_str, isi_non_list, isi_non_tuple, isi_non_lt, isi_bl_int, isi_bl_bool, isi_bl_str, isi_bl_list, isi_bl_tuple, isi_bl_lt, isi_int_int, isi_int_bool, isi_int_str, isi_int_list, isi_int_tuple, isi_int_lt, isi_str_int, isi_str_bool, isi_str_str, isi_str_list, isi_str_tuple, isi_str_lt, isi_lst_int, isi_lst_bool, isi_lst_str, isi_lst_list, isi_lst_tuple, isi_lst_lt, isi_tup_int, isi_tup_bool, isi_tup_str, isi_tup_list, isi_tup_tuple, isi_tup_lt, dAug, dIAdd, dIMul, dDrop, dSl, dPart, dNoPart, dRevL, dCallK, dChainR, dAsg, put_nm, put_tp, put_tl, putL_nil, putL_cons, Option.bind, seqOf, lstOf, dFor, dLc, dLcM, dItSeq, dZip, dZipS, dEnum, dRng1, dRng2, dYes, dwipe, Tgt.slots, Tgt.slotsL,
  atI_0, atI_1, atI_2, atI_3, List.getElem?_cons_zero, List.getElem?_cons_succ, List.set_cons_zero, List.set_cons_succ, decide_eq_true_eq, List.length_cons, List.length_nil, List.cons_append, List.nil_append, List.append_nil, ofString_inj, String.reduceEq, decide_true, decide_false, reduceIte, Bool.false_eq_true, Bool.not_true, Bool.not_false, eqFlat, isFlat, List.any_cons, List.any_nil, List.all_cons, List.all_nil, Bool.or_false, Bool.or_true, Bool.false_or, Bool.true_or, Bool.and_true, Bool.true_and, true_and, and_true, Nat.reduceAdd, Nat.reduceLeDiff, Int.reduceLT, Int.reduceLE, Int.reduceNeg])
/-! ### fractions -/
def sp_common : DSp := fun ds S P => ∃ a b : Int, ds = [.int a, .int b] ∧ 0 ≤ a ∧ 0 ≤ b ∧ P (.int (Int.gcd a b)) S
def rd_common : DS :=
  (dSeq (dWhile (dTest (dOp dGt (dVar 1) (dC (.int 0)))) (dPar 0 1 (dCons (dVar 1) (dCons (dOp dMod (dVar 0) (dVar 1)) dNil))))
  (dRet (dVar 0)))
def goal_common : Prop := ∀ (x0 x1 : D) (S : Store) (P : D → Store → Prop), sp_common [x0, x1] S P → rd_common (dEnd P) [some x0, some x1] S
theorem len_common : ∀ ds S P, sp_common ds S P → ds.length = 2 := by
  rintro ds S P ⟨a, b, rfl, _⟩; rfl
theorem gcd_step (c d : Int) (h : 0 < d) : Int.gcd d (c % d) = Int.gcd c d := by
  have hc : Int.gcd d (c % d) = Int.gcd d c := by
    have e : c = d * (c / d) + c % d := by have := Int.emod_add_mul_ediv c d; omega
    conv => rhs; rw [e]
    simp
  rw [hc, Int.gcd_comm]
theorem vc_common : goal_common := by
  rintro x0 x1 S P ⟨a, b, e, ha, hb, h⟩
  cases e
  unfold rd_common
  walk_at "dgo"
  refine ⟨fun m ρ S' => ∃ c d : Int, m = d.toNat ∧ ρ = [some (.int c), some (.int d)] ∧ S' = S ∧ 0 ≤ c ∧ 0 ≤ d ∧ Int.gcd c d = Int.gcd a b, ⟨_, a, b, rfl, rfl, rfl, ha, hb, rfl⟩, ?_⟩
  rintro m ρ S' ⟨c, d, rfl, rfl, rfl, hc, hd, hg⟩
  walk_at "dgo"
  split
  · rename_i h0
    have h1 := Int.emod_nonneg c (b := d) (by omega)
    have h2 := Int.emod_lt_of_pos c h0
    exact ⟨h0, (c % d).toNat, by omega, d, c % d, rfl, rfl, hd, h1, by rw [← hg]; exact gcd_step c d h0⟩
  · have : d = 0 := by omega
    subst this
    have e : (c : Int) = (Int.gcd a b : Int) := by
      rw [← hg, Int.gcd_zero_right]; omega
    rw [e]; exact h
def sp_frac : DSp := fun ds S P => ∃ a b : Int, ds = [.int a, .int b] ∧ b ≠ 0 ∧ a.natAbs < 2 ^ 8900 ∧ b.natAbs < 2 ^ 8900 ∧ P (encR ((a : Rat) / (b : Rat))) S
def rd_frac : DS :=
  (dSeq (dSet 2 (dCB sp_common (dCons (dCB cAbs (dCons (dVar 0) dNil)) (dCons (dCB cAbs (dCons (dVar 1) dNil)) dNil))))
  (dSeq (dSet 2 (dIf (dTest (dOp dGt (dVar 1) (dC (.int 0)))) (dVar 2) (dUn dNeg (dVar 2))))
  (dRet (dTup (dCons (dOp dFdiv (dVar 0) (dVar 2)) (dCons (dOp dFdiv (dVar 1) (dVar 2)) dNil))))))
def goal_frac : Prop := ∀ (x0 x1 : D) (S : Store) (P : D → Store → Prop), sp_frac [x0, x1] S P → rd_frac (dEnd P) [some x0, some x1, none] S
theorem len_frac : ∀ ds S P, sp_frac ds S P → ds.length = 2 := by
  rintro ds S P ⟨a, b, rfl, _⟩; rfl
theorem abs_if (a : Int) : (if a < 0 then -a else a) = (a.natAbs : Int) := by split <;> omega
theorem gcd_abs (a b : Int) : Int.gcd (a.natAbs : Int) (b.natAbs : Int) = Int.gcd a b := by simp [Int.gcd]
theorem gcd_le_r {a b : Int} (hb : b ≠ 0) : Int.gcd a b ≤ b.natAbs := Nat.le_of_dvd (by omega) (by have := Int.natAbs_dvd_natAbs.mpr (Int.gcd_dvd_right a b); simpa using this)
theorem fdiv_dvd {a g k : Int} (hg : g ≠ 0) (e : a = g * k) : a.fdiv g = k := by
  subst e
  exact Int.mul_fdiv_cancel_left k hg
theorem encR_frac {a b : Int} (hb : b ≠ 0) : encR ((a : Rat) / (b : Rat)) = .tup [.int (b.sign * a / (Int.gcd a b : Int)), .int ((b.natAbs : Int) / (Int.gcd a b : Int))] := by
  obtain ⟨e1, e2⟩ := frac_num (a := a) hb
  unfold encR
  rw [e1, e2]
theorem vc_frac : goal_frac := by
  rintro x0 x1 S P ⟨a, b, e, hb, h1, h2, h⟩
  cases e
  unfold rd_frac
  walk_at "dgo"
  refine ⟨_, _, rfl, by rw [abs_if]; omega, by rw [abs_if]; omega, ?_⟩
  rw [abs_if, abs_if, gcd_abs]
  have hg := gcd_pos_r (a := a) hb
  obtain ⟨k, ek⟩ : (Int.gcd a b : Int) ∣ a := Int.gcd_dvd_left a b
  obtain ⟨l, el⟩ : (Int.gcd a b : Int) ∣ b := Int.gcd_dvd_right a b
  have hgl := gcd_le_r (a := a) hb
  rw [encR_frac hb] at h
  generalize hG : (Int.gcd a b : Int) = g at *
  have hgs : g.natAbs < 2 ^ 8900 := by omega
  walk_at "dgo"
  by_cases hp : 0 < b
  · rw [if_pos hp]
    refine ⟨divB (n := 8900) (by omega) hgs (by decide), divB (n := 8900) (by omega) hgs (by decide), ?_⟩
    rw [Int.sign_eq_one_of_pos hp, Int.one_mul] at h
    have e1 : a.fdiv g = a / g := by rw [Int.fdiv_eq_ediv_of_nonneg _ (by omega)]
    have e2 : b.fdiv g = (b.natAbs : Int) / g := by
      rw [Int.fdiv_eq_ediv_of_nonneg _ (by omega)]
      congr 1; omega
    rw [e1, e2]; exact h
  · rw [if_neg hp]
    refine ⟨divB (n := 8900) (by omega) (by rw [Int.natAbs_neg]; exact hgs) (by decide), divB (n := 8900) (by omega) (by rw [Int.natAbs_neg]; exact hgs) (by decide), ?_⟩
    rw [Int.sign_eq_neg_one_of_neg (show b < 0 by omega)] at h
    have e1 : a.fdiv (-g) = -1 * a / g := by
      rw [fdiv_dvd (k := -k) (by omega) (by rw [Int.neg_mul_neg]; exact ek)]
      rw [show -1 * a = g * (-k) by rw [ek]; simp [Int.mul_neg]]
      rw [Int.mul_ediv_cancel_left _ (by omega)]
    have e2 : b.fdiv (-g) = (b.natAbs : Int) / g := by
      rw [fdiv_dvd (k := -l) (by omega) (by rw [Int.neg_mul_neg]; exact el)]
      rw [show (b.natAbs : Int) = g * (-l) by rw [Int.mul_neg, ← el]; omega]
      rw [Int.mul_ediv_cancel_left _ (by omega)]
    rw [e1, e2]; exact h
theorem bound_mono {x : Nat} {n m : Nat} (h : x < 2 ^ n) (hm : n ≤ m := by decide) : x < 2 ^ m := Nat.lt_of_lt_of_le h (Nat.pow_le_pow_right (by decide) hm)
/-- two fractions of moderate size -/
def sp_plus : DSp := fun ds S P => ∃ q r : Rat, ds = [encR q, encR r] ∧ Sz 4000 q ∧ Sz 4000 r ∧ P (encR (q + r)) S
def rd_plus : DS :=
  (dRet (dCB sp_frac (dCons (dOp dAdd (dOp dMul (dOp dIx (dVar 0) (dC (.int 0))) (dOp dIx (dVar 1) (dC (.int 1)))) (dOp dMul (dOp dIx (dVar 1) (dC (.int 0))) (dOp dIx (dVar 0) (dC (.int 1))))) (dCons (dOp dMul (dOp dIx (dVar 0) (dC (.int 1))) (dOp dIx (dVar 1) (dC (.int 1)))) dNil))))
def goal_plus : Prop := ∀ (x0 x1 : D) (S : Store) (P : D → Store → Prop), sp_plus [x0, x1] S P → rd_plus (dEnd P) [some x0, some x1] S
theorem len_plus : ∀ ds S P, sp_plus ds S P → ds.length = 2 := by
  rintro ds S P ⟨a, b, rfl, _⟩; rfl
theorem szmul {q : Rat} {r : Rat} {n m : Nat} (h1 : Sz n q) (h2 : Sz m r) (h : n + m ≤ 900000) : MulB q.num (r.den : Int) := mulB h1.1 (by simpa using h2.2) h
theorem szmulN {q : Rat} {r : Rat} {n m : Nat} (h1 : Sz n q) (h2 : Sz m r) (h : n + m ≤ 900000) : MulB q.num r.num := mulB h1.1 h2.1 h
theorem szmulD {q : Rat} {r : Rat} {n m : Nat} (h1 : Sz n q) (h2 : Sz m r) (h : n + m ≤ 900000) : MulB (q.den : Int) (r.den : Int) := mulB (by simpa using h1.2) (by simpa using h2.2) h
theorem szmulDN {q : Rat} {r : Rat} {n m : Nat} (h1 : Sz n q) (h2 : Sz m r) (h : n + m ≤ 900000) : MulB (q.den : Int) r.num := mulB (by simpa using h1.2) h2.1 h
theorem vc_plus : goal_plus := by
  rintro x0 x1 S P ⟨q, r, e, h1, h2, h⟩
  cases e
  unfold rd_plus encR
  walk_at "dgo"
  obtain ⟨b1, b2⟩ := add_bound h1 h2 1 rfl
  refine ⟨szmul h1 h2 (by decide), szmul h2 h1 (by decide), szmulD h1 h2 (by decide), _, _, rfl, Int.mul_ne_zero (den_nz q) (den_nz r), bound_mono (by rw [Int.one_mul] at b1; exact b1), bound_mono b2, ?_⟩
  rw [← rat_add]; exact h
def sp_minus : DSp := fun ds S P => ∃ q r : Rat, ds = [encR q, encR r] ∧ Sz 4000 q ∧ Sz 4000 r ∧ P (encR (q - r)) S
def rd_minus : DS :=
  (dRet (dCB sp_frac (dCons (dOp dSub (dOp dMul (dOp dIx (dVar 0) (dC (.int 0))) (dOp dIx (dVar 1) (dC (.int 1)))) (dOp dMul (dOp dIx (dVar 1) (dC (.int 0))) (dOp dIx (dVar 0) (dC (.int 1))))) (dCons (dOp dMul (dOp dIx (dVar 0) (dC (.int 1))) (dOp dIx (dVar 1) (dC (.int 1)))) dNil))))
def goal_minus : Prop := ∀ (x0 x1 : D) (S : Store) (P : D → Store → Prop), sp_minus [x0, x1] S P → rd_minus (dEnd P) [some x0, some x1] S
theorem len_minus : ∀ ds S P, sp_minus ds S P → ds.length = 2 := by
  rintro ds S P ⟨a, b, rfl, _⟩; rfl
theorem vc_minus : goal_minus := by
  rintro x0 x1 S P ⟨q, r, e, h1, h2, h⟩
  cases e
  unfold rd_minus encR
  walk_at "dgo"
  obtain ⟨b1, b2⟩ := add_bound h1 h2 (-1) rfl
  refine ⟨szmul h1 h2 (by decide), szmul h2 h1 (by decide), szmulD h1 h2 (by decide), _, _, rfl, Int.mul_ne_zero (den_nz q) (den_nz r), bound_mono (by
    have e : q.num * (r.den : Int) - r.num * (q.den : Int) = q.num * (r.den : Int) + -1 * (r.num * (q.den : Int)) := by omega
    rw [e]; exact b1), bound_mono b2, ?_⟩
  rw [← rat_sub]; exact h
def sp_times : DSp := fun ds S P => ∃ q r : Rat, ds = [encR q, encR r] ∧ Sz 4000 q ∧ Sz 4000 r ∧ P (encR (q * r)) S
def rd_times : DS :=
  (dRet (dCB sp_frac (dCons (dOp dMul (dOp dIx (dVar 0) (dC (.int 0))) (dOp dIx (dVar 1) (dC (.int 0)))) (dCons (dOp dMul (dOp dIx (dVar 0) (dC (.int 1))) (dOp dIx (dVar 1) (dC (.int 1)))) dNil))))
def goal_times : Prop := ∀ (x0 x1 : D) (S : Store) (P : D → Store → Prop), sp_times [x0, x1] S P → rd_times (dEnd P) [some x0, some x1] S
theorem len_times : ∀ ds S P, sp_times ds S P → ds.length = 2 := by
  rintro ds S P ⟨a, b, rfl, _⟩; rfl
theorem vc_times : goal_times := by
  rintro x0 x1 S P ⟨q, r, e, h1, h2, h⟩
  cases e
  unfold rd_times encR
  walk_at "dgo"
  obtain ⟨b1, b2⟩ := mul_bound h1 h2
  refine ⟨szmulN h1 h2 (by decide), szmulD h1 h2 (by decide), _, _, rfl, Int.mul_ne_zero (den_nz q) (den_nz r), bound_mono b1, bound_mono b2, ?_⟩
  rw [← rat_mul]; exact h
def sp_over : DSp := fun ds S P => ∃ q r : Rat, ds = [encR q, encR r] ∧ r ≠ 0 ∧ Sz 4000 q ∧ Sz 4000 r ∧ P (encR (q / r)) S
def rd_over : DS :=
  (dRet (dCB sp_frac (dCons (dOp dMul (dOp dIx (dVar 0) (dC (.int 0))) (dOp dIx (dVar 1) (dC (.int 1)))) (dCons (dOp dMul (dOp dIx (dVar 0) (dC (.int 1))) (dOp dIx (dVar 1) (dC (.int 0)))) dNil))))
def goal_over : Prop := ∀ (x0 x1 : D) (S : Store) (P : D → Store → Prop), sp_over [x0, x1] S P → rd_over (dEnd P) [some x0, some x1] S
theorem len_over : ∀ ds S P, sp_over ds S P → ds.length = 2 := by
  rintro ds S P ⟨a, b, rfl, _⟩; rfl
theorem vc_over : goal_over := by
  rintro x0 x1 S P ⟨q, r, e, h0, h1, h2, h⟩
  cases e
  unfold rd_over encR
  walk_at "dgo"
  obtain ⟨b1, b2⟩ := div_bound h1 h2
  refine ⟨szmul h1 h2 (by decide), szmulDN h1 h2 (by decide), _, _, rfl, Int.mul_ne_zero (den_nz q) (num_nz h0), bound_mono b1, bound_mono b2, ?_⟩
  rw [← rat_div _ _ h0]; exact h
def sp_is_below : DSp := fun ds S P => ∃ q r : Rat, ds = [encR q, encR r] ∧ Sz 400000 q ∧ Sz 400000 r ∧ P (.bl (decide (q < r))) S
def rd_is_below : DS :=
  (dRet (dOp dLt (dOp dMul (dOp dIx (dVar 0) (dC (.int 0))) (dOp dIx (dVar 1) (dC (.int 1)))) (dOp dMul (dOp dIx (dVar 1) (dC (.int 0))) (dOp dIx (dVar 0) (dC (.int 1))))))
def goal_is_below : Prop := ∀ (x0 x1 : D) (S : Store) (P : D → Store → Prop), sp_is_below [x0, x1] S P → rd_is_below (dEnd P) [some x0, some x1] S
theorem len_is_below : ∀ ds S P, sp_is_below ds S P → ds.length = 2 := by
  rintro ds S P ⟨a, b, rfl, _⟩; rfl
theorem vc_is_below : goal_is_below := by
  rintro x0 x1 S P ⟨q, r, e, h1, h2, h⟩
  cases e
  unfold rd_is_below encR
  walk_at "dgo"
  refine ⟨szmul h1 h2 (by decide), szmul h2 h1 (by decide), ?_⟩
  have e : decide (q < r) = decide (q.num * (r.den : Int) < r.num * (q.den : Int)) := by
    congr 1
    exact propext (Rat.lt_iff q r)
  rw [← e]; exact h
def sp_lesser : DSp := fun ds S P => ∃ q r : Rat, ds = [encR q, encR r] ∧ Sz 400000 q ∧ Sz 400000 r ∧ P (encR (min q r)) S
def rd_lesser : DS :=
  (dRet (dIf (dTest (dCB sp_is_below (dCons (dVar 1) (dCons (dVar 0) dNil)))) (dVar 1) (dVar 0)))
def goal_lesser : Prop := ∀ (x0 x1 : D) (S : Store) (P : D → Store → Prop), sp_lesser [x0, x1] S P → rd_lesser (dEnd P) [some x0, some x1] S
theorem len_lesser : ∀ ds S P, sp_lesser ds S P → ds.length = 2 := by
  rintro ds S P ⟨a, b, rfl, _⟩; rfl
theorem min_if (q r : Rat) : min q r = if r < q then r else q := by
  rw [Rat.instMin.eq_1] <;> first | rfl | grind
theorem vc_lesser : goal_lesser := by
  rintro x0 x1 S P ⟨q, r, e, h1, h2, h⟩
  cases e
  unfold rd_lesser
  walk_at "dgo"
  refine ⟨_, _, rfl, h2, h1, ?_⟩
  walk_at "dgo"
  rw [min_if] at h
  split
  · rename_i hh; rw [if_pos hh] at h; exact h
  · rename_i hh; rw [if_neg hh] at h; exact h
def sp_greater : DSp := fun ds S P => ∃ q r : Rat, ds = [encR q, encR r] ∧ Sz 400000 q ∧ Sz 400000 r ∧ P (encR (max q r)) S
def rd_greater : DS :=
  (dRet (dIf (dTest (dCB sp_is_below (dCons (dVar 0) (dCons (dVar 1) dNil)))) (dVar 1) (dVar 0)))
def goal_greater : Prop := ∀ (x0 x1 : D) (S : Store) (P : D → Store → Prop), sp_greater [x0, x1] S P → rd_greater (dEnd P) [some x0, some x1] S
theorem len_greater : ∀ ds S P, sp_greater ds S P → ds.length = 2 := by
  rintro ds S P ⟨a, b, rfl, _⟩; rfl
theorem max_if (q r : Rat) : max q r = if q < r then r else q := by
  rw [Rat.instMax.eq_1] <;> first | rfl | grind
theorem vc_greater : goal_greater := by
  rintro x0 x1 S P ⟨q, r, e, h1, h2, h⟩
  cases e
  unfold rd_greater
  walk_at "dgo"
  refine ⟨_, _, rfl, h1, h2, ?_⟩
  walk_at "dgo"
  rw [max_if] at h
  split
  · rename_i hh; rw [if_pos hh] at h; exact h
  · rename_i hh; rw [if_neg hh] at h; exact h
def sp_power : DSp := fun ds S P => ∃ b k : Int, ds = [.int b, .int k] ∧ 0 < b ∧ b ≤ 16 ∧ k.natAbs ≤ 900 ∧ P (encR ((b : Rat) ^ k)) S
def rd_power : DS :=
  (dSeq (dSet 2 (dC (.int 1)))
  (dSeq (dFor (dRng1 (dCons (dCB cAbs (dCons (dVar 1) dNil)) dNil)) (.nm 3) (dAug 2 dIMul (dVar 0)))
  (dRet (dIf (dTest (dOp dGe (dVar 1) (dC (.int 0)))) (dTup (dCons (dVar 2) (dCons (dC (.int 1)) dNil))) (dTup (dCons (dC (.int 1)) (dCons (dVar 2) dNil)))))))
def goal_power : Prop := ∀ (x0 x1 : D) (S : Store) (P : D → Store → Prop), sp_power [x0, x1] S P → rd_power (dEnd P) [some x0, some x1, none, none] S
theorem len_power : ∀ ds S P, sp_power ds S P → ds.length = 2 := by
  rintro ds S P ⟨a, b, rfl, _⟩; rfl
theorem vc_power : goal_power := by
  rintro x0 x1 S P ⟨b, k, e, h1, h2, h3, h⟩
  cases e
  unfold rd_power
  walk_at "dgo"
  rw [abs_if]
  refine ⟨by omega, by omega, fun i ρ S' => ∃ z, ρ = [some (.int b), some (.int k), some (.int (b ^ i)), z] ∧ S' = S, ⟨none, by simp, rfl⟩, ?_, ?_⟩
  · rintro i d ρ S' hd ⟨z, rfl, rfl⟩
    refine ⟨_, rfl, ?_⟩
    walk_at "dgo"
    refine ⟨mulS2, some d, ?_⟩
    rw [Int.pow_succ]
  · rintro ρ S' ⟨z, rfl, rfl⟩
    rw [rng_len]
    walk_at "dgo"
    by_cases hk : 0 ≤ k
    · rw [if_pos hk]
      rw [encR_zpow_nn b k hk] at h
      rw [show ((k.natAbs : Int)).toNat = k.toNat by omega]; exact h
    · rw [if_neg hk]
      rw [encR_zpow_neg b k h1 (by omega)] at h
      rw [show ((k.natAbs : Int)).toNat = (-k).toNat by omega]; exact h
end Lb

namespace Lb
open PySem PySem.Spec PyProof.Rows L2 DL
local macro_rules | `(tactic| walk_at "dgo") => `(tactic| try simp only [dSeq, dSet, dPar, dOp, dUn, dVar, dC, dCB, dCons, dNil, dTup, dLst, dLstM, dIfS, dIf, dTest, dNot, dAnd, dOr, dAndV, dOrV, dNotV, dRet, dRetN, dEnd, dNext, dAdd, dSub, dMul, dFdiv, dMod, dPow, dNeg, dLt, dLe, dGt, dGe, dEq, dNe, eqB_ii, eqB_bb, eqB_ss, eqB_nn, eqB_ni, eqB_in, eqB_ns, eqB_sn, eqB_is, eqB_si, eqB_nb, eqB_bn, dIx, dIn, dIsN, dNotN, DL.isNon, cAbs, cMax2, cMin2, cInt, cLen, cList, cTuple, dIsB, dNotB, dPar3, ForN, LcN, pinOf, pin2, dEnum2, dAppend, supd_same0, isi_non_int, isi_non_bool, isi_non_str, isi_non_list, isi_non_tuple, isi_non_lt, isi_bl_int, isi_bl_bool, isi_bl_str, isi_bl_list, isi_bl_tuple, isi_bl_lt, isi_int_int, isi_int_bool, isi_int_str, isi_int_list, isi_int_tuple, isi_int_lt, isi_str_int, isi_str_bool, isi_str_str, isi_str_list, isi_str_tuple, isi_str_lt, isi_lst_int, isi_lst_bool, isi_lst_str, isi_lst_list, isi_lst_tuple, isi_lst_lt, isi_tup_int, isi_tup_bool, isi_tup_str, isi_tup_list, isi_tup_tuple, isi_tup_lt, dAug, dIAdd, dIMul, dDrop, dSl, dPart, dNoPart, dRevL, dCallK, dChainR, dAsg, put_nm, put_tp, put_tl, putL_nil, putL_cons, Option.bind, seqOf, lstOf, dFor, dLc, dLcM, dItSeq, dZip, dZipS, dEnum, dRng1, dRng2, dYes, dwipe, Tgt.slots, Tgt.slotsL,
  atI_0, atI_1, atI_2, atI_3, List.getElem?_cons_zero, List.getElem?_cons_succ, List.set_cons_zero, List.set_cons_succ, decide_eq_true_eq, List.length_cons, List.length_nil, List.cons_append, List.nil_append, List.append_nil, ofString_inj, String.reduceEq, decide_true, decide_false, reduceIte, Bool.false_eq_true, Bool.not_true, Bool.not_false, eqFlat, isFlat, List.any_cons, List.any_nil, List.all_cons, List.all_nil, Bool.or_false, Bool.or_true, Bool.false_or, Bool.true_or, Bool.and_true, Bool.true_and, true_and, and_true, Nat.reduceAdd, Nat.reduceLeDiff, Int.reduceLT, Int.reduceLE, Int.reduceNeg])
/-! ### draws -/
def BoxAt (S : Store) (p : Addr) (n : Nat) : Prop := ∃ a s t : Int, S p = some (.lst [.int a, .int s, .int t]) ∧ 0 ≤ a ∧ 0 ≤ s ∧ s < 2 ^ 62 ∧ 0 ≤ t ∧ t ≤ n
def Drew (S S' : Store) (p : Addr) (n : Nat) : Prop := ∃ a s t : Int, S' = supd S p (.lst [.int a, .int s, .int t]) ∧ 0 ≤ a ∧ 0 ≤ s ∧ s < 2 ^ 62 ∧ 0 ≤ t ∧ t ≤ n
theorem supd_same {S : Store} {p : Addr} {m : MO} : supd S p m p = some m := by unfold supd; rw [if_pos rfl]
theorem supd_ne {S : Store} {p q : Addr} {m : MO} (h : q ≠ p) : supd S p m q = S q := by unfold supd; rw [if_neg h]
theorem supd_supd {S : Store} {p : Addr} {m m' : MO} : supd (supd S p m) p m' = supd S p m' := by
  funext q; unfold supd; split <;> rfl
theorem Drew.box {S S' : Store} {p : Addr} {n : Nat} (h : Drew S S' p n) : BoxAt S' p n := by
  obtain ⟨a, s, t, rfl, h⟩ := h
  exact ⟨a, s, t, supd_same, h⟩
theorem Drew.trans {S S1 S2 : Store} {p : Addr} {n m : Nat} (h : Drew S S1 p n) (h2 : Drew S1 S2 p m) : Drew S S2 p m := by
  obtain ⟨a, s, t, rfl, _⟩ := h
  obtain ⟨a, s, t, rfl, h⟩ := h2
  exact ⟨a, s, t, supd_supd, h⟩
theorem Drew.other {S S' : Store} {p q : Addr} {n : Nat} (h : Drew S S' p n) (hq : q ≠ p) : S' q = S q := by
  obtain ⟨a, s, t, rfl, _⟩ := h
  exact supd_ne hq
theorem Drew.mono {S S' : Store} {p : Addr} {n m : Nat} (h : Drew S S' p n) (hm : n ≤ m) : Drew S S' p m := by
  obtain ⟨a, s, t, e, h1, h2, h3, h4, h5⟩ := h
  exact ⟨a, s, t, e, h1, h2, h3, h4, by omega⟩
theorem BoxAt.mono {S : Store} {p : Addr} {n m : Nat} (h : BoxAt S p n) (hm : n ≤ m) : BoxAt S p m := by
  obtain ⟨a, s, t, e, h1, h2, h3, h4, h5⟩ := h
  exact ⟨a, s, t, e, h1, h2, h3, h4, by omega⟩
theorem BoxAt.refl {S : Store} {p : Addr} {n : Nat} (h : BoxAt S p n) : Drew S S p n := by
  obtain ⟨a, s, t, e, h⟩ := h
  refine ⟨a, s, t, ?_, h⟩
  funext q; unfold supd; split
  · rename_i z; rw [z, e]
  · rfl
def sp_Lcell_at : DSp := fun ds S P => ∃ (ns : List Int) (k : Int), ds = [.ext (ns.map .int), .int k] ∧ 0 ≤ k ∧ ∀ c, P (.int c) S
def rd_Lcell_at : DS :=
  (dSeq (dIfS (dTest (dOp dLt (dVar 1) (dCB cLen (dCons (dVar 0) dNil)))) (dRet (dOp dIx (dVar 0) (dVar 1))) dNext)
  (dRet (dC (.int 0))))
def goal_Lcell_at : Prop := ∀ (x0 x1 : D) (S : Store) (P : D → Store → Prop), sp_Lcell_at [x0, x1] S P → rd_Lcell_at (dEnd P) [some x0, some x1] S
theorem len_Lcell_at : ∀ ds S P, sp_Lcell_at ds S P → ds.length = 2 := by
  rintro ds S P ⟨a, b, rfl, _⟩; rfl
theorem atI_at {α : Type} {l : List α} {k : Int} (h0 : 0 ≤ k) (h1 : k < (l.length : Int)) : atI l k = l[k.toNat]? := by
  unfold atI ixN
  rw [if_pos h0, if_pos h1]
  rfl
theorem vc_Lcell_at : goal_Lcell_at := by
  rintro x0 x1 S P ⟨ns, k, e, h0, h⟩
  cases e
  unfold rd_Lcell_at
  walk_at "dgo"
  split
  · rename_i hk
    rw [atI_at h0 hk]
    rw [List.length_map] at hk
    have : k.toNat < ns.length := by omega
    rw [List.getElem?_map, List.getElem?_eq_getElem this]
    exact h _
  · exact h _
def sp_Lbox : DSp := fun ds S P => ∃ (ns : List Int) (k : Int), ds = [.ext (ns.map .int), .int k] ∧ 0 ≤ k ∧ k ≤ 1000 ∧ ∀ p S', S p = none → Drew S S' p 0 → P (.obj p) S'
def rd_Lbox : DS :=
  (dSeq (dSet 2 (dCB sp_Lcell_at (dCons (dVar 0) (dCons (dVar 1) dNil))))
  (dRet (dLstM (dCons (dOp dMul (dCB cAbs (dCons (dVar 2) dNil)) (dCB cInt (dCons (dOp dGe (dCB cAbs (dCons (dVar 2) dNil)) (dOp dPow (dC (.int 10)) (dC (.int 18)))) dNil))) (dCons (dOp dAdd (dOp dAdd (dOp dMod (dVar 2) (dC (.int 2305843009213693951))) (dOp dMul (dC (.int 39373)) (dVar 1))) (dC (.int 17))) (dCons (dC (.int 0)) dNil))))))
def goal_Lbox : Prop := ∀ (x0 x1 : D) (S : Store) (P : D → Store → Prop), sp_Lbox [x0, x1] S P → rd_Lbox (dEnd P) [some x0, some x1, none] S
theorem len_Lbox : ∀ ds S P, sp_Lbox ds S P → ds.length = 2 := by
  rintro ds S P ⟨a, b, rfl, _⟩; rfl
theorem vc_Lbox : goal_Lbox := by
  rintro x0 x1 S P ⟨ns, k, e, h0, h1, h⟩
  cases e
  unfold rd_Lbox
  walk_at "dgo"
  refine ⟨ns, k, rfl, h0, fun c => ?_⟩
  walk_at "dgo"
  refine ⟨⟨by decide, by decide, by decide⟩, mulS2 (by (repeat' split) <;> decide), mulS, fun p hp => h p _ hp ⟨_, _, 0, rfl, ?_, ?_, ?_, by decide, by decide⟩⟩
  · rw [abs_if]
    split <;> simp
  · have := Int.emod_nonneg c (show (2305843009213693951 : Int) ≠ 0 by decide)
    omega
  · have := Int.emod_lt_of_pos c (show (0 : Int) < 2305843009213693951 by decide)
    omega
def sp_Ltake : DSp := fun ds S P => ∃ (p : Addr) (size : Int) (n : Nat), ds = [.obj p, .int size] ∧ 0 < size ∧ size ≤ 2 ^ 40 ∧ BoxAt S p n ∧ n ≤ 1000000000 ∧ ∀ x S', 0 ≤ x → x < size → Drew S S' p (n + 1) → P (.int x) S'
def rd_Ltake : DS :=
  (dSeq (dIfS (dTest (dOp dGt (dOp dIx (dVar 0) (dC (.int 0))) (dC (.int 0)))) (dSeq (dSet 2 (dOp dMod (dOp dIx (dVar 0) (dC (.int 0))) (dVar 1)))
  (dSeq (dSetIx (dOp dFdiv (dOp dIx (dVar 0) (dC (.int 0))) (dVar 1)) (dVar 0) (dC (.int 0)))
  (dRet (dVar 2)))) dNext)
  (dSeq (dSetIx (dOp dAdd (dOp dIx (dVar 0) (dC (.int 2))) (dC (.int 1))) (dVar 0) (dC (.int 2)))
  (dSeq (dSet 3 (dOp dMod (dOp dMul (dOp dAdd (dOp dIx (dVar 0) (dC (.int 1))) (dOp dMul (dC (.int 48271)) (dOp dIx (dVar 0) (dC (.int 2))))) (dOp dAdd (dC (.int 39373)) (dOp dIx (dVar 0) (dC (.int 2))))) (dC (.int 2147483647))))
  (dSeq (dSet 4 (dOp dMod (dOp dMul (dOp dAdd (dOp dAdd (dVar 3) (dOp dIx (dVar 0) (dC (.int 2)))) (dOp dFdiv (dOp dIx (dVar 0) (dC (.int 1))) (dC (.int 1000003)))) (dOp dAdd (dOp dMod (dVar 3) (dC (.int 40009))) (dC (.int 7)))) (dC (.int 2147483629))))
  (dRet (dOp dMod (dOp dFdiv (dOp dMod (dOp dAdd (dOp dMul (dVar 4) (dC (.int 48271))) (dVar 3)) (dC (.int 2147483587))) (dC (.int 64))) (dVar 1)))))))
def goal_Ltake : Prop := ∀ (x0 x1 : D) (S : Store) (P : D → Store → Prop), sp_Ltake [x0, x1] S P → rd_Ltake (dEnd P) [some x0, some x1, none, none, none] S
theorem len_Ltake : ∀ ds S P, sp_Ltake ds S P → ds.length = 2 := by
  rintro ds S P ⟨a, b, n, rfl, _⟩; rfl
theorem vc_Ltake : goal_Ltake := by
  rintro x0 x1 S P ⟨p, size, n, e, h0, h1, ⟨a, s, t, eb, b1, b2, b3, b4, b5⟩, hn, h⟩
  cases e
  unfold rd_Ltake dSetIx
  walk_at "dgo"
  simp only [eb]
  walk_at "dgo"
  have hx : ∀ y : Int, 0 ≤ y % size ∧ y % size < size := fun y => ⟨Int.emod_nonneg y (by omega), Int.emod_lt_of_pos y h0⟩
  split
  · rename_i ha
    refine ⟨h0, divS (by omega) (by omega), ?_⟩
    have e0 : ixN (0 + 1 + 1 + 1) 0 = some 0 := rfl
    simp only [e0, List.set_cons_zero]
    walk_at "dgo"
    exact h _ _ (hx a).1 (hx a).2 ⟨_, _, _, rfl, by rw [Int.fdiv_eq_ediv_of_nonneg _ (by omega)]; exact Int.ediv_nonneg b1 (by omega), b2, b3, b4, by omega⟩
  · have e2 : ixN (0 + 1 + 1 + 1) 2 = some 2 := rfl
    simp only [e2, List.set_cons_zero, List.set_cons_succ]
    walk_at "dgo"
    try simp only [supd_same]
    walk_at "dgo"
    have ht : t ≤ 1000000000 := by
      have hn2 : n ≤ 1000000000 := hn
      omega
    generalize hy1 : (s + 48271 * (t + 1)) * (39373 + (t + 1)) = y1
    have m1 : 0 ≤ y1 % 2147483647 ∧ y1 % 2147483647 < 2147483647 := ⟨Int.emod_nonneg _ (by decide), Int.emod_lt_of_pos _ (by decide)⟩
    generalize y1 % 2147483647 = z1 at *
    have hd : 0 ≤ s.fdiv 1000003 ∧ s.fdiv 1000003 ≤ s := by
      rw [Int.fdiv_eq_ediv_of_nonneg _ (by decide)]
      constructor
      · exact Int.ediv_nonneg b2 (by decide)
      · exact Int.ediv_le_self _ b2
    generalize s.fdiv 1000003 = z2 at *
    have m2 : 0 ≤ z1 % 40009 ∧ z1 % 40009 < 40009 := ⟨Int.emod_nonneg _ (by decide), Int.emod_lt_of_pos _ (by decide)⟩
    generalize z1 % 40009 = z3 at *
    generalize hy2 : (z1 + (t + 1) + z2) * (z3 + 7) = y2
    have m3 : 0 ≤ y2 % 2147483629 ∧ y2 % 2147483629 < 2147483629 := ⟨Int.emod_nonneg _ (by decide), Int.emod_lt_of_pos _ (by decide)⟩
    generalize y2 % 2147483629 = z4 at *
    refine ⟨mulS, mulS (by omega), divS (by decide) (by decide), mulS (by omega), mulS (by omega), divS (by decide) (by decide), h0, ?_⟩
    exact h _ _ (hx _).1 (hx _).2 ⟨_, _, _, rfl, b1, b2, b3, by omega, by omega⟩
def sp_Lof : DSp := fun ds S P => ∃ (p : Addr) (y : D) (xs : List D) (n : Nat), ds = [.obj p, y] ∧ (y = .lst xs ∨ y = .tup xs) ∧ 0 < xs.length ∧ xs.length ≤ 100000 ∧ BoxAt S p n ∧ n ≤ 1000000000 ∧ ∀ x S', x ∈ xs → Drew S S' p (n + 1) → P x S'
def rd_Lof : DS :=
  (dRet (dOp dIx (dVar 1) (dCB sp_Ltake (dCons (dVar 0) (dCons (dCB cLen (dCons (dVar 1) dNil)) dNil)))))
def goal_Lof : Prop := ∀ (x0 x1 : D) (S : Store) (P : D → Store → Prop), sp_Lof [x0, x1] S P → rd_Lof (dEnd P) [some x0, some x1] S
theorem len_Lof : ∀ ds S P, sp_Lof ds S P → ds.length = 2 := by
  rintro ds S P ⟨a, b, xs, n, rfl, _⟩; rfl
theorem vc_Lof : goal_Lof := by
  rintro x0 x1 S P ⟨p, y, xs, n, e, hy, h0, h1, hb, hn, h⟩
  cases e
  unfold rd_Lof
  rcases hy with rfl | rfl
  all_goals
    walk_at "dgo"
    refine ⟨p, _, n, rfl, by omega, by omega, hb, hn, fun x S' hx1 hx2 hd => ?_⟩
    walk_at "dgo"
    have hl : x.toNat < xs.length := by omega
    rw [atI_at hx1 hx2, List.getElem?_eq_getElem hl]
    exact h _ _ (List.getElem_mem hl) hd
/-! ### the law's own fractions -/
def sp_Lfrac : DSp := fun ds S P => ∃ a b : Int, ds = [.int a, .int b] ∧ b ≠ 0 ∧ a.natAbs < 2 ^ 8900 ∧ b.natAbs < 2 ^ 8900 ∧ P (encR ((a : Rat) / (b : Rat))) S
def rd_Lfrac : DS :=
  (dSeq (dPar 2 3 (dCons (dCB cAbs (dCons (dVar 0) dNil)) (dCons (dCB cAbs (dCons (dVar 1) dNil)) dNil)))
  (dSeq (dWhile (dTest (dOp dGt (dVar 3) (dC (.int 0)))) (dPar 2 3 (dCons (dVar 3) (dCons (dOp dMod (dVar 2) (dVar 3)) dNil))))
  (dSeq (dSet 4 (dIf (dTest (dOp dGt (dVar 1) (dC (.int 0)))) (dC (.int 1)) (dUn dNeg (dC (.int 1)))))
  (dRet (dTup (dCons (dOp dFdiv (dOp dMul (dVar 4) (dVar 0)) (dVar 2)) (dCons (dOp dFdiv (dCB cAbs (dCons (dVar 1) dNil)) (dVar 2)) dNil)))))))
def goal_Lfrac : Prop := ∀ (x0 x1 : D) (S : Store) (P : D → Store → Prop), sp_Lfrac [x0, x1] S P → rd_Lfrac (dEnd P) [some x0, some x1, none, none, none] S
theorem len_Lfrac : ∀ ds S P, sp_Lfrac ds S P → ds.length = 2 := by
  rintro ds S P ⟨a, b, rfl, _⟩; rfl
theorem vc_Lfrac : goal_Lfrac := by
  rintro x0 x1 S P ⟨a, b, e, hb, h1, h2, h⟩
  cases e
  unfold rd_Lfrac dWhile
  walk_at "dgo"
  rw [abs_if, abs_if]
  refine ⟨fun m ρ S' => ∃ c d : Int, m = d.toNat ∧ ρ = [some (.int a), some (.int b), some (.int c), some (.int d), none] ∧ S' = S ∧ 0 ≤ c ∧ 0 ≤ d ∧ Int.gcd c d = Int.gcd a b, ⟨_, _, _, rfl, rfl, rfl, by omega, by omega, gcd_abs a b⟩, ?_⟩
  rintro m ρ S' ⟨c, d, rfl, rfl, rfl, hc, hd, hg⟩
  walk_at "dgo"
  split
  · rename_i h0
    have h1 := Int.emod_nonneg c (b := d) (by omega)
    have h2 := Int.emod_lt_of_pos c h0
    exact ⟨h0, (c % d).toNat, by omega, d, c % d, rfl, rfl, hd, h1, by rw [← hg]; exact gcd_step c d h0⟩
  · have : d = 0 := by omega
    subst this
    have e : (c : Int) = (Int.gcd a b : Int) := by
      rw [← hg, Int.gcd_zero_right]; omega
    have hg0 := gcd_pos_r (a := a) hb
    have hgl := gcd_le_r (a := a) hb
    have hdv : DivB c := divB (n := 8900) (by omega) (by omega) (by decide)
    rw [encR_frac hb] at h
    rw [abs_if]
    have hfin : P (D.tup [.int ((b.sign * a).fdiv c), .int ((b.natAbs : Int).fdiv c)]) S' := by
      rw [Int.fdiv_eq_ediv_of_nonneg _ (by omega), Int.fdiv_eq_ediv_of_nonneg _ (by omega), e]
      exact h
    by_cases hp : 0 < b
    · rw [if_pos hp]
      rw [Int.sign_eq_one_of_pos hp] at hfin
      exact ⟨mulS, hdv, hdv, hfin⟩
    · rw [if_neg hp]
      rw [Int.sign_eq_neg_one_of_neg (show b < 0 by omega)] at hfin
      exact ⟨mulS, hdv, hdv, hfin⟩
def sp_Lplus : DSp := sp_plus
def rd_Lplus : DS :=
  (dRet (dCB sp_Lfrac (dCons (dOp dAdd (dOp dMul (dOp dIx (dVar 0) (dC (.int 0))) (dOp dIx (dVar 1) (dC (.int 1)))) (dOp dMul (dOp dIx (dVar 1) (dC (.int 0))) (dOp dIx (dVar 0) (dC (.int 1))))) (dCons (dOp dMul (dOp dIx (dVar 0) (dC (.int 1))) (dOp dIx (dVar 1) (dC (.int 1)))) dNil))))
def goal_Lplus : Prop := ∀ (x0 x1 : D) (S : Store) (P : D → Store → Prop), sp_Lplus [x0, x1] S P → rd_Lplus (dEnd P) [some x0, some x1] S
theorem len_Lplus : ∀ ds S P, sp_Lplus ds S P → ds.length = 2 := len_plus
theorem vc_Lplus : goal_Lplus := vc_plus
def sp_Ltimes : DSp := sp_times
def rd_Ltimes : DS :=
  (dRet (dCB sp_Lfrac (dCons (dOp dMul (dOp dIx (dVar 0) (dC (.int 0))) (dOp dIx (dVar 1) (dC (.int 0)))) (dCons (dOp dMul (dOp dIx (dVar 0) (dC (.int 1))) (dOp dIx (dVar 1) (dC (.int 1)))) dNil))))
def goal_Ltimes : Prop := ∀ (x0 x1 : D) (S : Store) (P : D → Store → Prop), sp_Ltimes [x0, x1] S P → rd_Ltimes (dEnd P) [some x0, some x1] S
theorem len_Ltimes : ∀ ds S P, sp_Ltimes ds S P → ds.length = 2 := len_times
theorem vc_Ltimes : goal_Ltimes := vc_times
def sp_Lbelow : DSp := sp_is_below
def rd_Lbelow : DS :=
  (dRet (dOp dLt (dOp dMul (dOp dIx (dVar 0) (dC (.int 0))) (dOp dIx (dVar 1) (dC (.int 1)))) (dOp dMul (dOp dIx (dVar 1) (dC (.int 0))) (dOp dIx (dVar 0) (dC (.int 1))))))
def goal_Lbelow : Prop := ∀ (x0 x1 : D) (S : Store) (P : D → Store → Prop), sp_Lbelow [x0, x1] S P → rd_Lbelow (dEnd P) [some x0, some x1] S
theorem len_Lbelow : ∀ ds S P, sp_Lbelow ds S P → ds.length = 2 := len_is_below
theorem vc_Lbelow : goal_Lbelow := vc_is_below
def sp_Lpower : DSp := sp_power
def rd_Lpower : DS :=
  (dSeq (dSet 2 (dC (.int 1)))
  (dSeq (dFor (dRng1 (dCons (dCB cAbs (dCons (dVar 1) dNil)) dNil)) (.nm 3) (dSet 2 (dOp dMul (dVar 2) (dVar 0))))
  (dRet (dIf (dTest (dOp dGe (dVar 1) (dC (.int 0)))) (dTup (dCons (dVar 2) (dCons (dC (.int 1)) dNil))) (dTup (dCons (dC (.int 1)) (dCons (dVar 2) dNil)))))))
def goal_Lpower : Prop := ∀ (x0 x1 : D) (S : Store) (P : D → Store → Prop), sp_Lpower [x0, x1] S P → rd_Lpower (dEnd P) [some x0, some x1, none, none] S
theorem len_Lpower : ∀ ds S P, sp_Lpower ds S P → ds.length = 2 := len_power
theorem vc_Lpower : goal_Lpower := by
  rintro x0 x1 S P ⟨b, k, e, h1, h2, h3, h⟩
  cases e
  unfold rd_Lpower
  walk_at "dgo"
  rw [abs_if]
  refine ⟨by omega, by omega, fun i ρ S' => ∃ z, ρ = [some (.int b), some (.int k), some (.int (b ^ i)), z] ∧ S' = S, ⟨none, by simp, rfl⟩, ?_, ?_⟩
  · rintro i d ρ S' hd ⟨z, rfl, rfl⟩
    refine ⟨_, rfl, ?_⟩
    walk_at "dgo"
    refine ⟨mulS2, some d, ?_⟩
    rw [Int.pow_succ]
  · rintro ρ S' ⟨z, rfl, rfl⟩
    rw [rng_len]
    walk_at "dgo"
    by_cases hk : 0 ≤ k
    · rw [if_pos hk]
      rw [encR_zpow_nn b k hk] at h
      rw [show ((k.natAbs : Int)).toNat = k.toNat by omega]; exact h
    · rw [if_neg hk]
      rw [encR_zpow_neg b k h1 (by omega)] at h
      rw [show ((k.natAbs : Int)).toNat = (-k).toNat by omega]; exact h
end Lb

namespace Lb
open PySem PySem.Spec PyProof.Rows L2 DL
local macro_rules | `(tactic| walk_at "dgo") => `(tactic| try simp only [dSeq, dSet, dPar, dOp, dUn, dVar, dC, dCB, dCons, dNil, dTup, dLst, dLstM, dIfS, dIf, dTest, dNot, dAnd, dOr, dAndV, dOrV, dNotV, dRet, dRetN, dEnd, dNext, dAdd, dSub, dMul, dFdiv, dMod, dPow, dNeg, dLt, dLe, dGt, dGe, dEq, dNe, eqB_ii, eqB_bb, eqB_ss, eqB_nn, eqB_ni, eqB_in, eqB_ns, eqB_sn, eqB_is, eqB_si, eqB_nb, eqB_bn, dIx, dIn, dIsN, dNotN, DL.isNon, cAbs, cMax2, cMin2, cInt, cLen, cList, cTuple, dIsB, dNotB, dPar3, ForN, LcN, pinOf, pin2, dEnum2, dAppend, supd_same0, isi_non_int, isi_non_bool, isi_non_str, isi_non_list, isi_non_tuple, isi_non_lt, isi_bl_int, isi_bl_bool, isi_bl_str, isi_bl_list, isi_bl_tuple, isi_bl_lt, isi_int_int, isi_int_bool, isi_int_str, isi_int_list, isi_int_tuple, isi_int_lt, isi_str_int, isi_str_bool, isi_str_str, isi_str_list, isi_str_tuple, isi_str_lt, isi_lst_int, isi_lst_bool, isi_lst_str, isi_lst_list, isi_lst_tuple, isi_lst_lt, isi_tup_int, isi_tup_bool, isi_tup_str, isi_tup_list, isi_tup_tuple, isi_tup_lt, dAug, dIAdd, dIMul, dDrop, dSl, dPart, dNoPart, dRevL, dCallK, dChainR, dAsg, put_nm, put_tp, put_tl, putL_nil, putL_cons, Option.bind, seqOf, lstOf, dFor, dLc, dLcM, dItSeq, dZip, dZipS, dEnum, dRng1, dRng2, dYes, dwipe, Tgt.slots, Tgt.slotsL,
  atI_0, atI_1, atI_2, atI_3, List.getElem?_cons_zero, List.getElem?_cons_succ, List.set_cons_zero, List.set_cons_succ, decide_eq_true_eq, List.length_cons, List.length_nil, List.cons_append, List.nil_append, List.append_nil, ofString_inj, String.reduceEq, decide_true, decide_false, reduceIte, Bool.false_eq_true, Bool.not_true, Bool.not_false, eqFlat, isFlat, List.any_cons, List.any_nil, List.all_cons, List.all_nil, Bool.or_false, Bool.or_true, Bool.false_or, Bool.true_or, Bool.and_true, Bool.true_and, true_and, and_true, Nat.reduceAdd, Nat.reduceLeDiff, Int.reduceLT, Int.reduceLE, Int.reduceNeg])
/-! ### powers and order -/
theorem ratpos {b : Int} (h : 0 < b) : (0 : Rat) < (b : Rat) := Rat.intCast_pos.mpr h
theorem one_le_pow {b : Rat} (h : 1 ≤ b) : ∀ n : Nat, 1 ≤ b ^ n
  | 0 => by simp
  | n + 1 => by
    rw [Rat.pow_succ]
    have h1 := one_le_pow h n
    have h2 := Rat.mul_le_mul_of_nonneg_left (c := b ^ n) h (by grind)
    grind
theorem zpow_mono {b : Int} (hb : 1 ≤ b) {m n : Int} (h : m ≤ n) : (b : Rat) ^ m ≤ (b : Rat) ^ n := by
  have hp : (0 : Rat) < (b : Rat) := ratpos (by omega)
  have e : n = m + ((n - m).toNat : Int) := by omega
  rw [e, Rat.zpow_add (by grind)]
  have h1 : (1 : Rat) ≤ (b : Rat) ^ (((n - m).toNat : Nat) : Int) := one_le_pow (by
    have : (1 : Rat) = ((1 : Int) : Rat) := rfl
    rw [this]; exact Rat.intCast_le_intCast.mpr hb) _
  have h2 := Rat.mul_le_mul_of_nonneg_left (c := (b : Rat) ^ m) h1 (Rat.le_of_lt (Rat.zpow_pos hp))
  grind
/-- a fraction above 0 of so many bits lies between such powers of two -/
theorem sz_lt {q : Rat} {n : Nat} (h : Sz n q) (hq : 0 < q) : q < (2 : Rat) ^ n ∧ 1 < q * (2 : Rat) ^ n := by
  have hn : 0 < q.num := by simpa using (Rat.lt_iff 0 q).mp hq
  have hd : (0 : Rat) < ((q.den : Int) : Rat) := ratpos (by have := q.den_pos; omega)
  have e := rat_eq q
  have p2 : ((2 ^ n : Nat) : Rat) = (2 : Rat) ^ n := by
    have := intpow_cast 2 n
    rw [← Rat.intCast_natCast]
    exact_mod_cast this
  have h1 : (q.num : Rat) < (2 : Rat) ^ n := by
    rw [← p2, ← Rat.intCast_natCast]
    exact Rat.intCast_lt_intCast.mpr (by have := h.1; omega)
  have h2 : ((q.den : Int) : Rat) < (2 : Rat) ^ n := by
    rw [← p2, ← Rat.intCast_natCast]
    exact Rat.intCast_lt_intCast.mpr (by have := h.2; omega)
  have h3 : (1 : Rat) ≤ (q.num : Rat) := by
    have : (1 : Rat) = ((1 : Int) : Rat) := rfl
    rw [this]; exact Rat.intCast_le_intCast.mpr hn
  have h4 : (1 : Rat) ≤ ((q.den : Int) : Rat) := by
    have : (1 : Rat) = ((1 : Int) : Rat) := rfl
    rw [this]; exact Rat.intCast_le_intCast.mpr (by have := q.den_pos; omega)
  have em : q * ((q.den : Int) : Rat) = (q.num : Rat) := by
    conv => lhs; lhs; rw [e]
    exact Rat.div_mul_cancel (den_ne q)
  constructor
  · have := Rat.mul_le_mul_of_nonneg_left (c := q) h4 (Rat.le_of_lt hq)
    grind
  · have := Rat.mul_lt_mul_of_pos_left h2 hq
    grind
/-! ### the least power that is enough -/
def IsLp (b room : Int) (need : Rat) (d : Int) : Prop := need ≤ (b : Rat) ^ d * (room : Rat) ∧ (b : Rat) ^ (d - 1) * (room : Rat) < need
theorem IsLp.uniq {b room : Int} {need : Rat} {d e : Int} (hb : 1 ≤ b) (hr : 1 ≤ room) (h : IsLp b room need d) (h' : IsLp b room need e) : d = e := by
  have key : ∀ d e : Int, IsLp b room need d → IsLp b room need e → ¬ d < e := fun d e h h' hl => by
    have h1 := zpow_mono hb (show d ≤ e - 1 by omega)
    have hr0 : (0 : Rat) ≤ (room : Rat) := Rat.le_of_lt (ratpos (by omega))
    have h2 := Rat.mul_le_mul_of_nonneg_right h1 hr0
    have h3 := h.1
    have h4 := h'.2
    grind
  have h1 := key d e h h'
  have h2 := key e d h' h
  omega
def sp_least_power : DSp := fun ds S P => ∃ (b room : Int) (need : Rat), ds = [.int b, .int room, encR need] ∧ 2 ≤ b ∧ b ≤ 16 ∧ 1 ≤ room ∧ room < 2 ^ 20 ∧ 0 < need ∧ Sz 800 need ∧ ∀ d, IsLp b room need d → -830 ≤ d → d ≤ 830 → P (.int d) S
def rd_least_power : DS :=
  (dSeq (dSet 3 (dC (.int 0)))
  (dSeq (dWhile (dTest (dCB sp_is_below (dCons (dCB sp_times (dCons (dCB sp_power (dCons (dVar 0) (dCons (dVar 3) dNil))) (dCons (dTup (dCons (dVar 1) (dCons (dC (.int 1)) dNil))) dNil))) (dCons (dVar 2) dNil)))) (dAug 3 dIAdd (dC (.int 1))))
  (dSeq (dWhile (dNot (dTest (dCB sp_is_below (dCons (dCB sp_times (dCons (dCB sp_power (dCons (dVar 0) (dCons (dOp dSub (dVar 3) (dC (.int 1))) dNil))) (dCons (dTup (dCons (dVar 1) (dCons (dC (.int 1)) dNil))) dNil))) (dCons (dVar 2) dNil))))) (dAug 3 dSub (dC (.int 1))))
  (dRet (dVar 3)))))
def goal_least_power : Prop := ∀ (x0 x1 x2 : D) (S : Store) (P : D → Store → Prop), sp_least_power [x0, x1, x2] S P → rd_least_power (dEnd P) [some x0, some x1, some x2, none] S
theorem len_least_power : ∀ ds S P, sp_least_power ds S P → ds.length = 3 := by
  rintro ds S P ⟨a, b, n, rfl, _⟩; rfl
theorem pow2_le {b : Int} (hb : 2 ≤ b) (n : Nat) : (2 : Rat) ^ n ≤ (b : Rat) ^ n := by
  induction n with
  | zero => simp
  | succ n ih =>
    rw [Rat.pow_succ, Rat.pow_succ]
    have h2 : (2 : Rat) ≤ (b : Rat) := by
      have : (2 : Rat) = ((2 : Int) : Rat) := rfl
      rw [this]; exact Rat.intCast_le_intCast.mpr hb
    have p : (0 : Rat) < (2 : Rat) ^ n := Rat.pow_pos (by decide)
    have a1 := Rat.mul_le_mul_of_nonneg_left (c := (2 : Rat) ^ n) h2 (Rat.le_of_lt p)
    have a2 := Rat.mul_le_mul_of_nonneg_right (c := (b : Rat)) ih (by grind)
    grind
theorem lp_high {b room : Int} {need : Rat} (hb : 2 ≤ b) (hr : 1 ≤ room) (h : Sz 800 need) (h0 : 0 < need) {d : Int} (hd : 800 ≤ d) : ¬ (b : Rat) ^ d * (room : Rat) < need := by
  intro hl
  have h1 := (sz_lt h h0).1
  have h2 := pow2_le hb 800
  have h3 := zpow_mono (show (1 : Int) ≤ b by omega) (show ((800 : Nat) : Int) ≤ d by omega)
  rw [zpow_of_nat] at h3
  have hr1 : (1 : Rat) ≤ (room : Rat) := by
    have : (1 : Rat) = ((1 : Int) : Rat) := rfl
    rw [this]; exact Rat.intCast_le_intCast.mpr hr
  have h4 : (0 : Rat) < (b : Rat) ^ d := Rat.zpow_pos (ratpos (by omega))
  have h5 := Rat.mul_le_mul_of_nonneg_left (c := (b : Rat) ^ d) hr1 (Rat.le_of_lt h4)
  generalize (2 : Rat) ^ 800 = z at *
  generalize (b : Rat) ^ 800 = y at *
  grind
theorem lp_low {b room : Int} {need : Rat} (hb : 2 ≤ b) (hr : 1 ≤ room) (hr2 : room < 2 ^ 20) (h : Sz 800 need) (h0 : 0 < need) {d : Int} (hd : d ≤ -820) : (b : Rat) ^ d * (room : Rat) < need := by
  have h1 := (sz_lt h h0).2
  have h2 := pow2_le hb 820
  have h3 := zpow_mono (show (1 : Int) ≤ b by omega) (show d ≤ -((820 : Nat) : Int) by omega)
  rw [Rat.zpow_neg, zpow_of_nat] at h3
  have hp : (0 : Rat) < (b : Rat) ^ 820 := Rat.pow_pos (ratpos (by omega))
  have hr1 : (room : Rat) < (2 : Rat) ^ 20 := by
    have e : (2 : Rat) ^ 20 = ((2 ^ 20 : Int) : Rat) := by rw [intpow_cast]; rfl
    rw [e]; exact Rat.intCast_lt_intCast.mpr hr2
  have hr0 : (0 : Rat) < (room : Rat) := ratpos (by omega)
  have e2 : (2 : Rat) ^ 820 = (2 : Rat) ^ 800 * (2 : Rat) ^ 20 := by
    have := Rat.zpow_add (q := 2) (by decide) ((800 : Nat) : Int) ((20 : Nat) : Int)
    exact this
  rw [e2] at h2
  have hz : (0 : Rat) < (2 : Rat) ^ 800 := Rat.pow_pos (by decide)
  have hw : (0 : Rat) < (2 : Rat) ^ 20 := Rat.pow_pos (by decide)
  generalize (2 : Rat) ^ 800 = z at *
  generalize (2 : Rat) ^ 20 = w at *
  generalize (b : Rat) ^ 820 = y at *
  -- b^d ≤ 1/y ≤ 1/(z w), room < w, so b^d room < 1/z < need
  have a1 : (b : Rat) ^ d * y ≤ 1 := by
    have := Rat.mul_le_mul_of_nonneg_right (c := y) h3 (Rat.le_of_lt hp)
    rw [Rat.inv_mul_cancel _ (by grind)] at this
    exact this
  have hbd : (0 : Rat) < (b : Rat) ^ d := Rat.zpow_pos (ratpos (by omega))
  generalize (b : Rat) ^ d = x at *
  have a2 : x * (z * w) ≤ 1 := by
    have := Rat.mul_le_mul_of_nonneg_left (c := x) h2 (Rat.le_of_lt hbd)
    grind
  have a3 : x * (room : Rat) * z < 1 := by
    have t1 := Rat.mul_lt_mul_of_pos_left hr1 (show (0 : Rat) < x * z from Rat.mul_pos hbd hz)
    grind
  have a4 : x * (room : Rat) * z < need * z := by grind
  exact Rat.lt_of_mul_lt_mul_right a4 (Rat.le_of_lt hz)
theorem vc_least_power : goal_least_power := by
  rintro x0 x1 x2 S P ⟨b, room, need, e, h1, h2, h3, h4, h5, h6, h⟩
  cases e
  unfold rd_least_power
  have szr : Sz 21 ((room : Int) : Rat) := sz_int (by omega)
  have szp : ∀ d : Int, -830 ≤ d → d ≤ 830 → Sz 4000 ((b : Rat) ^ d) := fun d a1 a2 => (sz_zpow (k := d) (by omega) h2).mono (by omega)
  have szm : ∀ d : Int, -830 ≤ d → d ≤ 830 → Sz 400000 ((b : Rat) ^ d * (room : Rat)) := fun d a1 a2 => (sz_mul (szp d a1 a2) szr).mono (by decide)
  have szn : Sz 400000 need := h6.mono (by decide)
  -- one look
  have look : ∀ (d : Int) (Q : D → Store → Prop) (S : Store), -830 ≤ d → d ≤ 830 → Q (.bl (decide ((b : Rat) ^ d * (room : Rat) < need))) S →
      sp_power [.int b, .int d] S fun x S1 => sp_times [x, .tup [.int room, .int 1]] S1 fun y S2 => sp_is_below [y, encR need] S2 Q := fun d Q S a1 a2 q =>
    ⟨b, d, rfl, by omega, h2, by omega, _, ((room : Int) : Rat), rfl, szp d a1 a2, szr.mono (by decide), _, _, rfl, szm d a1 a2, szn, q⟩
  unfold dWhile
  walk_at "dgo"
  refine ⟨fun m ρ S' => ∃ lag : Int, ρ = [some (.int b), some (.int room), some (encR need), some (.int lag)] ∧ S' = S ∧ 0 ≤ lag ∧ lag ≤ 800 ∧ m = (800 - lag).toNat, ⟨800, 0, rfl, rfl, by decide, by decide, by decide⟩, ?_⟩
  rintro m ρ S' ⟨lag, rfl, rfl, l0, l1, rfl⟩
  walk_at "dgo"
  refine look lag _ _ (by omega) (by omega) ?_
  walk_at "dgo"
  split
  · rename_i hlt
    have : ¬ 800 ≤ lag := fun z => lp_high h1 h3 h6 h5 z hlt
    exact ⟨_, by omega, lag + 1, rfl, by omega, by omega, rfl⟩
  · rename_i hge
    refine ⟨fun m ρ S'' => ∃ lag : Int, ρ = [some (.int b), some (.int room), some (encR need), some (.int lag)] ∧ S'' = S' ∧ -820 ≤ lag ∧ lag ≤ 800 ∧ ¬ (b : Rat) ^ lag * (room : Rat) < need ∧ m = (lag + 820).toNat, ⟨_, lag, rfl, rfl, by omega, by omega, hge, rfl⟩, ?_⟩
    rintro m ρ S'' ⟨lag, rfl, rfl, l0, l1, hl, rfl⟩
    walk_at "dgo"
    refine look (lag - 1) _ _ (by omega) (by omega) ?_
    walk_at "dgo"
    by_cases hc : (b : Rat) ^ (lag - 1) * (room : Rat) < need
    · simp only [hc, decide_true, Bool.not_true, Bool.false_eq_true, reduceIte]
      exact h lag ⟨Rat.not_lt.mp hl, hc⟩ (by omega) (by omega)
    · simp only [hc, decide_false, Bool.not_false, reduceIte]
      have : ¬ lag - 1 ≤ -820 := fun z => hc (lp_low h1 h3 h4 h6 h5 z)
      exact ⟨_, by omega, lag - 1, rfl, by omega, by omega, hc, rfl⟩
end Lb

namespace Lb
open PySem PySem.Spec PyProof.Rows L2 DL
local macro_rules | `(tactic| walk_at "dgo") => `(tactic| try simp only [dSeq, dSet, dPar, dOp, dUn, dVar, dC, dCB, dCons, dNil, dTup, dLst, dLstM, dIfS, dIf, dTest, dNot, dAnd, dOr, dAndV, dOrV, dNotV, dRet, dRetN, dEnd, dNext, dAdd, dSub, dMul, dFdiv, dMod, dPow, dNeg, dLt, dLe, dGt, dGe, dEq, dNe, eqB_ii, eqB_bb, eqB_ss, eqB_nn, eqB_ni, eqB_in, eqB_ns, eqB_sn, eqB_is, eqB_si, eqB_nb, eqB_bn, dIx, dIn, dIsN, dNotN, DL.isNon, cAbs, cMax2, cMin2, cInt, cLen, cList, cTuple, dIsB, dNotB, dPar3, ForN, LcN, pinOf, pin2, dEnum2, dAppend, supd_same0, isi_non_int, isi_non_bool, isi_non_str, isi_non_list, isi_non_tuple, isi_non_lt, isi_bl_int, isi_bl_bool, isi_bl_str, isi_bl_list, isi_bl_tuple, isi_bl_lt, isi_int_int, isi_int_bool, isi_int_str, isi_int_list, isi_int_tuple, isi_int_lt, isi_str_int, isi_str_bool, isi_str_str, isi_str_list, isi_str_tuple, isi_str_lt, isi_lst_int, isi_lst_bool, isi_lst_str, isi_lst_list, isi_lst_tuple, isi_lst_lt, isi_tup_int, isi_tup_bool, isi_tup_str, isi_tup_list, isi_tup_tuple, isi_tup_lt, dAug, dIAdd, dIMul, dDrop, dSl, dPart, dNoPart, dRevL, dCallK, dChainR, dAsg, put_nm, put_tp, put_tl, putL_nil, putL_cons, Option.bind, seqOf, lstOf, dFor, dLc, dLcM, dItSeq, dZip, dZipS, dEnum, dRng1, dRng2, dYes, dwipe, Tgt.slots, Tgt.slotsL,
  atI_0, atI_1, atI_2, atI_3, List.getElem?_cons_zero, List.getElem?_cons_succ, List.set_cons_zero, List.set_cons_succ, decide_eq_true_eq, List.length_cons, List.length_nil, List.cons_append, List.nil_append, List.append_nil, ofString_inj, String.reduceEq, decide_true, decide_false, reduceIte, Bool.false_eq_true, Bool.not_true, Bool.not_false, eqFlat, isFlat, List.any_cons, List.any_nil, List.all_cons, List.all_nil, Bool.or_false, Bool.or_true, Bool.false_or, Bool.true_or, Bool.and_true, Bool.true_and, true_and, and_true, Nat.reduceAdd, Nat.reduceLeDiff, Int.reduceLT, Int.reduceLE, Int.reduceNeg])
/-! ### list comprehensions -/
/-- over the data of some things, the data of others, nothing drawn -/
theorem lc_mapA {α : Type} {t : Tgt} {de : DE} {P : D → Store → Prop} {xs : List α} {ρ : DSt} {S : Store} (f g : α → D) (hl : xs.length ≤ 100000)
    (h : ∀ a, a ∈ xs → ∃ ρ', t.put (f a) (dwipe ρ t.slots) = some ρ' ∧ ∀ Q : D → Store → Prop, Q (g a) S → de ρ' S Q) (q : P (.lst (xs.map g)) S) : LcB t dYes de P (xs.map f) ρ S := by
  refine ⟨by simpa using hl, fun i acc S' => acc = (xs.take i).map g ∧ S' = S, ⟨rfl, rfl⟩, ?_, ?_⟩
  · rintro i d acc S' hd ⟨rfl, rfl⟩
    rw [List.getElem?_map] at hd
    cases e : xs[i]? with
    | none => rw [e] at hd; cases hd
    | some a =>
      rw [e] at hd
      cases hd
      obtain ⟨ρ', h1, h2⟩ := h a (List.mem_of_getElem? e)
      refine ⟨ρ', h1, ?_⟩
      simp only [dYes, reduceIte]
      refine h2 _ ⟨?_, rfl⟩
      rw [List.take_add_one, e]
      simp
  · rintro acc S' ⟨rfl, rfl⟩
    rw [List.length_map, List.take_length]
    exact q
/-- each item by itself, with draws on the way: R of each, St between -/
theorem lc_st {t : Tgt} {de : DE} {P : D → Store → Prop} {ds : List D} {ρ : DSt} {S : Store} (R : Nat → D → Prop) (St : Nat → Store → Prop) (hl : ds.length ≤ 100000) (h0 : St 0 S)
    (h : ∀ (i : Nat) (d : D) (S' : Store), ds[i]? = some d → St i S' → ∃ ρ', t.put d (dwipe ρ t.slots) = some ρ' ∧ ∀ Q : D → Store → Prop, (∀ y S'', R i y → St (i + 1) S'' → Q y S'') → de ρ' S' Q)
    (q : ∀ ys S', ys.length = ds.length → (∀ i y, ys[i]? = some y → R i y) → St ds.length S' → P (.lst ys) S') : LcB t dYes de P ds ρ S := by
  refine ⟨hl, fun i acc S' => acc.length = i ∧ (∀ j y, acc[j]? = some y → R j y) ∧ St i S', ⟨rfl, by simp, h0⟩, ?_, ?_⟩
  · rintro i d acc S' hd ⟨rfl, hr, hs⟩
    obtain ⟨ρ', h1, h2⟩ := h _ d S' hd hs
    refine ⟨ρ', h1, ?_⟩
    simp only [dYes, reduceIte]
    refine h2 _ fun y S'' r s => ⟨by simp, fun j z hz => ?_, s⟩
    by_cases hj : j < acc.length
    · rw [List.getElem?_append_left hj] at hz
      exact hr j z hz
    · rw [List.getElem?_append_right (by omega)] at hz
      have hj2 : j = acc.length := by
        have := (List.getElem?_eq_some_iff.mp hz).1
        simp at this
        omega
      subst hj2
      simp at hz
      exact hz ▸ r
  · rintro acc S' ⟨h1, h2, h3⟩
    exact q acc S' h1 h2 h3
/-- lists of data with a property are data of things -/
theorem ex_map {α : Type} {f : α → D} {R : α → Prop} : ∀ {ys : List D}, (∀ y, y ∈ ys → ∃ a, y = f a ∧ R a) → ∃ as : List α, ys = as.map f ∧ ∀ a, a ∈ as → R a
  | [], _ => ⟨[], rfl, by simp⟩
  | y :: ys, h => by
    obtain ⟨a, rfl, ra⟩ := h y (by simp)
    obtain ⟨as, rfl, ras⟩ := ex_map (f := f) (R := R) (ys := ys) (fun z hz => h z (by simp [hz]))
    exact ⟨a :: as, rfl, fun b hb => by
      rcases List.mem_cons.mp hb with rfl | hb
      · exact ra
      · exact ras b hb⟩
theorem len_map {α β : Type} (f : α → β) (xs : List α) : (xs.map f).length = xs.length := List.length_map ..
/-- all([right(..) for ..]), each of them true, whatever is drawn -/
theorem all_true {t : Tgt} {de : DE} {P : D → Store → Prop} {ds : List D} {ρ : DSt} {S : Store} (hl : ds.length ≤ 100000)
    (h : ∀ (i : Nat) (d : D) (S' : Store), ds[i]? = some d → ∃ ρ', t.put d (dwipe ρ t.slots) = some ρ' ∧ ∀ Q : D → Store → Prop, (∀ S'', Q (.bl true) S'') → de ρ' S' Q)
    (q : ∀ S', P (.bl true) S') : LcB t dYes de (fun x S1 => cAll [x] S1 P) ds ρ S :=
  lc_st (fun _ y => y = .bl true) (fun _ _ => True) hl trivial (fun i d S' hd _ => by
    obtain ⟨ρ', h1, h2⟩ := h i d S' hd
    exact ⟨ρ', h1, fun Q hq => h2 Q fun S'' => hq _ _ rfl trivial⟩) fun ys S' hy hr _ => by
    obtain ⟨bs, rfl, hb⟩ := ex_map (f := D.bl) (R := fun b => b = true) (ys := ys) fun y hy => by
      obtain ⟨i, hi⟩ := List.mem_iff_getElem?.mp hy
      exact ⟨true, hr i y hi, rfl⟩
    unfold cAll
    simp only [lstOf, Option.bind, dBools_map]
    have e : bs.all id = true := List.all_eq_true.mpr fun b hb' => hb b hb'
    rw [e]; exact q _
/-! ### draws, only the box looked at -/
theorem take_ok {p : Addr} {n : Nat} {size : Int} {S : Store} {P : D → Store → Prop} (hb : BoxAt S p n) (h0 : 0 < size) (h1 : size ≤ 2 ^ 40) (hn : n ≤ 1000000000) (h : ∀ x S', 0 ≤ x → x < size → BoxAt S' p (n + 1) → P (.int x) S') : sp_Ltake [.obj p, .int size] S P :=
  ⟨p, size, n, rfl, h0, h1, hb, hn, fun x S' a b d => h x S' a b d.box⟩
theorem of_lst {p : Addr} {n : Nat} {xs : List D} {S : Store} {P : D → Store → Prop} (hb : BoxAt S p n) (h0 : 0 < xs.length) (h1 : xs.length ≤ 100000) (hn : n ≤ 1000000000) (h : ∀ x S', x ∈ xs → BoxAt S' p (n + 1) → P x S') : sp_Lof [.obj p, .lst xs] S P :=
  ⟨p, _, xs, n, rfl, .inl rfl, h0, h1, hb, hn, fun x S' a d => h x S' a d.box⟩
theorem of_tup {p : Addr} {n : Nat} {xs : List D} {S : Store} {P : D → Store → Prop} (hb : BoxAt S p n) (h0 : 0 < xs.length) (h1 : xs.length ≤ 100000) (hn : n ≤ 1000000000) (h : ∀ x S', x ∈ xs → BoxAt S' p (n + 1) → P x S') : sp_Lof [.obj p, .tup xs] S P :=
  ⟨p, _, xs, n, rfl, .inr rfl, h0, h1, hb, hn, fun x S' a d => h x S' a d.box⟩
/-- numbers of a list, all with a property -/
theorem of_ints {p : Addr} {n : Nat} {ns : List Int} {S : Store} {P : D → Store → Prop} (R : Int → Prop) (hb : BoxAt S p n) (h0 : 0 < ns.length) (h1 : ns.length ≤ 100000) (hn : n ≤ 1000000000) (hr : ∀ z, z ∈ ns → R z) (h : ∀ z S', R z → BoxAt S' p (n + 1) → P (.int z) S') : sp_Lof [.obj p, .lst (ns.map .int)] S P :=
  of_lst hb (by simpa using h0) (by simpa using h1) hn fun x S' hx hb' => by
    obtain ⟨z, hz, rfl⟩ := List.mem_map.mp hx
    exact h z S' (hr z hz) hb'
/-- all things of a list comprehension with a property -/
theorem all_ints {ys : List D} {R : Int → Prop} (h : ∀ (i : Nat) (y : D), ys[i]? = some y → ∃ z, y = D.int z ∧ R z) : ∃ ns : List Int, ys = ns.map .int ∧ ∀ z, z ∈ ns → R z :=
  ex_map fun y hy => by
    obtain ⟨i, hi⟩ := List.mem_iff_getElem?.mp hy
    exact h i y hi
/-! ### the greatest of a list -/
def maxI (ms : List Int) : Int := ms.foldr (fun a b => max a b) 0
theorem maxI_ge : ∀ {ms : List Int} {m : Int}, m ∈ ms → m ≤ maxI ms
  | a :: r, m, h => by
    have e : maxI (a :: r) = max a (maxI r) := rfl
    rcases List.mem_cons.mp h with rfl | h
    · rw [e]; omega
    · have := maxI_ge h
      rw [e]; omega
theorem maxI_mem : ∀ {ms : List Int}, ms ≠ [] → (∀ m ∈ ms, 0 ≤ m) → maxI ms ∈ ms
  | [a], _, h => by
    have e : maxI [a] = max a 0 := rfl
    have := h a (by simp)
    rw [e]; simp; omega
  | a :: b :: r, _, h => by
    have e : maxI (a :: b :: r) = max a (maxI (b :: r)) := rfl
    have ih := maxI_mem (ms := b :: r) (by simp) (fun m hm => h m (by simp [hm]))
    rcases Int.le_total a (maxI (b :: r)) with q | q
    · have : max a (maxI (b :: r)) = maxI (b :: r) := by omega
      rw [e, this]
      exact List.mem_cons_of_mem _ ih
    · have : max a (maxI (b :: r)) = a := by omega
      rw [e, this]; simp
theorem max_ok {ms : List Int} {S : Store} {P : D → Store → Prop} (hne : ms ≠ []) (h0 : ∀ m ∈ ms, 0 ≤ m) (q : P (.int (maxI ms)) S) : cMaxL [.lst (ms.map .int)] S P := by
  unfold cMaxL
  simp only [lstOf, Option.bind, dInts_map]
  refine ⟨by cases ms with | nil => exact absurd rfl hne | cons => simp, fun m hm hge => ?_⟩
  have e : m = maxI ms := by
    have a1 := maxI_ge hm
    have a2 := hge _ (maxI_mem hne h0)
    omega
  rw [e]; exact q
/-! ### kinds, sources, widths -/
inductive Kd where
  | sum (ws : List Int) (o : Int)
  | least
  | most
  | times
  | over (k : Int)
def Kd.d : Kd → D
  | .sum ws o => .tup [.str "sum", .tup (ws.map .int), .int o]
  | .least => .tup [.str "least"]
  | .most => .tup [.str "most"]
  | .times => .tup [.str "times"]
  | .over k => .tup [.str "over", .int k]
def srcD (q : Int × Int) : D := .tup [.int q.1, .int q.2]
def abI (a : Int) : Int := if a < 0 then -a else a
def sumW (ws ms : List Int) : Int := (List.zipWith (fun w m => abI w * m) ws ms).sum
def Kd.wide (b : Int) (ss : List (Int × Int)) : Kd → Rat
  | .sum ws o => ((sumW ws (ss.map (·.2)) : Int) : Rat) / (o : Rat)
  | .times => match ss with
    | [(e0, m0), (e1, m1)] => ((m0 * m1 : Int) : Rat) / ((b - 1 : Int) : Rat) * ((b : Rat) ^ e0 + (b : Rat) ^ e1)
    | _ => 0
  | .over k => match ss with
    | [(e0, m0), (_, m1)] => ((m0 : Int) : Rat) * (b : Rat) ^ k * (((1 : Int) : Rat) + ((m1 : Int) : Rat) / ((b - 1 : Int) : Rat) * (b : Rat) ^ k * (b : Rat) ^ e0)
    | _ => 0
  | _ => ((maxI (ss.map (·.2)) : Int) : Rat)
def Kd.Ok (ss : List (Int × Int)) : Kd → Prop
  | .sum ws o => ws.length = ss.length ∧ 0 < o ∧ o < 2 ^ 20 ∧ ∀ w ∈ ws, w ≠ 0 ∧ w.natAbs ≤ 100
  | .times => ss.length = 2
  | .over k => ss.length = 2 ∧ 0 ≤ k ∧ k ≤ 6
  | _ => True
structure SsOk (b : Int) (ss : List (Int × Int)) : Prop where
  b0 : 2 ≤ b
  b1 : b ≤ 16
  n0 : 1 ≤ ss.length
  n1 : ss.length ≤ 8
  each : ∀ q ∈ ss, (-30 ≤ q.1 ∧ q.1 ≤ 30) ∧ 1 ≤ q.2 ∧ q.2 ≤ 60
theorem sumW_bound : ∀ (ws ms : List Int) (n : Nat), ws.length ≤ n → (∀ w ∈ ws, w ≠ 0 ∧ w.natAbs ≤ 100) → (∀ m ∈ ms, 1 ≤ m ∧ m ≤ 60) → 0 ≤ sumW ws ms ∧ sumW ws ms ≤ 6000 * (n : Int) ∧ (ws ≠ [] → ms ≠ [] → 0 < sumW ws ms)
  | [], ms, n, _, _, _ => by
    have e : sumW [] ms = 0 := by unfold sumW; simp
    rw [e]; exact ⟨by omega, by omega, fun h => absurd rfl h⟩
  | w :: ws, [], n, _, _, _ => by
    have e : sumW (w :: ws) [] = 0 := by unfold sumW; simp
    rw [e]; exact ⟨by omega, by omega, fun _ h => absurd rfl h⟩
  | w :: ws, m :: ms, n, hn, hw, hm => by
    have e : sumW (w :: ws) (m :: ms) = abI w * m + sumW ws ms := by unfold sumW; simp
    obtain ⟨i1, i2, i3⟩ := sumW_bound ws ms (n - 1) (by simp at hn; omega) (fun x hx => hw x (by simp [hx])) (fun x hx => hm x (by simp [hx]))
    obtain ⟨w0, w1⟩ := hw w (by simp)
    obtain ⟨m0, m1⟩ := hm m (by simp)
    have a0 : 1 ≤ abI w ∧ abI w ≤ 100 := by unfold abI; split <;> omega
    have p1 : 1 * 1 ≤ abI w * m := Int.mul_le_mul a0.1 m0 (by decide) (by omega)
    have p2 : abI w * m ≤ 100 * 60 := Int.mul_le_mul a0.2 m1 (by omega) (by decide)
    have hn1 : 1 ≤ n := by simp at hn; omega
    rw [e]
    exact ⟨by omega, by omega, fun _ _ => by omega⟩
theorem div_pos' {x y : Rat} (hx : 0 < x) (hy : 0 < y) : 0 < x / y := by
  rw [Rat.div_def]
  exact Rat.mul_pos hx (Rat.inv_pos.mpr hy)
theorem SsOk.mosts {b : Int} {ss : List (Int × Int)} (h : SsOk b ss) : ∀ m ∈ ss.map (·.2), 1 ≤ m ∧ m ≤ 60 := fun m hm => by
  obtain ⟨q, hq, rfl⟩ := List.mem_map.mp hm
  exact (h.each q hq).2
theorem SsOk.max {b : Int} {ss : List (Int × Int)} (h : SsOk b ss) : 1 ≤ maxI (ss.map (·.2)) ∧ maxI (ss.map (·.2)) ≤ 60 := by
  have hne : ss.map (·.2) ≠ [] := by
    have n0 := h.n0
    intro z
    have z2 : ss = [] := by simpa using z
    rw [z2] at n0
    exact absurd n0 (by decide)
  exact h.mosts _ (maxI_mem hne fun m hm => by have := h.mosts m hm; omega)
section
variable {b : Int} {ss : List (Int × Int)}
theorem SsOk.bp (h : SsOk b ss) : (0 : Rat) < (b : Rat) := ratpos (by have := h.b0; omega)
theorem SsOk.cp (h : SsOk b ss) : (0 : Rat) < ((b - 1 : Int) : Rat) := ratpos (by have := h.b0; omega)
theorem SsOk.cne (h : SsOk b ss) : (b - 1 : Int) ≠ 0 := by have := h.b0; omega
theorem SsOk.sb (h : SsOk b ss) {e : Int} (h1 : -30 ≤ e) (h2 : e ≤ 30) : Sz 121 ((b : Rat) ^ e) := (sz_zpow (k := e) (by have := h.b0; omega) (by have := h.b1; omega)).mono (by omega)
theorem SsOk.sf (h : SsOk b ss) {m : Int} (hm : m.natAbs < 2 ^ 12) : Sz 12 ((m : Rat) / ((b - 1 : Int) : Rat)) := sz_frac h.cne hm (by have := h.b0; have := h.b1; omega)
theorem mm_bound {m0 m1 : Int} (h0 : 1 ≤ m0 ∧ m0 ≤ 60) (h1 : 1 ≤ m1 ∧ m1 ≤ 60) : (m0 * m1).natAbs < 2 ^ 12 := by
  rw [Int.natAbs_mul]
  have := Nat.mul_le_mul (show m0.natAbs ≤ 60 by omega) (show m1.natAbs ≤ 60 by omega)
  omega
theorem SsOk.wide (h : SsOk b ss) {kd : Kd} (hk : kd.Ok ss) : 0 < kd.wide b ss ∧ Sz 398 (kd.wide b ss) := by
  have mx := h.max
  have mr : (0 : Rat) < ((maxI (ss.map (·.2)) : Int) : Rat) ∧ Sz 398 ((maxI (ss.map (·.2)) : Int) : Rat) := ⟨ratpos (by omega), (sz_int (n := 6) (by omega)).mono (by decide)⟩
  cases kd with
  | least => exact mr
  | most => exact mr
  | sum ws o =>
    obtain ⟨h1, h2, h3, h4⟩ := hk
    obtain ⟨s0, s1, s2⟩ := sumW_bound ws (ss.map (·.2)) 8 (by have := h.n1; omega) h4 h.mosts
    have s3 := s2 (by
      intro z; subst z
      have := h.n0; simp at h1; omega) (by
      have n0 := h.n0
      intro z
      have z2 : ss = [] := by simpa using z
      rw [z2] at n0
      exact absurd n0 (by decide))
    refine ⟨div_pos' (ratpos s3) (ratpos h2), (sz_frac (n := 20) (by omega) ?_ ?_).mono (by decide)⟩
    · omega
    · omega
  | times =>
    match ss, hk, h with
    | [(e0, m0), (e1, m1)], _, h =>
      obtain ⟨q0, q1⟩ := h.each (e0, m0) (by simp)
      obtain ⟨r0, r1⟩ := h.each (e1, m1) (by simp)
      simp only at q0 q1 r0 r1
      have p0 := Rat.zpow_pos (n := e0) h.bp
      have p1 := Rat.zpow_pos (n := e1) h.bp
      have mmp : (0 : Rat) < ((m0 * m1 : Int) : Rat) := ratpos (Int.mul_pos (by omega) (by omega))
      exact ⟨Rat.mul_pos (div_pos' mmp h.cp) (by grind), (sz_mul (h.sf (mm_bound q1 r1)) (sz_add (h.sb q0.1 q0.2) (h.sb r0.1 r0.2))).mono (by decide)⟩
  | over k =>
    obtain ⟨hl, k0, k1⟩ := hk
    match ss, hl, h with
    | [(e0, m0), (e1, m1)], _, h =>
      obtain ⟨q0, q1⟩ := h.each (e0, m0) (by simp)
      obtain ⟨r0, r1⟩ := h.each (e1, m1) (by simp)
      simp only at q0 q1 r0 r1
      have p0 := Rat.zpow_pos (n := e0) h.bp
      have pk := Rat.zpow_pos (n := k) h.bp
      have m0p : (0 : Rat) < (m0 : Rat) := ratpos (by omega)
      have m1p : (0 : Rat) < (m1 : Rat) := ratpos (by omega)
      have := Rat.mul_pos (Rat.mul_pos (div_pos' m1p h.cp) pk) p0
      have one : ((1 : Int) : Rat) = 1 := rfl
      have sk : Sz 25 ((b : Rat) ^ k) := (sz_zpow (k := k) (by have := h.b0; omega) (by have := h.b1; omega)).mono (by omega)
      have n0 : Sz 12 (m0 : Rat) := sz_int (by omega)
      have f1 := h.sf (m := m1) (by omega)
      have o1 : Sz 1 ((1 : Int) : Rat) := sz_int (by decide)
      exact ⟨Rat.mul_pos (Rat.mul_pos m0p pk) (by rw [one]; grind), (sz_mul (sz_mul n0 sk) (sz_add o1 (sz_mul (sz_mul f1 sk) (h.sb q0.1 q0.2)))).mono (by decide)⟩
/-- twice the width -/
def Kd.need (b : Int) (ss : List (Int × Int)) (kd : Kd) : Rat := ((2 : Int) : Rat) * kd.wide b ss
theorem SsOk.need (h : SsOk b ss) {kd : Kd} (hk : kd.Ok ss) : 0 < kd.need b ss ∧ Sz 400 (kd.need b ss) :=
  ⟨Rat.mul_pos (by decide) (h.wide hk).1, (sz_mul (sz_int (n := 2) (k := 2) (by decide)) (h.wide hk).2).mono (by decide)⟩
end
theorem IsLp.down {b room d : Int} {q : Rat} (hb : 1 ≤ b) (h : IsLp b room (q * (b : Rat)) d) : IsLp b room q (d - 1) := by
  have hp : (0 : Rat) < (b : Rat) := ratpos (by omega)
  have hn : (b : Rat) ≠ 0 := by grind
  have e1 : (b : Rat) ^ d = (b : Rat) ^ (d - 1) * (b : Rat) := by
    rw [← Rat.zpow_add_one hn]; congr 1; omega
  have e2 : (b : Rat) ^ (d - 1) = (b : Rat) ^ (d - 1 - 1) * (b : Rat) := by
    rw [← Rat.zpow_add_one hn]; congr 1; omega
  obtain ⟨h1, h2⟩ := h
  constructor
  · rw [e1] at h1
    have h3 : q * (b : Rat) ≤ ((b : Rat) ^ (d - 1) * (room : Rat)) * (b : Rat) := by grind
    exact Rat.le_of_mul_le_mul_right h3 hp
  · rw [e2] at h2
    have h3 : ((b : Rat) ^ (d - 1 - 1) * (room : Rat)) * (b : Rat) < q * (b : Rat) := by grind
    exact Rat.lt_of_mul_lt_mul_right h3 (Rat.le_of_lt hp)
theorem IsLp.up {b room d : Int} {q : Rat} (hb : 1 ≤ b) (h : IsLp b room q d) : IsLp b room (q * (b : Rat)) (d + 1) := by
  have hp : (0 : Rat) < (b : Rat) := ratpos (by omega)
  have hn : (b : Rat) ≠ 0 := by grind
  have e2 : (b : Rat) ^ (d + 1 - 1) = (b : Rat) ^ (d - 1) * (b : Rat) := by
    rw [← Rat.zpow_add_one hn]; congr 1; omega
  obtain ⟨h1, h2⟩ := h
  constructor
  · rw [Rat.zpow_add_one hn]
    have := Rat.mul_le_mul_of_nonneg_right h1 (Rat.le_of_lt hp)
    grind
  · rw [e2]
    have := Rat.mul_lt_mul_of_pos_right h2 hp
    grind
/-! ### promises -/
/-- the sources, in a list or a tuple -/
def srcsD (tu : Bool) (ss : List (Int × Int)) : D := if tu then .tup (ss.map srcD) else .lst (ss.map srcD)
def sp_width_of : DSp := fun ds S P => ∃ (b : Int) (ss : List (Int × Int)) (tu : Bool) (kd : Kd), ds = [.int b, kd.d, srcsD tu ss] ∧ SsOk b ss ∧ kd.Ok ss ∧ P (encR (kd.wide b ss)) S
/-- what told_lag is asked about -/
inductive TKd where
  | kd (k : Kd)
  | loose (xs : List D)
  | told (x : D)
  | choose
  | moved (k : Int)
def TKd.d : TKd → D
  | .kd k => k.d
  | .loose xs => .tup [.str "loose", .tup xs]
  | .told x => .tup [.str "told", x]
  | .choose => .tup [.str "choose"]
  | .moved k => .tup [.str "moved", .int k]
def TKd.Lag (b : Int) (ss : List (Int × Int)) (most : Int) : TKd → D → Prop
  | .kd k, x => ∃ d : Int, x = .int d ∧ IsLp b (2 * most - b + 1) (k.need b ss) d ∧ -830 ≤ d ∧ d ≤ 830
  | .loose _, x => x = .int 0
  | .told _, x => x = .non
  | .choose, x => x = .non
  | .moved k, x => x = .int k
def TKd.Ok (b : Int) (ss : List (Int × Int)) (most : Int) : TKd → Prop
  | .kd k => SsOk b ss ∧ k.Ok ss ∧ b ≤ 2 * most ∧ most ≤ 60
  | _ => True
def sp_told_lag : DSp := fun ds S P => ∃ (b begin most : Int) (ss : List (Int × Int)) (tu : Bool) (kd : TKd), ds = [.int b, kd.d, srcsD tu ss, .int begin, .int most] ∧ kd.Ok b ss most ∧ ∀ x, kd.Lag b ss most x → P x S
def rd_width_of : DS :=
  (dSeq (dPar 3 4 (dCons (dOp dIx (dVar 1) (dC (.int 0))) (dCons (dLc (dItSeq (dVar 2)) (.tp [(.nm 5), (.nm 6)]) dYes (dVar 6)) dNil)))
  (dSeq (dIfS (dTest (dOp dEq (dVar 3) (dC (.str "sum")))) (dRet (dCB sp_frac (dCons (dCB cSum (dCons (dLc (dZipS (dCons (dOp dIx (dVar 1) (dC (.int 1))) (dCons (dVar 4) dNil))) (.tp [(.nm 7), (.nm 6)]) dYes (dOp dMul (dCB cAbs (dCons (dVar 7) dNil)) (dVar 6))) dNil)) (dCons (dOp dIx (dVar 1) (dC (.int 2))) dNil)))) dNext)
  (dSeq (dIfS (dTest (dOp (dIn false) (dVar 3) (dTup (dCons (dC (.str "least")) (dCons (dC (.str "most")) dNil))))) (dRet (dTup (dCons (dCB cMaxL (dCons (dVar 4) dNil)) (dCons (dC (.int 1)) dNil)))) dNext)
  (dSeq (dSet 8 (dLc (dItSeq (dVar 2)) (.tp [(.nm 5), (.nm 6)]) dYes (dCB sp_power (dCons (dVar 0) (dCons (dVar 5) dNil)))))
  (dSeq (dIfS (dTest (dOp dEq (dVar 3) (dC (.str "times")))) (dRet (dCB sp_times (dCons (dCB sp_frac (dCons (dOp dMul (dOp dIx (dVar 4) (dC (.int 0))) (dOp dIx (dVar 4) (dC (.int 1)))) (dCons (dOp dSub (dVar 0) (dC (.int 1))) dNil))) (dCons (dCB sp_plus (dCons (dOp dIx (dVar 8) (dC (.int 0))) (dCons (dOp dIx (dVar 8) (dC (.int 1))) dNil))) dNil)))) dNext)
  (dSeq (dSet 9 (dCB sp_power (dCons (dVar 0) (dCons (dOp dIx (dVar 1) (dC (.int 1))) dNil))))
  (dRet (dCB sp_times (dCons (dCB sp_times (dCons (dTup (dCons (dOp dIx (dVar 4) (dC (.int 0))) (dCons (dC (.int 1)) dNil))) (dCons (dVar 9) dNil))) (dCons (dCB sp_plus (dCons (dTup (dCons (dC (.int 1)) (dCons (dC (.int 1)) dNil))) (dCons (dCB sp_times (dCons (dCB sp_times (dCons (dCB sp_frac (dCons (dOp dIx (dVar 4) (dC (.int 1))) (dCons (dOp dSub (dVar 0) (dC (.int 1))) dNil))) (dCons (dVar 9) dNil))) (dCons (dOp dIx (dVar 8) (dC (.int 0))) dNil))) dNil))) dNil))))))))))
def goal_width_of : Prop := ∀ (x0 x1 x2 : D) (S : Store) (P : D → Store → Prop), sp_width_of [x0, x1, x2] S P → rd_width_of (dEnd P) [some x0, some x1, some x2, none, none, none, none, none, none, none] S
def rd_told_lag : DS :=
  (dSeq (dIfS (dTest (dOp dEq (dOp dIx (dVar 1) (dC (.int 0))) (dC (.str "moved")))) (dRet (dOp dIx (dVar 1) (dC (.int 1)))) dNext)
  (dSeq (dIfS (dTest (dOp (dIn false) (dOp dIx (dVar 1) (dC (.int 0))) (dTup (dCons (dC (.str "loose")) (dCons (dC (.str "told")) (dCons (dC (.str "choose")) dNil)))))) (dRet (dIf (dTest (dOp dEq (dOp dIx (dVar 1) (dC (.int 0))) (dC (.str "loose")))) (dC (.int 0)) (dC .non))) dNext)
  (dRet (dCB sp_least_power (dCons (dVar 0) (dCons (dOp dAdd (dOp dSub (dOp dMul (dC (.int 2)) (dVar 4)) (dVar 0)) (dC (.int 1))) (dCons (dCB sp_times (dCons (dTup (dCons (dC (.int 2)) (dCons (dC (.int 1)) dNil))) (dCons (dCB sp_width_of (dCons (dVar 0) (dCons (dVar 1) (dCons (dVar 2) dNil)))) dNil))) dNil)))))))
def goal_told_lag : Prop := ∀ (x0 x1 x2 x3 x4 : D) (S : Store) (P : D → Store → Prop), sp_told_lag [x0, x1, x2, x3, x4] S P → rd_told_lag (dEnd P) [some x0, some x1, some x2, some x3, some x4] S
theorem len_width_of : ∀ ds S P, sp_width_of ds S P → ds.length = 3 := by
  rintro ds S P ⟨a, b, c, d, rfl, _⟩; rfl
theorem len_told_lag : ∀ ds S P, sp_told_lag ds S P → ds.length = 5 := by
  rintro ds S P ⟨a, b, c, d, e, f, rfl, _⟩; rfl
theorem srcs_seq (tu : Bool) (ss : List (Int × Int)) (S : Store) : seqOf S (srcsD tu ss) = some (ss.map srcD) := by cases tu <;> rfl
theorem zipD_map {α β : Type} (f : α → D) (g : β → D) : ∀ (xs : List α) (ys : List β), zipD (xs.map f) (ys.map g) = (xs.zip ys).map fun p => .tup [f p.1, g p.2]
  | [], _ => by simp [zipD]
  | _ :: _, [] => by simp [zipD]
  | x :: xs, y :: ys => by
    have := zipD_map f g xs ys
    unfold zipD at this ⊢
    simp [this]
theorem dInts_mapF {α : Type} (F : α → Int) (xs : List α) : dInts (xs.map fun a => .int (F a)) = some (xs.map F) := by
  have := dInts_map (xs.map F)
  rwa [List.map_map] at this
theorem dBools_mapF {α : Type} (F : α → Bool) (xs : List α) : dBools (xs.map fun a => .bl (F a)) = some (xs.map F) := by
  have := dBools_map (xs.map F)
  rwa [List.map_map] at this
theorem sumW_zip : ∀ (ws : List Int) (ss : List (Int × Int)), ((ws.zip ss).map fun p => abI p.1 * p.2.2).sum = sumW ws (ss.map (·.2))
  | [], _ => by simp [sumW]
  | _ :: _, [] => by simp [sumW]
  | w :: ws, q :: ss => by
    have := sumW_zip ws ss
    unfold sumW at this ⊢
    simp [this]
theorem vc_width_of : goal_width_of := by
  rintro x0 x1 x2 S P ⟨b, ss, tu, kd, e, hs, hk, h⟩
  cases e
  unfold rd_width_of
  have hl : ss.length ≤ 100000 := by have := hs.n1; omega
  have mosts : ∀ (ρ : DSt) (P : D → Store → Prop), P (.lst (ss.map fun q => .int q.2)) S → ρ.length = 10 → LcB (.tp [.nm 5, .nm 6]) dYes (dVar 6) P (ss.map srcD) ρ S := fun ρ P q hl2 => by
    refine lc_mapA srcD (fun q => .int q.2) hl (fun a ha => ?_) q
    match ρ, hl2 with
    | [r0, r1, r2, r3, r4, r5, r6, r7, r8, r9], _ => exact ⟨_, rfl, fun Q q => q⟩
  have begins : ∀ (ρ : DSt) (P : D → Store → Prop), P (.lst (ss.map fun q => encR ((b : Rat) ^ q.1))) S → ρ.length = 10 → ρ[0]? = some (some (.int b)) → LcB (.tp [.nm 5, .nm 6]) dYes (dCB sp_power (dCons (dVar 0) (dCons (dVar 5) dNil))) P (ss.map srcD) ρ S := fun ρ P q hl2 h0 => by
    refine lc_mapA srcD (fun q => encR ((b : Rat) ^ q.1)) hl (fun a ha => ?_) q
    match ρ, hl2 with
    | [r0, r1, r2, r3, r4, r5, r6, r7, r8, r9], _ =>
      cases h0
      have hb := hs.each a ha
      exact ⟨_, rfl, fun Q q => ⟨b, a.1, rfl, by have := hs.b0; omega, by have := hs.b1; omega, by omega, q⟩⟩
  have mx := hs.max
  have mxl : ss.map (fun q => q.2) ≠ [] := by
    have n0 := hs.n0
    intro z
    have z2 : ss = [] := by simpa using z
    rw [z2] at n0
    exact absurd n0 (by decide)
  have hmax : ∀ (P : D → Store → Prop), P (.int (maxI (ss.map (·.2)))) S → cMaxL [.lst (ss.map fun q => .int q.2)] S P := fun P q => by
    unfold cMaxL
    simp only [lstOf, Option.bind, dInts_mapF]
    refine ⟨by have := hs.n0; rw [List.length_map]; omega, fun m hm hge => ?_⟩
    have e : m = maxI (ss.map (·.2)) := by
      have a1 : m ≤ maxI (ss.map (·.2)) := maxI_ge hm
      have a2 : maxI (ss.map (·.2)) ≤ m := hge _ (maxI_mem mxl fun m hm => by have := hs.mosts m hm; omega)
      omega
    rw [e]; exact q
  cases tu
  all_goals
    unfold srcsD
    simp only [Bool.false_eq_true, reduceIte]
    walk_at "dgo"
    cases kd with
    | sum ws o =>
      obtain ⟨h1, h2, h3, h4⟩ := hk
      unfold Kd.d
      walk_at "dgo"
      refine mosts _ _ ?_ rfl
      walk_at "dgo"
      refine ⟨by simpa using h1, ?_⟩
      rw [zipD_map]
      refine lc_mapA _ (fun p => .int (abI p.1 * p.2.2)) (by simp; omega) (fun p hp => ⟨_, rfl, fun Q q => ?_⟩) ?_
      · walk_at "dgo"
        obtain ⟨p1, p2⟩ := List.of_mem_zip hp
        have a1 := h4 _ p1
        refine ⟨mulS (by unfold abI at *; split <;> omega), q⟩
      · unfold cSum
        simp only [lstOf, Option.bind, dInts_mapF]
        rw [sumW_zip]
        obtain ⟨s0, s1, s2⟩ := sumW_bound ws (ss.map (·.2)) 8 (by have := hs.n1; omega) h4 hs.mosts
        exact ⟨_, o, rfl, by omega, bound_mono (n := 20) (by omega), bound_mono (n := 20) (by omega), h⟩
    | least =>
      unfold Kd.d
      walk_at "dgo"
      refine mosts _ _ ?_ rfl
      walk_at "dgo"
      exact hmax _ h
    | most =>
      unfold Kd.d
      walk_at "dgo"
      refine mosts _ _ ?_ rfl
      walk_at "dgo"
      exact hmax _ h
    | times =>
      unfold Kd.d
      walk_at "dgo"
      refine mosts _ _ ?_ rfl
      walk_at "dgo"
      refine begins _ _ ?_ rfl rfl
      match ss, hk, hs, h with
      | [(e0, m0), (e1, m1)], _, hs, h =>
        obtain ⟨q0, q1⟩ := hs.each (e0, m0) (by simp)
        obtain ⟨r0, r1⟩ := hs.each (e1, m1) (by simp)
        simp only [List.map_cons, List.map_nil] at q0 q1 r0 r1 ⊢
        have b0 := hs.b0; have b1 := hs.b1
        have s0 := hs.sb q0.1 q0.2
        have s1 := hs.sb r0.1 r0.2
        have mm := mm_bound q1 r1
        walk_at "dgo"
        refine ⟨mulS, _, _, rfl, by omega, bound_mono mm, bound_mono (n := 12) (by omega), _, _, rfl, s0.mono (by decide), s1.mono (by decide), _, _, rfl, (hs.sf mm).mono (by decide), (sz_add s0 s1).mono (by decide), ?_⟩
        exact h
    | over k =>
      obtain ⟨hk, k0, k1⟩ := hk
      unfold Kd.d
      walk_at "dgo"
      refine mosts _ _ ?_ rfl
      walk_at "dgo"
      refine begins _ _ ?_ rfl rfl
      match ss, hk, hs, h with
      | [(e0, m0), (e1, m1)], _, hs, h =>
        obtain ⟨q0, q1⟩ := hs.each (e0, m0) (by simp)
        obtain ⟨r0, r1⟩ := hs.each (e1, m1) (by simp)
        simp only [List.map_cons, List.map_nil] at q0 q1 r0 r1 ⊢
        have b0 := hs.b0; have b1 := hs.b1
        have s0 := hs.sb q0.1 q0.2
        have sk := hs.sb (e := k) (by omega) (by omega)
        have n0 : Sz 12 (m0 : Rat) := sz_int (by omega)
        have f1 := hs.sf (m := m1) (by omega)
        have o1 : Sz 1 ((1 : Int) : Rat) := sz_int (by decide)
        walk_at "dgo"
        refine ⟨b, k, rfl, by omega, by omega, by omega, ?_⟩
        walk_at "dgo"
        refine ⟨(m0 : Rat), _, rfl, n0.mono (by decide), sk.mono (by decide), ?_⟩
        walk_at "dgo"
        refine ⟨m1, b - 1, rfl, by omega, bound_mono (n := 12) (by omega), bound_mono (n := 12) (by omega), _, _, rfl, f1.mono (by decide), sk.mono (by decide), _, _, rfl, (sz_mul f1 sk).mono (by decide), s0.mono (by decide), ((1 : Int) : Rat), _, rfl, o1.mono (by decide), (sz_mul (sz_mul f1 sk) s0).mono (by decide), ?_⟩
        exact ⟨_, _, rfl, (sz_mul n0 sk).mono (by decide), (sz_add o1 (sz_mul (sz_mul f1 sk) s0)).mono (by decide), h⟩
theorem vc_told_lag : goal_told_lag := by
  rintro x0 x1 x2 x3 x4 S P ⟨b, begin, most, ss, tu, kd, e, hk, h⟩
  cases e
  unfold rd_told_lag
  cases kd with
  | loose xs => unfold TKd.d; walk_at "dgo"; exact h _ rfl
  | told x => unfold TKd.d; walk_at "dgo"; exact h _ rfl
  | choose => unfold TKd.d; walk_at "dgo"; exact h _ rfl
  | moved k => unfold TKd.d; walk_at "dgo"; exact h _ rfl
  | kd k =>
    obtain ⟨hs, hk, h1, h2⟩ := hk
    have b0 := hs.b0; have b1 := hs.b1
    have nn := hs.need hk
    have ww := hs.wide hk
    have fin : sp_width_of [.int b, k.d, srcsD tu ss] S fun y S1 => sp_times [.tup [.int 2, .int 1], y] S1 fun z S2 => sp_least_power [.int b, .int (2 * most - b + 1), z] S2 P := by
      refine ⟨b, ss, tu, k, rfl, hs, hk, ((2 : Int) : Rat), _, rfl, (sz_int (n := 2) (by decide)).mono (by decide), ww.2.mono (by decide), ?_⟩
      exact ⟨b, _, _, rfl, b0, b1, by omega, by omega, nn.1, nn.2.mono (by decide), fun d hd d0 d1 => h _ ⟨d, rfl, hd, d0, d1⟩⟩
    cases k <;> (unfold TKd.d Kd.d; unfold Kd.d at fin; walk_at "dgo"; exact ⟨mulS, fin⟩)
end Lb

namespace Lb
open PySem PySem.Spec PyProof.Rows L2 DL
local macro_rules | `(tactic| walk_at "dgo") => `(tactic| try simp only [dSeq, dSet, dPar, dOp, dUn, dVar, dC, dCB, dCons, dNil, dTup, dLst, dLstM, dIfS, dIf, dTest, dNot, dAnd, dOr, dAndV, dOrV, dNotV, dRet, dRetN, dEnd, dNext, dAdd, dSub, dMul, dFdiv, dMod, dPow, dNeg, dLt, dLe, dGt, dGe, dEq, dNe, eqB_ii, eqB_bb, eqB_ss, eqB_nn, eqB_ni, eqB_in, eqB_ns, eqB_sn, eqB_is, eqB_si, eqB_nb, eqB_bn, dIx, dIn, dIsN, dNotN, DL.isNon, cAbs, cMax2, cMin2, cInt, cLen, cList, cTuple, dIsB, dNotB, dPar3, ForN, LcN, pinOf, pin2, dEnum2, dAppend, supd_same0, isi_non_int, isi_non_bool, isi_non_str, isi_non_list, isi_non_tuple, isi_non_lt, isi_bl_int, isi_bl_bool, isi_bl_str, isi_bl_list, isi_bl_tuple, isi_bl_lt, isi_int_int, isi_int_bool, isi_int_str, isi_int_list, isi_int_tuple, isi_int_lt, isi_str_int, isi_str_bool, isi_str_str, isi_str_list, isi_str_tuple, isi_str_lt, isi_lst_int, isi_lst_bool, isi_lst_str, isi_lst_list, isi_lst_tuple, isi_lst_lt, isi_tup_int, isi_tup_bool, isi_tup_str, isi_tup_list, isi_tup_tuple, isi_tup_lt, dAug, dIAdd, dIMul, dDrop, dSl, dPart, dNoPart, dRevL, dCallK, dChainR, dAsg, put_nm, put_tp, put_tl, putL_nil, putL_cons, Option.bind, seqOf, lstOf, dFor, dLc, dLcM, dItSeq, dZip, dZipS, dEnum, dRng1, dRng2, dYes, dwipe, Tgt.slots, Tgt.slotsL,
  atI_0, atI_1, atI_2, atI_3, List.getElem?_cons_zero, List.getElem?_cons_succ, List.set_cons_zero, List.set_cons_succ, decide_eq_true_eq, List.length_cons, List.length_nil, List.cons_append, List.nil_append, List.append_nil, ofString_inj, String.reduceEq, decide_true, decide_false, reduceIte, Bool.false_eq_true, Bool.not_true, Bool.not_false, eqFlat, isFlat, List.any_cons, List.any_nil, List.all_cons, List.all_nil, Bool.or_false, Bool.or_true, Bool.false_or, Bool.true_or, Bool.and_true, Bool.true_and, true_and, and_true, Nat.reduceAdd, Nat.reduceLeDiff, Int.reduceLT, Int.reduceLE, Int.reduceNeg])
/-! ### plain data -/
inductive Plain : Nat → D → Prop
  | non {n} : Plain n .non
  | bl {n b} : Plain n (.bl b)
  | int {n i} : Plain n (.int i)
  | str {n z} : Plain n (.str z)
  | lst {n ds} (hl : ds.length ≤ 100000) (h : ∀ y, y ∈ ds → Plain n y) : Plain (n + 1) (.lst ds)
  | tup {n ds} (hl : ds.length ≤ 100000) (h : ∀ y, y ∈ ds → Plain n y) : Plain (n + 1) (.tup ds)
theorem Plain.mono {n : Nat} {x : D} (h : Plain n x) : ∀ {m : Nat}, n ≤ m → Plain m x := by
  induction h with
  | non => intro m _; exact .non
  | bl => intro m _; exact .bl
  | int => intro m _; exact .int
  | str => intro m _; exact .str
  | lst hl h ih => intro m hm; cases m with
    | zero => omega
    | succ m => exact .lst hl fun y hy => ih y hy (by omega)
  | tup hl h ih => intro m hm; cases m with
    | zero => omega
    | succ m => exact .tup hl fun y hy => ih y hy (by omega)
theorem plain_ints {n : Nat} {ns : List Int} : ∀ y, y ∈ ns.map D.int → Plain n y := fun y hy => by
  obtain ⟨z, _, rfl⟩ := List.mem_map.mp hy
  exact .int
/-! ### the same -/
def spr_Lsame : Nat → DSp
  | 0 => fun _ _ _ => False
  | n + 1 => fun ds S P => ∃ x, ds = [x, x] ∧ Plain n x ∧ P (.bl true) S
def sp_Lsame : DSp := spr_Lsame 6
def rd_Lsame (sp_Lsame : DSp) : DS :=
  (dSeq (dIfS (dTest (dCB cIsi (dCons (dVar 1) (dCons (dTup (dCons (dC (.ty "list")) (dCons (dC (.ty "tuple")) dNil))) dNil)))) (dSeq (dIfS (dOr (dTest (dOp dNe (dCB cIsi (dCons (dVar 0) (dCons (dC (.ty "list")) dNil))) (dCB cIsi (dCons (dVar 1) (dCons (dC (.ty "list")) dNil))))) (dTest (dOp dNe (dCB cIsi (dCons (dVar 0) (dCons (dC (.ty "tuple")) dNil))) (dCB cIsi (dCons (dVar 1) (dCons (dC (.ty "tuple")) dNil)))))) (dRet (dC (.bl false))) dNext)
  (dRet (dAndV (dOp dEq (dCB cLen (dCons (dVar 0) dNil)) (dCB cLen (dCons (dVar 1) dNil))) (dCB cAll (dCons (dLc (dZip (dCons (dVar 0) (dCons (dVar 1) dNil))) (.tp [(.nm 2), (.nm 3)]) dYes (dCB sp_Lsame (dCons (dVar 2) (dCons (dVar 3) dNil)))) dNil))))) dNext)
  (dSeq (dIfS (dOr (dTest (dOp dNe (dCB cIsi (dCons (dVar 0) (dCons (dC (.ty "bool")) dNil))) (dCB cIsi (dCons (dVar 1) (dCons (dC (.ty "bool")) dNil))))) (dTest (dOp dNe (dCB cIsi (dCons (dVar 0) (dCons (dC (.ty "int")) dNil))) (dCB cIsi (dCons (dVar 1) (dCons (dC (.ty "int")) dNil)))))) (dRet (dC (.bl false))) dNext)
  (dRet (dOp dEq (dVar 0) (dVar 1)))))
def goal_Lsame : Prop := ∀ (n : Nat) (x0 x1 : D) (S : Store) (P : D → Store → Prop), spr_Lsame (n + 1) [x0, x1] S P → rd_Lsame (spr_Lsame n) (dEnd P) [some x0, some x1, none, none] S
theorem z_Lsame : ∀ ds S P, spr_Lsame 0 ds S P → False := fun _ _ _ h => h
theorem len_Lsame : ∀ n ds S P, spr_Lsame n ds S P → ds.length = 2
  | 0, _, _, _, h => h.elim
  | n + 1, _, _, _, ⟨x, rfl, _⟩ => rfl
theorem zipD_self (ds : List D) : zipD ds ds = ds.map fun d => .tup [d, d] := by
  unfold zipD
  induction ds with
  | nil => rfl
  | cons d ds ih => simp [ih]
theorem all_same {t : Tgt} {de : DE} {P : D → Store → Prop} {ds : List D} {f : D → D} {ρ : DSt} {S : Store} (hl : ds.length ≤ 100000)
    (h : ∀ d, d ∈ ds → ∃ ρ', t.put (f d) (dwipe ρ t.slots) = some ρ' ∧ ∀ Q : D → Store → Prop, Q (.bl true) S → de ρ' S Q) (q : P (.bl true) S) : LcB t dYes de (fun x S1 => cAll [x] S1 P) (ds.map f) ρ S := by
  refine lc_mapA f (fun _ => .bl true) hl h ?_
  unfold cAll
  simp only [lstOf, Option.bind]
  have e : (ds.map fun _ => D.bl true) = (ds.map fun _ => true).map D.bl := by rw [List.map_map]; rfl
  rw [e, dBools_map]
  have e2 : (ds.map fun _ => true).all id = true := by simp
  simp only [e2]
  exact q
theorem vc_Lsame : goal_Lsame := by
  rintro n x0 x1 S P ⟨x, e, hp, h⟩
  cases e
  unfold rd_Lsame
  cases hp with
  | non => walk_at "dgo"; exact h
  | bl => walk_at "dgo"; exact h
  | int => walk_at "dgo"; exact h
  | str => walk_at "dgo"; exact h
  | lst hl hy =>
    walk_at "dgo"
    rw [zipD_self]
    refine all_same hl (fun d hd => ⟨_, rfl, fun Q q => ?_⟩) h
    walk_at "dgo"
    exact ⟨d, rfl, hy d hd, q⟩
  | tup hl hy =>
    walk_at "dgo"
    rw [zipD_self]
    refine all_same hl (fun d hd => ⟨_, rfl, fun Q q => ?_⟩) h
    walk_at "dgo"
    exact ⟨d, rfl, hy d hd, q⟩
/-- asked of two things that are one -/
theorem same_ok {x : D} {S : Store} {P : D → Store → Prop} (hp : Plain 5 x) (h : P (.bl true) S) : sp_Lsame [x, x] S P := ⟨x, rfl, hp, h⟩
/-! ### draws, all else kept -/
theorem take_d {p : Addr} {n : Nat} {size : Int} {S0 S : Store} {P : D → Store → Prop} (hb : Drew S0 S p n) (h0 : 0 < size) (h1 : size ≤ 2 ^ 40) (hn : n ≤ 1000000000) (h : ∀ x S', 0 ≤ x → x < size → Drew S0 S' p (n + 1) → P (.int x) S') : sp_Ltake [.obj p, .int size] S P :=
  ⟨p, size, n, rfl, h0, h1, hb.box, hn, fun x S' a b d => h x S' a b (hb.trans d)⟩
theorem of_d {p : Addr} {n : Nat} {xs : List D} {S0 S : Store} {P : D → Store → Prop} (hb : Drew S0 S p n) (h0 : 0 < xs.length) (h1 : xs.length ≤ 100000) (hn : n ≤ 1000000000) (h : ∀ x S', x ∈ xs → Drew S0 S' p (n + 1) → P x S') : sp_Lof [.obj p, .lst xs] S P :=
  ⟨p, _, xs, n, rfl, .inl rfl, h0, h1, hb.box, hn, fun x S' a d => h x S' a (hb.trans d)⟩
theorem ofi_d {p : Addr} {n : Nat} {ns : List Int} {S0 S : Store} {P : D → Store → Prop} (R : Int → Prop) (hb : Drew S0 S p n) (h0 : 0 < ns.length) (h1 : ns.length ≤ 100000) (hn : n ≤ 1000000000) (hr : ∀ z, z ∈ ns → R z) (h : ∀ z S', R z → Drew S0 S' p (n + 1) → P (.int z) S') : sp_Lof [.obj p, .lst (ns.map .int)] S P :=
  of_d hb (by simpa using h0) (by simpa using h1) hn fun x S' hx hb' => by
    obtain ⟨z, hz, rfl⟩ := List.mem_map.mp hx
    exact h z S' (hr z hz) hb'
theorem atI_mem {α : Type} {l : List α} {k : Int} (h0 : 0 ≤ k) (h1 : k < (l.length : Int)) : ∃ x, atI l k = some x ∧ x ∈ l := by
  rw [atI_at h0 h1]
  have : k.toNat < l.length := by omega
  exact ⟨_, List.getElem?_eq_getElem this, List.getElem_mem this⟩
theorem dcut_mem {xs : List D} {lo hi : Option Int} {y : D} (h : y ∈ dcut xs lo hi) : y ∈ xs := List.mem_of_mem_drop (List.mem_of_mem_take h)
theorem dcut_len (xs : List D) (lo hi : Option Int) : (dcut xs lo hi).length ≤ xs.length := by
  unfold dcut
  rw [List.length_take, List.length_drop]
  omega
/-- plain, of a text so long at most -/
def Gd (n c : Nat) (x : D) : Prop := Plain n x ∧ Rpd (n + 1) c x
theorem Gd.mono {n c n' c' : Nat} {x : D} (h : Gd n c x) (h1 : n ≤ n') (h2 : c ≤ c') : Gd n' c' x := ⟨h.1.mono h1, h.2.mono (by omega) h2⟩
theorem gd_non : Gd 0 13 .non := ⟨.non, rp_non⟩
theorem gd_bl {b : Bool} : Gd 0 13 (.bl b) := ⟨.bl, rp_bl⟩
theorem gd_int {i : Int} (h : i.natAbs < 10 ^ 12 := by omega) : Gd 0 13 (.int i) := ⟨.int, rp_int h⟩
theorem gd_str {z : Str} (h : (reprText z).length ≤ 13 := by decide +kernel) : Gd 0 13 (.str z) := ⟨.str, rp_str h⟩
theorem gd_tup {n c : Nat} (k : Nat) {ds : List D} (h : ∀ y, y ∈ ds → Gd n c y) (hl : ds.length ≤ k) (hk : k ≤ 100000 := by decide) : Gd (n + 1) (k * (c + 2) + 3) (.tup ds) := ⟨.tup (by omega) fun y hy => (h y hy).1, rp_tup (fun y hy => (h y hy).2) hl⟩
theorem gd_lst {n c : Nat} (k : Nat) {ds : List D} (h : ∀ y, y ∈ ds → Gd n c y) (hl : ds.length ≤ k) (hk : k ≤ 100000 := by decide) : Gd (n + 1) (k * (c + 2) + 3) (.lst ds) := ⟨.lst (by omega) fun y hy => (h y hy).1, rp_lst (fun y hy => (h y hy).2) hl⟩
/-! ### rows -/
structure Rw where
  e : Int
  m : Int
  fs : List Int
def Rw.d (r : Rw) : D := .tup [.int r.e, .int r.m, .tup (r.fs.map .int)]
/-- rows as they are drawn -/
structure Rw.Drawn (b : Int) (r : Rw) : Prop where
  e0 : -12 ≤ r.e
  e1 : r.e ≤ 12
  m0 : b ≤ 2 * r.m
  m1 : r.m ≤ 60
  l : r.fs.length ≤ 60
  f : ∀ f, f ∈ r.fs → -r.m ≤ f ∧ f ≤ r.m
/-- what a drawn row's parts are -/
theorem Rw.Drawn.figs {b : Int} {r : Rw} (h : r.Drawn b) : ∀ y, y ∈ r.fs.map D.int → Gd 0 13 y := fun y hy => by
  obtain ⟨f, hf, rfl⟩ := List.mem_map.mp hy
  have := h.f f hf
  have := h.m1
  exact gd_int
theorem Rw.Drawn.gd {b : Int} {r : Rw} (h : r.Drawn b) (hb : 2 ≤ b) : Gd 2 3000 r.d := by
  unfold Rw.d
  have h1 := h.e0; have h2 := h.e1; have h3 := h.m0; have h4 := h.m1
  refine (gd_tup (n := 1) (c := 903) 3 (fun y hy => ?_) (by simp)).mono (by decide) (by decide)
  simp only [List.mem_cons, List.not_mem_nil, or_false] at hy
  rcases hy with rfl | rfl | rfl
  · exact (gd_int).mono (by decide) (by decide)
  · exact (gd_int).mono (by decide) (by decide)
  · exact (gd_tup 60 h.figs (by rw [List.length_map]; exact h.l)).mono (by decide) (by decide)
def sp_Lmost : DSp := fun ds S P => ∃ (p : Addr) (n : Nat) (b : Int), ds = [.obj p, .int b] ∧ BoxAt S p n ∧ n ≤ 100000000 ∧ 2 ≤ b ∧ b ≤ 16 ∧ ∀ m S', b ≤ 2 * m → m ≤ 60 → BoxAt S' p (n + 3) → P (.int m) S'
def rd_Lmost : DS :=
  (dSeq (dSet 2 (dOp dFdiv (dOp dAdd (dVar 1) (dC (.int 1))) (dC (.int 2))))
  (dRet (dCB sp_Lof (dCons (dVar 0) (dCons (dLst (dCons (dVar 2) (dCons (dVar 2) (dCons (dCB cMax2 (dCons (dVar 2) (dCons (dOp dSub (dVar 1) (dC (.int 1))) dNil))) (dCons (dOp dAdd (dVar 2) (dCB sp_Ltake (dCons (dVar 0) (dCons (dC (.int 3)) dNil)))) (dCons (dOp dAdd (dVar 2) (dCB sp_Ltake (dCons (dVar 0) (dCons (dOp dSub (dC (.int 61)) (dVar 2)) dNil)))) dNil)))))) dNil)))))
def goal_Lmost : Prop := ∀ (x0 x1 : D) (S : Store) (P : D → Store → Prop), sp_Lmost [x0, x1] S P → rd_Lmost (dEnd P) [some x0, some x1, none] S
theorem len_Lmost : ∀ ds S P, sp_Lmost ds S P → ds.length = 2 := by
  rintro ds S P ⟨a, b, c, rfl, _⟩; rfl
theorem half_fdiv (b : Int) : (b + 1).fdiv 2 = (b + 1) / 2 := Int.fdiv_eq_ediv_of_nonneg _ (by decide)
theorem vc_Lmost : goal_Lmost := by
  rintro x0 x1 S P ⟨p, n, b, e, hb, hn, b0, b1, h⟩
  cases e
  unfold rd_Lmost
  walk_at "dgo"
  refine ⟨divS (by decide) (by decide), ?_⟩
  rw [half_fdiv]
  generalize hh : (b + 1) / 2 = half
  refine take_ok hb (by decide) (by decide) (by omega) fun x S1 x0 x1 hb1 => ?_
  walk_at "dgo"
  refine take_ok hb1 (by omega) (by omega) (by omega) fun y S2 y0 y1 hb2 => ?_
  walk_at "dgo"
  refine of_ints (ns := [half, half, (if b - 1 > half then b - 1 else half), half + x, half + y]) (fun z => b ≤ 2 * z ∧ z ≤ 60) hb2 (by simp) (by simp) (by omega) ?_ fun z S3 hz hb3 => h z S3 hz.1 hz.2 hb3
  intro z hz
  simp only [List.mem_cons, List.not_mem_nil, or_false] at hz
  rcases hz with rfl | rfl | rfl | rfl | rfl
  · omega
  · omega
  · split <;> omega
  · omega
  · omega
def sp_Lfigures : DSp := fun ds S P => ∃ (p : Addr) (n : Nat) (m k : Int), ds = [.obj p, .int m, .int k] ∧ BoxAt S p n ∧ n ≤ 100000000 ∧ 1 ≤ m ∧ m ≤ 60 ∧ 0 ≤ k ∧ k ≤ 60 ∧ ∀ (fs : List Int) S', fs.length = k.toNat → (∀ f, f ∈ fs → -m ≤ f ∧ f ≤ m) → BoxAt S' p (n + 61) → P (.tup (fs.map .int)) S'
def rd_Lfigures : DS :=
  (dSeq (dSet 3 (dCB sp_Ltake (dCons (dVar 0) (dCons (dC (.int 5)) dNil))))
  (dSeq (dIfS (dTest (dOp dLt (dVar 3) (dC (.int 2)))) (dRet (dCB cTuple (dCons (dOp dMul (dLst (dCons (dOp dIx (dLst (dCons (dVar 1) (dCons (dUn dNeg (dVar 1)) dNil))) (dVar 3)) dNil)) (dVar 2)) dNil))) dNext)
  (dSeq (dIfS (dTest (dOp dEq (dVar 3) (dC (.int 2)))) (dRet (dCB cTuple (dCons (dLc (dRng1 (dCons (dVar 2) dNil)) (.nm 4) dYes (dOp dSub (dCB sp_Ltake (dCons (dVar 0) (dCons (dC (.int 3)) dNil))) (dC (.int 1)))) dNil))) dNext)
  (dRet (dCB cTuple (dCons (dLc (dRng1 (dCons (dVar 2) dNil)) (.nm 4) dYes (dOp dSub (dCB sp_Ltake (dCons (dVar 0) (dCons (dOp dAdd (dOp dMul (dC (.int 2)) (dVar 1)) (dC (.int 1))) dNil))) (dVar 1))) dNil))))))
def goal_Lfigures : Prop := ∀ (x0 x1 x2 : D) (S : Store) (P : D → Store → Prop), sp_Lfigures [x0, x1, x2] S P → rd_Lfigures (dEnd P) [some x0, some x1, some x2, none, none] S
theorem len_Lfigures : ∀ ds S P, sp_Lfigures ds S P → ds.length = 3 := by
  rintro ds S P ⟨a, b, c, d, rfl, _⟩; rfl
theorem flat_rep {α : Type} (a : α) : ∀ n : Nat, (List.replicate n [a]).flatten = List.replicate n a
  | 0 => rfl
  | n + 1 => by rw [List.replicate_succ, List.flatten_cons, flat_rep a n]; rfl
/-- figures one by one by draws -/
theorem draw_figs {t : Tgt} {de : DE} {P : D → Store → Prop} {p : Addr} {n k : Nat} {ρ : DSt} {S : Store} {lo : Int} (R : Int → Prop) (hb : BoxAt S p n) (hk : k ≤ 100)
    (h : ∀ (d : D) (j : Nat) S', j < k → BoxAt S' p (n + j) → ∃ ρ', t.put d (dwipe ρ t.slots) = some ρ' ∧ ∀ Q : D → Store → Prop, (∀ z S'', R z → BoxAt S'' p (n + j + 1) → Q (.int z) S'') → de ρ' S' Q)
    (q : ∀ (fs : List Int) S', fs.length = k → (∀ f, f ∈ fs → R f) → BoxAt S' p (n + k) → P (.lst (fs.map .int)) S') : LcB t dYes de P (rng lo k) ρ S := by
  refine lc_st (fun _ y => ∃ z : Int, y = .int z ∧ R z) (fun i S' => BoxAt S' p (n + i)) (by rw [rng_len]; omega) hb (fun i d S' hd hs => ?_) fun ys S' hl hy hs => ?_
  · obtain ⟨ρ', h1, h2⟩ := h d i S' (rng_get hd).1 hs
    exact ⟨ρ', h1, fun Q hq => h2 Q fun z S'' hz hb' => hq _ _ ⟨z, rfl, hz⟩ hb'⟩
  · obtain ⟨fs, rfl, hfs⟩ := all_ints hy
    rw [rng_len] at hl hs
    rw [List.length_map] at hl
    exact q fs S' hl hfs hs
theorem vc_Lfigures : goal_Lfigures := by
  rintro x0 x1 x2 S P ⟨p, n, m, k, e, hb, hn, m0, m1, k0, k1, h⟩
  cases e
  unfold rd_Lfigures
  walk_at "dgo"
  refine take_ok hb (by decide) (by decide) (by omega) fun x S1 x0 x1 hb1 => ?_
  walk_at "dgo"
  split
  · walk_at "dgo"
    have hx : x = 0 ∨ x = 1 := by omega
    have rep : ∀ z : Int, (-m ≤ z ∧ z ≤ m) → P (.tup (List.replicate k.toNat (D.int z))) S1 := fun z hz => by
      have := h (List.replicate k.toNat z) S1 (by simp) (fun f hf => by rw [List.eq_of_mem_replicate hf]; exact hz) (hb1.mono (by omega))
      rwa [List.map_replicate] at this
    rcases hx with rfl | rfl
    · walk_at "dgo"
      rw [flat_rep]
      exact ⟨by omega, by omega, by omega, rep m (by omega)⟩
    · walk_at "dgo"
      rw [flat_rep]
      exact ⟨by omega, by omega, by omega, rep (-m) (by omega)⟩
  · walk_at "dgo"
    split
    · refine ⟨by omega, by omega, ?_⟩
      refine draw_figs (fun z => -m ≤ z ∧ z ≤ m) hb1 (by omega) (fun d j S' hj hs => ⟨_, rfl, fun Q hq => ?_⟩) fun fs S' hl hf hs => ?_
      · walk_at "dgo"
        refine take_ok hs (by decide) (by decide) (by omega) fun y S2 y0 y1 hb2 => ?_
        walk_at "dgo"
        exact hq _ _ (by omega) hb2
      · walk_at "dgo"
        exact h fs S' hl hf (hs.mono (by omega))
    · refine ⟨by omega, by omega, ?_⟩
      refine draw_figs (fun z => -m ≤ z ∧ z ≤ m) hb1 (by omega) (fun d j S' hj hs => ⟨_, rfl, fun Q hq => ?_⟩) fun fs S' hl hf hs => ?_
      · walk_at "dgo"
        refine ⟨mulS, ?_⟩
        refine take_ok hs (by omega) (by omega) (by omega) fun y S2 y0 y1 hb2 => ?_
        walk_at "dgo"
        exact hq _ _ (by omega) hb2
      · walk_at "dgo"
        exact h fs S' hl hf (hs.mono (by omega))
def sp_Lline : DSp := fun ds S P => ∃ (p : Addr) (n : Nat) (b : Int), ds = [.obj p, .int b] ∧ BoxAt S p n ∧ n ≤ 10000000 ∧ 2 ≤ b ∧ b ≤ 16 ∧ ∀ (r : Rw) S', r.Drawn b → BoxAt S' p (n + 70) → P r.d S'
def rd_Lline : DS :=
  (dSeq (dPar 2 3 (dCons (dCB sp_Lmost (dCons (dVar 0) (dCons (dVar 1) dNil))) (dCons (dOp dSub (dCB sp_Ltake (dCons (dVar 0) (dCons (dC (.int 25)) dNil))) (dC (.int 12))) dNil)))
  (dSeq (dSet 4 (dCB sp_Lof (dCons (dVar 0) (dCons (dLst (dCons (dC (.int 0)) (dCons (dC (.int 1)) (dCons (dC (.int 2)) (dCons (dCB sp_Ltake (dCons (dVar 0) (dCons (dC (.int 6)) dNil))) (dCons (dCB sp_Ltake (dCons (dVar 0) (dCons (dC (.int 6)) dNil))) (dCons (dCB sp_Ltake (dCons (dVar 0) (dCons (dC (.int 14)) dNil))) (dCons (dCB sp_Ltake (dCons (dVar 0) (dCons (dC (.int 61)) dNil))) dNil)))))))) dNil))))
  (dRet (dTup (dCons (dVar 3) (dCons (dVar 2) (dCons (dCB sp_Lfigures (dCons (dVar 0) (dCons (dVar 2) (dCons (dVar 4) dNil)))) dNil)))))))
def goal_Lline : Prop := ∀ (x0 x1 : D) (S : Store) (P : D → Store → Prop), sp_Lline [x0, x1] S P → rd_Lline (dEnd P) [some x0, some x1, none, none, none] S
theorem len_Lline : ∀ ds S P, sp_Lline ds S P → ds.length = 2 := by
  rintro ds S P ⟨a, b, c, rfl, _⟩; rfl
theorem vc_Lline : goal_Lline := by
  rintro x0 x1 S P ⟨p, n, b, e, hb, hn, b0, b1, h⟩
  cases e
  unfold rd_Lline
  walk_at "dgo"
  refine ⟨p, n, b, rfl, hb, by omega, b0, b1, fun m S1 m0 m1 hb1 => ?_⟩
  walk_at "dgo"
  refine take_ok hb1 (by decide) (by decide) (by omega) fun e S2 e0 e1 hb2 => ?_
  walk_at "dgo"
  refine take_ok hb2 (by decide) (by decide) (by omega) fun s1 S3 s10 s11 hb3 => ?_
  walk_at "dgo"
  refine take_ok hb3 (by decide) (by decide) (by omega) fun s2 S4 s20 s21 hb4 => ?_
  walk_at "dgo"
  refine take_ok hb4 (by decide) (by decide) (by omega) fun s3 S5 s30 s31 hb5 => ?_
  walk_at "dgo"
  refine take_ok hb5 (by decide) (by decide) (by omega) fun s4 S6 s40 s41 hb6 => ?_
  walk_at "dgo"
  refine of_ints (ns := [0, 1, 2, s1, s2, s3, s4]) (fun z => 0 ≤ z ∧ z ≤ 60) hb6 (by simp) (by simp) (by omega) ?_ fun k S7 hk hb7 => ?_
  · intro z hz
    simp only [List.mem_cons, List.not_mem_nil, or_false] at hz
    omega
  walk_at "dgo"
  refine ⟨p, _, m, k, rfl, hb7, by omega, by omega, m1, hk.1, hk.2, fun fs S8 hl hf hb8 => ?_⟩
  walk_at "dgo"
  exact h ⟨e - 12, m, fs⟩ S8 ⟨by show -12 ≤ e - 12; omega, by show e - 12 ≤ 12; omega, m0, m1, by show fs.length ≤ 60; omega, hf⟩ (hb8.mono (by omega))
end Lb

namespace DL
open PySem PySem.Spec PyProof.Rows L2

/-! ### list(range(..)), tuple(range(..)) -/
def dLstR1 (a : DE) : DE := fun ρ S P => a ρ S fun x S1 => match x with
  | .int j => RgOk 0 j ∧ P (.lst (rng 0 j.toNat)) S1
  | _ => False
def dLstR2 (a b : DE) : DE := fun ρ S P => a ρ S fun x S1 => b ρ S1 fun y S2 => match x, y with
  | .int i, .int j => RgOk i j ∧ P (.lst (rng i (j - i).toNat)) S2
  | _, _ => False
def dLstR1M (a : DE) : DE := fun ρ S P => a ρ S fun x S1 => match x with
  | .int j => RgOk 0 j ∧ ∀ l, S1 l = none → P (.obj l) (supd S1 l (.lst (rng 0 j.toNat)))
  | _ => False
def dLstR2M (a b : DE) : DE := fun ρ S P => a ρ S fun x S1 => b ρ S1 fun y S2 => match x, y with
  | .int i, .int j => RgOk i j ∧ ∀ l, S2 l = none → P (.obj l) (supd S2 l (.lst (rng i (j - i).toNat)))
  | _, _ => False
def dTupR1 (a : DE) : DE := fun ρ S P => a ρ S fun x S1 => match x with
  | .int j => RgOk 0 j ∧ P (.tup (rng 0 j.toNat)) S1
  | _ => False
def dTupR2 (a b : DE) : DE := fun ρ S P => a ρ S fun x S1 => b ρ S1 fun y S2 => match x, y with
  | .int i, .int j => RgOk i j ∧ P (.tup (rng i (j - i).toNat)) S2
  | _, _ => False
theorem repL_map {K : PySem.W.Frag} {I : Hp} {α : Type} {f : α → D} {g : α → V} (h : ∀ x, Rep K I (f x) (g x)) : ∀ l : List α, RepL K I (l.map f) (l.map g)
  | [] => RepL.nil
  | x :: r => RepL.cons (h x) (repL_map h r)
theorem repL_rng {K : PySem.W.Frag} {I : Hp} (a b : Int) : RepL K I (rng a (b - a).toNat) (rgV a b) := repL_map (fun _ => rep_int) _
section
variable {X : Cx} {pos p p2 pos2 : Pos} {a b : Expr} {da db : DE}
theorem je_listR1 (hm : X.mg "list" = none) (hm2 : X.mg "range" = none) (ha : JE X a da) (hc : X.calm = true := by rfl) (hg : Gl X "list" := by rfl) (hg2 : Gl X "range" := by rfl) (hs : starEach [a] X.env = (false, eval a X.env) :: starEach [] X.env := by rfl) :
    JE X (.Call (.Name "list" p) [.Call (.Name "range" p2) [a] [] pos2] [] pos) (dLstR1 da) :=
  je_of (pe_listRg hc hg hm (prg_1 hg2 hm2 ha hs)) fun σ H Q ⟨ρ, I, S, F, P, rs, ok, h, q⟩ => ⟨ρ, I, S, F, _, rs, ok, h, fun x S1 v I1 H1 h1 e1 ok1 r1 => by
    split at h1
    · rename_i j
      cases r1.int_of
      have rl : RepL X.K I1 (rng 0 j.toNat) (rgV 0 j) := by
        have := repL_rng (K := X.K) (I := I1) 0 j
        rwa [Int.sub_zero] at this
      exact ⟨_, rfl, h1.1, fun l hl => q _ _ _ _ _ h1.2 (e1.trans (same_new (ok1.freshI hl))) (ok1.newI hl) (rep_new_lst (ok1.freshI hl) rl)⟩
    · exact h1.elim⟩
theorem je_listR2 (hm : X.mg "list" = none) (hm2 : X.mg "range" = none) (ha : JE X a da) (hb : JE X b db) (hc : X.calm = true := by rfl) (hg : Gl X "list" := by rfl) (hg2 : Gl X "range" := by rfl)
    (hs : starEach [a, b] X.env = (false, eval a X.env) :: starEach [b] X.env := by rfl) (hs2 : starEach [b] X.env = (false, eval b X.env) :: starEach [] X.env := by rfl) (hpl : (backTo pos2 (starEach [b] X.env)).any (·.1) = false := by rfl) :
    JE X (.Call (.Name "list" p) [.Call (.Name "range" p2) [a, b] [] pos2] [] pos) (dLstR2 da db) :=
  je_of (pe_listRg hc hg hm (prg_2 hg2 hm2 ha hb hs hs2 hpl)) fun σ H Q ⟨ρ, I, S, F, P, rs, ok, h, q⟩ => ⟨ρ, I, S, F, _, rs, ok, h, fun x S1 v I1 H1 h1 e1 ok1 r1 => ⟨ρ, I1, S1, F, _, rs.mono e1, ok1, h1, fun y S2 w I2 H2 h2 e2 ok2 r2 => by
    split at h2
    · rename_i i j
      cases r1.int_of
      cases r2.int_of
      have rl := repL_rng (K := X.K) (I := I2) i j
      exact ⟨_, _, rfl, rfl, h2.1, fun l hl => q _ _ _ _ _ h2.2 ((e1.trans e2).trans (same_new (ok2.freshI hl))) (ok2.newI hl) (rep_new_lst (ok2.freshI hl) rl)⟩
    · exact h2.elim⟩⟩
theorem je_listR1M (hm : X.mg "list" = none) (hm2 : X.mg "range" = none) (ha : JE X a da) (hc : X.calm = true := by rfl) (hg : Gl X "list" := by rfl) (hg2 : Gl X "range" := by rfl) (hs : starEach [a] X.env = (false, eval a X.env) :: starEach [] X.env := by rfl) :
    JE X (.Call (.Name "list" p) [.Call (.Name "range" p2) [a] [] pos2] [] pos) (dLstR1M da) :=
  je_of (pe_listRg hc hg hm (prg_1 hg2 hm2 ha hs)) fun σ H Q ⟨ρ, I, S, F, P, rs, ok, h, q⟩ => ⟨ρ, I, S, F, _, rs, ok, h, fun x S1 v I1 H1 h1 e1 ok1 r1 => by
    split at h1
    · rename_i j
      cases r1.int_of
      have rl : RepL X.K I1 (rng 0 j.toNat) (rgV 0 j) := by
        have := repL_rng (K := X.K) (I := I1) 0 j
        rwa [Int.sub_zero] at this
      exact ⟨_, rfl, h1.1, fun l hl => q _ _ _ _ _ (h1.2 l (ok1.freshS hl)) e1 (ok1.newM hl rl) (by simp only [Rep])⟩
    · exact h1.elim⟩
theorem je_listR2M (hm : X.mg "list" = none) (hm2 : X.mg "range" = none) (ha : JE X a da) (hb : JE X b db) (hc : X.calm = true := by rfl) (hg : Gl X "list" := by rfl) (hg2 : Gl X "range" := by rfl)
    (hs : starEach [a, b] X.env = (false, eval a X.env) :: starEach [b] X.env := by rfl) (hs2 : starEach [b] X.env = (false, eval b X.env) :: starEach [] X.env := by rfl) (hpl : (backTo pos2 (starEach [b] X.env)).any (·.1) = false := by rfl) :
    JE X (.Call (.Name "list" p) [.Call (.Name "range" p2) [a, b] [] pos2] [] pos) (dLstR2M da db) :=
  je_of (pe_listRg hc hg hm (prg_2 hg2 hm2 ha hb hs hs2 hpl)) fun σ H Q ⟨ρ, I, S, F, P, rs, ok, h, q⟩ => ⟨ρ, I, S, F, _, rs, ok, h, fun x S1 v I1 H1 h1 e1 ok1 r1 => ⟨ρ, I1, S1, F, _, rs.mono e1, ok1, h1, fun y S2 w I2 H2 h2 e2 ok2 r2 => by
    split at h2
    · rename_i i j
      cases r1.int_of
      cases r2.int_of
      have rl := repL_rng (K := X.K) (I := I2) i j
      exact ⟨_, _, rfl, rfl, h2.1, fun l hl => q _ _ _ _ _ (h2.2 l (ok2.freshS hl)) (e1.trans e2) (ok2.newM hl rl) (by simp only [Rep])⟩
    · exact h2.elim⟩⟩
theorem je_tupleR1 (hm : X.mg "tuple" = none) (hm2 : X.mg "range" = none) (ha : JE X a da) (hc : X.calm = true := by rfl) (hg : Gl X "tuple" := by rfl) (hg2 : Gl X "range" := by rfl) (hs : starEach [a] X.env = (false, eval a X.env) :: starEach [] X.env := by rfl) :
    JE X (.Call (.Name "tuple" p) [.Call (.Name "range" p2) [a] [] pos2] [] pos) (dTupR1 da) :=
  je_of (pe_tupRg hc hg hm (prg_1 hg2 hm2 ha hs)) fun σ H Q ⟨ρ, I, S, F, P, rs, ok, h, q⟩ => ⟨ρ, I, S, F, _, rs, ok, h, fun x S1 v I1 H1 h1 e1 ok1 r1 => by
    split at h1
    · rename_i j
      cases r1.int_of
      have rl : RepL X.K I1 (rng 0 j.toNat) (rgV 0 j) := by
        have := repL_rng (K := X.K) (I := I1) 0 j
        rwa [Int.sub_zero] at this
      exact ⟨_, rfl, h1.1, fun l hl => q _ _ _ _ _ h1.2 (e1.trans (same_new (ok1.freshI hl))) (ok1.newI hl) (rep_new_tup (ok1.freshI hl) rl)⟩
    · exact h1.elim⟩
theorem je_tupleR2 (hm : X.mg "tuple" = none) (hm2 : X.mg "range" = none) (ha : JE X a da) (hb : JE X b db) (hc : X.calm = true := by rfl) (hg : Gl X "tuple" := by rfl) (hg2 : Gl X "range" := by rfl)
    (hs : starEach [a, b] X.env = (false, eval a X.env) :: starEach [b] X.env := by rfl) (hs2 : starEach [b] X.env = (false, eval b X.env) :: starEach [] X.env := by rfl) (hpl : (backTo pos2 (starEach [b] X.env)).any (·.1) = false := by rfl) :
    JE X (.Call (.Name "tuple" p) [.Call (.Name "range" p2) [a, b] [] pos2] [] pos) (dTupR2 da db) :=
  je_of (pe_tupRg hc hg hm (prg_2 hg2 hm2 ha hb hs hs2 hpl)) fun σ H Q ⟨ρ, I, S, F, P, rs, ok, h, q⟩ => ⟨ρ, I, S, F, _, rs, ok, h, fun x S1 v I1 H1 h1 e1 ok1 r1 => ⟨ρ, I1, S1, F, _, rs.mono e1, ok1, h1, fun y S2 w I2 H2 h2 e2 ok2 r2 => by
    split at h2
    · rename_i i j
      cases r1.int_of
      cases r2.int_of
      have rl := repL_rng (K := X.K) (I := I2) i j
      exact ⟨_, _, rfl, rfl, h2.1, fun l hl => q _ _ _ _ _ h2.2 ((e1.trans e2).trans (same_new (ok2.freshI hl))) (ok2.newI hl) (rep_new_tup (ok2.freshI hl) rl)⟩
    · exact h2.elim⟩⟩
end

/-! ### tuple * int -/
def dMulT : D2 := fun x y S P => match x, y with
  | .tup xs, .int k => xs ≠ [] ∧ 2 ≤ k ∧ k ≤ 1000 ∧ xs.length ≤ 1000 ∧ P (.tup (List.replicate k.toNat xs).flatten) S
  | _, _ => False
theorem i_mulT {K : PySem.W.Frag} : Imp2 K (rRepT K) dMulT := by
  intro x y v w I S F H P Q ok rx ry h q
  unfold dMulT at h
  split at h
  · rename_i xs k
    obtain ⟨l, xs', rfl, h1, r1⟩ := tup_sq ok rx
    cases ry.int_of
    refine ⟨l, k, xs', rfl, rfl, h1, fun z => h.1 ?_, h.2.1, h.2.2.1, by rw [r1.len]; exact h.2.2.2.1, fun p hp => q _ _ _ _ _ h.2.2.2.2 (same_new (ok.freshI hp)) (ok.newI hp) (rep_new_tup (ok.freshI hp) (repL_rep r1 _))⟩
    have := r1.len
    rw [z] at this
    exact List.eq_nil_of_length_eq_zero this.symm
  · exact h.elim
section
variable {X : Cx} {pos : Pos} {a b : Expr} {da db : DE}
theorem je_mulT (ha : JE X a da) (hb : JE X b db) : JE X (.BinOp a .Mult b pos) (dOp dMulT da db) := je_op op_repT i_mulT ha hb
end
end DL

namespace DL
open PySem PySem.Spec PyProof.Rows L2

/-! ### two fors in a comprehension -/
theorem But.wipe_sub {ts vs : List Nat} {σ σ2 : L2.St} (h : But ts (L2.wipe σ vs) σ2) (sub : ∀ i, i ∈ ts → i ∈ vs) : L2.wipe σ2 vs = L2.wipe σ vs := by
  apply List.ext_getElem?
  intro j
  have hl := h.1
  rw [L2.wipe_length] at hl
  rw [wipe_get, wipe_get, hl]
  split
  · rfl
  · rename_i hj
    rw [h.2 j fun z => hj (sub j z), wipe_get, if_neg hj]
def dLc2 (di : DI) (t : Tgt) (tt : DT) (di1 : DI) (t1 : Tgt) (tt1 : DT) (de : DE) : DE := fun ρ S P => di ρ S fun ds pin S1 =>
  ∃ W : Nat → List D → Store → Prop, W 0 [] S1 ∧ (∀ i acc S, W i acc S → PinOk pin S) ∧
  (∀ i d acc S, ds[i]? = some d → W i acc S → ∃ ρ', t.put d (dwipe ρ (t.slots ++ t1.slots)) = some ρ' ∧ tt ρ' S fun b S2 => if b = true then di1 ρ' S2 fun ds1 pin1 S3 =>
    ∃ W1 : Nat → List D → Store → Prop, W1 0 acc S3 ∧ (∀ j acc S, W1 j acc S → PinOk pin1 S) ∧
      (∀ j d1 acc1 S4, ds1[j]? = some d1 → W1 j acc1 S4 → ∃ ρ'', t1.put d1 (dwipe ρ' t1.slots) = some ρ'' ∧ tt1 ρ'' S4 fun b S5 => if b = true then de ρ'' S5 fun y S6 => acc1.length < 100000 ∧ W1 (j + 1) (acc1 ++ [y]) S6 else W1 (j + 1) acc1 S5) ∧
      ∀ acc1 S4, W1 ds1.length acc1 S4 → W (i + 1) acc1 S4
    else W (i + 1) acc S2) ∧ ∀ acc S, W ds.length acc S → P (.lst acc) S
theorem up_lc2 {X : Cx} {di di1 : DI} {t t1 : Tgt} {tt tt1 : DT} {de : DE} : ∀ σ H Q, upE X.K (dLc2 di t tt di1 t1 tt1 de) σ H Q → tLc2 (upI X.K di) (upG X.K t) (upT X.K tt) (upI X.K di1) (upG X.K t1) (upT X.K tt1) (upE X.K de) (t.slots ++ t1.slots) t1.slots σ H Q := fun σ H Q ⟨ρ, I, S, F, P, rs, ok, h, q⟩ => by
  refine ⟨ρ, I, S, F, _, rs, ok, h, fun ds pin S1 I1 H1 J hB e1 ok1 it => fun Dd hD => ?_⟩
  obtain ⟨W, w0, hpin, turn, fin⟩ := hB
  refine ⟨fun i m H => m + i = ds.length ∧ ∃ I' S' acc vs, Same I1 I' ∧ Ok X.K I' S' (upd F Dd (.lst vs)) H ∧ RepL X.K I' acc vs ∧ W i acc S', ⟨ds.length, by simp, I1, S1, [], [], Same.refl I1, ok1.newF hD ⟨fun y z => (by cases z), fun y z => (by cases z)⟩, RepL.nil, w0⟩, ?_⟩
  rintro i m H2 ⟨em, I2, S2, acc, vs, e2, ok2, rl, w2⟩
  by_cases hi : i < ds.length
  · refine .inr ?_
    obtain ⟨g1, g2⟩ := it.go I2 S2 _ H2 e2 ok2 (hpin _ _ _ w2) i ds[i] (List.getElem?_eq_getElem hi)
    obtain ⟨ρ3, hput, hbody⟩ := turn i ds[i] acc S2 (List.getElem?_eq_getElem hi) w2
    refine ⟨g1, fun H' => ∃ I' S' acc vs, Same I1 I' ∧ Ok X.K I' S' (upd F Dd (.lst vs)) H' ∧ RepL X.K I' acc vs ∧ W (i + 1) acc S', fun H' h => ⟨m - 1, by omega, by omega, h⟩, fun x H3 hy => ?_⟩
    obtain ⟨I3, e3, ok3, r3⟩ := g2 x H3 hy
    refine ⟨dwipe ρ (t.slots ++ t1.slots), ρ3, I3, S2, _, ds[i], ((rs.mono e1).mono (e2.trans e3)).wipe _, ok3, r3, hput, fun σ3 rs3 b3 => ⟨b3.wipe_sub fun i hi => List.mem_append_left _ hi, ?_⟩⟩
    refine ⟨ρ3, I3, S2, _, _, rs3, ok3, hbody, fun b S4 I4 H4 h4 e4 ok4 => ?_⟩
    cases b with
    | true =>
      rw [if_pos rfl] at h4 ⊢
      refine ⟨ρ3, I4, S4, _, _, rs3.mono e4, ok4, h4, fun ds1 pin1 S5 I5 H5 J1 h5 e5 ok5 it1 => ?_⟩
      obtain ⟨W1, v0, vpin, vturn, vfin⟩ := h5
      refine ⟨fun j k H => k + j = ds1.length ∧ ∃ I' S' acc vs, Same I5 I' ∧ Ok X.K I' S' (upd F Dd (.lst vs)) H ∧ RepL X.K I' acc vs ∧ W1 j acc S', ⟨ds1.length, by simp, I5, S5, acc, vs, Same.refl I5, ok5, rl.mono ((e3.trans e4).trans e5), v0⟩, ?_⟩
      rintro j k H6 ⟨ek, I6, S6, acc6, vs6, e6, ok6, rl6, w6⟩
      by_cases hj : j < ds1.length
      · refine .inr ?_
        obtain ⟨g3, g4⟩ := it1.go I6 S6 _ H6 e6 ok6 (vpin _ _ _ w6) j ds1[j] (List.getElem?_eq_getElem hj)
        obtain ⟨ρ7, hput7, hbody7⟩ := vturn j ds1[j] acc6 S6 (List.getElem?_eq_getElem hj) w6
        refine ⟨g3, fun H' => ∃ I' S' acc vs, Same I5 I' ∧ Ok X.K I' S' (upd F Dd (.lst vs)) H' ∧ RepL X.K I' acc vs ∧ W1 (j + 1) acc S', fun H' h => ⟨k - 1, by omega, by omega, h⟩, fun x H7 hy7 => ?_⟩
        obtain ⟨I7, e7, ok7, r7⟩ := g4 x H7 hy7
        refine ⟨dwipe ρ3 t1.slots, ρ7, I7, S6, _, ds1[j], (rs3.mono (((e4.trans e5).trans e6).trans e7)).wipe _, ok7, r7, hput7, fun σ7 rs7 b7 => ⟨b7.wipe_sub fun i hi => hi, ?_⟩⟩
        refine ⟨ρ7, I7, S6, _, _, rs7, ok7, hbody7, fun b S8 I8 H8 h8 e8 ok8 => ?_⟩
        cases b with
        | true =>
          rw [if_pos rfl] at h8 ⊢
          refine ⟨ρ7, I8, S8, _, _, rs7.mono e8, ok8, h8, fun y S9 v I9 H9 h9 e9 ok9 r9 => ?_⟩
          have hF : (upd F Dd (.lst vs6)) Dd = some (.lst vs6) := upd_same
          refine ⟨vs6, (ok9.f Dd _ hF).1, ?_, I9, S9, acc6 ++ [y], vs6 ++ [v], (((e6.trans e7).trans e8).trans e9), ?_, (rl6.mono ((e7.trans e8).trans e9)).app (RepL.one r9), h9.2⟩
          · rw [rl6.len]
            have : (100000 : Nat) < sizeLine := by decide
            have := h9.1
            omega
          · have := ok9.writeF (o' := .lst (vs6 ++ [v])) hF ⟨fun y z => (by cases z), fun y z => (by cases z)⟩
            rwa [upd_upd] at this
        | false =>
          rw [if_neg Bool.false_ne_true] at h8 ⊢
          exact ⟨I8, S8, acc6, vs6, ((e6.trans e7).trans e8), ok8, rl6.mono (e7.trans e8), h8⟩
      · have e : j = ds1.length := by omega
        subst e
        exact .inl ⟨it1.stop I6 S6 _ H6 e6 ok6 (vpin _ _ _ w6) _ rfl, I6, S6, acc6, vs6, (((e2.trans e3).trans e4).trans e5).trans e6, ok6, rl6, vfin acc6 S6 w6⟩
    | false =>
      rw [if_neg Bool.false_ne_true] at h4 ⊢
      exact ⟨I4, S4, acc, vs, ((e2.trans e3).trans e4), ok4, rl.mono (e3.trans e4), h4⟩
  · have e : i = ds.length := by omega
    subst e
    refine .inl ⟨it.stop I2 S2 _ H2 e2 ok2 (hpin _ _ _ w2) _ rfl, ?_⟩
    have hF : (upd F Dd (.lst vs)) Dd = some (.lst vs) := upd_same
    have i2 : I2 Dd = none := (ok2.f Dd _ hF).2.1
    have ok3 := ok2.showF hF
    have ok4 : Ok X.K (upd I2 Dd (.lst vs)) S2 F H2 := by
      refine ⟨ok3.i, ok3.s, fun a x q => ?_⟩
      have ne : a ≠ Dd := fun z => by
        subst z
        rw [(ok1.freshF hD)] at q; cases q
      exact ok3.f a x (by show (if a = Dd then none else upd F Dd (.lst vs) a) = some x; rw [if_neg ne, upd_ne ne]; exact q)
    exact q _ _ _ _ _ (fin acc S2 w2) ((e1.trans e2).trans (same_new i2)) ok4 (rep_new_lst i2 rl)
section
variable {X : Cx} {pos : Pos}
theorem je_lc2 {elt tg iter tg1 iter1 : Expr} {ifs ifs1 : List Expr} {scope : Scope} (own : List (Str × Nat)) {di di1 : DI} {t t1 : Tgt} {tt tt1 : DT} {de : DE} (ho : own.map (·.2) = t.slots ++ t1.slots) (hN : X.N.Nodup) (hi : JI X tg iter di) (ok : BlkOk X.N X.env.scope scope own)
    (hc : X.calm = true)
    (hg : ∀ (s : Shared) (H : Hp) (C : Addr) (cl : List (Str × Addr)) (fp : List Addr), JG (X.blk s H scope (compEnvC scope cl C X.env) fp) tg t) (ht : ∀ (s : Shared) (H : Hp) (C : Addr) (cl : List (Str × Addr)) (fp : List Addr), JTs (X.blk s H scope (compEnvC scope cl C X.env) fp) ifs tt)
    (hi1 : ∀ (s : Shared) (H : Hp) (C : Addr) (cl : List (Str × Addr)) (fp : List Addr), JI (X.blk s H scope (compEnvC scope cl C X.env) fp) tg1 iter1 di1)
    (hg1 : ∀ (s : Shared) (H : Hp) (C : Addr) (cl : List (Str × Addr)) (fp : List Addr), JG (X.blk s H scope (compEnvC scope cl C X.env) fp) tg1 t1) (ht1 : ∀ (s : Shared) (H : Hp) (C : Addr) (cl : List (Str × Addr)) (fp : List Addr), JTs (X.blk s H scope (compEnvC scope cl C X.env) fp) ifs1 tt1)
    (he : ∀ (s : Shared) (H : Hp) (C : Addr) (cl : List (Str × Addr)) (fp : List Addr), JE (X.blk s H scope (compEnvC scope cl C X.env) fp) elt de) (hs : ∀ x, foldedSetIterable iter X.env x = pure x := by intro _; rfl) (hs1 : ∀ env x, foldedSetIterable iter1 env x = pure x := by intro _ _; rfl) :
    JE X (.ListComp elt [⟨tg, iter, ifs, 0⟩, ⟨tg1, iter1, ifs1, 0⟩] scope pos) (dLc2 di t tt di1 t1 tt1 de) :=
  je_of (pe_lc2 (vs1 := t1.slots) hc hN hi ok (fun i hi => by rw [ho]; exact List.mem_append_right _ hi) hg ht hi1 hg1 ht1 he hs hs1) fun σ H Q h => by
    rw [ho]
    exact up_lc2 σ H Q h
theorem js_setLc2 (i : Nat) {y : Str} {py spos : Pos} {elt tg iter tg1 iter1 : Expr} {ifs ifs1 : List Expr} {scope : Scope} (own : List (Str × Nat)) {di di1 : DI} {t t1 : Tgt} {tt tt1 : DT} {de : DE} (ho : own.map (·.2) = t.slots ++ t1.slots) (hN : X.N.Nodup) (hy : X.N[i]? = some y) (hyl : X.env.scope.names.lookup y = some .local)
    (hsw : swapsWith (.ListComp elt [⟨tg, iter, ifs, 0⟩, ⟨tg1, iter1, ifs1, 0⟩] scope pos) (some (.Name y py)) spos.line X.env = pure true) (hi : JI X tg iter di) (ok : BlkOk X.N X.env.scope scope own)
    (hc : X.calm = true)
    (hg : ∀ (s : Shared) (H : Hp) (C : Addr) (cl : List (Str × Addr)) (fp : List Addr), JG (X.blk s H scope (compEnvC scope cl C X.env) fp) tg t) (ht : ∀ (s : Shared) (H : Hp) (C : Addr) (cl : List (Str × Addr)) (fp : List Addr), JTs (X.blk s H scope (compEnvC scope cl C X.env) fp) ifs tt)
    (hi1 : ∀ (s : Shared) (H : Hp) (C : Addr) (cl : List (Str × Addr)) (fp : List Addr), JI (X.blk s H scope (compEnvC scope cl C X.env) fp) tg1 iter1 di1)
    (hg1 : ∀ (s : Shared) (H : Hp) (C : Addr) (cl : List (Str × Addr)) (fp : List Addr), JG (X.blk s H scope (compEnvC scope cl C X.env) fp) tg1 t1) (ht1 : ∀ (s : Shared) (H : Hp) (C : Addr) (cl : List (Str × Addr)) (fp : List Addr), JTs (X.blk s H scope (compEnvC scope cl C X.env) fp) ifs1 tt1)
    (he : ∀ (s : Shared) (H : Hp) (C : Addr) (cl : List (Str × Addr)) (fp : List Addr), JE (X.blk s H scope (compEnvC scope cl C X.env) fp) elt de) (hs : ∀ x, foldedSetIterable iter X.env x = pure x := by intro _; rfl) (hs1 : ∀ env x, foldedSetIterable iter1 env x = pure x := by intro _ _; rfl) :
    JS X (.Assign [.Name y py] (.ListComp elt [⟨tg, iter, ifs, 0⟩, ⟨tg1, iter1, ifs1, 0⟩] scope pos) spos) (dSet i (dLc2 di t tt di1 t1 tt1 de)) :=
  js_of (ps_setLc2 (vs1 := t1.slots) hc hN hy hyl hsw hi ok (fun i hi => by rw [ho]; exact List.mem_append_right _ hi) hg ht hi1 hg1 ht1 he hs hs1) fun D σ H ⟨ρ, I, S, F, DD, rs, ok, h, q⟩ => by
    rw [ho]
    exact up_lc2 (X := X) σ H _ ⟨ρ, I, S, F, _, rs, ok, h, fun x S1 v I1 H1 h1 e1 ok1 r1 => q.nx _ _ _ _ _ h1 e1 ok1 ((rs.mono e1).set i r1)⟩

/-! ### x in xs of data -/
def dInD (neg : Bool) : D2 := fun x y S P => match x.py, (lstOf S y).bind D.pyL with
  | some p, some ps => SeqAt.shaped p = true ∧ SeqAt.shaped (.list ps) = true ∧ P (.bl (if neg then !ps.any fun z => PyData.eqv z p else ps.any fun z => PyData.eqv z p)) S
  | _, _ => False
theorem lst_dp {K : PySem.W.Frag} {I F H : Hp} {S : Store} (ok : Ok K I S F H) {y : D} {w : V} {ps : List PyData} (r : Rep K I y w) (h : (lstOf S y).bind D.pyL = some ps) : Dp K H w (.list ps) := by
  cases e : lstOf S y with
  | none => rw [e] at h; cases h
  | some ds =>
    rw [e] at h
    obtain ⟨a, xs, rfl, hs, rl⟩ := lst_sq ok r e
    exact .lst hs (rep_dpL ok.same ds xs ps rl h)
theorem i_inD {K : PySem.W.Frag} : Imp2 K (rInD K) (dInD false) := by
  intro x y v w I S F H P Q ok rx ry h q
  unfold dInD at h
  split at h
  · rename_i p ps e1 e2
    exact ⟨p, ps, rep_dp ok.same _ _ _ rx e1, lst_dp ok ry e2, h.1, h.2.1, q _ _ _ _ _ h.2.2 (Same.refl I) ok rep_bl⟩
  · exact h.elim
theorem i_notInD {K : PySem.W.Frag} : Imp2 K (rNotInD K) (dInD true) := by
  intro x y v w I S F H P Q ok rx ry h q
  unfold dInD at h
  split at h
  · rename_i p ps e1 e2
    exact ⟨p, ps, rep_dp ok.same _ _ _ rx e1, lst_dp ok ry e2, h.1, h.2.1, q _ _ _ _ _ h.2.2 (Same.refl I) ok rep_bl⟩
  · exact h.elim
variable {a b : Expr} {da db : DE}
theorem je_inD {k : Nat} (hr : DG.RoomG k X.A) (ha : JE X a da) (hb : JE X b db) (hm : behindInMarks .In b = false := by rfl) : JE X (.Compare a [.In] [b] pos) (dOp (dInD false) da db) := je_cmp (op_inD (by have := hr.r.un; omega)) i_inD ha hb hm
theorem je_notinD {k : Nat} (hr : DG.RoomG k X.A) (ha : JE X a da) (hb : JE X b db) (hm : behindInMarks .NotIn b = false := by rfl) : JE X (.Compare a [.NotIn] [b] pos) (dOp (dInD true) da db) := je_cmp (op_notInD (by have := hr.r.un; omega)) i_notInD ha hb hm
theorem jt_inD {k : Nat} (hr : DG.RoomG k X.A) (ha : JE X a da) (hb : JE X b db) (hm : behindInMarks .In b = false := by rfl) : JT X (.Compare a [.In] [b] pos) (dTest (dOp (dInD false) da db)) := jt_cmp (op_inD (by have := hr.r.un; omega)) i_inD ha hb hm
theorem jt_notinD {k : Nat} (hr : DG.RoomG k X.A) (ha : JE X a da) (hb : JE X b db) (hm : behindInMarks .NotIn b = false := by rfl) : JT X (.Compare a [.NotIn] [b] pos) (dTest (dOp (dInD true) da db)) := jt_cmp (op_notInD (by have := hr.r.un; omega)) i_notInD ha hb hm
end
end DL

/-! every other item of a tuple -/
namespace L2
open PySem PySem.Spec PyProof.Rows HT
def every2 {α : Type} : List α → List α
  | [] => []
  | [x] => [x]
  | x :: _ :: r => x :: every2 r
theorem every2_len {α : Type} : ∀ xs : List α, (every2 xs).length = (xs.length + 1) / 2
  | [] => by simp [every2]
  | [x] => by simp [every2]
  | x :: y :: r => by
    simp only [every2, List.length_cons, every2_len r]
    omega
theorem every2_pick {α : Type} : ∀ xs : List α, (List.range ((xs.length + 1) / 2)).filterMap (fun (k : Nat) => xs[2 * k]?) = every2 xs
  | [] => by simp [every2]
  | [x] => by simp [every2, List.range_succ]
  | x :: y :: r => by
    have e : ((x :: y :: r).length + 1) / 2 = (r.length + 1) / 2 + 1 := by simp only [List.length_cons]; omega
    rw [e, List.range_succ_eq_map, List.filterMap_cons]
    simp only [Nat.mul_zero, List.getElem?_cons_zero, List.filterMap_map]
    have e2 : ((fun (k : Nat) => (x :: y :: r)[2 * k]?) ∘ Nat.succ) = fun (k : Nat) => r[2 * k]? := by
      funext k
      show (x :: y :: r)[2 * (k + 1)]? = _
      rw [show 2 * (k + 1) = 2 * k + 1 + 1 by omega]
      simp
    rw [e2, every2_pick r]
    rfl
theorem vals_every2 : ∀ {vs : List V} {us : List Value}, Vals vs us → Vals (every2 vs) (every2 us)
  | [], _, .nil => .nil
  | [_], _, .cons r .nil => .cons r .nil
  | _ :: _ :: _, _, .cons r (.cons _ t) => .cons r (vals_every2 t)
section
variable {prog : Program} {w : World} {A : Around} {E : Value → Shared → Prop} {s : Shared}
theorem places_step (i n : Nat) (h : i ≤ n) : Builtin.Slice.slicePlaces (i : Int) (n : Int) 2 = (n - i + 1) / 2 := by
  unfold Builtin.Slice.slicePlaces
  have h1 : (2 : Int) > 0 := by decide
  simp only [h1, if_true]
  split <;> omega
theorem adjust_step {lo : Option Int} (hl : lo = none ∨ ∃ i, lo = some i ∧ 0 ≤ i) (n : Nat) : Builtin.Slice.sliceAdjust lo none 2 (n : Int) = (((sIx n 0 lo : Nat) : Int), (n : Int)) := by
  have h1 : ¬ ((2 : Int) < 0) := by omega
  unfold Builtin.Slice.sliceAdjust
  simp only [h1, if_false]
  refine Prod.ext ?_ rfl
  cases lo with
  | none => rfl
  | some v => exact clip_eq v n 0
theorem sliceApplied_step {sl : Addr} {vl vu vs : Value} {lo : Option Int} {n : Nat} {Q : Int × Int × Nat → Shared → Prop} (hs : s.heap.IsSliceOf sl vl vu vs) (pl : IsPart vl lo) (pu : IsPart vu none) (ps : IsPart vs (some 2)) (hl : lo = none ∨ ∃ i, lo = some i ∧ 0 ≤ i)
    (h : Q (((sIx n 0 lo : Nat) : Int), 2, (n - sIx n 0 lo + 1) / 2) s) : wpAny (model prog w) A (Builtin.Slice.sliceApplied (.ref sl) (pure (n : Int))) Q E s := by
  obtain ⟨os, hos, hcs, hds⟩ := id hs
  unfold Builtin.Slice.sliceApplied Builtin.Slice.sliceFields
  refine wpAny_bind (wpAny_bind (wpAny_field hos hds (x := vl) rfl (wpAny_bind (wpAny_field hos hds (x := vu) rfl (wpAny_bind (wpAny_field hos hds (x := vs) rfl (wpAny_pure ?_)))))))
  refine wpAny_bind (slicePart_ ps ?_)
  show wpAny _ _ (if ((2 : Int) == 0) = true then _ else _) _ _ s
  rw [if_neg (by decide)]
  refine wpAny_bind (slicePart_ pl (wpAny_bind (slicePart_ pu (wpAny_bind (wpAny_pure ?_)))))
  show wpAny _ _ (match Builtin.Slice.sliceAdjust lo none 2 (n : Int) with | (lo, hi) => pure (lo, (2 : Int), Builtin.Slice.slicePlaces lo hi 2)) _ _ s
  rw [adjust_step hl n]
  show wpAny _ _ (pure (((sIx n 0 lo : Nat) : Int), (2 : Int), Builtin.Slice.slicePlaces ((sIx n 0 lo : Nat) : Int) (n : Int) 2)) _ _ s
  rw [places_step _ _ (sIx_le _ _ (Nat.zero_le _) _)]
  exact wpAny_pure h
theorem pick_step (xs : Array Value) (i : Nat) : ((List.range ((xs.size - i + 1) / 2)).filterMap fun (m : Nat) => xs[((i : Int) + (m : Int) * 2).toNat]?).toArray = (every2 (xs.toList.drop i)).toArray := by
  have e : (fun (m : Nat) => xs[((i : Int) + (m : Int) * 2).toNat]?) = fun (m : Nat) => (xs.toList.drop i)[2 * m]? := by
    funext m
    have : ((i : Int) + (m : Int) * 2).toNat = i + 2 * m := by omega
    rw [this, List.getElem?_drop]
    simp
  rw [e, show xs.size - i = (xs.toList.drop i).length by simp, every2_pick]
theorem getItem_tuple_step {t sl : Addr} {items : Array Value} {vl vu vs : Value} {lo : Option Int} {Q : Value → Shared → Prop} (ht : IsTup s.heap t items) (hs : s.heap.IsSliceOf sl vl vu vs) (pl : IsPart vl lo) (pu : IsPart vu none) (ps : IsPart vs (some 2)) (hl : lo = none ∨ ∃ i, lo = some i ∧ 0 ≤ i)
    (h : Q (.ref s.heap.objs.size) { s with heap := s.heap.push { cls := .type "tuple", data := .seq (every2 (items.toList.drop (sIx items.size 0 lo))).toArray } })
    (hsz : items.size ≤ sizeLine) : wpAny (model prog w) A (getItem (.ref t) (.ref sl)) Q E s := by
  have htake : sizeOk (.seq (every2 (items.toList.drop (sIx items.size 0 lo))).toArray) := by
    show (every2 (items.toList.drop (sIx items.size 0 lo))).toArray.size ≤ sizeLine
    rw [List.size_toArray, every2_len, List.length_drop, Array.length_toList]
    omega
  obtain ⟨os, hos, hcs, hds⟩ := id hs
  have hTs : s.TypeIs (.ref sl) "slice" := ⟨os, hos, hcs⟩
  unfold getItem
  try with_reducible refine wpAny_holding ?_
  first | refine wpAny_bind (wpAny_pure ?_) | skip
  refine wpAny_bind (wpAny_sequenceKey ht.typeIs (by decide) ?_)
  refine wpAny_bind (wpAny_callSpecial?_slot (name := Str.ofString "__getitem__") ht.typeIs PyProof.Rows.slot_tuple_getitem
    (wpAny_call_entry PyProof.Rows.slot_tuple_getitem ht.typeIs entry_tuple_getitem ?_ (args_tuple_getitem _ _)))
  show wpAny _ _ (Builtin.Tuple.tupleItemsOf (.ref t) >>= _) _ _ s
  refine wpAny_bind (tupleItemsOf_ ht ?_)
  refine wpAny_bind (wpAny_typeOf hTs ?_)
  rw [if_pos (by decide)]
  refine wpAny_bind (sliceApplied_step hs pl pu ps hl ?_)
  have hno : ¬ ((((sIx items.size 0 lo : Nat) : Int) == 0 && (2 : Int) == 1 && (items.size - sIx items.size 0 lo + 1) / 2 == items.size) = true) := by
    intro q
    rw [Bool.and_eq_true, Bool.and_eq_true] at q
    exact absurd (eq_of_beq q.1.2) (by decide)
  show wpAny _ _ (if (((sIx items.size 0 lo : Nat) : Int) == 0 && (2 : Int) == 1 && (items.size - sIx items.size 0 lo + 1) / 2 == items.size) = true then _ else _) _ _ s
  rw [if_neg hno, pick_step]
  first
    | exact wpAny_bind (m := Builtin.Tuple.tupleExact _) (wpAny_newObj_type (wpAny_pure ⟨_, rfl, wpAny_pure h⟩) htake)
    | exact wpAny_bind (m := Builtin.Tuple.tupleExact _) (wpAny_newObj_type (wpAny_bind (wpAny_pure (wpAny_pure ⟨_, rfl, wpAny_pure h⟩))) htake)
    | exact wpAny_bind (wpAny_bind (m := Builtin.Tuple.tupleExact _) (wpAny_newObj_type (wpAny_pure (wpAny_pure ⟨_, rfl, wpAny_pure h⟩)) htake))
    | exact wpAny_bind (wpAny_bind (m := Builtin.Tuple.tupleExact _) (wpAny_newObj_type (wpAny_pure ⟨_, rfl, wpAny_pure h⟩) htake))
end
section
variable {X : Cx}
def tEv (K : PySem.W.Frag) (te : TE) (tl : TO) : TE := fun σ H Q => te σ H fun x H1 => tl σ H1 fun l H2 => ∃ a xs, x = .ref a ∧ SqT K H2 a xs ∧ (l = none ∨ ∃ i, l = some i ∧ 0 ≤ i) ∧ ∀ p, H2 p = none → Q (.ref p) (upd H2 p (.tup (every2 (xs.drop (sIx xs.length 0 l)))))
theorem pe_ev {e : Expr} {te : TE} {lo : Option Expr} {tl : TO} {k : Nat} {p1 p3 pos : Pos} (he : PE X e te) (hl : PO X lo tl) : PE X (.Subscript e (.Slice lo none (some (.Constant (.int 2) k p1)) p3) pos) (tEv X.K te tl) := by
  refine ⟨fun pins s σ H Q I h => ?_⟩
  refine Subscript_ (thn (he.run pins s σ H _ I h) fun v s1 ⟨x, H1, I1, r1, q1⟩ => ?_)
  have hst : PO X (some (.Constant (.int 2) k p1)) (tPart (tC (.int 2))) := po_some pe_int
  refine wpAny_Slice (thn (hl.run pins s1 σ H1 _ I1 q1) fun vl s2 ⟨l, H2, I2, pl, q2⟩ => ?_)
  refine thn (po_none.run pins s2 σ H2 (fun o H3 => o = none ∧ H3 = H2) I2 ⟨rfl, rfl⟩) fun vu s3 ⟨u, H3, I3, pu, eu, e3⟩ => ?_
  subst eu e3
  refine thn (hst.run pins s3 σ H3 (fun o H4 => o = some 2 ∧ H4 = H3) I3 ⟨2, rfl, rfl, rfl⟩) fun vs s4 ⟨o, H4, I4, ps, eo, e4⟩ => ?_
  subst eo e4
  obtain ⟨a, xs, ex, hx, hl0, q⟩ := q2
  subst ex
  cases r1
  have I5 : Inv X pins σ H4 { s4 with heap := s4.heap.push { cls := .type "slice", data := .fields #[vl, vu, vs] } } := I4.kept (t' := s4.toks) fun b ob q => Heap.get?_push_of_some _ q
  obtain ⟨its, r, ht, hz⟩ := I5.tuple hx
  have hlen : its.toArray.size = xs.length := by rw [List.size_toArray]; exact r.length.symm
  show wpAny (model X.prog X.w) X.A (subscriptTail e (.Slice lo none (some (.Constant (.int 2) k p1)) p3) (.ref a) (.ref s4.heap.objs.size)) (EP X pins σ Q) X.xe { s4 with heap := s4.heap.push { cls := .type "slice", data := .fields #[vl, vu, vs] } }
  refine tail_any (ops := [.ref a, .ref s4.heap.objs.size]) ht.typeIs PyProof.Rows.slot_tuple_getitem.lookup ?_ (by with_unfolding_all rfl)
  refine getItem_tuple_step ht (Heap.IsSliceOf.new _ vl vu vs) pl pu ps hl0 ?_ (by rw [hlen]; exact hz)
  rw [hlen]
  refine ⟨.ref _, _, I5.laid (t' := s4.toks) (o := .tup (every2 (xs.drop (sIx xs.length 0 l)))) (fun b ob q => Heap.get?_push_of_some _ q) (Nat.le_refl _) ?_, rfl, q _ (I5.hok.fresh (Nat.le_refl _))⟩
  exact ⟨by rw [every2_len, List.length_drop]; omega, _, vals_every2 (r.drop _), IsTup.new _ _⟩
end
/-! ### len(set(list of numbers)) -/
def metLen (ns : List Int) : Nat := (PyProof.Rows.firstMet (fun i => ns.getD i 0) ns.length).length
theorem met_all {f : Nat → Int} {a : Int} : ∀ n, (∀ i, i < n → f i = a) → PyProof.Rows.firstMet f n = [] ∨ PyProof.Rows.firstMet f n = [a]
  | 0, _ => .inl rfl
  | n + 1, h => by
    have hn := h n (Nat.lt_succ_self n)
    rw [PyProof.Rows.firstMet_succ]
    rcases met_all n fun i hi => h i (Nat.lt_succ_of_lt hi) with e | e
    · rw [e]
      simp [hn, PyProof.Rows.step_dedup]
    · rw [e]
      simp [hn, PyProof.Rows.step_dedup]
theorem metLen_le {ns : List Int} {a : Int} (h : ∀ x, x ∈ ns → x = a) : metLen ns ≤ 1 := by
  unfold metLen
  rcases met_all (f := fun i => ns.getD i 0) (a := a) ns.length (fun i hi => by
    have e : ns.getD i 0 = ns[i] := by rw [List.getD_eq_getElem?_getD, List.getElem?_eq_getElem hi]; rfl
    show ns.getD i 0 = a
    rw [e]
    exact h _ (List.getElem_mem hi)) with e | e
  · rw [e]; simp
  · rw [e]; simp
section
def tLenSet (K : PySem.W.Frag) (ta : TE) : TE := fun σ H Q => ta σ H fun x H1 => ∃ (l : Addr) (ns : List Int), x = .ref l ∧ SqL K H1 l (ns.map V.int) ∧ ns.length ≤ 4000 ∧ Q (.int (metLen ns : Nat)) H1
theorem pe_lenSet {X : Cx} {a : Expr} {ta : TE} {p p2 q pos : Pos} (hg : Gl X "len") (hm : X.mg "len" = none) (hg2 : Gl X "set") (hm2 : X.mg "set" = none) (ha : PE X a ta) (hc : X.calm = true := by rfl)
    (na : starEach [a] X.env = (false, eval a X.env) :: starEach [] X.env := by rfl) : PE X (.Call (.Name "len" p) [.Call (.Name "set" p2) [a] [] q] [] pos) (tLenSet X.K ta) := by
  refine ⟨fun pins s σ H Q I h => ?_⟩
  refine Call_ (ld_blt I hg hm boot_len ?_)
  refine PyProof.Rows.callWith_builtin1 (PyProof.Rows.args_cons ?_ rfl) rfl rfl
  refine Call_ (ld_blt I hg2 hm2 boot_set ?_)
  refine PyProof.Rows.callWith_type1 (PyProof.Rows.args_cons (thn (ha.run pins s σ H _ I h) fun v s1 ⟨x, H1, I1, r1, q1⟩ => PyProof.Rows.args_nil ?_) na) na rfl
  obtain ⟨l, ns, rfl, hq, hl, q1⟩ := q1
  cases r1
  obtain ⟨its, r, pl, hz⟩ := I1.list hq
  have hlen : its.toArray.size = ns.length := by rw [List.size_toArray, ← r.length, List.length_map]
  refine call_set_list (I1.ok.hd hc) pl.isList (by simpa using RZ.intsAre_vals r) (by rw [hlen]; unfold scanBound; omega) fun h' tk hS hk => ?_
  refine PyProof.Rows.args_nil ?_
  rw [hlen] at hS
  obtain ⟨o, es, ep, t, ho, hex, hd, _, _, _, hf, hn⟩ := hS
  have I2 : Inv X pins σ H1 { s1 with heap := h', toks := tk } := I1.kept fun b o e => hk b o (Heap.lt_size e) e
  have hml := PyProof.Rows.firstMet_length_le (fun i => ns.getD i 0) ns.length
  exact call_len_set ho hex hd hf (by rw [hn] <;> omega) ⟨.int (metLen ns), H1, I2.tok _, ⟨_, by rw [hn]; rfl⟩, q1⟩
end
end L2
namespace DL
open PySem PySem.Spec PyProof.Rows L2
theorem RepL.every2 {K : PySem.W.Frag} {I : Hp} : ∀ {ds : List D} {vs : List V}, RepL K I ds vs → RepL K I (L2.every2 ds) (L2.every2 vs)
  | [], vs, h => by
    simp only [RepL] at h
    subst h; exact RepL.nil
  | [d], vs, h => by
    obtain ⟨v, rfl, r⟩ := h.inv1
    exact RepL.one r
  | d :: e :: ds, vs, h => by
    simp only [RepL] at h
    obtain ⟨v, r, rfl, h1, w, r', rfl, h2, h3⟩ := h
    exact RepL.cons h1 (RepL.every2 h3)
/-- t[lo::2] -/
def dEv (d : DE) (lo : DO) : DE := fun ρ S P => d ρ S fun x S1 => lo ρ S1 fun l S2 => match x with
  | .tup ds => (match l with | none => True | some i => 0 ≤ i) ∧ P (.tup (every2 (ds.drop (HT.sIx ds.length 0 l)))) S2
  | _ => False
theorem je_ev {X : Cx} {pos p1 p3 : Pos} {k : Nat} {a : Expr} {da : DE} {lo : Option Expr} {dl : DO} (he : JE X a da) (hl : JO X lo dl) : JE X (.Subscript a (.Slice lo none (some (.Constant (.int 2) k p1)) p3) pos) (dEv da dl) :=
  je_of (pe_ev he hl) fun σ H Q ⟨ρ, I, S, F, P, rs, ok, h, q⟩ =>
    ⟨ρ, I, S, F, _, rs, ok, h, fun x S1 v I1 H1 h1 e1 ok1 r1 => ⟨ρ, I1, S1, F, _, rs.mono e1, ok1, h1, fun l S2 I2 H2 h2 e2 ok2 => by
      have r2 : Rep X.K I2 x v := r1.mono e2
      split at h2
      · rename_i ds
        obtain ⟨a, xs, rfl, hs, rl⟩ := tup_sq ok2 r2
        refine ⟨a, xs, rfl, hs, ?_, fun p hp => ?_⟩
        · cases l with
          | none => exact .inl rfl
          | some i => exact .inr ⟨i, rfl, h2.1⟩
        · rw [rl.len]
          exact q _ _ _ _ _ h2.2 ((e1.trans e2).trans (same_new (ok2.freshI hp))) (ok2.newI hp) (rep_new_tup (ok2.freshI hp) (RepL.every2 (rl.drop _)))
      · exact h2.elim⟩⟩
/-- len(set(d)) -/
def dLenSet (d : DE) : DE := fun ρ S P => d ρ S fun x S1 => match (lstOf S1 x).bind dInts with
  | some ns => ns.length ≤ 4000 ∧ P (.int (metLen ns : Nat)) S1
  | none => False
theorem je_lenSet {X : Cx} {pos p p2 q : Pos} {a : Expr} {da : DE} (hm : X.mg "len" = none) (hm2 : X.mg "set" = none) (ha : JE X a da) (hg : Gl X "len" := by rfl) (hg2 : Gl X "set" := by rfl) (hc : X.calm = true := by rfl)
    (na : starEach [a] X.env = (false, eval a X.env) :: starEach [] X.env := by rfl) : JE X (.Call (.Name "len" p) [.Call (.Name "set" p2) [a] [] q] [] pos) (dLenSet da) :=
  je_of (pe_lenSet hg hm hg2 hm2 ha hc na) fun σ H Q ⟨ρ, I, S, F, P, rs, ok, h, q⟩ => ⟨ρ, I, S, F, _, rs, ok, h, fun x S1 v I1 H1 h1 e1 ok1 r1 => by
    split at h1
    · rename_i ns e
      obtain ⟨l, rfl, hs⟩ := lstInts ok1 r1 e
      exact ⟨l, ns, rfl, hs, h1.1, q _ _ _ _ _ h1.2 e1 ok1 rep_int⟩
    · exact h1.elim⟩
end DL

namespace DL
open PySem PySem.Spec PyProof.Rows L2

/-! ### {'a': 1, ..}.get(x, y) of a written dict -/
def dictAt : List (Str × Int) → Str → Option Int
  | [], _ => none
  | (k, v) :: r, z => if k = z then some v else dictAt r z
def kvV (p : Str × Int) : Key × V := (.inr p.1, .int p.2)
theorem dictAt_val (z : Str) : ∀ kvs : List (Str × Int), valV (kvs.map kvV) (.inr z) = (dictAt kvs z).map V.int
  | [] => rfl
  | (k, v) :: r => by
    have ih := dictAt_val z r
    unfold valV at ih ⊢
    rw [List.map_cons, List.find?_cons]
    by_cases h : k = z
    · subst h
      simp [kvV, dictAt]
    · have : decide ((kvV (k, v)).1 = (Sum.inr z : Key)) = false := by
        simp [kvV, h]
      rw [this]
      simp only [dictAt, if_neg h]
      exact ih
def tKV (p : Str × Int) : TE × TE := (tC (.str p.1), tC (.int p.2))
theorem pairs_kv {σ : L2.St} {Q : List (V × V) → Hp → Prop} : ∀ (kvs : List (Str × Int)) {H : Hp}, Q (kvs.map fun p => (V.str p.1, V.int p.2)) H → tPairs (kvs.map tKV) σ H Q
  | [], H, h => h
  | p :: r, H, h => by
    show tPairs (r.map tKV) σ H fun ps H3 => Q ((V.str p.1, V.int p.2) :: ps) H3
    exact pairs_kv r h
theorem Ok.less {K : PySem.W.Frag} {I F F' H : Hp} {S : Store} (h : Ok K I S F' H) (le : ∀ a o, F a = some o → F' a = some o) : Ok K I S F H := ⟨h.i, h.s, fun a o e => h.f a o (le a o e)⟩
def dDispGet (kvs : List (Str × Int)) (dk dd : DE) : DE := fun ρ S P => dk ρ S fun x S1 => dd ρ S1 fun y S2 => match x with
  | .str z => (match dictAt kvs z with
    | some i => P (.int i) S2
    | none => P y S2)
  | _ => False
section
variable {X : Cx} {pos p1 apos cpos : Pos} {e f : Expr} {dk dd : DE}
theorem je_dispGet {k : Nat} (kvs : List (Str × Int)) {keys : List (Option Expr)} {values : List Expr} (hr : DG.RoomG k X.A) (hp : PPs X p1 keys values (kvs.map tKV)) (hk : JE X e dk) (hd : JE X f dd) (m : M2 X (.Dict keys values p1) "get" apos e f cpos)
    (hm : mergeK [] (kvs.map kvV) = kvs.map kvV) (hall : keys.all (·.isSome) = true := by rfl) (hl : keys.length = values.length := by rfl) (h0 : keys ≠ [] := by exact fun z => nomatch z) (h15 : keys.length ≤ 15 := by decide) (hkl : kvs.length ≤ 15 := by decide) :
    JE X (.Call (.Attribute (.Dict keys values p1) "get" apos) [e, f] [] cpos) (dDispGet kvs dk dd) :=
  je_of (pe_dget2 (by have := hr.r.un; omega) (pe_disp hp hall hl h0 h15) hk hd m) fun σ H Q ⟨ρ, I, S, F, P, rs, ok, h, q⟩ => by
    intro p hp
    refine pairs_kv kvs ⟨upd_same, kvs.map kvV, by rw [List.map_map]; rfl, by rw [List.length_map]; exact hkl, ?_⟩
    rw [upd_upd, hm]
    have ok1 : Ok X.K I S (upd F p (.dK (kvs.map kvV))) (upd H p (.dK (kvs.map kvV))) := ok.newF hp ⟨fun y z => (by cases z), fun y z => (by cases z)⟩
    have hF : (upd F p (.dK (kvs.map kvV))) p = some (.dK (kvs.map kvV)) := upd_same
    have hn : F p = none := ok.freshF hp
    refine ⟨p, rfl, .inl ⟨_, .inl upd_same⟩, ρ, I, S, _, _, rs, ok1, h, fun x S1 v I1 H1 h1 e1 ok2 r1 => ⟨ρ, I1, S1, _, _, rs.mono e1, ok2, h1, fun y S2 w I2 H2 h2 e2 ok3 r2 => ?_⟩⟩
    have hd := (ok3.f p _ hF).1
    have ok4 : Ok X.K I2 S2 F H2 := ok3.less fun a o ea => by
      rw [upd_ne (fun z => by rw [z, hn] at ea; cases ea)]; exact ea
    split at h2
    · rename_i z
      cases (r1.mono e2).str_of
      refine ⟨valV (kvs.map kvV) (.inr z), DGet.k (k := .inr z) hd, ?_⟩
      rw [dictAt_val]
      split at h2
      · rename_i i ei
        rw [ei]
        exact q _ _ _ _ _ h2 (e1.trans e2) ok4 rep_int
      · rename_i ei
        rw [ei]
        exact q _ _ _ _ _ h2 (e1.trans e2) ok4 r2
    · exact h2.elim

/-! ### xs.extend(ys), xs.reverse() -/
def dExtend (a b : DE) : DE := fun ρ S P => a ρ S fun x S1 => match x with
  | .obj l => (∃ es, S1 l = some (.lst es)) ∧ b ρ S1 fun y S2 => match S2 l, y with
    | some (.lst ds), .lst ys => ds.length + ys.length ≤ 100000 ∧ P .non (supd S2 l (.lst (ds ++ ys)))
    | _, _ => False
  | _ => False
variable {o a : Expr} {da db : DE} {pos : Pos}
theorem je_extend (ha : JE X o da) (hb : JE X a db) (hbase : attributeBase o "extend" X.env (eval o X.env) = eval o X.env := by rfl) (hs0 : starEach [a] X.env = [(false, eval a X.env)] := by rfl)
    (hfew : ((backTo pos (starEach [a] X.env)).all (fun x => !x.1) && (backToKw pos (keywordEach [] X.env)).all (fun x => x.1.isSome)
      && decide ([a].length + ([] : List Keyword).length + (if ([] : List Keyword).isEmpty then 0 else 1) < 30)) = true := by rfl)
    (hline : (apos.endLine == pos.line) = true := by rfl) : JE X (.Call (.Attribute o "extend" apos) [a] [] pos) (dExtend da db) :=
  je_of (pe_bm PySem.F.plainAttrs_list PySem.F.slot_list_extend PySem.F.type_list_extend mt_extend ha (pa_cons hb pa_nil hs0) hbase hfew hline (hs := hs0) (hplain := by rfl)) fun σ H Q ⟨ρ, I, S, F, P, rs, ok, hh, q⟩ =>
    ⟨ρ, I, S, F, _, rs, ok, hh, fun x S1 v I1 H1 h1 e1 ok1 r1 => by
      cases x with
      | obj l =>
        obtain ⟨⟨es, e2⟩, h2⟩ := h1
        obtain ⟨_, ys, q2, _⟩ := ok1.s l _ e2
        cases r1.obj_of
        refine ⟨.inl ⟨rfl, ys, .of q2⟩, ρ, I1, S1, F, _, rs.mono e1, ok1, h2, fun y S2 w I2 H2 h3 e3 ok2 r2 => ?_⟩
        split at h3
        · rename_i ds ys' e4
          obtain ⟨_, zs, q4, rl⟩ := ok2.s l _ e4
          obtain ⟨b, ws, rfl, hb2, rl2⟩ := r2.lst_of
          refine ⟨l, b, zs, ws, rfl, rfl, q4, ok2.i _ _ hb2, line5 (by rw [rl.len, rl2.len]; exact h3.1), q _ _ _ _ _ h3.2 (e1.trans e3) (ok2.writeL e4 (rl.app rl2)) rep_non⟩
        · exact h3.elim
      | _ => exact h1.elim⟩
def dReverse (a : DE) : DE := fun ρ S P => a ρ S fun x S1 => match x with
  | .obj l => (match S1 l with
    | some (.lst ds) => P .non (supd S1 l (.lst ds.reverse))
    | _ => False)
  | _ => False
theorem je_reverse (ha : JE X o da) (hbase : attributeBase o "reverse" X.env (eval o X.env) = eval o X.env := by rfl) 
    (hline : (apos.endLine == pos.line) = true := by rfl) : JE X (.Call (.Attribute o "reverse" apos) [] [] pos) (dReverse da) :=
  je_of (pe_bm0 PySem.F.plainAttrs_list PySem.F.slot_list_reverse PySem.F.type_list_reverse mt_reverse ha hbase hline) fun σ H Q ⟨ρ, I, S, F, P, rs, ok, hh, q⟩ =>
    ⟨ρ, I, S, F, _, rs, ok, hh, fun x S1 v I1 H1 h1 e1 ok1 r1 => by
      split at h1
      · rename_i l
        split at h1
        · rename_i ds e2
          obtain ⟨_, ys, q2, rl⟩ := ok1.s l _ e2
          cases r1.obj_of
          exact ⟨.inl ⟨rfl, ys, .of q2⟩, l, ys, rfl, rfl, q2, q _ _ _ _ _ h1 e1 (ok1.writeL e2 rl.rev) rep_non⟩
        · exact h1.elim
      · exact h1.elim⟩
end
/-! ### f() -/
theorem je_f0 {X : Cx} {pos p : Pos} {k j : Nat} {x : Str} {ps : List Str} {f : Addr} {fd : FuncData} {sp : DSp} (G : Does X.prog X.w X.K X.mg X.base k x ps f fd sp) (hr : DG.RoomG j X.A) (hk : k ≤ j := by decide) (hg : Gl X x := by rfl) (hdb : (x == ("__debug__" : Str)) = false := by decide) :
    JE X (.Call (.Name x p) [] [] pos) (dCB sp dNil) :=
  je_of (je_call0 G.ok (hr.mono hk) hg G.g G.kp G.b .nil (fun _ => RepL.nil) hdb) fun σ H Q ⟨ρ, I, S, F, P, rs, ok, h, q⟩ => ⟨ρ, I, S, F, P, rs, ok, by simpa only [dCall, dCB, List.append_nil] using h, q⟩
end DL

namespace DL
open PySem PySem.Spec PyProof.Rows L2

/-! ### NAME.get(x, y) of a written dict of the module, by words that are known -/
/-- a written dict; of each word what stands there -/
def KdAt (K : PySem.W.Frag) (w : World) (u : Value) (kvs : List (Str × Int)) (ws : List Str) : Prop := ∃ d es n, u = .ref d ∧ KDict K w d es n ∧
  ∀ z, z ∈ ws → ∃ r, PySem.W.nsIn K d z = some r ∧ (match dictAt kvs z with
    | some i => ∃ v, r = some v ∧ RelV (.int i) v
    | none => r = none)
def tKGet (kvs : List (Str × Int)) (ws : List Str) (ty tx : TE) : TE := fun σ H Q => ty σ H fun y H1 => tx σ H1 fun x H2 => ∃ z, y = .str z ∧ z ∈ ws ∧ (match dictAt kvs z with
  | some i => Q (.int i) H2
  | none => Q x H2)
section
variable {X : Cx} {e f : Expr} {ty tx : TE} {x : Str} {p1 apos cpos : Pos}
theorem pe_kget {kvs : List (Str × Int)} {ws : List Str} (hg : ∃ u, X.mg x = some u ∧ KdAt X.K X.w u kvs ws) (he : PE X e ty) (hf : PE X f tx) (m : M2 X (.Name x p1) "get" apos e f cpos) (hx : Gl X x := by rfl) (hdb : (x == ("__debug__" : Str)) = false := by decide) :
    PE X (.Call (.Attribute (.Name x p1) "get" apos) [e, f] [] cpos) (tKGet kvs ws ty tx) := by
  obtain ⟨u, hu, d, es, n, rfl, D, hws⟩ := hg
  have ho : PE X (.Name x p1) (tC (.ref d)) := pe_glob hx hu rfl hdb
  refine ⟨fun pins s σ H Q I h => ?_⟩
  refine wpAny_Call_method m.base m.few m.line PySem.F.plainAttrs_dict PySem.F.slot_dict_get PySem.F.type_dict_get (thn (ho.run pins s σ H (fun a H1 => a = .ref d ∧ tKGet kvs ws ty tx σ H1 Q) I ⟨rfl, h⟩) fun u s1 ⟨a, H1, I1, rx, ex, q1⟩ => ?_)
  subst ex
  obtain rfl : u = Value.ref d := rx
  have hm1 := PySem.W.mapOf_K (prog := X.prog) (w := X.w) I1.kIn D.at_ D.lit
  refine ⟨hm1.typeIs, fun b q => ?_, ?_⟩
  · cases q
    exact ⟨_, I1.kIn _ _ D.at_, rfl⟩
  rw [m.trees]
  refine Calls.callWith_builtin rfl (Calls.evalArgs_plain (Calls.spliced_cons (thn (he.run pins s1 σ H1 _ I1 q1) fun iv s2 ⟨y, H2, I2, ry, q2⟩ =>
    Calls.spliced_cons (thn (hf.run pins s2 σ H2 _ I2 q2) fun fv s3 ⟨c, H3, I3, rz, z, ey, hz, q3⟩ => Calls.spliced_nil ?_))))
  subst ey
  obtain ⟨t, rfl⟩ := (show ∃ t, iv = Value.str z t from ry)
  obtain ⟨r, hr, hv⟩ := hws z hz
  have hm3 := PySem.W.mapOf_K (prog := X.prog) (w := X.w) I3.kIn D.at_ D.lit
  refine call_meetsIn PySem.F.slot_dict_get hm3.typeIs PySem.F.entry_dict_get (PySem.F.args_dict_get_3 _ _ _) (meets_dict_get_default (strKind X.prog X.w) (k := z) d (PySem.strKind_is X.prog X.w z t) D.low fv) ⟨_, hm3, ?_⟩
  rw [PySem.W.find_K D.at_ hr]
  cases ed : dictAt kvs z with
  | some i =>
    rw [ed] at hv q3
    obtain ⟨v, rfl, rv⟩ := hv
    exact ⟨_, H3, I3.tok _, rv, q3⟩
  | none =>
    rw [ed] at hv q3
    subst hv
    exact ⟨_, H3, I3.tok _, rz, q3⟩
end
def dKGet (kvs : List (Str × Int)) (ws : List Str) (dk dd : DE) : DE := fun ρ S P => dk ρ S fun x S1 => dd ρ S1 fun y S2 => match x with
  | .str z => z ∈ ws ∧ (match dictAt kvs z with
    | some i => P (.int i) S2
    | none => P y S2)
  | _ => False
section
variable {X : Cx} {e f : Expr} {dk dd : DE} {x : Str} {p1 apos cpos : Pos}
theorem je_kget {kvs : List (Str × Int)} {ws : List Str} (hg : ∃ u, X.mg x = some u ∧ KdAt X.K X.w u kvs ws) (hk : JE X e dk) (hd : JE X f dd) (m : M2 X (.Name x p1) "get" apos e f cpos) (hx : Gl X x := by rfl) (hdb : (x == ("__debug__" : Str)) = false := by decide) :
    JE X (.Call (.Attribute (.Name x p1) "get" apos) [e, f] [] cpos) (dKGet kvs ws dk dd) :=
  je_of (pe_kget hg hk hd m hx hdb) fun σ H Q ⟨ρ, I, S, F, P, rs, ok, h, q⟩ => by
    refine ⟨ρ, I, S, F, _, rs, ok, h, fun x S1 v I1 H1 h1 e1 ok1 r1 => ⟨ρ, I1, S1, _, _, rs.mono e1, ok1, h1, fun y S2 w I2 H2 h2 e2 ok2 r2 => ?_⟩⟩
    split at h2
    · rename_i z
      cases (r1.mono e2).str_of
      obtain ⟨hz, h2⟩ := h2
      refine ⟨z, rfl, hz, ?_⟩
      cases ed : dictAt kvs z with
      | some i =>
        rw [ed] at h2
        exact q _ _ _ _ _ h2 (e1.trans e2) ok2 rep_int
      | none =>
        rw [ed] at h2
        exact q _ _ _ _ _ h2 (e1.trans e2) ok2 r2
    · exact h2.elim
end
end DL

namespace DL
open PySem PySem.Spec PyProof.Rows L2
/-! ### xs == ys of lists, also of those that change -/
def dEqL (neg : Bool) : D2 := fun x y S P => match (lstOf S x).bind D.pyL, (lstOf S y).bind D.pyL with
  | some ps, some qs => SeqAt.shaped (.list ps) = true ∧ SeqAt.shaped (.list qs) = true ∧ P (.bl (if neg then !PyData.eqv (.list ps) (.list qs) else PyData.eqv (.list ps) (.list qs))) S
  | _, _ => False
section
variable {X : Cx} {pos : Pos} {a b : Expr} {da db : DE}
theorem i_eqL {K : PySem.W.Frag} : Imp2 K (rEqD K) (dEqL false) := by
  intro x y v w I S F H P Q ok rx ry h q
  unfold dEqL at h
  split at h
  · rename_i p ps e1 e2
    exact ⟨_, _, lst_dp ok rx e1, lst_dp ok ry e2, h.1, h.2.1, q _ _ _ _ _ h.2.2 (Same.refl I) ok rep_bl⟩
  · exact h.elim
theorem i_neL {K : PySem.W.Frag} : Imp2 K (rNeD K) (dEqL true) := by
  intro x y v w I S F H P Q ok rx ry h q
  unfold dEqL at h
  split at h
  · rename_i p ps e1 e2
    exact ⟨_, _, lst_dp ok rx e1, lst_dp ok ry e2, h.1, h.2.1, q _ _ _ _ _ h.2.2 (Same.refl I) ok rep_bl⟩
  · exact h.elim
theorem je_eqL {k : Nat} (hr : DG.RoomG k X.A) (ha : JE X a da) (hb : JE X b db) (hm : behindInMarks .Eq b = false := by rfl) : JE X (.Compare a [.Eq] [b] pos) (dOp (dEqL false) da db) := je_cmp (op_eqD (by have := hr.r.un; omega)) i_eqL ha hb hm
theorem je_neL {k : Nat} (hr : DG.RoomG k X.A) (ha : JE X a da) (hb : JE X b db) (hm : behindInMarks .NotEq b = false := by rfl) : JE X (.Compare a [.NotEq] [b] pos) (dOp (dEqL true) da db) := je_cmp (op_neD (by have := hr.r.un; omega)) i_neL ha hb hm
theorem jt_eqL {k : Nat} (hr : DG.RoomG k X.A) (ha : JE X a da) (hb : JE X b db) (hm : behindInMarks .Eq b = false := by rfl) : JT X (.Compare a [.Eq] [b] pos) (dTest (dOp (dEqL false) da db)) := jt_cmp (op_eqD (by have := hr.r.un; omega)) i_eqL ha hb hm
theorem jt_neL {k : Nat} (hr : DG.RoomG k X.A) (ha : JE X a da) (hb : JE X b db) (hm : behindInMarks .NotEq b = false := by rfl) : JT X (.Compare a [.NotEq] [b] pos) (dTest (dOp (dEqL true) da db)) := jt_cmp (op_neD (by have := hr.r.un; omega)) i_neL ha hb hm
end
end DL

/-! Own classes: instances as things that change. -/
namespace DG
open PySem PySem.Spec PyProof.Rows L2
theorem RoomG.make {k : Nat} {A : Around} (h : RoomG (k + 1) A) (C : Addr) (us : List Value) (kw : List (Str × Value)) : RoomG k (A.under (.builtin "type.__call__" ⟨.ref C :: us, kw⟩)) :=
  ⟨h.r.make C us kw, by
    show pushGuards (Code.guards (.builtin "type.__call__" ⟨.ref C :: us, kw⟩)) A.guards = some []
    rw [h.g]; rfl⟩
section
variable {X : Cx} {CX : CXT} {k n : Nat} {f C : Addr} {fd : FuncData} {ps ks : List Str} {sp : Sp} {dvs : List V} {ds : List Value} {E : XK} {x m : Str} {p pos apos : Pos} {e o : Expr} {es : List Expr} {ta : TE} {t tk : TA} {kws : List Keyword} {g : List Value → List Value → List Value} {gV : List V → List V → List V}
/-- o.m(e, ..) -/
theorem pe_meth {pl : Sem Bool} (he : PE X o ta) (c : Cls X.K C) (hm : Meth X.K C m f) (F : FnG X.prog X.w X.K X.mg X.base CX k f fd ps sp) (hr : RoomG k X.A) (hb : Binds X.K fd ps ds) (hd : Vals dvs ds) (hx : Passes CX X E) (ha : PA X (e :: es) t)
    (hst : starEach (e :: es) X.env = (false, eval e X.env) :: starEach es X.env := by rfl) (hpl : (backTo pos (starEach es X.env)).any (·.1) = false := by rfl)
    (ht : eval (.Call (.Attribute o m apos) (e :: es) [] pos) X.env = (do
      let ov ← eval o X.env
      standAt apos.atName
      let (f, first) ← holding [ov] (getMethod ov m pl)
      callWith pos f first (backTo pos (starEach (e :: es) X.env)) (backToKw pos (keywordEach [] X.env))) := by rfl) :
    PE X (.Call (.Attribute o m apos) (e :: es) [] pos) (tMeth C m sp dvs E ta t) := by
  refine ⟨fun pins s σ H Q I h => ?_⟩
  refine PySem.W.methodCall_KW (pl := pl) (thn (he.run pins s σ H _ I h) fun u s1 ⟨x, H1, I1, rx, a, dx, fs, ex, ea, l, q⟩ => ?_) ht
  subst ex
  obtain rfl : u = Value.ref a := rx
  refine getmeth_ok I1 ea c hm l ?_
  refine PySem.W.callWith_K (first := [.ref a]) (h₀ := X.base) I.ok.mod.kin hm.kp (thn (ha.run pos pins s1 σ H1 _ I1 q) fun us s2 ⟨vs, H2, I2, r, q2⟩ => ⟨I2.kIn, ?_⟩) hst hpl
  exact run_fn (us := .ref a :: us) (vs := .ref a :: vs) F hr hb hd hx I2 (.cons rfl r) q2
/-- o.m() -/
theorem pe_meth0 {pl : Sem Bool} (he : PE X o ta) (c : Cls X.K C) (hm : Meth X.K C m f) (F : FnG X.prog X.w X.K X.mg X.base CX k f fd ps sp) (hr : RoomG k X.A) (hb : Binds X.K fd ps ds) (hd : Vals dvs ds) (hx : Passes CX X E)
    (ht : eval (.Call (.Attribute o m apos) [] [] pos) X.env = (do
      let ov ← eval o X.env
      standAt apos.atName
      let (f, first) ← holding [ov] (getMethod ov m pl)
      callWith pos f first (backTo pos (starEach [] X.env)) (backToKw pos (keywordEach [] X.env))) := by rfl) :
    PE X (.Call (.Attribute o m apos) [] [] pos) (tMeth C m sp dvs E ta tNil) := by
  refine ⟨fun pins s σ H Q I h => ?_⟩
  refine PySem.W.methodCall_KW (pl := pl) (thn (he.run pins s σ H _ I h) fun u s1 ⟨x, H1, I1, rx, a, dx, fs, ex, ea, l, q⟩ => ?_) ht
  subst ex
  obtain rfl : u = Value.ref a := rx
  refine getmeth_ok I1 ea c hm l ?_
  exact PySem.W.callWith_K0 (first := [.ref a]) I1.kIn hm.kp (run_fn (us := [.ref a]) (vs := [.ref a]) F hr hb hd hx I1 (.cons rfl .nil) q)
theorem run_make {pins : List (Addr × Obj)} {σ : L2.St} {H : Hp} {s : Shared} {Q : VK} {us : List Value} {vs : List V} (M : Mk X.K C f) (F : FnG X.prog X.w X.K X.mg X.base CX k f fd ps sp) (hr : RoomG (k + 1) X.A) (hb : Binds X.K fd ps ds) (hd : Vals dvs ds)
    (hx : Passes CX X E) (I : Inv X pins σ H s) (r : Vals vs us)
    (h : ∀ x dx, H x = none → H dx = none → dx ≠ x → sp (.ref x :: (vs ++ dvs)) (upd (upd H dx (.own x)) x (.ins C dx [])) (fun v H2 => v = .non ∧ Q (.ref x) H2) E) :
    wpAny (model X.prog X.w) X.A (call (.ref C) us) (EP X pins σ Q) X.xe s := by
  have hq := h (s.heap.objs.size + 1) s.heap.objs.size (I.hok.fresh (Nat.le_succ _)) (I.hok.fresh (Nat.le_refl _)) (Nat.ne_of_lt (Nat.lt_succ_self _))
  have I2 := Inv.made (C := C) I
  have r2 : Vals (V.ref (s.heap.objs.size + 1) :: (vs ++ dvs)) (Value.ref (s.heap.objs.size + 1) :: (us ++ ds)) := .cons rfl (r.append hd)
  have hl : (Value.ref (s.heap.objs.size + 1) :: us ++ ds).length = ps.length := by
    have e := r2.length
    rw [F.len _ _ _ _ hq] at e
    exact e.symm
  refine wpAny_call (make_map (f := f) I.kIn M.makes M.init (beq_iff_eq.mp M.fn) (codeAny_mono (F.run _ X.stack _ _ ⟨Value.ref (s.heap.objs.size + 1) :: us, []⟩ (Value.ref (s.heap.objs.size + 1) :: (us ++ ds)) _ _ E (hr.make C us [])
    (I2.env0.make C us []) (hb _ (Value.ref (s.heap.objs.size + 1) :: us) I2.kIn hl) r2 hq) fun r s' hq' => ?_))
  cases r with
  | error e => exact hx pins σ _ _ e s' I2 hq'
  | ok fl =>
    cases fl with
    | ret u =>
      obtain ⟨v, H', I3, rv, ev, q3⟩ := I2.after hq'
      subst ev
      exact ⟨rv, ⟨V.ref (s.heap.objs.size + 1), H', I3, rfl, q3⟩⟩
    | next => exact False.elim hq'
    | brk => exact False.elim hq'
    | cont => exact False.elim hq'
theorem pe_make (M : Mk X.K C f) (F : FnG X.prog X.w X.K X.mg X.base CX k f fd ps sp) (hr : RoomG (k + 1) X.A) (hg : Gl X x) (hm : X.mg x = some (.ref C)) (hb : Binds X.K fd ps ds) (hd : Vals dvs ds) (hx : Passes CX X E)
    (ha : PA X (e :: es) t) (hdb : (x == ("__debug__" : Str)) = false := by decide) (he : starEach (e :: es) X.env = (false, eval e X.env) :: starEach es X.env := by rfl) (hpl : (backTo pos (starEach es X.env)).any (·.1) = false := by rfl) :
    PE X (.Call (.Name x p) (e :: es) [] pos) (tMake C sp dvs E t) := by
  refine ⟨fun pins s σ H Q I h => ?_⟩
  refine wpAny_Call_Name_kw (ld_glob I hg hm ?_ hdb)
  refine PySem.W.callWith_K (h₀ := X.base) I.ok.mod.kin M.kp (thn (ha.run pos pins s σ H _ I h) fun us s1 ⟨vs, H1, I1, r, q⟩ => ⟨I1.kIn, ?_⟩) he hpl
  exact run_make M F hr hb hd hx I1 r q
theorem run_makeK {pins : List (Addr × Obj)} {σ : L2.St} {H : Hp} {s : Shared} {Q : VK} {us ws : List Value} {vs zs : List V} (M : Mk X.K C f) (F : FnG X.prog X.w X.K X.mg X.base CX k f fd ps sp) (hr : RoomG (k + 1) X.A) (hb : KBn X.K fd ps (n + 1) ks g gV) (hx : Passes CX X E)
    (I : Inv X pins σ H s) (r : Vals vs us) (rz : Vals zs ws) (l1 : vs.length = n) (l2 : zs.length = ks.length)
    (h : ∀ x dx, H x = none → H dx = none → dx ≠ x → sp (gV (.ref x :: vs) zs) (upd (upd H dx (.own x)) x (.ins C dx [])) (fun v H2 => v = .non ∧ Q (.ref x) H2) E) :
    wpAny (model X.prog X.w) X.A (call (.ref C) us (ks.zip ws)) (EP X pins σ Q) X.xe s := by
  have hq := h (s.heap.objs.size + 1) s.heap.objs.size (I.hok.fresh (Nat.le_succ _)) (I.hok.fresh (Nat.le_refl _)) (Nat.ne_of_lt (Nat.lt_succ_self _))
  have I2 := Inv.made (C := C) I
  have r1 : Vals (V.ref (s.heap.objs.size + 1) :: vs) (Value.ref (s.heap.objs.size + 1) :: us) := .cons rfl r
  have r2 := hb.rel r1 rz
  have n1 : (Value.ref (s.heap.objs.size + 1) :: us).length = n + 1 := by
    rw [List.length_cons, ← r.length, l1]
  refine wpAny_call (make_map (f := f) I.kIn M.makes M.init (beq_iff_eq.mp M.fn) (codeAny_mono (F.run _ X.stack _ _ ⟨Value.ref (s.heap.objs.size + 1) :: us, ks.zip ws⟩ (g (Value.ref (s.heap.objs.size + 1) :: us) ws) _ _ E (hr.make C us (ks.zip ws))
    (I2.env0.make C us (ks.zip ws)) (hb.to _ (Value.ref (s.heap.objs.size + 1) :: us) ws I2.kIn n1 (rz.length.symm.trans l2)) r2 hq) fun r s' hq' => ?_))
  cases r with
  | error e => exact hx pins σ _ _ e s' I2 hq'
  | ok fl =>
    cases fl with
    | ret u =>
      obtain ⟨v, H', I3, rv, ev, q3⟩ := I2.after hq'
      subst ev
      exact ⟨rv, ⟨V.ref (s.heap.objs.size + 1), H', I3, rfl, q3⟩⟩
    | next => exact False.elim hq'
    | brk => exact False.elim hq'
    | cont => exact False.elim hq'
/-- C(e, .., k = v, ..) -/
theorem pe_makeK (M : Mk X.K C f) (F : FnG X.prog X.w X.K X.mg X.base CX k f fd ps sp) (hr : RoomG (k + 1) X.A) (hg : Gl X x) (hm : X.mg x = some (.ref C)) (hb : KBn X.K fd ps (n + 1) ks g gV) (hx : Passes CX X E) (ha : PA X (e :: es) t) (hkw : PK X kws tk)
    (hall : (backToKw pos (keywordEach kws X.env)).all (·.1.isSome) = true := by rfl) (hks : (backToKw pos (keywordEach kws X.env)).filterMap (·.1) = ks := by rfl) (hdb : (x == ("__debug__" : Str)) = false := by decide)
    (he : starEach (e :: es) X.env = (false, eval e X.env) :: starEach es X.env := by rfl) (hpl : ((backTo pos (starEach (e :: es) X.env)).any (·.1) || (backToKw pos (keywordEach kws X.env)).any (·.1.isNone)) = false := by rfl) :
    PE X (.Call (.Name x p) (e :: es) kws pos) (tMakeK C n ks.length sp gV E t tk) := by
  refine ⟨fun pins s σ H Q I h => ?_⟩
  refine wpAny_Call_Name_kw (ld_glob I hg hm ?_ hdb)
  refine PySem.W.callWith_KW (h₀ := X.base) I.ok.mod.kin M.kp hall (thn (ha.run pos pins s σ H _ I h) fun us s1 ⟨vs, H1, I1, r, q⟩ => ?_) hpl he
  refine thn (hkw.run pos pins s1 σ H1 _ I1 q) fun ws s2 ⟨zs, H2, I2, rz, l1, l2, q2⟩ => ⟨I2.kIn, ?_⟩
  rw [hks]
  exact run_makeK M F hr hb hx I2 r rz l1 l2 q2
end
end DG
namespace DL
open PySem PySem.Spec PyProof.Rows L2
/-- where the own classes stand -/
class CT where
  at_ : Nat → Addr
def putD (f : Str) (x : D) : List (Str × D) → List (Str × D)
  | [] => [(f, x)]
  | (g, y) :: r => if g = f then (g, x) :: r else (g, y) :: putD f x r
section
variable {K : PySem.W.Frag} {I F H : Hp} {S : Store}
theorem RepF.look {f : Str} {d : D} : ∀ {fs : List (Str × D)} {vs : List (Str × V)}, RepF K I fs vs → fs.lookup f = some d → ∃ v, vs.lookup f = some v ∧ Rep K I d v
  | [], _, _, e => by simp at e
  | (g, x) :: r, vs, h, e => by
    simp only [RepF] at h
    obtain ⟨v, w, rfl, h1, h2⟩ := h
    rw [List.lookup_cons] at e ⊢
    cases q : (f == g) with
    | true =>
      rw [q] at e
      cases e
      exact ⟨v, rfl, h1⟩
    | false =>
      rw [q] at e
      exact RepF.look h2 e
theorem RepF.no {f : Str} : ∀ {fs : List (Str × D)} {vs : List (Str × V)}, RepF K I fs vs → fs.lookup f = none → vs.lookup f = none
  | [], _, h, _ => by
    simp only [RepF] at h
    subst h; rfl
  | (g, x) :: r, vs, h, e => by
    simp only [RepF] at h
    obtain ⟨v, w, rfl, h1, h2⟩ := h
    rw [List.lookup_cons] at e ⊢
    cases q : (f == g) with
    | true => rw [q] at e; cases e
    | false =>
      rw [q] at e
      exact RepF.no h2 e
theorem RepF.len : ∀ {fs : List (Str × D)} {vs : List (Str × V)}, RepF K I fs vs → vs.length = fs.length
  | [], _, h => by
    simp only [RepF] at h
    subst h; rfl
  | (g, x) :: r, vs, h => by
    simp only [RepF] at h
    obtain ⟨v, w, rfl, h1, h2⟩ := h
    simp [RepF.len h2]
theorem RepF.put {f : Str} {d : D} {v : V} (h' : Rep K I d v) : ∀ {fs : List (Str × D)} {vs : List (Str × V)}, RepF K I fs vs → RepF K I (putD f d fs) (putF f v vs)
  | [], _, h => by
    simp only [RepF] at h
    subst h
    simp only [putD, putF, RepF]
    exact ⟨v, [], rfl, h', rfl⟩
  | (g, x) :: r, vs, h => by
    simp only [RepF] at h
    obtain ⟨w, u, rfl, h1, h2⟩ := h
    show RepF K I (if g = f then (g, d) :: r else (g, x) :: putD f d r) (if g = f then (g, v) :: u else (g, w) :: putF f v u)
    by_cases q : g = f
    · rw [if_pos q, if_pos q]
      simp only [RepF]
      exact ⟨v, u, rfl, h', h2⟩
    · rw [if_neg q, if_neg q]
      simp only [RepF]
      exact ⟨w, _, rfl, h1, RepF.put h' h2⟩
theorem Ok.insAt (ok : Ok K I S F H) {p C : Addr} {fs : List (Str × D)} (e : S p = some (.ins C fs)) : ∃ dx vs, H p = some (.ins C dx vs) ∧ H dx = some (.own p) ∧ RepF K I fs vs := (ok.s p _ e).2
theorem Ok.putIns (ok : Ok K I S F H) {p C dx : Addr} {fs : List (Str × D)} {vs : List (Str × V)} {f : Str} {d : D} {v : V} (e : S p = some (.ins C fs)) (h1 : H p = some (.ins C dx vs)) (h2 : H dx = some (.own p)) (r : RepF K I fs vs) (r' : Rep K I d v) :
    Ok K I (supd S p (.ins C (putD f d fs))) F (upd H p (.ins C dx (putF f v vs))) := by
  have ne : dx ≠ p := fun z => by subst z; rw [h1] at h2; cases h2
  refine ok.write e (fun y z => by rw [h1] at z; cases z) ⟨dx, _, upd_same, by rw [upd_ne ne]; exact h2, r.put r'⟩
/-- a new instance -/
theorem Ok.newIns (h : Ok K I S F H) {p dx C : Addr} (n : H p = none) (n2 : H dx = none) (ne : dx ≠ p) : Ok K I (supd S p (.ins C [])) F (upd (upd H dx (.own p)) p (.ins C dx [])) := by
  have up : ∀ {a o}, H a = some o → (upd (upd H dx (.own p)) p (.ins C dx [])) a = some o := fun {a o} e => by
    rw [upd_ne (ne_of_none e n), upd_ne (ne_of_none e n2)]; exact e
  refine ⟨fun a x e => up (h.i a x e), fun a m e => ?_, fun a x e => ?_⟩
  · unfold supd at e
    by_cases q : a = p
    · subst q
      rw [if_pos rfl] at e; cases e
      exact ⟨h.freshI n, dx, [], upd_same, by rw [upd_ne ne, upd_same], by simp only [RepF]⟩
    · rw [if_neg q] at e
      obtain ⟨h1, h2⟩ := h.s a m e
      obtain ⟨o, h3, _⟩ := h2.there
      exact ⟨h1, h2.mono (Same.refl I) ((up h3).trans h3.symm) fun dy q2 => up q2⟩
  · obtain ⟨h1, h2, h3, h4⟩ := h.f a x e
    have ne2 : a ≠ p := ne_of_none h1 n
    exact ⟨up h1, h2, by unfold supd; rw [if_neg ne2]; exact h3, h4⟩
end
/-! ### o.f, o.f = e, o.f += e -/
def dFld [CT] (c : Nat) (f : Str) (a : DE) : DE := fun ρ S P => a ρ S fun x S1 => ∃ p fs d, x = .obj p ∧ S1 p = some (.ins (CT.at_ c) fs) ∧ fs.lookup f = some d ∧ P d S1
def dSetFld [CT] (c : Nat) (f : Str) (a v : DE) : DS := fun DD ρ S => v ρ S fun y S1 => a ρ S1 fun x S2 => ∃ p fs, x = .obj p ∧ S2 p = some (.ins (CT.at_ c) fs) ∧ fs.length < 900 ∧ DD.nx ρ (supd S2 p (.ins (CT.at_ c) (putD f y fs)))
/-- self.f += e of ints -/
def dFldAdd [CT] (c : Nat) (f : Str) (a v : DE) : DS := fun DD ρ S => a ρ S fun x S1 => ∃ p fs i, x = .obj p ∧ S1 p = some (.ins (CT.at_ c) fs) ∧ fs.lookup f = some (.int i) ∧ v ρ S1 fun y S2 => ∃ j fs', y = .int j ∧ S2 p = some (.ins (CT.at_ c) fs') ∧ fs'.length < 900 ∧
  DD.nx ρ (supd S2 p (.ins (CT.at_ c) (putD f (.int (i + j)) fs')))
section
variable [CT] {X : Cx} {o value : Expr} {c : Nat} {f : Str} {pos pos' tpos : Pos} {da dv : DE}
theorem up_fld (cl : Cls X.K (CT.at_ c)) (n : NoAttr X.K (CT.at_ c) f) : ∀ σ H Q, upE X.K (dFld c f da) σ H Q → tFld X.K (upE X.K da) f σ H Q := fun σ H Q ⟨ρ, I, S, F, P, rs, ok, h, q⟩ =>
  ⟨ρ, I, S, F, _, rs, ok, h, fun x S1 v I1 H1 ⟨p, fs, d, ex, es, el, h1⟩ e1 ok1 r1 => by
    subst ex
    obtain ⟨dx, vs, hp, _, rf⟩ := ok1.insAt es
    obtain ⟨u, hu, ru⟩ := rf.look el
    exact ⟨p, _, dx, vs, u, r1.obj_of, hp, cl, n, hu, q _ _ _ _ _ h1 e1 ok1 ru⟩⟩
theorem je_fld (cl : Cls X.K (CT.at_ c)) (n : NoAttr X.K (CT.at_ c) f) (he : JE X o da) (hb : attributeBase o f X.env (eval o X.env) = eval o X.env := by rfl) : JE X (.Attribute o f pos) (dFld c f da) :=
  je_of (pe_fld he hb) (up_fld cl n)
theorem js_fld (cl : Cls X.K (CT.at_ c)) (n : NoAttr X.K (CT.at_ c) f) (ha : JE X o da) (hv : JE X value dv) (hs : swapsWith value (some (.Attribute o f pos')) pos.line X.env = pure false := by rfl) :
    JS X (.Assign [.Attribute o f pos'] value pos) (dSetFld c f da dv) :=
  js_of (ps_fld ha hv hs) fun D σ H ⟨ρ, I, S, F, DD, rs, ok, h, q⟩ => ⟨ρ, I, S, F, _, rs, ok, h, fun y S1 v I1 H1 h1 e1 ok1 r1 => ⟨ρ, I1, S1, F, _, rs.mono e1, ok1, h1, fun x S2 w I2 H2 ⟨p, fs, ex, es, hl, h2⟩ e2 ok2 r2 => by
    subst ex
    obtain ⟨dx, vs, hp, hd, rf⟩ := ok2.insAt es
    refine ⟨p, _, dx, vs, r2.obj_of, hp, cl, n, by rw [rf.len]; omega, ?_⟩
    exact q.nx _ _ _ _ _ h2 (e1.trans e2) (ok2.putIns es hp hd rf (r1.mono e2)) (rs.mono (e1.trans e2))⟩⟩
theorem js_fldAdd (cl : Cls X.K (CT.at_ c)) (n : NoAttr X.K (CT.at_ c) f) (ha : JE X o da) (hv : JE X value dv) : JS X (.AugAssign (.Attribute o f tpos) .Add value pos) (dFldAdd c f da dv) :=
  js_of (ps_fldaug ha hv in_add) fun D σ H ⟨ρ, I, S, F, DD, rs, ok, h, q⟩ => ⟨ρ, I, S, F, _, rs, ok, h, fun x S1 v I1 H1 ⟨p, fs, i, ex, es, el, h1⟩ e1 ok1 r1 => by
    subst ex
    obtain ⟨dx, vs, hp, hd, rf⟩ := ok1.insAt es
    obtain ⟨u, hu, ru⟩ := rf.look el
    refine ⟨p, _, dx, vs, u, r1.obj_of, hp, cl, n, hu, ρ, I1, S1, F, _, rs.mono e1, ok1, h1, fun y S2 w I2 H2 ⟨j, fs', ey, es2, hl, h2⟩ e2 ok2 r2 => ?_⟩
    subst ey
    obtain ⟨dx2, vs2, hp2, hd2, rf2⟩ := ok2.insAt es2
    refine ⟨i, j, ru.int_of, r2.int_of, dx2, vs2, hp2, by rw [rf2.len]; omega, ?_⟩
    exact q.nx _ _ _ _ _ h2 (e1.trans e2) (ok2.putIns es2 hp2 hd2 rf2 rep_int) (rs.mono (e1.trans e2))⟩
end
/-! ### calls of methods, C(..) -/
def dMeth [CT] (c : Nat) (m : Str) (sp : DSp) (a : DE) (r : DA) : DE := fun ρ S P => a ρ S fun x S1 => ∃ p fs, x = .obj p ∧ S1 p = some (.ins (CT.at_ c) fs) ∧ fs.lookup m = none ∧ r ρ S1 fun xs S2 => sp (x :: xs) S2 P
def dMake [CT] (c : Nat) (sp : DSp) (r : DA) : DE := fun ρ S P => r ρ S fun xs S1 => ∀ p, S1 p = none → sp (.obj p :: xs) (supd S1 p (.ins (CT.at_ c) [])) fun y S2 => y = .non ∧ P (.obj p) S2
def dMakeK [CT] (c : Nat) (sp : DSp) (n m : Nat) (perm : List Nat) (r kw : DA) : DE := fun ρ S P => r ρ S fun xs S1 => kw ρ S1 fun ys S2 => xs.length = n ∧ ys.length = m ∧ ∀ p, S2 p = none →
  sp (pick perm (.obj p :: xs) ys) (supd S2 p (.ins (CT.at_ c) [])) fun y S3 => y = .non ∧ P (.obj p) S3
/-- the method m of the class c keeps its promise -/
structure DoesM [CT] (P : Program) (w : World) (K : PySem.W.Frag) (mg : Str → Option Value) (base : Heap) (k : Nat) (c : Nat) (m : Str) (ps : List Str) (f : Addr) (fd : FuncData) (sp : DSp) : Prop where
  cl : Cls K (CT.at_ c)
  mt : Meth K (CT.at_ c) m f
  b : Binds K fd ps []
  ok : FnD P w K mg base k f fd ps sp
/-- the class c is made by __init__, which keeps its promise -/
structure DoesI [CT] (P : Program) (w : World) (K : PySem.W.Frag) (mg : Str → Option Value) (base : Heap) (k : Nat) (c : Nat) (x : Str) (ps : List Str) (f : Addr) (fd : FuncData) (sp : DSp) : Prop where
  g : mg x = some (.ref (CT.at_ c))
  mks : Mk K (CT.at_ c) f
  ok : FnD P w K mg base k f fd ps sp
section
variable [CT] {X : Cx} {o a : Expr} {es : List Expr} {c : Nat} {m x : Str} {pos apos p : Pos} {da : DE} {ds dk : DA} {k j n l : Nat} {ps ks : List Str} {f : Addr} {fd : FuncData} {sp : DSp} {perm : List Nat} {kws : List Keyword}
theorem up_meth : ∀ σ H Q, upE X.K (dMeth c m sp da ds) σ H Q → tMeth (CT.at_ c) m (upSp X.K sp) [] E0 (upE X.K da) (upA X.K ds) σ H Q := fun σ H Q ⟨ρ, I, S, F, P, rs, ok, h, q⟩ =>
  ⟨ρ, I, S, F, _, rs, ok, h, fun x S1 v I1 H1 ⟨p, fs, ex, es, el, h1⟩ e1 ok1 r1 => by
    subst ex
    obtain ⟨dx, vs, hp, hd, rf⟩ := ok1.insAt es
    refine ⟨p, dx, vs, r1.obj_of, hp, rf.no el, ρ, I1, S1, F, _, rs.mono e1, ok1, h1, fun xs S2 ws I2 H2 h2 e2 ok2 r2 => ?_⟩
    show upSp X.K sp (v :: (ws ++ [])) H2 Q E0
    rw [List.append_nil]
    exact ⟨_, I2, S2, F, P, .cons (r1.mono e2) r2, ok2, h2, q.mono (e1.trans e2)⟩⟩
theorem je_m {pl : Sem Bool} (G : DoesM X.prog X.w X.K X.mg X.base k c m ps f fd sp) (hr : DG.RoomG j X.A) (he : JE X o da) (ha : JA X (a :: es) ds) (hk : k ≤ j := by decide)
    (hst : starEach (a :: es) X.env = (false, eval a X.env) :: starEach es X.env := by rfl) (hpl : (backTo pos (starEach es X.env)).any (·.1) = false := by rfl)
    (ht : eval (.Call (.Attribute o m apos) (a :: es) [] pos) X.env = (do
      let ov ← eval o X.env
      standAt apos.atName
      let (f, first) ← holding [ov] (getMethod ov m pl)
      callWith pos f first (backTo pos (starEach (a :: es) X.env)) (backToKw pos (keywordEach [] X.env))) := by rfl) :
    JE X (.Call (.Attribute o m apos) (a :: es) [] pos) (dMeth c m sp da ds) :=
  je_of (DG.pe_meth (pl := pl) he G.cl G.mt G.ok (hr.mono hk) G.b .nil pass0 ha hst hpl ht) up_meth
theorem je_m0 {pl : Sem Bool} (G : DoesM X.prog X.w X.K X.mg X.base k c m ps f fd sp) (hr : DG.RoomG j X.A) (he : JE X o da) (hk : k ≤ j := by decide)
    (ht : eval (.Call (.Attribute o m apos) [] [] pos) X.env = (do
      let ov ← eval o X.env
      standAt apos.atName
      let (f, first) ← holding [ov] (getMethod ov m pl)
      callWith pos f first (backTo pos (starEach [] X.env)) (backToKw pos (keywordEach [] X.env))) := by rfl) :
    JE X (.Call (.Attribute o m apos) [] [] pos) (dMeth c m sp da dNil) :=
  je_of (DG.pe_meth0 (pl := pl) he G.cl G.mt G.ok (hr.mono hk) G.b .nil pass0 ht) fun σ H Q ⟨ρ, I, S, F, P, rs, ok, h, q⟩ => ⟨ρ, I, S, F, _, rs, ok, h, fun x S1 v I1 H1 ⟨p, fs, ex, es, el, h1⟩ e1 ok1 r1 => by
    subst ex
    obtain ⟨dx, vs, hp, hd, rf⟩ := ok1.insAt es
    exact ⟨p, dx, vs, r1.obj_of, hp, rf.no el, _, I1, S1, F, P, .cons r1 RepL.nil, ok1, h1, q.mono e1⟩⟩
theorem sees_make {K : PySem.W.Frag} {I F : Hp} {P : D → Store → Prop} {Q : VK} {p : Addr} (q : Sees K I F P Q) : Sees K I F (fun y S2 => y = .non ∧ P (.obj p) S2) (fun v H2 => v = .non ∧ Q (.ref p) H2) := fun x S v I2 H2 ⟨ex, h⟩ e ok r => by
  subst ex
  exact ⟨r.non_of, q _ _ _ _ _ h e ok (by simp only [Rep])⟩
theorem je_make (G : DoesI X.prog X.w X.K X.mg X.base k c x ps f fd sp) (hr : DG.RoomG j X.A) (hb : Binds X.K fd ps []) (ha : JA X (a :: es) ds) (hk : k + 1 ≤ j := by decide) (hg : Gl X x := by rfl) (hdb : (x == ("__debug__" : Str)) = false := by decide)
    (he : starEach (a :: es) X.env = (false, eval a X.env) :: starEach es X.env := by rfl) (hpl : (backTo pos (starEach es X.env)).any (·.1) = false := by rfl) : JE X (.Call (.Name x p) (a :: es) [] pos) (dMake c sp ds) :=
  je_of (DG.pe_make G.mks G.ok (hr.mono hk) hg G.g hb .nil pass0 ha hdb he hpl) fun σ H Q ⟨ρ, I, S, F, P, rs, ok, h, q⟩ => ⟨ρ, I, S, F, _, rs, ok, h, fun xs S1 vs I1 H1 h1 e1 ok1 r1 x dx nx nd ne => by
    rw [List.append_nil]
    exact ⟨_, I1, _, F, _, .cons (by simp only [Rep]) r1, ok1.newIns nx nd ne, h1 x (ok1.freshS nx), sees_make (q.mono e1)⟩⟩
theorem je_makeK (G : DoesI X.prog X.w X.K X.mg X.base k c x ps f fd sp) (hr : DG.RoomG j X.A) (hb : KBn X.K fd ps (n + 1) ks (pick perm) (pick perm)) (ha : JA X (a :: es) ds) (hkw : JK X kws dk) (hl : ks.length = l := by rfl) (hk : k + 1 ≤ j := by decide) (hg : Gl X x := by rfl)
    (hall : (backToKw pos (keywordEach kws X.env)).all (·.1.isSome) = true := by rfl) (hks : (backToKw pos (keywordEach kws X.env)).filterMap (·.1) = ks := by rfl)
    (hdb : (x == ("__debug__" : Str)) = false := by decide) (he : starEach (a :: es) X.env = (false, eval a X.env) :: starEach es X.env := by rfl)
    (hpl : ((backTo pos (starEach (a :: es) X.env)).any (·.1) || (backToKw pos (keywordEach kws X.env)).any (·.1.isNone)) = false := by rfl) :
    JE X (.Call (.Name x p) (a :: es) kws pos) (dMakeK c sp n l perm ds dk) := hl ▸
  je_of (DG.pe_makeK G.mks G.ok (hr.mono hk) hg G.g hb pass0 ha hkw hall hks hdb he hpl) fun σ H Q ⟨ρ, I, S, F, P, rs, ok, h, q⟩ => ⟨ρ, I, S, F, _, rs, ok, h, fun xs S1 vs I1 H1 h1 e1 ok1 r1 => ⟨ρ, I1, S1, F, _, rs.mono e1, ok1, h1, fun ys S2 ws I2 H2 ⟨l1, l2, h2⟩ e2 ok2 r2 =>
    ⟨by rw [r1.len]; exact l1, by rw [r2.len]; exact l2, fun x dx nx nd ne =>
      ⟨_, I2, _, F, _, pick_rep (RepL.app (RepL.cons (by simp only [Rep]) (r1.mono e2)) r2) perm, ok2.newIns nx nd ne, h2 x (ok2.freshS nx), sees_make (q.mono (e1.trans e2))⟩⟩⟩⟩
end
/-- the def called x keeps its promise sp, called by keywords -/
structure DoesK (P : Program) (w : World) (K : PySem.W.Frag) (mg : Str → Option Value) (base : Heap) (k : Nat) (x : Str) (ps : List Str) (f : Addr) (fd : FuncData) (sp : DSp) : Prop where
  g : mg x = some (.ref f)
  kp : PySem.W.keepIn K (.ref f) = true
  ok : FnD P w K mg base k f fd ps sp
section
variable {X : Cx} {pos p : Pos} {a : Expr} {es : List Expr} {ds dk : DA} {k j n m : Nat} {x : Str} {ps ks : List Str} {f : Addr} {fd : FuncData} {sp : DSp} {perm : List Nat} {kws : List Keyword}
theorem je_gk (G : DoesK X.prog X.w X.K X.mg X.base k x ps f fd sp) (hr : DG.RoomG j X.A) (hb : KBn X.K fd ps n ks (pick perm) (pick perm)) (ha : JA X (a :: es) ds) (hkw : JK X kws dk) (hl : ks.length = m := by rfl) (hk : k ≤ j := by decide) (hg : Gl X x := by rfl)
    (hall : (backToKw pos (keywordEach kws X.env)).all (·.1.isSome) = true := by rfl) (hks : (backToKw pos (keywordEach kws X.env)).filterMap (·.1) = ks := by rfl)
    (hdb : (x == ("__debug__" : Str)) = false := by decide) (he : starEach (a :: es) X.env = (false, eval a X.env) :: starEach es X.env := by rfl)
    (hpl : ((backTo pos (starEach (a :: es) X.env)).any (·.1) || (backToKw pos (keywordEach kws X.env)).any (·.1.isNone)) = false := by rfl) :
    JE X (.Call (.Name x p) (a :: es) kws pos) (dCallK sp n m perm ds dk) := hl ▸ je_callK G.ok (hr.mono hk) hg G.g G.kp hb ha hkw hall hks hdb he hpl
theorem je_gk0 (G : DoesK X.prog X.w X.K X.mg X.base k x ps f fd sp) (hr : DG.RoomG j X.A) (hb : KBn X.K fd ps 0 ks (pick perm) (pick perm)) (hkw : JK X kws dk) (hl : ks.length = m := by rfl) (hk : k ≤ j := by decide) (hg : Gl X x := by rfl)
    (hall : (backToKw pos (keywordEach kws X.env)).all (·.1.isSome) = true := by rfl) (hks : (backToKw pos (keywordEach kws X.env)).filterMap (·.1) = ks := by rfl)
    (hdb : (x == ("__debug__" : Str)) = false := by decide)
    (hpl : ((backTo pos (starEach [] X.env)).any (·.1) || (backToKw pos (keywordEach kws X.env)).any (·.1.isNone)) = false := by rfl) :
    JE X (.Call (.Name x p) [] kws pos) (dCallK sp 0 m perm dNil dk) := hl ▸ je_callK0 G.ok (hr.mono hk) hg G.g G.kp hb hkw hall hks hdb hpl
end
/-! ### a, b = x, y where a, b are fields -/
/-- o.f as a target -/
def gFld (K : PySem.W.Frag) (ta : TE) (f : Str) : TG := fun v σ H Q => ta σ H fun x H2 => ∃ a C dx fs, x = .ref a ∧ H2 a = some (.ins C dx fs) ∧ Cls K C ∧ NoAttr K C f ∧ fs.length < 1000 ∧ Q σ (upd H2 a (.ins C dx (putF f v fs)))
theorem pg_fld {X : Cx} {o : Expr} {f : Str} {pos : Pos} {ta : TE} (ha : PE X o ta) : PG X (.Attribute o f pos) (gFld X.K ta f) := by
  refine ⟨fun pins s σ H v u Q I r h => ?_⟩
  rw [show assign (.Attribute o f pos) X.env u = (do
    let ov ← holding [u] (eval o X.env)
    standAt pos.atName
    holding [u, ov] (setAttr ov f u)
    release [u, ov] []) from rfl]
  refine wpAny_bind (wpAny_holding (thn (ha.run pins s σ H _ I h) fun ov s1 ⟨x, H1, I1, r1, a, C, dx, fs, ex, ea, c, n, l, q1⟩ => ?_))
  subst ex
  obtain rfl : ov = Value.ref a := r1
  refine wpAny_bind (wpAny_standAt (wpAny_bind (wpAny_holding (setattr_ok I1 ea c n l r fun s2 I2 => ?_))))
  exact wpAny_release ⟨σ, _, I2, q1⟩
/-- o.f, o.g = x, y -/
def dFld2 [CT] (c : Nat) (f g : Str) (i : Nat) (da db : DE) : DS := fun DD ρ S => da ρ S fun x S1 => db ρ S1 fun y S2 => ∃ p fs, ρ[i]? = some (some (.obj p)) ∧ S2 p = some (.ins (CT.at_ c) fs) ∧ fs.length < 900 ∧
  DD.nx ρ (supd S2 p (.ins (CT.at_ c) (putD g y (putD f x fs))))
theorem putD_len (f : Str) (x : D) : ∀ fs : List (Str × D), (putD f x fs).length ≤ fs.length + 1
  | [] => by simp [putD]
  | (g, y) :: r => by
    have := putD_len f x r
    show (if g = f then (g, x) :: r else (g, y) :: putD f x r).length ≤ _
    split <;> simp <;> omega
theorem supd_twice {S : Store} {a : Addr} {m m' : MO} : supd (supd S a m) a m' = supd S a m' := by
  funext b
  unfold supd
  split <;> rfl
section
variable [CT] {X : Cx} {a b : Expr} {c : Nat} {f g x y : Str} {pos p1 p2 p3 p4 pt pt2 : Pos} {da db : DE} {kt k2}
theorem js_fld2 (i : Nat) (cl : Cls X.K (CT.at_ c)) (n1 : NoAttr X.K (CT.at_ c) f) (n2 : NoAttr X.K (CT.at_ c) g) (h1 : PE X (.Name x p1) (tVar i)) (h2 : PE X (.Name y p3) (tVar i)) (hc : X.calm = true) (ha : JE X a da) (hb : JE X b db)
    (hst : starEach [a, b] X.env = (false, eval a X.env) :: starEach [b] X.env := by rfl) (hst2 : starEach [b] X.env = (false, eval b X.env) :: starEach [] X.env := by rfl)
    (ha1 : (assignEach [.Attribute (.Name x p1) f p2, .Attribute (.Name y p3) g p4] X.env).map (·.2) = assign (.Attribute (.Name x p1) f p2) X.env :: (assignEach [.Attribute (.Name y p3) g p4] X.env).map (·.2) := by rfl)
    (ha2 : (assignEach [.Attribute (.Name y p3) g p4] X.env).map (·.2) = assign (.Attribute (.Name y p3) g p4) X.env :: (assignEach [] X.env).map (·.2) := by rfl)
    (hn : (assignEach [.Attribute (.Name x p1) f p2, .Attribute (.Name y p3) g p4] X.env).length = 2 := by rfl) (hfi : (assignEach [.Attribute (.Name x p1) f p2, .Attribute (.Name y p3) g p4] X.env).findIdx? (·.1) = none := by rfl)
    (hs : swapsWithSole [.Tuple [.Attribute (.Name x p1) f p2, .Attribute (.Name y p3) g p4] kt pt] (.Tuple [a, b] k2 pt2) pos.line X.env = pure false := by rfl) (hw : swappedStores [.Tuple [.Attribute (.Name x p1) f p2, .Attribute (.Name y p3) g p4] kt pt] (.Tuple [a, b] k2 pt2) X.env = pure none := by rfl)
    (h0 : (assignEach [.Tuple [.Attribute (.Name x p1) f p2, .Attribute (.Name y p3) g p4] kt pt] X.env).map (·.2) = [assign (.Tuple [.Attribute (.Name x p1) f p2, .Attribute (.Name y p3) g p4] kt pt) X.env] := by rfl) :
    JS X (.Assign [.Tuple [.Attribute (.Name x p1) f p2, .Attribute (.Name y p3) g p4] kt pt] (.Tuple [a, b] k2 pt2) pos) (dFld2 c f g i da db) :=
  js_of (ps_asg (pe_tup (pa_cons ha (pa_cons hb pa_nil hst2) hst)) (pg_tup hc (pgs_cons (pg_fld h1) (pgs_cons (pg_fld h2) pgs_nil ha2) ha1) hn hfi) hs hw h0) fun D σ H ⟨ρ, I, S, F, DD, rs, ok, h, q⟩ =>
    ⟨ρ, I, S, F, _, rs, ok, h, fun x S1 v I1 H1 h1 e1 ok1 r1 => ⟨ρ, I1, S1, F, _, rs.mono e1, ok1, h1, fun y S2 w I2 H2 ⟨p, fs, ei, es, hl, h3⟩ e2 ok2 r2 => ⟨by show 2 ≤ sizeLine; decide, fun t ht => by
      have ok3 := ok2.newI (o := .tup [v, w]) ht
      have e3 : Same I2 (upd I2 t (.tup [v, w])) := same_new (ok2.freshI ht)
      refine ⟨t, [v, w], rfl, .inl (.inl upd_same), rfl, ?_⟩
      obtain ⟨dx, vs, hp, hd, rf⟩ := ok3.insAt es
      have ok4 := ok3.putIns (f := f) es hp hd rf ((r1.mono e2).mono e3)
      have rs3 := rs.mono ((e1.trans e2).trans e3)
      obtain ⟨u, hu, ru⟩ := rs3.2 i _ ei
      have es4 : (supd S2 p (.ins (CT.at_ c) (putD f x fs))) p = some (.ins (CT.at_ c) (putD f x fs)) := by unfold supd; rw [if_pos rfl]
      have l4 := putD_len f x fs
      obtain ⟨dx5, vs5, hp5, hd5, rf5⟩ := ok4.insAt es4
      have ok5 := ok4.putIns (f := g) es4 hp5 hd5 rf5 (r2.mono e3)
      rw [supd_twice] at ok5
      refine ⟨v, [w], rfl, u, hu, p, _, dx, vs, ru.obj_of, hp, cl, n1, by rw [rf.len]; omega, w, [], rfl, u, hu, p, _, dx5, vs5, ru.obj_of, hp5, cl, n2, by rw [rf5.len]; omega, rfl, ?_⟩
      exact q.nx _ _ _ _ _ h3 ((e1.trans e2).trans e3) ok5 rs3⟩⟩⟩
end
end DL

/-! min(xs, key=f) of ints, f a def of the module. -/
namespace DL
open PySem PySem.Spec PyProof.Rows L2
theorem walksX {prog : Program} {w : World} {A : Around} (hh : A.handled = none) (It l : Addr) (ne : l ≠ It) (xs : List V) :
    WalksS prog w A It [It, l] [It] (fun a b => b = a) xs.length (fun i v => ∃ x, xs[i]? = some x ∧ RelV x v) (fun i s' => s'.heap.IsListIter It l i ∧ ∃ vs : List Value, Vals xs vs ∧ s'.heap.IsList l vs.toArray) where
  sub := fun b hb => by simp at hb; simp [hb]
  grefl := fun _ => rfl
  gtrans := fun a b c h1 h2 => h2.trans h1
  frame := fun i s h' tk ⟨h1, vs, h2, h3⟩ _ hk => ⟨h1.at fun o e => hk It (by simp) o e, vs, h2, h3.at fun o e => hk l (by simp) o e⟩
  item := fun i s Q E hi ⟨h1, vs, h2, h3⟩ hQ => by
    refine (Walks.list (prog := prog) (w := w) (A := A) hh It l ne vs.toArray).toS.item i s Q E (by rw [List.size_toArray, ← h2.length]; exact hi) ⟨h1, h3⟩ fun v s' hv hs hm => ?_
    refine hQ v s' ?_ ⟨hs.1, vs, h2, hs.2⟩ hm
    have hv' : vs[i]? = some v := by simpa using hv
    obtain ⟨x, hx⟩ : ∃ x, xs[i]? = some x := ⟨_, List.getElem?_eq_getElem hi⟩
    obtain ⟨u, hu, r⟩ := h2.get hx
    rw [hv'] at hu; cases hu
    exact ⟨x, hx, r⟩
  done := fun s Q E ⟨h1, vs, h2, h3⟩ hQ => by
    refine (Walks.list (prog := prog) (w := w) (A := A) hh It l ne vs.toArray).toS.done s Q E ?_ hQ
    rw [List.size_toArray, ← h2.length]
    exact ⟨h1, h3⟩
  self := fun i s Q E ⟨h1, _⟩ hQ => wpAny_pyIter_listiter h1 hQ
theorem RoomG_in1 {k : Nat} {A : Around} (h : DG.RoomG (k + 1) A) : DG.RoomG k A.in1 :=
  ⟨⟨h.r.hd, by have := h.r.dp; show A.depth + 3 * k + 5 < _; omega, by have := h.r.un; show A.units + 1 + 16 * k + 200 < _; omega⟩, h.g⟩
/-- the list's ints, what f makes of each: any of the least may be told -/
def dMinKey (sp : DSp) (a : DE) : DE := fun ρ S P => a ρ S fun x S1 => ∃ (ns : List Int) (kf : Int → Int), lstOf S1 x = some (ns.map .int) ∧ ns ≠ [] ∧ (∀ i, i ∈ ns → ∀ (S' : Store) (Q : D → Store → Prop), S' = S1 → Q (.int (kf i)) S' → sp [.int i] S' Q) ∧
  ∀ m, m ∈ ns → (∀ i, i ∈ ns → kf m ≤ kf i) → P (.int m) S1
def rMinKey (K : PySem.W.Frag) (f : Addr) (sp : DSp) : List V → List V → Hp → VK → Prop := fun vs zs H Q => ∃ (x : D) (v : V) (I : Hp) (S : Store) (F : Hp) (P : D → Store → Prop) (ns : List Int) (kf : Int → Int), vs = [v] ∧ zs = [V.ref f] ∧ Ok K I S F H ∧ Rep K I x v ∧ lstOf S x = some (ns.map .int) ∧ ns ≠ [] ∧
  (∀ i : Int, i ∈ ns → ∀ (S' : Store) (Q : D → Store → Prop), S' = S → Q (.int (kf i)) S' → sp [.int i] S' Q) ∧ Sees K I F P Q ∧ ∀ m : Int, m ∈ ns → (∀ i, i ∈ ns → kf m ≤ kf i) → P (.int m) S
theorem repL_nums {K : PySem.W.Frag} {I : Hp} : ∀ {ns : List Int} {xs : List V}, RepL K I (ns.map .int) xs → xs = ns.map V.int
  | [], xs, h => by simpa only [List.map_nil, RepL] using h
  | n :: ns, xs, h => by
    simp only [List.map_cons, RepL] at h
    obtain ⟨v, r, rfl, h1, h2⟩ := h
    rw [h1.int_of, repL_nums h2]; rfl
theorem cr_minKey {X : Cx} {k : Nat} {y : Str} {ps : List Str} {f : Addr} {fd : FuncData} {sp : DSp} (hc : X.calm = true) (G : Does X.prog X.w X.K X.mg X.base k y ps f fd sp) (hr : DG.RoomG (k + 1) X.A) : CallRK X (.builtin "min") [Str.ofString "key"] (rMinKey X.K f sp) := by
  rintro pins s σ H xs zs us ws Q I r1 r2 ⟨x, v, I0, S, F, P, ns, kf, rfl, rfl, ok, rep, hl, hne, hsp, hq, fin⟩
  obtain ⟨l, xs, rfl, hsq, rl⟩ := lst_sq ok rep hl
  obtain rfl := repL_nums rl
  cases r1 with
  | cons ra rn =>
  cases rn
  cases r2 with
  | cons rb rn =>
  cases rn
  cases ra
  cases rb
  show wpAny (model X.prog X.w) X.A (call (.builtin "min") [.ref l] [(Str.ofString "key", .ref f)]) (EP X pins σ Q) X.xe s
  obtain ⟨its, rv, pl, hz⟩ := I.list hsq
  have hd := I.ok.hd hc
  have hlt : l < s.heap.objs.size := by obtain ⟨_, e, _⟩ := pl.isList; exact Heap.lt_size e
  refine call_min_walkK (wpAny_pyIter_list pl.isList ?_)
  let s2 : Shared := { s with heap := s.heap.push { cls := .type "list_iterator", data := .fields #[.ref l, .int 0 0] } }
  have hs2 : s2 = { s with heap := s.heap.push { cls := .type "list_iterator", data := .fields #[.ref l, .int 0 0] } } := rfl
  have I2 : Inv X pins σ H s2 := I.kept (t' := s.toks) fun b o e => Heap.get?_push_of_some _ e
  have sz2 : s2.heap.objs.size = s.heap.objs.size + 1 := Heap.size_push ..
  have neS : s2.heap.objs.size ≠ s.heap.objs.size := by omega
  refine ⟨s.heap.objs.size, _, _, _, _, _, _, fun s' => ∃ I' H', Same I0 I' ∧ Ok X.K I' S F H' ∧ Inv X pins σ H' s' ∧ (∀ b ∈ [s2.heap.objs.size, s.heap.objs.size], FpOk X pins H' b), fun i u _ => ∃ t, u = Value.int (kf (ns.getD i 0)) t, fun i j => decide (kf (ns.getD i 0) < kf (ns.getD j 0)), rfl,
    walksX (A := X.A.in1) hd s.heap.objs.size l (Nat.ne_of_lt hlt) (ns.map V.int), ⟨⟨_, Heap.get?_push_size _ rfl, rfl, rfl⟩, its, rv, pl.isList.push _⟩, ?_, ?_, ?_, ?_, ?_⟩
  · intro b hb
    refine Nat.lt_of_lt_of_eq ?_ sz2.symm
    rcases List.mem_cons.mp hb with rfl | hb
    · exact Nat.lt_succ_self _
    · rcases List.mem_cons.mp hb with rfl | hb
      · exact Nat.lt_succ_of_lt hlt
      · cases hb
  · rw [List.length_map]; exact List.length_pos_iff.mpr hne
  · refine ⟨?_, fun i u s1 s1' h _ => h, ?_, ?_⟩
    · rintro s1 s1' ⟨I', H', e1, ok1, J1, hf⟩ m
      obtain ⟨h1, g1, d1, t1, o1⟩ := s1
      obtain ⟨h2, g2, d2, t2, o2⟩ := s1'
      obtain rfl : g2 = g1 := m.gens
      obtain rfl : d2 = d1 := m.drawn
      obtain rfl : o2 = o1 := m.os
      exact ⟨I', H', e1, ok1, J1.turnedL (h' := h2) (t' := t2) (fun b o hb e => m.heap b o hb e) hf, hf⟩
    · rintro i u s1 o Q' E hi ⟨z, hz1, rz⟩ ⟨I', H', e1, ok1, J1, hf⟩ ⟨hit, vs, rvs, hlst⟩ hS hQ
      rw [List.length_map] at hi
      rw [List.getElem?_map, List.getElem?_eq_getElem hi] at hz1
      cases hz1
      have eg : ns.getD i 0 = ns[i] := by rw [List.getD_eq_getElem?_getD, List.getElem?_eq_getElem hi]; rfl
      obtain ⟨t, rfl⟩ := (show ∃ t, u = Value.int ns[i] t from rz)
      have fS := hf _ (List.mem_cons_self ..)
      have fI := hf _ (List.mem_cons_of_mem _ (List.mem_cons_self ..))
      have hspi : upSp X.K sp [V.int ns[i]] H' (fun w H2 => ∃ I2, Same I' I2 ∧ Ok X.K I2 S F H2 ∧ w = .int (kf ns[i])) E0 := by
        refine ⟨[.int ns[i]], I', S, F, fun w S2 => S2 = S ∧ w = .int (kf ns[i]), .one rep_int, ok1, hsp _ (List.getElem_mem hi) S _ rfl ⟨rfl, rfl⟩, ?_⟩
        rintro w S2 v2 I2 H2 ⟨rfl, rfl⟩ e2 ok2 rw2
        exact ⟨I2, e2, ok2, rw2.int_of⟩
      have hb := G.b s1 [.int ns[i] t] J1.kIn (by
        have := G.ok.len _ _ _ _ hspi
        rw [List.append_nil]
        exact this)
      rw [List.append_nil] at hb
      refine wpAny_call (codeAny_mono (G.ok.run X.A.in1 X.stack s1 H' ⟨[.int ns[i] t], []⟩ [.int ns[i] t] [V.int ns[i]] _ E0 (RoomG_in1 hr) J1.env0.in1 hb (.cons rz .nil) hspi) fun r s' hq' => ?_)
      cases r with
      | error e => exact hq'.elim
      | ok fl =>
        cases fl with
        | ret u' =>
          have hq2 := id hq'
          obtain ⟨w2, H2, os, bare, un, hok, rw2, I2', e2, ok2, ew⟩ := hq'
          subst ew
          obtain ⟨t2, rfl⟩ := (show ∃ t, u' = Value.int (kf ns[i]) t from rw2)
          have nfr : ∀ b, FpOk X pins H' b → b ∉ frs X.stack := fun b h z => (List.mem_cons.mp (J1.stkSub b z)).elim (fun q => h.2.1 q) fun q => h.2.2.1 q
          obtain ⟨oI, hoI, hoc, hod⟩ := hit
          have kS := un.keep _ o hS fS.1 (nfr _ fS) (by simp)
          have kI := un.keep _ oI hoI fI.1 (nfr _ fI) (by simp)
          have J2 : Inv X pins σ H2 s' := by
            obtain ⟨hh, g, d, t, os'⟩ := s'
            obtain rfl : os' = s1.os := os
            exact J1.call (h' := hh) (g' := g) (d' := d) (t' := t) (ch := []) un hok bare (fun b z => absurd z (by simp))
          have hf2 : ∀ b ∈ [s2.heap.objs.size, s.heap.objs.size], FpOk X pins H2 b := fun b hb => by
            have h0 := hf b hb
            rcases List.mem_cons.mp hb with rfl | hb
            · exact ⟨un.free _ o hS h0.1 (by simp), h0.2⟩
            · rcases List.mem_cons.mp hb with rfl | hb
              · exact ⟨un.free _ oI hoI h0.1 (by simp), h0.2⟩
              · cases hb
          have rep2 := (rep.mono (e1.trans e2) : Rep X.K I2' x (.ref l))
          obtain ⟨l', xs', el, hsq', rl'⟩ := lst_sq ok2 rep2 hl
          cases el
          obtain rfl := repL_nums rl'
          obtain ⟨its', rv', pl', _⟩ := J2.list hsq'
          refine hQ (.int (kf ns[i]) t2) s' ⟨I2', H2, e1.trans e2, ok2, J2, hf2⟩ ⟨⟨oI, kI, hoc, hod⟩, its', rv', pl'.isList⟩ kS ⟨t2, by rw [eg]⟩ fun j k' h => h
        | next => exact hq'.elim
        | brk => exact hq'.elim
        | cont => exact hq'.elim
    · rintro i j ki kj s1 Q' E _ hi hj q
      exact CmpOf.ints_lt (prog := X.prog) (w := X.w) (A := X.A.in1) (P := fun i v => ∃ t, v = Value.int (kf (ns.getD i 0)) t) (fun i => kf (ns.getD i 0)) (fun i v h => h) i j ki kj _ _ _ hi hj q
  · refine ⟨I0, H, Same.refl I0, ok, I2, fun b hb => ?_⟩
    rcases List.mem_cons.mp hb with rfl | hb
    · exact I2.fpOk (Nat.le_refl _) (I2.hok.fresh (Nat.le_refl _))
    · rcases List.mem_cons.mp hb with rfl | hb
      · exact I.fpOk (Nat.le_refl _) (I.hok.fresh (Nat.le_refl _))
      · cases hb
  · rintro v s' ⟨z, hz1, rz⟩ ⟨I', H', e1, ok1, J1, hf⟩
    rw [List.length_map] at hz1
    have ab := argBest_lt (fun i => kf (ns.getD i 0)) (ns.length - 1)
    have hpos : 0 < ns.length := List.length_pos_iff.mpr hne
    generalize argBest (fun i j => decide (kf (ns.getD i 0) < kf (ns.getD j 0))) (ns.length - 1) = m at *
    have hm : m < ns.length := by omega
    rw [List.getElem?_map, List.getElem?_eq_getElem hm] at hz1
    cases hz1
    have gd : ∀ j, ∀ h : j < ns.length, ns.getD j 0 = ns[j] := fun j h => by rw [List.getD_eq_getElem?_getD, List.getElem?_eq_getElem h]; rfl
    refine ⟨.int ns[m], H', J1, rz, hq _ _ _ _ _ (fin _ (List.getElem_mem hm) fun i hi => ?_) e1 ok1 rep_int⟩
    obtain ⟨j, hj, rfl⟩ := List.mem_iff_getElem.mp hi
    have := ab.2 j (by omega)
    rwa [gd j hj, gd m hm] at this
theorem je_minKey {X : Cx} {pos p np kp : Pos} {a : Expr} {da : DE} {k j : Nat} {y : Str} {ps : List Str} {f : Addr} {fd : FuncData} {sp : DSp} (hm : X.mg "min" = none) (G : Does X.prog X.w X.K X.mg X.base k y ps f fd sp) (hr : DG.RoomG j X.A) (ha : JE X a da) (hk : k + 1 ≤ j := by decide) (hc : X.calm = true := by rfl)
    (hg : Gl X "min" := by rfl) (hgy : Gl X y := by rfl) (hdy : (y == ("__debug__" : Str)) = false := by decide) (hst : starEach [a] X.env = (false, eval a X.env) :: starEach [] X.env := by rfl)
    (he : backTo pos (starEach [a] X.env) = (false, eval a X.env) :: backTo pos (starEach [] X.env) := by rfl) (hpl : (backTo pos (starEach [a] X.env)).any (·.1) = false := by rfl)
    (hall : (backToKw pos (keywordEach [⟨some "key", .Name y np, kp⟩] X.env)).all (·.1.isSome) = true := by rfl) (hnone : (backToKw pos (keywordEach [⟨some "key", .Name y np, kp⟩] X.env)).any (·.1.isNone) = false := by rfl) (hks : (backToKw pos (keywordEach [⟨some "key", .Name y np, kp⟩] X.env)).filterMap (·.1) = [Str.ofString "key"] := by rfl) :
    JE X (.Call (.Name "min" p) [a] [⟨some "key", .Name y np, kp⟩] pos) (dMinKey sp da) :=
  je_of (pe_callBK (cr_minKey hc G (hr.mono hk)) hg hm (by decide +kernel) (pa_cons ha pa_nil hst) (pk_cons (pe_glob (v := .ref f) hgy G.g rfl hdy) pk_nil) (by decide) (by decide) he hpl hall hnone hks) fun σ H Q ⟨ρ, I, S, F, P, rs, ok, h, q⟩ =>
    ⟨ρ, I, S, F, _, rs, ok, h, fun x S1 v I1 H1 ⟨ns, kf, h1, h2, h3, h4⟩ e1 ok1 r1 => ⟨x, v, I1, S1, F, P, ns, kf, rfl, rfl, ok1, r1, h1, h2, h3, q.mono e1, h4⟩⟩
end DL

namespace DL
open PySem PySem.Spec PyProof.Rows L2
/-! ### sorted of pairs of ints, also where a pair is one that the compiler has folded -/
def rSortedPT (K : PySem.W.Frag) : List V → Hp → VK → Prop := fun vs H Q => ∃ (a : Addr) (xs : List V) (ps : List (Int × Int)), vs = [V.ref a] ∧ SqL K H a xs ∧ xs.length = ps.length ∧ (∀ x p, (x, p) ∈ xs.zip ps → ∃ t, x = V.ref t ∧ SqT K H t [.int p.1, .int p.2]) ∧
  ∀ (zs : List (V × Int × Int)) (l : Addr), zs.Perm (xs.zip ps) → (zs.map (·.2)).Pairwise (fun a b : Int × Int => a.1 < b.1 ∨ (a.1 = b.1 ∧ a.2 ≤ b.2)) → H l = none → Q (.ref l) (upd H l (.lst (zs.map (·.1))))
section
variable {X : Cx}
open Classical in
theorem cr_sortedPT : CallR X (.builtin "sorted") (rSortedPT X.K) := by
  intro pins s σ H vs us Q I r h
  obtain ⟨a, xs, ps, rfl, hs, hlen, hx0, q⟩ := h
  obtain ⟨its, rv, hl, hz⟩ := I.list hs
  obtain ⟨u, rfl, ru⟩ := vals1 r
  obtain rfl : u = Value.ref a := ru
  obtain ⟨k, hk⟩ : ∃ k : V → Int × Int, ∀ x p, (x, p) ∈ xs.zip ps → k x = p := by
    refine ⟨fun v => if h : ∃ p : Int × Int, ∃ t, v = V.ref t ∧ SqT X.K H t [.int p.1, .int p.2] then h.choose else (0, 0), fun x p hm => ?_⟩
    have ex : ∃ p : Int × Int, ∃ t, x = V.ref t ∧ SqT X.K H t [.int p.1, .int p.2] := ⟨p, hx0 x p hm⟩
    show (if h : ∃ p : Int × Int, ∃ t, x = V.ref t ∧ SqT X.K H t [.int p.1, .int p.2] then h.choose else (0, 0)) = p
    rw [dif_pos ex]
    obtain ⟨t, e1, h1⟩ := ex.choose_spec
    obtain ⟨t', e2, h2⟩ := hx0 x p hm
    rw [e1] at e2
    cases e2
    have e3 := I.tuple_inj h1 h2
    have e4 : ex.choose.1 = p.1 ∧ ex.choose.2 = p.2 := by simpa using e3
    exact Prod.ext e4.1 e4.2
  have hzip : xs.map (fun x => (x, k x)) = xs.zip ps := by
    refine List.ext_getElem? fun i => ?_
    rw [List.getElem?_map]
    by_cases hi : i < xs.length
    · have hm : (xs[i], ps[i]) ∈ xs.zip ps := List.mem_iff_getElem?.mpr ⟨i, by rw [List.getElem?_zip_eq_some]; exact ⟨List.getElem?_eq_getElem hi, List.getElem?_eq_getElem (by omega)⟩⟩
      have e : (xs.zip ps)[i]? = some (xs[i], ps[i]) := by rw [List.getElem?_zip_eq_some]; exact ⟨List.getElem?_eq_getElem hi, List.getElem?_eq_getElem (by omega)⟩
      rw [e, List.getElem?_eq_getElem hi]
      show some (xs[i], k xs[i]) = _
      rw [hk _ _ hm]
    · rw [List.getElem?_eq_none (by omega), List.getElem?_eq_none (by rw [List.length_zip]; omega)]; rfl
  have hx : ∀ x ∈ xs, ∃ t, x = V.ref t ∧ SqT X.K H t [.int (k x).1, .int (k x).2] := fun x m => by
    have : (x, k x) ∈ xs.zip ps := by rw [← hzip]; exact List.mem_map.mpr ⟨x, m, rfl⟩
    exact hx0 x _ this
  obtain ⟨e1, e2⟩ := refs_back rv fun x m => by
    obtain ⟨t, e, _⟩ := hx x m
    exact ⟨t, e⟩
  refine SrtO.sorted_pairsO (k := fun u => k (backV u)) hl.isList (by rw [← rv.length]; exact hz) (fun v hv => ?_) fun h' d out h1 h2 kp hd hn => ?_
  · obtain ⟨t, rfl⟩ := e2 v hv
    have hm : V.ref t ∈ xs := by rw [e1]; exact List.mem_map.mpr ⟨_, hv, rfl⟩
    obtain ⟨t', e, ht⟩ := hx _ hm
    cases e
    obtain ⟨its2, r2, ist, _⟩ := I.tuple ht
    obtain ⟨u1, u2, rfl, ri, rj⟩ := vals2 r2
    obtain ⟨t1, rfl⟩ := ri
    obtain ⟨t2, rfl⟩ := rj
    obtain ⟨o, ho, hc, n, hd⟩ := ist
    exact ⟨t, o, t1, t2, n, rfl, ho, hc, hd⟩
  · have h3 : ∀ u ∈ out, ∃ a, u = Value.ref a := fun u hu => e2 u (h2.perm.mem_iff.mp hu)
    obtain ⟨n, hn⟩ := hn
    have hb : SrtO.Stb (ltP k) (out.map backV) xs := by
      rw [e1]
      exact SrtO.Stb.map (ltP_swo k) backV h2
    have hp : ((out.map backV).map fun y => (y, k y)).Perm (xs.zip ps) := by rw [← hzip]; exact hb.perm.map _
    have hq := q ((out.map backV).map fun y => (y, k y)) d hp (by
      have : SrtO.Srtd (ltP k) (out.map backV) := SrtO.srtd_map h1
      rw [List.map_map]
      refine List.pairwise_map.mpr (this.imp fun {x y} hxy => ?_)
      have := SrtO.lexB_no.mp hxy
      show (k x).1 < (k y).1 ∨ ((k x).1 = (k y).1 ∧ (k x).2 ≤ (k y).2)
      omega) (I.hok.fresh hd)
    rw [List.map_map, show ((fun z : V × Int × Int => z.1) ∘ fun y => (y, k y)) = id from rfl, List.map_id] at hq
    refine ⟨.ref d, upd H d (.lst (out.map backV)), I.laid (t' := s.toks) kp hd ⟨?_, out, n, vals_back h3, hn⟩, rfl, hq⟩
    rw [hb.len]
    exact hz
end
def prD (p : Int × Int) : D := .tup [.int p.1, .int p.2]
def dPairs : List D → Option (List (Int × Int))
  | [] => some []
  | .tup [.int a, .int b] :: ds => match dPairs ds with
    | some ps => some ((a, b) :: ps)
    | none => none
  | _ => none
theorem dPairs_map : ∀ ps : List (Int × Int), dPairs (ps.map prD) = some ps
  | [] => rfl
  | p :: ps => by
    rw [List.map_cons]
    show (match dPairs (ps.map prD) with | some qs => some ((p.1, p.2) :: qs) | none => none) = _
    rw [dPairs_map ps]
theorem dPairs_inv : ∀ {ds : List D} {ps : List (Int × Int)}, dPairs ds = some ps → ds = ps.map prD := by
  intro ds
  induction ds with
  | nil => intro ps h; cases h; rfl
  | cons d ds ih =>
    intro ps h
    unfold dPairs at h
    split at h
    · rename_i e; cases e
    · rename_i a b ds' e
      cases e
      split at h
      · rename_i qs e2
        cases h
        rw [ih e2]; rfl
      · cases h
    · cases h
/-- sorted(xs), xs pairs of ints: the same pairs, each no greater than the next -/
def cSortP : DC := fun xs S P => match xs with
  | [x] => match (lstOf S x).bind dPairs with
    | some ps => ∀ qs : List (Int × Int), qs.Perm ps → qs.Pairwise (fun a b => a.1 < b.1 ∨ (a.1 = b.1 ∧ a.2 ≤ b.2)) → P (.lst (qs.map prD)) S
    | none => False
  | _ => False
section
variable {K : PySem.W.Frag}
theorem repL_mapV {α : Type} {I : Hp} {f : α → D} {g : α → V} : ∀ {l : List α}, (∀ a, a ∈ l → Rep K I (f a) (g a)) → RepL K I (l.map f) (l.map g)
  | [], _ => rfl
  | a :: l, h => ⟨g a, l.map g, rfl, h a (List.mem_cons_self ..), repL_mapV fun b hb => h b (List.mem_cons_of_mem _ hb)⟩
theorem i_sortP : ImpC K (rSortedPT K) cSortP := by
  intro xs vs I S F H P Q ok r h q
  unfold cSortP at h
  split at h
  · split at h
    · rename_i x ps e
      obtain ⟨v, rfl, rv⟩ := r.inv1
      obtain ⟨ds, e1, e2⟩ := Option.bind_eq_some_iff.mp e
      obtain ⟨a, ws, rfl, hs, rl⟩ := lst_sq ok rv e1
      have ed := dPairs_inv e2
      subst ed
      have hlen : ws.length = ps.length := by have := rl.len; rw [List.length_map] at this; omega
      have rz : ∀ (ps : List (Int × Int)) (ws : List V), RepL K I (ps.map prD) ws → ∀ w p, (w, p) ∈ ws.zip ps → Rep K I (prD p) w := fun ps => by
        induction ps with
        | nil => intro ws _ w p hm; simp at hm
        | cons p0 ps ih =>
          rintro ws ⟨v, r, rfl, h1, h2⟩ w p hm
          rw [List.zip_cons_cons] at hm
          rcases List.mem_cons.mp hm with e | hm
          · cases e; exact h1
          · exact ih r h2 w p hm
      refine ⟨a, ws, ps, rfl, hs, hlen, fun w p hm => ?_, fun zs l hz1 hz2 hl => ?_⟩
      · obtain ⟨t, xs', e3, ht, r3⟩ := rz ps ws rl w p hm
        obtain ⟨v1, r1, rfl, hv1, v2, r2, rfl, hv2, hnil⟩ := r3
        subst hnil
        have : v1 = .int p.1 := hv1
        subst this
        have : v2 = .int p.2 := hv2
        subst this
        exact ⟨t, e3, sqT_same ok.i ht⟩
      · have hq : P (.lst ((zs.map (·.2)).map prD)) S := h (zs.map (·.2)) (by
          have := hz1.map (fun z : V × Int × Int => z.2)
          have e : (ws.zip ps).map (fun z : V × Int × Int => z.2) = ps := List.map_snd_zip (by omega)
          rw [e] at this
          exact this) hz2
        refine q _ _ _ _ _ hq (same_new (ok.freshI hl)) (ok.newI hl) (rep_new_lst (ok.freshI hl) ?_)
        rw [List.map_map]
        exact repL_mapV fun z hz => rz ps ws rl z.1 z.2 (hz1.mem_iff.mp hz)
    · exact h.elim
  · exact h.elim
end
section
variable {X : Cx} {pos p : Pos} {a : Expr} {ds : DA}
theorem b_sorted : bootBuiltins "sorted" = some (.builtin "sorted") := by decide +kernel
theorem je_sortP (hm : X.mg "sorted" = none) (ha : JA X [a] ds) (hc : X.calm = true := by rfl) (hg : Gl X "sorted" := by rfl) (hs : starEach [a] X.env = [(false, eval a X.env)] := by rfl) : JE X (.Call (.Name "sorted" p) [a] [] pos) (dCB cSortP ds) := je_callB cr_sortedPT i_sortP hg hm b_sorted ha (hs := hs) (hpl := by rfl)
end
end DL

/-! min of a list of pairs of ints. -/
namespace DL
open PySem PySem.Spec PyProof.Rows L2
def leP (p q : Int × Int) : Prop := p.1 < q.1 ∨ (p.1 = q.1 ∧ p.2 ≤ q.2)
theorem minOf_le : ∀ (xs : List (Int × Int)) (x : Int × Int), (∀ y, y ∈ x :: xs → leP (PySem.W.minOf x xs) y)
  | [], x, y, hy => by
    simp only [List.mem_singleton] at hy
    subst hy
    exact .inr ⟨rfl, Int.le_refl _⟩
  | z :: xs, x, y, hy => by
    have e : PySem.W.minOf x (z :: xs) = PySem.W.minOf (if PySem.W.DatumOrd.lt z x = true then z else x) xs := rfl
    have hlt : PySem.W.DatumOrd.lt z x = (if z.1 = x.1 then decide (z.2 < x.2) else decide (z.1 < x.1)) := rfl
    rw [e]
    have ih := minOf_le xs (if PySem.W.DatumOrd.lt z x = true then z else x)
    have h0 := ih _ (List.mem_cons_self ..)
    have tr : ∀ {a b c : Int × Int}, leP a b → leP b c → leP a c := fun {a b c} h1 h2 => by unfold leP at *; omega
    rcases List.mem_cons.mp hy with rfl | hy
    · refine tr h0 ?_
      split
      · rename_i h
        rw [hlt] at h
        unfold leP
        split at h <;> simp only [decide_eq_true_eq] at h <;> omega
      · exact .inr ⟨rfl, Int.le_refl _⟩
    · rcases List.mem_cons.mp hy with rfl | hy
      · refine tr h0 ?_
        split
        · exact .inr ⟨rfl, Int.le_refl _⟩
        · rename_i h
          rw [hlt] at h
          unfold leP
          split at h <;> simp only [decide_eq_true_eq] at h <;> omega
      · exact ih y (List.mem_cons_of_mem _ hy)
def rMinPT (K : PySem.W.Frag) : List V → Hp → VK → Prop := fun vs H Q => ∃ (a : Addr) (xs : List V) (ps : List (Int × Int)), vs = [V.ref a] ∧ SqL K H a xs ∧ xs.length = ps.length ∧ ps ≠ [] ∧ (∀ x p, (x, p) ∈ xs.zip ps → ∃ t, x = V.ref t ∧ SqT K H t [.int p.1, .int p.2]) ∧
  ∀ x p, (x, p) ∈ xs.zip ps → (∀ q, q ∈ ps → leP p q) → Q x H
section
variable {X : Cx}
theorem cr_minPT {k : Nat} (hr : DG.RoomG k X.A) (hc : X.calm = true) : CallR X (.builtin "min") (rMinPT X.K) := by
  intro pins s σ H vs us Q I r h
  obtain ⟨a, xs, ps, rfl, hs, hlen, hne, hx, q⟩ := h
  obtain ⟨its, rv, hl, hz⟩ := I.list hs
  obtain ⟨u, rfl, ru⟩ := vals1 r
  obtain rfl : u = Value.ref a := ru
  have hold : ∀ (xs : List V) (its : List Value) (ps : List (Int × Int)), Vals xs its → xs.length = ps.length → (∀ x p, (x, p) ∈ xs.zip ps → ∃ t, x = V.ref t ∧ SqT X.K H t [.int p.1, .int p.2]) → PySem.W.HoldAll s.heap its ps := by
    intro xs
    induction xs with
    | nil =>
      intro its ps rv hl _
      cases rv
      cases ps with
      | nil => exact PySem.W.HoldAll.nil
      | cons p ps => cases hl
    | cons x xs ih =>
      intro its ps rv hl hx
      cases ps with
      | nil => cases hl
      | cons p ps =>
        cases rv with
        | cons h1 h2 =>
        rename_i v vs
        refine PySem.W.HoldAll.cons ?_ (ih vs ps h2 (by simpa using hl) fun x p hm => hx x p (by rw [List.zip_cons_cons]; exact List.mem_cons_of_mem _ hm))
        obtain ⟨t, rfl, ht⟩ := hx x p (by rw [List.zip_cons_cons]; exact List.mem_cons_self ..)
        obtain rfl : v = Value.ref t := h1
        obtain ⟨its2, r2, ist, _⟩ := I.tuple ht
        obtain ⟨u1, u2, rfl, ri, rj⟩ := vals2 r2
        obtain ⟨t1, rfl⟩ := ri
        obtain ⟨t2, rfl⟩ := rj
        exact PySem.W.holds_pair ist (PySem.W.holds_int _ _) (PySem.W.holds_int _ _)
  have HA := hold xs its ps rv hlen hx
  cases ps with
  | nil => exact absurd rfl hne
  | cons p0 ps =>
  refine PySem.W.min_list_datum (α := Int × Int) (I.ok.hd hc) hl.isList (by simpa using HA) (by have := hr.r.units; show X.A.units + 1 + 1 < _; omega) fun i v h' tk hv hm kp => ?_
  have hv' : its[i]? = some v := by simpa using hv
  obtain ⟨p, hp, Hp⟩ := HA.at hv'
  have ep : p = PySem.W.minOf p0 ps := by
    obtain ⟨as, r1⟩ := Hp.keeps kp
    obtain ⟨bs, r2⟩ := hm
    have := PySem.SeqAt.Reads.unique _ _ v as bs rfl r1 r2
    have e1 : PyData.tuple [.int p.1, .int p.2] = PyData.tuple [.int (PySem.W.minOf p0 ps).1, .int (PySem.W.minOf p0 ps).2] := this
    injection e1 with e1
    injection e1 with e1 e2
    injection e2 with e2 _
    injection e1 with e1
    injection e2 with e2
    exact Prod.ext e1 e2
  obtain ⟨x, hxi, rx⟩ : ∃ x, xs[i]? = some x ∧ RelV x v := by
    obtain ⟨hi, _⟩ := List.getElem?_eq_some_iff.mp hp
    have hi' : i < xs.length := by omega
    obtain ⟨u, hu, ru⟩ := rv.get (List.getElem?_eq_getElem hi')
    rw [hv'] at hu; cases hu
    exact ⟨_, List.getElem?_eq_getElem hi', ru⟩
  refine ⟨x, H, I.kept (t' := tk) kp, rx, q x p (List.mem_iff_getElem?.mpr ⟨i, by rw [List.getElem?_zip_eq_some]; exact ⟨hxi, hp⟩⟩) fun z hz => ?_⟩
  rw [ep]
  exact minOf_le ps p0 z hz
end
/-- min(xs), xs pairs of ints, one at least: the pair that is no greater than any -/
def cMinP : DC := fun xs S P => match xs with
  | [x] => match (lstOf S x).bind dPairs with
    | some ps => ps ≠ [] ∧ ∀ p, p ∈ ps → (∀ q, q ∈ ps → leP p q) → P (prD p) S
    | none => False
  | _ => False
section
variable {K : PySem.W.Frag}
theorem i_minP : ImpC K (rMinPT K) cMinP := by
  intro xs vs I S F H P Q ok r h q
  unfold cMinP at h
  split at h
  · split at h
    · rename_i x ps e
      obtain ⟨v, rfl, rv⟩ := r.inv1
      obtain ⟨ds, e1, e2⟩ := Option.bind_eq_some_iff.mp e
      obtain ⟨a, ws, rfl, hs, rl⟩ := lst_sq ok rv e1
      have ed := dPairs_inv e2
      subst ed
      have hlen : ws.length = ps.length := by have := rl.len; rw [List.length_map] at this; omega
      have rz : ∀ (ps : List (Int × Int)) (ws : List V), RepL K I (ps.map prD) ws → ∀ w p, (w, p) ∈ ws.zip ps → Rep K I (prD p) w := fun ps => by
        induction ps with
        | nil => intro ws _ w p hm; simp at hm
        | cons p0 ps ih =>
          rintro ws ⟨v, r, rfl, h1, h2⟩ w p hm
          rw [List.zip_cons_cons] at hm
          rcases List.mem_cons.mp hm with e | hm
          · cases e; exact h1
          · exact ih r h2 w p hm
      refine ⟨a, ws, ps, rfl, hs, hlen, h.1, fun w p hm => ?_, fun w p hm hq => ?_⟩
      · obtain ⟨t, xs', e3, ht, r3⟩ := rz ps ws rl w p hm
        obtain ⟨v1, r1, rfl, hv1, v2, r2, rfl, hv2, hnil⟩ := r3
        subst hnil
        have : v1 = .int p.1 := hv1
        subst this
        have : v2 = .int p.2 := hv2
        subst this
        exact ⟨t, e3, sqT_same ok.i ht⟩
      · exact q _ _ _ _ _ (h.2 p (List.of_mem_zip hm).2 hq) (Same.refl I) ok (rz ps ws rl w p hm)
    · exact h.elim
  · exact h.elim
end
section
variable {X : Cx} {pos p : Pos} {a : Expr} {ds : DA}
theorem je_minP {k : Nat} (hr : DG.RoomG k X.A) (hm : X.mg "min" = none) (ha : JA X [a] ds) (hc : X.calm = true := by rfl) (hg : Gl X "min" := by rfl) (hs : starEach [a] X.env = [(false, eval a X.env)] := by rfl) : JE X (.Call (.Name "min" p) [a] [] pos) (dCB cMinP ds) := je_callB (cr_minPT hr hc) i_minP hg hm b_min ha (hs := hs) (hpl := by rfl)
end
end DL

/-! A list that has changed and changes no more, from a statement on. -/
namespace DL
open PySem PySem.Spec PyProof.Rows L2
/-- from here on the list in slot i changes no more -/
def dFrz (i : Nat) (t : DS) : DS := fun DD ρ S => ∃ p ds, ρ[i]? = some (some (.obj p)) ∧ S p = some (.lst ds) ∧ t DD (ρ.set i (some (.lst ds))) (sdel S p)
theorem jss_frz (i : Nat) {X : Cx} {sts : List Stmt} {t : DS} (h : JSs X sts t) : JSs X sts (dFrz i t) :=
  jss_of h fun D σ H ⟨ρ, I, S, F, DD, rs, ok, ⟨p, ds, e1, e2, h2⟩, q⟩ => by
    obtain ⟨xs, rl, i0, ok2⟩ := ok.freeze e2
    have sm := same_new (o := HO.lst xs) i0
    refine ⟨_, _, _, F, DD, ⟨by rw [List.length_set]; exact rs.1, fun j d hj => ?_⟩, ok2, h2, q.mono sm⟩
    by_cases c : i = j
    · subst c
      have hi := (List.getElem?_eq_some_iff.mp e1).1
      rw [List.getElem?_set_self hi] at hj
      cases hj
      obtain ⟨v, hv, rv⟩ := rs.2 i _ e1
      cases rv.obj_of
      exact ⟨_, hv, rep_new_lst i0 rl⟩
    · rw [List.getElem?_set_ne c] at hj
      obtain ⟨v, hv, rv⟩ := rs.2 j d hj
      exact ⟨v, hv, rv.mono sm⟩
end DL

/-! list(zip(a, b)): the pairs given out are held, each one a new tuple. -/
namespace DL
open PySem PySem.Spec PyProof.Rows L2 DZ
section
variable {prog : Program} {w : World} {A : Around} {E : Value → Shared → Prop} {s : Shared} {z TI TO i1 i2 T : Addr} {f : Bool} {oT : Obj} {fp1 fp2 : List Addr} {n1 n2 i : Nat} {P1 P2 : Nat → Value → Prop} {St1 St2 : Nat → Heap → Prop}
theorem zH_next_item {Q : Value → Shared → Prop} (S : ZipSep2 z TI TO i1 i2 fp1 fp2) (D1 : Draws prog w A i1 fp1 n1 P1 St1) (D2 : Draws prog w A i2 fp2 n2 P2 St2)
    (hz : IsZipHeld s.heap z TI TO T f) (hT : s.heap.get? T = some oT) (hTI : IsTupOf2 s.heap TI (.ref i1) (.ref i2)) (st1 : St1 i s.heap) (st2 : St2 i s.heap) (hlt1 : i < n1) (hlt2 : i < n2)
    (hQ : ∀ x1 x2 h' tk, P1 i x1 → P2 i x2 → IsZipHeld h' z TI TO T true → St1 (i + 1) h' → St2 (i + 1) h' → IsTupOf2 h' s.heap.objs.size x1 x2 → h'.objs.size = s.heap.objs.size + 1 →
      (∀ c o, c ≠ z → c ≠ i1 → c ≠ i2 → s.heap.get? c = some o → h'.get? c = some o) → Q (.ref s.heap.objs.size) { s with heap := h', toks := tk }) :
    wpAny (model prog w) A (Builtin.«zip.__next__» ⟨[.ref z], []⟩) (fun fin s' => ∃ v, fin = .done (.ret v) ∧ Q v s') E s := by
  obtain ⟨hp, g, d, tk0, os⟩ := s
  show wpAny _ _ (field (.ref z) 2 >>= _) _ _ _
  refine wpAny_bind (wpAny_field hz rfl (x := .bool false) rfl ?_)
  show wpAny _ _ (field (.ref z) 3 >>= _) _ _ _
  refine wpAny_bind (wpAny_field hz rfl (x := .ref TI) rfl ?_)
  refine wpAny_bind (wpAny_seqItems hTI rfl ?_)
  show wpAny _ _ (Builtin.SmallTypes.ownedTupleIsFree (.ref z) >>= _) _ _ _
  refine wpAny_bind (wpAny_tupleHeld_zip hz hT fun h₁ hz₁ hs₁ => ?_)
  replace hs₁ : Heap.SameBut z hp h₁ := hs₁
  simp only [Bool.false_eq_true, if_false]
  refine wpAny_bind ?_
  rw [← Array.forIn_toList]
  simp only [List.forIn_cons, List.forIn_nil]
  refine wpAny_bind (wpAny_bind (wpAny_holding ?_))
  show wpAny _ _ (Builtin.SmallTypes.nextOf (.ref i1) >>= _) _ _ ⟨h₁, g, d, tk0, os⟩
  refine wpAny_bind (D1.item i ⟨h₁, g, d, tk0, os⟩ _ _ hlt1 (D1.over st1 hs₁ S.zf1) fun x1 p1 tk1 hx1 sn1 hp1 => wpAny_pure ?_)
  replace hp1 : Heap.SameBut i1 h₁ p1 := hp1
  refine wpAny_pure ?_
  refine wpAny_bind (wpAny_bind (wpAny_holding ?_))
  show wpAny _ _ (Builtin.SmallTypes.nextOf (.ref i2) >>= _) _ _ ⟨p1, g, d, tk1, os⟩
  refine wpAny_bind (D2.item i ⟨p1, g, d, tk1, os⟩ _ _ hlt2 (D2.over (D2.over st2 hs₁ S.zf2) hp1 S.sep1_2) fun x2 p2 tk2 hx2 sn2 hp2 => wpAny_pure ?_)
  replace hp2 : Heap.SameBut i2 p1 p2 := hp2
  refine wpAny_pure (wpAny_pure ?_)
  show wpAny _ _ (newTuple [x1, x2] >>= _) _ _ _
  refine wpAny_bind (wpAny_newTuple ?_)
  have hsz : p2.objs.size = hp.objs.size := by rw [hp2.1, hp1.1, hs₁.1]
  have hz₃ : IsZipHeld p2 z TI TO T true := hp2.extBut _ _ S.zi2 (hp1.extBut _ _ S.zi1 hz₁)
  have hk : ∀ c o, c ≠ z → c ≠ i1 → c ≠ i2 → hp.get? c = some o → p2.get? c = some o := fun c o c1 c2 c3 e => hp2.extBut _ _ c3 (hp1.extBut _ _ c2 (hs₁.extBut _ _ c1 e))
  have hj1 : St1 (i + 1) p2 := D1.over sn1 hp2 S.sep2_1
  refine wpAny_pure ⟨_, rfl, ?_⟩
  show Q (.ref p2.objs.size) _
  have hT4 : IsTupOf2 (p2.push { cls := .type "tuple", data := .seq #[x1, x2] }) p2.objs.size x1 x2 := Heap.get?_push_size _ rfl
  have hz4 : (p2.push { cls := .type "tuple", data := .seq #[x1, x2] }).objs.size = p2.objs.size + 1 := Heap.size_push ..
  rw [hsz] at hT4 hz4 ⊢
  exact hQ x1 x2 _ tk2 hx1 hx2 (Heap.get?_push_of_some _ hz₃) (D1.frame _ _ _ hj1 fun b _ o e => Heap.get?_push_of_some _ e) (D2.frame _ _ _ sn2 fun b _ o e => Heap.get?_push_of_some _ e) hT4 hz4 fun c o c1 c2 c3 e => Heap.get?_push_of_some _ (hk c o c1 c2 c3 e)
theorem zH_next_end {Q : Fin → Shared → Prop} (S : ZipSep2 z TI TO i1 i2 fp1 fp2) (D1 : Draws prog w A i1 fp1 n1 P1 St1) (D2 : Draws prog w A i2 fp2 n2 P2 St2)
    (hz : IsZipHeld s.heap z TI TO T f) (hT : s.heap.get? T = some oT) (hTI : IsTupOf2 s.heap TI (.ref i1) (.ref i2)) (st1 : St1 i s.heap) (st2 : St2 i s.heap) (hle1 : i ≤ n1) (hle2 : i ≤ n2) (hend : i = n1 ∨ i = n2)
    (hE : ∀ h' tk e, (∀ c o, c ≠ z → c ≠ i1 → c ≠ i2 → s.heap.get? c = some o → h'.get? c = some o) → (∃ o, h'.get? e = some o ∧ o.cls = .type "StopIteration") → E (.ref e) { s with heap := h', toks := tk }) :
    wpAny (model prog w) A (Builtin.«zip.__next__» ⟨[.ref z], []⟩) Q E s := by
  obtain ⟨hp, g, d, tk0, os⟩ := s
  show wpAny _ _ (field (.ref z) 2 >>= _) _ _ _
  refine wpAny_bind (wpAny_field hz rfl (x := .bool false) rfl ?_)
  show wpAny _ _ (field (.ref z) 3 >>= _) _ _ _
  refine wpAny_bind (wpAny_field hz rfl (x := .ref TI) rfl ?_)
  refine wpAny_bind (wpAny_seqItems hTI rfl ?_)
  show wpAny _ _ (Builtin.SmallTypes.ownedTupleIsFree (.ref z) >>= _) _ _ _
  refine wpAny_bind (wpAny_tupleHeld_zip hz hT fun h₁ hz₁ hs₁ => ?_)
  replace hs₁ : Heap.SameBut z hp h₁ := hs₁
  simp only [Bool.false_eq_true, if_false]
  refine wpAny_bind ?_
  rw [← Array.forIn_toList]
  simp only [List.forIn_cons, List.forIn_nil]
  refine wpAny_bind (wpAny_bind (wpAny_holding ?_))
  show wpAny _ _ (Builtin.SmallTypes.nextOf (.ref i1) >>= _) _ _ ⟨h₁, g, d, tk0, os⟩
  by_cases hlt1 : i < n1
  · refine wpAny_bind (D1.item i ⟨h₁, g, d, tk0, os⟩ _ _ hlt1 (D1.over st1 hs₁ S.zf1) fun x1 p1 tk1 hx1 sn1 hp1 => wpAny_pure ?_)
    replace hp1 : Heap.SameBut i1 h₁ p1 := hp1
    refine wpAny_pure ?_
    have hi2 : i = n2 := by omega
    refine wpAny_bind (wpAny_bind (wpAny_holding ?_))
    show wpAny _ _ (Builtin.SmallTypes.nextOf (.ref i2) >>= _) _ _ ⟨p1, g, d, tk1, os⟩
    refine wpAny_bind (D2.done ⟨p1, g, d, tk1, os⟩ _ _ (by rw [← hi2]; exact D2.over (D2.over st2 hs₁ S.zf2) hp1 S.sep1_2) fun q e hq he => ?_)
    replace hq : Heap.ExtBut i2 p1 q := hq
    exact hE q tk1 e (fun c o c1 c2 c3 x => hq _ _ c3 (hp1.extBut _ _ c2 (hs₁.extBut _ _ c1 x))) he
  · have hi1 : i = n1 := by omega
    refine wpAny_bind (D1.done ⟨h₁, g, d, tk0, os⟩ _ _ (by rw [← hi1]; exact D1.over st1 hs₁ S.zf1) fun q e hq he => ?_)
    replace hq : Heap.ExtBut i1 h₁ q := hq
    exact hE q tk0 e (fun c o c1 c2 c3 x => hq _ _ c2 (hs₁.extBut _ _ c1 x)) he
theorem pyNext_zH_item {Q : Option Value → Shared → Prop} (S : ZipSep2 z TI TO i1 i2 fp1 fp2) (D1 : Draws prog w A.in1 i1 fp1 n1 P1 St1) (D2 : Draws prog w A.in1 i2 fp2 n2 P2 St2)
    (hz : IsZipHeld s.heap z TI TO T f) (hT : s.heap.get? T = some oT) (hTI : IsTupOf2 s.heap TI (.ref i1) (.ref i2)) (st1 : St1 i s.heap) (st2 : St2 i s.heap) (hlt1 : i < n1) (hlt2 : i < n2)
    (hQ : ∀ x1 x2 h' tk, P1 i x1 → P2 i x2 → IsZipHeld h' z TI TO T true → St1 (i + 1) h' → St2 (i + 1) h' → IsTupOf2 h' s.heap.objs.size x1 x2 → h'.objs.size = s.heap.objs.size + 1 →
      (∀ c o, c ≠ z → c ≠ i1 → c ≠ i2 → s.heap.get? c = some o → h'.get? c = some o) → Q (some (.ref s.heap.objs.size)) { s with heap := h', toks := tk }) :
    wpAny (model prog w) A (pyNext (.ref z)) Q E s := by
  have hTy : s.TypeIs (.ref z) "zip" := ⟨_, hz, rfl⟩
  unfold pyNext
  exact wpAny_bind (wpAny_attempt (wpAny_callSpecial?_slot (name := Str.ofString "__next__") hTy F.slot_zip_next
    (wpAny_call_entry F.slot_zip_next hTy F.entry_zip_next
      (zH_next_item S D1 D2 hz hT hTI st1 st2 hlt1 hlt2 fun x1 x2 h' tk y1 y2 b1 d1 d2 b5 b6 b7 => wpAny_pure (hQ x1 x2 h' tk y1 y2 b1 d1 d2 b5 b6 b7)) (F.args_zip_next_1 _))))
theorem pyNext_zH_end {Q : Option Value → Shared → Prop} (S : ZipSep2 z TI TO i1 i2 fp1 fp2) (D1 : Draws prog w A.in1 i1 fp1 n1 P1 St1) (D2 : Draws prog w A.in1 i2 fp2 n2 P2 St2)
    (hz : IsZipHeld s.heap z TI TO T f) (hT : s.heap.get? T = some oT) (hTI : IsTupOf2 s.heap TI (.ref i1) (.ref i2)) (st1 : St1 i s.heap) (st2 : St2 i s.heap) (hle1 : i ≤ n1) (hle2 : i ≤ n2) (hend : i = n1 ∨ i = n2)
    (hQ : ∀ h' tk, (∀ c o, c ≠ z → c ≠ i1 → c ≠ i2 → s.heap.get? c = some o → h'.get? c = some o) → Q none { s with heap := h', toks := tk }) : wpAny (model prog w) A (pyNext (.ref z)) Q E s := by
  have hTy : s.TypeIs (.ref z) "zip" := ⟨_, hz, rfl⟩
  unfold pyNext
  refine wpAny_bind (wpAny_attempt (wpAny_callSpecial?_slot (name := Str.ofString "__next__") hTy F.slot_zip_next
    (wpAny_call_entry F.slot_zip_next hTy F.entry_zip_next (zH_next_end S D1 D2 hz hT hTI st1 st2 hle1 hle2 hend fun h' tk e hk he => ?_) (F.args_zip_next_1 _))))
  obtain ⟨o, ho, hc⟩ := he
  refine wpAny_bind (wpAny_isInstance (T := "StopIteration") (b := true) ⟨o, ho, hc⟩ isSubtype_stop ?_)
  exact wpAny_pure (hQ _ _ hk)
end
theorem zip_no_len : typeLookup (.type "zip") "__len__" = pure none := by rw [typeLookup_type, builtinLookup_eq_fast]; kernel_rfl
theorem zip_no_hint : typeLookup (.type "zip") "__length_hint__" = pure none := by rw [typeLookup_type, builtinLookup_eq_fast]; kernel_rfl
/-- the zip at a turn: nothing given out yet, or a pair that is held -/
structure ZH (b1 b2 : Bool) (h : Heap) (z TI TO i1 i2 a b : Addr) (its its2 : Array Value) (i : Nat) (S : Addr) : Prop where
  ti : IsTupOf2 h TI (.ref i1) (.ref i2)
  to : ∃ o, h.get? TO = some o
  t1 : IterAt b1 h i1 a i
  t2 : IterAt b2 h i2 b i
  s1 : SrcAt b1 h a its
  s2 : SrcAt b2 h b its2
  zz : (IsZip h z TI TO .none ∧ ∃ x y, IsTupOf2 h TO x y) ∨ ∃ T f oT, IsZipHeld h z TI TO T f ∧ h.get? T = some oT ∧ T ≠ z ∧ T ≠ i1 ∧ T ≠ i2 ∧ T ≠ S
theorem SrcAt.at {b : Bool} {h h' : Heap} {a : Addr} {its : Array Value} (e : SrcAt b h a its) (k : ∀ o, h.get? a = some o → h'.get? a = some o) : SrcAt b h' a its := by
  cases b
  · exact Heap.IsList.at e k
  · exact Heap.IsTuple.at e k
section
variable {X : Cx} {z TI TO i1 i2 a b S : Addr} {b1 b2 : Bool} {its its2 : List Value} {xs ys : List V}
/-- the pairs so far -/
def PairsAt (H0 H : Hp) (vs : List V) (xs ys : List V) : Prop := ∀ (j : Nat) (v : V), vs[j]? = some v → ∃ (T : Addr) (x y : V), v = V.ref T ∧ xs[j]? = some x ∧ ys[j]? = some y ∧ H T = some (.tup [x, y]) ∧ H0 T = none
theorem zl_loop {A : Around} (hh : A.in1.in1.handled = none) (D : ZipApart z TI TO i1 i2 a b) (rv : Vals xs its) (rv2 : Vals ys its2) (hSz : S ≠ z) (hSTI : S ≠ TI) (hSTO : S ≠ TO) (hS1 : S ≠ i1) (hS2 : S ≠ i2) (hSa : S ≠ a) (hSb : S ≠ b) {pins : List (Addr × Obj)} {σ : L2.St} {H0 : Hp} {res : Value} {R : Result → Shared → Prop} (hn : min xs.length ys.length ≤ 100000)
    (fin : ∀ s' H' vs', Inv X pins σ H' s' → H' S = some (.lst vs') → vs'.length = min xs.length ys.length → PairsAt H0 H' vs' xs ys → (∀ c o, H0 c = some o → H' c = some o) → R (.ok (.ret res)) s') :
    ∀ (k i : Nat) (s : Shared) (H : Hp) (vs : List V), min xs.length ys.length - i = k → i ≤ min xs.length ys.length → Inv X pins σ H s → (∀ c ∈ [z, TI, TO, i1, i2], FpOk X pins H c) → ZH b1 b2 s.heap z TI TO i1 i2 a b its.toArray its2.toArray i S →
    H S = some (.lst vs) → vs.length = i → PairsAt H0 H vs xs ys → (∀ c o, H0 c = some o → H c = some o) → H0 S = none → codeAny (model X.prog X.w) A (.builtin "list.extend.loop" ⟨[.ref S, .ref z, res], []⟩) R s := by
  have D1 := draws_src (prog := X.prog) (w := X.w) (A := A.in1.in1) hh b1 i1 a D.l1i1 its.toArray
  have D2 := draws_src (prog := X.prog) (w := X.w) (A := A.in1.in1) hh b2 i2 b D.l2i2 its2.toArray
  have l1 := rv.length
  have l2 := rv2.length
  intro k
  induction k with
  | zero =>
    intro i s H vs hk hi I hf st hS hl hp h0 hS0
    have hin : i = min xs.length ys.length := by omega
    refine codeAny_builtin F.entry_extend_loop ?_
    rw [Around.under_plainId F.plain_extend_loop _]
    show wpAny _ A.in1 (pyNext (.ref z) >>= _) _ _ s
    have done : ∀ h' tk, (∀ c o, c ≠ z → c ≠ TO → c ≠ i1 → c ≠ i2 → s.heap.get? c = some o → h'.get? c = some o) → R (.ok (.ret res)) { s with heap := h', toks := tk } := fun h' tk hk =>
      fin _ H vs (I.turnedL (t' := tk) (ch := [z, TI, TO, i1, i2]) (fun c o hb q => hk c o (fun q' => hb (by simp [q'])) (fun q' => hb (by simp [q'])) (fun q' => hb (by simp [q'])) (fun q' => hb (by simp [q'])) q) hf) hS (by omega) hp h0
    refine wpAny_bind ?_
    rcases st.zz with ⟨hz, x, y, hTO⟩ | ⟨T, f, oT, hz, hT, _⟩
    · exact wpAny_pyNext_zipD2_end (zipSep D) D1 D2 hz st.ti hTO ⟨st.t1, st.s1⟩ ⟨st.t2, st.s2⟩ (by simp; omega) (by simp; omega) (by simp; omega) fun h' tk hk => wpAny_pure (done h' tk hk)
    · exact pyNext_zH_end (zipSep D) D1 D2 hz hT st.ti ⟨st.t1, st.s1⟩ ⟨st.t2, st.s2⟩ (by simp; omega) (by simp; omega) (by simp; omega) fun h' tk hk => wpAny_pure (done h' tk fun c o c1 c2 c3 c4 => hk c o c1 c3 c4)
  | succ k ih =>
    intro i s H vs hk hi I hf st hS hl hp h0 hS0
    have hx : i < xs.length := by omega
    have hy : i < ys.length := by omega
    obtain ⟨u, hu, ru⟩ := rv.get (List.getElem?_eq_getElem hx)
    obtain ⟨u2, hu2, ru2⟩ := rv2.get (List.getElem?_eq_getElem hy)
    have lt : ∀ {c : Addr} {o : Obj}, s.heap.get? c = some o → s.heap.objs.size ≠ c := fun e => Nat.ne_of_gt (Heap.lt_size e)
    obtain ⟨_, e1⟩ := st.t1.live
    obtain ⟨_, e2⟩ := st.t2.live
    obtain ⟨_, itsS, nS, _, eS⟩ := I.hok S _ hS
    -- what comes next
    have next : ∀ (w1 w2 : Value) (h' : Heap) (tk : Nat), its.toArray[i]? = some w1 → its2.toArray[i]? = some w2 → (∃ T f oT, IsZipHeld h' z TI TO T f ∧ h'.get? T = some oT ∧ T ≠ z ∧ T ≠ i1 ∧ T ≠ i2 ∧ T ≠ S) → (∃ o, h'.get? TO = some o) → IterAt b1 h' i1 a (i + 1) → IterAt b2 h' i2 b (i + 1) → SrcAt b1 h' a its.toArray → SrcAt b2 h' b its2.toArray → IsTupOf2 h' s.heap.objs.size w1 w2 →
        (∀ c o, c ≠ z → c ≠ TO → c ≠ i1 → c ≠ i2 → s.heap.get? c = some o → h'.get? c = some o) →
        wpAny (model X.prog X.w) A.in1 (updateSeq S (·.push (Value.ref s.heap.objs.size)) >>= fun _ => again (.builtin "list.extend.loop" ⟨[.ref S, .ref z, res], []⟩)) (fun fin s' => match fin with | .done f => R (.ok f) s' | .again c' => c'.quiet = true ∧ codeAny (model X.prog X.w) A c' R s') (fun e s' => R (.error e) s') { s with heap := h', toks := tk } := fun w1 w2 h' tk q1 q2 hz' to' t1' t2' s1' s2' hT hk => by
      have ew1 : u = w1 := by rw [List.getElem?_toArray, hu] at q1; exact Option.some.inj q1
      have ew2 : u2 = w2 := by rw [List.getElem?_toArray, hu2] at q2; exact Option.some.inj q2
      subst ew1 ew2
      have new : ObjOk X.prog X.w (upd H s.heap.objs.size (.tup [xs[i], ys[i]])) h' s.heap.objs.size (.tup [xs[i], ys[i]]) :=
        ⟨by show 2 ≤ sizeLine; decide, [u, u2], .cons ru (.cons ru2 .nil), ⟨_, hT, rfl, _, rfl⟩⟩
      have I1 : Inv X pins σ (upd H s.heap.objs.size (.tup [xs[i], ys[i]])) { s with heap := h', toks := tk } :=
        I.turnedNew (t' := tk) (ch := [z, TI, TO, i1, i2]) (fun c o hb q => hk c o (fun q' => hb (by simp [q'])) (fun q' => hb (by simp [q'])) (fun q' => hb (by simp [q'])) (fun q' => hb (by simp [q'])) q) hf (Nat.le_refl _) new
      have nT : H s.heap.objs.size = none := I.hok.fresh (Nat.le_refl _)
      have up1 : ∀ c o, H c = some o → upd H s.heap.objs.size (.tup [xs[i], ys[i]]) c = some o := fun c o e => by
        rw [upd_ne (fun z => by rw [z, nT] at e; cases e)]; exact e
      have hS9 := up1 S _ hS
      obtain ⟨_, itsS', nS', rS, eS'⟩ := I1.hok S _ hS9
      have h3 : (100001 : Nat) ≤ sizeLine := by decide
      have hsl : (vs ++ [V.ref s.heap.objs.size]).length ≤ sizeLine := by rw [List.length_append, List.length_singleton]; omega
      have I2 := I1.lset (its' := itsS' ++ [Value.ref s.heap.objs.size]) (ys := vs ++ [V.ref s.heap.objs.size]) (f := (·.push (Value.ref s.heap.objs.size))) (t' := tk) hS9 eS' (by simp) (rS.append (.cons (show RelV (V.ref s.heap.objs.size) (Value.ref s.heap.objs.size) from rfl) .nil)) hsl
      refine wpAny_bind ?_
      have oth : ∀ c o, c ≠ S → h'.get? c = some o → (h'.update S (Obj.mapSeq (·.push (Value.ref s.heap.objs.size)))).get? c = some o := fun c o hc e => (Heap.get?_update_other _ _ (Ne.symm hc)).trans e
      have nS2 : S ≠ s.heap.objs.size := fun z => by rw [z, nT] at hS; cases hS
      have upS : ∀ c o, c ≠ S → H c = some o → upd (upd H s.heap.objs.size (.tup [xs[i], ys[i]])) S (.lst (vs ++ [V.ref s.heap.objs.size])) c = some o := fun c o hc e => by rw [upd_ne hc]; exact up1 c o e
      refine wpAny_updateSeq eS' rfl (wpAny_pure ⟨plainId_quiet F.plain_extend_loop _, ih (i + 1) _ _ _ (by omega) (by omega) I2 (fun c hc => ?_) ⟨?_, ?_, ?_, ?_, ?_, ?_, ?_⟩ upd_same (by rw [List.length_append, hl]; rfl) (fun j v hj => ?_) (fun c o e => ?_) hS0⟩) ?_ ?_
      · have hf' := hf c hc
        have hcS : c ≠ S := fun z => by have h9 := hf'.1; rw [z, hS] at h9; cases h9
        have hcs : c ≠ s.heap.objs.size := by
          have hcm : c = z ∨ c = TI ∨ c = TO ∨ c = i1 ∨ c = i2 := by simpa using hc
          rcases hcm with q | q | q | q | q
          · rw [q]; rcases st.zz with ⟨hz, _⟩ | ⟨_, _, _, hz, _⟩ <;> exact (lt hz).symm
          · rw [q]; exact (lt st.ti).symm
          · rw [q]; obtain ⟨_, eTO⟩ := st.to; exact (lt eTO).symm
          · rw [q]; exact (lt e1).symm
          · rw [q]; exact (lt e2).symm
        exact ⟨by rw [upd_ne hcS, upd_ne hcs]; exact hf'.1, hf'.2⟩
      · exact oth _ _ hSTI.symm (hk _ _ D.TIz D.TITO D.TIi1 D.TIi2 st.ti)
      · obtain ⟨o, e⟩ := to'; exact ⟨o, oth _ _ hSTO.symm e⟩
      · exact t1'.at fun o e => oth _ _ hS1.symm e
      · exact t2'.at fun o e => oth _ _ hS2.symm e
      · exact s1'.at fun o e => oth _ _ hSa.symm e
      · exact s2'.at fun o e => oth _ _ hSb.symm e
      · obtain ⟨T, f, oT, c1, c2, c3, c4, c5, c6⟩ := hz'
        exact .inr ⟨T, f, oT, oth _ _ hSz.symm c1, oth _ _ c6 c2, c3, c4, c5, c6⟩
      · by_cases c : j < vs.length
        · rw [List.getElem?_append_left c] at hj
          obtain ⟨T, x, y, e1, e2, e3, e4, e5⟩ := hp j v hj
          exact ⟨T, x, y, e1, e2, e3, upS _ _ (fun z => by rw [z, hS] at e4; cases e4) e4, e5⟩
        · rw [List.getElem?_append_right (by omega)] at hj
          have hj2 : j = vs.length := by
            have := (List.getElem?_eq_some_iff.mp hj).1
            simp at this
            omega
          subst hj2
          simp at hj
          refine ⟨s.heap.objs.size, xs[i], ys[i], hj.symm, by rw [hl]; exact List.getElem?_eq_getElem hx, by rw [hl]; exact List.getElem?_eq_getElem hy, ?_⟩
          refine ⟨by rw [upd_ne (Ne.symm nS2)]; exact upd_same, ?_⟩
          cases h9 : H0 s.heap.objs.size with
          | none => rfl
          | some o => have := h0 _ _ h9; rw [nT] at this; cases this
      · exact upS c o (fun z => by rw [z, hS0] at e; cases e) (h0 c o e)
      · have := rS.length
        simp
        omega
      · have := rS.length
        simp
        omega
    refine codeAny_builtin F.entry_extend_loop ?_
    rw [Around.under_plainId F.plain_extend_loop _]
    show wpAny _ A.in1 (pyNext (.ref z) >>= _) _ _ s
    refine wpAny_bind ?_
    rcases st.zz with ⟨hz, x, y, hTO⟩ | ⟨T, f, oT, hz, hT, n1, n2, n3, n4⟩
    · refine wpAny_pyNext_zipD2_item (zipSep D) D1 D2 hz st.ti hTO ⟨st.t1, st.s1⟩ ⟨st.t2, st.s2⟩ (by simp; omega) (by simp; omega) fun x1 x2 h' tk q1 q2 z' TO' h1' h2' hT hsz hk => ?_
      exact next x1 x2 h' tk q1 q2 ⟨_, false, _, z', hT, lt hz, lt e1, lt e2, lt eS⟩ ⟨_, TO'⟩ h1'.1 h2'.1 h1'.2 h2'.2 hT hk
    · refine pyNext_zH_item (zipSep D) D1 D2 hz hT st.ti ⟨st.t1, st.s1⟩ ⟨st.t2, st.s2⟩ (by simp; omega) (by simp; omega) fun x1 x2 h' tk q1 q2 z' h1' h2' hT' hsz hk => ?_
      obtain ⟨oTO, eTO⟩ := st.to
      exact next x1 x2 h' tk q1 q2 ⟨T, true, oT, z', hk _ _ n1 n2 n3 hT, n1, n2, n3, n4⟩ ⟨oTO, hk _ _ D.TOz D.TOi1 D.TOi2 eTO⟩ h1'.1 h2'.1 h1'.2 h2'.2 hT' fun c o c1 c2 c3 c4 => hk c o c1 c3 c4
theorem call_list_zip {pins : List (Addr × Obj)} {σ : L2.St} {H : Hp} {s : Shared} {Q : Value → Shared → Prop} (hc : X.calm = true) (I : Inv X pins σ H s) (D : ZipApart z TI TO i1 i2 a b) (rv : Vals xs its) (rv2 : Vals ys its2) (hf : ∀ c ∈ [z, TI, TO, i1, i2], FpOk X pins H c)
    (zh : ZH b1 b2 s.heap z TI TO i1 i2 a b its.toArray its2.toArray 0 s.heap.objs.size) (la : a < s.heap.objs.size) (lb : b < s.heap.objs.size) (hn : min xs.length ys.length ≤ 100000) (hz0 : IsZip s.heap z TI TO .none)
    (fin : ∀ s' H' vs', Inv X pins σ H' s' → H' s.heap.objs.size = some (.lst vs') → vs'.length = min xs.length ys.length → PairsAt H H' vs' xs ys → (∀ c o, H c = some o → H' c = some o) → Q (.ref s.heap.objs.size) s') :
    wpAny (model X.prog X.w) X.A (call (.type "list") [.ref z]) Q X.xe s := by
  have hTy : s.TypeIs (.ref z) "zip" := ⟨_, hz0, rfl⟩
  have lt : ∀ {c : Addr} {o : Obj}, s.heap.get? c = some o → s.heap.objs.size ≠ c := fun e => Nat.ne_of_gt (Heap.lt_size e)
  obtain ⟨_, e1⟩ := zh.t1.live
  obtain ⟨_, e2⟩ := zh.t2.live
  obtain ⟨_, eTO⟩ := zh.to
  obtain ⟨S, hSd⟩ : ∃ S, S = s.heap.objs.size := ⟨_, rfl⟩
  rw [← hSd] at fin zh
  have nSz : S ≠ z := by rw [hSd]; exact lt hz0
  refine callType_codes (Q₁ := fun obj s₁ => obj = .ref S ∧ s₁ = { s with heap := s.heap.push { cls := .type "list", data := .seq #[] } }) F.called_list (F.typeCall_list_1 _) F.entry_list_init
    (code_list_new _ ⟨by rw [hSd], rfl⟩) fun obj s₁ h₁ => ?_
  obtain ⟨rfl, rfl⟩ := h₁
  have hS0 : (s.heap.push { cls := .type "list", data := .seq #[] }).get? S = some { cls := .type "list", data := .seq #[] } := by rw [hSd]; exact Heap.get?_push_size _ rfl
  have kp0 : ∀ c o, s.heap.get? c = some o → (s.heap.push { cls := .type "list", data := .seq #[] }).get? c = some o := fun c o e => Heap.get?_push_of_some _ e
  refine ⟨⟨_, hS0, rfl⟩, F.args_list_init_2 _ _, ?_⟩
  generalize s.heap.push { cls := .type "list", data := .seq #[] } = g0 at *
  show wpAny _ X.A.in1.in1 (do let old ← Builtin.List.listItems (.ref S); Builtin.List.listUpdate (.ref S) (fun _ => #[]); letGo old.toList.reverse; Builtin.List.listExtendWith (.ref S) (.ref z) .none) _ _ _
  refine wpAny_bind ?_
  unfold Builtin.List.listItems
  refine wpAny_bind (wpAny_seqItems (s := { s with heap := g0 }) hS0 rfl (wpAny_pure ?_))
  show wpAny _ X.A.in1.in1 (updateSeq S (fun _ => #[]) >>= fun _ => letGo (#[] : Array Value).toList.reverse >>= fun _ => Builtin.List.listExtendWith (.ref S) (.ref z) .none) _ _ _
  refine wpAny_bind (wpAny_updateSeq (s := { s with heap := g0 }) hS0 rfl ?_)
  have hS1 := Heap.get?_update_self (Obj.mapSeq (fun _ => (#[] : Array Value))) hS0 rfl
  have kp1 : ∀ c o, s.heap.get? c = some o → (g0.update S (Obj.mapSeq (fun _ => (#[] : Array Value)))).get? c = some o := fun c o e =>
    (Heap.get?_update_other _ _ (by rw [hSd]; exact lt e)).trans (kp0 c o e)
  refine wpAny_bind (wpAny_letGo ?_)
  generalize g0.update S (Obj.mapSeq (fun _ => (#[] : Array Value))) = g1 at *
  have hTy1 : ({ s with heap := g1 } : Shared).TypeIs (.ref z) "zip" := ⟨_, kp1 _ _ hz0, rfl⟩
  unfold Builtin.List.listExtendWith
  refine wpAny_bind (wpAny_typeOf hTy1 ?_)
  have h1 : Builtin.List.listSameRef (.ref S) (.ref z) = false := by simp [Builtin.List.listSameRef, nSz]
  have h2 : (Value.type "zip" == Value.type "list") = false := by decide
  have h3 : (Value.type "zip" == Value.type "tuple") = false := by decide
  simp only [h1, h2, h3, Bool.or_false, Bool.false_eq_true, if_false]
  refine wpAny_bind (wpAny_pyIter_zip (s := { s with heap := g1 }) (kp1 _ _ hz0) ?_)
  refine wpAny_bind (wpAny_holding ?_)
  unfold Builtin.List.listLengthHint
  refine wpAny_bind (wpAny_specialOf hTy1 zip_no_len ?_)
  show wpAny _ X.A.in1.in1 (specialOf (Value.ref z) (Str.ofString "__length_hint__") >>= _) _ _ _
  refine wpAny_bind (wpAny_specialOf hTy1 zip_no_hint ?_)
  refine wpAny_pure ?_
  show wpAny _ X.A.in1.in1 (rule "list.extend.makes-room" >>= fun _ => Builtin.List.listTouch (.ref S) >>= fun _ =>
    again (.builtin "list.extend.loop" ⟨[.ref S, .ref z, .none], []⟩)) _ _ _
  refine wpAny_bind (wpAny_rule ?_)
  refine wpAny_bind ?_
  show wpAny _ X.A.in1.in1 (updateSeq S (·.push .none) >>= fun _ => updateSeq S (·.pop)) _ _ _
  refine wpAny_bind (wpAny_updateSeq (s := { s with heap := g1 }) hS1 rfl ?_)
  have hS₂ := Heap.get?_update_self (Obj.mapSeq (·.push Value.none)) hS1 rfl
  refine wpAny_updateSeq (hz := by seq_fits) hS₂ rfl ?_
  have hS₃ := Heap.get?_update_self (Obj.mapSeq (·.pop)) hS₂ rfl
  have kp3 : ∀ c o, s.heap.get? c = some o → ((g1.update S (Obj.mapSeq (·.push Value.none))).update S (Obj.mapSeq (·.pop))).get? c = some o := fun c o e =>
    (Heap.get?_update_other _ _ (by rw [hSd]; exact lt e)).trans ((Heap.get?_update_other _ _ (by rw [hSd]; exact lt e)).trans (kp1 c o e))
  generalize (g1.update S (Obj.mapSeq (·.push Value.none))).update S (Obj.mapSeq (·.pop)) = g3 at *
  have I3 : Inv X pins σ (upd H S (.lst [])) { s with heap := g3, toks := s.toks } := I.laid (t' := s.toks) kp3 (by rw [hSd]; exact Nat.le_refl _) ⟨Nat.zero_le _, [], _, .nil, hS₃⟩
  have nS : H S = none := by rw [hSd]; exact I.hok.fresh (Nat.le_refl _)
  refine wpAny_pure ⟨plainId_quiet F.plain_extend_loop _, ?_⟩
  refine zl_loop (X := X) (A := X.A.in1) (H0 := H) (res := .none) (I.ok.hd hc) D rv rv2 nSz (by rw [hSd]; exact lt zh.ti) (by rw [hSd]; exact lt eTO) (by rw [hSd]; exact lt e1) (by rw [hSd]; exact lt e2) (by rw [hSd]; exact Nat.ne_of_gt la) (by rw [hSd]; exact Nat.ne_of_gt lb) hn
    (fun s' H' vs' J h1 h2 h3 h4 => ?_) _ 0 _ _ [] rfl (Nat.zero_le _) I3 (fun c hc' => ?_) ⟨kp3 _ _ zh.ti, ⟨_, kp3 _ _ eTO⟩, zh.t1.at fun o e => kp3 _ o e, zh.t2.at fun o e => kp3 _ o e, zh.s1.at fun o e => kp3 _ o e, zh.s2.at fun o e => kp3 _ o e, ?_⟩ upd_same rfl (fun j v hj => by simp at hj) (fun c o e => ?_) nS
  · exact ⟨rfl, fin s' H' vs' J h1 h2 h3 h4⟩
  · have h := hf c hc'
    have hcS : c ≠ S := by
      have hcm : c = z ∨ c = TI ∨ c = TO ∨ c = i1 ∨ c = i2 := by simpa using hc'
      rw [hSd]
      rcases hcm with q | q | q | q | q
      · rw [q]; exact (lt hz0).symm
      · rw [q]; exact (lt zh.ti).symm
      · rw [q]; exact (lt eTO).symm
      · rw [q]; exact (lt e1).symm
      · rw [q]; exact (lt e2).symm
    exact ⟨by rw [upd_ne hcS]; exact h.1, h.2⟩
  · rcases zh.zz with ⟨hz, x, y, hTO⟩ | ⟨T, f, oT, hz, hT, n1, n2, n3, n4⟩
    · exact .inl ⟨kp3 _ _ hz, x, y, kp3 _ _ hTO⟩
    · exact .inr ⟨T, f, oT, kp3 _ _ hz, kp3 _ _ hT, n1, n2, n3, n4⟩
  · rw [upd_ne (fun z => by rw [z, nS] at e; cases e)]; exact e
def tListZip (K : PySem.W.Frag) (ta : TA) : TE := fun σ H Q => ta σ H fun vs H1 => ∃ b1 b2 a b xs ys, vs = [.ref a, .ref b] ∧ Sq b1 K H1 a xs ∧ Sq b2 K H1 b ys ∧ min xs.length ys.length ≤ 100000 ∧
  ∀ S H2 vs', H1 S = none → H2 S = some (.lst vs') → vs'.length = min xs.length ys.length → PairsAt H1 H2 vs' xs ys → (∀ c o, H1 c = some o → H2 c = some o) → Q (.ref S) H2
end
section
variable {X : Cx} {e e2 : Expr} {ta : TA} {ds : DA} {p p2 pos q : Pos}
theorem pe_listZip (hg : Gl X "list") (hm : X.mg "list" = none) (hg2 : Gl X "zip") (hm2 : X.mg "zip" = none) (ha : PA X [e, e2] ta) (hc : X.calm = true)
    (hs : starEach [e, e2] X.env = (false, eval e X.env) :: starEach [e2] X.env := by rfl) (hpl : (backTo q (starEach [e2] X.env)).any (·.1) = false := by rfl) :
    PE X (.Call (.Name "list" p) [.Call (.Name "zip" p2) [e, e2] [] q] [] pos) (tListZip X.K ta) := by
  refine ⟨fun pins s σ H Q I h => ?_⟩
  refine Call_ (ld_blt I hg hm boot_list ?_)
  refine PyProof.Rows.callWith_type1 (PyProof.Rows.args_cons ?_ rfl) rfl rfl
  refine Call_ (ld_blt I hg2 hm2 PyProof.Rows.boot_zip (PyProof.Rows.callWith_type1 (thn (ha.run q pins s σ H _ I h) fun us s1 ⟨vs, H1, I1, r1, q1⟩ => ?_) hs hpl))
  obtain ⟨b1, b2, a, b, xs, ys, ex, hqx, hqy, hn, fin⟩ := q1
  subst ex
  cases r1 with
  | cons r rr =>
    cases rr with
    | cons r' rr =>
      cases rr
      cases r
      cases r'
      obtain ⟨its, rv, p1⟩ := inv_src I1 hqx
      obtain ⟨its2, rv2, p2⟩ := inv_src I1 hqy
      refine zip_begins2 (begins_src b1 a its.toArray) (begins_src b2 b its2.toArray) p1 p2 fun h' hz hTI hTO g1 g2 hsz hk => ?_
      refine PyProof.Rows.args_nil ?_
      have I2 : Inv X pins σ H1 { s1 with heap := h' } := I1.kept (t' := s1.toks) hk
      have fresh5 : ∀ c, c ∈ [s1.heap.objs.size + 4, s1.heap.objs.size + 2, s1.heap.objs.size + 3, s1.heap.objs.size, s1.heap.objs.size + 1] → FpOk X pins H1 c := fun c hcm => by
        have e' : c = s1.heap.objs.size + 4 ∨ c = s1.heap.objs.size + 2 ∨ c = s1.heap.objs.size + 3 ∨ c = s1.heap.objs.size ∨ c = s1.heap.objs.size + 1 := by simpa using hcm
        have hle : s1.heap.objs.size ≤ c := by
          rcases e' with z | z | z | z | z
          · rw [z]; exact Nat.le_add_right _ _
          · rw [z]; exact Nat.le_add_right _ _
          · rw [z]; exact Nat.le_add_right _ _
          · rw [z]; exact Nat.le_refl _
          · rw [z]; exact Nat.le_add_right _ _
        exact I1.fpOk hle (I1.hok.fresh hle)
      have l1 := p1.lt
      have l2 := p2.lt
      have lh : ∀ {c : Addr}, c < s1.heap.objs.size → c < h'.objs.size := fun {c} hcl => Nat.lt_of_lt_of_le hcl (by rw [hsz]; exact Nat.le_add_right _ _)
      refine call_list_zip (b1 := b1) (b2 := b2) hc I2 (PySem.W.ktu_apart s1.heap.objs.size a b l1 l2) rv rv2 fresh5 ⟨hTI, ⟨_, hTO⟩, iterAt_new g1, iterAt_new g2, p1.at fun o e => hk _ o e, p2.at fun o e => hk _ o e, .inl ⟨hz, _, _, hTO⟩⟩ (lh l1) (lh l2) hn hz fun s' H' vs' J h1 h2 h3 h4 => ?_
      exact ⟨V.ref h'.objs.size, H', J, rfl, fin _ H' vs' (I2.hok.fresh (Nat.le_refl _)) h1 h2 h3 h4⟩
/-- list(zip(a, b)): a new list of new pairs -/
def dListZip (ds : DA) : DE := fun ρ S P => ds ρ S fun xs S1 => match xs with
  | [x, y] => match seqOf S1 x, seqOf S1 y with
    | some as, some bs => as.length ≤ 100000 ∧ P (.lst (zipD as bs)) S1
    | _, _ => False
  | _ => False
open Classical in
theorem je_listZip (hm : X.mg "list" = none) (hm2 : X.mg "zip" = none) (ha : JA X [e, e2] ds) (hc : X.calm = true := by rfl) (hg : Gl X "list" := by rfl) (hg2 : Gl X "zip" := by rfl)
    (hs : starEach [e, e2] X.env = (false, eval e X.env) :: starEach [e2] X.env := by rfl) (hpl : (backTo q (starEach [e2] X.env)).any (·.1) = false := by rfl) :
    JE X (.Call (.Name "list" p) [.Call (.Name "zip" p2) [e, e2] [] q] [] pos) (dListZip ds) :=
  je_of (pe_listZip hg hm hg2 hm2 ha hc hs hpl) fun σ H Q ⟨ρ, I, S, F, P, rs, ok, hh, q⟩ => ⟨ρ, I, S, F, _, rs, ok, hh, fun xs S1 v I1 H1 h1 e1 ok1 r1 => by
    split at h1
    · rename_i x y
      obtain ⟨v, u, rfl, rv, ru⟩ := r1.inv2
      split at h1
      · rename_i as bs e3 e4
        obtain ⟨b1, a, rfl, hs1⟩ := src_sq ok1 rv e3
        obtain ⟨b2, b, rfl, hs2⟩ := src_sq ok1 ru e4
        obtain ⟨xs, q1, rx⟩ := hs1 _ _ _ _ (Same.refl _) ok1 (pin_self _ _)
        obtain ⟨ys, q2, ry⟩ := hs2 _ _ _ _ (Same.refl _) ok1 (pin_self _ _)
        have lx := rx.len
        have ly := ry.len
        refine ⟨b1, b2, a, b, xs, ys, rfl, q1, q2, by omega, fun L H2 vs' nL hL hl hp hk => ?_⟩
        let I2 : Hp := fun c => match I1 c with
          | some o => some o
          | none => if H1 c = none then H2 c else none
        have I2s : Same I1 I2 := fun c o e => by show (match I1 c with | some o => some o | none => if H1 c = none then H2 c else none) = some o; rw [e]
        have I2n : ∀ c, I1 c = none → H1 c = none → I2 c = H2 c := fun c e1 e2 => by show (match I1 c with | some o => some o | none => if H1 c = none then H2 c else none) = H2 c; rw [e1]; exact if_pos e2
        have I2o : ∀ c, I1 c = none → H1 c ≠ none → I2 c = none := fun c e1 e2 => by show (match I1 c with | some o => some o | none => if H1 c = none then H2 c else none) = none; rw [e1]; exact if_neg e2
        have ok2 : Ok X.K I2 S1 F H2 := by
          refine ⟨fun c o e => ?_, fun c m e => ?_, fun c o e => ?_⟩
          · cases e5 : I1 c with
            | some o' =>
              have := I2s c o' e5
              rw [this] at e; cases e
              exact hk c _ (ok1.i c _ e5)
            | none =>
              by_cases e6 : H1 c = none
              · rw [I2n c e5 e6] at e; exact e
              · rw [I2o c e5 e6] at e; cases e
          · obtain ⟨a1, a2⟩ := ok1.s c m e
            obtain ⟨o, a3, _⟩ := a2.there
            exact ⟨I2o c a1 (by rw [a3]; simp), a2.mono I2s (by rw [a3, hk c o a3]) fun dx e => hk dx _ e⟩
          · obtain ⟨a1, a2, a3, a4⟩ := ok1.f c o e
            exact ⟨hk c o a1, I2o c a2 (by rw [a1]; simp), a3, a4⟩
        have fI : ∀ c, H1 c = none → I1 c = none := fun c e => ok1.freshI e
        refine q _ _ _ _ _ h1.2 (e1.trans I2s) ok2 ?_
        refine ⟨L, vs', rfl, by rw [I2n L (fI L nL) nL]; exact hL, ?_⟩
        -- item by item
        have all : ∀ (n : Nat) (as bs : List D) (xs ys vs : List V), RepL X.K I1 as xs → RepL X.K I1 bs ys → vs.length = min xs.length ys.length → (∀ (j : Nat) v, vs[j]? = some v → ∃ (T : Addr) (x y : V), v = V.ref T ∧ xs[j]? = some x ∧ ys[j]? = some y ∧ H2 T = some (.tup [x, y]) ∧ H1 T = none) → RepL X.K I2 (zipD as bs) vs := by
          intro n as
          induction as with
          | nil =>
            intro bs xs ys vs h1 h2 h3 h4
            have : xs = [] := by simpa only [RepL] using h1
            subst this
            have : vs = [] := List.eq_nil_of_length_eq_zero (by simpa using h3)
            subst this
            simp only [zipD, List.zipWith_nil_left]
            exact RepL.nil
          | cons a as ih =>
            intro bs xs ys vs h1 h2 h3 h4
            obtain ⟨x, xs, rfl, hx1, hx2⟩ := h1
            cases bs with
            | nil =>
              have : ys = [] := by simpa only [RepL] using h2
              subst this
              have : vs = [] := List.eq_nil_of_length_eq_zero (by simpa using h3)
              subst this
              simp only [zipD, List.zipWith_nil_right]
              exact RepL.nil
            | cons b bs =>
              obtain ⟨y, ys, rfl, hy1, hy2⟩ := h2
              cases vs with
              | nil => simp at h3
              | cons v vs =>
                obtain ⟨T, x', y', rfl, ex, ey, hT, nT⟩ := h4 0 v rfl
                simp at ex ey
                subst ex ey
                refine ⟨V.ref T, vs, rfl, ⟨T, [x, y], rfl, .inl (by rw [I2n T (fI T nT) nT]; exact hT), RepL.cons (hx1.mono I2s) (RepL.one (hy1.mono I2s))⟩, ih bs xs ys vs hx2 hy2 (by simp at h3; omega) fun j v hj => ?_⟩
                obtain ⟨T, x', y', g1, g2, g3, g4, g5⟩ := h4 (j + 1) v (by simpa using hj)
                exact ⟨T, x', y', g1, by simpa using g2, by simpa using g3, g4, g5⟩
        exact all 0 as bs xs ys vs' rx ry hl hp
      · exact h1.elim
    · exact h1.elim⟩
end
end DL

/-! xs.pop(i), xs.insert(i, y). -/
namespace DL
open PySem PySem.Spec PyProof.Rows L2
section
variable {K : PySem.W.Frag} {I : Hp}
theorem RepL.erase : ∀ {ds : List D} {vs : List V} (i : Nat), RepL K I ds vs → RepL K I (ds.eraseIdx i) (vs.eraseIdx i) := by
  intro ds vs i h
  rw [List.eraseIdx_eq_take_drop_succ, List.eraseIdx_eq_take_drop_succ]
  exact (h.take i).app (h.drop (i + 1))
end
section
variable {X : Cx} {pos p apos : Pos} {a b c o : Expr} {da db dc : DE}
def dPopAt (a b : DE) : DE := fun ρ S P => a ρ S fun x S1 => match x with
  | .obj l => (∃ es, S1 l = some (.lst es)) ∧ b ρ S1 fun y S2 => match S2 l, y with
    | some (.lst ds), .int i => -(2 ^ 63) ≤ i ∧ i < 2 ^ 63 ∧ ∃ k d, seqIndex? i ds.length = some k ∧ ds[k]? = some d ∧ P d (supd S2 l (.lst (ds.eraseIdx k)))
    | _, _ => False
  | _ => False
theorem je_popAt (ha : JE X o da) (hb : JE X a db) (hbase : attributeBase o "pop" X.env (eval o X.env) = eval o X.env := by rfl) (hs0 : starEach [a] X.env = [(false, eval a X.env)] := by rfl)
    (hfew : ((backTo pos (starEach [a] X.env)).all (fun x => !x.1) && (backToKw pos (keywordEach [] X.env)).all (fun x => x.1.isSome)
      && decide ([a].length + ([] : List Keyword).length + (if ([] : List Keyword).isEmpty then 0 else 1) < 30)) = true := by rfl)
    (hline : (apos.endLine == pos.line) = true := by rfl) : JE X (.Call (.Attribute o "pop" apos) [a] [] pos) (dPopAt da db) :=
  je_of (pe_bm PySem.F.plainAttrs_list PySem.F.slot_list_pop PySem.F.type_list_pop mt_popAt ha (pa_cons hb pa_nil hs0) hbase hfew hline (hs := hs0) (hplain := by rfl)) fun σ H Q ⟨ρ, I, S, F, P, rs, ok, hh, q⟩ =>
    ⟨ρ, I, S, F, _, rs, ok, hh, fun x S1 v I1 H1 h1 e1 ok1 r1 => by
      cases x with
      | obj l =>
        obtain ⟨⟨es, e2⟩, h2⟩ := h1
        obtain ⟨_, ys, q2, _⟩ := ok1.s l _ e2
        cases r1.obj_of
        refine ⟨.inl ⟨rfl, ys, .of q2⟩, ρ, I1, S1, F, _, rs.mono e1, ok1, h2, fun y S2 w I2 H2 h3 e3 ok2 r2 => ?_⟩
        split at h3
        · rename_i ds i e4
          obtain ⟨_, zs, q4, rl⟩ := ok2.s l _ e4
          obtain ⟨i0, i1, k, d, hk, hd, h4⟩ := h3
          obtain ⟨v, hv, rv⟩ := rl.get hd
          cases r2.int_of
          refine ⟨l, zs, i, k, v, rfl, rfl, q4, i0, i1, by rw [rl.len]; exact hk, hv, q _ _ _ _ _ h4 (e1.trans e3) (ok2.writeL e4 (rl.erase k)) rv⟩
        · exact h3.elim
      | _ => exact h1.elim⟩
def dInsert (a b c : DE) : DE := fun ρ S P => a ρ S fun x S1 => match x with
  | .obj l => (∃ es, S1 l = some (.lst es)) ∧ b ρ S1 fun y S2 => c ρ S2 fun z S3 => match S3 l, y with
    | some (.lst ds), .int i => ds.length < 100000 ∧ 0 ≤ i ∧ i < 2 ^ 63 ∧ P .non (supd S3 l (.lst (ds.take i.toNat ++ [z] ++ ds.drop i.toNat)))
    | _, _ => False
  | _ => False
theorem je_insert (ha : JE X o da) (hb : JE X a db) (hc : JE X b dc) (hbase : attributeBase o "insert" X.env (eval o X.env) = eval o X.env := by rfl) (hs0 : starEach [b] X.env = [(false, eval b X.env)] := by rfl) (hs1 : starEach [a, b] X.env = (false, eval a X.env) :: starEach [b] X.env := by rfl)
    (hfew : ((backTo pos (starEach [a, b] X.env)).all (fun x => !x.1) && (backToKw pos (keywordEach [] X.env)).all (fun x => x.1.isSome)
      && decide ([a, b].length + ([] : List Keyword).length + (if ([] : List Keyword).isEmpty then 0 else 1) < 30)) = true := by rfl)
    (hline : (apos.endLine == pos.line) = true := by rfl) (hplain : (backTo pos (starEach [b] X.env)).any (·.1) = false := by rfl) : JE X (.Call (.Attribute o "insert" apos) [a, b] [] pos) (dInsert da db dc) :=
  je_of (pe_bm PySem.F.plainAttrs_list PySem.F.slot_list_insert PySem.F.type_list_insert mt_insert ha (pa_cons hb (pa_cons hc pa_nil hs0) hs1) hbase hfew hline (hs := hs1) (hplain := hplain)) fun σ H Q ⟨ρ, I, S, F, P, rs, ok, hh, q⟩ =>
    ⟨ρ, I, S, F, _, rs, ok, hh, fun x S1 v I1 H1 h1 e1 ok1 r1 => by
      cases x with
      | obj l =>
        obtain ⟨⟨es, e2⟩, h2⟩ := h1
        obtain ⟨_, ys, q2, _⟩ := ok1.s l _ e2
        cases r1.obj_of
        refine ⟨.inl ⟨rfl, ys, .of q2⟩, ρ, I1, S1, F, _, rs.mono e1, ok1, h2, fun y S2 w I2 H2 h3 e3 ok2 r2 => ⟨ρ, I2, S2, F, _, rs.mono (e1.trans e3), ok2, h3, fun z S3 u I3 H3 h4 e4 ok3 r3 => ?_⟩⟩
        split at h4
        · rename_i ds i e5
          obtain ⟨_, zs, q4, rl⟩ := ok3.s l _ e5
          obtain ⟨hl, i0, i1, h5⟩ := h4
          cases r2.int_of
          refine ⟨l, zs, i, u, rfl, rfl, q4, Nat.lt_of_lt_of_le (by rw [rl.len]; exact hl) (by decide), i0, i1, q _ _ _ _ _ h5 (e1.trans (e3.trans e4)) (ok3.writeL e5 (((rl.take i.toNat).app (RepL.one r3)).app (rl.drop i.toNat))) rep_non⟩
        · exact h4.elim
      | _ => exact h1.elim⟩
end
end DL

/-! a, *b = e of a tuple; x in NAME of a written dict. -/
namespace DL
open PySem PySem.Spec PyProof.Rows L2
section
variable {prog : Program} {w : World} {A : Around} {E : Value → Shared → Prop} {s : Shared}
theorem star1 {l : Addr} {items : Array Value} {Q : List Value → Shared → Prop} (hl : IsTup s.heap l items) (hh : A.handled = none) (h1 : 1 ≤ items.size) (hz : items.size ≤ 16384)
    (h : ∀ h2 tk, Heap.ExtBut s.heap.objs.size s.heap h2 → Q (items.toList.take 1 ++ [.ref h2.objs.size]) { s with heap := h2.push { cls := .type "list", data := .seq (items.toList.drop 1).toArray }, toks := tk }) : wpAny (model prog w) A (unpackItems (.ref l) 2 (some 1)) Q E s := by
  have hlt : l ≠ s.heap.objs.size := by obtain ⟨o, ho, _⟩ := hl; exact Nat.ne_of_lt (Heap.lt_size ho)
  unfold unpackItems
  refine wpAny_bind ?_
  unfold notIterableAtAll
  refine wpAny_bind (wpAny_specialOf hl.typeIs slot_tuple_iter.lookup ?_)
  refine wpAny_pure ?_
  simp only [Bool.false_eq_true, if_false]
  refine wpAny_bind (wpAny_holding (iter_tuple hl ?_))
  refine wpAny_bind (wpAny_holding (draw_tuple hlt 1 0 _ _ ⟨_, Heap.get?_push_size _ rfl, rfl, rfl⟩ (hl.push _) (by omega) fun h₁ hit₁ hs₁ => ?_))
  have hl₁ : IsTup h₁ l items := (hl.push _).extBut hs₁.extBut hlt
  rw [Nat.zero_add] at hit₁
  have hit₁' := hit₁
  obtain ⟨oi, hoi, _⟩ := hit₁'
  have hl₁' := hl₁
  obtain ⟨ol, hol, _⟩ := hl₁'
  rw [List.drop_zero]
  have hfl : (items.toList.take 1).length = 1 := by rw [List.length_take, Array.length_toList]; omega
  rw [if_neg (show ¬ ((items.toList.take 1).length < 1) by rw [hfl]; omega)]
  refine wpAny_bind (wpAny_holding (PySem.W.kun_collect (s := { s with heap := h₁ }) (T := "tuple_iterator") (.inr (.inr (.inr rfl))) (Walks.tuple (A := A.in1) hh s.heap.objs.size l hlt items) (fun j u st => st.1.typeIs) (k := 1) (by omega) ⟨hit₁, hl₁⟩ (Heap.lt_size hoi) (Heap.lt_size hol) (fun h₂ tk hk => ?_) (by rw [sizeLine_eq]; omega)))
  have hrl : (items.toList.drop 1).length = items.size - 1 := by rw [List.length_drop, Array.length_toList]
  show wpAny _ _ (if (items.toList.drop 1).length < 2 - 1 - 1 then _ else _) _ _ _
  rw [if_neg (by omega)]
  show wpAny _ _ (newList ((items.toList.drop 1).take ((items.toList.drop 1).length - (2 - 1 - 1))) >>= fun d => pure (items.toList.take 1 ++ [d] ++ (items.toList.drop 1).drop ((items.toList.drop 1).length - (2 - 1 - 1)))) _ _ _
  rw [show (items.toList.drop 1).length - (2 - 1 - 1) = (items.toList.drop 1).length by omega, List.take_length, List.drop_length]
  simp only [List.append_nil]
  have he : Heap.ExtBut s.heap.objs.size s.heap h₂ := fun b o hb e => hk b o hb (hs₁.extBut b o hb (Heap.get?_push_of_some _ e))
  simp only [newList]
  refine wpAny_bind (wpAny_newObj_type ?_ (by size_fits))
  exact wpAny_pure (h h₂ tk he)
end
section
variable {X : Cx} {pos p : Pos}
def gStar (K : PySem.W.Frag) (t : TGs) : TG := fun v σ H Q => ∃ a x xs, v = .ref a ∧ SqT K H a (x :: xs) ∧ xs.length ≤ 16000 ∧ ∀ q, H q = none → t [x, .ref q] σ (upd H q (.lst xs)) Q
theorem pg_star {a b : Expr} {k : Nat} {t : TGs} (hc : X.calm = true) (h : PGs X [a, b] t) (hn : (assignEach [a, .Starred b p] X.env).length = 2 := by rfl)
    (hst : (assignEach [a, .Starred b p] X.env).findIdx? (·.1) = some 1 := by rfl) (hm : (assignEach [a, .Starred b p] X.env).map (·.2) = (assignEach [a, b] X.env).map (·.2) := by rfl) : PG X (.Tuple [a, .Starred b p] k pos) (gStar X.K t) := by
  refine ⟨fun pins s σ H v u Q I r hw => ?_⟩
  obtain ⟨l, x, xs, e1, hq, hl, hw⟩ := hw
  subst e1
  cases r
  obtain ⟨its, rv, ht, hz⟩ := I.tuple hq
  cases rv with
  | @cons _ v0 _ rest r0 rr =>
  have ln := rr.length
  rw [arm_assign_Tuple]
  refine wpAny_bind (wpAny_standAt ?_)
  unfold unpack
  rw [hn, hst, hm]
  refine wpAny_bind (wpAny_holding (star1 ht (I.ok.hd hc) (by rw [List.size_toArray, List.length_cons]; omega) (by rw [List.size_toArray, List.length_cons]; omega) fun h2 tk hx => ?_))
  have I1 : Inv X pins σ H { s with heap := h2, toks := tk } := I.kept (t' := tk) fun b o e => hx b o (Nat.ne_of_lt (Heap.lt_size e)) e
  have I2 := I1.lnew (t' := tk) rr (by rw [sizeLine_eq]; omega)
  have h3 := hw h2.objs.size I1.fresh
  exact h.run pins _ σ _ _ _ Q I2 (.cons r0 (.cons (show L2.RelV (V.ref h2.objs.size) (.ref h2.objs.size) from rfl) .nil)) h3
def dStar (i j : Nat) (d : DE) : DS := fun DD ρ S => d ρ S fun x S1 => match x with
  | .tup (y :: ys) => ys.length ≤ 16000 ∧ DD.nx ((ρ.set i (some y)).set j (some (.lst ys))) S1
  | _ => False
theorem js_star (i j : Nat) {x y : Str} {e : Expr} {de : DE} {k : Nat} {p1 p2 p3 : Pos} (hc : X.calm = true) (hN : X.N.Nodup) (hi : X.N[i]? = some x) (hj : X.N[j]? = some y) (hx : Loc X.env.scope x) (hy : Loc X.env.scope y) (he : JE X e de)
    (hs : swapsWithSole [.Tuple [.Name x p1, .Starred (.Name y p2) p3] k p] e pos.line X.env = pure false := by rfl) (hw : swappedStores [.Tuple [.Name x p1, .Starred (.Name y p2) p3] k p] e X.env = pure none := by rfl)
    (h1 : (assignEach [.Tuple [.Name x p1, .Starred (.Name y p2) p3] k p] X.env).map (·.2) = [assign (.Tuple [.Name x p1, .Starred (.Name y p2) p3] k p) X.env] := by rfl)
    (hn : (assignEach [.Name x p1, .Starred (.Name y p2) p3] X.env).length = 2 := by rfl) (hst : (assignEach [.Name x p1, .Starred (.Name y p2) p3] X.env).findIdx? (·.1) = some 1 := by rfl)
    (hm : (assignEach [.Name x p1, .Starred (.Name y p2) p3] X.env).map (·.2) = (assignEach [.Name x p1, .Name y p2] X.env).map (·.2) := by rfl)
    (hs1 : (assignEach [.Name x p1, .Name y p2] X.env).map (·.2) = assign (.Name x p1) X.env :: (assignEach [.Name y p2] X.env).map (·.2) := by rfl) (hs2 : (assignEach [.Name y p2] X.env).map (·.2) = assign (.Name y p2) X.env :: (assignEach [] X.env).map (·.2) := by rfl)
    (hfx : X.fn x = true ∨ X.env.scope.names.lookup x = some .local := by first | exact .inl rfl | exact .inr rfl | assumption) (hfy : X.fn y = true ∨ X.env.scope.names.lookup y = some .local := by first | exact .inl rfl | exact .inr rfl | assumption) :
    JS X (.Assign [.Tuple [.Name x p1, .Starred (.Name y p2) p3] k p] e pos) (dStar i j de) :=
  js_of (ps_asg he (pg_star hc (pgs_cons (pg_name hN hi hx hfx) (pgs_cons (pg_name hN hj hy hfy) pgs_nil hs2) hs1) hn hst hm) hs hw h1) fun D σ H ⟨ρ, I, S, F, DD, rs, ok, h, q⟩ => ⟨ρ, I, S, F, _, rs, ok, h, fun x S1 v I1 H1 h1 e1 ok1 r1 => by
    match x, h1 with
    | .tup (y :: ys), h1 =>
      obtain ⟨a, vs, rfl, hs, rl⟩ := r1.tup_of
      match vs, rl with
      | v0 :: vs, rl =>
        simp only [RepL] at rl
        obtain ⟨w, rr, e2, r0, rl⟩ := rl
        cases e2
        refine ⟨a, v0, vs, rfl, sqT_same ok1.same hs, by rw [rl.len]; exact h1.1, fun q' hq' => ?_⟩
        refine ⟨_, _, rfl, _, _, rfl, rfl, ?_⟩
        have sm := same_new (o := HO.lst vs) (ok1.freshI hq')
        exact q.nx _ _ _ _ _ h1.2 (e1.trans sm) (ok1.newI hq') (((rs.mono (e1.trans sm)).set i (r0.mono sm)).set j (rep_new_lst (ok1.freshI hq') rl))⟩
/-! ### x in NAME of a written dict -/
def dKIn (neg : Bool) (kvs : List (Str × Int)) (ws : List Str) (d : DE) : DE := fun ρ S P => d ρ S fun x S1 => match x with
  | .str z => z ∈ ws ∧ P (.bl (if neg then !(dictAt kvs z).isSome else (dictAt kvs z).isSome)) S1
  | _ => False
def rKIn (K : PySem.W.Frag) (d : Addr) : R2 := fun x y H Q => ∃ (z : Str) (r : Option Value), x = .str z ∧ y = .ref d ∧ PySem.W.nsIn K d z = some r ∧ Q (.bl r.isSome) H
theorem up_kin {K : PySem.W.Frag} {de : DE} {d : Addr} {kvs : List (Str × Int)} {ws : List Str} (hws : ∀ z, z ∈ ws → ∃ r, PySem.W.nsIn K d z = some r ∧ (match dictAt kvs z with
    | some i => ∃ v, r = some v ∧ RelV (.int i) v
    | none => r = none)) : ∀ σ H Q, upE K (dKIn false kvs ws de) σ H Q → tOp (rKIn K d) (upE K de) (tC (.ref d)) σ H Q := fun σ H Q ⟨ρ, I, S, F, P, rs, ok, h, q⟩ => ⟨ρ, I, S, F, _, rs, ok, h, fun x S1 v I1 H1 h1 e1 ok1 r1 => by
    show rKIn K d v (.ref d) H1 Q
    split at h1
    · rename_i z
      cases r1.str_of
      obtain ⟨hz, h1⟩ := h1
      obtain ⟨r, hr, hv⟩ := hws z hz
      refine ⟨z, r, rfl, rfl, hr, ?_⟩
      have er : r.isSome = (dictAt kvs z).isSome := by
        cases ed : dictAt kvs z with
        | some i => rw [ed] at hv; obtain ⟨v, rfl, _⟩ := hv; rfl
        | none => rw [ed] at hv; subst hv; rfl
      rw [er]
      exact q _ _ _ _ _ h1 e1 ok1 rep_bl
    · exact h1.elim⟩
theorem je_kin {e : Expr} {de : DE} {x : Str} {p1 pos : Pos} {kvs : List (Str × Int)} {ws : List Str} (hg : ∃ u, X.mg x = some u ∧ KdAt X.K X.w u kvs ws) (he : JE X e de) (hx : Gl X x := by rfl) (hdb : (x == ("__debug__" : Str)) = false := by decide) (hm : behindInMarks .In (.Name x p1) = false := by rfl) :
    JE X (.Compare e [.In] [.Name x p1] pos) (dKIn false kvs ws de) := by
  obtain ⟨u, hu, d, es, n, rfl, D, hws⟩ := hg
  exact je_of (pe_cmpR (op_in_kd D) he (pe_glob (v := V.ref d) hx hu (show L2.RelV (V.ref d) (.ref d) from rfl) hdb) hm) (up_kin hws)
theorem jt_kin {e : Expr} {de : DE} {x : Str} {p1 pos : Pos} {kvs : List (Str × Int)} {ws : List Str} (hg : ∃ u, X.mg x = some u ∧ KdAt X.K X.w u kvs ws) (he : JE X e de) (hx : Gl X x := by rfl) (hdb : (x == ("__debug__" : Str)) = false := by decide) (hm : behindInMarks .In (.Name x p1) = false := by rfl) :
    JT X (.Compare e [.In] [.Name x p1] pos) (dTest (dKIn false kvs ws de)) := by
  obtain ⟨u, hu, d, es, n, rfl, D, hws⟩ := hg
  exact jt_of (pt_cmpR (op_in_kd D) he (pe_glob (v := V.ref d) hx hu (show L2.RelV (V.ref d) (.ref d) from rfl) hdb) hm) (up_test (up_kin hws))
end
end DL

/-! Dicts as things that change: keys ints and texts (dK), or tuples of such (dT). dZ, dU: locked while they are walked. -/
namespace DL
open PySem PySem.Spec PyProof.Rows L2

/-! ### lists of pairs, whatever the values are -/
section
variable {κ : Type} [DecidableEq κ] {α : Type}
def dVal (kvs : List (κ × α)) (k : κ) : Option α := (kvs.find? fun kv => decide (kv.1 = k)).map (·.2)
def dPut (kvs : List (κ × α)) (k : κ) (v : α) : List (κ × α) :=
  if (kvs.any fun kv => decide (kv.1 = k)) = true then kvs.map (fun kv => if kv.1 = k then (kv.1, v) else kv) else kvs ++ [(k, v)]
def dWo (kvs : List (κ × α)) (k : κ) : List (κ × α) := kvs.filter fun kv => decide (kv.1 ≠ k)
def dMrg (kvs more : List (κ × α)) : List (κ × α) := more.foldl (fun acc kv => dPut acc kv.1 kv.2) kvs
theorem dVal_nil (k : κ) : dVal ([] : List (κ × α)) k = none := rfl
theorem dVal_cons (p : κ × α) (r : List (κ × α)) (k : κ) : dVal (p :: r) k = if p.1 = k then some p.2 else dVal r k := by
  unfold dVal
  rw [List.find?_cons]
  by_cases e : p.1 = k
  · simp [e]
  · simp [e]
theorem dVal_none {kvs : List (κ × α)} {k : κ} : dVal kvs k = none ↔ k ∉ kvs.map (·.1) := by
  induction kvs with
  | nil => simp [dVal_nil]
  | cons p r ih =>
    rw [dVal_cons]
    by_cases e : p.1 = k
    · simp [e]
    · rw [if_neg e, ih]
      simp [Ne.symm e]
theorem dVal_isSome {kvs : List (κ × α)} {k : κ} : (dVal kvs k).isSome = decide (k ∈ kvs.map (·.1)) := by
  cases h : dVal kvs k with
  | none => simp [dVal_none.1 h]
  | some v =>
    have : ¬ dVal kvs k = none := by rw [h]; simp
    rw [dVal_none] at this
    simp only [Option.isSome_some]
    exact (decide_eq_true (Decidable.not_not.1 this)).symm
theorem any_key {kvs : List (κ × α)} {k : κ} : (kvs.any fun kv => decide (kv.1 = k)) = decide (k ∈ kvs.map (·.1)) := by
  induction kvs with
  | nil => rfl
  | cons p r ih =>
    rw [List.any_cons, ih]
    by_cases e : p.1 = k
    · simp [e]
    · simp [e, Ne.symm e]
theorem dPut_new {kvs : List (κ × α)} {k : κ} (v : α) (h : k ∉ kvs.map (·.1)) : dPut kvs k v = kvs ++ [(k, v)] := by
  unfold dPut
  rw [any_key, decide_eq_false h]
  simp
theorem dVal_put (kvs : List (κ × α)) (k j : κ) (v : α) : dVal (dPut kvs k v) j = if j = k then some v else dVal kvs j := by
  by_cases h : k ∈ kvs.map (·.1)
  · unfold dPut
    rw [any_key, decide_eq_true h, if_pos rfl]
    induction kvs with
    | nil => simp at h
    | cons p r ih =>
      rw [List.map_cons, dVal_cons, dVal_cons]
      by_cases e : p.1 = k
      · rw [if_pos e]
        by_cases q : j = k
        · simp [e, q]
        · rw [if_neg q]
          have : ¬ p.1 = j := fun z => q (z.symm.trans e)
          rw [if_neg this, if_neg this]
          by_cases hr : k ∈ r.map (·.1)
          · rw [ih hr, if_neg q]
          · congr 1
            clear ih h
            induction r with
            | nil => rfl
            | cons x r ih2 =>
              simp only [List.map_cons, List.mem_cons, not_or] at hr
              rw [List.map_cons, if_neg (Ne.symm hr.1), ih2 hr.2]
      · have hr : k ∈ r.map (·.1) := by
          simp only [List.map_cons, List.mem_cons] at h
          rcases h with h | h
          · exact absurd h.symm e
          · exact h
        rw [if_neg e, ih hr]
        by_cases q : p.1 = j
        · have : ¬ j = k := fun z => e (q.trans z)
          rw [if_pos q, if_pos q, if_neg this]
        · rw [if_neg q, if_neg q]
  · rw [dPut_new v h]
    induction kvs with
    | nil =>
      simp only [List.nil_append]
      rw [dVal_cons, dVal_nil]
      by_cases q : j = k
      · simp [q]
      · simp [q, Ne.symm q]
    | cons p r ih =>
      simp only [List.map_cons, List.mem_cons, not_or] at h
      rw [List.cons_append, dVal_cons, dVal_cons, ih h.2]
      by_cases q : p.1 = j
      · have : ¬ j = k := fun z => h.1 (z.symm.trans q.symm)
        rw [if_pos q, if_pos q, if_neg this]
      · rw [if_neg q, if_neg q]
theorem dPut_keys (kvs : List (κ × α)) (k : κ) (v : α) : (dPut kvs k v).map (·.1) = if k ∈ kvs.map (·.1) then kvs.map (·.1) else kvs.map (·.1) ++ [k] := by
  by_cases h : k ∈ kvs.map (·.1)
  · rw [if_pos h]
    unfold dPut
    rw [any_key, decide_eq_true h, if_pos rfl, List.map_map]
    congr 1
    funext p
    simp only [Function.comp]
    split <;> rfl
  · rw [if_neg h, dPut_new v h]
    simp
theorem dPut_len (kvs : List (κ × α)) (k : κ) (v : α) : (dPut kvs k v).length ≤ kvs.length + 1 := by
  unfold dPut
  split <;> simp
theorem dWo_len (kvs : List (κ × α)) (k : κ) : (dWo kvs k).length ≤ kvs.length := List.length_filter_le _ _
theorem dPut_nd {kvs : List (κ × α)} {k : κ} {v : α} (h : (kvs.map (·.1)).Nodup) : ((dPut kvs k v).map (·.1)).Nodup := by
  rw [dPut_keys]
  split
  · exact h
  · rename_i q
    rw [List.nodup_append]
    refine ⟨h, by simp, fun a ha b hb => ?_⟩
    simp only [List.mem_singleton] at hb
    subst hb
    intro z
    subst z
    exact q ha
theorem dWo_val (kvs : List (κ × α)) (k j : κ) : dVal (dWo kvs k) j = if j = k then none else dVal kvs j := by
  unfold dWo
  induction kvs with
  | nil => simp [dVal_nil]
  | cons p r ih =>
    rw [List.filter_cons, dVal_cons]
    by_cases e : p.1 = k
    · rw [if_neg (by simp [e]), ih]
      by_cases q : j = k
      · simp [q]
      · have : ¬ p.1 = j := fun z => q (z.symm.trans e)
        rw [if_neg q, if_neg q, if_neg this]
    · rw [if_pos (by simp [e]), dVal_cons, ih]
      by_cases q : p.1 = j
      · have : ¬ j = k := fun z => e (q.trans z)
        rw [if_pos q, if_pos q, if_neg this]
      · rw [if_neg q, if_neg q]
theorem dWo_keys (kvs : List (κ × α)) (k : κ) : (dWo kvs k).map (·.1) = (kvs.map (·.1)).filter fun j => decide (j ≠ k) := by
  unfold dWo
  rw [List.filter_map]
  rfl
/-- new keys, each another one: just behind -/
theorem dMrg_new : ∀ {more kvs : List (κ × α)}, (more.map (·.1)).Nodup → (∀ k ∈ more.map (·.1), k ∉ kvs.map (·.1)) → dMrg kvs more = kvs ++ more
  | [], kvs, _, _ => by simp [dMrg]
  | p :: r, kvs, h, h2 => by
    simp only [List.map_cons, List.nodup_cons] at h
    show dMrg (dPut kvs p.1 p.2) r = _
    rw [dPut_new _ (h2 p.1 (by simp)), dMrg_new h.2 fun k hk => ?_]
    · simp
    · simp only [List.map_append, List.mem_append, not_or]
      refine ⟨h2 k (by simp [hk]), ?_⟩
      simp only [List.map_cons, List.map_nil, List.mem_singleton]
      intro e
      subst e
      exact h.1 hk
end

def kD : Key → D
  | .inl i => .int i
  | .inr s => .str s
def keyOf : D → Option Key
  | .int i => some (.inl i)
  | .str s => some (.inr s)
  | _ => none
def keysOf : List D → Option (List Key)
  | [] => some []
  | x :: r => match keyOf x, keysOf r with
    | some k, some ks => some (k :: ks)
    | _, _ => none
theorem keyOf_int (i : Int) : keyOf (.int i) = some (.inl i) := rfl
theorem keyOf_str (s : Str) : keyOf (.str s) = some (.inr s) := rfl
theorem keyOf_kD (k : Key) : keyOf (kD k) = some k := by cases k <;> rfl
theorem keyOf_eq {x : D} {k : Key} (h : keyOf x = some k) : x = kD k := by
  cases x <;> simp [keyOf] at h <;> subst h <;> rfl
section
variable {K : PySem.W.Frag} {I I' F H : Hp} {S : Store}
theorem kD_rep (k : Key) : Rep K I (kD k) (kV k) := by
  cases k with
  | inl i => exact rep_int
  | inr s => exact rep_str
theorem kD_of {k : Key} {v : V} (h : Rep K I (kD k) v) : v = kV k := by
  cases k with
  | inl i => exact h.int_of
  | inr s => exact h.str_of
theorem keysOf_rep : ∀ {xs : List D} {ks : List Key} {vs : List V}, RepL K I xs vs → keysOf xs = some ks → vs = ks.map kV
  | [], ks, vs, r, h => by
    simp only [RepL] at r
    simp only [keysOf, Option.some.injEq] at h
    subst r h; rfl
  | x :: r, ks, vs, rl, h => by
    simp only [RepL] at rl
    obtain ⟨v, w, rfl, h1, h2⟩ := rl
    unfold keysOf at h
    cases e1 : keyOf x with
    | none => rw [e1] at h; cases h
    | some k =>
      cases e2 : keysOf r with
      | none => rw [e1, e2] at h; cases h
      | some js =>
        rw [e1, e2] at h
        cases h
        rw [keyOf_eq e1] at h1
        rw [kD_of h1, keysOf_rep h2 e2]
        rfl
section
variable {κ : Type} [DecidableEq κ]
theorem RepF.nilK : RepF K I ([] : List (κ × D)) [] := by simp only [RepF]
theorem RepF.consK {p : κ × D} {v : V} {r : List (κ × D)} {w : List (κ × V)} (h : Rep K I p.2 v) (h' : RepF K I r w) : RepF K I (p :: r) ((p.1, v) :: w) := by
  simp only [RepF]
  exact ⟨v, w, rfl, h, h'⟩
theorem RepF.lenK : ∀ {fs : List (κ × D)} {vs : List (κ × V)}, RepF K I fs vs → vs.length = fs.length
  | [], _, h => by
    simp only [RepF] at h
    subst h; rfl
  | p :: r, vs, h => by
    simp only [RepF] at h
    obtain ⟨v, w, rfl, h1, h2⟩ := h
    simp [RepF.lenK h2]
theorem RepF.keysK : ∀ {fs : List (κ × D)} {vs : List (κ × V)}, RepF K I fs vs → vs.map (·.1) = fs.map (·.1)
  | [], _, h => by
    simp only [RepF] at h
    subst h; rfl
  | p :: r, vs, h => by
    simp only [RepF] at h
    obtain ⟨v, w, rfl, h1, h2⟩ := h
    simp [RepF.keysK h2]
theorem RepF.getK : ∀ {fs : List (κ × D)} {vs : List (κ × V)} {i : Nat} {p : κ × D}, RepF K I fs vs → fs[i]? = some p → ∃ v, vs[i]? = some (p.1, v) ∧ Rep K I p.2 v
  | [], _, _, _, _, e => by simp at e
  | q :: r, vs, 0, p, h, e => by
    simp only [RepF] at h
    obtain ⟨v, w, rfl, h1, h2⟩ := h
    simp at e; subst e
    exact ⟨v, rfl, h1⟩
  | q :: r, vs, i + 1, p, h, e => by
    simp only [RepF] at h
    obtain ⟨v, w, rfl, h1, h2⟩ := h
    obtain ⟨u, e1, e2⟩ := RepF.getK (i := i) h2 (by simpa using e)
    exact ⟨u, by simpa using e1, e2⟩
theorem RepF.valK {k : κ} : ∀ {fs : List (κ × D)} {vs : List (κ × V)}, RepF K I fs vs → (∀ d, dVal fs k = some d → ∃ v, valV vs k = some v ∧ Rep K I d v) ∧ (dVal fs k = none → valV vs k = none)
  | [], _, h => by
    simp only [RepF] at h
    subst h
    exact ⟨fun d e => by simp [dVal_nil] at e, fun _ => rfl⟩
  | p :: r, vs, h => by
    simp only [RepF] at h
    obtain ⟨v, w, rfl, h1, h2⟩ := h
    have ih := RepF.valK (k := k) h2
    rw [dVal_cons]
    by_cases e : p.1 = k
    · rw [if_pos e, valV_pos (p := (p.1, v)) e]
      exact ⟨fun d z => by cases z; exact ⟨v, rfl, h1⟩, fun z => by cases z⟩
    · rw [if_neg e, valV_neg (p := (p.1, v)) e]
      exact ih
theorem RepF.appK : ∀ {fs gs : List (κ × D)} {vs ws : List (κ × V)}, RepF K I fs vs → RepF K I gs ws → RepF K I (fs ++ gs) (vs ++ ws)
  | [], _, _, _, h, h' => by
    simp only [RepF] at h
    subst h; simpa using h'
  | p :: r, gs, vs, ws, h, h' => by
    simp only [RepF] at h
    obtain ⟨v, w, rfl, h1, h2⟩ := h
    simp only [List.cons_append, RepF]
    exact ⟨v, w ++ ws, rfl, h1, h2.appK h'⟩
theorem RepF.putK {k : κ} {d : D} {v : V} {fs : List (κ × D)} {vs : List (κ × V)} (h : RepF K I fs vs) (h' : Rep K I d v) : RepF K I (dPut fs k d) (L2.putK vs k v) := by
  have ha : (vs.any fun kv => decide (kv.1 = k)) = (fs.any fun kv => decide (kv.1 = k)) := by
    have e : ∀ {α : Type} (l : List (κ × α)), (l.any fun kv => decide (kv.1 = k)) = ((l.map (·.1)).any fun j => decide (j = k)) := fun l => by rw [List.any_map]; rfl
    rw [e, e, h.keysK]
  unfold dPut L2.putK
  rw [ha]
  split
  · clear ha
    rename_i hx
    clear hx
    induction fs generalizing vs with
    | nil =>
      simp only [RepF] at h
      subst h
      exact RepF.nilK
    | cons p r ih =>
      simp only [RepF] at h
      obtain ⟨w, u, rfl, h1, h2⟩ := h
      simp only [List.map_cons]
      by_cases e : p.1 = k
      · rw [if_pos e, if_pos e]
        exact RepF.consK (p := (p.1, d)) h' (ih h2)
      · rw [if_neg e, if_neg e]
        exact RepF.consK h1 (ih h2)
  · exact h.appK (RepF.consK (p := (k, d)) h' RepF.nilK)
theorem RepF.dropK {k : κ} : ∀ {fs : List (κ × D)} {vs : List (κ × V)}, RepF K I fs vs → RepF K I (dWo fs k) (L2.dropK vs k)
  | [], _, h => by
    simp only [RepF] at h
    subst h; exact RepF.nilK
  | p :: r, vs, h => by
    simp only [RepF] at h
    obtain ⟨v, w, rfl, h1, h2⟩ := h
    have ih := RepF.dropK (k := k) h2
    unfold dWo L2.dropK at *
    by_cases e : p.1 = k
    · rw [List.filter_cons_of_neg (by simp [e]), List.filter_cons_of_neg (by simp [e])]
      exact ih
    · rw [List.filter_cons_of_pos (by simp [e]), List.filter_cons_of_pos (by simp [e])]
      exact RepF.consK h1 ih
end
theorem repF_mrgK : ∀ {more fs : List (Key × D)} {ms vs : List (Key × V)}, RepF K I more ms → RepF K I fs vs → RepF K I (dMrg fs more) (mergeK vs ms)
  | [], fs, ms, vs, h, h' => by
    simp only [RepF] at h
    subst h; exact h'
  | p :: r, fs, ms, vs, h, h' => by
    simp only [RepF] at h
    obtain ⟨v, w, rfl, h1, h2⟩ := h
    show RepF K I (dMrg (dPut fs p.1 p.2) r) (mergeK (L2.putK vs p.1 v) w)
    exact repF_mrgK h2 (h'.putK h1)

/-! ### a dict of the store -/
/-- what a dict with keys of ints and texts holds, locked or not -/
def dctOf (S : Store) : D → Option (List (Key × D))
  | .obj a => match S a with
    | some (.dK kvs) => some kvs
    | some (.dZ _ _ kvs) => some kvs
    | _ => none
  | _ => none
theorem dct_rd (ok : Ok K I S F H) {x : D} {v : V} {kvs : List (Key × D)} (r : Rep K I x v) (h : dctOf S x = some kvs) : ∃ a vs, v = .ref a ∧ Rd H a (.dK vs) ∧ RepF K I kvs vs := by
  cases x with
  | obj a =>
    unfold dctOf at h
    cases e : S a with
    | none => simp [e] at h
    | some m =>
      cases m with
      | dK es =>
        simp [e] at h; subst h
        obtain ⟨_, vs, q, rf⟩ := ok.s a _ e
        exact ⟨a, vs, r.obj_of, .inl q, rf⟩
      | dZ o ws es =>
        simp [e] at h; subst h
        obtain ⟨_, q, rf⟩ := ok.s a _ e
        exact ⟨a, ws, r.obj_of, .inr ⟨o, q⟩, rf⟩
      | _ => simp [e] at h
  | _ => simp [dctOf] at h
theorem Ok.dkAt (ok : Ok K I S F H) {a : Addr} {kvs : List (Key × D)} (e : S a = some (.dK kvs)) : ∃ vs, H a = some (.dK vs) ∧ RepF K I kvs vs := (ok.s a _ e).2
theorem Ok.writeD (ok : Ok K I S F H) {a : Addr} {m : MO} {vs vs0 : List (Key × V)} {kvs : List (Key × D)} (e : S a = some m) (hh : H a = some (.dK vs0)) (r : RepF K I kvs vs) : Ok K I (supd S a (.dK kvs)) F (upd H a (.dK vs)) :=
  ok.write e (fun y z => by rw [hh] at z; cases z) ⟨vs, upd_same, r⟩
/-- a new dict -/
theorem Ok.newD (h : Ok K I S F H) {p : Addr} {vs : List (Key × V)} {kvs : List (Key × D)} (n : H p = none) (r : RepF K I kvs vs) : Ok K I (supd S p (.dK kvs)) F (upd H p (.dK vs)) := by
  refine ⟨fun a x e => ?_, fun a m e => ?_, fun a x e => ?_⟩
  · rw [upd_ne (ne_of_none (h.i a x e) n)]; exact h.i a x e
  · unfold supd at e
    by_cases q : a = p
    · subst q
      rw [if_pos rfl] at e; cases e
      exact ⟨h.freshI n, vs, upd_same, r⟩
    · rw [if_neg q] at e
      obtain ⟨h1, h2⟩ := h.s a m e
      refine ⟨h1, h2.mono (Same.refl I) (upd_ne q) fun dx q => ?_⟩
      rw [upd_ne (ne_of_none q n)]; exact q
  · obtain ⟨h1, h2, h3, h4⟩ := h.f a x e
    have ne : a ≠ p := ne_of_none h1 n
    exact ⟨by rw [upd_ne ne]; exact h1, h2, by unfold supd; rw [if_neg ne]; exact h3, h4⟩
/-- a hidden dict is laid into the store -/
theorem Ok.showD (h : Ok K I S F H) {p : Addr} {vs : List (Key × V)} {kvs : List (Key × D)} (e : F p = some (.dK vs)) (r : RepF K I kvs vs) : Ok K I (supd S p (.dK kvs)) (fun b => if b = p then none else F b) H := by
  obtain ⟨f1, f2, f3, f4⟩ := h.f p _ e
  refine ⟨h.i, fun a m q => ?_, fun a x q => ?_⟩
  · unfold supd at q
    by_cases z : a = p
    · subst z
      rw [if_pos rfl] at q; cases q
      exact ⟨f2, vs, f1, r⟩
    · rw [if_neg z] at q
      exact h.s a m q
  · by_cases z : a = p
    · rw [if_pos z] at q; cases q
    · rw [if_neg z] at q
      obtain ⟨h1, h2, h3, h4⟩ := h.f a x q
      exact ⟨h1, h2, by unfold supd; rw [if_neg z]; exact h3, h4⟩
end

/-! ### d[k], k in d, d.get(k), d.get(k, x) -/
def dDGet : D2 := fun x y S P => match dctOf S x, keyOf y with
  | some kvs, some k => (match dVal kvs k with
    | some d => P d S
    | none => False)
  | _, _ => False
def dDIn (neg : Bool) : D2 := fun y x S P => match dctOf S x, keyOf y with
  | some kvs, some k => P (.bl (if neg then !(dVal kvs k).isSome else (dVal kvs k).isSome)) S
  | _, _ => False
def dDGet1 (dd dk : DE) : DE := fun ρ S P => dd ρ S fun x S1 => (dctOf S1 x).isSome = true ∧ dk ρ S1 fun y S2 => match dctOf S2 x, keyOf y with
  | some kvs, some k => P ((dVal kvs k).getD .non) S2
  | _, _ => False
def dDGet2 (dd dk dx : DE) : DE := fun ρ S P => dd ρ S fun x S1 => (dctOf S1 x).isSome = true ∧ dk ρ S1 fun y S2 => dx ρ S2 fun z S3 => match dctOf S3 x, keyOf y with
  | some kvs, some k => P ((dVal kvs k).getD z) S3
  | _, _ => False
def dDPut (dd dk dv : DE) : DS := fun DD ρ S => dv ρ S fun z S1 => dd ρ S1 fun x S2 => dk ρ S2 fun y S3 => ∃ a kvs k, x = .obj a ∧ S3 a = some (.dK kvs) ∧ keyOf y = some k ∧ kvs.length < 100000 ∧ DD.nx ρ (supd S3 a (.dK (dPut kvs k z)))
def dDPop1 (dd dk : DE) : DE := fun ρ S P => dd ρ S fun x S1 => (dctOf S1 x).isSome = true ∧ dk ρ S1 fun y S2 => ∃ a kvs k v, x = .obj a ∧ S2 a = some (.dK kvs) ∧ keyOf y = some k ∧ dVal kvs k = some v ∧ P v (supd S2 a (.dK (dWo kvs k)))
def dDPop2 (dd dk dx : DE) : DE := fun ρ S P => dd ρ S fun x S1 => (dctOf S1 x).isSome = true ∧ dk ρ S1 fun y S2 => dx ρ S2 fun z S3 => ∃ a kvs k, x = .obj a ∧ S3 a = some (.dK kvs) ∧ keyOf y = some k ∧
  match dVal kvs k with
  | some v => P v (supd S3 a (.dK (dWo kvs k)))
  | none => P z S3
theorem some_ex {α : Type} {o : Option α} (h : o.isSome = true) : ∃ x, o = some x := by
  cases o with
  | none => cases h
  | some x => exact ⟨x, rfl⟩
section
variable {X : Cx} {pos pos' apos cpos : Pos} {o i e f value : Expr} {dd dk dv dx : DE} {n : Nat}
theorem je_dget (hr : DG.RoomG n X.A) (ho : JE X o dd) (hi : JE X i dk) (hs : NoSl i := by first | exact fun _ _ => rfl | (intro _ _; rfl)) : JE X (.Subscript o i pos) (dOp dDGet dd dk) :=
  je_of (pe_dget (by have := hr.r.un; omega) ho hi hs) fun σ H Q ⟨ρ, I, S, F, P, rs, ok, h, q⟩ => ⟨ρ, I, S, F, _, rs, ok, h, fun x S1 v I1 H1 h1 e1 ok1 r1 => ⟨ρ, I1, S1, F, _, rs.mono e1, ok1, h1, fun y S2 w I2 H2 h2 e2 ok2 r2 => by
    unfold dDGet at h2
    split at h2
    · rename_i kvs k h3 h4
      obtain ⟨a, vs, rfl, hd, rf⟩ := dct_rd ok2 (r1.mono e2) h3
      rw [keyOf_eq h4] at r2
      split at h2
      · rename_i d h5
        obtain ⟨u, hu, ru⟩ := (rf.valK (k := k)).1 d h5
        exact ⟨a, u, rfl, .inl ⟨vs, k, hd, kD_of r2, hu.symm⟩, q _ _ _ _ _ h2 (e1.trans e2) ok2 ru⟩
      · exact h2.elim
    · exact h2.elim⟩⟩
theorem get_of {K : PySem.W.Frag} {I F H : Hp} {S : Store} {x y : D} {v w : V} {kvs : List (Key × D)} {k : Key} (ok : Ok K I S F H) (r1 : Rep K I x v) (r2 : Rep K I y w) (h3 : dctOf S x = some kvs) (h4 : keyOf y = some k) :
    ∃ a o, v = .ref a ∧ DGet H a w o ∧ (∀ d, dVal kvs k = some d → ∃ u, o = some u ∧ Rep K I d u) ∧ (dVal kvs k = none → o = none) ∧ o.isSome = (dVal kvs k).isSome := by
  obtain ⟨a, vs, rfl, hd, rf⟩ := dct_rd ok r1 h3
  rw [keyOf_eq h4] at r2
  have z := rf.valK (k := k)
  refine ⟨a, valV vs k, rfl, .inl ⟨vs, k, hd, kD_of r2, rfl⟩, z.1, z.2, ?_⟩
  cases e : dVal kvs k with
  | none => rw [z.2 e]; rfl
  | some d => obtain ⟨u, hu, _⟩ := z.1 d e; rw [hu]; rfl
theorem je_din (hr : DG.RoomG n X.A) (hi : JE X i dk) (ho : JE X o dd) (hm : behindInMarks .In o = false := by rfl) : JE X (.Compare i [.In] [o] pos) (dOp (dDIn false) dk dd) :=
  je_of (pe_cmp (pc_din (by have := hr.r.un; omega) hi ho) hm) fun σ H Q ⟨ρ, I, S, F, P, rs, ok, h, q⟩ => ⟨ρ, I, S, F, _, rs, ok, h, fun y S1 w I1 H1 h1 e1 ok1 r1 => ⟨ρ, I1, S1, F, _, rs.mono e1, ok1, h1, fun x S2 v I2 H2 h2 e2 ok2 r2 => by
    unfold dDIn at h2
    split at h2
    · rename_i kvs k h3 h4
      obtain ⟨a, ov, rfl, g, _, _, z⟩ := get_of ok2 r2 (r1.mono e2) h3 h4
      refine ⟨a, ov, rfl, g, ?_⟩
      rw [z]
      exact q _ _ _ _ _ h2 (e1.trans e2) ok2 rep_bl
    · exact h2.elim⟩⟩
theorem je_dnotin (hr : DG.RoomG n X.A) (hi : JE X i dk) (ho : JE X o dd) (hm : behindInMarks .NotIn o = false := by rfl) : JE X (.Compare i [.NotIn] [o] pos) (dOp (dDIn true) dk dd) :=
  je_of (pe_cmp (pc_dnotin (by have := hr.r.un; omega) hi ho) hm) fun σ H Q ⟨ρ, I, S, F, P, rs, ok, h, q⟩ => ⟨ρ, I, S, F, _, rs, ok, h, fun y S1 w I1 H1 h1 e1 ok1 r1 => ⟨ρ, I1, S1, F, _, rs.mono e1, ok1, h1, fun x S2 v I2 H2 h2 e2 ok2 r2 => by
    unfold dDIn at h2
    split at h2
    · rename_i kvs k h3 h4
      obtain ⟨a, ov, rfl, g, _, _, z⟩ := get_of ok2 r2 (r1.mono e2) h3 h4
      refine ⟨a, ov, rfl, g, ?_⟩
      rw [z]
      exact q _ _ _ _ _ h2 (e1.trans e2) ok2 rep_bl
    · exact h2.elim⟩⟩
theorem jt_cmpP {op : CmpOp} {t : TE} {d : DE} (h : PC X op i o t) (u : ∀ σ H Q, upE X.K d σ H Q → t σ H Q) (hm : behindInMarks op o = false) : JT X (.Compare i [op] [o] pos) (dTest d) :=
  jt_of (pt_cmp h hm) fun σ H Q ⟨ρ, I, S, F, P, rs, ok, hh, q⟩ => u _ _ _ ⟨ρ, I, S, F, _, rs, ok, hh, fun x S1 v I1 H1 h1 e1 ok1 r1 => by
    cases x with
    | bl k => exact ⟨k, r1.bl_of, q k S1 I1 H1 h1 e1 ok1⟩
    | _ => exact h1.elim⟩
theorem up_din (neg : Bool) : ∀ σ H Q, upE X.K (dOp (dDIn neg) dk dd) σ H Q → (if neg then tDNotIn (upE X.K dk) (upE X.K dd) σ H Q else tDIn (upE X.K dk) (upE X.K dd) σ H Q) := fun σ H Q ⟨ρ, I, S, F, P, rs, ok, h, q⟩ => by
  have key : ∀ y S1 w I1 H1, dd ρ S1 (fun x S2 => dDIn neg y x S2 P) → Same I I1 → Ok X.K I1 S1 F H1 → Rep X.K I1 y w →
      upE X.K dd σ H1 fun v H2 => ∃ a o, v = .ref a ∧ DGet H2 a w o ∧ Q (.bl (if neg then !o.isSome else o.isSome)) H2 := fun y S1 w I1 H1 h1 e1 ok1 r1 =>
    ⟨ρ, I1, S1, F, _, rs.mono e1, ok1, h1, fun x S2 v I2 H2 h2 e2 ok2 r2 => by
      unfold dDIn at h2
      split at h2
      · rename_i kvs k h3 h4
        obtain ⟨a, ov, rfl, g, _, _, z⟩ := get_of ok2 r2 (r1.mono e2) h3 h4
        refine ⟨a, ov, rfl, g, ?_⟩
        rw [z]
        exact q _ _ _ _ _ h2 (e1.trans e2) ok2 rep_bl
      · exact h2.elim⟩
  cases neg with
  | true => exact ⟨ρ, I, S, F, _, rs, ok, h, key⟩
  | false => exact ⟨ρ, I, S, F, _, rs, ok, h, key⟩
theorem jt_din (hr : DG.RoomG n X.A) (hi : JE X i dk) (ho : JE X o dd) (hm : behindInMarks .In o = false := by rfl) : JT X (.Compare i [.In] [o] pos) (dTest (dOp (dDIn false) dk dd)) :=
  jt_cmpP (pc_din (by have := hr.r.un; omega) hi ho) (up_din false) hm
theorem jt_dnotin (hr : DG.RoomG n X.A) (hi : JE X i dk) (ho : JE X o dd) (hm : behindInMarks .NotIn o = false := by rfl) : JT X (.Compare i [.NotIn] [o] pos) (dTest (dOp (dDIn true) dk dd)) :=
  jt_cmpP (pc_dnotin (by have := hr.r.un; omega) hi ho) (up_din true) hm
theorem je_dget1 (hr : DG.RoomG n X.A) (ho : JE X o dd) (he : JE X e dk) (m : M1 X o "get" apos e cpos := by exact ⟨rfl, rfl, rfl, rfl⟩) : JE X (.Call (.Attribute o "get" apos) [e] [] cpos) (dDGet1 dd dk) :=
  je_of (pe_dget1 (by have := hr.r.un; omega) ho he m) fun σ H Q ⟨ρ, I, S, F, P, rs, ok, h, q⟩ => ⟨ρ, I, S, F, _, rs, ok, h, fun x S1 v I1 H1 ⟨hx, h1⟩ e1 ok1 r1 => by
    obtain ⟨es, hx⟩ := some_ex hx
    obtain ⟨a, vs, rfl, hd, _⟩ := dct_rd ok1 r1 hx
    refine ⟨a, rfl, .inl ⟨vs, hd⟩, ρ, I1, S1, F, _, rs.mono e1, ok1, h1, fun y S2 w I2 H2 h2 e2 ok2 r2 => ?_⟩
    split at h2
    · rename_i kvs k h3 h4
      obtain ⟨a', ov, e', g, z1, z2, _⟩ := get_of ok2 (r1.mono e2) r2 h3 h4
      cases e'
      refine ⟨ov, g, ?_⟩
      cases e5 : dVal kvs k with
      | none =>
        rw [z2 e5]
        rw [e5] at h2
        exact q _ _ _ _ _ h2 (e1.trans e2) ok2 rep_non
      | some d =>
        obtain ⟨u, rfl, ru⟩ := z1 d e5
        rw [e5] at h2
        exact q _ _ _ _ _ h2 (e1.trans e2) ok2 ru
    · exact h2.elim⟩
theorem je_dget2 (hr : DG.RoomG n X.A) (ho : JE X o dd) (he : JE X e dk) (hf : JE X f dx) (m : M2 X o "get" apos e f cpos := by exact ⟨rfl, rfl, rfl, rfl⟩) : JE X (.Call (.Attribute o "get" apos) [e, f] [] cpos) (dDGet2 dd dk dx) :=
  je_of (pe_dget2 (by have := hr.r.un; omega) ho he hf m) fun σ H Q ⟨ρ, I, S, F, P, rs, ok, h, q⟩ => ⟨ρ, I, S, F, _, rs, ok, h, fun x S1 v I1 H1 ⟨hx, h1⟩ e1 ok1 r1 => by
    obtain ⟨es, hx⟩ := some_ex hx
    obtain ⟨a, vs, rfl, hd, _⟩ := dct_rd ok1 r1 hx
    refine ⟨a, rfl, .inl ⟨vs, hd⟩, ρ, I1, S1, F, _, rs.mono e1, ok1, h1, fun y S2 w I2 H2 h2 e2 ok2 r2 => ⟨ρ, I2, S2, F, _, rs.mono (e1.trans e2), ok2, h2, fun z S3 zv I3 H3 h3' e3 ok3 r3 => ?_⟩⟩
    split at h3'
    · rename_i kvs k h3 h4
      obtain ⟨a', ov, e', g, z1, z2, _⟩ := get_of ok3 ((r1.mono e2).mono e3) (r2.mono e3) h3 h4
      cases e'
      refine ⟨ov, g, ?_⟩
      cases e5 : dVal kvs k with
      | none =>
        rw [z2 e5]
        rw [e5] at h3'
        exact q _ _ _ _ _ h3' ((e1.trans e2).trans e3) ok3 r3
      | some d =>
        obtain ⟨u, rfl, ru⟩ := z1 d e5
        rw [e5] at h3'
        exact q _ _ _ _ _ h3' ((e1.trans e2).trans e3) ok3 ru
    · exact h3'.elim⟩
theorem js_dput (hr : DG.RoomG n X.A) (ho : JE X o dd) (hi : JE X i dk) (hv : JE X value dv) (hs : swapsWith value (some (.Subscript o i pos')) pos.line X.env = pure false := by rfl) : JS X (.Assign [.Subscript o i pos'] value pos) (dDPut dd dk dv) :=
  js_of (ps_dput (by have := hr.r.un; omega) ho hi hv hs) fun D σ H ⟨ρ, I, S, F, DD, rs, ok, h, q⟩ => ⟨ρ, I, S, F, _, rs, ok, h, fun z S1 zv I1 H1 h1 e1 ok1 r1 => ⟨ρ, I1, S1, F, _, rs.mono e1, ok1, h1, fun x S2 v I2 H2 h2 e2 ok2 r2 =>
    ⟨ρ, I2, S2, F, _, rs.mono (e1.trans e2), ok2, h2, fun y S3 w I3 H3 ⟨a, kvs, k, ex, es, ek, hl, h3⟩ e3 ok3 r3 => by
      subst ex
      obtain ⟨vs, hh, rf⟩ := ok3.dkAt es
      rw [keyOf_eq ek] at r3
      have hl2 : vs.length < sizeLine := by rw [rf.lenK]; exact Nat.lt_of_lt_of_le hl (by decide)
      refine ⟨a, upd H3 a (.dK (L2.putK vs k zv)), (r2.mono e3).obj_of, ?_, q.nx _ _ _ _ _ h3 ((e1.trans e2).trans e3) (ok3.writeD es hh (rf.putK ((r1.mono e2).mono e3))) (rs.mono ((e1.trans e2).trans e3))⟩
      rw [kD_of r3]
      exact DPut.k hh hl2⟩⟩⟩
theorem je_dpop1 (ho : JE X o dd) (he : JE X e dk) (m : M1 X o "pop" apos e cpos := by exact ⟨rfl, rfl, rfl, rfl⟩) : JE X (.Call (.Attribute o "pop" apos) [e] [] cpos) (dDPop1 dd dk) :=
  je_of (pe_dpop1 ho he m) fun σ H Q ⟨ρ, I, S, F, P, rs, ok, h, q⟩ => ⟨ρ, I, S, F, _, rs, ok, h, fun x S1 v I1 H1 ⟨hx, h1⟩ e1 ok1 r1 => by
    obtain ⟨es, hx⟩ := some_ex hx
    obtain ⟨a, vs, rfl, hd, _⟩ := dct_rd ok1 r1 hx
    refine ⟨a, rfl, .inl ⟨vs, hd⟩, ρ, I1, S1, F, _, rs.mono e1, ok1, h1, fun y S2 w I2 H2 ⟨b, kvs, k, d, ex, es2, ek, hv, h2⟩ e2 ok2 r2 => ?_⟩
    subst ex
    cases r1.obj_of
    obtain ⟨ws, hh, rf⟩ := ok2.dkAt es2
    rw [keyOf_eq ek] at r2
    obtain ⟨u, hu, ru⟩ := (rf.valK (k := k)).1 d hv
    exact ⟨ws, k, u, hh, kD_of r2, hu, q _ _ _ _ _ h2 (e1.trans e2) (ok2.writeD es2 hh rf.dropK) ru⟩⟩
theorem je_dpop2 (ho : JE X o dd) (he : JE X e dk) (hf : JE X f dx) (m : M2 X o "pop" apos e f cpos := by exact ⟨rfl, rfl, rfl, rfl⟩) : JE X (.Call (.Attribute o "pop" apos) [e, f] [] cpos) (dDPop2 dd dk dx) :=
  je_of (pe_dpop2 ho he hf m) fun σ H Q ⟨ρ, I, S, F, P, rs, ok, h, q⟩ => ⟨ρ, I, S, F, _, rs, ok, h, fun x S1 v I1 H1 ⟨hx, h1⟩ e1 ok1 r1 => by
    obtain ⟨es, hx⟩ := some_ex hx
    obtain ⟨a, vs, rfl, hd, _⟩ := dct_rd ok1 r1 hx
    refine ⟨a, rfl, .inl ⟨vs, hd⟩, ρ, I1, S1, F, _, rs.mono e1, ok1, h1, fun y S2 w I2 H2 h2 e2 ok2 r2 => ⟨ρ, I2, S2, F, _, rs.mono (e1.trans e2), ok2, h2, fun z S3 zv I3 H3 ⟨b, kvs, k, ex, es3, ek, h3⟩ e3 ok3 r3 => ?_⟩⟩
    subst ex
    cases r1.obj_of
    obtain ⟨ws, hh, rf⟩ := ok3.dkAt es3
    have r2' := r2.mono e3
    rw [keyOf_eq ek] at r2'
    refine ⟨ws, k, hh, kD_of r2', fun u hu => ?_, fun hn => ?_⟩
    · split at h3
      · rename_i d hd2
        obtain ⟨u', hu', ru⟩ := (rf.valK (k := k)).1 d hd2
        rw [hu'] at hu
        cases hu
        exact q _ _ _ _ _ h3 ((e1.trans e2).trans e3) (ok3.writeD es3 hh rf.dropK) ru
      · rename_i hd2
        rw [(rf.valK (k := k)).2 hd2] at hu
        cases hu
    · split at h3
      · rename_i d hd2
        obtain ⟨u', hu', ru⟩ := (rf.valK (k := k)).1 d hd2
        rw [hu'] at hn
        cases hn
      · exact q _ _ _ _ _ h3 ((e1.trans e2).trans e3) ok3 r3⟩
end

/-! ### {} and displays -/
def dNewD : DE := fun _ S P => ∀ p, S p = none → P (.obj p) (supd S p (.dK []))
def dPrs : List (DE × DE) → DSt → Store → (List (D × D) → Store → Prop) → Prop
  | [], _, S, P => P [] S
  | t :: r, ρ, S, P => t.1 ρ S fun k S1 => t.2 ρ S1 fun v S2 => dPrs r ρ S2 fun ps S3 => P ((k, v) :: ps) S3
def dkvsOf : List (D × D) → Option (List (Key × D))
  | [] => some []
  | (x, y) :: r => match keyOf x, dkvsOf r with
    | some k, some ks => some ((k, y) :: ks)
    | _, _ => none
/-- a display of unlike keys -/
def dDisp (prs : List (DE × DE)) : DE := fun ρ S P => dPrs prs ρ S fun ps S1 => match dkvsOf ps with
  | some kvs => kvs.length ≤ 15 ∧ (kvs.map (·.1)).Nodup ∧ ∀ p, S1 p = none → P (.obj p) (supd S1 p (.dK kvs))
  | none => False
section
variable {X : Cx} {pos : Pos} {k v : Expr} {ks : List (Option Expr)} {vs : List Expr} {dk dv : DE} {prs : List (DE × DE)}
theorem je_dnew : JE X (.Dict [] [] pos) dNewD := je_of pe_dnewK fun σ H Q ⟨ρ, I, S, F, P, rs, ok, h, q⟩ => fun p hp =>
  q _ _ _ _ _ (h p (ok.freshS hp)) (Same.refl I) (ok.newD hp RepF.nilK) (by simp only [Rep])
abbrev JPs (X : Cx) (pos : Pos) (keys : List (Option Expr)) (values : List Expr) (prs : List (DE × DE)) : Prop := PPs X pos keys values (prs.map fun p => (upE X.K p.1, upE X.K p.2))
theorem jps_nil : JPs X pos [] [] [] := pps_nil
theorem jps_cons (hk : JE X k dk) (hv : JE X v dv) (hr : JPs X pos ks vs prs) : JPs X pos (some k :: ks) (v :: vs) ((dk, dv) :: prs) := pps_cons hk hv hr
def RepP (K : PySem.W.Frag) (I : Hp) : List (D × D) → List (V × V) → Prop
  | [], ws => ws = []
  | p :: r, ws => ∃ u v w, ws = (u, v) :: w ∧ Rep K I p.1 u ∧ Rep K I p.2 v ∧ RepP K I r w
theorem repP_mono {K : PySem.W.Frag} {I I' : Hp} (e : Same I I') : ∀ {ps : List (D × D)} {ws : List (V × V)}, RepP K I ps ws → RepP K I' ps ws
  | [], _, h => by simpa only [RepP] using h
  | p :: r, _, h => by
    simp only [RepP] at h ⊢
    obtain ⟨u, v, w, rfl, h1, h2, h3⟩ := h
    exact ⟨u, v, w, rfl, h1.mono e, h2.mono e, repP_mono e h3⟩
theorem up_pairs {K : PySem.W.Frag} {F : Hp} {σ : L2.St} : ∀ (prs : List (DE × DE)) {ρ : DSt} {I H : Hp} {S : Store} {P : List (D × D) → Store → Prop} {Q : List (V × V) → Hp → Prop}, RepS K I ρ σ → Ok K I S F H → dPrs prs ρ S P →
    (∀ ps S' ws I' H', P ps S' → Same I I' → Ok K I' S' F H' → RepP K I' ps ws → Q ws H') → tPairs (prs.map fun p => (upE K p.1, upE K p.2)) σ H Q
  | [], ρ, I, H, S, P, Q, rs, ok, h, q => q _ _ _ _ _ h (Same.refl I) ok (by simp only [RepP])
  | t :: r, ρ, I, H, S, P, Q, rs, ok, h, q => by
    show upE K t.1 σ H fun x H1 => upE K t.2 σ H1 fun y H2 => tPairs (r.map fun p => (upE K p.1, upE K p.2)) σ H2 fun ps H3 => Q ((x, y) :: ps) H3
    exact ⟨ρ, I, S, F, _, rs, ok, h, fun x S1 v I1 H1 h1 e1 ok1 r1 => ⟨ρ, I1, S1, F, _, rs.mono e1, ok1, h1, fun y S2 w I2 H2 h2 e2 ok2 r2 =>
      up_pairs r (rs.mono (e1.trans e2)) ok2 h2 fun ps S3 ws I3 H3 h3 e3 ok3 r3 => q _ _ _ _ _ h3 ((e1.trans e2).trans e3) ok3 (by
        simp only [RepP]
        exact ⟨v, w, ws, rfl, (r1.mono e2).mono e3, r2.mono e3, r3⟩)⟩⟩
theorem dkvsOf_rep {K : PySem.W.Frag} {I : Hp} : ∀ {ps : List (D × D)} {kvs : List (Key × D)} {ws : List (V × V)}, RepP K I ps ws → dkvsOf ps = some kvs → ∃ vs : List (Key × V), ws = vs.map (fun kv => (kV kv.1, kv.2)) ∧ RepF K I kvs vs
  | [], kvs, ws, h, e => by
    simp only [RepP] at h
    simp only [dkvsOf, Option.some.injEq] at e
    subst h e
    exact ⟨[], rfl, RepF.nilK⟩
  | (x, y) :: r, kvs, ws, h, e => by
    simp only [RepP] at h
    obtain ⟨u, v, w, rfl, h1, h2, h3⟩ := h
    unfold dkvsOf at e
    cases e1 : keyOf x with
    | none => rw [e1] at e; cases e
    | some k =>
      cases e2 : dkvsOf r with
      | none => rw [e1, e2] at e; cases e
      | some js =>
        rw [e1, e2] at e
        cases e
        obtain ⟨vs, rfl, rf⟩ := dkvsOf_rep h3 e2
        rw [keyOf_eq e1] at h1
        exact ⟨(k, v) :: vs, by rw [kD_of h1]; rfl, RepF.consK (p := (k, y)) h2 rf⟩
theorem mergeK_nd {vs : List (Key × V)} (h : (vs.map (·.1)).Nodup) : mergeK [] vs = vs := by
  have : ∀ (more acc : List (Key × V)), (more.map (·.1)).Nodup → (∀ k ∈ more.map (·.1), k ∉ acc.map (·.1)) → mergeK acc more = acc ++ more := by
    intro more
    induction more with
    | nil => intro acc _ _; simp [mergeK]
    | cons p r ih =>
      intro acc h h2
      simp only [List.map_cons, List.nodup_cons] at h
      have hn : L2.putK acc p.1 p.2 = acc ++ [(p.1, p.2)] := by
        unfold L2.putK
        have : ¬ (acc.any fun kv => decide (kv.1 = p.1)) = true := by
          intro z
          rw [List.any_eq_true] at z
          obtain ⟨x, hx, e⟩ := z
          exact h2 p.1 (by simp) (List.mem_map.2 ⟨x, hx, of_decide_eq_true e⟩)
        rw [if_neg this]
      show mergeK (L2.putK acc p.1 p.2) r = _
      rw [hn, ih _ h.2 fun k hk => ?_]
      · simp
      · simp only [List.map_append, List.mem_append, not_or]
        refine ⟨h2 k (by simp [hk]), ?_⟩
        simp only [List.map_cons, List.map_nil, List.mem_singleton]
        intro e
        subst e
        exact h.1 hk
  simpa using this vs [] h (by simp)
theorem Ok.unhide {K : PySem.W.Frag} {I F H : Hp} {S : Store} {p : Addr} {o : HO} (h : Ok K I S (upd F p o) H) (n : F p = none) : Ok K I S F H := h.less fun a x e => by
  rw [upd_ne (fun z => by rw [z, n] at e; cases e)]; exact e
theorem je_disp (h : JPs X pos ks vs prs) (hall : ks.all (·.isSome) = true := by rfl) (hl : ks.length = vs.length := by rfl) (h0 : ks ≠ [] := by exact fun z => nomatch z) (h15 : ks.length ≤ 15 := by decide) : JE X (.Dict ks vs pos) (dDisp prs) :=
  je_of (pe_disp h hall hl h0 h15) fun σ H Q ⟨ρ, I, S, F, P, rs, ok, h, q⟩ => by
    intro p hp
    have hF : (upd F p (.dK [])) p = some (.dK []) := upd_same
    have ok1 : Ok X.K I S (upd F p (.dK [])) (upd H p (.dK [])) := ok.newF hp ⟨fun y z => (by cases z), fun y z => (by cases z)⟩
    have hn : F p = none := ok.freshF hp
    refine up_pairs prs rs ok1 h fun ps S1 ws I1 H1 h1 e1 ok2 r1 => ?_
    split at h1
    · rename_i kvs hk
      obtain ⟨vs', ew, rf⟩ := dkvsOf_rep r1 hk
      have hd := (ok2.f p _ hF)
      refine ⟨hd.1, vs', ew, by rw [rf.lenK]; exact h1.1, ?_⟩
      rw [mergeK_nd (by rw [rf.keysK]; exact h1.2.1)]
      have ok3 := ok2.writeF (o' := .dK vs') hF ⟨fun y z => (by cases z), fun y z => (by cases z)⟩
      rw [upd_upd] at ok3
      have ok4 := ok3.showD (kvs := kvs) upd_same rf
      refine q _ _ _ _ _ (h1.2.2 p hd.2.2.1) e1 (ok4.less fun a x ea => ?_) (by simp only [Rep])
      have ne : a ≠ p := fun z => by rw [z, hn] at ea; cases ea
      show (if a = p then none else upd F p (.dK vs') a) = some x
      rw [if_neg ne, upd_ne ne]; exact ea
    · exact h1.elim
end

/-! ### locks -/
/-- what is to hold behind a lock of p -/
def lockEnds (DD : DEnds) (p : Addr) (o : Obj) (vs : List (Key × V)) (kvs : List (Key × D)) : DEnds where
  nx := fun ρ S => S p = some (.dZ o vs kvs) ∧ DD.nx ρ (supd S p (.dK kvs))
  rt := fun x S => S p = some (.dZ o vs kvs) ∧ DD.rt x (supd S p (.dK kvs))
  bk := fun ρ S => S p = some (.dZ o vs kvs) ∧ DD.bk ρ (supd S p (.dK kvs))
  ct := fun ρ S => S p = some (.dZ o vs kvs) ∧ DD.ct ρ (supd S p (.dK kvs))
def dLock (t : DS) : DS := fun DD ρ S => t DD ρ S ∨ ∃ p kvs, S p = some (.dK kvs) ∧ ∀ o vs, t (lockEnds DD p o vs kvs) ρ (supd S p (.dZ o vs kvs))
def dLockE (t : DE) : DE := fun ρ S P => t ρ S P ∨ ∃ p kvs, S p = some (.dK kvs) ∧ ∀ o vs, t ρ (supd S p (.dZ o vs kvs)) fun x S' => S' p = some (.dZ o vs kvs) ∧ P x (supd S' p (.dK kvs))
section
variable {K : PySem.W.Frag} {I F H : Hp} {S : Store}
theorem Ok.lockD (ok : Ok K I S F H) {p : Addr} {kvs : List (Key × D)} {vs : List (Key × V)} (o : Obj) (e : S p = some (.dK kvs)) (hh : H p = some (.dK vs)) (r : RepF K I kvs vs) : Ok K I (supd S p (.dZ o vs kvs)) F (upd H p (.frz o (.dK vs))) :=
  ok.write e (fun y z => by rw [hh] at z; cases z) ⟨upd_same, r⟩
theorem Ok.unlockD (ok : Ok K I S F H) {p : Addr} {kvs : List (Key × D)} {vs : List (Key × V)} {o : Obj} (e : S p = some (.dZ o vs kvs)) : H p = some (.frz o (.dK vs)) ∧ Ok K I (supd S p (.dK kvs)) F (upd H p (.dK vs)) := by
  obtain ⟨_, h1, h2⟩ := ok.s p _ e
  exact ⟨h1, ok.write e (fun y z => by rw [h1] at z; cases z) ⟨vs, upd_same, h2⟩⟩
variable {X : Cx} {st : Stmt} {e : Expr} {t : DS} {d : DE}
theorem ps_or {a b : TS} (h : PS X st a) (h' : PS X st b) : PS X st (fun D σ H => a D σ H ∨ b D σ H) := ⟨fun pins s σ H D I hw => hw.elim (h.run pins s σ H D I) (h'.run pins s σ H D I)⟩
theorem pe_orE {a b : TE} (h : PE X e a) (h' : PE X e b) : PE X e (fun σ H Q => a σ H Q ∨ b σ H Q) := ⟨fun pins s σ H Q I hw => hw.elim (h.run pins s σ H Q I) (h'.run pins s σ H Q I)⟩
theorem js_lock (h : JS X st t) : JS X st (dLock t) := js_of (ps_or h (ps_lock h)) fun D σ H ⟨ρ, I, S, F, DD, rs, ok, h, q⟩ => by
  rcases h with h | ⟨p, kvs, e, h⟩
  · exact .inl ⟨ρ, I, S, F, DD, rs, ok, h, q⟩
  · obtain ⟨vs, hh, r⟩ := ok.dkAt e
    refine .inr ⟨p, _, hh, trivial, fun od => ⟨ρ, I, _, F, _, rs, ok.lockD od e hh r, h od vs, ?_⟩⟩
    refine ⟨fun ρ1 S1 σ1 I1 H1 h1 e1 ok1 rs1 => ?_, fun x S1 v I1 H1 h1 e1 ok1 r1 => ?_, fun ρ1 S1 σ1 I1 H1 h1 e1 ok1 rs1 => ?_, fun ρ1 S1 σ1 I1 H1 h1 e1 ok1 rs1 => ?_⟩
    · obtain ⟨z, ok2⟩ := ok1.unlockD h1.1
      exact ⟨z, q.nx _ _ _ _ _ h1.2 e1 ok2 rs1⟩
    · obtain ⟨z, ok2⟩ := ok1.unlockD h1.1
      exact ⟨z, q.rt _ _ _ _ _ h1.2 e1 ok2 r1⟩
    · obtain ⟨z, ok2⟩ := ok1.unlockD h1.1
      exact ⟨z, q.bk _ _ _ _ _ h1.2 e1 ok2 rs1⟩
    · obtain ⟨z, ok2⟩ := ok1.unlockD h1.1
      exact ⟨z, q.ct _ _ _ _ _ h1.2 e1 ok2 rs1⟩
theorem je_lock (h : JE X e d) : JE X e (dLockE d) := je_of (pe_orE h (pe_lock h)) fun σ H Q ⟨ρ, I, S, F, P, rs, ok, h, q⟩ => by
  rcases h with h | ⟨p, kvs, e, h⟩
  · exact .inl ⟨ρ, I, S, F, P, rs, ok, h, q⟩
  · obtain ⟨vs, hh, r⟩ := ok.dkAt e
    refine .inr ⟨p, _, hh, trivial, fun od => ⟨ρ, I, _, F, _, rs, ok.lockD od e hh r, h od vs, fun x S1 v I1 H1 h1 e1 ok1 r1 => ?_⟩⟩
    obtain ⟨z, ok2⟩ := ok1.unlockD h1.1
    exact ⟨z, q _ _ _ _ _ h1.2 e1 ok2 r1⟩
end

/-! ### a locked dict walked -/
/-- its keys -/
def dItKeys (d : DE) : DI := fun ρ S P => d ρ S fun x S1 => ∃ a o vs kvs, x = .obj a ∧ S1 a = some (.dZ o vs kvs) ∧ P (kvs.map fun kv => kD kv.1) (some fun S => S a = some (.dZ o vs kvs)) S1
/-- its pairs, its values -/
def dItItems (d : DE) : DI := fun ρ S P => d ρ S fun x S1 => ∃ a o vs kvs, x = .obj a ∧ S1 a = some (.dZ o vs kvs) ∧ P (kvs.map fun kv => .tup [kD kv.1, kv.2]) (some fun S => S a = some (.dZ o vs kvs)) S1
def dItVals (d : DE) : DI := fun ρ S P => d ρ S fun x S1 => ∃ a o vs kvs, x = .obj a ∧ S1 a = some (.dZ o vs kvs) ∧ P (kvs.map fun kv => kv.2) (some fun S => S a = some (.dZ o vs kvs)) S1
section
variable {X : Cx} {tg e : Expr} {d : DE} {apos cpos : Pos}
theorem ji_keys (he : JE X e d) : JI X tg e (dItKeys d) := ji_of (pi_keys he) fun σ H R ⟨ρ, I, S, F, P, rs, ok, h, q⟩ => ⟨ρ, I, S, F, _, rs, ok, h, fun x S1 v I1 H1 ⟨a, o, vs, kvs, ex, es, h1⟩ e1 ok1 r1 => by
  subst ex
  obtain ⟨_, hh, rf⟩ := ok1.s a _ es
  refine ⟨a, o, r1.obj_of, .inl ⟨vs, hh, q _ _ _ _ _ _ h1 e1 ok1 ⟨fun I2 S2 F2 H2 e2 ok2 pk i d hd => ?_, fun I2 S2 F2 H2 e2 ok2 pk i hi => ?_⟩⟩⟩
  · obtain ⟨_, hh2, rf2⟩ := ok2.s a _ (show S2 a = _ from pk)
    rw [List.getElem?_map] at hd
    cases e3 : kvs[i]? with
    | none => rw [e3] at hd; cases hd
    | some p =>
      rw [e3] at hd
      cases hd
      obtain ⟨u, hu, _⟩ := rf2.getK e3
      refine ⟨⟨hh2, by rw [List.getElem?_eq_some_iff] at hu; exact hu.1⟩, fun y H3 hy => ?_⟩
      obtain ⟨rfl, k, w, hk, rfl⟩ := hy
      rw [hu] at hk
      cases hk
      exact ⟨I2, Same.refl I2, ok2, kD_rep _⟩
  · obtain ⟨_, hh2, rf2⟩ := ok2.s a _ (show S2 a = _ from pk)
    refine ⟨hh2, ?_⟩
    rw [rf2.lenK]
    rw [List.length_map] at hi
    omega⟩
theorem ji_vals (he : JE X e d) (hbase : attributeBase e "values" X.env (eval e X.env) = eval e X.env := by rfl) (hline : (apos.endLine == cpos.line) = true := by rfl) : JI X tg (.Call (.Attribute e "values" apos) [] [] cpos) (dItVals d) :=
  ji_of (pi_values he hbase hline) fun σ H R ⟨ρ, I, S, F, P, rs, ok, h, q⟩ => ⟨ρ, I, S, F, _, rs, ok, h, fun x S1 v I1 H1 ⟨a, o, vs, kvs, ex, es, h1⟩ e1 ok1 r1 => by
    subst ex
    obtain ⟨_, hh, rf⟩ := ok1.s a _ es
    refine ⟨a, o, vs, r1.obj_of, hh, q _ _ _ _ _ _ h1 e1 ok1 ⟨fun I2 S2 F2 H2 e2 ok2 pk i d hd => ?_, fun I2 S2 F2 H2 e2 ok2 pk i hi => ?_⟩⟩
    · obtain ⟨_, hh2, rf2⟩ := ok2.s a _ (show S2 a = _ from pk)
      rw [List.getElem?_map] at hd
      cases e3 : kvs[i]? with
      | none => rw [e3] at hd; cases hd
      | some p =>
        rw [e3] at hd
        cases hd
        obtain ⟨u, hu, ru⟩ := rf2.getK e3
        refine ⟨⟨hh2, by rw [List.getElem?_eq_some_iff] at hu; exact hu.1⟩, fun y H3 hy => ?_⟩
        obtain ⟨rfl, k, hk⟩ := hy
        rw [hu] at hk
        cases hk
        exact ⟨I2, Same.refl I2, ok2, ru⟩
    · obtain ⟨_, hh2, rf2⟩ := ok2.s a _ (show S2 a = _ from pk)
      refine ⟨hh2, ?_⟩
      rw [rf2.lenK]
      rw [List.length_map] at hi
      omega⟩
theorem ji_items {elts : List Expr} {kk : Nat} {tpos : Pos} (he : JE X e d) (hbase : attributeBase e "items" X.env (eval e X.env) = eval e X.env := by rfl) (hline : (apos.endLine == cpos.line) = true := by rfl) :
    JI X (.Tuple elts kk tpos) (.Call (.Attribute e "items" apos) [] [] cpos) (dItItems d) :=
  ji_of (pi_items he hbase hline) fun σ H R ⟨ρ, I, S, F, P, rs, ok, h, q⟩ => ⟨ρ, I, S, F, _, rs, ok, h, fun x S1 v I1 H1 ⟨a, o, vs, kvs, ex, es, h1⟩ e1 ok1 r1 => by
    subst ex
    obtain ⟨_, hh, rf⟩ := ok1.s a _ es
    refine ⟨a, o, vs, r1.obj_of, hh, q _ _ _ _ _ _ h1 e1 ok1 ⟨fun I2 S2 F2 H2 e2 ok2 pk i d hd => ?_, fun I2 S2 F2 H2 e2 ok2 pk i hi => ?_⟩⟩
    · obtain ⟨_, hh2, rf2⟩ := ok2.s a _ (show S2 a = _ from pk)
      rw [List.getElem?_map] at hd
      cases e3 : kvs[i]? with
      | none => rw [e3] at hd; cases hd
      | some p =>
        rw [e3] at hd
        cases hd
        obtain ⟨u, hu, ru⟩ := rf2.getK e3
        refine ⟨⟨hh2, by rw [List.getElem?_eq_some_iff] at hu; exact hu.1⟩, fun y H3 hy => ?_⟩
        obtain ⟨T, k, w, hk, rfl, hT, rfl⟩ := hy
        rw [hu] at hk
        cases hk
        exact ⟨_, same_new (ok2.freshI hT), ok2.newI hT, rep_new_tup (ok2.freshI hT) (RepL.cons (kD_rep _) (RepL.one ru))⟩
    · obtain ⟨_, hh2, rf2⟩ := ok2.s a _ (show S2 a = _ from pk)
      refine ⟨hh2, ?_⟩
      rw [rf2.lenK]
      rw [List.length_map] at hi
      omega⟩
end
end DL

/-! Dict comprehensions over data: one for, two fors. -/
namespace DL
open PySem PySem.Spec PyProof.Rows L2

/-! ### two fors, by the hand layer's parts -/
section
variable {X : Cx} {kx vx tg iter tg1 iter1 : Expr} {ifs ifs1 : List Expr} {scope : Scope} {pos : Pos}
/-- what the block does behind the first clause, from its slots, its heap -/
def tInD (wi1 : TI) (g1 : TG) (tt1 : TT) (tk tv : TE) (own1 : List Nat) (D : Addr) : L2.St → Hp → (Hp → Prop) → Prop := fun σ H Nx =>
  wi1 σ H fun J H4 => ∃ V1 : Nat → Nat → Hp → Prop, (∃ m, V1 0 m H4) ∧ ∀ j k H5, V1 j k H5 →
    (J.stop j H5 ∧ Nx H5) ∨ (J.go j H5 ∧ ∃ N1 : Hp → Prop, (∀ H6, N1 H6 → ∃ k', k' < k ∧ V1 (j + 1) k' H6) ∧ ∀ y H6, J.yld j H5 y H6 → g1 y (wipe σ own1) H6 fun σ3 H7 => wipe σ3 own1 = wipe σ own1 ∧ tt1 σ3 H7 fun b H8 =>
      if b = true then tk σ3 H8 fun ky H9 => tv σ3 H9 fun z H10 => ∃ kvs k, ky = kV k ∧ H10 D = some (.dK kvs) ∧ kvs.length < sizeLine ∧ N1 (upd H10 D (.dK (L2.putK kvs k z))) else N1 H8)
def tDc2 (wi : TI) (g : TG) (tt : TT) (wi1 : TI) (g1 : TG) (tt1 : TT) (tk tv : TE) (own own1 : List Nat) : TE := fun σ H Q => wi σ H fun J H1 => ∀ D, H1 D = none → ∃ V0 : Nat → Nat → Hp → Prop, (∃ m, V0 0 m (upd H1 D (.dK []))) ∧ ∀ i m H2, V0 i m H2 →
  (J.stop i H2 ∧ Q (.ref D) H2) ∨ (J.go i H2 ∧ ∃ N0 : Hp → Prop, (∀ H3, N0 H3 → ∃ m', m' < m ∧ V0 (i + 1) m' H3) ∧ ∀ x H3, J.yld i H2 x H3 → g x (wipe σ own) H3 fun σ2 H4 => wipe σ2 own = wipe σ own ∧ tt σ2 H4 fun b H5 =>
    if b = true then tInD wi1 g1 tt1 tk tv own1 D σ2 H5 N0 else N0 H5)
abbrev dc2E (kx vx tg iter tg1 iter1 : Expr) (ifs ifs1 : List Expr) (scope : Scope) (pos : Pos) : Expr := .DictComp kx vx [⟨tg, iter, ifs, 0⟩, ⟨tg1, iter1, ifs1, 0⟩] scope pos
/-- the tests of a clause -/
abbrev testsOf (cs : List Expr) (env : Env) : Sem Bool := forIn cs true fun c r => if r = true then do let ok ← isTrue c env (eval c env); pure (ForInStep.yield ok) else pure (ForInStep.yield r)
theorem turn_outD (it acc : Value) (env : Env) : compTurn (dc2E kx vx tg iter tg1 iter1 ifs ifs1 scope pos) 0 it acc env = (do
      standAt iter.pos
      match ← pyNext it with
      | none => pure (.done .next)
      | some u => (do
        letOwnedTupleGo tg it u
        assign tg env u
        let mut good := true
        for t in ifs do
          if good then good ← isTrue t env (eval t env)
        if good then
          let src ← eval iter1 env
          standAt iter1.pos
          let src ← foldedSetIterable iter1 env src
          let _ ← runOwn (.compStart (dc2E kx vx tg iter tg1 iter1 ifs ifs1 scope pos) 1 (← holding [src] (pyIter src)) acc env) env
        again (.compLoop (dc2E kx vx tg iter tg1 iter1 ifs ifs1 scope pos) 0 it acc env))) := by rfl
theorem turn_inD (it : Value) (D : Addr) (env : Env) : compTurn (dc2E kx vx tg iter tg1 iter1 ifs ifs1 scope pos) 1 it (.ref D) env = (do
      standAt iter1.pos
      match ← pyNext it with
      | none => pure (.done .next)
      | some u => (do
        letOwnedTupleGo tg1 it u
        assign tg1 env u
        let mut good := true
        for t in ifs1 do
          if good then good ← isTrue t env (eval t env)
        if good then
          (do
            let key ← eval kx env
            let val ← holding [key] (eval vx env)
            standAt { kx.pos with endLine := vx.pos.endLine, endCol := vx.pos.endCol }
            holding [key, val] (dictSet D key val))
        again (.compLoop (dc2E kx vx tg iter tg1 iter1 ifs ifs1 scope pos) 1 it (.ref D) env))) := by rfl
variable {prog : Program} {w : World} {A : Around} {R : Result → Shared → Prop} {s : Shared} {it acc : Value} {env : Env} {D : Addr}
abbrev nothing : Value → Shared → Prop := fun _ _ => False
theorem noE {α : Type} {t : Sem α} {Q : α → Shared → Prop} {M : Model} {E : Value → Shared → Prop} (h : wpAny M A t Q nothing s) : wpAny M A t Q E s := thnF h fun _ _ q => q
theorem loop_outD (hs : ∀ x, foldedSetIterable iter1 env x = pure x) (Iv : Nat → Shared → Prop)
    (step : ∀ n s, Iv n s → wpAny (model prog w) A (pyNext it) (fun r s1 => match r with
      | none => R (.ok .next) s1
      | some u => wpAny (model prog w) A (letOwnedTupleGo tg it u) (fun _ s2 => wpAny (model prog w) A (assign tg env u) (fun _ s3 => wpAny (model prog w) A (testsOf ifs env) (fun good s4 =>
          if good = true then wpAny (model prog w) A (eval iter1 env) (fun x s5 => wpAny (model prog w) A (pyIter x) (fun it1 s6 => codeAny (model prog w) A (.compStart (dc2E kx vx tg iter tg1 iter1 ifs ifs1 scope pos) 1 it1 acc env)
            (fun r s7 => ∃ fl, r = .ok fl ∧ ∃ m, m < n ∧ Iv m s7) s6) nothing s5) nothing s4
          else ∃ m, m < n ∧ Iv m s4) nothing s3) nothing s2) nothing s1) nothing s)
    (n : Nat) (h : Iv n s) : codeAny (model prog w) A (.compLoop (dc2E kx vx tg iter tg1 iter1 ifs ifs1 scope pos) 0 it acc env) R s := by
  refine codeAny_loop rfl Iv (fun n s hI => ?_) n h
  refine wpAny_noted (show wpAny _ A (compTurn (dc2E kx vx tg iter tg1 iter1 ifs ifs1 scope pos) 0 it acc env) _ _ s from ?_)
  rw [turn_outD]
  refine wpAny_bind (wpAny_standAt (wpAny_bind (thnF (step n s hI) fun r s1 h1 => ?_)))
  match r, h1 with
  | none, h1 => exact wpAny_pure h1
  | some u, h1 =>
    refine wpAny_bind (thnF h1 fun _ s2 h2 => wpAny_bind (thnF h2 fun _ s3 h3 => wpAny_bind (thnF h3 fun good s4 h4 => ?_)))
    cases good with
    | false => exact wpAny_pure ⟨rfl, h4⟩
    | true =>
      refine wpAny_bind (thnF h4 fun x s5 h5 => wpAny_bind (wpAny_standAt (wpAny_bind (wpAny_of_eq (hs x) (wpAny_bind (wpAny_holding (thnF h5 fun it1 s6 h6 => ?_)))))))
      refine wpAny_bind (wpAny_runOwn ?_)
      rw [Around.mark_none]
      refine codeAny_mono h6 fun r s7 ⟨fl, er, h7⟩ => ?_
      subst er
      first
        | exact wpAny_pure ⟨rfl, h7⟩
        | exact wpAny_bind (wpAny_pure (wpAny_pure ⟨rfl, h7⟩))
theorem loop_inD (Iv : Nat → Shared → Prop)
    (step : ∀ n s, Iv n s → wpAny (model prog w) A (pyNext it) (fun r s1 => match r with
      | none => R (.ok .next) s1
      | some u => wpAny (model prog w) A (letOwnedTupleGo tg1 it u) (fun _ s2 => wpAny (model prog w) A (assign tg1 env u) (fun _ s3 => wpAny (model prog w) A (testsOf ifs1 env) (fun good s4 =>
          if good = true then wpAny (model prog w) A (eval kx env) (fun key s5 => wpAny (model prog w) A (eval vx env) (fun val s6 => wpAny (model prog w) A (dictSet D key val) (fun _ s7 => ∃ m, m < n ∧ Iv m s7) nothing s6) nothing s5) nothing s4
          else ∃ m, m < n ∧ Iv m s4) nothing s3) nothing s2) nothing s1) nothing s)
    (n : Nat) (h : Iv n s) : codeAny (model prog w) A (.compLoop (dc2E kx vx tg iter tg1 iter1 ifs ifs1 scope pos) 1 it (.ref D) env) R s := by
  refine codeAny_loop rfl Iv (fun n s hI => ?_) n h
  refine wpAny_noted (show wpAny _ A (compTurn (dc2E kx vx tg iter tg1 iter1 ifs ifs1 scope pos) 1 it (.ref D) env) _ _ s from ?_)
  rw [turn_inD]
  refine wpAny_bind (wpAny_standAt (wpAny_bind (thnF (step n s hI) fun r s1 h1 => ?_)))
  match r, h1 with
  | none, h1 => exact wpAny_pure h1
  | some u, h1 =>
    refine wpAny_bind (thnF h1 fun _ s2 h2 => wpAny_bind (thnF h2 fun _ s3 h3 => wpAny_bind (thnF h3 fun good s4 h4 => ?_)))
    cases good with
    | false => exact wpAny_pure ⟨rfl, h4⟩
    | true => exact wpAny_bind (wpAny_bind (thnF h4 fun key s5 h5 => wpAny_bind (wpAny_holding (thnF h5 fun val s6 h6 => wpAny_bind (wpAny_standAt (wpAny_holding (thnF h6 fun _ s7 h7 => wpAny_pure ⟨rfl, h7⟩)))))))
/-- where the second clause starts -/
theorem start_inD (h0 : codeAny (model prog w) A (.compLoop (dc2E kx vx tg iter tg1 iter1 ifs ifs1 scope pos) 1 it acc env) R s)
    (h : wpAny (model prog w) A (pyIter it) (fun it' s' => codeAny (model prog w) A (.compLoop (dc2E kx vx tg iter tg1 iter1 ifs ifs1 scope pos) 1 it' acc env) R s') nothing s) :
    codeAny (model prog w) A (.compStart (dc2E kx vx tg iter tg1 iter1 ifs ifs1 scope pos) 1 it acc env) R s := by
  refine codeAny_of_tree (wpAny_notedAt (show wpAny _ A (compStart (dc2E kx vx tg iter tg1 iter1 ifs ifs1 scope pos) 1 it acc env) _ _ s from ?_))
  unfold compStart
  refine (show wpAny _ A (ask >>= _) _ _ s from wpAny_bind (wpAny_askSetting (wpAny_ite ?_)))
  split
  · first
      | exact wpAny_pure (And.intro rfl h0)
      | exact wpAny_bind (wpAny_pure (wpAny_pure (And.intro rfl h0)))
  · refine wpAny_bind (wpAny_rule ?_)
    first
      | exact wpAny_bind (wpAny_standAt (wpAny_bind (thnF h fun it' s' h' => wpAny_pure (And.intro rfl h'))))
      | (show wpAny _ _ (standAt iter1.pos >>= _) _ _ s; exact wpAny_bind (wpAny_standAt (wpAny_bind (thnF h fun it' s' h' => wpAny_pure (And.intro rfl h')))))
end
section
variable {X : Cx} {kx vx tg iter tg1 iter1 : Expr} {ifs ifs1 : List Expr} {scope : Scope} {pos : Pos}
/-- an iterator's own things, as the block sees them: they may change -/
theorem blk_fp {s0 : Shared} {H0 : Hp} {ce : Env} {fp : List Addr} {σ' : L2.St} {H' : Hp} {s' : Shared} (J : Inv (X.blk s0 H0 scope ce fp) [] σ' H' s') (z : ∀ b ∈ fp, H' b = none) : ∀ b ∈ fp, FpOk (X.blk s0 H0 scope ce fp) [] H' b := by
  intro b hb
  have e1 := J.ok.exf b hb
  exact ⟨z b hb, e1.1, J.ok.exfs b hb, .inl hb, fun x c e => e1.2 x c e, fun p hp => by
    have hp' : p ∈ ([] : List (Addr × Obj)) ++ [] := hp
    simp at hp'⟩
/-- the second clause, run: from the slots σ the heap comes to Nx -/
theorem run_inD {s0 : Shared} {H0 : Hp} {ce : Env} {fp : List Addr} {pins : List (Addr × Obj)} {σ : L2.St} {H : Hp} {s : Shared} {wi1 : TI} {g1 : TG} {tt1 : TT} {tk tv : TE} {own1 : List Nat} {D : Addr} {Nx : Hp → Prop} (hc : X.calm = true)
    (pi1 : PI (X.blk s0 H0 scope ce fp) tg1 iter1 wi1) (pg1 : PG (X.blk s0 H0 scope ce fp) tg1 g1) (pt1 : PTs (X.blk s0 H0 scope ce fp) ifs1 tt1) (pk : PE (X.blk s0 H0 scope ce fp) kx tk) (pv : PE (X.blk s0 H0 scope ce fp) vx tv)
    (I : Inv (X.blk s0 H0 scope ce fp) pins σ H s) (h : tInD wi1 g1 tt1 tk tv own1 D σ H Nx) :
    wpAny (model X.prog X.w) X.A (eval iter1 ce) (fun x s1 => wpAny (model X.prog X.w) X.A (pyIter x) (fun it s2 => codeAny (model X.prog X.w) X.A (.compStart (dc2E kx vx tg iter tg1 iter1 ifs ifs1 scope pos) 1 it (.ref D) ce)
      (fun r s3 => ∃ fl, r = .ok fl ∧ ∃ H', Inv (X.blk s0 H0 scope ce fp) pins (wipe σ own1) H' s3 ∧ Nx H') s2) nothing s1) nothing s := by
  refine thnF (pi1.run pins s σ H _ I h) fun xv s1 hx => thnF hx fun itv s2 h2 => ?_
  obtain ⟨it, fq, tn, J, H2, e, I2, T, st, fo, V1, ⟨m0, v0⟩, turn⟩ := h2
  subst e
  have own : ∀ {H' : Hp}, (∀ b ∈ fq, H' b = none) → ∀ b ∈ fq, FpOk (X.blk s0 H0 scope ce fp) pins H' b := fun n b hb => ⟨n b hb, (fo b hb).2⟩
  have go : codeAny (model X.prog X.w) X.A (.compLoop (dc2E kx vx tg iter tg1 iter1 ifs ifs1 scope pos) 1 (.ref it) (.ref D) ce) (fun r s3 => ∃ fl, r = .ok fl ∧ ∃ H', Inv (X.blk s0 H0 scope ce fp) pins (wipe σ own1) H' s3 ∧ Nx H') s2 := by
    refine loop_inD (fun k s' => ∃ j H', Inv (X.blk s0 H0 scope ce fp) pins (wipe σ own1) H' s' ∧ tn j s'.heap ∧ (∀ b ∈ fq, H' b = none) ∧ V1 j k H') ?_ m0 ⟨0, H2, I2.weak (wipe_length _ _) (fun j v e => (wipe_some e).1), st, fun b hb => (fo b hb).1, v0⟩
    intro k s5 hs5
    obtain ⟨j, H5, I5, st5, n5, v5⟩ := hs5
    rcases turn j k H5 v5 with ⟨stop, nx⟩ | ⟨goes, N1, hN1, stp⟩
    · refine thnF (T.done (X.blk s0 H0 scope ce fp) rfl rfl rfl hc j _ s5 (wipe σ own1) H5 nothing I5 (own n5) st5 stop) fun r s6 hr => ?_
      obtain ⟨er, I6⟩ := hr
      subst er
      exact ⟨_, rfl, H5, I6, nx⟩
    · refine thnF (T.item (X.blk s0 H0 scope ce fp) rfl rfl rfl hc j _ s5 (wipe σ own1) H5 nothing I5 (own n5) st5 goes) fun r s6 hr => ?_
      obtain ⟨u, er, h6⟩ := hr
      subst er
      refine thnF h6 fun _ s7 h7 => ?_
      obtain ⟨x, H7, I7, r7, y7, st7, n7⟩ := h7
      have P7 := I7.pinned (own n7) (T.obj _ _ st7)
      refine thnF (pg1.run _ s7 (wipe σ own1) H7 x u _ P7 r7 (stp x H7 y7)) fun _ s8 h8 => ?_
      obtain ⟨σ8, H8, I8, w8, q8⟩ := h8
      refine thnF (pt1.run _ s8 σ8 H8 _ I8 q8) fun b s9 h9 => ?_
      obtain ⟨H9, I9, q9⟩ := h9
      have back : ∀ {s' : Shared} {H' : Hp}, Inv (X.blk s0 H0 scope ce fp) (pins ++ pinsAt fq s7.heap) σ8 H' s' → N1 H' → ∃ m, m < k ∧ ∃ j H', Inv (X.blk s0 H0 scope ce fp) pins (wipe σ own1) H' s' ∧ tn j s'.heap ∧ (∀ b ∈ fq, H' b = none) ∧ V1 j m H' := by
        intro s' H' J' nx
        obtain ⟨m', hm, v'⟩ := hN1 H' nx
        have kept : ∀ b ∈ fq, ∀ o, s7.heap.get? b = some o → s'.heap.get? b = some o ∧ H' b = none := fun b hb o e => by
          have z := J'.pin (b, o) (List.mem_append_right _ (List.mem_append_right _ (mem_pinsAt hb e)))
          exact ⟨z.1, z.2.1⟩
        refine ⟨m', hm, j + 1, H', J'.unpinned.weak (by rw [← w8, wipe_length]) (fun i v e => by rw [← w8] at e; exact (wipe_some e).1), T.keep _ _ _ st7 fun b hb o e => (kept b hb o e).1, fun b hb => ?_, v'⟩
        obtain ⟨o, e, _⟩ := T.obj _ _ st7 b hb
        exact (kept b hb o e).2
      cases b with
      | false => exact back I9 q9
      | true =>
        refine thnF (pk.run _ s9 σ8 H9 _ I9 q9) fun key s10 h10 => ?_
        obtain ⟨yk, H10, I10, r10, q10⟩ := h10
        refine thnF (pv.run _ s10 σ8 H10 _ I10 q10) fun val s11 h11 => ?_
        obtain ⟨yv, H11, I11, r11, kvs, kk, ek, hD, hz, nx⟩ := h11
        subst ek
        exact d_dictSet (X := X.blk s0 H0 scope ce fp) I11 hD hz r10 r11 fun s12 I12 => back I12 nx
  exact start_inD go (T.self X.A 0 _ _ _ st go)
theorem wipe_off {σ : L2.St} {i : Nat} {vs : List Nat} (h : i ∉ vs) : (wipe σ vs)[i]? = σ[i]? := by rw [wipe_get, if_neg h]
theorem dc2_core {pins : List (Addr × Obj)} {s : Shared} {σ : L2.St} {H : Hp} {Q : VK} {own : List (Str × Nat)} {own1 : List Nat} {pos' : Pos} {wi wi1 : TI} {g g1 : TG} {tt tt1 : TT} {tk tv : TE} {use : Option (Value → Sem Unit)} {Qf : Value → Shared → Prop}
    (hc : X.calm = true) (hN : X.N.Nodup) (I : Inv X pins σ H s) (hi : PI X tg iter wi) (ok : BlkOk X.N X.env.scope scope own) (hv : ∀ i ∈ own1, i ∈ own.map (·.2))
    (blk : ∀ (s : Shared) (H : Hp) (C : Addr) (cl : List (Str × Addr)) (fp : List Addr), PG (X.blk s H scope (compEnvC scope cl C X.env) fp) tg g ∧ PTs (X.blk s H scope (compEnvC scope cl C X.env) fp) ifs tt ∧ PI (X.blk s H scope (compEnvC scope cl C X.env) fp) tg1 iter1 wi1 ∧
      PG (X.blk s H scope (compEnvC scope cl C X.env) fp) tg1 g1 ∧ PTs (X.blk s H scope (compEnvC scope cl C X.env) fp) ifs1 tt1 ∧ PE (X.blk s H scope (compEnvC scope cl C X.env) fp) kx tk ∧ PE (X.blk s H scope (compEnvC scope cl C X.env) fp) vx tv)
    (hs : ∀ x, foldedSetIterable iter X.env x = pure x) (hs1 : ∀ env x, foldedSetIterable iter1 env x = pure x) (h : tDc2 wi g tt wi1 g1 tt1 tk tv (own.map (·.2)) own1 σ H Q)
    (fin : ∀ D C s' m H', Inv X pins σ H' s' → Q (.ref D) H' → s'.heap.Ns C m → FpOk X pins H' C → compPost (model X.prog X.w) X.A X.xe use Qf (.ref D) C (.ok .next) s') :
    wpAny (model X.prog X.w) X.A (comprehension (dc2E kx vx tg iter tg1 iter1 ifs ifs1 scope pos) scope X.env pos' newDict false (eval iter X.env) use) Qf X.xe s := by
  have fr : ∀ y ∈ scope.names, y.2 = .free → ∃ c, X.env.cells.lookup y.1 = some c := by
    intro y hy e
    exact (ok.free y hy e).elim (fun k => I.ok.has _ (.inl k)) fun k => I.ok.has _ (.inr k)
  refine wpAny_comprehension_free (use := use) rfl hs (closure_ok fr) ok.kind (fun y hy e => (ok.uniq y hy).trans (congrArg some e)) (thn (hi.run pins s σ H _ I h) fun xv s1 hx => thn hx fun itv s2 h2 => ?_)
  obtain ⟨it, fp, tn, J, H2, e, I2, T, st2, f2, q⟩ := h2
  subst e
  refine wpAny_newObj_type (newEnv_comp ?_)
  generalize hD : s2.heap.objs.size = D
  have hDn : H2 D = none := I2.hok.fresh (Nat.le_of_eq hD)
  obtain ⟨V0, ⟨m0, v0⟩, turn⟩ := q D hDn
  generalize hs3 : ({ s2 with heap := s2.heap.push { cls := .type "dict", data := .dict #[] } } : Shared) = s3
  have hp3 : s3.heap = s2.heap.push { cls := .type "dict", data := .dict #[] } := by rw [← hs3]
  have I3 : Inv X pins σ (upd H2 D (.dK [])) s3 := by
    have z := I2.laid (a := D) (o := .dK []) (t' := s2.toks) (h' := s2.heap.push { cls := .type "dict", data := .dict #[] }) (fun b o e => Heap.get?_push_of_some _ e) (Nat.le_of_eq hD) (by
      rw [← hD]
      exact dk_empty s2.heap I2.big)
    rw [← hs3]
    exact z
  have below : ∀ b ∈ fp, b < s2.heap.objs.size := fun b hb => let ⟨o, e, _⟩ := T.obj _ _ st2 b hb; Heap.lt_size e
  have f3 : ∀ b ∈ fp, FpOk X pins (upd H2 D (.dK [])) b ∧ b < s3.heap.objs.size := by
    intro b hb
    have lt := below b hb
    have ne : b ≠ D := fun z => Nat.ne_of_lt lt (z.trans hD.symm)
    exact ⟨⟨(upd_ne ne).trans (f2 b hb).1, (f2 b hb).2⟩, by rw [hp3, Heap.size_push]; exact Nat.lt_succ_of_lt lt⟩
  have I4 := block_start I3 ok hN f3
  have parts := blk s3 (upd H2 D (.dK [])) s3.heap.objs.size (cellsFrom (s3.heap.objs.size + 1) scope.names (cloFrom X.env.cells scope.names [])) fp
  have nfp : ∀ b ∈ fp, (upd H2 D (.dK [])) b = none := fun b hb => (f3 b hb).1.1
  have cL : (compEnvC scope (cellsFrom (s3.heap.objs.size + 1) scope.names (cloFrom X.env.cells scope.names [])) s3.heap.objs.size X.env).locals = s3.heap.objs.size := rfl
  show codeAny _ _ (.compStart (dc2E kx vx tg iter tg1 iter1 ifs ifs1 scope pos) 0 (.ref it) (.ref D) (compEnvC scope (cellsFrom (s3.heap.objs.size + 1) scope.names (cloFrom X.env.cells scope.names [])) s3.heap.objs.size X.env)) (compPost (model X.prog X.w) X.A X.xe use Qf (.ref D) s3.heap.objs.size) { s3 with heap := pushCells (s3.heap.push { cls := .type "dict", data := .dict #[] }) scope.names }
  generalize compEnvC scope (cellsFrom (s3.heap.objs.size + 1) scope.names (cloFrom X.env.cells scope.names [])) s3.heap.objs.size X.env = ce at I4 parts cL ⊢
  generalize upd H2 D (.dK []) = H3 at I3 I4 parts v0 nfp f3
  obtain ⟨pg, pt, pi1, pg1, pt1, pk, pv⟩ := parts
  have st4 : tn 0 (pushCells (s3.heap.push { cls := .type "dict", data := .dict #[] }) scope.names) := T.keep _ _ _ st2 fun b _ o e => pushCells_keeps _ _ _ _ (Heap.get?_push_of_some _ (by rw [hp3]; exact Heap.get?_push_of_some _ e))
  have loop : codeAny (model X.prog X.w) X.A (.compLoop (dc2E kx vx tg iter tg1 iter1 ifs ifs1 scope pos) 0 (.ref it) (.ref D) ce) (compPost (model X.prog X.w) X.A X.xe use Qf (.ref D) s3.heap.objs.size) { s3 with heap := pushCells (s3.heap.push { cls := .type "dict", data := .dict #[] }) scope.names } := by
    refine loop_outD (hs1 ce) (fun n s' => ∃ i H', Inv (X.blk s3 H3 scope ce fp) [] (wipe σ (own.map (·.2))) H' s' ∧ tn i s'.heap ∧ (∀ b ∈ fp, H' b = none) ∧ V0 i n H') ?_ m0 ⟨0, H3, I4, st4, nfp, v0⟩
    intro n s5 hs5
    obtain ⟨i, H5, I5, st5, n5, v5⟩ := hs5
    rcases turn i n H5 v5 with ⟨stop, qq⟩ | ⟨goes, N0, hN0, stp⟩
    · refine thnF (T.done (X.blk s3 H3 scope ce fp) rfl rfl rfl hc i [] s5 _ H5 nothing I5 (blk_fp I5 n5) st5 stop) fun r s6 hr => ?_
      obtain ⟨er, I6⟩ := hr
      subst er
      have I7 : Inv X pins σ H5 s6 := I3.call' (ch := fp) I6.os I6.base I6.hok I6.bare fun b hb => by
        have z := (f3 b hb).1
        exact ⟨z.2.2.2.1, z.2.1, z.2.2.2.2.1, z.2.2.2.2.2⟩
      have nC : H5 s3.heap.objs.size = none := cL ▸ (show H5 ce.locals = none from I6.free)
      obtain ⟨m, hn, _⟩ := I6.loc
      exact fin D s3.heap.objs.size s6 m H5 I7 qq (cL ▸ (show s6.heap.Ns ce.locals m from hn)) (I3.fpOk (Nat.le_refl _) nC)
    · refine thnF (T.item (X.blk s3 H3 scope ce fp) rfl rfl rfl hc i [] s5 _ H5 nothing I5 (blk_fp I5 n5) st5 goes) fun r s6 hr => ?_
      obtain ⟨u, er, h6⟩ := hr
      subst er
      refine thnF h6 fun _ s7 h7 => ?_
      obtain ⟨x, H7, I7, r7, y7, st7, n7⟩ := h7
      refine thnF (pg.run _ s7 _ H7 x u _ (I7.pinned (blk_fp I7 n7) (T.obj _ _ st7)) r7 (stp x H7 y7)) fun _ s8 h8 => ?_
      obtain ⟨σ8, H8, I8, w8, q8⟩ := h8
      refine thnF (pt.run _ s8 σ8 H8 _ I8 q8) fun b s9 h9 => ?_
      obtain ⟨H9, I9, q9⟩ := h9
      have l8 : (wipe σ (own.map (·.2))).length = σ8.length := by rw [← w8, wipe_length]
      have back : ∀ {σ9 : L2.St} {s' : Shared} {H' : Hp}, Inv (X.blk s3 H3 scope ce fp) ([] ++ pinsAt fp s7.heap) σ9 H' s' → (wipe σ (own.map (·.2))).length = σ9.length → (∀ (j : Nat) v, (wipe σ (own.map (·.2)))[j]? = some (some v) → σ9[j]? = some (some v)) → N0 H' →
          ∃ m, m < n ∧ ∃ i H', Inv (X.blk s3 H3 scope ce fp) [] (wipe σ (own.map (·.2))) H' s' ∧ tn i s'.heap ∧ (∀ b ∈ fp, H' b = none) ∧ V0 i m H' := by
        intro σ9 s' H' J' hl hk nx
        obtain ⟨m', hm, v'⟩ := hN0 H' nx
        have kept : ∀ b ∈ fp, ∀ o, s7.heap.get? b = some o → s'.heap.get? b = some o ∧ H' b = none := fun b hb o e => by
          have z := J'.pin (b, o) (List.mem_append_right _ (List.mem_append_right _ (mem_pinsAt hb e)))
          exact ⟨z.1, z.2.1⟩
        refine ⟨m', hm, i + 1, H', (J'.unpinned (pins := [])).weak hl hk, T.keep _ _ _ st7 fun b hb o e => (kept b hb o e).1, fun b hb => ?_, v'⟩
        obtain ⟨o, e, _⟩ := T.obj _ _ st7 b hb
        exact (kept b hb o e).2
      cases b with
      | false => exact back I9 l8 (fun j v e => by rw [← w8] at e; exact (wipe_some e).1) q9
      | true =>
        refine thnF (run_inD hc pi1 pg1 pt1 pk pv I9 q9) fun x1 s10 h10 => thnF h10 fun it1 s11 h11 => codeAny_mono h11 fun r s12 hr => ?_
        obtain ⟨fl, er, H12, I12, nx⟩ := hr
        refine ⟨fl, er, back I12 (l8.trans (wipe_length σ8 own1).symm) (fun j v e => ?_) nx⟩
        rw [← w8] at e
        obtain ⟨e1, e2⟩ := wipe_some e
        rw [wipe_off fun z => e2 (hv j z)]
        exact e1
  exact codeAny_compStart_dict loop (T.self X.A 0 _ _ _ st4 loop)
/-- what a comprehension made, stored under a local name -/
theorem post_store {pins : List (Addr × Obj)} {σ : L2.St} {H' : Hp} {s' : Shared} {DD : Ends} {D C : Addr} {m : Str → Option Value} {i : Nat} {y : Str} {py : Pos} (I' : Inv X pins σ H' s') (hN : X.N.Nodup) (hy : X.N[i]? = some y) (hyl : X.env.scope.names.lookup y = some .local)
    (q : DD.nx (σ.set i (some (.ref D))) H') (hn : s'.heap.Ns C m) (f : FpOk X pins H' C) : compPost (model X.prog X.w) X.A X.xe (some (assign (.Name y py) X.env)) (fun _ s'' => SP X pins DD .next s'') (.ref D) C (.ok .next) s' := by
  show wpAny _ _ (assign (.Name y py) X.env (.ref D)) _ _ _
  refine wpAny_assign_Name (store_ok2 (v := V.ref D) I' hN hy (.inl hyl) rfl (fun s2 I2 hs => ?_) (.inr hyl))
  obtain ⟨a, sb, ha⟩ := hs
  obtain ⟨g0, g1, g2, g3, g4, g5⟩ := f
  have ne : C ≠ a := ha.elim (fun z => z ▸ g1) fun z e => g4 y a z e.symm
  exact ⟨m, hn.sameBut sb ne, fun h3 sb3 => ⟨_, H', I2.turned (t' := s2.toks) (fun b o hb e => (sb3.2 b hb).trans e) g0 g1 g3 g4 g5, q⟩⟩
end
end DL

/-! Dict comprehensions as readings; len, list, sorted, dict, update of dicts. -/
namespace DL
open PySem PySem.Spec PyProof.Rows L2

/-! ### {k: v for t in xs if ..} -/
/-- over the data ds: W by the turn and the pairs so far -/
def DcN (t : Tgt) (tt : DT) (dk dv : DE) (P : D → Store → Prop) (ds : List D) (pin : Option (Store → Prop)) (ρ : DSt) (S1 : Store) : Prop :=
  ∃ W : Nat → List (Key × D) → Store → Prop, W 0 [] S1 ∧ (∀ i acc S, W i acc S → PinOk pin S) ∧
  (∀ i d acc S, ds[i]? = some d → W i acc S → ∃ ρ', t.put d (dwipe ρ t.slots) = some ρ' ∧ tt ρ' S fun b S2 => if b = true then dk ρ' S2 fun y S3 => dv ρ' S3 fun z S4 => ∃ k, keyOf y = some k ∧ acc.length < 100000 ∧ W (i + 1) (dPut acc k z) S4 else W (i + 1) acc S2) ∧
  ∀ acc S, W ds.length acc S → ∀ p, S p = none → P (.obj p) (supd S p (.dK acc))
def dDc (di : DI) (t : Tgt) (tt : DT) (dk dv : DE) : DE := fun ρ S P => di ρ S fun ds pin S1 => DcN t tt dk dv P ds pin ρ S1
def Dc2N (t : Tgt) (tt : DT) (di1 : DI) (t1 : Tgt) (tt1 : DT) (dk dv : DE) (P : D → Store → Prop) (ds : List D) (pin : Option (Store → Prop)) (ρ : DSt) (S1 : Store) : Prop :=
  ∃ W : Nat → List (Key × D) → Store → Prop, W 0 [] S1 ∧ (∀ i acc S, W i acc S → PinOk pin S) ∧
  (∀ i d acc S, ds[i]? = some d → W i acc S → ∃ ρ', t.put d (dwipe ρ (t.slots ++ t1.slots)) = some ρ' ∧ tt ρ' S fun b S2 => if b = true then di1 ρ' S2 fun ds1 pin1 S3 =>
    ∃ W1 : Nat → List (Key × D) → Store → Prop, W1 0 acc S3 ∧ (∀ j acc S, W1 j acc S → PinOk pin1 S) ∧
      (∀ j d1 acc1 S4, ds1[j]? = some d1 → W1 j acc1 S4 → ∃ ρ'', t1.put d1 (dwipe ρ' t1.slots) = some ρ'' ∧ tt1 ρ'' S4 fun b S5 => if b = true then dk ρ'' S5 fun y S6 => dv ρ'' S6 fun z S7 => ∃ k, keyOf y = some k ∧ acc1.length < 100000 ∧ W1 (j + 1) (dPut acc1 k z) S7 else W1 (j + 1) acc1 S5) ∧
      ∀ acc1 S4, W1 ds1.length acc1 S4 → W (i + 1) acc1 S4
    else W (i + 1) acc S2) ∧
  ∀ acc S, W ds.length acc S → ∀ p, S p = none → P (.obj p) (supd S p (.dK acc))
def dDc2 (di : DI) (t : Tgt) (tt : DT) (di1 : DI) (t1 : Tgt) (tt1 : DT) (dk dv : DE) : DE := fun ρ S P => di ρ S fun ds pin S1 => Dc2N t tt di1 t1 tt1 dk dv P ds pin ρ S1
theorem size_lt {n : Nat} (h : n < 100000) : n < sizeLine := Nat.lt_of_lt_of_le h (by decide)
theorem nohid_dK {vs : List (Key × V)} : NoHid (.dK vs) := ⟨fun y z => (by cases z), fun y z => (by cases z)⟩
section
variable {K : PySem.W.Frag} {I F H : Hp} {S : Store}
theorem Ok.hidePut (ok : Ok K I S (upd F p (.dK vs)) H) {vs' : List (Key × V)} : Ok K I S (upd F p (.dK vs')) (upd H p (.dK vs')) := by
  have z := ok.writeF (p := p) (o := .dK vs) (o' := .dK vs') upd_same nohid_dK
  rwa [upd_upd] at z
theorem Ok.hideShow (ok : Ok K I S (upd F p (.dK vs)) H) (n : F p = none) {kvs : List (Key × D)} (r : RepF K I kvs vs) : S p = none ∧ Ok K I (supd S p (.dK kvs)) F H := by
  refine ⟨(ok.f p _ upd_same).2.2.1, (ok.showD upd_same r).less fun a x ea => ?_⟩
  have ne : a ≠ p := fun z => by rw [z, n] at ea; cases ea
  show (if a = p then none else upd F p (.dK vs) a) = some x
  rw [if_neg ne, upd_ne ne]; exact ea
end
theorem up_dc {X : Cx} {di : DI} {t : Tgt} {tt : DT} {dk dv : DE} : ∀ σ H Q, upE X.K (dDc di t tt dk dv) σ H Q → tDc (upI X.K di) (upG X.K t) (upT X.K tt) (upE X.K dk) (upE X.K dv) t.slots σ H Q := fun σ H Q ⟨ρ, I, S, F, P, rs, ok, h, q⟩ => by
  refine ⟨ρ, I, S, F, _, rs, ok, h, fun ds pin S1 I1 H1 J hB e1 ok1 it => fun p hp => ?_⟩
  obtain ⟨W, w0, hpin, turn, fin⟩ := hB
  have fn := ok1.freshF hp
  refine ⟨fun i m H => m + i = ds.length ∧ ∃ I' S' acc vs, Same I1 I' ∧ Ok X.K I' S' (upd F p (.dK vs)) H ∧ RepF X.K I' acc vs ∧ W i acc S', ⟨ds.length, by simp, I1, S1, [], [], Same.refl I1, ok1.newF hp nohid_dK, RepF.nilK, w0⟩, ?_⟩
  rintro i m H2 ⟨em, I2, S2, acc, vs, e2, ok2, rl, w2⟩
  by_cases hi : i < ds.length
  · refine .inr ?_
    obtain ⟨g1, g2⟩ := it.go I2 S2 _ H2 e2 ok2 (hpin _ _ _ w2) i ds[i] (List.getElem?_eq_getElem hi)
    obtain ⟨ρ3, hput, hbody⟩ := turn i ds[i] acc S2 (List.getElem?_eq_getElem hi) w2
    refine ⟨g1, fun H' => ∃ I' S' acc vs, Same I1 I' ∧ Ok X.K I' S' (upd F p (.dK vs)) H' ∧ RepF X.K I' acc vs ∧ W (i + 1) acc S', fun H' h => ⟨m - 1, by omega, by omega, h⟩, fun x H3 hy => ?_⟩
    obtain ⟨I3, e3, ok3, r3⟩ := g2 x H3 hy
    refine ⟨dwipe ρ t.slots, ρ3, I3, S2, _, ds[i], ((rs.mono e1).mono (e2.trans e3)).wipe _, ok3, r3, hput, fun σ3 rs3 b3 => ⟨b3.wipe_sub fun i hi => hi, ?_⟩⟩
    refine ⟨ρ3, I3, S2, _, _, rs3, ok3, hbody, fun b S4 I4 H4 h4 e4 ok4 => ?_⟩
    cases b with
    | true =>
      rw [if_pos rfl] at h4 ⊢
      refine ⟨ρ3, I4, S4, _, _, rs3.mono e4, ok4, h4, fun y S5 u I5 H5 h5 e5 ok5 r5 => ⟨ρ3, I5, S5, _, _, rs3.mono (e4.trans e5), ok5, h5, fun z S6 v I6 H6 h6 e6 ok6 r6 => ?_⟩⟩
      obtain ⟨k, hk, hl, w6⟩ := h6
      have r5' := r5.mono e6
      rw [keyOf_eq hk] at r5
      have rl' := rl.mono (((e3.trans e4).trans e5).trans e6)
      refine ⟨vs, k, kD_of r5, (ok6.f p _ upd_same).1, size_lt (by rw [rl.lenK]; exact hl), I6, S6, dPut acc k z, L2.putK vs k v, (((e2.trans e3).trans e4).trans e5).trans e6, ok6.hidePut, rl'.putK r6, w6⟩
    | false =>
      rw [if_neg Bool.false_ne_true] at h4 ⊢
      exact ⟨I4, S4, acc, vs, ((e2.trans e3).trans e4), ok4, rl.mono (e3.trans e4), h4⟩
  · have e : i = ds.length := by omega
    subst e
    obtain ⟨sn, ok3⟩ := ok2.hideShow fn rl
    exact .inl ⟨it.stop I2 S2 _ H2 e2 ok2 (hpin _ _ _ w2) _ rfl, q _ _ _ _ _ (fin acc S2 w2 p sn) (e1.trans e2) ok3 (by simp only [Rep])⟩
theorem up_dc2 {X : Cx} {di di1 : DI} {t t1 : Tgt} {tt tt1 : DT} {dk dv : DE} : ∀ σ H Q, upE X.K (dDc2 di t tt di1 t1 tt1 dk dv) σ H Q → tDc2 (upI X.K di) (upG X.K t) (upT X.K tt) (upI X.K di1) (upG X.K t1) (upT X.K tt1) (upE X.K dk) (upE X.K dv) (t.slots ++ t1.slots) t1.slots σ H Q := fun σ H Q ⟨ρ, I, S, F, P, rs, ok, h, q⟩ => by
  refine ⟨ρ, I, S, F, _, rs, ok, h, fun ds pin S1 I1 H1 J hB e1 ok1 it => fun p hp => ?_⟩
  obtain ⟨W, w0, hpin, turn, fin⟩ := hB
  have fn := ok1.freshF hp
  refine ⟨fun i m H => m + i = ds.length ∧ ∃ I' S' acc vs, Same I1 I' ∧ Ok X.K I' S' (upd F p (.dK vs)) H ∧ RepF X.K I' acc vs ∧ W i acc S', ⟨ds.length, by simp, I1, S1, [], [], Same.refl I1, ok1.newF hp nohid_dK, RepF.nilK, w0⟩, ?_⟩
  rintro i m H2 ⟨em, I2, S2, acc, vs, e2, ok2, rl, w2⟩
  by_cases hi : i < ds.length
  · refine .inr ?_
    obtain ⟨g1, g2⟩ := it.go I2 S2 _ H2 e2 ok2 (hpin _ _ _ w2) i ds[i] (List.getElem?_eq_getElem hi)
    obtain ⟨ρ3, hput, hbody⟩ := turn i ds[i] acc S2 (List.getElem?_eq_getElem hi) w2
    refine ⟨g1, fun H' => ∃ I' S' acc vs, Same I1 I' ∧ Ok X.K I' S' (upd F p (.dK vs)) H' ∧ RepF X.K I' acc vs ∧ W (i + 1) acc S', fun H' h => ⟨m - 1, by omega, by omega, h⟩, fun x H3 hy => ?_⟩
    obtain ⟨I3, e3, ok3, r3⟩ := g2 x H3 hy
    refine ⟨dwipe ρ (t.slots ++ t1.slots), ρ3, I3, S2, _, ds[i], ((rs.mono e1).mono (e2.trans e3)).wipe _, ok3, r3, hput, fun σ3 rs3 b3 => ⟨b3.wipe_sub fun i hi => List.mem_append_left _ hi, ?_⟩⟩
    refine ⟨ρ3, I3, S2, _, _, rs3, ok3, hbody, fun b S4 I4 H4 h4 e4 ok4 => ?_⟩
    cases b with
    | true =>
      rw [if_pos rfl] at h4 ⊢
      refine ⟨ρ3, I4, S4, _, _, rs3.mono e4, ok4, h4, fun ds1 pin1 S5 I5 H5 J1 h5 e5 ok5 it1 => ?_⟩
      obtain ⟨W1, v0, vpin, vturn, vfin⟩ := h5
      refine ⟨fun j k H => k + j = ds1.length ∧ ∃ I' S' acc vs, Same I5 I' ∧ Ok X.K I' S' (upd F p (.dK vs)) H ∧ RepF X.K I' acc vs ∧ W1 j acc S', ⟨ds1.length, by simp, I5, S5, acc, vs, Same.refl I5, ok5, rl.mono ((e3.trans e4).trans e5), v0⟩, ?_⟩
      rintro j k H6 ⟨ek, I6, S6, acc6, vs6, e6, ok6, rl6, w6⟩
      by_cases hj : j < ds1.length
      · refine .inr ?_
        obtain ⟨g3, g4⟩ := it1.go I6 S6 _ H6 e6 ok6 (vpin _ _ _ w6) j ds1[j] (List.getElem?_eq_getElem hj)
        obtain ⟨ρ7, hput7, hbody7⟩ := vturn j ds1[j] acc6 S6 (List.getElem?_eq_getElem hj) w6
        refine ⟨g3, fun H' => ∃ I' S' acc vs, Same I5 I' ∧ Ok X.K I' S' (upd F p (.dK vs)) H' ∧ RepF X.K I' acc vs ∧ W1 (j + 1) acc S', fun H' h => ⟨k - 1, by omega, by omega, h⟩, fun x H7 hy7 => ?_⟩
        obtain ⟨I7, e7, ok7, r7⟩ := g4 x H7 hy7
        refine ⟨dwipe ρ3 t1.slots, ρ7, I7, S6, _, ds1[j], (rs3.mono (((e4.trans e5).trans e6).trans e7)).wipe _, ok7, r7, hput7, fun σ7 rs7 b7 => ⟨b7.wipe_sub fun i hi => hi, ?_⟩⟩
        refine ⟨ρ7, I7, S6, _, _, rs7, ok7, hbody7, fun b S8 I8 H8 h8 e8 ok8 => ?_⟩
        cases b with
        | true =>
          rw [if_pos rfl] at h8 ⊢
          refine ⟨ρ7, I8, S8, _, _, rs7.mono e8, ok8, h8, fun y S9 u I9 H9 h9 e9 ok9 r9 => ⟨ρ7, I9, S9, _, _, rs7.mono (e8.trans e9), ok9, h9, fun z S10 v I10 H10 h10 e10 ok10 r10 => ?_⟩⟩
          obtain ⟨kk, hk, hl, w10⟩ := h10
          rw [keyOf_eq hk] at r9
          have rl' := rl6.mono (((e7.trans e8).trans e9).trans e10)
          exact ⟨vs6, kk, kD_of r9, (ok10.f p _ upd_same).1, size_lt (by rw [rl6.lenK]; exact hl), I10, S10, dPut acc6 kk z, L2.putK vs6 kk v, (((e6.trans e7).trans e8).trans e9).trans e10, ok10.hidePut, rl'.putK r10, w10⟩
        | false =>
          rw [if_neg Bool.false_ne_true] at h8 ⊢
          exact ⟨I8, S8, acc6, vs6, ((e6.trans e7).trans e8), ok8, rl6.mono (e7.trans e8), h8⟩
      · have e : j = ds1.length := by omega
        subst e
        exact .inl ⟨it1.stop I6 S6 _ H6 e6 ok6 (vpin _ _ _ w6) _ rfl, I6, S6, acc6, vs6, (((e2.trans e3).trans e4).trans e5).trans e6, ok6, rl6, vfin acc6 S6 w6⟩
    | false =>
      rw [if_neg Bool.false_ne_true] at h4 ⊢
      exact ⟨I4, S4, acc, vs, ((e2.trans e3).trans e4), ok4, rl.mono (e3.trans e4), h4⟩
  · have e : i = ds.length := by omega
    subst e
    obtain ⟨sn, ok3⟩ := ok2.hideShow fn rl
    exact .inl ⟨it.stop I2 S2 _ H2 e2 ok2 (hpin _ _ _ w2) _ rfl, q _ _ _ _ _ (fin acc S2 w2 p sn) (e1.trans e2) ok3 (by simp only [Rep])⟩
section
variable {X : Cx} {kx vx tg iter tg1 iter1 : Expr} {ifs ifs1 : List Expr} {scope : Scope} {pos spos : Pos} {di di1 : DI} {t t1 : Tgt} {tt tt1 : DT} {dk dv : DE}
/-- in every block of this scope -/
abbrev InBlk (X : Cx) (scope : Scope) (φ : Cx → Prop) : Prop := ∀ (s : Shared) (H : Hp) (C : Addr) (cl : List (Str × Addr)) (fp : List Addr), φ (X.blk s H scope (compEnvC scope cl C X.env) fp)
theorem je_dc (own : List (Str × Nat)) (hc : X.calm = true) (hN : X.N.Nodup) (hi : JI X tg iter di) (ok : BlkOk X.N X.env.scope scope own) (ho : own.map (·.2) = t.slots) (hg : InBlk X scope fun Y => JG Y tg t) (ht : InBlk X scope fun Y => JTs Y ifs tt)
    (hk : InBlk X scope fun Y => JE Y kx dk) (hv : InBlk X scope fun Y => JE Y vx dv) (hs : ∀ x, foldedSetIterable iter X.env x = pure x := by intro _; rfl) : JE X (.DictComp kx vx [⟨tg, iter, ifs, 0⟩] scope pos) (dDc di t tt dk dv) :=
  je_of (pe_dc hc hN hi ok hg ht hk hv hs) fun σ H Q h => by
    rw [ho]
    exact up_dc σ H Q h
theorem use_dict (gens : List Comprehension) (env : Env) (u : Value → Sem Unit) : evalThenUse (.DictComp kx vx gens scope pos) env u = (do
    let _ ← comprehension (.DictComp kx vx gens scope pos) scope env (firstIterPos gens pos) newDict (firstAsync gens) (firstIter gens env) (some u)) := rfl
theorem js_setDc (i : Nat) {y : Str} {py : Pos} (own : List (Str × Nat)) (hc : X.calm = true) (hN : X.N.Nodup) (hy : X.N[i]? = some y) (hyl : X.env.scope.names.lookup y = some .local) (hsw : swapsWith (.DictComp kx vx [⟨tg, iter, ifs, 0⟩] scope pos) (some (.Name y py)) spos.line X.env = pure true)
    (hi : JI X tg iter di) (ok : BlkOk X.N X.env.scope scope own) (ho : own.map (·.2) = t.slots) (hg : InBlk X scope fun Y => JG Y tg t) (ht : InBlk X scope fun Y => JTs Y ifs tt)
    (hk : InBlk X scope fun Y => JE Y kx dk) (hv : InBlk X scope fun Y => JE Y vx dv) (hs : ∀ x, foldedSetIterable iter X.env x = pure x := by intro _; rfl) : JS X (.Assign [.Name y py] (.DictComp kx vx [⟨tg, iter, ifs, 0⟩] scope pos) spos) (dSet i (dDc di t tt dk dv)) := by
  refine ⟨fun pins s σ H DD I hw => ?_⟩
  obtain ⟨ρ, I0, S, F, D0, rs, ok0, h, q⟩ := hw
  have hq : tDc (upI X.K di) (upG X.K t) (upT X.K tt) (upE X.K dk) (upE X.K dv) (own.map (·.2)) σ H (fun x H1 => DD.nx (σ.set i (some x)) H1) := by
    rw [ho]
    exact up_dc (X := X) σ H _ ⟨ρ, I0, S, F, _, rs, ok0, h, fun x S1 v I1 H1 h1 e1 ok1 r1 => q.nx _ _ _ _ _ h1 e1 ok1 ((rs.mono e1).set i r1)⟩
  rw [exec_Assign_Name_used _ _ _ _ hsw]
  refine wpAny_bind (wpAny_standAt (wpAny_bind ?_))
  rw [use_dict]
  refine wpAny_bind (thn (dc_core (Qf := fun _ s' => SP X pins DD .next s') (use := some (assign (.Name y py) X.env)) hc hN I hi ok hg ht hk hv hs hq fun D C s' m H' I' z hn f => post_store I' hN hy hyl z hn f) fun _ s' hz => wpAny_pure (wpAny_pure hz))
theorem blk_all {own : List (Str × Nat)} (hg : InBlk X scope fun Y => JG Y tg t) (ht : InBlk X scope fun Y => JTs Y ifs tt) (hi1 : InBlk X scope fun Y => JI Y tg1 iter1 di1) (hg1 : InBlk X scope fun Y => JG Y tg1 t1) (ht1 : InBlk X scope fun Y => JTs Y ifs1 tt1)
    (hk : InBlk X scope fun Y => JE Y kx dk) (hv : InBlk X scope fun Y => JE Y vx dv) (s : Shared) (H : Hp) (C : Addr) (cl : List (Str × Addr)) (fp : List Addr) :
    PG (X.blk s H scope (compEnvC scope cl C X.env) fp) tg (upG X.K t) ∧ PTs (X.blk s H scope (compEnvC scope cl C X.env) fp) ifs (upT X.K tt) ∧ PI (X.blk s H scope (compEnvC scope cl C X.env) fp) tg1 iter1 (upI X.K di1) ∧
      PG (X.blk s H scope (compEnvC scope cl C X.env) fp) tg1 (upG X.K t1) ∧ PTs (X.blk s H scope (compEnvC scope cl C X.env) fp) ifs1 (upT X.K tt1) ∧ PE (X.blk s H scope (compEnvC scope cl C X.env) fp) kx (upE X.K dk) ∧ PE (X.blk s H scope (compEnvC scope cl C X.env) fp) vx (upE X.K dv) :=
  ⟨hg s H C cl fp, ht s H C cl fp, hi1 s H C cl fp, hg1 s H C cl fp, ht1 s H C cl fp, hk s H C cl fp, hv s H C cl fp⟩
theorem je_dc2 (own : List (Str × Nat)) (ho : own.map (·.2) = t.slots ++ t1.slots) (hN : X.N.Nodup) (hi : JI X tg iter di) (ok : BlkOk X.N X.env.scope scope own) (hc : X.calm = true) (hg : InBlk X scope fun Y => JG Y tg t) (ht : InBlk X scope fun Y => JTs Y ifs tt)
    (hi1 : InBlk X scope fun Y => JI Y tg1 iter1 di1) (hg1 : InBlk X scope fun Y => JG Y tg1 t1) (ht1 : InBlk X scope fun Y => JTs Y ifs1 tt1) (hk : InBlk X scope fun Y => JE Y kx dk) (hv : InBlk X scope fun Y => JE Y vx dv)
    (hs : ∀ x, foldedSetIterable iter X.env x = pure x := by intro _; rfl) (hs1 : ∀ env x, foldedSetIterable iter1 env x = pure x := by intro _ _; rfl) : JE X (dc2E kx vx tg iter tg1 iter1 ifs ifs1 scope pos) (dDc2 di t tt di1 t1 tt1 dk dv) := by
  refine ⟨fun pins s σ H Q I hw => ?_⟩
  have hq := up_dc2 (X := X) σ H Q hw
  rw [← ho] at hq
  rw [arm_eval_DictComp]
  refine dc2_core (own1 := t1.slots) hc hN I hi ok (fun i hi => by rw [ho]; exact List.mem_append_right _ hi) (blk_all (own := own) hg ht hi1 hg1 ht1 hk hv) hs hs1 hq fun D C s' m H' I' z hn f => ⟨m, hn, fun h'' sb => ?_⟩
  obtain ⟨g0, g1, g2, g3, g4, g5⟩ := f
  exact ⟨.ref D, H', I'.turned (t' := s'.toks) (fun b o hb e => (sb.2 b hb).trans e) g0 g1 g3 g4 g5, rfl, z⟩
theorem js_setDc2 (i : Nat) {y : Str} {py : Pos} (own : List (Str × Nat)) (ho : own.map (·.2) = t.slots ++ t1.slots) (hN : X.N.Nodup) (hy : X.N[i]? = some y) (hyl : X.env.scope.names.lookup y = some .local) (hsw : swapsWith (dc2E kx vx tg iter tg1 iter1 ifs ifs1 scope pos) (some (.Name y py)) spos.line X.env = pure true)
    (hi : JI X tg iter di) (ok : BlkOk X.N X.env.scope scope own) (hc : X.calm = true) (hg : InBlk X scope fun Y => JG Y tg t) (ht : InBlk X scope fun Y => JTs Y ifs tt)
    (hi1 : InBlk X scope fun Y => JI Y tg1 iter1 di1) (hg1 : InBlk X scope fun Y => JG Y tg1 t1) (ht1 : InBlk X scope fun Y => JTs Y ifs1 tt1) (hk : InBlk X scope fun Y => JE Y kx dk) (hv : InBlk X scope fun Y => JE Y vx dv)
    (hs : ∀ x, foldedSetIterable iter X.env x = pure x := by intro _; rfl) (hs1 : ∀ env x, foldedSetIterable iter1 env x = pure x := by intro _ _; rfl) : JS X (.Assign [.Name y py] (dc2E kx vx tg iter tg1 iter1 ifs ifs1 scope pos) spos) (dSet i (dDc2 di t tt di1 t1 tt1 dk dv)) := by
  refine ⟨fun pins s σ H DD I hw => ?_⟩
  obtain ⟨ρ, I0, S, F, D0, rs, ok0, h, q⟩ := hw
  have hq := up_dc2 (X := X) (di := di) (t := t) (tt := tt) (di1 := di1) (t1 := t1) (tt1 := tt1) (dk := dk) (dv := dv) σ H (fun x H1 => DD.nx (σ.set i (some x)) H1) ⟨ρ, I0, S, F, _, rs, ok0, h, fun x S1 v I1 H1 h1 e1 ok1 r1 => q.nx _ _ _ _ _ h1 e1 ok1 ((rs.mono e1).set i r1)⟩
  rw [← ho] at hq
  rw [exec_Assign_Name_used _ _ _ _ hsw]
  refine wpAny_bind (wpAny_standAt (wpAny_bind ?_))
  rw [use_dict]
  refine wpAny_bind (thn (dc2_core (Qf := fun _ s' => SP X pins DD .next s') (own1 := t1.slots) (use := some (assign (.Name y py) X.env)) hc hN I hi ok (fun i hi => by rw [ho]; exact List.mem_append_right _ hi) (blk_all (own := own) hg ht hi1 hg1 ht1 hk hv) hs hs1 hq
    fun D C s' m H' I' z hn f => post_store I' hN hy hyl z hn f) fun _ s' hz => wpAny_pure (wpAny_pure hz))
theorem swd_true {gs : List Comprehension} {py : Pos} {y : Str} {l : Nat} {env : Env} (hk : env.scope.kind = .function) (hy : env.scope.names.lookup y = some .local) (hl : (py.line == pos.line) = true)
    (ha : (scope.names.any fun (n, k) => n == y && (k == .local || k == .cell)) = false) : swapsWith (.DictComp kx vx gs scope pos) (some (.Name y py)) l env = pure true := by
  have e1 : env.kindOf y = some .local := hy
  have e2 : env.blockKind = .function := by unfold Env.blockKind; rw [hk]; rfl
  unfold swapsWith
  simp only [e1, e2, ha, Expr.pos, hl]
  rfl
end

/-! ### len(d), list(d), dict(d), dict of pairs, sorted(d), d.update(d) -/
def cLenD : DC := fun xs S P => match xs with
  | [x] => (match dctOf S x with
    | some kvs => P (.int kvs.length) S
    | none => False)
  | _ => False
def cListD : DC := fun xs S P => match xs with
  | [x] => (match dctOf S x with
    | some kvs => P (.lst (kvs.map fun kv => kD kv.1)) S
    | none => False)
  | _ => False
def cListDM : DC := fun xs S P => match xs with
  | [x] => (match dctOf S x with
    | some kvs => ∀ p, S p = none → P (.obj p) (supd S p (.lst (kvs.map fun kv => kD kv.1)))
    | none => False)
  | _ => False
def cDictD : DC := fun xs S P => match xs with
  | [x] => (match dctOf S x with
    | some kvs => ∀ p, S p = none → P (.obj p) (supd S p (.dK kvs))
    | none => False)
  | _ => False
def pairsOf : List D → Option (List (Key × D))
  | [] => some []
  | .tup [x, y] :: r => match keyOf x, pairsOf r with
    | some k, some ks => some ((k, y) :: ks)
    | _, _ => none
  | _ => none
def cDictP : DC := fun xs S P => match xs with
  | [x] => (match (lstOf S x).bind pairsOf with
    | some kvs => kvs.length ≤ 100000 ∧ ∀ p, S p = none → P (.obj p) (supd S p (.dK (dMrg [] kvs)))
    | none => False)
  | _ => False
/-- fewer than 64 ints as keys -/
def cSortDI : DC := fun xs S P => match xs with
  | [x] => (match dctOf S x with
    | some kvs => ∃ ks : List Int, kvs.map (·.1) = ks.map Sum.inl ∧ ks.length < 64 ∧ ∀ ys : List Int, ys.Perm ks → ys.Pairwise (· ≤ ·) → P (.lst (ys.map .int)) S
    | none => False)
  | _ => False
/-- fewer than 64 texts as keys -/
def cSortDS : DC := fun xs S P => match xs with
  | [x] => (match dctOf S x with
    | some kvs => ∃ ks : List Str, kvs.map (·.1) = ks.map Sum.inr ∧ ks.length < 64 ∧ ∀ ys : List Str, ys.Perm ks → sortedS ys = true → P (.lst (ys.map .str)) S
    | none => False)
  | _ => False
def dDUpd (dd de : DE) : DE := fun ρ S P => dd ρ S fun x S1 => (∃ a es, x = .obj a ∧ S1 a = some (.dK es)) ∧ de ρ S1 fun y S2 => ∃ a b kvs more, x = .obj a ∧ y = .obj b ∧ a ≠ b ∧ S2 a = some (.dK kvs) ∧ dctOf S2 y = some more ∧ kvs.length + more.length ≤ 100000 ∧
  P .non (supd S2 a (.dK (dMrg kvs more)))
theorem rep_ints {K : PySem.W.Frag} {I : Hp} : ∀ ys : List Int, RepL K I (ys.map .int) (ys.map V.int)
  | [] => RepL.nil
  | _ :: r => RepL.cons rep_int (rep_ints r)
theorem rep_strs {K : PySem.W.Frag} {I : Hp} : ∀ ys : List Str, RepL K I (ys.map .str) (ys.map V.str)
  | [] => RepL.nil
  | _ :: r => RepL.cons rep_str (rep_strs r)
theorem rep_keys {K : PySem.W.Frag} {I : Hp} : ∀ {kvs : List (Key × D)} {vs : List (Key × V)}, RepF K I kvs vs → RepL K I (kvs.map fun kv => kD kv.1) (vs.map fun kv => kV kv.1)
  | [], vs, h => by
    simp only [RepF] at h
    subst h; exact RepL.nil
  | p :: r, vs, h => by
    simp only [RepF] at h
    obtain ⟨v, w, rfl, h1, h2⟩ := h
    exact RepL.cons (kD_rep _) (rep_keys h2)
theorem pairs_rep {K : PySem.W.Frag} {I H : Hp} (e : Same I H) : ∀ {xs : List D} {kvs : List (Key × D)} {us : List V}, RepL K I xs us → pairsOf xs = some kvs → ∃ (ps : List Addr) (vs : List (Key × V)), us = ps.map V.ref ∧ Paired (fun p kv => SqT K H p [kV kv.1, kv.2]) ps vs ∧ RepF K I kvs vs
  | [], kvs, us, h, z => by
    simp only [RepL] at h
    simp only [pairsOf, Option.some.injEq] at z
    subst h z
    exact ⟨[], [], rfl, .nil, RepF.nilK⟩
  | x :: r, kvs, us, h, z => by
    simp only [RepL] at h
    obtain ⟨v, w, rfl, h1, h2⟩ := h
    unfold pairsOf at z
    split at z
    · rename_i eq; cases eq
    · rename_i a b r' eq
      cases eq
      cases e1 : keyOf a with
      | none => rw [e1] at z; cases z
      | some k =>
        cases e2 : pairsOf r with
        | none => rw [e1, e2] at z; cases z
        | some ks =>
          rw [e1, e2] at z
          cases z
          obtain ⟨ps, vs, rfl, pr, rf⟩ := pairs_rep e h2 e2
          obtain ⟨p, xs, rfl, ht, rl⟩ := h1.tup_of
          obtain ⟨u1, u2, rfl, ra, rb⟩ := rl.inv2
          rw [keyOf_eq e1] at ra
          rw [kD_of ra] at ht
          exact ⟨p :: ps, (k, u2) :: vs, rfl, .cons (sqT_same e ht) pr, RepF.consK (p := (k, b)) rb rf⟩
    · cases z
section
variable {X : Cx}
theorem call_lenR : CallR X (.builtin "len") (fun xs H Q => ∃ a kvs, xs = [V.ref a] ∧ Rd H a (.dK kvs) ∧ Q (.int kvs.length) H) := by
  intro pins s σ H xs us Q I r h
  obtain ⟨a, kvs, ex, ha, q⟩ := h
  subst ex
  obtain ⟨u, eu, ru⟩ := vals1 r
  subst eu
  cases ru
  exact d_len I ha fun t s' I' => ⟨.int kvs.length, H, I', ⟨t, rfl⟩, q⟩
theorem mt_dupd : MtR X "dict.update" (fun x xs H Q => ∃ a b kvs more, x = .ref a ∧ xs = [.ref b] ∧ a ≠ b ∧ H a = some (.dK kvs) ∧ Rd H b (.dK more) ∧ kvs.length + more.length ≤ sizeLine ∧ Q .non (upd H a (.dK (mergeK kvs more)))) := by
  intro pins s σ H x xs v us Q I rx rv h
  obtain ⟨a, b, kvs, more, ex, ev, ne, ea, eb, hl, q⟩ := h
  subst ex ev
  obtain rfl : v = Value.ref a := rx
  obtain ⟨u, eu, ru⟩ := vals1 rv
  subst eu
  obtain rfl : u = Value.ref b := ru
  obtain ⟨za, hda, va, ka, da⟩ := dk_of I.hok ea
  obtain ⟨zb, hdb, vb, kb, db⟩ := dk_rd I.hok eb
  refine call_meetsIn PySem.F.slot_dict_update da.typeIs PySem.F.entry_dict_update (PySem.F.args_dict_update_2 _ _) (meets_dict_update (mixKind X.prog X.w) a b ne hdb) ⟨va, vb, da, db, by rw [← ka.length, ← kb.length]; exact hl, fun h' dd dm hs => ?_⟩
  have hlen : (mergeK kvs more).length ≤ sizeLine := Nat.le_trans (length_mergeK more kvs) hl
  exact ⟨.non, _, d_write (t' := s.toks) I (by rw [ea]; exact True.intro) hs (let ⟨o, _, _, ho, _⟩ := dd; ⟨o, ho⟩) (dk_new hlen hda (kb.merge ka) dd), rfl, q⟩
variable {K : PySem.W.Frag}
theorem i_lenD : ImpC K (fun xs H Q => ∃ a kvs, xs = [V.ref a] ∧ Rd H a (.dK kvs) ∧ Q (.int kvs.length) H) cLenD := by
  intro xs vs I S F H P Q ok r h q
  match xs, h with
  | [x], h =>
    obtain ⟨v, rfl, rv⟩ := r.inv1
    unfold cLenD at h
    simp only at h
    split at h
    · rename_i kvs e
      obtain ⟨a, ws, rfl, hd, rf⟩ := dct_rd ok rv e
      refine ⟨a, ws, rfl, hd, ?_⟩
      rw [rf.lenK]
      exact q _ _ _ _ _ h (Same.refl I) ok rep_int
    · exact h.elim
theorem i_listD : ImpC K (fun xs H Q => ∃ (a : Addr) (kvs : List (Key × V)), xs = [.ref a] ∧ Rd H a (.dK kvs) ∧ ∀ p, H p = none → Q (.ref p) (upd H p (.lst (kvs.map fun kv => kV kv.1)))) cListD := by
  intro xs vs I S F H P Q ok r h q
  match xs, h with
  | [x], h =>
    obtain ⟨v, rfl, rv⟩ := r.inv1
    unfold cListD at h
    simp only at h
    split at h
    · rename_i kvs e
      obtain ⟨a, ws, rfl, hd, rf⟩ := dct_rd ok rv e
      exact ⟨a, ws, rfl, hd, fun p hp => q _ _ _ _ _ h (same_new (ok.freshI hp)) (ok.newI hp) (rep_new_lst (ok.freshI hp) (rep_keys rf))⟩
    · exact h.elim
theorem i_listDM : ImpC K (fun xs H Q => ∃ (a : Addr) (kvs : List (Key × V)), xs = [.ref a] ∧ Rd H a (.dK kvs) ∧ ∀ p, H p = none → Q (.ref p) (upd H p (.lst (kvs.map fun kv => kV kv.1)))) cListDM := by
  intro xs vs I S F H P Q ok r h q
  match xs, h with
  | [x], h =>
    obtain ⟨v, rfl, rv⟩ := r.inv1
    unfold cListDM at h
    simp only at h
    split at h
    · rename_i kvs e
      obtain ⟨a, ws, rfl, hd, rf⟩ := dct_rd ok rv e
      exact ⟨a, ws, rfl, hd, fun p hp => q _ _ _ _ _ (h p (ok.freshS hp)) (Same.refl I) (ok.newM hp (rep_keys rf)) (by simp only [Rep])⟩
    · exact h.elim
theorem i_dictD : ImpC K (fun xs H Q => ∃ (a : Addr) (kvs : List (Key × V)), xs = [.ref a] ∧ Rd H a (.dK kvs) ∧ ∀ p, H p = none → Q (.ref p) (upd H p (.dK kvs))) cDictD := by
  intro xs vs I S F H P Q ok r h q
  match xs, h with
  | [x], h =>
    obtain ⟨v, rfl, rv⟩ := r.inv1
    unfold cDictD at h
    simp only at h
    split at h
    · rename_i kvs e
      obtain ⟨a, ws, rfl, hd, rf⟩ := dct_rd ok rv e
      exact ⟨a, ws, rfl, hd, fun p hp => q _ _ _ _ _ (h p (ok.freshS hp)) (Same.refl I) (ok.newD hp rf) (by simp only [Rep])⟩
    · exact h.elim
theorem i_dictP : ImpC K (fun xs H Q => ∃ (a : Addr) (ps : List Addr) (kvs : List (Key × V)), xs = [.ref a] ∧ SqL K H a (ps.map V.ref) ∧ Paired (fun p kv => SqT K H p [kV kv.1, kv.2]) ps kvs ∧ ∀ p, H p = none → Q (.ref p) (upd H p (.dK (mergeK [] kvs)))) cDictP := by
  intro xs vs I S F H P Q ok r h q
  match xs, h with
  | [x], h =>
    obtain ⟨v, rfl, rv⟩ := r.inv1
    unfold cDictP at h
    simp only at h
    split at h
    · rename_i kvs e
      cases e2 : lstOf S x with
      | none => rw [e2] at e; cases e
      | some ds =>
        rw [e2] at e
        obtain ⟨a, us, rfl, hs, rl⟩ := lst_sq ok rv e2
        obtain ⟨ps, ws, rfl, pr, rf⟩ := pairs_rep ok.same rl e
        exact ⟨a, ps, ws, rfl, hs, pr, fun p hp => q _ _ _ _ _ (h.2 p (ok.freshS hp)) (Same.refl I) (ok.newD hp (repF_mrgK rf RepF.nilK)) (by simp only [Rep])⟩
    · exact h.elim
theorem i_sortDI : ImpC K (fun xs H Q => ∃ (a : Addr) (kvs : List (Key × V)) (ks : List Int), xs = [.ref a] ∧ Rd H a (.dK kvs) ∧ kvs.map (·.1) = ks.map Sum.inl ∧ ks.length < 64 ∧ ∀ (ys : List Int) (p : Addr), ys.Perm ks → ys.Pairwise (· ≤ ·) → H p = none → Q (.ref p) (upd H p (.lst (ys.map V.int)))) cSortDI := by
  intro xs vs I S F H P Q ok r h q
  match xs, h with
  | [x], h =>
    obtain ⟨v, rfl, rv⟩ := r.inv1
    unfold cSortDI at h
    simp only at h
    split at h
    · rename_i kvs e
      obtain ⟨ks, hk, hl, h⟩ := h
      obtain ⟨a, ws, rfl, hd, rf⟩ := dct_rd ok rv e
      exact ⟨a, ws, ks, rfl, hd, by rw [rf.keysK]; exact hk, hl, fun ys p h1 h2 hp => q _ _ _ _ _ (h ys h1 h2) (same_new (ok.freshI hp)) (ok.newI hp) (rep_new_lst (ok.freshI hp) (rep_ints ys))⟩
    · exact h.elim
theorem i_sortDS : ImpC K (fun xs H Q => ∃ (a : Addr) (kvs : List (Key × V)) (ks : List Str), xs = [.ref a] ∧ Rd H a (.dK kvs) ∧ kvs.map (·.1) = ks.map Sum.inr ∧ ks.length < 64 ∧ ∀ ys p, ys.Perm ks → sortedS ys = true → H p = none → Q (.ref p) (upd H p (.lst (ys.map V.str)))) cSortDS := by
  intro xs vs I S F H P Q ok r h q
  match xs, h with
  | [x], h =>
    obtain ⟨v, rfl, rv⟩ := r.inv1
    unfold cSortDS at h
    simp only at h
    split at h
    · rename_i kvs e
      obtain ⟨ks, hk, hl, h⟩ := h
      obtain ⟨a, ws, rfl, hd, rf⟩ := dct_rd ok rv e
      exact ⟨a, ws, ks, rfl, hd, by rw [rf.keysK]; exact hk, hl, fun ys p h1 h2 hp => q _ _ _ _ _ (h ys h1 h2) (same_new (ok.freshI hp)) (ok.newI hp) (rep_new_lst (ok.freshI hp) (rep_strs ys))⟩
    · exact h.elim
variable {a e o : Expr} {pos p apos cpos : Pos} {ds : DA} {dd de : DE}
theorem je_lenD (hm : X.mg "len" = none) (ha : JA X [a] ds) (hg : Gl X "len" := by rfl) (hs : starEach [a] X.env = [(false, eval a X.env)] := by rfl) : JE X (.Call (.Name "len" p) [a] [] pos) (dCB cLenD ds) := je_callB call_lenR i_lenD hg hm b_len ha (hs := hs) (hpl := by rfl)
theorem je_listD (hm : X.mg "list" = none) (hc : X.calm = true) (ha : JA X [a] ds) (hg : Gl X "list" := by rfl) (hs : starEach [a] X.env = [(false, eval a X.env)] := by rfl) : JE X (.Call (.Name "list" p) [a] [] pos) (dCB cListD ds) := je_callTy (call_listD hc) i_listD hg hm b_list ha (hs := hs) (hpl := by rfl)
theorem je_listDM (hm : X.mg "list" = none) (hc : X.calm = true) (ha : JA X [a] ds) (hg : Gl X "list" := by rfl) (hs : starEach [a] X.env = [(false, eval a X.env)] := by rfl) : JE X (.Call (.Name "list" p) [a] [] pos) (dCB cListDM ds) := je_callTy (call_listD hc) i_listDM hg hm b_list ha (hs := hs) (hpl := by rfl)
theorem je_dictD (hm : X.mg "dict" = none) (ha : JA X [a] ds) (hg : Gl X "dict" := by rfl) (hs : starEach [a] X.env = [(false, eval a X.env)] := by rfl) : JE X (.Call (.Name "dict" p) [a] [] pos) (dCB cDictD ds) := je_callTy call_dictD i_dictD hg hm b_dict ha (hs := hs) (hpl := by rfl)
theorem je_dictP (hm : X.mg "dict" = none) (hc : X.calm = true) (ha : JA X [a] ds) (hg : Gl X "dict" := by rfl) (hs : starEach [a] X.env = [(false, eval a X.env)] := by rfl) : JE X (.Call (.Name "dict" p) [a] [] pos) (dCB cDictP ds) := je_callTy (call_dictP hc) i_dictP hg hm b_dict ha (hs := hs) (hpl := by rfl)
theorem je_sortDI (hm : X.mg "sorted" = none) (hc : X.calm = true) (ha : JA X [a] ds) (hg : Gl X "sorted" := by rfl) (hs : starEach [a] X.env = [(false, eval a X.env)] := by rfl) : JE X (.Call (.Name "sorted" p) [a] [] pos) (dCB cSortDI ds) := je_callB (call_sortedDI hc) i_sortDI hg hm b_sorted ha (hs := hs) (hpl := by rfl)
theorem je_sortDS (hm : X.mg "sorted" = none) (hc : X.calm = true) (ha : JA X [a] ds) (hg : Gl X "sorted" := by rfl) (hs : starEach [a] X.env = [(false, eval a X.env)] := by rfl) : JE X (.Call (.Name "sorted" p) [a] [] pos) (dCB cSortDS ds) := je_callB (call_sortedD hc) i_sortDS hg hm b_sorted ha (hs := hs) (hpl := by rfl)
theorem je_dupd (ho : JE X o dd) (ha : JE X e de) (hbase : attributeBase o "update" X.env (eval o X.env) = eval o X.env := by rfl) (hs0 : starEach [e] X.env = [(false, eval e X.env)] := by rfl)
    (hfew : ((backTo cpos (starEach [e] X.env)).all (fun x => !x.1) && (backToKw cpos (keywordEach [] X.env)).all (fun x => x.1.isSome) && decide ([e].length + ([] : List Keyword).length + (if ([] : List Keyword).isEmpty then 0 else 1) < 30)) = true := by rfl)
    (hline : (apos.endLine == cpos.line) = true := by rfl) : JE X (.Call (.Attribute o "update" apos) [e] [] cpos) (dDUpd dd de) :=
  je_of (pe_bm PySem.F.plainAttrs_dict PySem.F.slot_dict_update PySem.F.type_dict_update mt_dupd ho (pa_cons ha pa_nil hs0) hbase hfew hline (hs := hs0) (hplain := by rfl)) fun σ H Q ⟨ρ, I, S, F, P, rs, ok, hh, q⟩ =>
    ⟨ρ, I, S, F, _, rs, ok, hh, fun x S1 v I1 H1 ⟨⟨a0, es, ex, e2⟩, h2⟩ e1 ok1 r1 => by
      subst ex
      obtain ⟨ys, q2, _⟩ := ok1.dkAt e2
      cases r1.obj_of
      refine ⟨.inr (.inr (.inl ⟨rfl, .inl ⟨ys, q2⟩⟩)), ρ, I1, S1, F, _, rs.mono e1, ok1, h2, fun y S2 w I2 H2 h3 e3 ok2 r2 => ?_⟩
      obtain ⟨b, c, kvs, more, ex, ey, ne, ea, eb, hl, h4⟩ := h3
      cases ex
      subst ey
      obtain ⟨zs, q4, rf⟩ := ok2.dkAt ea
      obtain ⟨c', ws, ec, hd, rf2⟩ := dct_rd ok2 r2 eb
      cases r2.obj_of
      cases ec
      exact ⟨a0, c, zs, ws, rfl, rfl, ne, q4, hd, by rw [rf.lenK, rf2.lenK]; exact line5 hl, q _ _ _ _ _ h4 (e1.trans e3) (ok2.writeD ea q4 (repF_mrgK rf2 rf)) rep_non⟩⟩
end
end DL

/-! xs[:0:-1], defs with a keyword default. -/
namespace L2
open PySem PySem.Spec PyProof.Rows PySem.W
section
variable {X : Cx} {a : Expr} {ta : TE} {p p2 p1 p3 pos pos2 : Pos}
theorem pick_map (vs : Array Value) : ∀ {l : List Nat}, (∀ j ∈ l, j < vs.size) → l.filterMap (vs[·]?) = l.map fun j => vs.getD j .none
  | [], _ => rfl
  | j :: l, h => by
    have lt := h j (by simp)
    rw [List.filterMap_cons, List.map_cons, pick_map vs fun k hk => h k (by simp [hk]), Array.getElem?_eq_getElem lt]
    simp [Array.getD, lt]
/-- what xs[:0:-1] picks -/
theorem pick_back (vs : Array Value) : slicePick vs none (some 0) (some (-1)) = (vs.toList.drop 1).reverse.toArray := by
  have b : sliceBounds none (some 0) (some (-1)) vs.size = ((vs.size : Int) - 1, max (-1) (min 0 ((vs.size : Int) - 1)), -1) := rfl
  unfold slicePick
  rw [b]
  show ((sliceRange ((vs.size : Int) - 1) (max (-1) (min 0 ((vs.size : Int) - 1))) (-1)).filterMap (vs[·]?)).toArray = _
  have rg : sliceRange ((vs.size : Int) - 1) (max (-1) (min 0 ((vs.size : Int) - 1))) (-1) = (List.range (vs.size - 1)).map fun k => vs.size - 1 - k := by
    unfold sliceRange
    rw [if_neg (by decide : ¬ ((-1 : Int) > 0))]
    by_cases h : (vs.size : Int) - 1 > max (-1) (min 0 ((vs.size : Int) - 1))
    · have e : ((vs.size : Int) - 1 - max (-1) (min 0 ((vs.size : Int) - 1)) - -1 - 1) / (- -1) = ((vs.size - 1 : Nat) : Int) := by
        rw [show (- -1 : Int) = 1 by decide, Int.ediv_one]
        omega
      simp only [h, if_true, e, Int.toNat_natCast]
      refine List.map_congr_left fun k hk => ?_
      have := List.mem_range.mp hk
      omega
    · have e : vs.size - 1 = 0 := by omega
      simp only [h, if_false, e]
      rfl
  rw [rg]
  congr 1
  apply List.ext_getElem?
  intro i
  by_cases hi : i < vs.size - 1
  · rw [pick_map _ fun j hj => ?_]
    · rw [List.getElem?_map, List.getElem?_map, List.getElem?_range hi, List.getElem?_reverse (by simp; omega), List.getElem?_drop]
      simp only [List.length_drop, Array.length_toList, Option.map_some]
      have lt : vs.size - 1 - i < vs.size := by omega
      rw [show 1 + (vs.size - 1 - 1 - i) = vs.size - 1 - i by omega, Array.getElem?_toList, Array.getElem?_eq_getElem lt]
      simp [Array.getD, lt]
    · obtain ⟨k, hk, rfl⟩ := List.mem_map.mp hj
      have := List.mem_range.mp hk
      omega
  · rw [List.getElem?_eq_none, List.getElem?_eq_none]
    · simp; omega
    · refine Nat.le_trans (List.length_filterMap_le _ _) ?_
      simp; omega
def tBack (K : PySem.W.Frag) (te : TE) : TE := fun σ H Q => te σ H fun x H1 => ∃ a xs, x = .ref a ∧ SqL K H1 a xs ∧ ∀ p, H1 p = none → Q (.ref p) (upd H1 p (.lst (xs.drop 1).reverse))
theorem vals_drop1 {xs : List V} {us : List Value} (r : Vals xs us) : Vals (xs.drop 1).reverse (us.drop 1).reverse := (r.drop 1).reverse
theorem pe_back {k k0 : Nat} {p0 : Pos} (he : PE X a ta) : PE X (.Subscript a (.Slice none (some (.Constant (.int 0) k0 p0)) (some (.UnaryOp .USub (.Constant (.int 1) k p1) p2)) p3) pos) (tBack X.K ta) := by
  refine ⟨fun pins s σ H Q I h => Subscript_ (thn (he.run pins s σ H _ I h) fun v s1 ⟨x, H1, I1, r1, a', xs, ex, hx, q⟩ => ?_)⟩
  subst ex
  cases r1
  have up : PO X (some (.Constant (.int 0) k0 p0)) (tPart (tC (.int 0))) := po_some pe_int
  have st : PO X (some (.UnaryOp .USub (.Constant (.int 1) k p1) p2)) (tPart (tUn (rU fun i => .int (-i)) (tC (.int 1)))) := po_some (pe_un un_neg pe_int)
  refine wpAny_Slice (thn (po_none.run pins s1 σ H1 (fun o H2 => o = none ∧ H2 = H1) I1 ⟨rfl, rfl⟩) fun vl s2 ⟨l, H2, I2, pl, el, e2⟩ => ?_)
  subst el e2
  refine thn (up.run pins s2 σ H2 (fun o H3 => o = some 0 ∧ H3 = H2) I2 ⟨0, rfl, rfl, rfl⟩) fun vu s3 ⟨u, H3, I3, pu, eu, e3⟩ => ?_
  subst eu e3
  refine thn (st.run pins s3 σ H3 (fun o H4 => o = some (-1) ∧ H4 = H3) I3 ⟨1, rfl, -1, rfl, rfl, rfl⟩) fun vs s4 ⟨o, H4, I4, ps, eo, e4⟩ => ?_
  subst eo e4
  have I5 : Inv X pins σ H4 { s4 with heap := s4.heap.push { cls := .type "slice", data := .fields #[vl, vu, vs] } } := I4.kept (t' := s4.toks) fun b ob z => Heap.get?_push_of_some _ z
  obtain ⟨its, r, ht, hz⟩ := I5.list hx
  have len := r.length
  show wpAny (model X.prog X.w) X.A (subscriptTail a (.Slice none (some (.Constant (.int 0) k0 p0)) (some (.UnaryOp .USub (.Constant (.int 1) k p1) p2)) p3) (.ref a') (.ref s4.heap.objs.size)) (EP X pins σ Q) X.xe { s4 with heap := s4.heap.push { cls := .type "slice", data := .fields #[vl, vu, vs] } }
  refine tail_any (ops := [.ref a', .ref s4.heap.objs.size]) ht.isList.typeIs (PySem.slot_list_getitem.lookup) ?_ (by with_unfolding_all rfl)
  refine wpAny_getItem_list_slice ht.isList (Heap.IsSliceOf.new _ vl vu vs) pl pu ps (by decide) ?_ (by rw [List.size_toArray]; omega)
  rw [pick_back]
  have shape : (xs.drop 1).reverse.length ≤ sizeLine := by rw [List.length_reverse, List.length_drop]; omega
  exact ⟨.ref _, _, I5.laid (t' := s4.toks) (o := .lst (xs.drop 1).reverse) (fun b ob z => Heap.get?_push_of_some _ z) (Nat.le_refl _) ⟨shape, _, 0, vals_drop1 r, Heap.get?_push_size _ rfl⟩, rfl, q _ (I5.hok.fresh (Nat.le_refl _))⟩
end
end L2
namespace DL
open PySem PySem.Spec PyProof.Rows L2
def dBack (d : DE) : DE := fun ρ S P => d ρ S fun x S1 => match lstOf S1 x with
  | some ds => P (.lst (ds.drop 1).reverse) S1
  | none => False
section
variable {X : Cx} {a : Expr} {es : List Expr} {da : DE} {ds : DA} {p p1 p2 p3 pos pos2 : Pos}
theorem je_back {k k0 : Nat} {p0 : Pos} (he : JE X a da) : JE X (.Subscript a (.Slice none (some (.Constant (.int 0) k0 p0)) (some (.UnaryOp .USub (.Constant (.int 1) k p1) p2)) p3) pos) (dBack da) :=
  je_of (pe_back he) fun σ H Q ⟨ρ, I, S, F, P, rs, ok, h, q⟩ => ⟨ρ, I, S, F, _, rs, ok, h, fun x S1 v I1 H1 h1 e1 ok1 r1 => by
    split at h1
    · rename_i ds e
      obtain ⟨a, xs, rfl, hs, rl⟩ := lst_sq ok1 r1 e
      exact ⟨a, xs, rfl, hs, fun p hp => q _ _ _ _ _ h1 (e1.trans (same_new (ok1.freshI hp))) (ok1.newI hp) (rep_new_lst (ok1.freshI hp) (rl.drop 1).rev)⟩
    · exact h1.elim⟩
/-! ### a def with keyword-only defaults -/
theorem funK_mk {K : PySem.W.Frag} {x qual : Str} {st : Stmt} {f KD : Addr} {oc : Value} {od an : Option Addr} {osl : Array (Option Value)} {doc pm cdv ct : Value} {kws : List (Str × V)} (l : K.lookup f = some ⟨oc, od, .func (PySem.W.fnOf x qual (defArgs st) (defBody st) (defScope st) .none (.ref KD) doc pm an cdv ct), osl⟩)
    (c : PySem.W.codeIn K cdv qual = true) (k : PySem.W.keepIn K (.ref f) = true) (d : ∀ q ∈ kws, ∃ u, PySem.W.nsIn K KD q.1 = some (some u) ∧ RelV q.2 u) : FunD K x qual (defArgs st) (defBody st) (defScope st) [] kws f (PySem.W.fnOf x qual (defArgs st) (defBody st) (defScope st) .none (.ref KD) doc pm an cdv ct) :=
  ⟨⟨oc, od, .none, .ref KD, doc, pm, an, cdv, ct, osl, rfl, l, c, .inl ⟨rfl, rfl⟩, .inr ⟨KD, rfl, d⟩⟩, k⟩
theorem kbn_mkD {K : PySem.W.Frag} {x qual : Str} {st : Stmt} {f : Addr} {fd : FuncData} {kws : List (Str × V)} {ps ks : List Str} {n : Nat} {perm : List Nat} (F : FunD K x qual (defArgs st) (defBody st) (defScope st) [] kws f fd) (hk : kws ≠ [])
    (h : ∀ (D : Addr) (doc pm : Value) (an : Option Addr) (cdv ct : Value) (us ws : List Value), us.length = n → ws.length = ks.length → bindArgs (PySem.W.fnOf x qual (defArgs st) (defBody st) (defScope st) .none (.ref D) doc pm an cdv ct) ⟨us, ks.zip ws⟩ = pure (ps.zip (pick perm us ws))) :
    KBn K fd ps n ks (pick perm) (pick perm) := by
  obtain ⟨mv, b⟩ := F.kbinds0 (ps := ps) n ks [] (fun us _ ws => perm.filterMap fun i => (us ++ ws)[i]?) hk (fun q hq => by cases hq) (fun r1 _ r2 => pick_vals (r1.append r2) perm) fun D doc pm an cdv ct us mv ws l1 l2 l3 => h D doc pm an cdv ct us ws l1 l3
  exact b
/-- all of the keyword-only ones lack -/
abbrev LackB (K : PySem.W.Frag) (fd : FuncData) (ps : List Str) (vs : List V) : Prop := ∃ us, Vals vs us ∧ Binds K fd ps us
theorem je_gL {k j : Nat} {x : Str} {ps : List Str} {f : Addr} {fd : FuncData} {sp : DSp} {dv : List D} {dvs : List V} (G : DoesK X.prog X.w X.K X.mg X.base k x ps f fd sp) (hr : DG.RoomG j X.A) (hb : LackB X.K fd ps dvs) (ha : JA X (a :: es) ds) (hdv : ∀ I, RepL X.K I dv dvs) (hk : k ≤ j := by decide) (hg : Gl X x := by rfl)
    (hdb : (x == ("__debug__" : Str)) = false := by decide) (he : starEach (a :: es) X.env = (false, eval a X.env) :: starEach es X.env := by rfl) (hpl : (backTo pos (starEach es X.env)).any (·.1) = false := by rfl) : JE X (.Call (.Name x p) (a :: es) [] pos) (dCall sp dv ds) := by
  obtain ⟨us, hv, hb⟩ := hb
  exact je_call G.ok (hr.mono hk) hg G.g G.kp hb hv hdv ha hdb he hpl
end
end DL

/-! sorted(d), d a dict of any many ints as keys; sorted(xs) of ints. -/
namespace L2
open PySem PySem.Spec PyProof.Rows PySem.W
/-- what the collected keys are -/
theorem keys_ints {vs : List (Key × Value)} {ks : List Int} {acc : List Value} (hk : vs.map (·.1) = ks.map Sum.inl) (len : acc.length = ks.length) (h : ∀ (j : Nat) (v : Value), acc[j]? = some v → ∃ k x, vs[j]? = some (k, x) ∧ keyIs k v = true) : IntsAre acc ks := by
  refine ints_each len fun j v e => ?_
  obtain ⟨k, x, e1, e2⟩ := h j v e
  have e3 : (ks.map (Sum.inl (β := Str)))[j]? = some k := by
    rw [← hk, List.getElem?_map, e1]
    rfl
  rw [List.getElem?_map] at e3
  cases e4 : ks[j]? with
  | none => rw [e4] at e3; exact nomatch e3
  | some y =>
    rw [e4] at e3
    cases e3
    rcases keyIs_shape e2 with ⟨i, t, ei, ev⟩ | ⟨z, t, ez, ev⟩
    · cases ei
      exact ⟨y, t, rfl, ev⟩
    · exact nomatch ez
theorem call_sortedDB {X : Cx} (hcalm : X.calm = true) : CallR X (.builtin "sorted") (fun xs H Q => ∃ (a : Addr) (kvs : List (Key × V)) (ks : List Int), xs = [.ref a] ∧ Rd H a (.dK kvs) ∧ kvs.map (·.1) = ks.map Sum.inl ∧
    ∀ (ys : List Int) (p : Addr), ys.Perm ks → ys.Pairwise (· ≤ ·) → H p = none → Q (.ref p) (upd H p (.lst (ys.map V.int)))) := by
  intro pins s σ H xs us Q I r h
  obtain ⟨a, kvs, ks, ex, hd, hks, q⟩ := h
  subst ex
  obtain ⟨u, eu, ru⟩ := vals1 r
  subst eu
  cases ru
  obtain ⟨size, notSys, vs, rel, dd⟩ := dk_rd I.hok hd
  obtain ⟨ep, at1⟩ := dd.dictAt
  have lv : vs.length = kvs.length := rel.length.symm
  have lk : kvs.length = ks.length := by simpa using congrArg List.length hks
  refine Calls.call_function_entry PyProof.Rows.kind_sorted PyProof.Rows.plain_sorted PyProof.Rows.entry_sorted (PyProof.Rows.args_sorted1 _) ?_
  unfold Builtin.«sorted»
  refine wpAny_bind (m := checkCount "sorted" 1 1 _) (wpAny_pure (wpAny_bind (PySem.W.kdu_collect (A := X.A.in1) (PySem.W.kdl_dict (knd := mixKind X.prog X.w) (kvs := vs) (ep := ep) notSys) (I.ok.hd hcalm) at1 (by rw [lv]; exact size) fun h' tk acc hk hacc => ?_)))
  have la : acc.toList.length = ks.length := by rw [Array.length_toList, hacc.1, lv, lk]
  have big : acc.toList.length ≤ sizeLine := by rw [la, ← lk]; exact size
  have ia : IntsAre acc.toList ks := keys_ints (rel.keys.symm.trans hks) la fun j v e => hacc.2 j v (by rw [← Array.getElem?_toList]; exact e)
  have I1 : Inv X pins σ H { s with heap := h', toks := tk } := I.kept hk
  refine wpAny_bind (wpAny_newList ?_ big)
  have at2 : (h'.push (seqObj "list" acc.toList.toArray 0)).get? h'.objs.size = some (seqObj "list" acc.toList.toArray 0) := Heap.get?_push_size _ rfl
  show wpAny _ _ _ _ _ { s with heap := h'.push (seqObj "list" acc.toList.toArray 0), toks := tk }
  refine wpAny_bind (wpAny_holding (wpAny_call_entry PyProof.Rows.slot_list_sort ⟨_, at2, rfl⟩ PyProof.Rows.entry_list_sort
    (SrtO.list_sort_ord (s := { s with heap := h'.push (seqObj "list" acc.toList.toArray 0), toks := tk }) SrtO.swo_int at2 big (fun h2 => SrtO.ints_sortable ia h2) fun out h1 h2 => ⟨.none, rfl, ?_⟩) (PyProof.Rows.args_list_sort _)))
  obtain ⟨k1, k2, k3⟩ := SrtO.ints_out ia h1 h2
  obtain ⟨ep', he'⟩ := PyProof.Rows.sortedHeap_at (vs := acc.toList) (out := out.toArray) at2
  have len : ((out.map SrtO.iv).map V.int).length ≤ sizeLine := by rw [List.length_map, k2.length_eq, ← la]; exact big
  have I2 := I1.laid (a := h'.objs.size) (o := .lst ((out.map SrtO.iv).map V.int)) (t' := tk) (fun b u e => by
    have hb : b < h'.objs.size := Heap.lt_size e
    exact (PyProof.Rows.sortedHeap_old (Nat.ne_of_lt hb) (by rw [size_push']; exact Nat.lt_succ_of_lt hb)).trans (Heap.get?_push_of_some _ e)) (Nat.le_refl _) ⟨len, out, ep', vals_of_ints k1, he'⟩
  exact wpAny_pure ⟨_, rfl, .ref h'.objs.size, _, I2, rfl, q _ _ k2 k3 (I1.hok.fresh (Nat.le_refl _))⟩
end L2
namespace DL
open PySem PySem.Spec PyProof.Rows L2
/-- ints as keys -/
def cSortDB : DC := fun xs S P => match xs with
  | [x] => (match dctOf S x with
    | some kvs => ∃ ks : List Int, kvs.map (·.1) = ks.map Sum.inl ∧ ∀ ys : List Int, ys.Perm ks → ys.Pairwise (· ≤ ·) → P (.lst (ys.map .int)) S
    | none => False)
  | _ => False
/-- sorted(xs) of ints -/
def cSortL : DC := fun xs S P => match xs with
  | [x] => (match (lstOf S x).bind dInts with
    | some ks => ∀ ys : List Int, ys.Perm ks → ys.Pairwise (· ≤ ·) → P (.lst (ys.map .int)) S
    | none => False)
  | _ => False
section
variable {X : Cx} {K : PySem.W.Frag} {a : Expr} {pos p : Pos} {ds : DA}
theorem i_sortDB : ImpC K (fun xs H Q => ∃ (a : Addr) (kvs : List (Key × V)) (ks : List Int), xs = [.ref a] ∧ Rd H a (.dK kvs) ∧ kvs.map (·.1) = ks.map Sum.inl ∧ ∀ (ys : List Int) (p : Addr), ys.Perm ks → ys.Pairwise (· ≤ ·) → H p = none → Q (.ref p) (upd H p (.lst (ys.map V.int)))) cSortDB := by
  intro xs vs I S F H P Q ok r h q
  match xs, h with
  | [x], h =>
    obtain ⟨v, rfl, rv⟩ := r.inv1
    unfold cSortDB at h
    simp only at h
    split at h
    · rename_i kvs e
      obtain ⟨ks, hk, h⟩ := h
      obtain ⟨a, ws, rfl, hd, rf⟩ := dct_rd ok rv e
      exact ⟨a, ws, ks, rfl, hd, by rw [rf.keysK]; exact hk, fun ys p h1 h2 hp => q _ _ _ _ _ (h ys h1 h2) (same_new (ok.freshI hp)) (ok.newI hp) (rep_new_lst (ok.freshI hp) (rep_ints ys))⟩
    · exact h.elim
theorem je_sortDB (hm : X.mg "sorted" = none) (hc : X.calm = true) (ha : JA X [a] ds) (hg : Gl X "sorted" := by rfl) (hs : starEach [a] X.env = [(false, eval a X.env)] := by rfl) : JE X (.Call (.Name "sorted" p) [a] [] pos) (dCB cSortDB ds) := je_callB (call_sortedDB hc) i_sortDB hg hm b_sorted ha (hs := hs) (hpl := by rfl)
theorem i_sortL : ImpC K (rSortedI K) cSortL := by
  intro xs vs I S F H P Q ok r h q
  match xs, h with
  | [x], h =>
    obtain ⟨v, rfl, rv⟩ := r.inv1
    unfold cSortL at h
    simp only at h
    split at h
    · rename_i ns e
      obtain ⟨l, rfl, hs⟩ := lstInts ok rv e
      exact ⟨l, ns, rfl, hs, fun ys p h1 h2 hp => q _ _ _ _ _ (h ys h1 h2) (same_new (ok.freshI hp)) (ok.newI hp) (rep_new_lst (ok.freshI hp) (rep_ints ys))⟩
    · exact h.elim
theorem je_sortL (hm : X.mg "sorted" = none) (ha : JA X [a] ds) (hg : Gl X "sorted" := by rfl) (hs : starEach [a] X.env = [(false, eval a X.env)] := by rfl) : JE X (.Call (.Name "sorted" p) [a] [] pos) (dCB cSortL ds) := je_callB cr_sortedI i_sortL hg hm b_sorted ha (hs := hs) (hpl := by rfl)
end
end DL

/-! Games: stores that grow, dicts of ints, sums, rests, ranks in plain Lean. -/
namespace Lb
open PySem PySem.Spec PyProof.Rows L2 DL
/-! ### stores that grow -/
def Grown (S S' : Store) : Prop := ∀ a m, S a = some m → S' a = some m
theorem Grown.refl {S : Store} : Grown S S := fun _ _ h => h
theorem Grown.trans {S S1 S2 : Store} (h : Grown S S1) (h2 : Grown S1 S2) : Grown S S2 := fun a m e => h2 a m (h a m e)
theorem Grown.new {S : Store} {p : Addr} {m : MO} (n : S p = none) : Grown S (supd S p m) := fun a x e => by
  unfold supd
  rw [if_neg fun z => by rw [z, n] at e; cases e]; exact e
/-- what was new is written again -/
theorem Grown.again {S S1 : Store} {p : Addr} {m : MO} (h : Grown S S1) (n : S p = none) : Grown S (supd S1 p m) := fun a x e => by
  unfold supd
  rw [if_neg fun z => by rw [z, n] at e; cases e]; exact h a x e
theorem Grown.ne {S : Store} {p q : Addr} {m : MO} (h : S p = some m) (n : S q = none) : p ≠ q := fun z => by rw [z, n] at h; cases h
theorem BoxAt.grown {S S' : Store} {p : Addr} {n : Nat} (h : BoxAt S p n) (g : Grown S S') : BoxAt S' p n := by
  obtain ⟨a, s, t, e, r⟩ := h
  exact ⟨a, s, t, g _ _ e, r⟩
theorem dct_dK {S : Store} {a : Addr} {kvs : List (Key × D)} (h : S a = some (.dK kvs)) : dctOf S (.obj a) = some kvs := by
  show (match S a with | some (.dK kvs) => some kvs | some (.dZ _ _ kvs) => some kvs | _ => none) = _
  rw [h]
theorem dct_dZ {S : Store} {a : Addr} {o : Obj} {vs : List (Key × V)} {kvs : List (Key × D)} (h : S a = some (.dZ o vs kvs)) : dctOf S (.obj a) = some kvs := by
  show (match S a with | some (.dK kvs) => some kvs | some (.dZ _ _ kvs) => some kvs | _ => none) = _
  rw [h]
theorem dct_supd {S : Store} {a p : Addr} {m : MO} (h : a ≠ p) : dctOf (supd S p m) (.obj a) = dctOf S (.obj a) := by
  show (match supd S p m a with | some (.dK kvs) => some kvs | some (.dZ _ _ kvs) => some kvs | _ => none) = (match S a with | some (.dK kvs) => some kvs | some (.dZ _ _ kvs) => some kvs | _ => none)
  rw [supd_ne h]
theorem dct_obj {S : Store} {x : D} {kvs : List (Key × D)} (h : dctOf S x = some kvs) : ∃ a m, x = .obj a ∧ S a = some m := by
  cases x with
  | obj a =>
    cases e : S a with
    | none =>
      have : dctOf S (.obj a) = none := by
        show (match S a with | some (.dK kvs) => some kvs | some (.dZ _ _ kvs) => some kvs | _ => none) = _
        rw [e]
      rw [this] at h; cases h
    | some m => exact ⟨a, m, rfl, e⟩
  | _ => simp [dctOf] at h
/-! ### dicts with ints as keys -/
def kI {α : Type} (f : Int → α) (xs : List Int) : List (Key × α) := xs.map fun r => (.inl r, f r)
theorem kI_keys {α : Type} (f : Int → α) (xs : List Int) : (kI f xs).map (·.1) = xs.map Sum.inl := by
  unfold kI
  rw [List.map_map]; rfl
theorem kI_val {α : Type} (f : Int → α) (r : Int) : ∀ xs : List Int, dVal (kI f xs) (.inl r) = if r ∈ xs then some (f r) else none
  | [] => rfl
  | x :: xs => by
    show dVal ((Sum.inl x, f x) :: kI f xs) (.inl r) = _
    rw [dVal_cons, kI_val f r xs]
    by_cases e : x = r
    · subst e; simp
    · have e' : ¬ (Sum.inl x : Key) = .inl r := fun z => e (Sum.inl.inj z)
      have e2 : ¬ r = x := fun z => e z.symm
      rw [if_neg e']
      simp [e2]
theorem kI_len {α : Type} (f : Int → α) (xs : List Int) : (kI f xs).length = xs.length := List.length_map ..
theorem inl_mem {x : Int} {xs : List Int} : (Sum.inl x : Key) ∈ xs.map Sum.inl ↔ x ∈ xs := by
  rw [List.mem_map]
  exact ⟨fun ⟨y, h, e⟩ => Sum.inl.inj e ▸ h, fun h => ⟨x, h, rfl⟩⟩
theorem nd_inl {xs : List Int} (h : xs.Nodup) : (xs.map (Sum.inl : Int → Key)).Nodup := by
  unfold List.Nodup at *
  rw [List.pairwise_map]
  exact h.imp fun ne e => ne (Sum.inl.inj e)
theorem kI_put {α : Type} (f : Int → α) {xs : List Int} {r : Int} (h : r ∉ xs) : dPut (kI f xs) (.inl r) (f r) = kI f (xs ++ [r]) := by
  rw [dPut_new _ (by rw [kI_keys, inl_mem]; exact h)]
  unfold kI
  rw [List.map_append]; rfl
theorem take_nd {xs : List Int} (nd : xs.Nodup) {i : Nat} {r : Int} (h : xs[i]? = some r) : r ∉ xs.take i := by
  intro m
  obtain ⟨j, hj⟩ := List.mem_iff_getElem?.mp m
  have hji : j < i := by
    have := (List.getElem?_eq_some_iff.mp hj).1
    rw [List.length_take] at this
    omega
  rw [List.getElem?_take_of_lt hji] at hj
  obtain ⟨l1, e1⟩ := List.getElem?_eq_some_iff.mp h
  obtain ⟨l2, e2⟩ := List.getElem?_eq_some_iff.mp hj
  exact (List.pairwise_iff_getElem.mp nd j i l2 l1 hji) (e2.trans e1.symm)
/-- {r: f(r) for r in xs if p(r)}, the xs unlike one another -/
theorem dc_ints {t : Tgt} {tt : DT} {dk dv : DE} {P : D → Store → Prop} {ρ : DSt} {S1 : Store} {pin : Option (Store → Prop)} {ds : List D} (xs : List Int) (hds : ds = xs.map .int) (nd : xs.Nodup) (hl : xs.length ≤ 99999) (p : Int → Bool) (f : Int → D) (St : Nat → Store → Prop)
    (h0 : St 0 S1) (hpin : ∀ i S, St i S → PinOk pin S)
    (step : ∀ (i : Nat) (r : Int) (S : Store), xs[i]? = some r → St i S → ∃ ρ', t.put (.int r) (dwipe ρ t.slots) = some ρ' ∧ ∀ (K : D → D → Store → Prop) (N : Store → Prop), (p r = true → ∀ S4, St (i + 1) S4 → K (.int r) (f r) S4) → (p r = false → ∀ S2, St (i + 1) S2 → N S2) →
      tt ρ' S fun b S2 => if b = true then dk ρ' S2 fun y S3 => dv ρ' S3 fun z S4 => K y z S4 else N S2)
    (q : ∀ S2, St xs.length S2 → ∀ a, S2 a = none → P (.obj a) (supd S2 a (.dK (kI f (xs.filter p))))) :
    DcN t tt dk dv P ds pin ρ S1 := by
  subst hds
  refine ⟨fun i acc S => acc = kI f ((xs.take i).filter p) ∧ St i S, ⟨by simp [kI], h0⟩, fun i acc S h => hpin i S h.2, ?_, ?_⟩
  · rintro i d acc S hd ⟨ha, hs⟩
    rw [List.getElem?_map] at hd
    cases e : xs[i]? with
    | none => rw [e] at hd; cases hd
    | some r =>
      rw [e] at hd
      cases hd
      obtain ⟨ρ', h1, h2⟩ := step i r S e hs
      refine ⟨ρ', h1, h2 (fun y z S4 => ∃ k, keyOf y = some k ∧ acc.length < 100000 ∧ (dPut acc k z = kI f ((xs.take (i + 1)).filter p) ∧ St (i + 1) S4)) (fun S2 => acc = kI f ((xs.take (i + 1)).filter p) ∧ St (i + 1) S2) (fun hp S4 h4 => ?_) fun hp S2 h2 => ⟨?_, h2⟩⟩
      · refine ⟨.inl r, rfl, ?_, ?_, h4⟩
        · rw [ha, kI_len]
          have := List.length_filter_le p (xs.take i)
          rw [List.length_take] at this
          omega
        · have hn : r ∉ (xs.take i).filter p := fun m => take_nd nd e (List.mem_filter.mp m).1
          rw [ha, kI_put f hn, List.take_add_one, e, List.filter_append]
          simp [hp]
      · rw [ha, List.take_add_one, e, List.filter_append]
        simp [hp]
  · rintro acc S ⟨ha, hs⟩ a hn
    rw [List.length_map] at ha hs
    rw [List.take_length] at ha
    rw [ha]
    exact q S hs a hn
/-- [f(r) for r in xs if p(r)] -/
theorem lc_ints {t : Tgt} {tt : DT} {de : DE} {P : D → Store → Prop} {ρ : DSt} {S1 : Store} {pin : Option (Store → Prop)} {ds : List D} (xs : List Int) (hds : ds = xs.map .int) (hl : xs.length ≤ 100000) (p : Int → Bool) (f : Int → D) (St : Nat → Store → Prop)
    (h0 : St 0 S1) (hpin : ∀ i S, St i S → PinOk pin S)
    (step : ∀ (i : Nat) (r : Int) (S : Store), xs[i]? = some r → St i S → ∃ ρ', t.put (.int r) (dwipe ρ t.slots) = some ρ' ∧ ∀ (K : D → Store → Prop) (N : Store → Prop), (p r = true → ∀ S4, St (i + 1) S4 → K (f r) S4) → (p r = false → ∀ S2, St (i + 1) S2 → N S2) →
      tt ρ' S fun b S2 => if b = true then de ρ' S2 fun y S3 => K y S3 else N S2)
    (q : ∀ S2, St xs.length S2 → P (.lst ((xs.filter p).map f)) S2) : LcN t tt de P ds pin ρ S1 := by
  subst hds
  have main : (xs.map D.int).length ≤ 100000 ∧ ∃ W : Nat → List D → Store → Prop, W 0 [] S1 ∧ (∀ i acc S, W i acc S → PinOk pin S) ∧
      (∀ i d acc S, (xs.map D.int)[i]? = some d → W i acc S → ∃ ρ', t.put d (dwipe ρ t.slots) = some ρ' ∧ tt ρ' S fun b S2 => if b = true then de ρ' S2 fun y S3 => W (i + 1) (acc ++ [y]) S3 else W (i + 1) acc S2) ∧ ∀ acc S, W (xs.map D.int).length acc S → P (.lst acc) S := by
    refine ⟨by simpa using hl, fun i acc S => acc = ((xs.take i).filter p).map f ∧ St i S, ⟨by simp, h0⟩, fun i acc S h => hpin i S h.2, ?_, ?_⟩
    · rintro i d acc S hd ⟨ha, hs⟩
      rw [List.getElem?_map] at hd
      cases e : xs[i]? with
      | none => rw [e] at hd; cases hd
      | some r =>
        rw [e] at hd
        cases hd
        obtain ⟨ρ', h1, h2⟩ := step i r S e hs
        refine ⟨ρ', h1, h2 (fun y S3 => acc ++ [y] = ((xs.take (i + 1)).filter p).map f ∧ St (i + 1) S3) (fun S2 => acc = ((xs.take (i + 1)).filter p).map f ∧ St (i + 1) S2) (fun hp S4 h4 => ⟨?_, h4⟩) fun hp S2 h2 => ⟨?_, h2⟩⟩
        · rw [ha, List.take_add_one, e, List.filter_append]
          simp [hp]
        · rw [ha, List.take_add_one, e, List.filter_append]
          simp [hp]
    · rintro acc S ⟨ha, hs⟩
      rw [List.length_map] at ha hs
      rw [List.take_length] at ha
      rw [ha]
      exact q S hs
  obtain ⟨hl2, W, w0, wp, w1, w2⟩ := main
  cases pin with
  | none => exact ⟨hl2, W, w0, w1, w2⟩
  | some p => exact ⟨hl2, W, w0, wp, w1, w2⟩
theorem lcp_ints {t : Tgt} {tt : DT} {de : DE} {P : D → Store → Prop} {ρ : DSt} {S1 : Store} {pp : Store → Prop} {ds : List D} (xs : List Int) (hds : ds = xs.map .int) (hl : xs.length ≤ 100000) (p : Int → Bool) (f : Int → D) (St : Nat → Store → Prop)
    (h0 : St 0 S1) (hpin : ∀ i S, St i S → PinOk (some pp) S)
    (step : ∀ (i : Nat) (r : Int) (S : Store), xs[i]? = some r → St i S → ∃ ρ', t.put (.int r) (dwipe ρ t.slots) = some ρ' ∧ ∀ (K : D → Store → Prop) (N : Store → Prop), (p r = true → ∀ S4, St (i + 1) S4 → K (f r) S4) → (p r = false → ∀ S2, St (i + 1) S2 → N S2) →
      tt ρ' S fun b S2 => if b = true then de ρ' S2 fun y S3 => K y S3 else N S2)
    (q : ∀ S2, St xs.length S2 → P (.lst ((xs.filter p).map f)) S2) : LcP t tt de P ds pp ρ S1 := lc_ints (pin := some pp) xs hds hl p f St h0 hpin step q
theorem lcb_ints {t : Tgt} {tt : DT} {de : DE} {P : D → Store → Prop} {ρ : DSt} {S1 : Store} {ds : List D} (xs : List Int) (hds : ds = xs.map .int) (hl : xs.length ≤ 100000) (p : Int → Bool) (f : Int → D) (St : Nat → Store → Prop)
    (h0 : St 0 S1)
    (step : ∀ (i : Nat) (r : Int) (S : Store), xs[i]? = some r → St i S → ∃ ρ', t.put (.int r) (dwipe ρ t.slots) = some ρ' ∧ ∀ (K : D → Store → Prop) (N : Store → Prop), (p r = true → ∀ S4, St (i + 1) S4 → K (f r) S4) → (p r = false → ∀ S2, St (i + 1) S2 → N S2) →
      tt ρ' S fun b S2 => if b = true then de ρ' S2 fun y S3 => K y S3 else N S2)
    (q : ∀ S2, St xs.length S2 → P (.lst ((xs.filter p).map f)) S2) : LcB t tt de P ds ρ S1 := lc_ints (pin := none) xs hds hl p f St h0 (fun _ _ _ => trivial) step q
/-! ### lists of numbers -/
/-- range(lo, hi) -/
def irg (lo hi : Int) : List Int := (List.range (hi - lo).toNat).map fun (i : Nat) => lo + (i : Int)
theorem mem_irg {lo hi x : Int} : x ∈ irg lo hi ↔ lo ≤ x ∧ x < hi := by
  unfold irg
  rw [List.mem_map]
  constructor
  · rintro ⟨i, hi', rfl⟩
    have := List.mem_range.mp hi'
    omega
  · rintro ⟨h1, h2⟩
    exact ⟨(x - lo).toNat, List.mem_range.mpr (by omega), by omega⟩
theorem irg_len (lo hi : Int) : (irg lo hi).length = (hi - lo).toNat := by simp [irg]
theorem rng_irg (lo hi : Int) : rng lo (hi - lo).toNat = (irg lo hi).map .int := by
  unfold rng irg
  rw [List.map_map]; rfl
theorem irg_lt (lo hi : Int) : (irg lo hi).Pairwise (· < ·) := by
  unfold irg
  rw [List.pairwise_map]
  exact List.pairwise_lt_range.imp fun h => by omega
theorem nd_lt {xs : List Int} (h : xs.Pairwise (· < ·)) : xs.Nodup := h.imp fun h => by omega
theorem irg_nd (lo hi : Int) : (irg lo hi).Nodup := nd_lt (irg_lt lo hi)
/-- rising, just the members of l -/
structure Srt (l ys : List Int) : Prop where
  lt : ys.Pairwise (· < ·)
  mem : ∀ k, k ∈ ys ↔ k ∈ l
theorem srt_uniq : ∀ {ys zs : List Int}, ys.Pairwise (· < ·) → zs.Pairwise (· < ·) → (∀ k, k ∈ ys ↔ k ∈ zs) → ys = zs
  | [], [], _, _, _ => rfl
  | [], z :: zs, _, _, h => by have := (h z).2 (by simp); simp at this
  | y :: ys, [], _, _, h => by have := (h y).1 (by simp); simp at this
  | y :: ys, z :: zs, h1, h2, h => by
    rw [List.pairwise_cons] at h1 h2
    have e : y = z := by
      have a1 := (h y).1 (by simp)
      have a2 := (h z).2 (by simp)
      rcases List.mem_cons.mp a1 with q | q
      · exact q
      · rcases List.mem_cons.mp a2 with r | r
        · exact r.symm
        · have := h1.1 z r
          have := h2.1 y q
          omega
    subst e
    rw [srt_uniq h1.2 h2.2 fun k => ?_]
    constructor
    · intro hk
      have := h1.1 k hk
      rcases List.mem_cons.mp ((h k).1 (by simp [hk])) with q | q
      · omega
      · exact q
    · intro hk
      have := h2.1 k hk
      rcases List.mem_cons.mp ((h k).2 (by simp [hk])) with q | q
      · omega
      · exact q
theorem Srt.uniq {l l' ys zs : List Int} (h : Srt l ys) (h' : Srt l' zs) (e : ∀ k, k ∈ l ↔ k ∈ l') : ys = zs := srt_uniq h.lt h'.lt fun k => (h.mem k).trans ((e k).trans (h'.mem k).symm)
theorem srt_perm {ks ys : List Int} (nd : ks.Nodup) (p : ys.Perm ks) (h : ys.Pairwise (· ≤ ·)) : Srt ks ys := by
  refine ⟨?_, fun k => p.mem_iff⟩
  have n2 : ys.Nodup := p.nodup_iff.mpr nd
  have := h.and n2
  exact this.imp fun ⟨a, b⟩ => by omega
theorem nd_sub_len : ∀ {c l : List Int}, c.Nodup → (∀ k, k ∈ c → k ∈ l) → c.length ≤ l.length
  | [], l, _, _ => by simp
  | a :: c, l, h, hs => by
    rw [List.nodup_cons] at h
    have ha : a ∈ l := hs a (by simp)
    have := nd_sub_len (c := c) (l := l.erase a) h.2 fun k hk => by
      have hne : k ≠ a := fun e => h.1 (e ▸ hk)
      exact (List.mem_erase_of_ne hne).2 (hs k (by simp [hk]))
    rw [List.length_erase_of_mem ha] at this
    have := List.length_pos_of_mem ha
    simp only [List.length_cons]
    omega
/-! ### all that may come in a place -/
/-- all sums, one source more -/
def addS (acc : List Int) (p : Int × Int) : List Int := acc.flatMap fun one => (irg (-p.2) (p.2 + 1)).map fun f => one + p.1 * f
def sumsR (ps : List (Int × Int)) : List Int := ps.foldl addS [0]
/-- the greatest of them -/
def addT (T : Int) (p : Int × Int) : Int := T + (p.1.natAbs : Int) * p.2
def topR (ps : List (Int × Int)) : Int := ps.foldl addT 0
theorem mem_addS {acc : List Int} {p : Int × Int} {x : Int} : x ∈ addS acc p ↔ ∃ one ∈ acc, ∃ f, -p.2 ≤ f ∧ f ≤ p.2 ∧ x = one + p.1 * f := by
  unfold addS
  rw [List.mem_flatMap]
  constructor
  · rintro ⟨one, h1, h2⟩
    obtain ⟨f, hf, rfl⟩ := List.mem_map.mp h2
    rw [mem_irg] at hf
    exact ⟨one, h1, f, by omega, by omega, rfl⟩
  · rintro ⟨one, h1, f, h2, h3, rfl⟩
    exact ⟨one, h1, List.mem_map.mpr ⟨f, mem_irg.mpr ⟨h2, by omega⟩, rfl⟩⟩
theorem addS_congr {a b : List Int} (h : ∀ k, k ∈ a ↔ k ∈ b) (p : Int × Int) (x : Int) : x ∈ addS a p ↔ x ∈ addS b p := by
  rw [mem_addS, mem_addS]
  constructor
  · rintro ⟨one, h1, r⟩; exact ⟨one, (h one).1 h1, r⟩
  · rintro ⟨one, h1, r⟩; exact ⟨one, (h one).2 h1, r⟩
theorem abs_mul_le {w f m : Int} (h1 : -m ≤ f) (h2 : f ≤ m) : -((w.natAbs : Int) * m) ≤ w * f ∧ w * f ≤ (w.natAbs : Int) * m := by
  rcases Int.le_total 0 w with h | h
  · have e : (w.natAbs : Int) = w := by omega
    rw [e]
    have a := Int.mul_le_mul_of_nonneg_left h1 h
    have b := Int.mul_le_mul_of_nonneg_left h2 h
    rw [Int.mul_neg] at a
    omega
  · have e : (w.natAbs : Int) = -w := by omega
    rw [e]
    have a := Int.mul_le_mul_of_nonneg_left h1 (show (0 : Int) ≤ -w by omega)
    have b := Int.mul_le_mul_of_nonneg_left h2 (show (0 : Int) ≤ -w by omega)
    rw [Int.mul_neg] at a
    rw [Int.neg_mul, Int.neg_mul] at a b
    rw [Int.neg_mul]
    omega
theorem addS_bound {acc : List Int} {p : Int × Int} {T : Int} (h : ∀ x ∈ acc, -T ≤ x ∧ x ≤ T) : ∀ x ∈ addS acc p, -(addT T p) ≤ x ∧ x ≤ addT T p := by
  unfold addT
  intro x hx
  obtain ⟨one, h1, f, h2, h3, rfl⟩ := mem_addS.mp hx
  have a := h one h1
  have b := abs_mul_le (w := p.1) h2 h3
  omega
theorem sums_bound : ∀ (ps : List (Int × Int)) (acc : List Int) (T : Int), (∀ x ∈ acc, -T ≤ x ∧ x ≤ T) → ∀ x ∈ ps.foldl addS acc, -(ps.foldl addT T) ≤ x ∧ x ≤ ps.foldl addT T
  | [], _, _, h => h
  | p :: ps, acc, T, h => sums_bound ps _ _ (addS_bound h)
theorem sumsR_bound {ps : List (Int × Int)} : ∀ x ∈ sumsR ps, -(topR ps) ≤ x ∧ x ≤ topR ps := sums_bound ps [0] 0 (by simp)
theorem zero_addS {acc : List Int} {p : Int × Int} (h : 0 ∈ acc) (hp : 0 ≤ p.2) : 0 ∈ addS acc p := mem_addS.mpr ⟨0, h, 0, by omega, hp, by simp⟩
theorem zero_sums : ∀ (ps : List (Int × Int)) (acc : List Int), 0 ∈ acc → (∀ p ∈ ps, 0 ≤ p.2) → 0 ∈ ps.foldl addS acc
  | [], _, h, _ => h
  | p :: ps, acc, h, hp => zero_sums ps _ (zero_addS h (hp p (by simp))) fun q hq => hp q (by simp [hq])
theorem zero_sumsR {ps : List (Int × Int)} (hp : ∀ p ∈ ps, 0 ≤ p.2) : 0 ∈ sumsR ps := zero_sums ps [0] (by simp) hp
/-! ### a game -/
structure Gm where
  b : Int
  w : Int
  st : Int
  sums : List Int
def Gm.top (g : Gm) : Int := g.sums.getLastD 0
def Gm.gr (g : Gm) : Int := (g.st * g.w - g.top).fdiv (g.b - 1)
def Gm.rests (g : Gm) : List Int := irg (-g.gr) (g.gr + 1)
def Gm.led (g : Gm) (a : Int) : List Int := (irg (max (-g.w) (-((g.gr - a).fdiv g.st))) (min g.w ((a + g.gr).fdiv g.st) + 1)).map fun f => a - f * g.st
/-- some figure leads to one of those held -/
def Gm.heldB (g : Gm) (H : List Int) (a : Int) : Bool := (g.led a).any fun x => decide (x ∈ H)
/-- the first sum behind which none does -/
def Gm.fatal (g : Gm) (H : List Int) (r : Int) : Option Int := g.sums.find? fun s => !g.heldB H (g.b * r + s)
def Gm.safe (g : Gm) (H : List Int) (r : Int) : Bool := (g.fatal H r).isNone
/-- the rests that go, each with its rank and its sum -/
def Gm.gone (g : Gm) (H : List Int) (k : Int) : List (Int × Int × Int) := (H.filter fun r => !g.safe H r).map fun r => (r, k, (g.fatal H r).getD 0)
def Gm.ranksN (g : Gm) : Nat → List (Int × Int × Int) → List Int → Int → List (Int × Int × Int) × List Int
  | 0, found, H, _ => (found, H)
  | n + 1, found, H, k => if H.all (g.safe H) = true then (found, H) else g.ranksN n (found ++ g.gone H k) (H.filter (g.safe H)) (k + 1)
def Gm.ranks (g : Gm) : List (Int × Int × Int) × List Int := g.ranksN (g.rests.length + 1) [] g.rests 0
/-- what is wanted of a game -/
structure GmOk (g : Gm) : Prop where
  b0 : 2 ≤ g.b
  b1 : g.b ≤ 16
  w0 : 0 ≤ g.w
  w1 : g.w ≤ 1000
  s0 : 0 < g.st
  s1 : g.st < 2 ^ 40
  ne : g.sums ≠ []
  sl : g.sums.length ≤ 2000
  sb : ∀ s ∈ g.sums, s.natAbs < 2 ^ 40
  few : 2 * g.gr + 1 ≤ 2000
theorem fdiv_lt_iff {a x k : Int} (hk : 0 < k) : x ≤ a.fdiv k ↔ x * k ≤ a := by
  rw [Int.fdiv_eq_ediv_of_nonneg _ (by omega)]
  exact Int.le_ediv_iff_mul_le hk
theorem mem_led {g : Gm} (h0 : 0 < g.st) {a x : Int} : x ∈ g.led a ↔ ∃ f, -g.w ≤ f ∧ f ≤ g.w ∧ x = a - f * g.st ∧ -g.gr ≤ x ∧ x ≤ g.gr := by
  unfold Gm.led
  rw [List.mem_map]
  constructor
  · rintro ⟨f, hf, rfl⟩
    rw [mem_irg] at hf
    have h1 : -f ≤ (g.gr - a).fdiv g.st := by omega
    have h2 : f ≤ (a + g.gr).fdiv g.st := by omega
    rw [fdiv_lt_iff h0] at h1 h2
    rw [Int.neg_mul] at h1
    exact ⟨f, by omega, by omega, rfl, by omega, by omega⟩
  · rintro ⟨f, h1, h2, rfl, h3, h4⟩
    refine ⟨f, mem_irg.mpr ⟨?_, ?_⟩, rfl⟩
    · have : -f ≤ (g.gr - a).fdiv g.st := by
        rw [fdiv_lt_iff h0, Int.neg_mul]; omega
      omega
    · have : f ≤ (a + g.gr).fdiv g.st := by
        rw [fdiv_lt_iff h0]; omega
      omega
theorem filter_lt {α : Type} {p : α → Bool} : ∀ {l : List α}, ¬ l.all p = true → (l.filter p).length < l.length
  | [], h => by simp at h
  | a :: l, h => by
    rw [List.all_cons] at h
    cases e : p a with
    | true =>
      rw [e, Bool.true_and] at h
      have := filter_lt h
      rw [List.filter_cons_of_pos e]
      simpa using this
    | false =>
      rw [List.filter_cons_of_neg (by rw [e]; simp)]
      have := List.length_filter_le p l
      simp only [List.length_cons]; omega
theorem ranksN_fuel (g : Gm) : ∀ (n m : Nat) (found : List (Int × Int × Int)) (H : List Int) (k : Int), H.length + 1 ≤ n → H.length + 1 ≤ m → g.ranksN n found H k = g.ranksN m found H k
  | 0, m, found, H, k, h, _ => by omega
  | n + 1, 0, found, H, k, _, h => by omega
  | n + 1, m + 1, found, H, k, h1, h2 => by
    unfold Gm.ranksN
    by_cases e : H.all (g.safe H) = true
    · rw [if_pos e, if_pos e]
    · rw [if_neg e, if_neg e]
      have := filter_lt e
      exact ranksN_fuel g n m _ _ _ (by omega) (by omega)
/-- one turn more -/
theorem ranksN_step (g : Gm) {found : List (Int × Int × Int)} {H : List Int} {k : Int} (h : ¬ H.all (g.safe H) = true) : g.ranksN (H.length + 1) found H k = g.ranksN ((H.filter (g.safe H)).length + 1) (found ++ g.gone H k) (H.filter (g.safe H)) (k + 1) := by
  rw [show g.ranksN (H.length + 1) found H k = g.ranksN H.length (found ++ g.gone H k) (H.filter (g.safe H)) (k + 1) from by
    show (if H.all (g.safe H) = true then (found, H) else g.ranksN H.length (found ++ g.gone H k) (H.filter (g.safe H)) (k + 1)) = _
    rw [if_neg h]]
  have := filter_lt h
  exact ranksN_fuel g _ _ _ _ _ (by omega) (by omega)
theorem ranksN_end (g : Gm) {found : List (Int × Int × Int)} {H : List Int} {k : Int} (h : H.all (g.safe H) = true) : g.ranksN (H.length + 1) found H k = (found, H) := by
  show (if H.all (g.safe H) = true then (found, H) else g.ranksN H.length (found ++ g.gone H k) (H.filter (g.safe H)) (k + 1)) = _
  rw [if_pos h]
/-! ### == of lists of ints -/
theorem eqv_intsG : ∀ xs ys : List Int, PyData.eqvAll (xs.map PyData.int) (ys.map PyData.int) = decide (xs = ys)
  | [], [] => rfl
  | [], _ :: _ => rfl
  | _ :: _, [] => rfl
  | x :: xs, y :: ys => by
    simp only [List.map_cons, PyData.eqvAll, PyData.eqv, eqv_intsG xs ys]
    rw [Bool.eq_iff_iff]
    simp
theorem py_intsG : ∀ xs : List Int, D.pyL (xs.map D.int) = some (xs.map PyData.int)
  | [] => rfl
  | x :: xs => by simp only [List.map_cons, D.pyL, D.py, py_intsG xs]
theorem lay_intsG : ∀ xs : List Int, PyData.canLayAll0 (xs.map PyData.int) = true
  | [] => rfl
  | x :: xs => by simp [PyData.canLayAll0, PyData.canLay0, lay_intsG xs]
theorem dep_intsG : ∀ xs : List Int, PyData.depthAll (xs.map PyData.int) ≤ 1
  | [] => by simp [PyData.depthAll]
  | x :: xs => by
    have := dep_intsG xs
    simp [PyData.depthAll, PyData.depth]
    omega
theorem shaped_intsG (xs : List Int) : SeqAt.shaped (.list (xs.map PyData.int)) = true := by
  have := dep_intsG xs
  simp [SeqAt.shaped, PyData.canLay0, PyData.depth, lay_intsG xs]
  omega
theorem eqB_intsG (xs ys : List Int) : dEqB (.lst (xs.map D.int)) (.lst (ys.map D.int)) = some (decide (xs = ys)) := by
  have h : dEqB (.lst (xs.map D.int)) (.lst (ys.map D.int)) = some (PyData.eqvAll (xs.map PyData.int) (ys.map PyData.int)) := by
    simp only [dEqB, D.py, py_intsG, Option.map_some, shaped_intsG, and_self, reduceIte, PyData.eqv]
  rw [h, eqv_intsG]
/-! ### isinstance of dict, of (bool, str) -/
theorem isiG_non_dict {S : Store} {P : D → Store → Prop} : cIsi [.non, .ty "dict"] S P = P (.bl false) S := propext ⟨fun h => h.2, fun h => ⟨by decide, h⟩⟩
theorem isiG_bl_dict {k : Bool} {S : Store} {P : D → Store → Prop} : cIsi [(.bl k), .ty "dict"] S P = P (.bl false) S := propext ⟨fun h => h.2, fun h => ⟨by decide, h⟩⟩
theorem isiG_int_dict {k : Int} {S : Store} {P : D → Store → Prop} : cIsi [(.int k), .ty "dict"] S P = P (.bl false) S := propext ⟨fun h => h.2, fun h => ⟨by decide, h⟩⟩
theorem isiG_str_dict {k : Str} {S : Store} {P : D → Store → Prop} : cIsi [(.str k), .ty "dict"] S P = P (.bl false) S := propext ⟨fun h => h.2, fun h => ⟨by decide, h⟩⟩
theorem isiG_lst_dict {k : List D} {S : Store} {P : D → Store → Prop} : cIsi [(.lst k), .ty "dict"] S P = P (.bl false) S := propext ⟨fun h => h.2, fun h => ⟨by decide, h⟩⟩
theorem isiG_tup_dict {k : List D} {S : Store} {P : D → Store → Prop} : cIsi [(.tup k), .ty "dict"] S P = P (.bl false) S := propext ⟨fun h => h.2, fun h => ⟨by decide, h⟩⟩
theorem isiG_non_bs {S : Store} {P : D → Store → Prop} : cIsi [.non, .tup [.ty "bool", .ty "str"]] S P = P (.bl false) S := rfl
theorem isiG_bl_bs {k : Bool} {S : Store} {P : D → Store → Prop} : cIsi [(.bl k), .tup [.ty "bool", .ty "str"]] S P = P (.bl true) S := rfl
theorem isiG_int_bs {k : Int} {S : Store} {P : D → Store → Prop} : cIsi [(.int k), .tup [.ty "bool", .ty "str"]] S P = P (.bl false) S := rfl
theorem isiG_str_bs {k : Str} {S : Store} {P : D → Store → Prop} : cIsi [(.str k), .tup [.ty "bool", .ty "str"]] S P = P (.bl true) S := rfl
theorem isiG_lst_bs {k : List D} {S : Store} {P : D → Store → Prop} : cIsi [(.lst k), .tup [.ty "bool", .ty "str"]] S P = P (.bl false) S := rfl
theorem isiG_tup_bs {k : List D} {S : Store} {P : D → Store → Prop} : cIsi [(.tup k), .tup [.ty "bool", .ty "str"]] S P = P (.bl false) S := rfl
end Lb

/-! Games: the program's defs walked. -/
namespace Lb
open PySem PySem.Spec PyProof.Rows L2 DL
variable [CT]
local macro_rules | `(tactic| walk_at "dg5") => `(tactic| try simp only [isiG_non_dict, isiG_bl_dict, isiG_int_dict, isiG_str_dict, isiG_lst_dict, isiG_tup_dict, isiG_non_bs, isiG_bl_bs, isiG_int_bs, isiG_str_bs, isiG_lst_bs, isiG_tup_bs, dCall, dNewD, dDisp, dPrs, dkvsOf, dDGet, dDIn, dDGet1, dDGet2, dDPut, dDPop1, dDPop2, dDUpd, cLenD, cListD, cListDM, cDictD, cDictP, cSortDB, cSortL, dBack, dItKeys, dItItems, dItVals, keyOf_int, keyOf_str, dDc, dDc2, dLstR1, dLstR2, dFld, dSetFld, dFldAdd, dMeth, dMake, dMakeK, dFld2, put_tl, dSeq, dSet, dPar, dOp, dUn, dVar, dC, dCB, dCons, dNil, dTup, dLst, dLstM, dIfS, dIf, dTest, dNot, dAnd, dOr, dAndV, dOrV, dNotV, dRet, dRetN, dEnd, dNext, dAdd, dSub, dMul, dFdiv, dMod, dPow, dNeg, dLt, dLe, dGt, dGe, dEq, dNe, eqB_ii, eqB_bb, eqB_ss, eqB_nn, eqB_ni, eqB_in, eqB_ns, eqB_sn, eqB_is, eqB_si, eqB_nb, eqB_bn, dIx, dIn, dIsN, dNotN, DL.isNon, cAbs, cMax2, cMin2, cInt, cLen, cList, cTuple, dIsB, dNotB, dPar3, ForN, LcN, pinOf, pin2, dEnum2, dAppend, supd_same0, isi_non_int, isi_non_bool, isi_non_str, isi_non_list, isi_non_tuple, isi_non_lt, isi_bl_int, isi_bl_bool, isi_bl_str, isi_bl_list, isi_bl_tuple, isi_bl_lt, isi_int_int, isi_int_bool, isi_int_str, isi_int_list, isi_int_tuple, isi_int_lt, isi_str_int, isi_str_bool, isi_str_str, isi_str_list, isi_str_tuple, isi_str_lt, isi_lst_int, isi_lst_bool, isi_lst_str, isi_lst_list, isi_lst_tuple, isi_lst_lt, isi_tup_int, isi_tup_bool, isi_tup_str, isi_tup_list, isi_tup_tuple, isi_tup_lt, dAug, dIAdd, dIMul, dDrop, dSl, dPart, dNoPart, dRevL, dCallK, dChainR, dAsg, put_nm, put_tp, put_tl, putL_nil, putL_cons, Option.bind, seqOf, lstOf, dFor, dLc, dLcM, dItSeq, dZip, dZipS, dEnum, dRng1, dRng2, dYes, dwipe, Tgt.slots, Tgt.slotsL,
  atI_0, atI_1, atI_2, atI_3, List.getElem?_cons_zero, List.getElem?_cons_succ, List.set_cons_zero, List.set_cons_succ, decide_eq_true_eq, List.length_cons, List.length_nil, List.cons_append, List.nil_append, List.append_nil, ofString_inj, String.reduceEq, decide_true, decide_false, reduceIte, Bool.false_eq_true, Bool.not_true, Bool.not_false, eqFlat, isFlat, List.any_cons, List.any_nil, List.all_cons, List.all_nil, Bool.or_false, Bool.or_true, Bool.false_or, Bool.true_or, Bool.and_true, Bool.true_and, true_and, and_true, Nat.reduceAdd, Nat.reduceLeDiff, Int.reduceLT, Int.reduceLE, Int.reduceNeg])
def GF (g : Gm) : List (Str × D) := [("own_base", .int g.b), ("own_most", .int g.w), ("own_step", .int g.st), ("own_sums", .lst (g.sums.map .int))]
def GAt (S : Store) (p : Addr) (g : Gm) : Prop := S p = some (.ins (CT.at_ 3) (GF g))
/-- the shares and mosts of a game -/
structure SumOk (ws ms : List Int) : Prop where
  l : ws.length = ms.length
  w : ∀ w ∈ ws, w.natAbs ≤ 1000
  m0 : ∀ m ∈ ms, 0 ≤ m
  m1 : ∀ m ∈ ms, m ≤ 1000
  n : (sumsR (ws.zip ms)).length ≤ 99999
def sp_wall : DSp := fun _ _ _ => False
def sp_sums_of : DSp := fun ds S P => ∃ ws ms : List Int, ds = [.tup (ws.map .int), .tup (ms.map .int)] ∧ SumOk ws ms ∧ ∀ ys S', Srt (sumsR (ws.zip ms)) ys → Grown S S' → P (.lst (ys.map .int)) S'
def sp_Game_init : DSp := fun ds S P => ∃ (p : Addr) (b over most lag : Int) (ws ms : List Int), ds = [.obj p, .int b, .tup (ws.map .int), .int over, .tup (ms.map .int), .int most, .int lag] ∧ S p = some (.ins (CT.at_ 3) []) ∧ SumOk ws ms ∧ 0 < b ∧ b ≤ 16 ∧ 0 < over ∧ over < 2 ^ 60 ∧ 0 ≤ lag ∧ lag ≤ 900 ∧
  ∀ g S', g.b = b → g.w = most → g.st = over * b ^ lag.toNat → Srt (sumsR (ws.zip ms)) g.sums → GAt S' p g → (∀ a m, a ≠ p → S a = some m → S' a = some m) → P .non S'
def sp_Game_is_lost : DSp := fun _ _ _ => False
def sp_Game_greatest : DSp := fun ds S P => ∃ (p : Addr) (g : Gm), ds = [.obj p] ∧ GAt S p g ∧ GmOk g ∧ P (.int g.gr) S
def sp_Game_rests : DSp := fun ds S P => ∃ (p : Addr) (g : Gm), ds = [.obj p] ∧ GAt S p g ∧ GmOk g ∧ P (.lst (g.rests.map .int)) S
def sp_Game_look : DSp := fun ds S P => ∃ (p : Addr) (g : Gm), ds = [.obj p] ∧ GAt S p g ∧ GmOk g ∧ P .non S
def sp_Game_led_to : DSp := fun ds S P => ∃ (p : Addr) (g : Gm) (a : Int), ds = [.obj p, .int a] ∧ GAt S p g ∧ GmOk g ∧ a.natAbs < 2 ^ 60 ∧ P (.lst ((g.led a).map .int)) S
/-- h is a dict whose keys are the rests H -/
def HeldAt (S : Store) (h : Addr) (H : List Int) : Prop := ∃ kvs, dctOf S (.obj h) = some kvs ∧ kvs.map (·.1) = H.map Sum.inl
def sp_Game_is_held : DSp := fun ds S P => ∃ (p h : Addr) (g : Gm) (H : List Int) (r s : Int), ds = [.obj p, .int r, .int s, .obj h] ∧ GAt S p g ∧ GmOk g ∧ HeldAt S h H ∧ r.natAbs < 2 ^ 40 ∧ s.natAbs < 2 ^ 40 ∧ P (.bl (g.heldB H (g.b * r + s))) S
/-- what is known: of some rests whether they lead to one of those held -/
def KnOk (g : Gm) (H : List Int) (kk : List (Key × D)) : Prop := ∀ q ∈ kk, ∃ a, q = (.inl a, .bl (g.heldB H a))
def optI : Option Int → D
  | none => .non
  | some i => .int i
def sp_Game_first_fatal : DSp := fun ds S P => ∃ (p k h : Addr) (g : Gm) (H : List Int) (r : Int) (kk : List (Key × D)), ds = [.obj p, .int r, .obj k, .obj h] ∧ GAt S p g ∧ GmOk g ∧ HeldAt S h H ∧ h ≠ k ∧ r.natAbs < 2 ^ 40 ∧ S k = some (.dK kk) ∧ KnOk g H kk ∧ kk.length + g.sums.length ≤ 99999 ∧
  ∀ kk', KnOk g H kk' → kk'.length ≤ kk.length + g.sums.length → P (optI (g.fatal H r)) (supd S k (.dK kk'))
def fndD (t : Int × Int × Int) : Key × D := (.inl t.1, .tup [.int t.2.1, .int t.2.2])
def sp_Game_ranks : DSp := fun ds S P => ∃ (p : Addr) (g : Gm), ds = [.obj p] ∧ GAt S p g ∧ GmOk g ∧ g.rests.length * g.sums.length ≤ 99999 ∧ ∀ f h kvs S', Grown S S' → f ≠ h → S' f = some (.dK (g.ranks.1.map fndD)) → S' h = some (.dK kvs) → kvs.map (·.1) = g.ranks.2.map Sum.inl → P (.tup [.obj f, .obj h]) S'
def rd_wall : DS :=
  (dWhile (dTest (dC (.bl true))) dNext)
def goal_wall : Prop := ∀ (x0 : D) (S : Store) (P : D → Store → Prop), sp_wall [x0] S P → rd_wall (dEnd P) [some x0] S
def rd_sums_of : DS :=
  (dSeq (dSet 2 (dDisp [((dC (.int 0)), (dC (.bl true)))]))
  (dSeq (dFor (dZipS (dCons (dVar 0) (dCons (dVar 1) dNil))) (.tp [(.nm 3), (.nm 4)]) (dLock (dSet 2 (dDc2 (dItKeys (dVar 2)) (.nm 5) dYes (dRng2 (dCons (dUn dNeg (dVar 4)) (dCons (dOp dAdd (dVar 4) (dC (.int 1))) dNil))) (.nm 6) dYes (dOp dAdd (dVar 5) (dOp dMul (dVar 3) (dVar 6))) (dC (.bl true))))))
  (dRet (dCB cSortDB (dCons (dVar 2) dNil)))))
def goal_sums_of : Prop := ∀ (x0 x1 : D) (S : Store) (P : D → Store → Prop), sp_sums_of [x0, x1] S P → rd_sums_of (dEnd P) [some x0, some x1, none, none, none, none, none] S
def rd_Game_init : DS :=
  (dSeq (dSetFld 3 "own_base" (dVar 0) (dVar 1))
  (dSeq (dSetFld 3 "own_most" (dVar 0) (dVar 5))
  (dSeq (dSetFld 3 "own_step" (dVar 0) (dOp dMul (dVar 3) (dOp dIx (dCB sp_power (dCons (dVar 1) (dCons (dVar 6) dNil))) (dC (.int 0)))))
  (dSetFld 3 "own_sums" (dVar 0) (dCB sp_sums_of (dCons (dVar 2) (dCons (dVar 4) dNil)))))))
def goal_Game_init : Prop := ∀ (x0 x1 x2 x3 x4 x5 x6 : D) (S : Store) (P : D → Store → Prop), sp_Game_init [x0, x1, x2, x3, x4, x5, x6] S P → rd_Game_init (dEnd P) [some x0, some x1, some x2, some x3, some x4, some x5, some x6] S
def rd_Game_is_lost : DS :=
  (dDrop (dCB sp_wall (dCons (dC (.int 0)) dNil)))
def goal_Game_is_lost : Prop := ∀ (x0 x1 : D) (S : Store) (P : D → Store → Prop), sp_Game_is_lost [x0, x1] S P → rd_Game_is_lost (dEnd P) [some x0, some x1] S
def rd_Game_greatest : DS :=
  (dRet (dOp dFdiv (dOp dSub (dOp dMul (dFld 3 "own_step" (dVar 0)) (dFld 3 "own_most" (dVar 0))) (dOp dIx (dFld 3 "own_sums" (dVar 0)) (dUn dNeg (dC (.int 1))))) (dOp dSub (dFld 3 "own_base" (dVar 0)) (dC (.int 1)))))
def goal_Game_greatest : Prop := ∀ (x0 : D) (S : Store) (P : D → Store → Prop), sp_Game_greatest [x0] S P → rd_Game_greatest (dEnd P) [some x0] S
def rd_Game_rests : DS :=
  (dRet (dLstR2 (dUn dNeg (dMeth 3 "greatest" sp_Game_greatest (dVar 0) dNil)) (dOp dAdd (dMeth 3 "greatest" sp_Game_greatest (dVar 0) dNil) (dC (.int 1)))))
def goal_Game_rests : Prop := ∀ (x0 : D) (S : Store) (P : D → Store → Prop), sp_Game_rests [x0] S P → rd_Game_rests (dEnd P) [some x0] S
def rd_Game_look : DS :=
  (dSeq (dSet 1 (dCB cMax2 (dCons (dC (.int 0)) (dCons (dOp dAdd (dOp dMul (dC (.int 2)) (dMeth 3 "greatest" sp_Game_greatest (dVar 0) dNil)) (dC (.int 1))) dNil))))
  (dIfS (dTest (dOp dGt (dVar 1) (dC (.int 2000)))) dNever dNext))
def goal_Game_look : Prop := ∀ (x0 : D) (S : Store) (P : D → Store → Prop), sp_Game_look [x0] S P → rd_Game_look (dEnd P) [some x0, none] S
def rd_Game_led_to : DS :=
  (dSeq (dSet 2 (dCB cMax2 (dCons (dUn dNeg (dFld 3 "own_most" (dVar 0))) (dCons (dUn dNeg (dOp dFdiv (dOp dSub (dMeth 3 "greatest" sp_Game_greatest (dVar 0) dNil) (dVar 1)) (dFld 3 "own_step" (dVar 0)))) dNil))))
  (dSeq (dSet 3 (dCB cMin2 (dCons (dFld 3 "own_most" (dVar 0)) (dCons (dOp dFdiv (dOp dAdd (dVar 1) (dMeth 3 "greatest" sp_Game_greatest (dVar 0) dNil)) (dFld 3 "own_step" (dVar 0))) dNil))))
  (dRet (dLc (dRng2 (dCons (dVar 2) (dCons (dOp dAdd (dVar 3) (dC (.int 1))) dNil))) (.nm 4) dYes (dOp dSub (dVar 1) (dOp dMul (dVar 4) (dFld 3 "own_step" (dVar 0))))))))
def goal_Game_led_to : Prop := ∀ (x0 x1 : D) (S : Store) (P : D → Store → Prop), sp_Game_led_to [x0, x1] S P → rd_Game_led_to (dEnd P) [some x0, some x1, none, none, none] S
def rd_Game_is_held : DS :=
  (dRet (dCB cAny (dCons (dLc (dItSeq (dMeth 3 "led_to" sp_Game_led_to (dVar 0) (dCons (dOp dAdd (dOp dMul (dFld 3 "own_base" (dVar 0)) (dVar 1)) (dVar 2)) dNil))) (.nm 4) dYes (dOp (dDIn false) (dVar 4) (dVar 3))) dNil)))
def goal_Game_is_held : Prop := ∀ (x0 x1 x2 x3 : D) (S : Store) (P : D → Store → Prop), sp_Game_is_held [x0, x1, x2, x3] S P → rd_Game_is_held (dEnd P) [some x0, some x1, some x2, some x3, none] S
def rd_Game_first_fatal : DS :=
  (dSeq (dFor (dItSeq (dFld 3 "own_sums" (dVar 0))) (.nm 4) (dSeq (dSet 5 (dOp dAdd (dOp dMul (dFld 3 "own_base" (dVar 0)) (dVar 1)) (dVar 4)))
  (dSeq (dIfS (dTest (dOp (dDIn true) (dVar 5) (dVar 2))) (dDPut (dVar 2) (dVar 5) (dMeth 3 "is_held" sp_Game_is_held (dVar 0) (dCons (dVar 1) (dCons (dVar 4) (dCons (dVar 3) dNil))))) dNext)
  (dIfS (dNot (dTest (dOp dDGet (dVar 2) (dVar 5)))) (dRet (dVar 4)) dNext))))
  (dRet (dC .non)))
def goal_Game_first_fatal : Prop := ∀ (x0 x1 x2 x3 : D) (S : Store) (P : D → Store → Prop), sp_Game_first_fatal [x0, x1, x2, x3] S P → rd_Game_first_fatal (dEnd P) [some x0, some x1, some x2, some x3, none, none] S
def rd_Game_ranks_1 : DS :=
  (dSeq (dSet 5 dNewD)
  (dSeq (dSet 6 (dLockE (dDc (dItKeys (dVar 2)) (.nm 3) dYes (dVar 3) (dMeth 3 "first_fatal" sp_Game_first_fatal (dVar 0) (dCons (dVar 3) (dCons (dVar 5) (dCons (dVar 2) dNil)))))))
  (dSeq (dLock (dSet 7 (dLc (dItKeys (dVar 6)) (.nm 3) (dTest (dOp dNotN (dOp dDGet (dVar 6) (dVar 3)) (dC .non))) (dVar 3))))
  (dSeq (dIfS (dTest (dOp dEq (dVar 7) (dLst dNil))) (dRet (dTup (dCons (dVar 1) (dCons (dVar 2) dNil)))) dNext)
  (dSeq (dDrop (dDUpd (dVar 1) (dDc (dItSeq (dVar 7)) (.nm 3) dYes (dVar 3) (dTup (dCons (dVar 4) (dCons (dOp dDGet (dVar 6) (dVar 3)) dNil))))))
  (dSeq (dSet 2 (dLockE (dDc (dItKeys (dVar 2)) (.nm 3) (dTest (dOp dIsN (dOp dDGet (dVar 6) (dVar 3)) (dC .non))) (dVar 3) (dC (.bl true)))))
  (dAug 4 dIAdd (dC (.int 1)))))))))
def rd_Game_ranks : DS :=
  (dSeq (dAsg (.tp [(.nm 1), (.nm 2)]) (dTup (dCons dNewD (dCons (dDc (dItSeq (dMeth 3 "rests" sp_Game_rests (dVar 0) dNil)) (.nm 3) dYes (dVar 3) (dC (.bl true))) dNil))))
  (dSeq (dSet 4 (dC (.int 0)))
  (dWhile (dTest (dC (.bl true))) rd_Game_ranks_1)))
def goal_Game_ranks : Prop := ∀ (x0 : D) (S : Store) (P : D → Store → Prop), sp_Game_ranks [x0] S P → rd_Game_ranks (dEnd P) [some x0, none, none, none, none, none, none, none] S
theorem len_wall : ∀ ds S P, sp_wall ds S P → ds.length = 1 := by intro _ _ _ h; exact h.elim
theorem len_sums_of : ∀ ds S P, sp_sums_of ds S P → ds.length = 2 := by rintro ds S P ⟨a, b, rfl, _⟩; rfl
theorem len_Game_init : ∀ ds S P, sp_Game_init ds S P → ds.length = 7 := by rintro ds S P ⟨a, b, c, d, e, f, g, rfl, _⟩; rfl
theorem len_Game_is_lost : ∀ ds S P, sp_Game_is_lost ds S P → ds.length = 2 := by intro _ _ _ h; exact h.elim
theorem len_Game_greatest : ∀ ds S P, sp_Game_greatest ds S P → ds.length = 1 := by rintro ds S P ⟨a, b, rfl, _⟩; rfl
theorem len_Game_rests : ∀ ds S P, sp_Game_rests ds S P → ds.length = 1 := by rintro ds S P ⟨a, b, rfl, _⟩; rfl
theorem len_Game_look : ∀ ds S P, sp_Game_look ds S P → ds.length = 1 := by rintro ds S P ⟨a, b, rfl, _⟩; rfl
theorem len_Game_led_to : ∀ ds S P, sp_Game_led_to ds S P → ds.length = 2 := by rintro ds S P ⟨a, b, c, rfl, _⟩; rfl
theorem len_Game_is_held : ∀ ds S P, sp_Game_is_held ds S P → ds.length = 4 := by rintro ds S P ⟨a, b, c, d, e, f, rfl, _⟩; rfl
theorem len_Game_first_fatal : ∀ ds S P, sp_Game_first_fatal ds S P → ds.length = 4 := by rintro ds S P ⟨a, b, c, d, e, f, g, rfl, _⟩; rfl
theorem len_Game_ranks : ∀ ds S P, sp_Game_ranks ds S P → ds.length = 1 := by rintro ds S P ⟨a, b, rfl, _⟩; rfl
theorem vc_wall : goal_wall := fun _ _ _ h => h.elim
theorem vc_Game_is_lost : goal_Game_is_lost := fun _ _ _ _ h => h.elim
/-- a field read -/
theorem g_fld {c : Nat} {p : Addr} {S : Store} {fs : List (Str × D)} {f : Str} {d : D} (h : S p = some (.ins (CT.at_ c) fs)) (e : fs.lookup f = some d) (Q : D → Prop) : (∃ p' fs' d', D.obj p = .obj p' ∧ S p' = some (.ins (CT.at_ c) fs') ∧ fs'.lookup f = some d' ∧ Q d') = Q d := by
  apply propext
  constructor
  · rintro ⟨p', fs', d', e1, e2, e3, q⟩
    cases e1
    rw [h] at e2
    cases e2
    rw [e] at e3
    cases e3
    exact q
  · intro q
    exact ⟨p, fs, d, rfl, h, e, q⟩
/-- a method found -/
theorem g_mth {c : Nat} {p : Addr} {S : Store} {fs : List (Str × D)} {f : Str} (h : S p = some (.ins (CT.at_ c) fs)) (e : fs.lookup f = none) (Q : Prop) : (∃ p' fs', D.obj p = .obj p' ∧ S p' = some (.ins (CT.at_ c) fs') ∧ fs'.lookup f = none ∧ Q) = Q := by
  apply propext
  constructor
  · rintro ⟨p', fs', e1, e2, e3, q⟩
    exact q
  · intro q
    exact ⟨p, fs, rfl, h, e, q⟩
theorem gf_b {S : Store} {p : Addr} {g : Gm} (h : GAt S p g) (Q : D → Prop) : (∃ p' fs' d', D.obj p = .obj p' ∧ S p' = some (.ins (CT.at_ 3) fs') ∧ fs'.lookup (Str.ofString "own_base") = some d' ∧ Q d') = Q (.int g.b) := g_fld h rfl Q
theorem gf_w {S : Store} {p : Addr} {g : Gm} (h : GAt S p g) (Q : D → Prop) : (∃ p' fs' d', D.obj p = .obj p' ∧ S p' = some (.ins (CT.at_ 3) fs') ∧ fs'.lookup (Str.ofString "own_most") = some d' ∧ Q d') = Q (.int g.w) := g_fld h rfl Q
theorem gf_s {S : Store} {p : Addr} {g : Gm} (h : GAt S p g) (Q : D → Prop) : (∃ p' fs' d', D.obj p = .obj p' ∧ S p' = some (.ins (CT.at_ 3) fs') ∧ fs'.lookup (Str.ofString "own_step") = some d' ∧ Q d') = Q (.int g.st) := g_fld h rfl Q
theorem gf_t {S : Store} {p : Addr} {g : Gm} (h : GAt S p g) (Q : D → Prop) : (∃ p' fs' d', D.obj p = .obj p' ∧ S p' = some (.ins (CT.at_ 3) fs') ∧ fs'.lookup (Str.ofString "own_sums") = some d' ∧ Q d') = Q (.lst (g.sums.map .int)) := g_fld h rfl Q
theorem atI_last {α : Type} {xs : List α} (h : xs ≠ []) (d : α) : atI xs (-1) = some (xs.getLastD d) := by
  have l : 0 < xs.length := List.length_pos_iff.mpr h
  unfold atI ixN
  rw [if_neg (by omega : ¬ (0 : Int) ≤ -1)]
  have e : (-(xs.length : Int)) ≤ -1 := by omega
  simp only [e, if_true, Option.bind]
  rw [show ((-1 : Int) + (xs.length : Int)).toNat = xs.length - 1 by omega, List.getElem?_eq_getElem (by omega), List.getLastD_eq_getLast?, List.getLast?_eq_getElem?, List.getElem?_eq_getElem (by omega)]
  rfl
theorem gm_top {g : Gm} (h : GmOk g) : atI (g.sums.map D.int) (-1) = some (.int g.top) := by
  rw [atI_last (by simpa using h.ne) (.int 0)]
  unfold Gm.top
  rw [List.getLastD_eq_getLast?, List.getLastD_eq_getLast?, List.getLast?_map]
  cases g.sums.getLast? <;> rfl
theorem small2 {i : Int} {a : Nat} (h : i.natAbs < 2 ^ a) (ha : a ≤ 60) : i.natAbs < 2 ^ 60 := Nat.lt_of_lt_of_le h (Nat.pow_le_pow_right (by decide) ha)
theorem vc_Game_greatest : goal_Game_greatest := by
  rintro x0 S P ⟨p, g, e, hg, ok, h⟩
  cases e
  unfold rd_Game_greatest
  walk_at "dg5"
  simp only [gf_b hg, gf_w hg, gf_s hg, gf_t hg, gm_top ok]
  have := ok.w1; have := ok.w0; have := ok.b0; have := ok.b1
  exact ⟨mulS2, divS (by omega) (by omega), h⟩
theorem fdiv_bd {x k : Int} {B : Int} (hk : 0 < k) (h1 : -B ≤ x) (h2 : x ≤ B) (hB : 0 ≤ B) : -B ≤ x.fdiv k ∧ x.fdiv k ≤ B := by
  constructor
  · rw [fdiv_lt_iff hk]
    have : B * 1 ≤ B * k := Int.mul_le_mul_of_nonneg_left (by omega) hB
    rw [Int.neg_mul]
    omega
  · by_cases c : 0 ≤ x.fdiv k
    · have := (fdiv_lt_iff (a := x) (x := x.fdiv k) hk).mp (Int.le_refl _)
      have : x.fdiv k * 1 ≤ x.fdiv k * k := Int.mul_le_mul_of_nonneg_left (by omega) c
      omega
    · omega
theorem top_mem {g : Gm} (h : g.sums ≠ []) : g.top ∈ g.sums := by
  unfold Gm.top
  rw [List.getLastD_eq_getLast?, List.getLast?_eq_some_getLast h]
  exact List.getLast_mem h
theorem gr_bd {g : Gm} (ok : GmOk g) : -(2 ^ 52) ≤ g.gr ∧ g.gr ≤ 1000 := by
  have t := ok.sb _ (top_mem ok.ne)
  have h1 := ok.s1; have h2 := ok.w1; have h3 := ok.w0; have h4 := ok.s0; have h5 := ok.b0; have h6 := ok.few
  have m1 : g.st * g.w ≤ 2 ^ 40 * 1000 := Int.mul_le_mul (by omega) h2 h3 (by omega)
  have m0 : 0 ≤ g.st * g.w := Int.mul_nonneg (by omega) h3
  have := fdiv_bd (x := g.st * g.w - g.top) (k := g.b - 1) (B := 2 ^ 52) (by omega) (by omega) (by omega) (by omega)
  unfold Gm.gr at *
  omega
theorem rests_len {g : Gm} (ok : GmOk g) : g.rests.length ≤ 2001 := by
  have := gr_bd ok; have := ok.few
  unfold Gm.rests
  rw [irg_len]; omega
theorem vc_Game_rests : goal_Game_rests := by
  rintro x0 S P ⟨p, g, e, hg, ok, h⟩
  cases e
  unfold rd_Game_rests
  walk_at "dg5"
  simp only [g_mth hg (f := Str.ofString "greatest") rfl]
  refine ⟨p, g, rfl, hg, ok, ?_⟩
  simp only [g_mth hg (f := Str.ofString "greatest") rfl]
  refine ⟨p, g, rfl, hg, ok, ?_⟩
  have hgr := gr_bd ok
  walk_at "dg5"
  rw [rng_irg]
  exact ⟨by unfold RgOk; omega, h⟩
theorem vc_Game_look : goal_Game_look := by
  rintro x0 S P ⟨p, g, e, hg, ok, h⟩
  cases e
  unfold rd_Game_look
  walk_at "dg5"
  simp only [g_mth hg (f := Str.ofString "greatest") rfl]
  refine ⟨p, g, rfl, hg, ok, ?_⟩
  have := ok.few
  walk_at "dg5"
  refine ⟨mulS, ?_⟩
  have e : ¬ 2000 < (if 2 * g.gr + 1 > 0 then 2 * g.gr + 1 else 0) := by split <;> omega
  rw [if_neg e]
  exact h
theorem vc_Game_led_to : goal_Game_led_to := by
  rintro x0 x1 S P ⟨p, g, a, e, hg, ok, ha, h⟩
  cases e
  unfold rd_Game_led_to
  walk_at "dg5"
  simp only [gf_b hg, gf_w hg, gf_s hg, gf_t hg, g_mth hg (f := Str.ofString "greatest") rfl]
  refine ⟨p, g, rfl, hg, ok, ?_⟩
  simp only [gf_b hg, gf_w hg, gf_s hg, gf_t hg, g_mth hg (f := Str.ofString "greatest") rfl]
  walk_at "dg5"
  have hgr := gr_bd ok
  have h1 := ok.s1; have h2 := ok.w1; have h3 := ok.w0; have h4 := ok.s0
  refine ⟨divS (by omega) (by omega), p, g, rfl, hg, ok, ?_⟩
  simp only [gf_s hg]
  walk_at "dg5"
  have b1 := fdiv_bd (x := g.gr - a) (k := g.st) (B := 2 ^ 61) h4 (by omega) (by omega) (by omega)
  have b2 := fdiv_bd (x := a + g.gr) (k := g.st) (B := 2 ^ 61) h4 (by omega) (by omega) (by omega)
  have e1 : (if -(g.gr - a).fdiv g.st > -g.w then -(g.gr - a).fdiv g.st else -g.w) = max (-g.w) (-((g.gr - a).fdiv g.st)) := by split <;> omega
  have e2 : (if (a + g.gr).fdiv g.st < g.w then (a + g.gr).fdiv g.st else g.w) = min g.w ((a + g.gr).fdiv g.st) := by split <;> omega
  rw [e1, e2]
  refine ⟨divS (by omega) (by omega), by omega, ?_⟩
  refine lc_ints (pin := none) (irg (max (-g.w) (-((g.gr - a).fdiv g.st))) (min g.w ((a + g.gr).fdiv g.st) + 1)) (rng_irg _ _) (by rw [irg_len]; omega) (fun _ => true) (fun f => .int (a - f * g.st)) (fun _ S' => S' = S) rfl (fun _ _ _ => trivial) (fun i r S' hr hs => ?_) fun S2 hs => ?_
  · subst hs
    refine ⟨_, rfl, fun K N hK hN => ?_⟩
    walk_at "dg5"
    simp only [gf_s hg]
    walk_at "dg5"
    exact ⟨mulS2, hK rfl _ rfl⟩
  · subst hs
    rw [List.filter_eq_self.mpr (fun _ _ => rfl)]
    unfold Gm.led at h
    rw [List.map_map] at h
    exact h
theorem held_of {S : Store} {h : Addr} {H : List Int} (hh : HeldAt S h H) (x : Int) : ∃ kvs, dctOf S (.obj h) = some kvs ∧ (dVal kvs (.inl x)).isSome = decide (x ∈ H) := by
  obtain ⟨kvs, e1, e2⟩ := hh
  refine ⟨kvs, e1, ?_⟩
  have n := dVal_none (kvs := kvs) (k := (.inl x : Key))
  rw [e2, inl_mem] at n
  by_cases c : x ∈ H
  · rw [decide_eq_true c]
    cases e : dVal kvs (.inl x : Key) with
    | none => exact absurd c (n.mp e)
    | some v => rfl
  · rw [decide_eq_false c, n.mpr c]
    rfl
theorem vc_Game_is_held : goal_Game_is_held := by
  rintro x0 x1 x2 x3 S P ⟨p, h, g, H, r, s, e, hg, ok, hh, hr, hs, q⟩
  cases e
  unfold rd_Game_is_held
  walk_at "dg5"
  simp only [gf_b hg, g_mth hg (f := Str.ofString "led_to") rfl]
  have hb := ok.b1; have hb0 := ok.b0
  have hm : (g.b * r).natAbs < 2 ^ 50 := by
    rw [Int.natAbs_mul]
    have : g.b.natAbs * r.natAbs ≤ 16 * r.natAbs := Nat.mul_le_mul_right _ (by omega)
    omega
  refine ⟨mulS, p, g, _, rfl, hg, ok, by omega, ?_⟩
  walk_at "dg5"
  have hl : (g.led (g.b * r + s)).length ≤ 100000 := by
    unfold Gm.led
    rw [List.length_map, irg_len]
    have := ok.w1; have := ok.w0
    omega
  show LcN (.nm 4) dYes (dOp (dDIn false) (dVar 4) (dVar 3)) (fun x S1 => cAny [x] S1 P) (List.map D.int (g.led (g.b * r + s))) none _ S
  refine lc_ints (g.led (g.b * r + s)) rfl hl (fun _ => true) (fun x => .bl (decide (x ∈ H))) (fun _ S' => S' = S) rfl (fun _ _ _ => trivial) (fun i x S' hx hs => ?_) fun S2 hs => ?_
  · subst hs
    refine ⟨_, rfl, fun K N hK hN => ?_⟩
    walk_at "dg5"
    obtain ⟨kvs, e1, e2⟩ := held_of hh x
    rw [e1]
    simp only
    rw [e2]
    exact hK rfl _ rfl
  · subst hs
    rw [List.filter_eq_self.mpr (fun _ _ => rfl)]
    unfold cAny
    simp only [lstOf, Option.bind]
    rw [dBools_mapF]
    simp only [List.any_map]
    exact q
theorem supd_at {S : Store} {p : Addr} {m : MO} : supd S p m p = some m := supd_same
theorem addS_len (acc : List Int) (p : Int × Int) : (addS acc p).length = acc.length * (irg (-p.2) (p.2 + 1)).length := by
  unfold addS
  rw [List.length_flatMap]
  simp only [List.length_map]
  induction acc with
  | nil => simp
  | cons a l ih => simp only [List.map_cons, List.sum_cons, ih, List.length_cons]; rw [Nat.add_mul, Nat.one_mul, Nat.add_comm]
theorem irg_pos {m : Int} (h : 0 ≤ m) : 1 ≤ (irg (-m) (m + 1)).length := by rw [irg_len]; omega
theorem fold_len : ∀ (ps : List (Int × Int)) (acc : List Int), (∀ p ∈ ps, 0 ≤ p.2) → acc.length ≤ (ps.foldl addS acc).length
  | [], _, _ => Nat.le_refl _
  | p :: ps, acc, h => by
    refine Nat.le_trans ?_ (fold_len ps (addS acc p) fun q hq => h q (by simp [hq]))
    rw [addS_len]
    exact Nat.le_mul_of_pos_right _ (irg_pos (h p (by simp)))
theorem sums_take {ps : List (Int × Int)} {i : Nat} {q : Int × Int} (e : ps[i]? = some q) : sumsR (ps.take (i + 1)) = addS (sumsR (ps.take i)) q := by
  unfold sumsR
  rw [List.take_add_one, e, List.foldl_append]
  rfl
theorem sums_take_len {ps : List (Int × Int)} (h : ∀ p ∈ ps, 0 ≤ p.2) (i : Nat) : (sumsR (ps.take i)).length ≤ (sumsR ps).length := by
  have : sumsR ps = (ps.drop i).foldl addS (sumsR (ps.take i)) := by
    unfold sumsR
    rw [← List.foldl_append, List.take_append_drop]
  rw [this]
  exact fold_len _ _ fun p hp => h p (List.mem_of_mem_drop hp)
/-- the keys of a dict are just those with M, at most n -/
def KS (acc : List (Key × D)) (M : Int → Prop) (n : Nat) : Prop := ∃ ks : List Int, acc.map (·.1) = ks.map Sum.inl ∧ ks.Nodup ∧ (∀ x, x ∈ ks ↔ M x) ∧ acc.length ≤ n
theorem KS.put {acc : List (Key × D)} {M : Int → Prop} {n : Nat} (h : KS acc M n) (v : Int) (d : D) : KS (dPut acc (.inl v) d) (fun x => M x ∨ x = v) (n + 1) := by
  obtain ⟨ks, h1, h2, h3, h4⟩ := h
  have hl := dPut_len acc (.inl v) d
  by_cases c : v ∈ ks
  · refine ⟨ks, ?_, h2, fun x => ?_, by omega⟩
    · rw [dPut_keys, h1, if_pos (inl_mem.mpr c)]
    · rw [h3]
      exact ⟨.inl, fun z => z.elim id fun e => e ▸ (h3 v).mp c⟩
  · refine ⟨ks ++ [v], ?_, ?_, fun x => ?_, by omega⟩
    · rw [dPut_keys, h1, if_neg fun z => c (inl_mem.mp z), List.map_append]; rfl
    · rw [List.nodup_append]
      exact ⟨h2, by simp, fun a ha b hb => by
        simp at hb
        subst hb
        intro e
        subst e
        exact c ha⟩
    · rw [List.mem_append, h3]
      simp
theorem KS.congr {acc : List (Key × D)} {M M' : Int → Prop} {n m : Nat} (h : KS acc M n) (e : ∀ x, M x ↔ M' x) (hn : n ≤ m) : KS acc M' m := by
  obtain ⟨ks, h1, h2, h3, h4⟩ := h
  exact ⟨ks, h1, h2, fun x => (h3 x).trans (e x), by omega⟩
theorem vc_sums_of : goal_sums_of := by
  rintro x0 x1 S P ⟨ws, ms, e, ok, h⟩
  cases e
  unfold rd_sums_of
  walk_at "dg5"
  refine ⟨by decide, fun p hp => ⟨by simpa using ok.l, ?_⟩⟩
  have hz : zipD (ws.map D.int) (ms.map D.int) = (ws.zip ms).map fun q => .tup [.int q.1, .int q.2] := by
    unfold zipD
    rw [List.zipWith_map]
    show _ = (List.zipWith Prod.mk ws ms).map _
    rw [List.map_zipWith]
  rw [hz]
  have hpos : ∀ q ∈ ws.zip ms, 0 ≤ q.2 := fun q hq => ok.m0 _ (List.of_mem_zip hq).2
  refine ⟨fun i ρ S' => ∃ a kvs x3 x4, ρ = [some (D.tup (ws.map .int)), some (D.tup (ms.map .int)), some (D.obj a), x3, x4, none, none] ∧ Grown S S' ∧ S' a = some (.dK kvs) ∧ KS kvs (fun x => x ∈ sumsR ((ws.zip ms).take i)) (sumsR ((ws.zip ms).take i)).length,
    ⟨p, _, none, none, rfl, Grown.new hp, supd_at, [0], rfl, by simp, by simp [sumsR], by simp [sumsR]⟩, ?_, ?_⟩
  · rintro i d ρ S' hd ⟨a, kvs, x3, x4, rfl, hg, ha, ks, hk, nd, hm, hlen⟩
    rw [List.getElem?_map] at hd
    cases e : (ws.zip ms)[i]? with
    | none => rw [e] at hd; cases hd
    | some q =>
      rw [e] at hd
      cases hd
      refine ⟨_, rfl, .inr ⟨a, kvs, ha, fun o vs => ?_⟩⟩
      have q0 : 0 ≤ q.2 := hpos q (List.mem_of_getElem? e)
      have q1 : q.2 ≤ 1000 := ok.m1 _ (List.of_mem_zip (List.mem_of_getElem? e)).2
      have lk : kvs.length = ks.length := by simpa using congrArg List.length hk
      have total : (addS ks q).length ≤ (sumsR ((ws.zip ms).take (i + 1))).length := by
        rw [sums_take e, addS_len, addS_len]
        exact Nat.mul_le_mul_right _ (by omega)
      have few := sums_take_len hpos (i + 1)
      have fewer := ok.n
      walk_at "dg5"
      refine ⟨a, o, vs, kvs, rfl, supd_at, ?_⟩
      refine ⟨fun i2 acc S2 => S2 = supd S' a (.dZ o vs kvs) ∧ KS acc (fun x => x ∈ addS (ks.take i2) q) (addS (ks.take i2) q).length, ⟨rfl, [], rfl, by simp, by simp [addS], by simp⟩, fun i2 acc S2 h2 => by rw [h2.1]; exact supd_at, ?_, ?_⟩
      · rintro i2 d2 acc S2 hd2 ⟨rfl, hks⟩
        have hd3 : (ks.map D.int)[i2]? = some d2 := by
          have : (kvs.map fun kv => kD kv.1) = ks.map D.int := by
            rw [show (kvs.map fun kv => kD kv.1) = (kvs.map (·.1)).map kD by rw [List.map_map]; rfl, hk, List.map_map]
            rfl
          rw [← this]; exact hd2
        rw [List.getElem?_map] at hd3
        cases e2 : ks[i2]? with
        | none => rw [e2] at hd3; cases hd3
        | some one =>
          rw [e2] at hd3
          cases hd3
          refine ⟨_, rfl, ?_⟩
          walk_at "dg5"
          have tk : addS (ks.take (i2 + 1)) q = addS (ks.take i2) q ++ (irg (-q.2) (q.2 + 1)).map fun f => one + q.1 * f := by
            unfold addS
            rw [List.take_add_one, e2, List.flatMap_append]
            simp
          have part : (addS (ks.take (i2 + 1)) q).length ≤ (addS ks q).length := by
            rw [addS_len, addS_len]
            exact Nat.mul_le_mul_right _ (by rw [List.length_take]; omega)
          have lt : (addS (ks.take (i2 + 1)) q).length = (addS (ks.take i2) q).length + (irg (-q.2) (q.2 + 1)).length := by rw [tk, List.length_append, List.length_map]
          refine ⟨by omega, fun j acc1 S3 => S3 = supd S' a (.dZ o vs kvs) ∧ KS acc1 (fun x => x ∈ addS (ks.take i2) q ∨ x ∈ ((irg (-q.2) (q.2 + 1)).take j).map fun f => one + q.1 * f) ((addS (ks.take i2) q).length + j), ⟨rfl, hks.congr (by simp) (by omega)⟩, fun _ _ _ _ => trivial, ?_, ?_⟩
          · rintro j d3 acc1 S3 hj ⟨rfl, hk1⟩
            rw [rng_irg, List.getElem?_map] at hj
            cases e3 : (irg (-q.2) (q.2 + 1))[j]? with
            | none => rw [e3] at hj; cases hj
            | some f =>
              rw [e3] at hj
              cases hj
              have jl := (List.getElem?_eq_some_iff.mp e3).1
              refine ⟨_, rfl, ?_⟩
              walk_at "dg5"
              have wb := ok.w _ (List.of_mem_zip (List.mem_of_getElem? e)).1
              have hk1' := hk1
              obtain ⟨_, _, _, _, l1⟩ := hk1
              refine ⟨mulS, _, rfl, by omega, (hk1'.put _ _).congr (fun x => ?_) (by omega)⟩
              rw [List.take_add_one, e3, List.map_append, List.mem_append, or_assoc]
              simp
          · rintro acc1 S3 ⟨rfl, hk1⟩
            rw [rng_len] at hk1
            refine ⟨rfl, hk1.congr (fun x => ?_) ?_⟩
            · rw [tk, List.mem_append, show (q.2 + 1 - -q.2).toNat = (irg (-q.2) (q.2 + 1)).length by rw [irg_len], List.take_length]
            · rw [lt, irg_len]; omega
      · rintro acc S2 ⟨rfl, hks⟩ p' hp'
        have hpa : p' ≠ a := fun z => by rw [z, supd_at] at hp'; cases hp'
        rw [supd_ne hpa] at hp'
        refine ⟨(supd_ne hpa.symm).trans supd_at, p', acc, _, _, rfl, ?_, (supd_ne hpa).trans supd_at, ?_⟩
        · intro b m hb
          have hb' := hg b m hb
          by_cases c : b = a
          · rw [c] at hb' ⊢
            rw [ha] at hb'
            rw [supd_at]
            exact hb'
          · rw [supd_ne c]
            by_cases c2 : b = p'
            · rw [c2, hp'] at hb'; cases hb'
            · rw [supd_ne c2, supd_ne c]
              exact hb'
        · refine hks.congr (fun x => ?_) ?_
          · rw [List.length_map, lk, List.take_length, sums_take e]
            exact addS_congr hm q x
          · rw [List.length_map, lk, List.take_length]
            exact total
  · rintro ρ S' ⟨a, kvs, x3, x4, rfl, hg, ha, ks, hk, nd, hm, hlen⟩
    rw [List.length_map, List.take_length] at hm
    walk_at "dg5"
    rw [dct_dK ha]
    refine ⟨ks, hk, fun ys hp hle => h ys S' ?_ hg⟩
    have z := srt_perm nd hp hle
    exact ⟨z.lt, fun k => (z.mem k).trans (hm k)⟩
theorem pl1 {f : Str} {x : D} : (putD f x []).length < 900 := by have := putD_len f x []; simp at this; omega
theorem pl2 {f f' : Str} {x x' : D} : (putD f x (putD f' x' [])).length < 900 := by have := putD_len f x (putD f' x' []); have := putD_len f' x' []; simp at this; omega
theorem pl3 {f f' f2 : Str} {x x' x2 : D} : (putD f x (putD f' x' (putD f2 x2 []))).length < 900 := by
  have := putD_len f x (putD f' x' (putD f2 x2 [])); have := putD_len f' x' (putD f2 x2 []); have := putD_len f2 x2 []; simp at this; omega
theorem vc_Game_init : goal_Game_init := by
  rintro x0 x1 x2 x3 x4 x5 x6 S P ⟨p, b, over, most, lag, ws, ms, e, hp, ok, b0, b1, o0, o1, l0, l1, q⟩
  cases e
  unfold rd_Game_init
  walk_at "dg5"
  refine ⟨p, _, rfl, hp, by decide, p, _, rfl, supd_at, pl1, b, lag, rfl, b0, b1, by omega, ?_⟩
  rw [encR_zpow_nn b lag l0]
  walk_at "dg5"
  refine ⟨mulS, p, _, rfl, supd_at, pl2, ws, ms, rfl, ok, fun ys S' hs hg => ?_⟩
  refine ⟨p, _, rfl, hg _ _ supd_at, pl3, ?_⟩
  refine q ⟨b, most, over * b ^ lag.toNat, ys⟩ _ rfl rfl rfl hs supd_at fun a m ne ha => ?_
  rw [supd_ne ne]
  refine hg _ _ ?_
  rw [supd_ne ne, supd_ne ne, supd_ne ne]
  exact ha
theorem find_take {α : Type} {p : α → Bool} : ∀ {xs : List α} {i : Nat} {x : α}, xs[i]? = some x → (∀ y ∈ xs.take i, p y = false) → p x = true → xs.find? p = some x
  | [], _, _, h, _, _ => by simp at h
  | a :: xs, 0, x, h, _, hp => by
    simp at h; subst h
    rw [List.find?_cons, hp]
  | a :: xs, i + 1, x, h, hn, hp => by
    have ha : p a = false := hn a (by simp)
    rw [List.find?_cons, ha]
    exact find_take (i := i) (by simpa using h) (fun y hy => hn y (by simp [hy])) hp
theorem find_none {α : Type} {p : α → Bool} {xs : List α} (h : ∀ y ∈ xs, p y = false) : xs.find? p = none := by
  rw [List.find?_eq_none]
  intro x hx
  rw [h x hx]; simp
theorem kn_put {g : Gm} {H : List Int} {kk : List (Key × D)} (h : KnOk g H kk) (a : Int) : KnOk g H (dPut kk (.inl a) (.bl (g.heldB H a))) := by
  intro q hq
  unfold dPut at hq
  split at hq
  · obtain ⟨z, hz, rfl⟩ := List.mem_map.mp hq
    split
    · rename_i e
      exact ⟨a, by rw [e]⟩
    · exact h z hz
  · rcases List.mem_append.mp hq with hq | hq
    · exact h q hq
    · simp at hq
      exact ⟨a, hq⟩
theorem kn_val {g : Gm} {H : List Int} {kk : List (Key × D)} (h : KnOk g H kk) {a : Int} {d : D} (e : dVal kk (.inl a) = some d) : d = .bl (g.heldB H a) := by
  unfold dVal at e
  cases f : kk.find? fun kv => decide (kv.1 = (.inl a : Key)) with
  | none => rw [f] at e; cases e
  | some q =>
    rw [f] at e
    cases e
    have m := List.mem_of_find?_eq_some f
    have pq := List.find?_some f
    obtain ⟨b, rfl⟩ := h q m
    have : (Sum.inl b : Key) = .inl a := of_decide_eq_true pq
    cases this
    rfl
theorem vc_Game_first_fatal : goal_Game_first_fatal := by
  rintro x0 x1 x2 x3 S P ⟨p, k, h, g, H, r, kk, e, hg, ok, hh, hne, hr, hk, hkn, hl, q⟩
  cases e
  unfold rd_Game_first_fatal
  walk_at "dg5"
  simp only [gf_t hg]
  have hpk : p ≠ k := fun z => by
    have hg' : S p = some (.ins (CT.at_ 3) (GF g)) := hg
    rw [z, hk] at hg'; cases hg'
  have hb := ok.b1; have hb0 := ok.b0
  have hm : (g.b * r).natAbs < 2 ^ 50 := by
    rw [Int.natAbs_mul]
    have : g.b.natAbs * r.natAbs ≤ 16 * r.natAbs := Nat.mul_le_mul_right _ (by omega)
    omega
  refine ⟨fun i ρ S' => ∃ kk' x4 x5, ρ = [some (.obj p), some (.int r), some (.obj k), some (.obj h), x4, x5] ∧ S' = supd S k (.dK kk') ∧ KnOk g H kk' ∧ kk'.length ≤ kk.length + i ∧ ∀ s ∈ g.sums.take i, (!g.heldB H (g.b * r + s)) = false, ⟨kk, none, none, rfl, ?_, hkn, by simp, by simp⟩, ?_, ?_⟩
  · funext a
    unfold supd
    split
    · rename_i e; rw [e]; exact hk
    · rfl
  · rintro i d ρ S' hd ⟨kk', x4, x5, rfl, rfl, hkk, hlen, hall⟩
    rw [List.getElem?_map] at hd
    cases e : g.sums[i]? with
    | none => rw [e] at hd; cases hd
    | some s =>
      rw [e] at hd
      cases hd
      have hi := (List.getElem?_eq_some_iff.mp e).1
      have hs : s.natAbs < 2 ^ 40 := ok.sb s (List.mem_of_getElem? e)
      have hg2 : GAt (supd S k (.dK kk')) p g := (supd_ne hpk).trans hg
      refine ⟨_, rfl, ?_⟩
      walk_at "dg5"
      simp only [gf_b hg2]
      walk_at "dg5"
      refine ⟨mulS, ?_⟩
      rw [dct_dK supd_at]
      simp only
      -- behind what's known
      have fin : ∀ kk2, KnOk g H kk2 → kk2.length ≤ kk.length + (i + 1) → (if (!g.heldB H (g.b * r + s)) = true then P (D.int s) (supd S k (.dK kk2)) else
          ∃ kk' x4 x5, [some (D.obj p), some (D.int r), some (D.obj k), some (D.obj h), some (D.int s), some (D.int (g.b * r + s))] = [some (D.obj p), some (D.int r), some (D.obj k), some (D.obj h), x4, x5] ∧ supd S k (.dK kk2) = supd S k (.dK kk') ∧ KnOk g H kk' ∧ kk'.length ≤ kk.length + (i + 1) ∧
            ∀ (s : Int), s ∈ List.take (i + 1) g.sums → (!g.heldB H (g.b * r + s)) = false) := by
        intro kk2 h2 l2
        by_cases c : (!g.heldB H (g.b * r + s)) = true
        · rw [if_pos c]
          have z := q kk2 h2 (by omega)
          unfold Gm.fatal at z
          rw [find_take e hall c] at z
          exact z
        · rw [if_neg c]
          refine ⟨kk2, _, _, rfl, rfl, h2, l2, fun s' hs' => ?_⟩
          rw [List.take_add_one, e] at hs'
          rcases List.mem_append.mp hs' with hs' | hs'
          · exact hall s' hs'
          · simp at hs'
            subst hs'
            simpa using c
      cases ev : dVal kk' (.inl (g.b * r + s)) with
      | none =>
        simp only [Option.isSome_none, Bool.not_false, reduceIte]
        rw [g_mth hg2 (f := Str.ofString "is_held") rfl]
        have hh2 : HeldAt (supd S k (.dK kk')) h H := by
          obtain ⟨kvs, e1, e2⟩ := hh
          exact ⟨kvs, (dct_supd hne).trans e1, e2⟩
        refine ⟨p, h, g, H, r, s, rfl, hg2, ok, hh2, hr, hs, k, kk', _, rfl, supd_at, rfl, by omega, ?_⟩
        rw [dct_dK supd_at]
        simp only
        rw [dVal_put, if_pos rfl]
        simp only
        rw [supd_supd]
        exact fin _ (kn_put hkk _) (by have := dPut_len kk' (.inl (g.b * r + s)) (D.bl (g.heldB H (g.b * r + s))); omega)
      | some d =>
        simp only [Option.isSome_some, Bool.not_true, Bool.false_eq_true, reduceIte]
        rw [kn_val hkk ev]
        exact fin kk' hkk (by omega)
  · rintro ρ S' ⟨kk', x4, x5, rfl, rfl, hkk, hlen, hall⟩
    walk_at "dg5"
    rw [List.length_map] at hlen hall
    rw [List.take_length] at hall
    have z := q kk' hkk hlen
    unfold Gm.fatal at z
    rw [find_none hall] at z
    exact z
theorem supd_unlock {S : Store} {p : Addr} {m m' : MO} (h : S p = some m) : supd (supd S p m') p m = S := by
  funext a
  unfold supd
  by_cases c : a = p
  · rw [if_pos c, c, h]
  · rw [if_neg c, if_neg c]
theorem filter_two {α : Type} (p : α → Bool) : ∀ l : List α, (l.filter p).length + (l.filter fun x => !p x).length = l.length
  | [] => rfl
  | a :: l => by
    have := filter_two p l
    cases e : p a with
    | true => rw [List.filter_cons_of_pos e, List.filter_cons_of_neg (by simp [e])]; simp only [List.length_cons]; omega
    | false => rw [List.filter_cons_of_neg (by simp [e]), List.filter_cons_of_pos (by simp [e])]; simp only [List.length_cons]; omega
theorem isNon_optI (o : Option Int) : DL.isNon (optI o) = o.isNone := by cases o <;> rfl
theorem kI_dkeys {f : Int → D} (H : List Int) : ((kI f H).map fun kv => kD kv.1) = H.map .int := by
  unfold kI
  rw [List.map_map]; rfl
theorem fnd_keys (found : List (Int × Int × Int)) : (found.map fndD).map (·.1) = (found.map (·.1)).map Sum.inl := by
  rw [List.map_map, List.map_map]; rfl
theorem vc_Game_ranks : goal_Game_ranks := by
  rintro x0 S P ⟨p, g, e, hg, ok, hl, q⟩
  cases e
  unfold rd_Game_ranks rd_Game_ranks_1
  walk_at "dg5"
  intro pf hpf
  have hpp : p ≠ pf := Grown.ne hg hpf
  have hg1 : GAt (supd S pf (.dK [])) p g := (supd_ne hpp).trans hg
  rw [g_mth hg1 (f := Str.ofString "rests") rfl]
  refine ⟨p, g, rfl, hg1, ok, ?_⟩
  walk_at "dg5"
  have rl := rests_len ok
  have hds : ∀ (i : Nat) (r : Int) (S' : Store), g.rests[i]? = some r → True := fun _ _ _ _ => trivial
  refine dc_ints g.rests rfl (irg_nd _ _) (by omega) (fun _ => true) (fun _ => .bl true) (fun _ S' => S' = supd S pf (.dK [])) rfl (fun _ _ _ => trivial) (fun i r S' hr hs => ⟨_, rfl, fun K N hK hN => ?_⟩) fun S2 hs ph hph => ?_
  · walk_at "dg5"
    exact hK rfl _ hs
  · subst hs
    rw [List.filter_eq_self.mpr (fun _ _ => rfl)]
    have hph2 : ph ≠ pf := fun z => by rw [z, supd_at] at hph; cases hph
    refine ⟨fun m ρ S' => ∃ ph H found k x3 x5 x6 x7, m = H.length ∧ ρ = [some (.obj p), some (.obj pf), some (.obj ph), x3, some (.int k), x5, x6, x7] ∧ Grown S S' ∧ S' pf = some (.dK (found.map fndD)) ∧ S' ph = some (.dK (kI (fun _ => .bl true) H)) ∧ ph ≠ pf ∧
      H.Nodup ∧ (∀ r ∈ H, r ∈ g.rests) ∧ H.length ≤ g.rests.length ∧ (∀ t ∈ found, t.1 ∉ H) ∧ found.length + H.length ≤ g.rests.length ∧ g.ranksN (H.length + 1) found H k = g.ranks,
      ⟨_, ph, g.rests, [], 0, none, none, none, none, rfl, rfl, (Grown.new hpf).trans (Grown.new hph), ?_, supd_at, hph2, irg_nd _ _, fun _ h => h, Nat.le_refl _, by simp, by simp, rfl⟩, ?_⟩
    · rw [supd_ne hph2.symm]; exact supd_at
    · rintro m ρ S' ⟨ph, H, found, k, x3, x5, x6, x7, rfl, rfl, gr0, hpf', hph', nep, nd, hin, hlen, hdis, hsum, hrk⟩
      walk_at "dg5"
      intro pk hpk
      have kf : pk ≠ pf := fun z => by rw [z, hpf'] at hpk; cases hpk
      have kh : pk ≠ ph := fun z => by rw [z, hph'] at hpk; cases hpk
      have gp : GAt S' p g := gr0 _ _ hg
      have kp : p ≠ pk := Grown.ne gp hpk
      have hp' : p ≠ ph := fun z => by
        have gp' : S' p = some (.ins (CT.at_ 3) (GF g)) := gp
        rw [z, hph'] at gp'; cases gp'
      have hph1 : supd S' pk (.dK []) ph = some (.dK (kI (fun _ => .bl true) H)) := (supd_ne kh.symm).trans hph'
      refine .inr ⟨ph, _, hph1, fun o vs => ?_⟩
      walk_at "dg5"
      refine ⟨ph, o, vs, _, rfl, supd_at, ?_⟩
      have hds : ((kI (fun _ => D.bl true) H).map fun kv => kD kv.1) = H.map .int := by
        unfold kI
        rw [List.map_map]; rfl
      have rl2 : H.length * g.sums.length ≤ 99999 := Nat.le_trans (Nat.mul_le_mul_right _ hlen) hl
      refine dc_ints H hds nd (by omega) (fun _ => true) (fun r => optI (g.fatal H r)) (fun i S2 => ∃ kk, KnOk g H kk ∧ kk.length ≤ i * g.sums.length ∧ S2 = supd (supd (supd S' pk (.dK [])) ph (.dZ o vs (kI (fun _ => .bl true) H))) pk (.dK kk))
        ⟨[], fun _ h => by simp at h, by simp, ?_⟩ (fun i S2 h => by obtain ⟨kk, _, _, rfl⟩ := h; exact (supd_ne kh.symm).trans supd_at) (fun i r S2 hr hs => ?_) fun S2 hs pt hpt => ?_
      · funext a
        unfold supd
        by_cases c1 : a = pk
        · rw [if_pos c1]
          rw [if_neg (fun z => kh (c1.symm.trans z)), if_pos c1]
        · rw [if_neg c1, if_neg c1]
      · obtain ⟨kk, hkk, hkl, rfl⟩ := hs
        have hi := (List.getElem?_eq_some_iff.mp hr).1
        have hgp : GAt (supd (supd (supd S' pk (.dK [])) ph (.dZ o vs (kI (fun _ => .bl true) H))) pk (.dK kk)) p g := by
          unfold GAt
          rw [supd_ne kp, supd_ne hp', supd_ne kp]
          exact gp
        refine ⟨_, rfl, fun K N hK hN => ?_⟩
        walk_at "dg5"
        rw [g_mth hgp (f := Str.ofString "first_fatal") rfl]
        have hr1 := hin r (List.mem_of_getElem? hr)
        have hgr := gr_bd ok
        unfold Gm.rests at hr1
        rw [mem_irg] at hr1
        have hmul : (i + 1) * g.sums.length ≤ H.length * g.sums.length := Nat.mul_le_mul_right _ hi
        rw [Nat.add_mul, Nat.one_mul] at hmul
        refine ⟨p, pk, ph, g, H, r, kk, rfl, hgp, ok, ⟨_, (dct_supd kh.symm).trans (dct_dZ supd_at), kI_keys _ _⟩, kh.symm, by omega, supd_at, hkk, by omega, fun kk' h1 h2 => ?_⟩
        refine hK rfl _ ⟨kk', h1, by rw [Nat.add_mul, Nat.one_mul]; omega, ?_⟩
        rw [supd_supd]
      · obtain ⟨kk, hkk, hkl, rfl⟩ := hs
        rw [List.filter_eq_self.mpr (fun _ _ => rfl)]
        have tk : pt ≠ pk := fun z => by rw [z, supd_at] at hpt; cases hpt
        rw [supd_ne tk] at hpt
        have th : pt ≠ ph := fun z => by rw [z, supd_at] at hpt; cases hpt
        rw [supd_ne th, supd_ne tk] at hpt
        refine ⟨by rw [supd_ne th.symm, supd_ne kh.symm]; exact supd_at, ?_⟩
        -- what stands now
        have grS : Grown S' (supd (supd (supd (supd (supd S' pk (.dK [])) ph (.dZ o vs (kI (fun _ => .bl true) H))) pk (.dK kk)) pt (.dK (kI (fun r => optI (g.fatal H r)) H))) ph (.dK (kI (fun _ => .bl true) H))) := by
          intro a x ha
          by_cases c : a = ph
          · rw [c] at ha ⊢
            rw [hph'] at ha
            rw [supd_at]; exact ha
          · have c2 : a ≠ pt := fun z => by rw [z, hpt] at ha; cases ha
            have c3 : a ≠ pk := fun z => by rw [z, hpk] at ha; cases ha
            rw [supd_ne c, supd_ne c2, supd_ne c3, supd_ne c, supd_ne c3]
            exact ha
        have hptS : supd (supd (supd (supd (supd S' pk (.dK [])) ph (.dZ o vs (kI (fun _ => .bl true) H))) pk (.dK kk)) pt (.dK (kI (fun r => optI (g.fatal H r)) H))) ph (.dK (kI (fun _ => .bl true) H)) pt = some (.dK (kI (fun r => optI (g.fatal H r)) H)) := (supd_ne th).trans supd_at
        generalize supd (supd (supd (supd (supd S' pk (.dK [])) ph (.dZ o vs (kI (fun _ => .bl true) H))) pk (.dK kk)) pt (.dK (kI (fun r => optI (g.fatal H r)) H))) ph (.dK (kI (fun _ => .bl true) H)) = S2 at grS hptS ⊢
        have hpf2 := grS _ _ hpf'
        have hph2 := grS _ _ hph'
        clear hph1
        have pt0 : pt ≠ pf := fun z => by rw [z, hpf'] at hpt; cases hpt
        refine .inr ⟨pt, _, hptS, fun o2 vs2 => ?_⟩
        walk_at "dg5"
        refine ⟨pt, o2, vs2, _, rfl, supd_at, ?_⟩
        refine lcp_ints H (kI_dkeys H) (by omega) (fun r => !g.safe H r) .int (fun _ S3 => S3 = supd S2 pt (.dZ o2 vs2 (kI (fun r => optI (g.fatal H r)) H))) rfl (fun i S3 h => by rw [h]; exact supd_at) (fun i r S3 hr hs => ⟨_, rfl, fun K N hK hN => ?_⟩) fun S3 hs => ?_
        · subst hs
          walk_at "dg5"
          rw [dct_dZ supd_at]
          simp only
          rw [kI_val, if_pos (List.mem_of_getElem? hr)]
          simp only
          cases ef : g.fatal H r with
          | none => exact hN (by unfold Gm.safe; rw [ef]; rfl) _ rfl
          | some s => exact hK (by unfold Gm.safe; rw [ef]; rfl) _ rfl
        · subst hs
          refine ⟨supd_at, ?_⟩
          rw [supd_unlock hptS]
          walk_at "dg5"
          rw [show dEqB (.lst ((H.filter fun r => !g.safe H r).map D.int)) (.lst []) = some (decide ((H.filter fun r => !g.safe H r) = [])) from eqB_intsG _ []]
          simp only
          by_cases hall : H.all (g.safe H) = true
          · have eg : (H.filter fun r => !g.safe H r) = [] := by
              rw [List.filter_eq_nil_iff]
              intro r hr
              rw [List.all_eq_true.mp hall r hr]; simp
            rw [eg]
            simp only [decide_true, reduceIte]
            rw [ranksN_end g hall] at hrk
            refine q pf ph _ S2 (gr0.trans grS) nep.symm ?_ hph2 ?_
            · rw [← hrk]; exact hpf2
            · rw [kI_keys, ← hrk]
          · have eg : ¬ (H.filter fun r => !g.safe H r) = [] := by
              intro z
              apply hall
              rw [List.filter_eq_nil_iff] at z
              rw [List.all_eq_true]
              intro r hr
              simpa using z r hr
            simp only [eg, decide_false, Bool.false_eq_true, reduceIte]
            refine ⟨⟨pf, _, rfl, hpf2⟩, ?_⟩
            have ndg : (H.filter fun r => !g.safe H r).Nodup := nd.filter _
            have lg := List.length_filter_le (fun r => !g.safe H r) H
            refine dc_ints (pin := none) (H.filter fun r => !g.safe H r) rfl ndg (by omega) (fun _ => true) (fun r => .tup [.int k, optI (g.fatal H r)]) (fun _ S3 => S3 = S2) rfl (fun _ _ _ => trivial) (fun i r S3 hr hs => ⟨_, rfl, fun K N hK hN => ?_⟩) fun S3 hs pu hpu => ?_
            · subst hs
              walk_at "dg5"
              rw [dct_dK hptS]
              simp only
              rw [kI_val, if_pos (List.mem_filter.mp (List.mem_of_getElem? hr)).1]
              simp only
              exact hK rfl _ rfl
            · subst hs
              rw [List.filter_eq_self.mpr (fun _ _ => rfl)]
              have uf : pf ≠ pu := fun z => by rw [← z, hpf2] at hpu; cases hpu
              have uh : ph ≠ pu := fun z => by rw [← z, hph2] at hpu; cases hpu
              refine ⟨pf, pu, _, _, rfl, rfl, uf, (supd_ne uf).trans hpf2, dct_dK supd_at, ?_, ?_⟩
              · rw [List.length_map, kI_len]; omega
              · have mrg : dMrg (found.map fndD) (kI (fun r => D.tup [.int k, optI (g.fatal H r)]) (H.filter fun r => !g.safe H r)) = (found ++ g.gone H k).map fndD := by
                  rw [dMrg_new (by rw [kI_keys]; exact nd_inl ndg) fun x hx => ?_, List.map_append]
                  · congr 1
                    unfold kI Gm.gone
                    rw [List.map_map]
                    refine List.map_congr_left fun r hr => ?_
                    have hs := (List.mem_filter.mp hr).2
                    unfold Gm.safe at hs
                    show (Sum.inl r, D.tup [.int k, optI (g.fatal H r)]) = (Sum.inl r, D.tup [.int k, .int ((g.fatal H r).getD 0)])
                    cases e : g.fatal H r with
                    | none => rw [e] at hs; simp at hs
                    | some s => rfl
                  · rw [kI_keys] at hx
                    obtain ⟨r, hr, rfl⟩ := List.mem_map.mp hx
                    rw [fnd_keys, inl_mem]
                    intro z
                    obtain ⟨t, ht, e⟩ := List.mem_map.mp z
                    exact hdis t ht (e ▸ (List.mem_filter.mp hr).1)
                rw [mrg]
                have hph3 : supd (supd S3 pu (.dK (kI (fun r => D.tup [.int k, optI (g.fatal H r)]) (H.filter fun r => !g.safe H r)))) pf (.dK ((found ++ g.gone H k).map fndD)) ph = some (.dK (kI (fun _ => .bl true) H)) := by
                  rw [supd_ne nep, supd_ne uh]; exact hph2
                have hpt3 : supd (supd S3 pu (.dK (kI (fun r => D.tup [.int k, optI (g.fatal H r)]) (H.filter fun r => !g.safe H r)))) pf (.dK ((found ++ g.gone H k).map fndD)) pt = some (.dK (kI (fun r => optI (g.fatal H r)) H)) := by
                  have ut : pt ≠ pu := fun z => by rw [← z, hptS] at hpu; cases hpu
                  rw [supd_ne pt0, supd_ne ut]; exact hptS
                have gr3 : Grown S (supd (supd S3 pu (.dK (kI (fun r => D.tup [.int k, optI (g.fatal H r)]) (H.filter fun r => !g.safe H r)))) pf (.dK ((found ++ g.gone H k).map fndD))) := ((gr0.trans grS).trans (Grown.new hpu)).again hpf
                have hpf3 : supd (supd S3 pu (.dK (kI (fun r => D.tup [.int k, optI (g.fatal H r)]) (H.filter fun r => !g.safe H r)))) pf (.dK ((found ++ g.gone H k).map fndD)) pf = some (.dK ((found ++ g.gone H k).map fndD)) := supd_at
                generalize supd (supd S3 pu (.dK (kI (fun r => D.tup [.int k, optI (g.fatal H r)]) (H.filter fun r => !g.safe H r)))) pf (.dK ((found ++ g.gone H k).map fndD)) = S4 at hph3 hpt3 gr3 hpf3 ⊢
                refine .inr ⟨ph, _, hph3, fun o3 vs3 => ?_⟩
                walk_at "dg5"
                refine ⟨ph, o3, vs3, _, rfl, supd_at, ?_⟩
                refine dc_ints H (kI_dkeys H) nd (by omega) (fun r => g.safe H r) (fun _ => .bl true) (fun _ S5 => S5 = supd S4 ph (.dZ o3 vs3 (kI (fun _ => .bl true) H))) rfl (fun i S5 h => by rw [h]; exact supd_at) (fun i r S5 hr hs => ⟨_, rfl, fun K N hK hN => ?_⟩) fun S5 hs pn hpn => ?_
                · subst hs
                  walk_at "dg5"
                  rw [dct_supd th, dct_dK hpt3]
                  simp only
                  rw [kI_val, if_pos (List.mem_of_getElem? hr)]
                  simp only
                  cases ef : g.fatal H r with
                  | none => exact hK (by unfold Gm.safe; rw [ef]; rfl) _ rfl
                  | some s => exact hN (by unfold Gm.safe; rw [ef]; rfl) _ rfl
                · subst hs
                  have nh : pn ≠ ph := fun z => by rw [z, supd_at] at hpn; cases hpn
                  rw [supd_ne nh] at hpn
                  have nf : pn ≠ pf := fun z => by rw [z, hpf3] at hpn; cases hpn
                  refine ⟨(supd_ne nh.symm).trans supd_at, ?_⟩
                  have nd' : (H.filter fun r => g.safe H r).Nodup := nd.filter _
                  have l' := filter_lt hall
                  have lc : (H.filter fun r => g.safe H r).length + (g.gone H k).length = H.length := by
                    unfold Gm.gone
                    rw [List.length_map]
                    have := filter_two (g.safe H) H
                    omega
                  refine ⟨_, l', pn, H.filter fun r => g.safe H r, found ++ g.gone H k, k + 1, _, _, _, _, rfl, rfl, ?_, ?_, ?_, nf, nd', fun r hr => hin r (List.mem_filter.mp hr).1, by omega, fun t ht => ?_, ?_, ?_⟩
                  · intro a x ha
                    have ha4 := gr3 a x ha
                    by_cases c : a = ph
                    · rw [c] at ha4 ⊢
                      rw [hph3] at ha4
                      rw [supd_at]; exact ha4
                    · have c2 : a ≠ pn := fun z => by rw [z, hpn] at ha4; cases ha4
                      rw [supd_ne c, supd_ne c2, supd_ne c]; exact ha4
                  · rw [supd_ne nep.symm, supd_ne nf.symm, supd_ne nep.symm]; exact hpf3
                  · exact (supd_ne nh).trans supd_at
                  · rcases List.mem_append.mp ht with ht | ht
                    · exact fun z => hdis t ht (List.mem_filter.mp z).1
                    · unfold Gm.gone at ht
                      obtain ⟨r, hr, rfl⟩ := List.mem_map.mp ht
                      intro z
                      have h1 := (List.mem_filter.mp hr).2
                      have h2 := (List.mem_filter.mp z).2
                      simp at h1 h2
                      rw [h1] at h2; cases h2
                  · rw [List.length_append]; omega
                  · rw [← ranksN_step g hall]; exact hrk
/-! ### the least lag -/
def gmAt (b over most : Int) (sums : List Int) (L : Nat) : Gm := ⟨b, most, over * b ^ L, sums⟩
/-- nought is held for ever -/
def Gm.good (g : Gm) : Bool := decide (0 ∈ g.ranks.2)
def leastL (b over most : Int) (sums : List Int) (n : Nat) : Option Int := ((List.range n).find? fun L => (gmAt b over most sums L).good).map Int.ofNat
/-- all games up to the first good one are in order -/
def LagsOk (b over most : Int) (sums : List Int) (n : Nat) : Prop := ∀ L : Nat, L < n → (∀ L' < L, (gmAt b over most sums L').good = false) → GmOk (gmAt b over most sums L) ∧ (gmAt b over most sums L).rests.length * sums.length ≤ 99999
def sp_least_lag : DSp := fun ds S P => ∃ (b over most top : Int) (ws ms sums : List Int), ds = [.int b, .tup (ws.map .int), .int over, .tup (ms.map .int), .int most, .int top] ∧ SumOk ws ms ∧ Srt (sumsR (ws.zip ms)) sums ∧ 0 < b ∧ b ≤ 16 ∧ 0 < over ∧ over < 2 ^ 60 ∧ -1 ≤ top ∧ top ≤ 100 ∧
  LagsOk b over most sums (top + 1).toNat ∧ ∀ S', Grown S S' → P (optI (leastL b over most sums (top + 1).toNat)) S'
def rd_least_lag : DS :=
  (dSeq (dFor (dRng1 (dCons (dOp dAdd (dVar 5) (dC (.int 1))) dNil)) (.nm 6) (dSeq (dSet 7 (dMake 3 sp_Game_init (dCons (dVar 0) (dCons (dVar 1) (dCons (dVar 2) (dCons (dVar 3) (dCons (dVar 4) (dCons (dVar 6) dNil))))))))
  (dSeq (dDrop (dMeth 3 "look" sp_Game_look (dVar 7) dNil))
  (dIfS (dTest (dOp (dDIn false) (dC (.int 0)) (dOp dIx (dMeth 3 "ranks" sp_Game_ranks (dVar 7) dNil) (dC (.int 1))))) (dRet (dVar 6)) dNext))))
  (dRet (dC .non)))
def goal_least_lag : Prop := ∀ (x0 x1 x2 x3 x4 x5 : D) (S : Store) (P : D → Store → Prop), sp_least_lag [x0, x1, x2, x3, x4, x5] S P → rd_least_lag (dEnd P) [some x0, some x1, some x2, some x3, some x4, some x5, none, none] S
theorem len_least_lag : ∀ ds S P, sp_least_lag ds S P → ds.length = 6 := by rintro ds S P ⟨a, b, c, d, e, f, g, rfl, _⟩; rfl
theorem find_range {p : Nat → Bool} {n i : Nat} (h : i < n) (hn : ∀ j < i, p j = false) (hp : p i = true) : (List.range n).find? p = some i :=
  find_take (i := i) (by rw [List.getElem?_range h]) (fun y hy => hn y (by
    rw [List.take_range] at hy
    have := List.mem_range.mp hy
    omega)) hp
theorem vc_least_lag : goal_least_lag := by
  rintro x0 x1 x2 x3 x4 x5 S P ⟨b, over, most, top, ws, ms, sums, e, ok, hs, b0, b1, o0, o1, t0, t1, hL, q⟩
  cases e
  unfold rd_least_lag
  walk_at "dg5"
  refine ⟨by omega, by omega, fun i ρ S' => ∃ x6 x7, ρ = [some (.int b), some (.tup (ws.map .int)), some (.int over), some (.tup (ms.map .int)), some (.int most), some (.int top), x6, x7] ∧ Grown S S' ∧ ∀ L' < i, (gmAt b over most sums L').good = false, ⟨none, none, rfl, Grown.refl, by simp⟩, ?_, ?_⟩
  · rintro i d ρ S' hd ⟨x6, x7, rfl, hg, hn⟩
    obtain ⟨hi, rfl⟩ := rng_get hd
    obtain ⟨gok, gl⟩ := hL i hi hn
    refine ⟨_, rfl, ?_⟩
    walk_at "dg5"
    intro p hp
    refine ⟨p, b, over, most, 0 + (i : Int), ws, ms, rfl, supd_at, ok, b0, b1, o0, o1, by omega, by omega, fun g S2 e1 e2 e3 e4 hga hold => ⟨rfl, ?_⟩⟩
    have eg : g = gmAt b over most sums i := by
      have := e4.uniq hs fun _ => Iff.rfl
      obtain ⟨gb, gw, gs, gsu⟩ := g
      simp only at e1 e2 e3 this
      unfold gmAt
      rw [e1, e2, e3, this, show (0 + (i : Int)).toNat = i by omega]
    subst eg
    have g2 : Grown S S2 := fun a m ha => by
      have ha' := hg a m ha
      have ne : a ≠ p := fun z => by rw [z, hp] at ha'; cases ha'
      exact hold a m ne ((supd_ne ne).trans ha')
    walk_at "dg5"
    rw [g_mth hga (f := Str.ofString "look") rfl]
    refine ⟨p, _, rfl, hga, gok, ?_⟩
    walk_at "dg5"
    rw [g_mth hga (f := Str.ofString "ranks") rfl]
    refine ⟨p, _, rfl, hga, gok, gl, fun f h kvs S3 g3 ne hf hh hk => ?_⟩
    walk_at "dg5"
    obtain ⟨kvs', k1, k2⟩ := held_of (x := 0) ⟨kvs, dct_dK hh, hk⟩
    rw [k1]
    simp only
    rw [k2]
    by_cases c : (0 : Int) ∈ (gmAt b over most sums i).ranks.2
    · rw [decide_eq_true c, if_pos rfl]
      have z := q S3 (g2.trans g3)
      unfold leastL at z
      rw [find_range hi hn (decide_eq_true c)] at z
      rw [show (0 + (i : Int)) = Int.ofNat i by simp]
      exact z
    · rw [decide_eq_false c, if_neg (by simp)]
      refine ⟨_, _, rfl, g2.trans g3, fun L' hl => ?_⟩
      by_cases c2 : L' = i
      · rw [c2]; exact decide_eq_false c
      · exact hn L' (by omega)
  · rintro ρ S' ⟨x6, x7, rfl, hg, hn⟩
    rw [rng_len] at hn
    walk_at "dg5"
    have z := q S' hg
    unfold leastL at z
    rw [find_none fun y hy => hn y (List.mem_range.mp hy)] at z
    exact z
end Lb

/-! sorted(set(xs)) of ints. -/
namespace L2
open PySem PySem.Spec PyProof.Rows PySem.W
section
variable {P : Program} {w : World} {A : Around} {E : Value → Shared → Prop} {s : Shared}
/-- a set just made -/
abbrev bareSet (w : World) : Obj := { cls := .type "set", dict := none, data := .set #[] 0 (.fresh 0 0 (!w.params.followText "set-order")) }
/-- set(xs), xs a list of ints -/
theorem set_of_list {a : Addr} {vs : Array Value} (ns : List Int) {Q : Value → Shared → Prop} (calm : A.handled = none) (la : s.heap.IsList a vs) (hit : IntsAre vs.toList ns) (few : ns.length + 1 < scanBound)
    (q : ∀ (h' : Heap) (tk c : Nat), SetR w h' s.heap.objs.size (fun j => decide (j ∈ ns)) c → c ≤ ns.length → (∀ b o, s.heap.get? b = some o → h'.get? b = some o) → Q (.ref s.heap.objs.size) { s with heap := h', toks := tk }) :
    wpAny (model P w) A (call (.type "set") [.ref a]) Q E s := by
  have size : vs.size = ns.length := (Array.length_toList (xs := vs)).symm.trans (IntsAre.length hit)
  obtain ⟨mc, mt, mro⟩ := F.called_set.mro
  have c1 := F.called_set.made
  have c2 := F.called_set.sub
  refine wpAny_call (codeAny_of_tree (show wpAny _ _ (callAny (.type "set") _) _ _ _ from wpAny_pure ⟨Code.quiet_builtin _ (by decide +kernel), codeAny_builtin F.entry_type_call ?_⟩))
  rw [Around.under_plain (weight_type_call_type "set" [.ref a] []) rfl]
  have c3 := F.called_set.notType
  have c4 := F.called_set.canCreate
  have c5 := F.typeCall_set_1 (.ref a)
  repeat any_goals first | assumption | wp_step
  refine codeAny_mono (code_set_led1 (.ref a) (E := E) (Q₁ := fun u s1 => u = .ref s.heap.objs.size ∧ s1 = { s with heap := s.heap.push (bareSet w) }) ⟨rfl, rfl⟩) fun r s1 hr => ?_
  match r, hr with
  | .error _, hr => exact hr
  | .ok .next, hr => exact hr.elim
  | .ok .brk, hr => exact hr.elim
  | .ok .cont, hr => exact hr.elim
  | .ok (.ret u), hr =>
    obtain ⟨eu, es⟩ := hr
    subst eu es
    have at1 : (s.heap.push (bareSet w)).get? s.heap.objs.size = some (bareSet w) := Heap.get?_push_size _ rfl
    have ty1 : Shared.TypeIs { s with heap := s.heap.push (bareSet w) } (.ref s.heap.objs.size) "set" := ⟨_, at1, rfl⟩
    have i1 := F.called_set.init.lookup
    have i2 := F.called_set.init.bind (.ref s.heap.objs.size)
    repeat any_goals first | assumption | wp_step
    refine codeAny_mono (codeAny_call_builtin (R := wants (fun r s2 => r = .none ∧ ∃ h' tk c, s2 = { s with heap := h', toks := tk } ∧ SetR w h' s.heap.objs.size (fun j => decide (j ∈ ns)) c ∧ c ≤ ns.length ∧ (∀ b o, s.heap.get? b = some o → h'.get? b = some o)) E) F.called_set.init.plain F.entry_set_init (check_set_init_1 ty1 ?_)) fun r2 s2 hr2 => ?_
    · obtain ⟨ol, lo, lc, ln, ld⟩ := la
      obtain ⟨xc, xd, xdat, xs⟩ := ol
      simp only at lc ld
      subst lc ld
      have lo1 : (s.heap.push (bareSet w)).get? a = some { cls := .type "list", dict := xd, data := .seq vs ln, slots := xs } := Heap.get?_push_of_some _ lo
      have z1 := F.sub_list_set
      have z2 := F.sub_list_frozenset
      have z3 : (Value.type "list" == Value.type "dict") = false := by decide
      have la1 : (s.heap.push (bareSet w)).IsList a vs := ⟨_, lo1, rfl, ln, rfl⟩
      unfold Builtin.«set.__init__» noKeywords Builtin.Frozenset.updateFrom
      generalize hI : pyIter = itr
      wp_walk
      subst hI
      refine wpAny_pyIter_list la1 (wpAny_bind (wpAny_runValue ?_))
      have below : a < s.heap.objs.size := Heap.lt_size lo
      have quiet : A.in1.in1.in1.handled = none := by simp [calm]
      have grown : (s.heap.push (bareSet w)).objs.size = s.heap.objs.size + 1 := Heap.size_push ..
      have ne1 : a ≠ (s.heap.push (bareSet w)).objs.size := fun z => Nat.ne_of_lt (Nat.lt_succ_of_lt below) (z.trans grown)
      have ne2 : s.heap.objs.size ∉ [(s.heap.push (bareSet w)).objs.size, a] := by
        intro z
        rcases List.mem_cons.mp z with e | z
        · exact Nat.ne_of_lt (Nat.lt_succ_self _) (e.trans grown)
        · exact Nat.ne_of_lt below (List.mem_singleton.mp z).symm
      have vals : ∀ (i : Nat) (v : Value), vs[i]? = some v → ∃ k t, ns[i]? = some k ∧ v = .int k t := by
        intro i v hv
        have lt : i < ns.length := by rw [← size]; exact (Array.getElem?_eq_some_iff.mp hv).1
        obtain ⟨t, e⟩ := PyProof.Rows.IntsAre.int_at hit i v (by rw [Array.getElem?_toList]; exact hv)
        rw [List.getD_eq_getElem?_getD, List.getElem?_eq_getElem lt] at e
        exact ⟨ns[i], t, List.getElem?_eq_getElem lt, e⟩
      refine set_update_ints ((Walks.list quiet _ a ne1 vs).toS) s.heap.objs.size ne2 ns size few vals (vs.size - 0) 0 _ (by omega) (Nat.zero_le _) ⟨⟨_, Heap.get?_push_size _ rfl, rfl, rfl⟩, (la1.push _)⟩ ⟨0, Nat.le_refl 0, setR_new_at (Heap.get?_push_of_some _ at1)⟩ ?_
      intro s' c' mv hc' hS'
      obtain ⟨h', g2, d2, t2, o2⟩ := s'
      have eg : g2 = s.gens := mv.gens
      have ed : d2 = s.drawn := mv.drawn
      have eo : o2 = s.os := mv.os
      subst eg ed eo
      refine (show wpAny _ _ _ _ _ _ from wpAny_pure (show wpAny _ _ (ret Value.none) _ _ _ from wpAny_pure ⟨rfl, h', t2, c', rfl, hS', by omega, fun b o e => ?_⟩))
      have lb : b < s.heap.objs.size := Heap.lt_size e
      refine mv.heap b o (fun z => ?_) (Heap.get?_push_of_some _ (Heap.get?_push_of_some _ e))
      rcases List.mem_cons.mp z with e | z
      · exact Nat.ne_of_lt lb e
      · exact Nat.ne_of_lt (Nat.lt_succ_of_lt lb) ((List.mem_singleton.mp z).trans grown)
    · match r2, hr2 with
      | .error _, hr2 => exact hr2
      | .ok .next, hr2 => exact hr2.elim
      | .ok .brk, hr2 => exact hr2.elim
      | .ok .cont, hr2 => exact hr2.elim
      | .ok (.ret r), hr2 =>
        obtain ⟨er, h', tk, c, e2, hS', hc', hk'⟩ := hr2
        subst er e2
        repeat any_goals first | assumption | wp_step
        exact q _ _ _ hS' hc' hk'
end
section
variable {X : Cx} {a : Expr} {ta : TE} {p p2 p1 p3 pos pos2 : Pos}
/-- sorted(set(xs)): fewer than 64 unlike numbers -/
def tSortSet (K : PySem.W.Frag) (ta : TE) : TE := fun σ H Q => ta σ H fun x H1 => ∃ (l : Addr) (ns : List Int), x = .ref l ∧ SqL K H1 l (ns.map V.int) ∧ ns.length ≤ 4000 ∧ (∀ c : List Int, c.Nodup → (∀ k, k ∈ c → k ∈ ns) → c.length < 64) ∧
  ∀ (ys : List Int) (r : Addr), ys.Pairwise (· < ·) → (∀ k, k ∈ ys ↔ k ∈ ns) → H1 r = none → Q (.ref r) (upd H1 r (.lst (ys.map V.int)))
theorem pe_sortSet (hc : X.calm = true) (hg : Gl X "sorted") (hm : X.mg "sorted" = none) (hg2 : Gl X "set") (hm2 : X.mg "set" = none) (ha : PE X a ta)
    (na : starEach [a] X.env = (false, eval a X.env) :: starEach [] X.env := by rfl) : PE X (.Call (.Name "sorted" p) [.Call (.Name "set" p2) [a] [] pos2] [] pos) (tSortSet X.K ta) := by
  refine ⟨fun pins s σ H Q I h => ?_⟩
  refine Call_ (ld_blt I hg hm PyProof.Rows.boot_sorted (PyProof.Rows.callWith_builtin1 (PyProof.Rows.args_cons ?_ rfl) rfl rfl))
  refine Call_ (ld_blt I hg2 hm2 PyProof.Rows.boot_set (PyProof.Rows.callWith_type1 (PyProof.Rows.args_cons (thn (ha.run pins s σ H _ I h) fun v s1 ⟨x, H1, I1, r1, q1⟩ => PyProof.Rows.args_nil ?_) na) na rfl))
  obtain ⟨l, ns, rfl, hq, hl, h64, q1⟩ := q1
  cases r1
  obtain ⟨its, r, pl, hz⟩ := I1.list hq
  have calm := I1.ok.hd hc
  refine set_of_list ns calm pl.isList (by simpa using RZ.intsAre_vals r) (by unfold scanBound; omega) fun h' tk c R _ hk => PyProof.Rows.args_nil ?_
  have I2 : Inv X pins σ H1 { s1 with heap := h', toks := tk } := I1.kept fun b o e => hk b o e
  have hc64 : c < 64 := by
    obtain ⟨o, es, ep, t, ho, hex, hd, g, nd, hm', hb, hf, hn, _⟩ := R
    have := h64 (es.toList.map keyOf) nd fun k hk => of_decide_eq_true ((hm' k).2 hk)
    rw [List.length_map, Array.length_toList, hn] at this
    exact this
  refine sorted_set (s := { s1 with heap := h', toks := tk }) R calm hc64 fun s' r' out cc ys k g o hp hg' hi hs hm' hl' => ?_
  have len : (ys.map V.int).length ≤ sizeLine := by rw [List.length_map, hl', sizeLine_eq]; omega
  have free : H1 r' = none := I2.hok.fresh hp
  have J : Inv X pins σ (upd H1 r' (.lst (ys.map V.int))) { s' with os := s1.os } :=
    I2.call' (s' := { s' with os := s1.os }) (ch := []) rfl (Un.laid k hp free) (I2.hok.laid k hp ⟨len, out.toList, cc, vals_of_ints hi, hg'⟩) (by show AllBare s'.gens; rw [g]; exact I2.bare) (fun _ z => nomatch z)
  have same : s' = { s' with os := s1.os } := by
    cases s'
    simp only at o
    subst o
    rfl
  rw [same]
  exact ⟨.ref r', _, J, rfl, q1 ys r' hs (fun k => (hm' k).trans (by simp)) free⟩
end
end L2
namespace DL
open PySem PySem.Spec PyProof.Rows L2
def dSortSet (d : DE) : DE := fun ρ S P => d ρ S fun x S1 => match (lstOf S1 x).bind dInts with
  | some ns => ns.length ≤ 4000 ∧ (∀ c : List Int, c.Nodup → (∀ k, k ∈ c → k ∈ ns) → c.length < 64) ∧ ∀ ys : List Int, ys.Pairwise (· < ·) → (∀ k, k ∈ ys ↔ k ∈ ns) → P (.lst (ys.map .int)) S1
  | none => False
section
variable {X : Cx} {a : Expr} {es : List Expr} {da : DE} {ds : DA} {p p1 p2 p3 pos pos2 : Pos}
theorem je_sortSet (hm : X.mg "sorted" = none) (hm2 : X.mg "set" = none) (ha : JE X a da) (hg : Gl X "sorted" := by rfl) (hg2 : Gl X "set" := by rfl) (hc : X.calm = true := by rfl)
    (na : starEach [a] X.env = (false, eval a X.env) :: starEach [] X.env := by rfl) : JE X (.Call (.Name "sorted" p) [.Call (.Name "set" p2) [a] [] pos2] [] pos) (dSortSet da) :=
  je_of (pe_sortSet hc hg hm hg2 hm2 ha na) fun σ H Q ⟨ρ, I, S, F, P, rs, ok, h, q⟩ => ⟨ρ, I, S, F, _, rs, ok, h, fun x S1 v I1 H1 h1 e1 ok1 r1 => by
    split at h1
    · rename_i ns e
      obtain ⟨l, rfl, hs⟩ := lstInts ok1 r1 e
      exact ⟨l, ns, rfl, hs, h1.1, h1.2.1, fun ys r z1 z2 hr => q _ _ _ _ _ (h1.2.2 ys z1 z2) (e1.trans (same_new (ok1.freshI hr))) (ok1.newI hr) (rep_new_lst (ok1.freshI hr) (rep_ints ys))⟩
    · exact h1.elim⟩
end
end DL

/-! Games: what the laws about them reckon by themselves. -/
namespace Lb
open PySem PySem.Spec PyProof.Rows L2 DL
variable [CT]
local macro_rules | `(tactic| walk_at "dg5") => `(tactic| try simp only [isiG_non_dict, isiG_bl_dict, isiG_int_dict, isiG_str_dict, isiG_lst_dict, isiG_tup_dict, isiG_non_bs, isiG_bl_bs, isiG_int_bs, isiG_str_bs, isiG_lst_bs, isiG_tup_bs, dCall, dNewD, dDisp, dPrs, dkvsOf, dDGet, dDIn, dDGet1, dDGet2, dDPut, dDPop1, dDPop2, dDUpd, cLenD, cListD, cListDM, cDictD, cDictP, cSortDB, cSortL, dBack, dItKeys, dItItems, dItVals, keyOf_int, keyOf_str, dDc, dDc2, dLstR1, dLstR2, dFld, dSetFld, dFldAdd, dMeth, dMake, dMakeK, dFld2, put_tl, dSeq, dSet, dPar, dOp, dUn, dVar, dC, dCB, dCons, dNil, dTup, dLst, dLstM, dIfS, dIf, dTest, dNot, dAnd, dOr, dAndV, dOrV, dNotV, dRet, dRetN, dEnd, dNext, dAdd, dSub, dMul, dFdiv, dMod, dPow, dNeg, dLt, dLe, dGt, dGe, dEq, dNe, eqB_ii, eqB_bb, eqB_ss, eqB_nn, eqB_ni, eqB_in, eqB_ns, eqB_sn, eqB_is, eqB_si, eqB_nb, eqB_bn, dIx, dIn, dIsN, dNotN, DL.isNon, cAbs, cMax2, cMin2, cInt, cLen, cList, cTuple, dIsB, dNotB, dPar3, ForN, LcN, pinOf, pin2, dEnum2, dAppend, supd_same0, isi_non_int, isi_non_bool, isi_non_str, isi_non_list, isi_non_tuple, isi_non_lt, isi_bl_int, isi_bl_bool, isi_bl_str, isi_bl_list, isi_bl_tuple, isi_bl_lt, isi_int_int, isi_int_bool, isi_int_str, isi_int_list, isi_int_tuple, isi_int_lt, isi_str_int, isi_str_bool, isi_str_str, isi_str_list, isi_str_tuple, isi_str_lt, isi_lst_int, isi_lst_bool, isi_lst_str, isi_lst_list, isi_lst_tuple, isi_lst_lt, isi_tup_int, isi_tup_bool, isi_tup_str, isi_tup_list, isi_tup_tuple, isi_tup_lt, dAug, dIAdd, dIMul, dDrop, dSl, dPart, dNoPart, dRevL, dCallK, dChainR, dAsg, put_nm, put_tp, put_tl, putL_nil, putL_cons, Option.bind, seqOf, lstOf, dFor, dLc, dLcM, dItSeq, dZip, dZipS, dEnum, dRng1, dRng2, dYes, dwipe, Tgt.slots, Tgt.slotsL,
  atI_0, atI_1, atI_2, atI_3, List.getElem?_cons_zero, List.getElem?_cons_succ, List.set_cons_zero, List.set_cons_succ, decide_eq_true_eq, List.length_cons, List.length_nil, List.cons_append, List.nil_append, List.append_nil, ofString_inj, String.reduceEq, decide_true, decide_false, reduceIte, Bool.false_eq_true, Bool.not_true, Bool.not_false, eqFlat, isFlat, List.any_cons, List.any_nil, List.all_cons, List.all_nil, Bool.or_false, Bool.or_true, Bool.false_or, Bool.true_or, Bool.and_true, Bool.true_and, true_and, and_true, Nat.reduceAdd, Nat.reduceLeDiff, Int.reduceLT, Int.reduceLE, Int.reduceNeg])
/-! ### the same, as these laws have it -/
def spr_LsameG : Nat → DSp
  | 0 => fun _ _ _ => False
  | n + 1 => fun ds S P => ∃ x, ds = [x, x] ∧ Plain n x ∧ P (.bl true) S
def sp_LsameG : DSp := spr_LsameG 6
def ruK (g : Gm) : List (Key × D) := [(.inr "root", .int g.b), (.inr "step", .int g.st), (.inr "sums", .lst (g.sums.map .int)), (.inr "all", .int g.top), (.inr "wide", .int g.w)]
def RuAt (S : Store) (q : Addr) (g : Gm) : Prop := dctOf S (.obj q) = some (ruK g)
/-- few enough sums to be sorted as a set -/
structure SumFew (ws ms : List Int) : Prop where
  ok : SumOk ws ms
  t : topR (ws.zip ms) ≤ 31
  m : ∀ m ∈ ms, m ≤ 31
def gameD (b over most : Int) (ws ms : List Int) : D := .tup [.int b, .tup (ws.map .int), .int over, .tup (ms.map .int), .int most]
def sp_Lsums : DSp := fun ds S P => ∃ ws ms : List Int, ds = [.tup (ws.map .int), .tup (ms.map .int)] ∧ SumFew ws ms ∧ ∀ ys, Srt (sumsR (ws.zip ms)) ys → P (.lst (ys.map .int)) S
def sp_Lrules : DSp := fun ds S P => ∃ (b over most : Int) (L : Nat) (ws ms sums : List Int), ds = [gameD b over most ws ms, .int L] ∧ SumFew ws ms ∧ Srt (sumsR (ws.zip ms)) sums ∧ 0 < b ∧ b ≤ 16 ∧ 0 < over ∧ over < 2 ^ 40 ∧ L ≤ 100 ∧ sums ≠ [] ∧
  ∀ q S', Grown S S' → S' q = some (.dK (ruK (gmAt b over most sums L))) → P (.obj q) S'
def sp_Lis_lost : DSp := fun ds S P => ∃ (q : Addr) (g : Gm) (r : Int), ds = [.obj q, .int r] ∧ RuAt S q g ∧ GmOk g ∧ r.natAbs < 2 ^ 40 ∧ P (.bl (decide (g.st * g.w < (g.b - 1) * (r.natAbs : Int) + g.top))) S
def sp_Lrests : DSp := fun ds S P => ∃ (q : Addr) (g : Gm), ds = [.obj q] ∧ RuAt S q g ∧ GmOk g ∧ ∀ S', Grown S S' → P (.lst (g.rests.map .int)) S'
def leadsQ (g : Gm) (a : Int) : List Int := (irg (0 - g.w) (g.w + 1)).map fun f => a - f * g.st
def sp_Lleads : DSp := fun ds S P => ∃ (q : Addr) (g : Gm) (r s : Int), ds = [.obj q, .int r, .int s] ∧ RuAt S q g ∧ GmOk g ∧ r.natAbs < 2 ^ 40 ∧ s.natAbs < 2 ^ 40 ∧ P (.lst ((leadsQ g (g.b * r + s)).map .int)) S
def sp_Lis_safe : DSp := fun ds S P => ∃ (q h : Addr) (g : Gm) (r : Int) (H : List Int), ds = [.obj q, .int r, .obj h] ∧ RuAt S q g ∧ GmOk g ∧ HeldAt S h H ∧ (∀ x ∈ H, x ∈ g.rests) ∧ r.natAbs < 2 ^ 40 ∧ P (.bl (g.safe H r)) S
def layD (t : Int × Int × Int) : Key × D := (.inl t.1, .int t.2.1)
def layK (g : Gm) : List (Key × D) := g.ranks.1.map layD ++ kI (fun _ => .non) g.ranks.2
def sp_Llayers : DSp := fun ds S P => ∃ (q : Addr) (g : Gm), ds = [.obj q] ∧ RuAt S q g ∧ GmOk g ∧ ∀ f S', Grown S S' → S f = none → S' f = some (.dK (layK g)) → P (.obj f) S'
/-- a game by draws of these laws -/
structure Drawn (b over most : Int) (ws ms : List Int) : Prop where
  b0 : 2 ≤ b
  b1 : b ≤ 5
  o0 : 1 ≤ over
  o1 : over ≤ 5
  l : ws.length = ms.length
  n : ws.length = 1 ∨ ws.length = 2
  w : ∀ w ∈ ws, w.natAbs ≤ 3
  m0 : ∀ m ∈ ms, 1 ≤ m
  m1 : ∀ m ∈ ms, m ≤ 4
  m2 : ∀ m ∈ ms, m ≤ (b + 1) / 2 + 1
  t0 : (b + 1) / 2 ≤ most
  t1 : most ≤ (b + 1) / 2 + 2
def sp_Ldrawn : DSp := fun ds S P => ∃ (p : Addr) (n : Nat), ds = [.obj p] ∧ BoxAt S p n ∧ n ≤ 10000000 ∧ ∀ (b over most : Int) (ws ms : List Int) S', Drawn b over most ws ms → BoxAt S' p (n + 20) → P (gameD b over most ws ms) S'
def rd_LsameG (sp_LsameG : DSp) : DS :=
  (dSeq (dIfS (dTest (dCB cIsi (dCons (dVar 1) (dCons (dC (.ty "dict")) dNil)))) dNever dNext)
  (dSeq (dIfS (dTest (dCB cIsi (dCons (dVar 1) (dCons (dTup (dCons (dC (.ty "list")) (dCons (dC (.ty "tuple")) dNil))) dNil)))) (dSeq (dIfS (dOr (dTest (dOp dNe (dCB cIsi (dCons (dVar 0) (dCons (dC (.ty "list")) dNil))) (dCB cIsi (dCons (dVar 1) (dCons (dC (.ty "list")) dNil))))) (dTest (dOp dNe (dCB cIsi (dCons (dVar 0) (dCons (dC (.ty "tuple")) dNil))) (dCB cIsi (dCons (dVar 1) (dCons (dC (.ty "tuple")) dNil)))))) (dRet (dC (.bl false))) dNext)
  (dRet (dAndV (dOp dEq (dCB cLen (dCons (dVar 0) dNil)) (dCB cLen (dCons (dVar 1) dNil))) (dCB cAll (dCons (dLc (dZip (dCons (dVar 0) (dCons (dVar 1) dNil))) (.tp [(.nm 3), (.nm 4)]) dYes (dCB sp_LsameG (dCons (dVar 3) (dCons (dVar 4) dNil)))) dNil))))) dNext)
  (dSeq (dIfS (dOr (dTest (dOp dIsN (dVar 1) (dC .non))) (dTest (dCB cIsi (dCons (dVar 1) (dCons (dTup (dCons (dC (.ty "bool")) (dCons (dC (.ty "str")) dNil))) dNil))))) (dRet (dAndV (dOp dEq (dVar 0) (dVar 1)) (dAndV (dOp dEq (dCB cIsi (dCons (dVar 0) (dCons (dC (.ty "bool")) dNil))) (dCB cIsi (dCons (dVar 1) (dCons (dC (.ty "bool")) dNil)))) (dOp dEq (dOp dIsN (dVar 0) (dC .non)) (dOp dIsN (dVar 1) (dC .non)))))) dNext)
  (dRet (dAndV (dCB cIsi (dCons (dVar 0) (dCons (dC (.ty "int")) dNil))) (dAndV (dNotV (dCB cIsi (dCons (dVar 0) (dCons (dC (.ty "bool")) dNil)))) (dOp dEq (dVar 0) (dVar 1))))))))
def goal_LsameG : Prop := ∀ (n : Nat) (x0 x1 : D) (S : Store) (P : D → Store → Prop), spr_LsameG (n + 1) [x0, x1] S P → rd_LsameG (spr_LsameG n) (dEnd P) [some x0, some x1, none, none, none] S
def rd_Lsums : DS :=
  (dSeq (dSet 2 (dLst (dCons (dC (.int 0)) dNil)))
  (dSeq (dFor (dZip (dCons (dVar 0) (dCons (dVar 1) dNil))) (.tp [(.nm 3), (.nm 4)]) (dSeq (dSet 5 (dLst dNil))
  (dSeq (dFor (dItSeq (dVar 2)) (.nm 6) (dSet 5 (dOp dAdd (dVar 5) (dLc (dRng2 (dCons (dOp dSub (dC (.int 0)) (dVar 4)) (dCons (dOp dAdd (dVar 4) (dC (.int 1))) dNil))) (.nm 7) dYes (dOp dAdd (dVar 6) (dOp dMul (dVar 3) (dVar 7)))))))
  (dSet 2 (dSortSet (dVar 5))))))
  (dRet (dVar 2))))
def goal_Lsums : Prop := ∀ (x0 x1 : D) (S : Store) (P : D → Store → Prop), sp_Lsums [x0, x1] S P → rd_Lsums (dEnd P) [some x0, some x1, none, none, none, none, none, none] S
def rd_Lrules : DS :=
  (dSeq (dAsg (.tp [(.nm 2), (.nm 3), (.nm 4), (.nm 5), (.nm 6)]) (dVar 0))
  (dSeq (dPar 7 8 (dCons (dCB sp_Lsums (dCons (dVar 3) (dCons (dVar 5) dNil))) (dCons (dVar 4) dNil)))
  (dSeq (dFor (dRng1 (dCons (dVar 1) dNil)) (.nm 9) (dSet 8 (dOp dMul (dVar 8) (dVar 2))))
  (dRet (dDisp [((dC (.str "root")), (dVar 2)), ((dC (.str "step")), (dVar 8)), ((dC (.str "sums")), (dVar 7)), ((dC (.str "all")), (dOp dIx (dVar 7) (dUn dNeg (dC (.int 1))))), ((dC (.str "wide")), (dVar 6))])))))
def goal_Lrules : Prop := ∀ (x0 x1 : D) (S : Store) (P : D → Store → Prop), sp_Lrules [x0, x1] S P → rd_Lrules (dEnd P) [some x0, some x1, none, none, none, none, none, none, none, none] S
def rd_Lis_lost : DS :=
  (dRet (dOp dGt (dOp dAdd (dOp dMul (dOp dSub (dOp dDGet (dVar 0) (dC (.str "root"))) (dC (.int 1))) (dCB cAbs (dCons (dVar 1) dNil))) (dOp dDGet (dVar 0) (dC (.str "all")))) (dOp dMul (dOp dDGet (dVar 0) (dC (.str "step"))) (dOp dDGet (dVar 0) (dC (.str "wide"))))))
def goal_Lis_lost : Prop := ∀ (x0 x1 : D) (S : Store) (P : D → Store → Prop), sp_Lis_lost [x0, x1] S P → rd_Lis_lost (dEnd P) [some x0, some x1] S
def rd_Lrests : DS :=
  (dSeq (dSet 1 (dLstM dNil))
  (dSeq (dFor (dRng1 (dCons (dC (.int 2000)) dNil)) (.nm 2) (dSeq (dIfS (dTest (dCB sp_Lis_lost (dCons (dVar 0) (dCons (dVar 2) dNil)))) (dRet (dOp dAdd (dLc (dItSeq (dBack (dVar 1))) (.nm 3) dYes (dOp dSub (dC (.int 0)) (dVar 3))) (dVar 1))) dNext)
  (dDrop (dAppend (dVar 1) (dVar 2)))))
  (dRet (dOp dAdd (dLc (dItSeq (dBack (dVar 1))) (.nm 3) dYes (dOp dSub (dC (.int 0)) (dVar 3))) (dVar 1)))))
def goal_Lrests : Prop := ∀ (x0 : D) (S : Store) (P : D → Store → Prop), sp_Lrests [x0] S P → rd_Lrests (dEnd P) [some x0, none, none, none] S
def rd_Lleads : DS :=
  (dRet (dLc (dRng2 (dCons (dOp dSub (dC (.int 0)) (dOp dDGet (dVar 0) (dC (.str "wide")))) (dCons (dOp dAdd (dOp dDGet (dVar 0) (dC (.str "wide"))) (dC (.int 1))) dNil))) (.nm 3) dYes (dOp dSub (dOp dAdd (dOp dMul (dOp dDGet (dVar 0) (dC (.str "root"))) (dVar 1)) (dVar 2)) (dOp dMul (dVar 3) (dOp dDGet (dVar 0) (dC (.str "step")))))))
def goal_Lleads : Prop := ∀ (x0 x1 x2 : D) (S : Store) (P : D → Store → Prop), sp_Lleads [x0, x1, x2] S P → rd_Lleads (dEnd P) [some x0, some x1, some x2, none] S
def rd_Lis_safe : DS :=
  (dSeq (dFor (dItSeq (dOp dDGet (dVar 0) (dC (.str "sums")))) (.nm 3) (dIfS (dNot (dTest (dCB cAny (dCons (dLc (dItSeq (dCB sp_Lleads (dCons (dVar 0) (dCons (dVar 1) (dCons (dVar 3) dNil))))) (.nm 4) dYes (dOp (dDIn false) (dVar 4) (dVar 2))) dNil)))) (dRet (dC (.bl false))) dNext))
  (dRet (dC (.bl true))))
def goal_Lis_safe : Prop := ∀ (x0 x1 x2 : D) (S : Store) (P : D → Store → Prop), sp_Lis_safe [x0, x1, x2] S P → rd_Lis_safe (dEnd P) [some x0, some x1, some x2, none, none] S
def rd_Llayers_1 : DS :=
  (dSeq (dLock (dSet 6 (dLc (dItKeys (dVar 2)) (.nm 4) (dNot (dTest (dCB sp_Lis_safe (dCons (dVar 0) (dCons (dVar 4) (dCons (dVar 2) dNil)))))) (dVar 4))))
  (dSeq (dFor (dItSeq (dVar 6)) (.nm 4) (dSeq (dDPut (dVar 1) (dVar 4) (dVar 3))
  (dDrop (dDPop1 (dVar 2) (dVar 4)))))
  (dSeq (dSet 3 (dOp dAdd (dVar 3) (dC (.int 1))))
  (dIfS (dTest (dOp dEq (dVar 6) (dLst dNil))) (dSeq (dDrop (dDUpd (dVar 1) (dCB cDictP (dCons (dLockE (dLc (dItKeys (dVar 2)) (.nm 4) dYes (dTup (dCons (dVar 4) (dCons (dC .non) dNil))))) dNil))))
  (dRet (dVar 1))) dNext))))
def rd_Llayers : DS :=
  (dSeq (dAsg (.tp [(.nm 1), (.nm 2), (.nm 3)]) (dTup (dCons dNewD (dCons (dCB cDictP (dCons (dLc (dItSeq (dCB sp_Lrests (dCons (dVar 0) dNil))) (.nm 4) dYes (dTup (dCons (dVar 4) (dCons (dC (.bl true)) dNil)))) dNil)) (dCons (dC (.int 0)) dNil)))))
  (dSeq (dFor (dRng1 (dCons (dOp dAdd (dCB cLenD (dCons (dVar 2) dNil)) (dC (.int 1))) dNil)) (.nm 5) rd_Llayers_1)
  (dRet (dVar 1))))
def goal_Llayers : Prop := ∀ (x0 : D) (S : Store) (P : D → Store → Prop), sp_Llayers [x0] S P → rd_Llayers (dEnd P) [some x0, none, none, none, none, none, none] S
def rd_Ldrawn : DS :=
  (dSeq (dSet 1 (dCB sp_Lof (dCons (dVar 0) (dCons (dLst (dCons (dC (.int 2)) (dCons (dC (.int 2)) (dCons (dC (.int 3)) (dCons (dC (.int 3)) (dCons (dC (.int 4)) (dCons (dC (.int 5)) dNil))))))) dNil))))
  (dSeq (dSet 2 (dOp dFdiv (dOp dAdd (dVar 1) (dC (.int 1))) (dC (.int 2))))
  (dSeq (dSet 3 (dCB cTuple (dCons (dLc (dRng1 (dCons (dOp dAdd (dC (.int 1)) (dCB sp_Ltake (dCons (dVar 0) (dCons (dC (.int 2)) dNil)))) dNil)) (.nm 4) dYes (dCB sp_Lof (dCons (dVar 0) (dCons (dLst (dCons (dC (.int 1)) (dCons (dC (.int 1)) (dCons (dUn dNeg (dC (.int 1))) (dCons (dC (.int 2)) (dCons (dC (.int 3)) dNil)))))) dNil)))) dNil)))
  (dSeq (dSet 5 (dCB cTuple (dCons (dLc (dItSeq (dVar 3)) (.nm 6) dYes (dOp dAdd (dVar 2) (dCB sp_Ltake (dCons (dVar 0) (dCons (dC (.int 2)) dNil))))) dNil)))
  (dRet (dTup (dCons (dVar 1) (dCons (dVar 3) (dCons (dOp dAdd (dC (.int 1)) (dCB sp_Ltake (dCons (dVar 0) (dCons (dOp dIx (dLst (dCons (dC (.int 1)) (dCons (dC (.int 3)) (dCons (dC (.int 5)) dNil)))) (dCB sp_Ltake (dCons (dVar 0) (dCons (dC (.int 3)) dNil)))) dNil)))) (dCons (dVar 5) (dCons (dOp dAdd (dVar 2) (dCB sp_Ltake (dCons (dVar 0) (dCons (dC (.int 3)) dNil)))) dNil)))))))))))
def goal_Ldrawn : Prop := ∀ (x0 : D) (S : Store) (P : D → Store → Prop), sp_Ldrawn [x0] S P → rd_Ldrawn (dEnd P) [some x0, none, none, none, none, none, none] S
theorem z_LsameG : ∀ ds S P, spr_LsameG 0 ds S P → False := fun _ _ _ h => h
theorem len_LsameG : ∀ n ds S P, spr_LsameG n ds S P → ds.length = 2
  | 0, _, _, _, h => h.elim
  | n + 1, _, _, _, ⟨x, rfl, _⟩ => rfl
theorem len_Lsums : ∀ ds S P, sp_Lsums ds S P → ds.length = 2 := by rintro ds S P ⟨a, b, rfl, _⟩; rfl
theorem len_Lrules : ∀ ds S P, sp_Lrules ds S P → ds.length = 2 := by rintro ds S P ⟨a, b, c, d, e, f, g, rfl, _⟩; rfl
theorem len_Lis_lost : ∀ ds S P, sp_Lis_lost ds S P → ds.length = 2 := by rintro ds S P ⟨a, b, c, rfl, _⟩; rfl
theorem len_Lrests : ∀ ds S P, sp_Lrests ds S P → ds.length = 1 := by rintro ds S P ⟨a, b, rfl, _⟩; rfl
theorem len_Lleads : ∀ ds S P, sp_Lleads ds S P → ds.length = 3 := by rintro ds S P ⟨a, b, c, d, rfl, _⟩; rfl
theorem len_Lis_safe : ∀ ds S P, sp_Lis_safe ds S P → ds.length = 3 := by rintro ds S P ⟨a, b, c, d, e, rfl, _⟩; rfl
theorem len_Llayers : ∀ ds S P, sp_Llayers ds S P → ds.length = 1 := by rintro ds S P ⟨a, b, rfl, _⟩; rfl
theorem len_Ldrawn : ∀ ds S P, sp_Ldrawn ds S P → ds.length = 1 := by rintro ds S P ⟨a, b, rfl, _⟩; rfl
theorem same_okG {x : D} {S : Store} {P : D → Store → Prop} (hp : Plain 5 x) (h : P (.bl true) S) : sp_LsameG [x, x] S P := ⟨x, rfl, hp, h⟩
theorem vc_LsameG : goal_LsameG := by
  rintro n x0 x1 S P ⟨x, e, hp, h⟩
  cases e
  unfold rd_LsameG
  cases hp with
  | non => walk_at "dg5"; exact h
  | bl => walk_at "dg5"; exact h
  | int => walk_at "dg5"; exact h
  | str => walk_at "dg5"; exact h
  | lst hl hy =>
    walk_at "dg5"
    rw [zipD_self]
    refine all_same hl (fun d hd => ⟨_, rfl, fun Q q => ?_⟩) h
    walk_at "dg5"
    exact ⟨d, rfl, hy d hd, q⟩
  | tup hl hy =>
    walk_at "dg5"
    rw [zipD_self]
    refine all_same hl (fun d hd => ⟨_, rfl, fun Q q => ?_⟩) h
    walk_at "dg5"
    exact ⟨d, rfl, hy d hd, q⟩
theorem ru_val (g : Gm) : dVal (ruK g) (.inr (Str.ofString "root")) = some (.int g.b) ∧ dVal (ruK g) (.inr (Str.ofString "step")) = some (.int g.st) ∧ dVal (ruK g) (.inr (Str.ofString "sums")) = some (.lst (g.sums.map .int)) ∧
    dVal (ruK g) (.inr (Str.ofString "all")) = some (.int g.top) ∧ dVal (ruK g) (.inr (Str.ofString "wide")) = some (.int g.w) := ⟨rfl, rfl, rfl, rfl, rfl⟩
theorem RuAt.grown {S S' : Store} {q : Addr} {g : Gm} (h : RuAt S q g) (gr : Grown S S') : RuAt S' q g := by
  unfold RuAt dctOf at *
  cases e : S q with
  | none => simp [e] at h
  | some m =>
    simp only [gr q m e]
    simp only [e] at h
    exact h
theorem vc_Lis_lost : goal_Lis_lost := by
  rintro x0 x1 S P ⟨q, g, r, e, hq, ok, hr, h⟩
  cases e
  unfold rd_Lis_lost
  have hq' : dctOf S (.obj q) = some (ruK g) := hq
  obtain ⟨v1, v2, v3, v4, v5⟩ := ru_val g
  walk_at "dg5"
  simp only [hq', v1, v2, v4, v5]
  have := ok.b0; have := ok.b1; have := ok.w0; have := ok.w1
  rw [abs_if]
  exact ⟨mulS, mulS2, h⟩
theorem vc_Lleads : goal_Lleads := by
  rintro x0 x1 x2 S P ⟨q, g, r, s, e, hq, ok, hr, hs, h⟩
  cases e
  unfold rd_Lleads
  have hq' : dctOf S (.obj q) = some (ruK g) := hq
  obtain ⟨v1, v2, v3, v4, v5⟩ := ru_val g
  walk_at "dg5"
  simp only [hq', v1, v2, v4, v5]
  have := ok.b0; have := ok.b1; have := ok.w0; have := ok.w1; have := ok.s0; have := ok.s1
  refine ⟨by omega, ?_⟩
  rw [rng_irg]
  refine lcb_ints (irg (0 - g.w) (g.w + 1)) rfl (by rw [irg_len]; omega) (fun _ => true) (fun f => .int (g.b * r + s - f * g.st)) (fun _ S' => S' = S) rfl (fun i f S' hf hs' => ⟨_, rfl, fun K N hK hN => ?_⟩) fun S2 hs' => ?_
  · subst hs'
    walk_at "dg5"
    simp only [hq', v1, v2, v4, v5]
    have hf' := List.mem_of_getElem? hf
    rw [mem_irg] at hf'
    exact ⟨mulS, mulS, hK rfl _ rfl⟩
  · subst hs'
    rw [List.filter_eq_self.mpr (fun _ _ => rfl)]
    unfold leadsQ at h
    rw [List.map_map] at h
    exact h
/-- the law's own look at all figures -/
theorem leads_held {g : Gm} (ok : GmOk g) {H : List Int} (hH : ∀ x ∈ H, x ∈ g.rests) (a : Int) : ((leadsQ g a).any fun x => decide (x ∈ H)) = g.heldB H a := by
  unfold Gm.heldB
  rw [Bool.eq_iff_iff, List.any_eq_true, List.any_eq_true]
  constructor
  · rintro ⟨x, hx, hm⟩
    have hm' := of_decide_eq_true hm
    unfold leadsQ at hx
    obtain ⟨f, hf, rfl⟩ := List.mem_map.mp hx
    rw [mem_irg] at hf
    have hr := hH _ hm'
    unfold Gm.rests at hr
    rw [mem_irg] at hr
    exact ⟨_, (mem_led ok.s0).mpr ⟨f, by omega, by omega, rfl, by omega, by omega⟩, hm⟩
  · rintro ⟨x, hx, hm⟩
    obtain ⟨f, h1, h2, rfl, h3, h4⟩ := (mem_led ok.s0).mp hx
    exact ⟨_, List.mem_map.mpr ⟨f, mem_irg.mpr ⟨by omega, by omega⟩, rfl⟩, hm⟩
theorem vc_Lis_safe : goal_Lis_safe := by
  rintro x0 x1 x2 S P ⟨q, h, g, r, H, e, hq, ok, hh, hH, hr, z⟩
  cases e
  unfold rd_Lis_safe
  have hq' : dctOf S (.obj q) = some (ruK g) := hq
  obtain ⟨v1, v2, v3, v4, v5⟩ := ru_val g
  walk_at "dg5"
  simp only [hq', v3]
  refine ⟨fun i ρ S' => ∃ x3 x4, ρ = [some (.obj q), some (.int r), some (.obj h), x3, x4] ∧ S' = S ∧ ∀ s ∈ g.sums.take i, (!g.heldB H (g.b * r + s)) = false, ⟨none, none, rfl, rfl, by simp⟩, ?_, ?_⟩
  · rintro i d ρ S' hd ⟨x3, x4, rfl, rfl, hall⟩
    rw [List.getElem?_map] at hd
    cases e : g.sums[i]? with
    | none => rw [e] at hd; cases hd
    | some s =>
      rw [e] at hd
      cases hd
      have hs : s.natAbs < 2 ^ 40 := ok.sb s (List.mem_of_getElem? e)
      refine ⟨_, rfl, ?_⟩
      walk_at "dg5"
      refine ⟨q, g, r, s, rfl, hq, ok, hr, hs, ?_⟩
      walk_at "dg5"
      have hl : (leadsQ g (g.b * r + s)).length ≤ 100000 := by
        have := ok.w0; have := ok.w1
        unfold leadsQ
        rw [List.length_map, irg_len]; omega
      refine lcb_ints (leadsQ g (g.b * r + s)) rfl hl (fun _ => true) (fun x => .bl (decide (x ∈ H))) (fun _ S2 => S2 = S') rfl (fun j x S2 hx hs2 => ⟨_, rfl, fun K N hK hN => ?_⟩) fun S2 hs2 => ?_
      · subst hs2
        walk_at "dg5"
        obtain ⟨kvs, k1, k2⟩ := held_of hh x
        rw [k1]
        simp only
        rw [k2]
        exact hK rfl _ rfl
      · subst hs2
        rw [List.filter_eq_self.mpr (fun _ _ => rfl)]
        unfold cAny
        simp only [lstOf, Option.bind]
        rw [dBools_mapF]
        simp only [List.any_map]
        rw [show (leadsQ g (g.b * r + s)).any (id ∘ fun a => decide (a ∈ H)) = g.heldB H (g.b * r + s) from leads_held ok hH _]
        by_cases c : (!g.heldB H (g.b * r + s)) = true
        · rw [if_pos c]
          have z' := z
          unfold Gm.safe Gm.fatal at z'
          rw [find_take e hall c] at z'
          exact z'
        · rw [if_neg c]
          refine ⟨_, _, rfl, trivial, fun s' hs' => ?_⟩
          rw [List.take_add_one, e] at hs'
          rcases List.mem_append.mp hs' with hs' | hs'
          · exact hall s' hs'
          · simp at hs'
            subst hs'
            simpa using c
  · rintro ρ S' ⟨x3, x4, rfl, rfl, hall⟩
    rw [List.length_map, List.take_length] at hall
    walk_at "dg5"
    unfold Gm.safe Gm.fatal at z
    rw [find_none hall] at z
    exact z
theorem zip_map2 (ws ms : List Int) : zipD (ws.map D.int) (ms.map D.int) = (ws.zip ms).map fun q => .tup [.int q.1, .int q.2] := by
  unfold zipD
  rw [List.zipWith_map]
  show _ = (List.zipWith Prod.mk ws ms).map _
  rw [List.map_zipWith]
theorem topR_take : ∀ (ps : List (Int × Int)) (T : Int) (i : Nat), (∀ p ∈ ps, 0 ≤ p.2) → (ps.take i).foldl addT T ≤ ps.foldl addT T
  | [], _, _, _ => by simp
  | p :: ps, T, 0, h => by
    have mono : ∀ (qs : List (Int × Int)) (T : Int), (∀ q ∈ qs, 0 ≤ q.2) → T ≤ qs.foldl addT T := by
      intro qs
      induction qs with
      | nil => intro T _; exact Int.le_refl _
      | cons q qs ih =>
        intro T hq
        refine Int.le_trans ?_ (ih (addT T q) fun x hx => hq x (by simp [hx]))
        have := Int.mul_nonneg (show (0 : Int) ≤ (q.1.natAbs : Int) by omega) (hq q (by simp))
        unfold addT; omega
    simpa using mono (p :: ps) T h
  | p :: ps, T, i + 1, h => topR_take ps (addT T p) i fun q hq => h q (by simp [hq])
theorem few_len {l ys : List Int} {T : Int} (hT : T ≤ 31) (h : ∀ x ∈ l, -T ≤ x ∧ x ≤ T) (nd : ys.Nodup) (hs : ∀ k ∈ ys, k ∈ l) : ys.length < 64 := by
  have := nd_sub_len (l := irg (-31) 32) nd fun k hk => by
    have := h k (hs k hk)
    exact mem_irg.mpr (by omega)
  rw [irg_len] at this
  have e : ((32 : Int) - -31).toNat = 63 := rfl
  omega
theorem vc_Lsums : goal_Lsums := by
  rintro x0 x1 S P ⟨ws, ms, e, ok, h⟩
  cases e
  unfold rd_Lsums
  walk_at "dg5"
  rw [zip_map2]
  have hpos : ∀ q ∈ ws.zip ms, 0 ≤ q.2 := fun q hq => ok.ok.m0 _ (List.of_mem_zip hq).2
  refine ⟨fun i ρ S' => ∃ ys x3 x4 x5 x6, ρ = [some (.tup (ws.map .int)), some (.tup (ms.map .int)), some (.lst (ys.map .int)), x3, x4, x5, x6, none] ∧ S' = S ∧ Srt (sumsR ((ws.zip ms).take i)) ys, ⟨[0], none, none, none, none, rfl, rfl, by simp, by simp [sumsR]⟩, ?_, ?_⟩
  · rintro i d ρ S' hd ⟨ys, x3, x4, x5, x6, rfl, rfl, hy⟩
    rw [List.getElem?_map] at hd
    cases e : (ws.zip ms)[i]? with
    | none => rw [e] at hd; cases hd
    | some q =>
      rw [e] at hd
      cases hd
      have q0 : 0 ≤ q.2 := hpos q (List.mem_of_getElem? e)
      have q1 : q.2 ≤ 31 := ok.m _ (List.of_mem_zip (List.mem_of_getElem? e)).2
      have qw := ok.ok.w _ (List.of_mem_zip (List.mem_of_getElem? e)).1
      have bd : ∀ j, ∀ x ∈ sumsR ((ws.zip ms).take j), -31 ≤ x ∧ x ≤ 31 := fun j x hx => by
        have a := sumsR_bound x hx
        have b := topR_take (ws.zip ms) 0 j hpos
        have c := ok.t
        unfold topR at a c
        omega
      have ly : ys.length < 64 := few_len (T := 31) (by omega) (bd i) (nd_lt hy.lt) fun k hk => (hy.mem k).mp hk
      refine ⟨_, rfl, ?_⟩
      walk_at "dg5"
      have il := irg_len (0 - q.2) (q.2 + 1)
      refine ⟨fun j ρ S2 => ∃ x6', ρ = [some (.tup (ws.map .int)), some (.tup (ms.map .int)), some (.lst (ys.map .int)), some (.int q.1), some (.int q.2), some (.lst ((addS (ys.take j) q).map .int)), x6', none] ∧ S2 = S', ⟨x6, by simp [addS], rfl⟩, ?_, ?_⟩
      · rintro j d2 ρ S2 hd2 ⟨x6', rfl, rfl⟩
        rw [List.getElem?_map] at hd2
        cases e2 : ys[j]? with
        | none => rw [e2] at hd2; cases hd2
        | some one =>
          rw [e2] at hd2
          cases hd2
          have jl := (List.getElem?_eq_some_iff.mp e2).1
          refine ⟨_, rfl, ?_⟩
          walk_at "dg5"
          rw [rng_irg]
          refine ⟨by omega, ?_⟩
          refine lcb_ints (irg (0 - q.2) (q.2 + 1)) rfl (by omega) (fun _ => true) (fun f => .int (one + q.1 * f)) (fun _ S3 => S3 = S2) rfl (fun k f S3 hf hs3 => ⟨_, rfl, fun K N hK hN => ?_⟩) fun S3 hs3 => ?_
          · subst hs3
            walk_at "dg5"
            exact ⟨mulS, hK rfl _ rfl⟩
          · subst hs3
            rw [List.filter_eq_self.mpr (fun _ _ => rfl)]
            walk_at "dg5"
            have la := addS_len (ys.take j) q
            rw [List.length_take, show (irg (-q.2) (q.2 + 1)).length = (q.2 + 1 - -q.2).toNat from irg_len _ _] at la
            have : min j ys.length * (q.2 + 1 - -q.2).toNat ≤ 64 * 63 := Nat.mul_le_mul (by omega) (by omega)
            refine ⟨by rw [List.length_map, List.length_map]; omega, some (.int one), ?_⟩
            rw [List.take_add_one, e2]
            unfold addS
            rw [List.flatMap_append, List.map_append, show 0 - q.2 = -q.2 by omega]
            simp [List.map_map, Function.comp_def]
      · rintro ρ S2 ⟨x6', rfl, rfl⟩
        rw [List.length_map, List.take_length]
        unfold dSortSet
        walk_at "dg5"
        simp only [dInts_map]
        have la := addS_len ys q
        rw [show (irg (-q.2) (q.2 + 1)).length = (q.2 + 1 - -q.2).toNat from irg_len _ _] at la
        have : ys.length * (q.2 + 1 - -q.2).toNat ≤ 63 * 63 := Nat.mul_le_mul (by omega) (by omega)
        have same : ∀ k, k ∈ addS ys q ↔ k ∈ sumsR ((ws.zip ms).take (i + 1)) := fun k => by
          rw [sums_take e]
          exact addS_congr (fun k => hy.mem k) q k
        refine ⟨by omega, fun c nd hc => few_len (T := 31) (by omega) (bd (i + 1)) nd fun k hk => (same k).mp (hc k hk), fun zs hz1 hz2 => ?_⟩
        exact ⟨zs, some (.int q.1), some (.int q.2), some (.lst ((addS ys q).map .int)), x6', by simp, hz1, fun k => (hz2 k).trans (same k)⟩
  · rintro ρ S' ⟨ys, x3, x4, x5, x6, rfl, rfl, hy⟩
    rw [List.length_map, List.take_length] at hy
    walk_at "dg5"
    exact h ys hy
theorem vc_Lrules : goal_Lrules := by
  rintro x0 x1 S P ⟨b, over, most, L, ws, ms, sums, e, ok, hs, b0, b1, o0, o1, hL, hne, q⟩
  cases e
  unfold rd_Lrules gameD
  walk_at "dg5"
  refine ⟨ws, ms, rfl, ok, fun ys hy => ?_⟩
  have : ys = sums := hy.uniq hs fun _ => Iff.rfl
  subst this
  walk_at "dg5"
  refine ⟨by omega, by omega, fun i ρ S' => ∃ x9, ρ = [some (.tup [.int b, .tup (ws.map .int), .int over, .tup (ms.map .int), .int most]), some (.int (L : Int)), some (.int b), some (.tup (ws.map .int)), some (.int over), some (.tup (ms.map .int)), some (.int most), some (.lst (ys.map .int)), some (.int (over * b ^ i)), x9] ∧ S' = S, ⟨none, by simp, rfl⟩, ?_, ?_⟩
  · rintro i d ρ S' hd ⟨x9, rfl, rfl⟩
    refine ⟨_, rfl, ?_⟩
    walk_at "dg5"
    refine ⟨mulS2, some d, ?_⟩
    rw [Int.pow_succ, Int.mul_assoc]
  · rintro ρ S' ⟨x9, rfl, rfl⟩
    rw [rng_len]
    walk_at "dg5"
    rw [atI_last (by simpa using hne) (.int 0)]
    walk_at "dg5"
    refine ⟨by show ([Sum.inr (Str.ofString "root"), .inr (Str.ofString "step"), .inr (Str.ofString "sums"), .inr (Str.ofString "all"), .inr (Str.ofString "wide")] : List Key).Nodup; decide, fun p hp => ?_⟩
    have e : (List.map D.int ys).getLastD (.int 0) = .int (gmAt b over most ys L).top := by
      unfold Gm.top gmAt
      rw [List.getLastD_eq_getLast?, List.getLastD_eq_getLast?, List.getLast?_map]
      cases ys.getLast? <;> rfl
    rw [e, show ((L : Int)).toNat = L by omega]
    exact q p _ (Grown.new hp) supd_at
theorem irg_cons {lo hi : Int} (h : lo < hi) : irg lo hi = lo :: irg (lo + 1) hi := by
  refine srt_uniq (irg_lt _ _) (List.pairwise_cons.mpr ⟨fun x hx => ?_, irg_lt _ _⟩) fun x => ?_
  · rw [mem_irg] at hx; omega
  · rw [List.mem_cons, mem_irg, mem_irg]; omega
theorem irg_none {lo hi : Int} (h : hi ≤ lo) : irg lo hi = [] := by
  unfold irg
  rw [show (hi - lo).toNat = 0 by omega]; rfl
/-- there and back -/
theorem irg_both (i : Nat) : (((irg 0 i).drop 1).reverse.map fun x => 0 - x) ++ irg 0 i = irg (1 - i) i := by
  cases i with
  | zero => rw [irg_none (by omega), irg_none (by omega)]; rfl
  | succ n =>
    rw [irg_cons (lo := 0) (by omega)]
    simp only [List.drop_succ_cons, List.drop_zero]
    refine srt_uniq ?_ (irg_lt _ _) fun x => ?_
    · rw [List.pairwise_append]
      refine ⟨?_, List.pairwise_cons.mpr ⟨fun x hx => by rw [mem_irg] at hx; omega, irg_lt _ _⟩, fun a ha b hb => ?_⟩
      · rw [List.pairwise_map, List.pairwise_reverse]
        exact (irg_lt _ _).imp fun h => by omega
      · obtain ⟨y, hy, rfl⟩ := List.mem_map.mp ha
        rw [List.mem_reverse, mem_irg] at hy
        rcases List.mem_cons.mp hb with rfl | hb
        · omega
        · rw [mem_irg] at hb; omega
    · rw [List.mem_append, List.mem_map, List.mem_cons, mem_irg, mem_irg]
      constructor
      · rintro (⟨y, hy, rfl⟩ | rfl | h)
        · rw [List.mem_reverse, mem_irg] at hy; omega
        · omega
        · omega
      · intro h
        by_cases c : x < 0
        · exact .inl ⟨-x, by rw [List.mem_reverse, mem_irg]; omega, by omega⟩
        · by_cases c2 : x = 0
          · exact .inr (.inl c2)
          · exact .inr (.inr (by omega))
theorem irg_snoc (i : Nat) : irg 0 (i + 1 : Nat) = irg 0 i ++ [(i : Int)] := by
  unfold irg
  rw [show (((i + 1 : Nat) : Int) - 0).toNat = i + 1 by omega, show ((i : Int) - 0).toNat = i by omega, List.range_succ, List.map_append]
  simp
theorem lost_iff {g : Gm} (ok : GmOk g) (i : Nat) : (decide (g.st * g.w < (g.b - 1) * (((i : Int)).natAbs : Int) + g.top)) = decide (g.gr < (i : Int)) := by
  have h := fdiv_lt_iff (a := g.st * g.w - g.top) (x := (i : Int)) (k := g.b - 1) (by have := ok.b0; omega)
  rw [show (((i : Int)).natAbs : Int) = (i : Int) by omega, Int.mul_comm (g.b - 1) (i : Int)]
  unfold Gm.gr
  by_cases c : (i : Int) ≤ (g.st * g.w - g.top).fdiv (g.b - 1)
  · have := h.mp c
    rw [decide_eq_false (by omega), decide_eq_false (by omega)]
  · have : ¬ (i : Int) * (g.b - 1) ≤ g.st * g.w - g.top := fun z => c (h.mpr z)
    rw [decide_eq_true (by omega), decide_eq_true (by omega)]
theorem vc_Lrests : goal_Lrests := by
  rintro x0 S P ⟨q, g, e, hq, ok, h⟩
  cases e
  unfold rd_Lrests
  walk_at "dg5"
  intro a ha
  have few := ok.few
  refine ⟨by omega, by omega, fun i ρ S' => ∃ x2 x3, ρ = [some (.obj q), some (.obj a), x2, x3] ∧ Grown S S' ∧ S' a = some (.lst ((irg 0 i).map .int)) ∧ (i : Int) ≤ max 0 (g.gr + 1), ⟨none, none, rfl, Grown.new ha, supd_at, by omega⟩, ?_, ?_⟩
  · rintro i d ρ S' hd ⟨x2, x3, rfl, hg, hl, hi⟩
    obtain ⟨hi2, rfl⟩ := rng_get hd
    refine ⟨_, rfl, ?_⟩
    walk_at "dg5"
    have ll : (irg 0 i).length = i := by rw [irg_len]; omega
    refine ⟨q, g, (i : Int), by simp, hq.grown hg, ok, by omega, ?_⟩
    rw [lost_iff ok]
    walk_at "dg5"
    by_cases c : g.gr < (i : Int)
    · rw [if_pos c]
      simp only [hl]
      refine lcb_ints ((irg 0 i).drop 1).reverse (by rw [List.map_reverse, List.map_drop]) (by rw [List.length_reverse, List.length_drop]; omega) (fun _ => true) (fun x => .int (0 - x)) (fun _ S2 => S2 = S') rfl (fun j x S2 hx hs => ⟨_, rfl, fun K N hK hN => ?_⟩) fun S2 hs => ?_
      · subst hs
        walk_at "dg5"
        exact hK rfl _ rfl
      · subst hs
        rw [List.filter_eq_self.mpr (fun _ _ => rfl)]
        walk_at "dg5"
        simp only [hl]
        have z := h S2 hg
        have e : g.rests = (((irg 0 i).drop 1).reverse.map fun x => 0 - x) ++ irg 0 i := by
          rw [irg_both]
          unfold Gm.rests
          by_cases c2 : 0 ≤ g.gr
          · rw [show (i : Int) = g.gr + 1 by omega, show (1 : Int) - (g.gr + 1) = -g.gr by omega]
          · rw [irg_none (by omega), irg_none (by omega)]
        rw [e, List.map_append, List.map_map] at z
        exact ⟨by simp; omega, z⟩
    · rw [if_neg c]
      simp only [hl]
      walk_at "dg5"
      refine ⟨_, rfl, _, rfl, by rw [List.length_map]; omega, _, x3, rfl, hg.again ha, ?_, by omega⟩
      rw [irg_snoc, List.map_append]
      simp
  · rintro ρ S' ⟨x2, x3, rfl, hg, hl, hi⟩
    rw [rng_len] at hi
    exfalso
    omega
theorem pairs_ints (f : Int → D) : ∀ xs : List Int, DL.pairsOf (xs.map fun r => .tup [.int r, f r]) = some (kI f xs)
  | [] => rfl
  | x :: xs => by
    rw [List.map_cons]
    unfold DL.pairsOf
    rw [pairs_ints f xs]
    rfl
theorem mrg_ints (f : Int → D) {xs : List Int} (nd : xs.Nodup) : dMrg [] (kI f xs) = kI f xs := by
  rw [dMrg_new (by rw [kI_keys]; exact nd_inl nd) (by simp)]
  rfl
theorem wo_ints (f : Int → D) (xs : List Int) (r : Int) : dWo (kI f xs) (.inl r) = kI f (xs.filter fun x => decide (x ≠ r)) := by
  unfold dWo kI
  rw [List.filter_map]
  congr 1
  refine List.filter_congr fun x _ => ?_
  simp
theorem lay_keys (found : List (Int × Int × Int)) : (found.map layD).map (·.1) = (found.map (·.1)).map Sum.inl := by
  rw [List.map_map, List.map_map]; rfl
theorem RuAt.some {S : Store} {q : Addr} {g : Gm} (h : RuAt S q g) : ∃ m, S q = Option.some m := by
  unfold RuAt dctOf at h
  cases e : S q with
  | none => simp [e] at h
  | some m => exact ⟨m, rfl⟩
theorem vc_Llayers : goal_Llayers := by
  rintro x0 S P ⟨q, g, e, hq, ok, h⟩
  cases e
  unfold rd_Llayers rd_Llayers_1
  walk_at "dg5"
  intro pf hpf
  refine ⟨q, g, rfl, hq.grown (Grown.new hpf), ok, fun S1 g1 => ?_⟩
  have rl := rests_len ok
  obtain ⟨mq, hmq⟩ := hq.some
  walk_at "dg5"
  refine lcb_ints g.rests rfl (by omega) (fun _ => true) (fun r => .tup [.int r, .bl true]) (fun _ S' => S' = S1) rfl (fun i r S' hr hs => ⟨_, rfl, fun K N hK hN => ?_⟩) fun S2 hs => ?_
  · subst hs
    walk_at "dg5"
    exact hK rfl _ rfl
  · subst hs
    rw [List.filter_eq_self.mpr (fun _ _ => rfl)]
    walk_at "dg5"
    rw [pairs_ints (fun _ => .bl true)]
    simp only
    rw [mrg_ints (xs := g.rests) _ (irg_nd _ _)]
    refine ⟨by rw [kI_len]; omega, fun ph hph => ?_⟩
    have g0 := (Grown.new hpf).trans g1
    have hpf1 := g1 _ _ (supd_at (S := S) (p := pf) (m := .dK []))
    have nep : ph ≠ pf := fun z => by rw [z, hpf1] at hph; cases hph
    have phn : S ph = none := by
      cases e : S ph with
      | none => rfl
      | some m => rw [g0 _ _ e] at hph; cases hph
    have qh : q ≠ ph := fun z => by rw [z, phn] at hmq; cases hmq
    rw [dct_dK supd_at]
    simp only
    rw [kI_len]
    refine ⟨by omega, by omega, fun i ρ S' => ∃ H found k x4 x5 x6, ρ = [some (.obj q), some (.obj pf), some (.obj ph), some (.int k), x4, x5, x6] ∧ Grown S S' ∧ S' pf = some (.dK (found.map layD)) ∧ S' ph = some (.dK (kI (fun _ => .bl true) H)) ∧
      H.Nodup ∧ (∀ r ∈ H, r ∈ g.rests) ∧ H.length + i ≤ g.rests.length ∧ (∀ t ∈ found, t.1 ∉ H) ∧ found.length + H.length ≤ g.rests.length ∧ g.ranksN (H.length + 1) found H k = g.ranks,
      ⟨g.rests, [], 0, none, none, none, rfl, g0.again phn, (supd_ne nep.symm).trans hpf1, supd_at, irg_nd _ _, fun _ h => h, by omega, by simp, by simp, rfl⟩, ?_, ?_⟩
    · rintro i d ρ S' hd ⟨H, found, k, x4, x5, x6, rfl, gr0, hpf', hph', nd, hin, hlen, hdis, hsum, hrk⟩
      refine ⟨_, rfl, ?_⟩
      walk_at "dg5"
      refine .inr ⟨ph, _, hph', fun o vs => ?_⟩
      walk_at "dg5"
      refine ⟨ph, o, vs, _, rfl, supd_at, ?_⟩
      refine lcp_ints H (kI_dkeys H) (by omega) (fun r => !g.safe H r) .int (fun _ S3 => S3 = supd S' ph (.dZ o vs (kI (fun _ => .bl true) H))) rfl (fun i S3 h => by rw [h]; exact supd_at) (fun i r S3 hr hs => ⟨_, rfl, fun K N hK hN => ?_⟩) fun S3 hs => ?_
      · subst hs
        walk_at "dg5"
        have hr1 := hin r (List.mem_of_getElem? hr)
        have hgr := gr_bd ok
        unfold Gm.rests at hr1
        rw [mem_irg] at hr1
        refine ⟨q, ph, g, r, H, rfl, (dct_supd qh).trans (hq.grown gr0), ok, ⟨_, dct_dZ supd_at, kI_keys _ _⟩, hin, by omega, ?_⟩
        cases ef : g.safe H r with
        | true => exact hN (by rw [ef]; rfl) _ rfl
        | false => exact hK (by rw [ef]; rfl) _ rfl
      · subst hs
        refine ⟨supd_at, ?_⟩
        rw [supd_unlock hph']
        walk_at "dg5"
        have ndg : (H.filter fun r => !g.safe H r).Nodup := nd.filter _
        have lg := List.length_filter_le (fun r => !g.safe H r) H
        refine ⟨fun j ρ S3 => ∃ x4', ρ = [some (.obj q), some (.obj pf), some (.obj ph), some (.int k), x4', some d, some (.lst ((H.filter fun r => !g.safe H r).map .int))] ∧ Grown S S3 ∧ S3 pf = some (.dK ((found ++ (g.gone H k).take j).map layD)) ∧
          S3 ph = some (.dK (kI (fun _ => .bl true) (H.filter fun x => decide (x ∉ (H.filter fun r => !g.safe H r).take j)))), ⟨x4, rfl, gr0, ?_, ?_⟩, ?_, ?_⟩
        · simpa using hpf'
        · rw [List.filter_eq_self.mpr (fun _ _ => by simp)]
          exact hph'
        · rintro j d2 ρ S3 hd2 ⟨x4', rfl, gr3, hf3, hh3⟩
          rw [List.getElem?_map] at hd2
          cases e2 : (H.filter fun r => !g.safe H r)[j]? with
          | none => rw [e2] at hd2; cases hd2
          | some r =>
            rw [e2] at hd2
            cases hd2
            refine ⟨_, rfl, ?_⟩
            walk_at "dg5"
            have rH : r ∈ H := (List.mem_filter.mp (List.mem_of_getElem? e2)).1
            have rn : r ∉ (H.filter fun r => !g.safe H r).take j := take_nd ndg e2
            have eg : (g.gone H k)[j]? = some (r, k, (g.fatal H r).getD 0) := by
              unfold Gm.gone
              rw [List.getElem?_map, e2]; rfl
            have lk : (g.gone H k).length ≤ H.length := by
              unfold Gm.gone
              rw [List.length_map]; exact lg
            have nk : (Sum.inl r : Key) ∉ ((found ++ (g.gone H k).take j).map layD).map (·.1) := by
              rw [lay_keys, inl_mem, List.map_append, List.mem_append]
              rintro (z | z)
              · obtain ⟨t, ht, e⟩ := List.mem_map.mp z
                exact hdis t ht (e ▸ rH)
              · apply rn
                unfold Gm.gone at z
                rw [← List.map_take, List.map_map] at z
                obtain ⟨y, hy, e⟩ := List.mem_map.mp z
                have e' : y = r := e
                rw [← e']; exact hy
            refine ⟨pf, _, .inl r, rfl, hf3, rfl, ?_, ?_⟩
            · rw [List.length_map, List.length_append, List.length_take]; omega
            · rw [dPut_new _ nk]
              have hh4 := (supd_ne (S := S3) (m := .dK ((found ++ (g.gone H k).take j).map layD ++ [(.inl r, .int k)])) nep).trans hh3
              refine ⟨by rw [dct_dK hh4]; rfl, ph, _, .inl r, .bl true, rfl, hh4, rfl, ?_, ?_⟩
              · rw [kI_val, if_pos (List.mem_filter.mpr ⟨rH, decide_eq_true rn⟩)]
              · rw [wo_ints]
                refine ⟨_, rfl, (gr3.again hpf).again phn, ?_, ?_⟩
                · rw [supd_ne nep.symm, supd_at, List.take_add_one, eg]
                  simp [layD]
                · rw [supd_at, List.filter_filter, List.take_add_one, e2]
                  congr 3
                  refine List.filter_congr fun x _ => ?_
                  by_cases c1 : x = r
                  · simp [c1]
                  · by_cases c2 : x ∈ (H.filter fun r => !g.safe H r).take j <;> simp [c1, c2]
        · rintro ρ S3 ⟨x4', rfl, gr3, hf3, hh3⟩
          rw [List.length_map, List.take_of_length_le (by unfold Gm.gone; rw [List.length_map]; exact Nat.le_refl _)] at hf3
          rw [List.length_map, List.take_of_length_le (Nat.le_refl _)] at hh3
          have hfs : (H.filter fun x => decide (x ∉ (H.filter fun r => !g.safe H r))) = H.filter (g.safe H) := List.filter_congr fun x hx => by
            cases e : g.safe H x <;> simp [hx, e]
          rw [hfs] at hh3
          walk_at "dg5"
          rw [show dEqB (.lst ((H.filter fun r => !g.safe H r).map D.int)) (.lst []) = some (decide ((H.filter fun r => !g.safe H r) = [])) from eqB_intsG _ []]
          simp only
          by_cases hall : H.all (g.safe H) = true
          · have eg : (H.filter fun r => !g.safe H r) = [] := by
              rw [List.filter_eq_nil_iff]
              intro r hr
              rw [List.all_eq_true.mp hall r hr]; simp
            have es : H.filter (g.safe H) = H := List.filter_eq_self.mpr (List.all_eq_true.mp hall)
            have en : g.gone H k = [] := by unfold Gm.gone; rw [eg]; rfl
            rw [en, List.append_nil] at hf3
            rw [es] at hh3
            rw [eg]
            simp only [decide_true, reduceIte]
            rw [ranksN_end g hall] at hrk
            refine ⟨⟨pf, _, rfl, hf3⟩, .inr ⟨ph, _, hh3, fun o2 vs2 => ?_⟩⟩
            walk_at "dg5"
            refine ⟨ph, o2, vs2, _, rfl, supd_at, ?_⟩
            refine lcp_ints H (kI_dkeys H) (by omega) (fun _ => true) (fun r => .tup [.int r, .non]) (fun _ S5 => S5 = supd S3 ph (.dZ o2 vs2 (kI (fun _ => .bl true) H))) rfl (fun i S5 h => by rw [h]; exact supd_at) (fun i r S5 hr hs => ⟨_, rfl, fun K N hK hN => ?_⟩) fun S5 hs => ?_
            · subst hs
              walk_at "dg5"
              exact hK rfl _ rfl
            · subst hs
              rw [List.filter_eq_self.mpr (fun _ _ => rfl)]
              walk_at "dg5"
              rw [pairs_ints (fun _ => .non)]
              simp only
              rw [mrg_ints (xs := H) _ nd]
              refine ⟨by rw [kI_len]; omega, fun pu hpu => ?_⟩
              rw [supd_unlock hh3] at hpu ⊢
              have uf : pf ≠ pu := Grown.ne hf3 hpu
              refine ⟨pf, pu, _, _, rfl, rfl, uf, (supd_ne uf).trans hf3, dct_dK supd_at, by rw [List.length_map, kI_len]; omega, ?_⟩
              have mrg : dMrg (found.map layD) (kI (fun _ => D.non) H) = layK g := by
                rw [dMrg_new (by rw [kI_keys]; exact nd_inl nd) fun x hx => ?_]
                · unfold layK
                  rw [← hrk]
                · rw [kI_keys] at hx
                  obtain ⟨r, hr, rfl⟩ := List.mem_map.mp hx
                  rw [lay_keys, inl_mem]
                  intro z
                  obtain ⟨t, ht, e⟩ := List.mem_map.mp z
                  exact hdis t ht (e ▸ hr)
              rw [mrg]
              exact h pf _ ((gr3.trans (Grown.new hpu)).again hpf) hpf supd_at
          · have eg : ¬ (H.filter fun r => !g.safe H r) = [] := by
              intro z
              apply hall
              rw [List.filter_eq_nil_iff] at z
              rw [List.all_eq_true]
              intro r hr
              simpa using z r hr
            simp only [eg, decide_false, Bool.false_eq_true, reduceIte]
            have l' := filter_lt hall
            have lc : (H.filter (g.safe H)).length + (g.gone H k).length = H.length := by
              unfold Gm.gone
              rw [List.length_map]
              have := filter_two (g.safe H) H
              omega
            refine ⟨H.filter (g.safe H), found ++ g.gone H k, k + 1, _, _, _, rfl, gr3, hf3, hh3, nd.filter _, fun r hr => hin r (List.mem_filter.mp hr).1, by omega, fun t ht => ?_, ?_, ?_⟩
            · rcases List.mem_append.mp ht with ht | ht
              · exact fun z => hdis t ht (List.mem_filter.mp z).1
              · unfold Gm.gone at ht
                obtain ⟨r, hr, rfl⟩ := List.mem_map.mp ht
                intro z
                have h1 := (List.mem_filter.mp hr).2
                have h2 := (List.mem_filter.mp z).2
                simp at h1 h2
                rw [h1] at h2; cases h2
            · rw [List.length_append]; omega
            · rw [← ranksN_step g hall]; exact hrk
    · rintro ρ S' ⟨H, found, k, x4, x5, x6, rfl, gr0, hpf', hph', nd, hin, hlen, hdis, hsum, hrk⟩
      rw [rng_len] at hlen
      exfalso
      omega
theorem mem3 {x : Int} (h0 : 0 ≤ x) (h3 : x < 3) : x = 0 ∨ x = 1 ∨ x = 2 := by omega
theorem vc_Ldrawn : goal_Ldrawn := by
  rintro x0 S P ⟨p, n, e, hb, hn, h⟩
  cases e
  unfold rd_Ldrawn
  walk_at "dg5"
  refine ⟨p, _, [.int 2, .int 2, .int 3, .int 3, .int 4, .int 5], n, rfl, .inl rfl, by simp, by simp, hb, by omega, fun x S1 hx d1 => ?_⟩
  obtain ⟨b, rfl, b0, b1⟩ : ∃ b : Int, x = .int b ∧ 2 ≤ b ∧ b ≤ 5 := by
    simp only [List.mem_cons, List.not_mem_nil, or_false] at hx
    rcases hx with rfl | rfl | rfl | rfl | rfl | rfl <;> exact ⟨_, rfl, by omega, by omega⟩
  walk_at "dg5"
  refine ⟨divS (by omega) (by omega), p, 2, n + 1, rfl, by omega, by omega, d1.box, by omega, fun t S2 t0 t1 d2 => ?_⟩
  walk_at "dg5"
  have hl : (b + 1).fdiv 2 = (b + 1) / 2 := Int.fdiv_eq_ediv_of_nonneg _ (by omega)
  rw [hl]
  refine ⟨by omega, by omega, by rw [rng_len]; omega, fun i acc S' => ∃ ws : List Int, acc = ws.map .int ∧ ws.length = i ∧ (∀ w ∈ ws, w.natAbs ≤ 3) ∧ BoxAt S' p (n + 2 + i), ⟨[], rfl, rfl, by simp, d2.box⟩, ?_, ?_⟩
  · rintro i d acc S' hd ⟨ws, rfl, rfl, hw, hb'⟩
    obtain ⟨hi, rfl⟩ := rng_get hd
    refine ⟨_, rfl, ?_⟩
    walk_at "dg5"
    refine ⟨p, _, [.int 1, .int 1, .int (-1), .int 2, .int 3], n + 2 + ws.length, rfl, .inl rfl, by simp, by simp, hb', by omega, fun x S3 hx d3 => ?_⟩
    obtain ⟨w, rfl, hw1⟩ : ∃ w : Int, x = .int w ∧ w.natAbs ≤ 3 := by
      simp only [List.mem_cons, List.not_mem_nil, or_false] at hx
      rcases hx with rfl | rfl | rfl | rfl | rfl <;> exact ⟨_, rfl, by omega⟩
    refine ⟨ws ++ [w], by simp, by simp, fun y hy => ?_, d3.box⟩
    rcases List.mem_append.mp hy with hy | hy
    · exact hw y hy
    · simp at hy
      subst hy; exact hw1
  · rintro acc S3 ⟨ws, rfl, hlw, hw, hb3⟩
    rw [rng_len] at hlw hb3
    walk_at "dg5"
    refine ⟨by rw [List.length_map]; omega, fun i acc S' => ∃ ms : List Int, acc = ms.map .int ∧ ms.length = i ∧ (∀ m ∈ ms, (b + 1) / 2 ≤ m ∧ m ≤ (b + 1) / 2 + 1) ∧ BoxAt S' p (n + 2 + ws.length + i), ⟨[], rfl, rfl, by simp, by rw [hlw]; exact hb3⟩, ?_, ?_⟩
    · rintro i d acc S' hd ⟨ms, rfl, rfl, hm, hb'⟩
      rw [List.getElem?_map] at hd
      cases e2 : ws[ms.length]? with
      | none => rw [e2] at hd; cases hd
      | some w =>
        rw [e2] at hd
        cases hd
        have := (List.getElem?_eq_some_iff.mp e2).1
        refine ⟨_, rfl, ?_⟩
        walk_at "dg5"
        refine ⟨p, 2, n + 2 + ws.length + ms.length, rfl, by omega, by omega, hb', by omega, fun u S4 u0 u1 d4 => ?_⟩
        refine ⟨ms ++ [(b + 1) / 2 + u], by simp, by simp, fun y hy => ?_, d4.box⟩
        rcases List.mem_append.mp hy with hy | hy
        · exact hm y hy
        · simp at hy
          subst hy; omega
    · rintro acc S4 ⟨ms, rfl, hlm, hm, hb4⟩
      rw [List.length_map] at hlm hb4
      walk_at "dg5"
      refine ⟨p, 3, _, rfl, by omega, by omega, hb4, by omega, fun v S5 v0 v1 d5 => ?_⟩
      have fin : ∀ u : Int, (1 ≤ u ∧ u ≤ 5) → ∀ S6 P', (∀ z S7, 0 ≤ z → z < u → BoxAt S7 p (n + 2 + ws.length + ws.length + 2) → P' (.int z) S7) → BoxAt S6 p (n + 2 + ws.length + ws.length + 1) → sp_Ltake [.obj p, .int u] S6 P' :=
        fun u hu S6 P' hP hb6 => ⟨p, u, _, rfl, by omega, by omega, hb6, by omega, fun z S7 z0 z1 d7 => hP z S7 z0 z1 d7.box⟩
      have fin2 : ∀ (o : Int) S7, 1 ≤ o → o ≤ 5 → BoxAt S7 p (n + 2 + ws.length + ws.length + 2) → sp_Ltake [.obj p, .int 3] S7 fun x S8 => dAdd (.int ((b + 1) / 2)) x S8 fun x1 S9 => P (.tup [.int b, .tup (ws.map .int), .int o, .tup (ms.map .int), x1]) S9 :=
        fun o S7 o0 o1 hb7 => ⟨p, 3, _, rfl, by omega, by omega, hb7, by omega, fun z S8 z0 z1 d8 => h b o ((b + 1) / 2 + z) ws ms S8
          { b0 := b0, b1 := b1, o0 := o0, o1 := o1, l := hlm.symm, n := by omega, w := hw, m0 := fun m hm' => by have := hm m hm'; omega, m1 := fun m hm' => by have := hm m hm'; omega, m2 := fun m hm' => (hm m hm').2, t0 := by omega, t1 := by omega }
          (by obtain ⟨a, s, t, q1, q2, q3, q4, q5, q6⟩ := d8.box; exact ⟨a, s, t, q1, q2, q3, q4, q5, by omega⟩)⟩
      rcases mem3 v0 v1 with rfl | rfl | rfl
      · walk_at "dg5"
        refine fin 1 (by omega) _ _ (fun z S7 z0 z1 hb7 => ?_) d5.box
        walk_at "dg5"
        exact fin2 _ _ (by omega) (by omega) hb7
      · walk_at "dg5"
        refine fin 3 (by omega) _ _ (fun z S7 z0 z1 hb7 => ?_) d5.box
        walk_at "dg5"
        exact fin2 _ _ (by omega) (by omega) hb7
      · walk_at "dg5"
        refine fin 5 (by omega) _ _ (fun z S7 z0 z1 hb7 => ?_) d5.box
        walk_at "dg5"
        exact fin2 _ _ (by omega) (by omega) hb7
end Lb

/-! Games by draws: what holds of them. -/
namespace Lb
open PySem PySem.Spec PyProof.Rows L2 DL
variable [CT]
local macro_rules | `(tactic| walk_at "dg5") => `(tactic| try simp only [isiG_non_dict, isiG_bl_dict, isiG_int_dict, isiG_str_dict, isiG_lst_dict, isiG_tup_dict, isiG_non_bs, isiG_bl_bs, isiG_int_bs, isiG_str_bs, isiG_lst_bs, isiG_tup_bs, dCall, dNewD, dDisp, dPrs, dkvsOf, dDGet, dDIn, dDGet1, dDGet2, dDPut, dDPop1, dDPop2, dDUpd, cLenD, cListD, cListDM, cDictD, cDictP, cSortDB, cSortL, dBack, dItKeys, dItItems, dItVals, keyOf_int, keyOf_str, dDc, dDc2, dLstR1, dLstR2, dFld, dSetFld, dFldAdd, dMeth, dMake, dMakeK, dFld2, put_tl, dSeq, dSet, dPar, dOp, dUn, dVar, dC, dCB, dCons, dNil, dTup, dLst, dLstM, dIfS, dIf, dTest, dNot, dAnd, dOr, dAndV, dOrV, dNotV, dRet, dRetN, dEnd, dNext, dAdd, dSub, dMul, dFdiv, dMod, dPow, dNeg, dLt, dLe, dGt, dGe, dEq, dNe, eqB_ii, eqB_bb, eqB_ss, eqB_nn, eqB_ni, eqB_in, eqB_ns, eqB_sn, eqB_is, eqB_si, eqB_nb, eqB_bn, dIx, dIn, dIsN, dNotN, DL.isNon, cAbs, cMax2, cMin2, cInt, cLen, cList, cTuple, dIsB, dNotB, dPar3, ForN, LcN, pinOf, pin2, dEnum2, dAppend, supd_same0, isi_non_int, isi_non_bool, isi_non_str, isi_non_list, isi_non_tuple, isi_non_lt, isi_bl_int, isi_bl_bool, isi_bl_str, isi_bl_list, isi_bl_tuple, isi_bl_lt, isi_int_int, isi_int_bool, isi_int_str, isi_int_list, isi_int_tuple, isi_int_lt, isi_str_int, isi_str_bool, isi_str_str, isi_str_list, isi_str_tuple, isi_str_lt, isi_lst_int, isi_lst_bool, isi_lst_str, isi_lst_list, isi_lst_tuple, isi_lst_lt, isi_tup_int, isi_tup_bool, isi_tup_str, isi_tup_list, isi_tup_tuple, isi_tup_lt, dAug, dIAdd, dIMul, dDrop, dSl, dPart, dNoPart, dRevL, dCallK, dChainR, dAsg, put_nm, put_tp, put_tl, putL_nil, putL_cons, Option.bind, seqOf, lstOf, dFor, dLc, dLcM, dItSeq, dZip, dZipS, dEnum, dRng1, dRng2, dYes, dwipe, Tgt.slots, Tgt.slotsL,
  atI_0, atI_1, atI_2, atI_3, List.getElem?_cons_zero, List.getElem?_cons_succ, List.set_cons_zero, List.set_cons_succ, decide_eq_true_eq, List.length_cons, List.length_nil, List.cons_append, List.nil_append, List.append_nil, ofString_inj, String.reduceEq, decide_true, decide_false, reduceIte, Bool.false_eq_true, Bool.not_true, Bool.not_false, eqFlat, isFlat, List.any_cons, List.any_nil, List.all_cons, List.all_nil, Bool.or_false, Bool.or_true, Bool.false_or, Bool.true_or, Bool.and_true, Bool.true_and, true_and, and_true, Nat.reduceAdd, Nat.reduceLeDiff, Int.reduceLT, Int.reduceLE, Int.reduceNeg])
theorem Drawn.cases {b over most : Int} {ws ms : List Int} (h : Drawn b over most ws ms) : (∃ w m, ws = [w] ∧ ms = [m]) ∨ ∃ w v m l, ws = [w, v] ∧ ms = [m, l] := by
  have hl := h.l
  rcases h.n with e | e
  · obtain ⟨w, rfl⟩ := List.length_eq_one_iff.mp e
    obtain ⟨m, rfl⟩ := List.length_eq_one_iff.mp (by rw [← hl]; exact e)
    exact .inl ⟨w, m, rfl, rfl⟩
  · have two : ∀ xs : List Int, xs.length = 2 → ∃ a b, xs = [a, b] := fun xs hx => by
      match xs, hx with
      | [a, b], _ => exact ⟨a, b, rfl⟩
    obtain ⟨w, v, rfl⟩ := two ws e
    obtain ⟨m, l, rfl⟩ := two ms (by rw [← hl]; exact e)
    exact .inr ⟨w, v, m, l, rfl, rfl⟩
theorem prod12 {w m : Int} (hw : w.natAbs ≤ 3) (h0 : 1 ≤ m) (h1 : m ≤ 4) : 0 ≤ (w.natAbs : Int) * m ∧ (w.natAbs : Int) * m ≤ 12 := by
  have : (w.natAbs : Int) * m ≤ 3 * 4 := Int.mul_le_mul (by omega) h1 (by omega) (by omega)
  have : 0 ≤ (w.natAbs : Int) * m := Int.mul_nonneg (by omega) (by omega)
  omega
theorem Drawn.top {b over most : Int} {ws ms : List Int} (h : Drawn b over most ws ms) : topR (ws.zip ms) ≤ 24 := by
  rcases h.cases with ⟨w, m, rfl, rfl⟩ | ⟨w, v, m, l, rfl, rfl⟩
  · have := prod12 (h.w w (by simp)) (h.m0 m (by simp)) (h.m1 m (by simp))
    simp only [topR, addT, List.zip_cons_cons, List.zip_nil_right, List.foldl_cons, List.foldl_nil]
    omega
  · have := prod12 (h.w w (by simp)) (h.m0 m (by simp)) (h.m1 m (by simp))
    have := prod12 (h.w v (by simp)) (h.m0 l (by simp)) (h.m1 l (by simp))
    simp only [topR, addT, List.zip_cons_cons, List.zip_nil_right, List.foldl_cons, List.foldl_nil]
    omega
theorem Drawn.len {b over most : Int} {ws ms : List Int} (h : Drawn b over most ws ms) : (sumsR (ws.zip ms)).length ≤ 81 := by
  have one : ∀ m : Int, 1 ≤ m → m ≤ 4 → (irg (-m) (m + 1)).length ≤ 9 := fun m h0 h1 => by rw [irg_len]; omega
  rcases h.cases with ⟨w, m, rfl, rfl⟩ | ⟨w, v, m, l, rfl, rfl⟩
  · have := one m (h.m0 m (by simp)) (h.m1 m (by simp))
    simp only [sumsR, List.zip_cons_cons, List.zip_nil_right, List.foldl_cons, List.foldl_nil, addS_len, List.length_cons, List.length_nil]
    omega
  · have h1 := one m (h.m0 m (by simp)) (h.m1 m (by simp))
    have h2 := one l (h.m0 l (by simp)) (h.m1 l (by simp))
    simp only [sumsR, List.zip_cons_cons, List.zip_nil_right, List.foldl_cons, List.foldl_nil, addS_len, List.length_cons, List.length_nil]
    have := Nat.mul_le_mul h1 h2
    rw [Nat.zero_add, Nat.one_mul]
    omega
theorem Drawn.few {b over most : Int} {ws ms : List Int} (h : Drawn b over most ws ms) : SumFew ws ms :=
  ⟨⟨h.l, fun w hw => by have := h.w w hw; omega, fun m hm => by have := h.m0 m hm; omega, fun m hm => by have := h.m1 m hm; omega, by have := h.len; omega⟩, by have := h.top; omega, fun m hm => by have := h.m1 m hm; omega⟩
/-- the sums there are -/
theorem Drawn.sums {b over most : Int} {ws ms : List Int} (h : Drawn b over most ws ms) : ∃ ys, Srt (sumsR (ws.zip ms)) ys := by
  refine ⟨(irg (-24) 25).filter fun x => decide (x ∈ sumsR (ws.zip ms)), (irg_lt _ _).filter _, fun k => ?_⟩
  rw [List.mem_filter, mem_irg, decide_eq_true_eq]
  refine ⟨fun z => z.2, fun z => ⟨?_, z⟩⟩
  have := sumsR_bound k z
  have := h.top
  omega
structure SumsOf (ws ms ys : List Int) : Prop where
  srt : Srt (sumsR (ws.zip ms)) ys
  ne : ys ≠ []
  len : ys.length < 64
  bd : ∀ x ∈ ys, x.natAbs ≤ 31
theorem Drawn.of {b over most : Int} {ws ms ys : List Int} (h : Drawn b over most ws ms) (hy : Srt (sumsR (ws.zip ms)) ys) : SumsOf ws ms ys := by
  have bd : ∀ x ∈ sumsR (ws.zip ms), -24 ≤ x ∧ x ≤ 24 := fun x hx => by
    have := sumsR_bound x hx
    have := h.top
    omega
  refine ⟨hy, ?_, few_len (T := 24) (by omega) bd (nd_lt hy.lt) fun k hk => (hy.mem k).mp hk, fun x hx => by have := bd x ((hy.mem x).mp hx); omega⟩
  intro z
  have : (0 : Int) ∈ ys := (hy.mem 0).mpr (zero_sumsR fun p hp => by have := h.m0 _ (List.of_mem_zip hp).2; omega)
  rw [z] at this
  simp at this
theorem pow_small {b : Int} {L : Nat} (h0 : 2 ≤ b) (h1 : b ≤ 5) (hL : L ≤ 2) : 1 ≤ b ^ L ∧ b ^ L ≤ 25 := by
  have hb : b = 2 ∨ b = 3 ∨ b = 4 ∨ b = 5 := by omega
  have hl : L = 0 ∨ L = 1 ∨ L = 2 := by omega
  rcases hb with rfl | rfl | rfl | rfl <;> rcases hl with rfl | rfl | rfl <;> decide
theorem Drawn.gm {b over most : Int} {ws ms ys : List Int} (h : Drawn b over most ws ms) (hy : SumsOf ws ms ys) {L : Nat} (hL : L ≤ 2) : GmOk (gmAt b over most ys L) ∧ (gmAt b over most ys L).rests.length * ys.length ≤ 99999 := by
  have hp := pow_small h.b0 h.b1 hL
  have b0 := h.b0; have b1 := h.b1; have o0 := h.o0; have o1 := h.o1; have t0 := h.t0; have t1 := h.t1
  have st : 1 ≤ over * b ^ L ∧ over * b ^ L ≤ 125 := by
    have : over * b ^ L ≤ 5 * 25 := Int.mul_le_mul o1 hp.2 (by omega) (by omega)
    have : 1 * 1 ≤ over * b ^ L := Int.mul_le_mul o0 hp.1 (by omega) (by omega)
    omega
  have sw : 0 ≤ over * b ^ L * most ∧ over * b ^ L * most ≤ 625 := by
    have : over * b ^ L * most ≤ 125 * 5 := Int.mul_le_mul st.2 (by omega) (by omega) (by omega)
    have : 0 ≤ over * b ^ L * most := Int.mul_nonneg (by omega) (by omega)
    omega
  have tp : ((gmAt b over most ys L).top).natAbs ≤ 31 := hy.bd _ (top_mem (g := gmAt b over most ys L) hy.ne)
  have gr : (gmAt b over most ys L).gr ≤ 656 := by
    have := fdiv_bd (x := over * b ^ L * most - (gmAt b over most ys L).top) (k := b - 1) (B := 656) (by omega) (by omega) (by omega) (by omega)
    exact this.2
  refine ⟨⟨b0, by show b ≤ 16; omega, by show 0 ≤ most; omega, by show most ≤ 1000; omega, by show 0 < over * b ^ L; omega, by show over * b ^ L < 2 ^ 40; omega, hy.ne, by show ys.length ≤ 2000; have := hy.len; omega, fun s hs => by have := hy.bd s hs; omega, by omega⟩, ?_⟩
  have hr : (gmAt b over most ys L).rests.length ≤ 1313 := by
    unfold Gm.rests
    rw [irg_len]; omega
  have := Nat.mul_le_mul hr (show ys.length ≤ 63 by have := hy.len; omega)
  omega
theorem Drawn.lags {b over most : Int} {ws ms ys : List Int} (h : Drawn b over most ws ms) (hy : SumsOf ws ms ys) {n : Nat} (hn : n ≤ 3) : LagsOk b over most ys n := fun L hL _ => h.gm hy (by omega)
/-- the least lag, of any many asked -/
theorem least_some {b over most : Int} {ys : List Int} {n : Nat} {d : Int} (h : leastL b over most ys n = some d) : ∃ k : Nat, d = k ∧ k < n ∧ (gmAt b over most ys k).good = true ∧ ∀ j < k, (gmAt b over most ys j).good = false := by
  unfold leastL at h
  cases e : (List.range n).find? fun L => (gmAt b over most ys L).good with
  | none => rw [e] at h; cases h
  | some k =>
    rw [e] at h
    cases h
    have hk := List.mem_range.mp (List.mem_of_find?_eq_some e)
    have hg : (gmAt b over most ys k).good = true := List.find?_some (p := fun L => (gmAt b over most ys L).good) e
    refine ⟨k, rfl, hk, hg, fun j hj => ?_⟩
    cases e2 : (gmAt b over most ys j).good with
    | false => rfl
    | true =>
      exfalso
      obtain ⟨_, as, bs, e3, e4⟩ := List.find?_eq_some_iff_append.mp e
      have hmem : j ∈ as := by
        have lk : as.length = k := by
          have e5 : (List.range n)[as.length]? = some k := by rw [e3]; simp
          have := (List.getElem?_eq_some_iff.mp e5)
          obtain ⟨l1, l2⟩ := this
          rw [List.getElem_range] at l2
          exact l2
        have e5 : (List.range n)[j]? = as[j]? := by rw [e3, List.getElem?_append_left (by omega)]
        rw [List.getElem?_range (by omega)] at e5
        exact List.mem_of_getElem? e5.symm
      have := e4 j hmem
      rw [e2] at this
      cases this
theorem least_at {b over most : Int} {ys : List Int} {k : Nat} (h1 : (gmAt b over most ys k).good = true) (h2 : ∀ j < k, (gmAt b over most ys j).good = false) (n : Nat) : leastL b over most ys n = if k < n then some (k : Int) else none := by
  unfold leastL
  by_cases c : k < n
  · rw [if_pos c, find_range c h2 h1]; rfl
  · rw [if_neg c, find_none fun y hy => h2 y (by have := List.mem_range.mp hy; omega)]; rfl
theorem Drawn.lagsAt {b over most : Int} {ws ms ys : List Int} (h : Drawn b over most ws ms) (hy : SumsOf ws ms ys) {k n : Nat} (hk : k ≤ 2) (hg : (gmAt b over most ys k).good = true) : LagsOk b over most ys n := fun L hL hn => h.gm hy (by
  by_cases c : L ≤ k
  · omega
  · have := hn k (by omega)
    rw [hg] at this
    cases this)
/-! ### the layers of a game -/
theorem ranksN_dis (g : Gm) : ∀ (n : Nat) (found : List (Int × Int × Int)) (H : List Int) (k : Int), (∀ t ∈ found, t.1 ∉ H) → ∀ t ∈ (g.ranksN n found H k).1, t.1 ∉ (g.ranksN n found H k).2
  | 0, found, H, k, h => h
  | n + 1, found, H, k, h => by
    unfold Gm.ranksN
    by_cases e : H.all (g.safe H) = true
    · rw [if_pos e]; exact h
    · rw [if_neg e]
      refine ranksN_dis g n _ _ _ fun t ht => ?_
      rcases List.mem_append.mp ht with ht | ht
      · exact fun z => h t ht (List.mem_filter.mp z).1
      · unfold Gm.gone at ht
        obtain ⟨r, hr, rfl⟩ := List.mem_map.mp ht
        intro z
        have h1 := (List.mem_filter.mp hr).2
        have h2 := (List.mem_filter.mp z).2
        simp at h1 h2
        rw [h1] at h2; cases h2
theorem lay_val (g : Gm) (r : Int) : (r ∈ g.ranks.2 ∧ dVal (layK g) (.inl r) = some .non) ∨ (r ∉ g.ranks.2 ∧ (dVal (layK g) (.inl r) = none ∨ ∃ i, dVal (layK g) (.inl r) = some (.int i))) := by
  have hv : dVal (layK g) (.inl r) = (dVal (g.ranks.1.map layD) (.inl r)).or (dVal (kI (fun _ => .non) g.ranks.2) (.inl r)) := by
    unfold dVal layK
    rw [List.find?_append]
    cases (g.ranks.1.map layD).find? fun kv => decide (kv.1 = (.inl r : Key)) <;> rfl
  rw [hv, kI_val]
  by_cases c : r ∈ g.ranks.2
  · refine .inl ⟨c, ?_⟩
    have : dVal (g.ranks.1.map layD) (.inl r : Key) = none := by
      rw [dVal_none, lay_keys, inl_mem]
      intro z
      obtain ⟨t, ht, e⟩ := List.mem_map.mp z
      exact ranksN_dis g _ [] _ _ (by simp) t ht (by rw [e]; exact c)
    rw [this, if_pos c]; rfl
  · refine .inr ⟨c, ?_⟩
    rw [if_neg c, Option.or_none]
    cases e : dVal (g.ranks.1.map layD) (.inl r : Key) with
    | none => exact .inl rfl
    | some d =>
      refine .inr ?_
      unfold dVal at e
      cases e2 : (g.ranks.1.map layD).find? fun kv => decide (kv.1 = (.inl r : Key)) with
      | none => rw [e2] at e; cases e
      | some kv =>
        rw [e2] at e
        cases e
        obtain ⟨t, _, rfl⟩ := List.mem_map.mp (List.mem_of_find?_eq_some e2)
        exact ⟨t.2.1, rfl⟩
def sp_Ldue : DSp := fun ds S P => ∃ (b over most n : Int) (ws ms ys : List Int), ds = [gameD b over most ws ms, .int n] ∧ Drawn b over most ws ms ∧ SumsOf ws ms ys ∧ -1 ≤ n ∧ n ≤ 2 ∧ ∀ S', Grown S S' → P (optI (leastL b over most ys (n + 1).toNat)) S'
def rd_Ldue : DS :=
  (dSeq (dFor (dRng1 (dCons (dOp dAdd (dVar 1) (dC (.int 1))) dNil)) (.nm 2) (dSeq (dSet 3 (dCB sp_Llayers (dCons (dCB sp_Lrules (dCons (dVar 0) (dCons (dVar 2) dNil))) dNil)))
  (dIfS (dAnd (dTest (dOp (dDIn false) (dC (.int 0)) (dVar 3))) (dTest (dOp dIsN (dOp dDGet (dVar 3) (dC (.int 0))) (dC .non)))) (dRet (dVar 2)) dNext)))
  (dRet (dC .non)))
def goal_Ldue : Prop := ∀ (x0 x1 : D) (S : Store) (P : D → Store → Prop), sp_Ldue [x0, x1] S P → rd_Ldue (dEnd P) [some x0, some x1, none, none] S
theorem len_Ldue : ∀ ds S P, sp_Ldue ds S P → ds.length = 2 := by rintro ds S P ⟨a, b, c, d, e, f, g, rfl, _⟩; rfl
theorem vc_Ldue : goal_Ldue := by
  rintro x0 x1 S P ⟨b, over, most, n, ws, ms, ys, e, hd, hy, n0, n1, q⟩
  cases e
  unfold rd_Ldue
  have b0 := hd.b0; have b1 := hd.b1; have o0 := hd.o0; have o1 := hd.o1
  walk_at "dg5"
  refine ⟨by omega, by omega, fun i ρ S' => ∃ x2 x3, ρ = [some (gameD b over most ws ms), some (.int n), x2, x3] ∧ Grown S S' ∧ ∀ L' < i, (gmAt b over most ys L').good = false, ⟨none, none, rfl, Grown.refl, by simp⟩, ?_, ?_⟩
  · rintro i d ρ S' hi ⟨x2, x3, rfl, hg, hn⟩
    obtain ⟨hlt, rfl⟩ := rng_get hi
    obtain ⟨gok, gl⟩ := hd.gm hy (L := i) (by omega)
    refine ⟨_, rfl, ?_⟩
    walk_at "dg5"
    refine ⟨b, over, most, i, ws, ms, ys, by simp, hd.few, hy.srt, by omega, by omega, by omega, by omega, by omega, hy.ne, fun qa S2 g2 hq => ?_⟩
    refine ⟨qa, _, rfl, dct_dK hq, gok, fun f S3 g3 hf hl => ?_⟩
    walk_at "dg5"
    rw [dct_dK hl]
    simp only
    have grS := (hg.trans g2).trans g3
    rcases lay_val (gmAt b over most ys i) 0 with ⟨c, e⟩ | ⟨c, e | ⟨z, e⟩⟩
    · rw [e]
      walk_at "dg5"
      have z := q S3 grS
      unfold leastL at z
      rw [find_range hlt hn (decide_eq_true c)] at z
      rw [show (0 + (i : Int)) = Int.ofNat i by simp]
      exact z
    · rw [e]
      walk_at "dg5"
      refine ⟨_, _, rfl, grS, fun L' hl => ?_⟩
      by_cases c2 : L' = i
      · rw [c2]; exact decide_eq_false c
      · exact hn L' (by omega)
    · rw [e]
      walk_at "dg5"
      refine ⟨_, _, rfl, grS, fun L' hl => ?_⟩
      by_cases c2 : L' = i
      · rw [c2]; exact decide_eq_false c
      · exact hn L' (by omega)
  · rintro ρ S' ⟨x2, x3, rfl, hg, hn⟩
    rw [rng_len] at hn
    walk_at "dg5"
    have z := q S' hg
    unfold leastL at z
    rw [find_none fun y hy => hn y (List.mem_range.mp hy)] at z
    exact z
end Lb

namespace K34
open PySem PySem.Spec PyProof.Rows L2 DL Lb
variable [CT]
local macro_rules | `(tactic| walk_at "dg5") => `(tactic| try simp only [isiG_non_dict, isiG_bl_dict, isiG_int_dict, isiG_str_dict, isiG_lst_dict, isiG_tup_dict, isiG_non_bs, isiG_bl_bs, isiG_int_bs, isiG_str_bs, isiG_lst_bs, isiG_tup_bs, dCall, dNewD, dDisp, dPrs, dkvsOf, dDGet, dDIn, dDGet1, dDGet2, dDPut, dDPop1, dDPop2, dDUpd, cLenD, cListD, cListDM, cDictD, cDictP, cSortDB, cSortL, dBack, dItKeys, dItItems, dItVals, keyOf_int, keyOf_str, dDc, dDc2, dLstR1, dLstR2, dFld, dSetFld, dFldAdd, dMeth, dMake, dMakeK, dFld2, put_tl, dSeq, dSet, dPar, dOp, dUn, dVar, dC, dCB, dCons, dNil, dTup, dLst, dLstM, dIfS, dIf, dTest, dNot, dAnd, dOr, dAndV, dOrV, dNotV, dRet, dRetN, dEnd, dNext, dAdd, dSub, dMul, dFdiv, dMod, dPow, dNeg, dLt, dLe, dGt, dGe, dEq, dNe, eqB_ii, eqB_bb, eqB_ss, eqB_nn, eqB_ni, eqB_in, eqB_ns, eqB_sn, eqB_is, eqB_si, eqB_nb, eqB_bn, dIx, dIn, dIsN, dNotN, DL.isNon, cAbs, cMax2, cMin2, cInt, cLen, cList, cTuple, dIsB, dNotB, dPar3, ForN, LcN, pinOf, pin2, dEnum2, dAppend, supd_same0, isi_non_int, isi_non_bool, isi_non_str, isi_non_list, isi_non_tuple, isi_non_lt, isi_bl_int, isi_bl_bool, isi_bl_str, isi_bl_list, isi_bl_tuple, isi_bl_lt, isi_int_int, isi_int_bool, isi_int_str, isi_int_list, isi_int_tuple, isi_int_lt, isi_str_int, isi_str_bool, isi_str_str, isi_str_list, isi_str_tuple, isi_str_lt, isi_lst_int, isi_lst_bool, isi_lst_str, isi_lst_list, isi_lst_tuple, isi_lst_lt, isi_tup_int, isi_tup_bool, isi_tup_str, isi_tup_list, isi_tup_tuple, isi_tup_lt, dAug, dIAdd, dIMul, dDrop, dSl, dPart, dNoPart, dRevL, dCallK, dChainR, dAsg, put_nm, put_tp, put_tl, putL_nil, putL_cons, Option.bind, seqOf, lstOf, dFor, dLc, dLcM, dItSeq, dZip, dZipS, dEnum, dRng1, dRng2, dYes, dwipe, Tgt.slots, Tgt.slotsL,
  atI_0, atI_1, atI_2, atI_3, List.getElem?_cons_zero, List.getElem?_cons_succ, List.set_cons_zero, List.set_cons_succ, decide_eq_true_eq, List.length_cons, List.length_nil, List.cons_append, List.nil_append, List.append_nil, ofString_inj, String.reduceEq, decide_true, decide_false, reduceIte, Bool.false_eq_true, Bool.not_true, Bool.not_false, eqFlat, isFlat, List.any_cons, List.any_nil, List.all_cons, List.all_nil, Bool.or_false, Bool.or_true, Bool.false_or, Bool.true_or, Bool.and_true, Bool.true_and, true_and, and_true, Nat.reduceAdd, Nat.reduceLeDiff, Int.reduceLT, Int.reduceLE, Int.reduceNeg])
/-! ### promises -/
def spr_Lsame : Nat → DSp := spr_LsameG
def sp_Lsame : DSp := sp_LsameG
def sp_Lright : DSp := fun ds S P => ∃ (p : Addr) (n : Nat), ds = [.obj p] ∧ BoxAt S p n ∧ n ≤ 100 ∧ ∀ S', P (.bl true) S'
/-- _wall(k): slots 0 k -/
def rd_wall : DS :=
  (dWhile (dTest (dC (.bl true))) dNext)
def goal_wall : Prop := ∀ (x0 : D) (S : Store) (P : D → Store → Prop), sp_wall [x0] S P → rd_wall (dEnd P) [some x0] S

/-- power(base, many): slots 0 base, 1 many, 2 found, 3 turn -/
def rd_power : DS :=
  (dSeq (dSet 2 (dC (.int 1)))
  (dSeq (dFor (dRng1 (dCons (dCB cAbs (dCons (dVar 1) dNil)) dNil)) (.nm 3) (dAug 2 dIMul (dVar 0)))
  (dRet (dIf (dTest (dOp dGe (dVar 1) (dC (.int 0)))) (dTup (dCons (dVar 2) (dCons (dC (.int 1)) dNil))) (dTup (dCons (dC (.int 1)) (dCons (dVar 2) dNil)))))))
def goal_power : Prop := ∀ (x0 x1 : D) (S : Store) (P : D → Store → Prop), sp_power [x0, x1] S P → rd_power (dEnd P) [some x0, some x1, none, none] S

/-- sums_of(weights, mosts): slots 0 weights, 1 mosts, 2 found, 3 weight, 4 most, 5 one, 6 figure -/
def rd_sums_of : DS :=
  (dSeq (dSet 2 (dDisp [((dC (.int 0)), (dC (.bl true)))]))
  (dSeq (dFor (dZipS (dCons (dVar 0) (dCons (dVar 1) dNil))) (.tp [(.nm 3), (.nm 4)]) (dLock (dSet 2 (dDc2 (dItKeys (dVar 2)) (.nm 5) dYes (dRng2 (dCons (dUn dNeg (dVar 4)) (dCons (dOp dAdd (dVar 4) (dC (.int 1))) dNil))) (.nm 6) dYes (dOp dAdd (dVar 5) (dOp dMul (dVar 3) (dVar 6))) (dC (.bl true))))))
  (dRet (dCB cSortDB (dCons (dVar 2) dNil)))))
def goal_sums_of : Prop := ∀ (x0 x1 : D) (S : Store) (P : D → Store → Prop), sp_sums_of [x0, x1] S P → rd_sums_of (dEnd P) [some x0, some x1, none, none, none, none, none] S

/-- Game.__init__(self, base, weights, over, mosts, most, lag): slots 0 self, 1 base, 2 weights, 3 over, 4 mosts, 5 most, 6 lag -/
def rd_Game_init : DS :=
  (dSeq (dSetFld 3 "own_base" (dVar 0) (dVar 1))
  (dSeq (dSetFld 3 "own_most" (dVar 0) (dVar 5))
  (dSeq (dSetFld 3 "own_step" (dVar 0) (dOp dMul (dVar 3) (dOp dIx (dCB sp_power (dCons (dVar 1) (dCons (dVar 6) dNil))) (dC (.int 0)))))
  (dSetFld 3 "own_sums" (dVar 0) (dCB sp_sums_of (dCons (dVar 2) (dCons (dVar 4) dNil)))))))
def goal_Game_init : Prop := ∀ (x0 x1 x2 x3 x4 x5 x6 : D) (S : Store) (P : D → Store → Prop), sp_Game_init [x0, x1, x2, x3, x4, x5, x6] S P → rd_Game_init (dEnd P) [some x0, some x1, some x2, some x3, some x4, some x5, some x6] S

/-- Game.is_lost(self, rest): slots 0 self, 1 rest -/
def rd_Game_is_lost : DS :=
  (dDrop (dCB sp_wall (dCons (dC (.int 0)) dNil)))
def goal_Game_is_lost : Prop := ∀ (x0 x1 : D) (S : Store) (P : D → Store → Prop), sp_Game_is_lost [x0, x1] S P → rd_Game_is_lost (dEnd P) [some x0, some x1] S

/-- Game.greatest(self): slots 0 self -/
def rd_Game_greatest : DS :=
  (dRet (dOp dFdiv (dOp dSub (dOp dMul (dFld 3 "own_step" (dVar 0)) (dFld 3 "own_most" (dVar 0))) (dOp dIx (dFld 3 "own_sums" (dVar 0)) (dUn dNeg (dC (.int 1))))) (dOp dSub (dFld 3 "own_base" (dVar 0)) (dC (.int 1)))))
def goal_Game_greatest : Prop := ∀ (x0 : D) (S : Store) (P : D → Store → Prop), sp_Game_greatest [x0] S P → rd_Game_greatest (dEnd P) [some x0] S

/-- Game.rests(self): slots 0 self -/
def rd_Game_rests : DS :=
  (dRet (dLstR2 (dUn dNeg (dMeth 3 "greatest" sp_Game_greatest (dVar 0) dNil)) (dOp dAdd (dMeth 3 "greatest" sp_Game_greatest (dVar 0) dNil) (dC (.int 1)))))
def goal_Game_rests : Prop := ∀ (x0 : D) (S : Store) (P : D → Store → Prop), sp_Game_rests [x0] S P → rd_Game_rests (dEnd P) [some x0] S

/-- Game.look(self): slots 0 self, 1 many -/
def rd_Game_look : DS :=
  (dSeq (dSet 1 (dCB cMax2 (dCons (dC (.int 0)) (dCons (dOp dAdd (dOp dMul (dC (.int 2)) (dMeth 3 "greatest" sp_Game_greatest (dVar 0) dNil)) (dC (.int 1))) dNil))))
  (dIfS (dTest (dOp dGt (dVar 1) (dC (.int 2000)))) dNever dNext))
def goal_Game_look : Prop := ∀ (x0 : D) (S : Store) (P : D → Store → Prop), sp_Game_look [x0] S P → rd_Game_look (dEnd P) [some x0, none] S

/-- Game.led_to(self, ahead): slots 0 self, 1 ahead, 2 least, 3 most, 4 figure -/
def rd_Game_led_to : DS :=
  (dSeq (dSet 2 (dCB cMax2 (dCons (dUn dNeg (dFld 3 "own_most" (dVar 0))) (dCons (dUn dNeg (dOp dFdiv (dOp dSub (dMeth 3 "greatest" sp_Game_greatest (dVar 0) dNil) (dVar 1)) (dFld 3 "own_step" (dVar 0)))) dNil))))
  (dSeq (dSet 3 (dCB cMin2 (dCons (dFld 3 "own_most" (dVar 0)) (dCons (dOp dFdiv (dOp dAdd (dVar 1) (dMeth 3 "greatest" sp_Game_greatest (dVar 0) dNil)) (dFld 3 "own_step" (dVar 0))) dNil))))
  (dRet (dLc (dRng2 (dCons (dVar 2) (dCons (dOp dAdd (dVar 3) (dC (.int 1))) dNil))) (.nm 4) dYes (dOp dSub (dVar 1) (dOp dMul (dVar 4) (dFld 3 "own_step" (dVar 0))))))))
def goal_Game_led_to : Prop := ∀ (x0 x1 : D) (S : Store) (P : D → Store → Prop), sp_Game_led_to [x0, x1] S P → rd_Game_led_to (dEnd P) [some x0, some x1, none, none, none] S

/-- Game.is_held(self, rest, sum_now, held): slots 0 self, 1 rest, 2 sum_now, 3 held, 4 one -/
def rd_Game_is_held : DS :=
  (dRet (dCB cAny (dCons (dLc (dItSeq (dMeth 3 "led_to" sp_Game_led_to (dVar 0) (dCons (dOp dAdd (dOp dMul (dFld 3 "own_base" (dVar 0)) (dVar 1)) (dVar 2)) dNil))) (.nm 4) dYes (dOp (dDIn false) (dVar 4) (dVar 3))) dNil)))
def goal_Game_is_held : Prop := ∀ (x0 x1 x2 x3 : D) (S : Store) (P : D → Store → Prop), sp_Game_is_held [x0, x1, x2, x3] S P → rd_Game_is_held (dEnd P) [some x0, some x1, some x2, some x3, none] S

/-- Game.first_fatal(self, rest, known, held): slots 0 self, 1 rest, 2 known, 3 held, 4 sum_now, 5 ahead -/
def rd_Game_first_fatal : DS :=
  (dSeq (dFor (dItSeq (dFld 3 "own_sums" (dVar 0))) (.nm 4) (dSeq (dSet 5 (dOp dAdd (dOp dMul (dFld 3 "own_base" (dVar 0)) (dVar 1)) (dVar 4)))
  (dSeq (dIfS (dTest (dOp (dDIn true) (dVar 5) (dVar 2))) (dDPut (dVar 2) (dVar 5) (dMeth 3 "is_held" sp_Game_is_held (dVar 0) (dCons (dVar 1) (dCons (dVar 4) (dCons (dVar 3) dNil))))) dNext)
  (dIfS (dNot (dTest (dOp dDGet (dVar 2) (dVar 5)))) (dRet (dVar 4)) dNext))))
  (dRet (dC .non)))
def goal_Game_first_fatal : Prop := ∀ (x0 x1 x2 x3 : D) (S : Store) (P : D → Store → Prop), sp_Game_first_fatal [x0, x1, x2, x3] S P → rd_Game_first_fatal (dEnd P) [some x0, some x1, some x2, some x3, none, none] S

/-- Game.ranks(self): slots 0 self, 1 found, 2 held, 3 rest, 4 rank, 5 known, 6 fatal, 7 gone -/
def rd_Game_ranks_1 : DS :=
  (dSeq (dSet 5 dNewD)
  (dSeq (dSet 6 (dLockE (dDc (dItKeys (dVar 2)) (.nm 3) dYes (dVar 3) (dMeth 3 "first_fatal" sp_Game_first_fatal (dVar 0) (dCons (dVar 3) (dCons (dVar 5) (dCons (dVar 2) dNil)))))))
  (dSeq (dLock (dSet 7 (dLc (dItKeys (dVar 6)) (.nm 3) (dTest (dOp dNotN (dOp dDGet (dVar 6) (dVar 3)) (dC .non))) (dVar 3))))
  (dSeq (dIfS (dTest (dOp dEq (dVar 7) (dLst dNil))) (dRet (dTup (dCons (dVar 1) (dCons (dVar 2) dNil)))) dNext)
  (dSeq (dDrop (dDUpd (dVar 1) (dDc (dItSeq (dVar 7)) (.nm 3) dYes (dVar 3) (dTup (dCons (dVar 4) (dCons (dOp dDGet (dVar 6) (dVar 3)) dNil))))))
  (dSeq (dSet 2 (dLockE (dDc (dItKeys (dVar 2)) (.nm 3) (dTest (dOp dIsN (dOp dDGet (dVar 6) (dVar 3)) (dC .non))) (dVar 3) (dC (.bl true)))))
  (dAug 4 dIAdd (dC (.int 1)))))))))
def rd_Game_ranks : DS :=
  (dSeq (dAsg (.tp [(.nm 1), (.nm 2)]) (dTup (dCons dNewD (dCons (dDc (dItSeq (dMeth 3 "rests" sp_Game_rests (dVar 0) dNil)) (.nm 3) dYes (dVar 3) (dC (.bl true))) dNil))))
  (dSeq (dSet 4 (dC (.int 0)))
  (dWhile (dTest (dC (.bl true))) rd_Game_ranks_1)))
def goal_Game_ranks : Prop := ∀ (x0 : D) (S : Store) (P : D → Store → Prop), sp_Game_ranks [x0] S P → rd_Game_ranks (dEnd P) [some x0, none, none, none, none, none, none, none] S

/-- least_lag(base, weights, over, mosts, most, top): slots 0 base, 1 weights, 2 over, 3 mosts, 4 most, 5 top, 6 lag, 7 game -/
def rd_least_lag : DS :=
  (dSeq (dFor (dRng1 (dCons (dOp dAdd (dVar 5) (dC (.int 1))) dNil)) (.nm 6) (dSeq (dSet 7 (dMake 3 sp_Game_init (dCons (dVar 0) (dCons (dVar 1) (dCons (dVar 2) (dCons (dVar 3) (dCons (dVar 4) (dCons (dVar 6) dNil))))))))
  (dSeq (dDrop (dMeth 3 "look" sp_Game_look (dVar 7) dNil))
  (dIfS (dTest (dOp (dDIn false) (dC (.int 0)) (dOp dIx (dMeth 3 "ranks" sp_Game_ranks (dVar 7) dNil) (dC (.int 1))))) (dRet (dVar 6)) dNext))))
  (dRet (dC .non)))
def goal_least_lag : Prop := ∀ (x0 x1 x2 x3 x4 x5 : D) (S : Store) (P : D → Store → Prop), sp_least_lag [x0, x1, x2, x3, x4, x5] S P → rd_least_lag (dEnd P) [some x0, some x1, some x2, some x3, some x4, some x5, none, none] S

/-- _law_cell_at(_law_script, _law_k): slots 0 _law_script, 1 _law_k -/
def rd_Lcell_at : DS :=
  (dSeq (dIfS (dTest (dOp dLt (dVar 1) (dCB cLen (dCons (dVar 0) dNil)))) (dRet (dOp dIx (dVar 0) (dVar 1))) dNext)
  (dRet (dC (.int 0))))
def goal_Lcell_at : Prop := ∀ (x0 x1 : D) (S : Store) (P : D → Store → Prop), sp_Lcell_at [x0, x1] S P → rd_Lcell_at (dEnd P) [some x0, some x1] S

/-- _law_box(_law_script, _law_k): slots 0 _law_script, 1 _law_k, 2 _law_core -/
def rd_Lbox : DS :=
  (dSeq (dSet 2 (dCB sp_Lcell_at (dCons (dVar 0) (dCons (dVar 1) dNil))))
  (dRet (dLstM (dCons (dOp dMul (dCB cAbs (dCons (dVar 2) dNil)) (dCB cInt (dCons (dOp dGe (dCB cAbs (dCons (dVar 2) dNil)) (dOp dPow (dC (.int 10)) (dC (.int 18)))) dNil))) (dCons (dOp dAdd (dOp dAdd (dOp dMod (dVar 2) (dC (.int 2305843009213693951))) (dOp dMul (dC (.int 39373)) (dVar 1))) (dC (.int 17))) (dCons (dC (.int 0)) dNil))))))
def goal_Lbox : Prop := ∀ (x0 x1 : D) (S : Store) (P : D → Store → Prop), sp_Lbox [x0, x1] S P → rd_Lbox (dEnd P) [some x0, some x1, none] S

/-- _law_take(_law_box_here, _law_size): slots 0 _law_box_here, 1 _law_size, 2 _law_found, 3 _law_once, 4 _law_twice -/
def rd_Ltake : DS :=
  (dSeq (dIfS (dTest (dOp dGt (dOp dIx (dVar 0) (dC (.int 0))) (dC (.int 0)))) (dSeq (dSet 2 (dOp dMod (dOp dIx (dVar 0) (dC (.int 0))) (dVar 1)))
  (dSeq (dSetIx (dOp dFdiv (dOp dIx (dVar 0) (dC (.int 0))) (dVar 1)) (dVar 0) (dC (.int 0)))
  (dRet (dVar 2)))) dNext)
  (dSeq (dSetIx (dOp dAdd (dOp dIx (dVar 0) (dC (.int 2))) (dC (.int 1))) (dVar 0) (dC (.int 2)))
  (dSeq (dSet 3 (dOp dMod (dOp dMul (dOp dAdd (dOp dIx (dVar 0) (dC (.int 1))) (dOp dMul (dC (.int 48271)) (dOp dIx (dVar 0) (dC (.int 2))))) (dOp dAdd (dC (.int 39373)) (dOp dIx (dVar 0) (dC (.int 2))))) (dC (.int 2147483647))))
  (dSeq (dSet 4 (dOp dMod (dOp dMul (dOp dAdd (dOp dAdd (dVar 3) (dOp dIx (dVar 0) (dC (.int 2)))) (dOp dFdiv (dOp dIx (dVar 0) (dC (.int 1))) (dC (.int 1000003)))) (dOp dAdd (dOp dMod (dVar 3) (dC (.int 40009))) (dC (.int 7)))) (dC (.int 2147483629))))
  (dRet (dOp dMod (dOp dFdiv (dOp dMod (dOp dAdd (dOp dMul (dVar 4) (dC (.int 48271))) (dVar 3)) (dC (.int 2147483587))) (dC (.int 64))) (dVar 1)))))))
def goal_Ltake : Prop := ∀ (x0 x1 : D) (S : Store) (P : D → Store → Prop), sp_Ltake [x0, x1] S P → rd_Ltake (dEnd P) [some x0, some x1, none, none, none] S

/-- _law_of(_law_box_here, _law_some): slots 0 _law_box_here, 1 _law_some -/
def rd_Lof : DS :=
  (dRet (dOp dIx (dVar 1) (dCB sp_Ltake (dCons (dVar 0) (dCons (dCB cLen (dCons (dVar 1) dNil)) dNil)))))
def goal_Lof : Prop := ∀ (x0 x1 : D) (S : Store) (P : D → Store → Prop), sp_Lof [x0, x1] S P → rd_Lof (dEnd P) [some x0, some x1] S

/-- _law_same(_law_found, _law_due_here): slots 0 _law_found, 1 _law_due_here, 2 _law_key, 3 _law_one, 4 _law_two -/
def rd_Lsame (sp_Lsame : DSp) : DS :=
  (dSeq (dIfS (dTest (dCB cIsi (dCons (dVar 1) (dCons (dC (.ty "dict")) dNil)))) dNever dNext)
  (dSeq (dIfS (dTest (dCB cIsi (dCons (dVar 1) (dCons (dTup (dCons (dC (.ty "list")) (dCons (dC (.ty "tuple")) dNil))) dNil)))) (dSeq (dIfS (dOr (dTest (dOp dNe (dCB cIsi (dCons (dVar 0) (dCons (dC (.ty "list")) dNil))) (dCB cIsi (dCons (dVar 1) (dCons (dC (.ty "list")) dNil))))) (dTest (dOp dNe (dCB cIsi (dCons (dVar 0) (dCons (dC (.ty "tuple")) dNil))) (dCB cIsi (dCons (dVar 1) (dCons (dC (.ty "tuple")) dNil)))))) (dRet (dC (.bl false))) dNext)
  (dRet (dAndV (dOp dEq (dCB cLen (dCons (dVar 0) dNil)) (dCB cLen (dCons (dVar 1) dNil))) (dCB cAll (dCons (dLc (dZip (dCons (dVar 0) (dCons (dVar 1) dNil))) (.tp [(.nm 3), (.nm 4)]) dYes (dCB sp_Lsame (dCons (dVar 3) (dCons (dVar 4) dNil)))) dNil))))) dNext)
  (dSeq (dIfS (dOr (dTest (dOp dIsN (dVar 1) (dC .non))) (dTest (dCB cIsi (dCons (dVar 1) (dCons (dTup (dCons (dC (.ty "bool")) (dCons (dC (.ty "str")) dNil))) dNil))))) (dRet (dAndV (dOp dEq (dVar 0) (dVar 1)) (dAndV (dOp dEq (dCB cIsi (dCons (dVar 0) (dCons (dC (.ty "bool")) dNil))) (dCB cIsi (dCons (dVar 1) (dCons (dC (.ty "bool")) dNil)))) (dOp dEq (dOp dIsN (dVar 0) (dC .non)) (dOp dIsN (dVar 1) (dC .non)))))) dNext)
  (dRet (dAndV (dCB cIsi (dCons (dVar 0) (dCons (dC (.ty "int")) dNil))) (dAndV (dNotV (dCB cIsi (dCons (dVar 0) (dCons (dC (.ty "bool")) dNil)))) (dOp dEq (dVar 0) (dVar 1))))))))
def goal_Lsame : Prop := ∀ (n : Nat) (x0 x1 : D) (S : Store) (P : D → Store → Prop), spr_Lsame (n + 1) [x0, x1] S P → rd_Lsame (spr_Lsame n) (dEnd P) [some x0, some x1, none, none, none] S

/-- _law_sums(_law_shares, _law_wides): slots 0 _law_shares, 1 _law_wides, 2 _law_found, 3 _law_share, 4 _law_wide, 5 _law_more, 6 _law_one, 7 _law_figure -/
def rd_Lsums : DS :=
  (dSeq (dSet 2 (dLst (dCons (dC (.int 0)) dNil)))
  (dSeq (dFor (dZip (dCons (dVar 0) (dCons (dVar 1) dNil))) (.tp [(.nm 3), (.nm 4)]) (dSeq (dSet 5 (dLst dNil))
  (dSeq (dFor (dItSeq (dVar 2)) (.nm 6) (dSet 5 (dOp dAdd (dVar 5) (dLc (dRng2 (dCons (dOp dSub (dC (.int 0)) (dVar 4)) (dCons (dOp dAdd (dVar 4) (dC (.int 1))) dNil))) (.nm 7) dYes (dOp dAdd (dVar 6) (dOp dMul (dVar 3) (dVar 7)))))))
  (dSet 2 (dSortSet (dVar 5))))))
  (dRet (dVar 2))))
def goal_Lsums : Prop := ∀ (x0 x1 : D) (S : Store) (P : D → Store → Prop), sp_Lsums [x0, x1] S P → rd_Lsums (dEnd P) [some x0, some x1, none, none, none, none, none, none] S

/-- _law_drawn(_law_box_here): slots 0 _law_box_here, 1 _law_root, 2 _law_least, 3 _law_shares, 4 _law_turn, 5 _law_wides, 6 _law_share -/
def rd_Ldrawn : DS :=
  (dSeq (dSet 1 (dCB sp_Lof (dCons (dVar 0) (dCons (dLst (dCons (dC (.int 2)) (dCons (dC (.int 2)) (dCons (dC (.int 3)) (dCons (dC (.int 3)) (dCons (dC (.int 4)) (dCons (dC (.int 5)) dNil))))))) dNil))))
  (dSeq (dSet 2 (dOp dFdiv (dOp dAdd (dVar 1) (dC (.int 1))) (dC (.int 2))))
  (dSeq (dSet 3 (dCB cTuple (dCons (dLc (dRng1 (dCons (dOp dAdd (dC (.int 1)) (dCB sp_Ltake (dCons (dVar 0) (dCons (dC (.int 2)) dNil)))) dNil)) (.nm 4) dYes (dCB sp_Lof (dCons (dVar 0) (dCons (dLst (dCons (dC (.int 1)) (dCons (dC (.int 1)) (dCons (dUn dNeg (dC (.int 1))) (dCons (dC (.int 2)) (dCons (dC (.int 3)) dNil)))))) dNil)))) dNil)))
  (dSeq (dSet 5 (dCB cTuple (dCons (dLc (dItSeq (dVar 3)) (.nm 6) dYes (dOp dAdd (dVar 2) (dCB sp_Ltake (dCons (dVar 0) (dCons (dC (.int 2)) dNil))))) dNil)))
  (dRet (dTup (dCons (dVar 1) (dCons (dVar 3) (dCons (dOp dAdd (dC (.int 1)) (dCB sp_Ltake (dCons (dVar 0) (dCons (dOp dIx (dLst (dCons (dC (.int 1)) (dCons (dC (.int 3)) (dCons (dC (.int 5)) dNil)))) (dCB sp_Ltake (dCons (dVar 0) (dCons (dC (.int 3)) dNil)))) dNil)))) (dCons (dVar 5) (dCons (dOp dAdd (dVar 2) (dCB sp_Ltake (dCons (dVar 0) (dCons (dC (.int 3)) dNil)))) dNil)))))))))))
def goal_Ldrawn : Prop := ∀ (x0 : D) (S : Store) (P : D → Store → Prop), sp_Ldrawn [x0] S P → rd_Ldrawn (dEnd P) [some x0, none, none, none, none, none, none] S

/-- _law_rules(_law_game, _law_late): slots 0 _law_game, 1 _law_late, 2 _law_root, 3 _law_shares, 4 _law_by, 5 _law_wides, 6 _law_wide, 7 _law_sums_here, 8 _law_step, 9 _law_turn -/
def rd_Lrules : DS :=
  (dSeq (dAsg (.tp [(.nm 2), (.nm 3), (.nm 4), (.nm 5), (.nm 6)]) (dVar 0))
  (dSeq (dPar 7 8 (dCons (dCB sp_Lsums (dCons (dVar 3) (dCons (dVar 5) dNil))) (dCons (dVar 4) dNil)))
  (dSeq (dFor (dRng1 (dCons (dVar 1) dNil)) (.nm 9) (dSet 8 (dOp dMul (dVar 8) (dVar 2))))
  (dRet (dDisp [((dC (.str "root")), (dVar 2)), ((dC (.str "step")), (dVar 8)), ((dC (.str "sums")), (dVar 7)), ((dC (.str "all")), (dOp dIx (dVar 7) (dUn dNeg (dC (.int 1))))), ((dC (.str "wide")), (dVar 6))])))))
def goal_Lrules : Prop := ∀ (x0 x1 : D) (S : Store) (P : D → Store → Prop), sp_Lrules [x0, x1] S P → rd_Lrules (dEnd P) [some x0, some x1, none, none, none, none, none, none, none, none] S

/-- _law_is_lost(_law_g, _law_rest): slots 0 _law_g, 1 _law_rest -/
def rd_Lis_lost : DS :=
  (dRet (dOp dGt (dOp dAdd (dOp dMul (dOp dSub (dOp dDGet (dVar 0) (dC (.str "root"))) (dC (.int 1))) (dCB cAbs (dCons (dVar 1) dNil))) (dOp dDGet (dVar 0) (dC (.str "all")))) (dOp dMul (dOp dDGet (dVar 0) (dC (.str "step"))) (dOp dDGet (dVar 0) (dC (.str "wide"))))))
def goal_Lis_lost : Prop := ∀ (x0 x1 : D) (S : Store) (P : D → Store → Prop), sp_Lis_lost [x0, x1] S P → rd_Lis_lost (dEnd P) [some x0, some x1] S

/-- _law_rests(_law_g): slots 0 _law_g, 1 _law_found, 2 _law_rest, 3 _law_one -/
def rd_Lrests : DS :=
  (dSeq (dSet 1 (dLstM dNil))
  (dSeq (dFor (dRng1 (dCons (dC (.int 2000)) dNil)) (.nm 2) (dSeq (dIfS (dTest (dCB sp_Lis_lost (dCons (dVar 0) (dCons (dVar 2) dNil)))) (dRet (dOp dAdd (dLc (dItSeq (dBack (dVar 1))) (.nm 3) dYes (dOp dSub (dC (.int 0)) (dVar 3))) (dVar 1))) dNext)
  (dDrop (dAppend (dVar 1) (dVar 2)))))
  (dRet (dOp dAdd (dLc (dItSeq (dBack (dVar 1))) (.nm 3) dYes (dOp dSub (dC (.int 0)) (dVar 3))) (dVar 1)))))
def goal_Lrests : Prop := ∀ (x0 : D) (S : Store) (P : D → Store → Prop), sp_Lrests [x0] S P → rd_Lrests (dEnd P) [some x0, none, none, none] S

/-- _law_leads(_law_g, _law_rest, _law_more): slots 0 _law_g, 1 _law_rest, 2 _law_more, 3 _law_figure -/
def rd_Lleads : DS :=
  (dRet (dLc (dRng2 (dCons (dOp dSub (dC (.int 0)) (dOp dDGet (dVar 0) (dC (.str "wide")))) (dCons (dOp dAdd (dOp dDGet (dVar 0) (dC (.str "wide"))) (dC (.int 1))) dNil))) (.nm 3) dYes (dOp dSub (dOp dAdd (dOp dMul (dOp dDGet (dVar 0) (dC (.str "root"))) (dVar 1)) (dVar 2)) (dOp dMul (dVar 3) (dOp dDGet (dVar 0) (dC (.str "step")))))))
def goal_Lleads : Prop := ∀ (x0 x1 x2 : D) (S : Store) (P : D → Store → Prop), sp_Lleads [x0, x1, x2] S P → rd_Lleads (dEnd P) [some x0, some x1, some x2, none] S

/-- _law_is_safe(_law_g, _law_rest, _law_some): slots 0 _law_g, 1 _law_rest, 2 _law_some, 3 _law_more, 4 _law_one -/
def rd_Lis_safe : DS :=
  (dSeq (dFor (dItSeq (dOp dDGet (dVar 0) (dC (.str "sums")))) (.nm 3) (dIfS (dNot (dTest (dCB cAny (dCons (dLc (dItSeq (dCB sp_Lleads (dCons (dVar 0) (dCons (dVar 1) (dCons (dVar 3) dNil))))) (.nm 4) dYes (dOp (dDIn false) (dVar 4) (dVar 2))) dNil)))) (dRet (dC (.bl false))) dNext))
  (dRet (dC (.bl true))))
def goal_Lis_safe : Prop := ∀ (x0 x1 x2 : D) (S : Store) (P : D → Store → Prop), sp_Lis_safe [x0, x1, x2] S P → rd_Lis_safe (dEnd P) [some x0, some x1, some x2, none, none] S

/-- _law_layers(_law_g): slots 0 _law_g, 1 _law_found, 2 _law_some, 3 _law_count, 4 _law_rest, 5 _law_turn, 6 _law_gone -/
def rd_Llayers_1 : DS :=
  (dSeq (dLock (dSet 6 (dLc (dItKeys (dVar 2)) (.nm 4) (dNot (dTest (dCB sp_Lis_safe (dCons (dVar 0) (dCons (dVar 4) (dCons (dVar 2) dNil)))))) (dVar 4))))
  (dSeq (dFor (dItSeq (dVar 6)) (.nm 4) (dSeq (dDPut (dVar 1) (dVar 4) (dVar 3))
  (dDrop (dDPop1 (dVar 2) (dVar 4)))))
  (dSeq (dSet 3 (dOp dAdd (dVar 3) (dC (.int 1))))
  (dIfS (dTest (dOp dEq (dVar 6) (dLst dNil))) (dSeq (dDrop (dDUpd (dVar 1) (dCB cDictP (dCons (dLockE (dLc (dItKeys (dVar 2)) (.nm 4) dYes (dTup (dCons (dVar 4) (dCons (dC .non) dNil))))) dNil))))
  (dRet (dVar 1))) dNext))))
def rd_Llayers : DS :=
  (dSeq (dAsg (.tp [(.nm 1), (.nm 2), (.nm 3)]) (dTup (dCons dNewD (dCons (dCB cDictP (dCons (dLc (dItSeq (dCB sp_Lrests (dCons (dVar 0) dNil))) (.nm 4) dYes (dTup (dCons (dVar 4) (dCons (dC (.bl true)) dNil)))) dNil)) (dCons (dC (.int 0)) dNil)))))
  (dSeq (dFor (dRng1 (dCons (dOp dAdd (dCB cLenD (dCons (dVar 2) dNil)) (dC (.int 1))) dNil)) (.nm 5) rd_Llayers_1)
  (dRet (dVar 1))))
def goal_Llayers : Prop := ∀ (x0 : D) (S : Store) (P : D → Store → Prop), sp_Llayers [x0] S P → rd_Llayers (dEnd P) [some x0, none, none, none, none, none, none] S

/-- _law_due(_law_game, _law_highest): slots 0 _law_game, 1 _law_highest, 2 _law_late, 3 _law_layers_here -/
def rd_Ldue : DS :=
  (dSeq (dFor (dRng1 (dCons (dOp dAdd (dVar 1) (dC (.int 1))) dNil)) (.nm 2) (dSeq (dSet 3 (dCB sp_Llayers (dCons (dCB sp_Lrules (dCons (dVar 0) (dCons (dVar 2) dNil))) dNil)))
  (dIfS (dAnd (dTest (dOp (dDIn false) (dC (.int 0)) (dVar 3))) (dTest (dOp dIsN (dOp dDGet (dVar 3) (dC (.int 0))) (dC .non)))) (dRet (dVar 2)) dNext)))
  (dRet (dC .non)))
def goal_Ldue : Prop := ∀ (x0 x1 : D) (S : Store) (P : D → Store → Prop), sp_Ldue [x0, x1] S P → rd_Ldue (dEnd P) [some x0, some x1, none, none] S

/-- _law_right(_law_box_here): slots 0 _law_box_here, 1 _law_game, 2 _law_highest, 3 _law_root, 4 _law_shares, 5 _law_by, 6 _law_wides, 7 _law_wide, 8 _law_due_here, 9 _law_found, 10 _law_some, 11 _law_turn -/
def rd_Lright : DS :=
  (dSeq (dPar 1 2 (dCons (dCB sp_Ldrawn (dCons (dVar 0) dNil)) (dCons (dCB sp_Ltake (dCons (dVar 0) (dCons (dC (.int 3)) dNil))) dNil)))
  (dSeq (dAsg (.tp [(.nm 3), (.nm 4), (.nm 5), (.nm 6), (.nm 7)]) (dVar 1))
  (dSeq (dSet 8 (dCB sp_Ldue (dCons (dVar 1) (dCons (dVar 2) dNil))))
  (dSeq (dSet 9 (dLstM (dCons (dCallK sp_least_lag 5 1 [0, 1, 2, 3, 4, 5] (dCons (dVar 3) (dCons (dVar 4) (dCons (dVar 5) (dCons (dVar 6) (dCons (dVar 7) dNil))))) (dCons (dVar 2) dNil)) dNil)))
  (dSeq (dDrop (dAppend (dVar 9) (dCallK sp_least_lag 0 6 [4, 3, 2, 1, 0, 5] dNil (dCons (dVar 7) (dCons (dVar 6) (dCons (dVar 5) (dCons (dVar 4) (dCons (dVar 3) (dCons (dVar 2) dNil)))))))))
  (dFrz 9 (dSeq (dIfS (dNot (dTest (dCB sp_Lsame (dCons (dVar 9) (dCons (dLst (dCons (dVar 8) (dCons (dVar 8) dNil))) dNil))))) (dRet (dC (.bl false))) dNext)
  (dSeq (dIfS (dTest (dOp dIsN (dVar 8) (dC .non))) (dRet (dC (.bl true))) dNext)
  (dSeq (dSet 10 (dLc (dRng1 (dCons (dOp dAdd (dVar 2) (dC (.int 1))) dNil)) (.nm 11) dYes (dCallK sp_least_lag 5 1 [0, 1, 2, 3, 4, 5] (dCons (dVar 3) (dCons (dVar 4) (dCons (dVar 5) (dCons (dVar 6) (dCons (dVar 7) dNil))))) (dCons (dVar 11) dNil))))
  (dSeq (dIfS (dOr (dNot (dTest (dCB sp_Lsame (dCons (dVar 10) (dCons (dOp dAdd (dOp dMul (dLst (dCons (dC .non) dNil)) (dVar 8)) (dOp dMul (dLst (dCons (dVar 8) dNil)) (dOp dSub (dOp dAdd (dVar 2) (dC (.int 1))) (dVar 8)))) dNil))))) (dTest (dOp dNe (dC (.int 6)) (dC (.int 6))))) (dRet (dC (.bl false))) dNext)
  (dRet (dCB sp_Lsame (dCons (dCall sp_least_lag [.int 6] (dCons (dVar 3) (dCons (dVar 4) (dCons (dVar 5) (dCons (dVar 6) (dCons (dVar 7) dNil)))))) (dCons (dVar 8) dNil))))))))))))))
def goal_Lright : Prop := ∀ (x0 : D) (S : Store) (P : D → Store → Prop), sp_Lright [x0] S P → rd_Lright (dEnd P) [some x0, none, none, none, none, none, none, none, none, none, none, none] S

/-- law(_law_script): slots 0 _law_script, 1 _law_k -/
def rd_law : DS :=
  (dRet (dCB cAll (dCons (dLc (dRng1 (dCons (dCB cMax2 (dCons (dC (.int 1)) (dCons (dCB cMin2 (dCons (dC (.int 4)) (dCons (dCB cLen (dCons (dVar 0) dNil)) dNil))) dNil))) dNil)) (.nm 1) dYes (dCB sp_Lright (dCons (dCB sp_Lbox (dCons (dVar 0) (dCons (dVar 1) dNil))) dNil))) dNil)))
def goal_law : Prop := ∀ (x0 : D) (S : Store) (P : D → Store → Prop), sp_law [x0] S P → rd_law (dEnd P) [some x0, none] S

theorem z_Lsame : ∀ ds S P, spr_Lsame 0 ds S P → False := z_LsameG
theorem len_Lsame : ∀ n ds S P, spr_Lsame n ds S P → ds.length = 2 := len_LsameG
theorem vc_Lsame : goal_Lsame := vc_LsameG
theorem len_Lright : ∀ ds S P, sp_Lright ds S P → ds.length = 1 := by
  rintro ds S P ⟨a, b, rfl, _⟩; rfl
theorem len_law : ∀ ds S P, sp_law ds S P → ds.length = 1 := law_len
theorem plain_opt {n : Nat} (o : Option Int) : Plain n (optI o) := by
  cases o with
  | none => exact .non
  | some i => exact .int
theorem plain_two {n : Nat} {x y : D} (hx : Plain n x) (hy : Plain n y) : Plain (n + 1) (.lst [x, y]) := .lst (by simp) (by
  simp only [List.forall_mem_cons]
  exact ⟨hx, hy, by simp⟩)
theorem least_list {t : Int} {k : Nat} (h : t < 3) (hk : (k : Int) ≤ t) : (List.range (t + 1).toNat).map (fun j => optI (if k < j + 1 then some (k : Int) else none)) = (List.replicate ((k : Int)).toNat [D.non]).flatten ++ (List.replicate (t + 1 - (k : Int)).toNat [D.int k]).flatten := by
  have h1 : k = 0 ∨ k = 1 ∨ k = 2 := by omega
  have h2 : t = 0 ∨ t = 1 ∨ t = 2 := by omega
  rcases h1 with rfl | rfl | rfl <;> rcases h2 with rfl | rfl | rfl <;> first | rfl | (exfalso; omega)
theorem vc_Lright : goal_Lright := by
  rintro x0 S P ⟨p, n, e, hb, hn, h⟩
  cases e
  unfold rd_Lright
  walk_at "dg5"
  refine ⟨p, n, rfl, hb, by omega, fun b over most ws ms S1 hd hb1 => ?_⟩
  refine ⟨p, 3, n + 20, rfl, by omega, by omega, hb1, by omega, fun t S2 t0 t1 d2 => ?_⟩
  unfold gameD
  walk_at "dg5"
  obtain ⟨ys, hy⟩ := hd.sums
  have hs := hd.of hy
  have b0 := hd.b0; have b1 := hd.b1; have o0 := hd.o0; have o1 := hd.o1
  have call : ∀ (m : Int) (S3 : Store) (P' : D → Store → Prop), -1 ≤ m → m ≤ 2 → (∀ S4, Grown S3 S4 → P' (optI (leastL b over most ys (m + 1).toNat)) S4) → sp_least_lag [.int b, .tup (ws.map .int), .int over, .tup (ms.map .int), .int most, .int m] S3 P' :=
    fun m S3 P' m0 m1 q => ⟨b, over, most, m, ws, ms, ys, rfl, hd.few.ok, hy, by omega, by omega, by omega, by omega, m0, by omega, hd.lags hs (by omega), q⟩
  refine ⟨b, over, most, t, ws, ms, ys, rfl, hd, hs, by omega, by omega, fun S3 g3 => ?_⟩
  refine call t S3 _ (by omega) (by omega) fun S4 g4 => ?_
  walk_at "dg5"
  intro a ha
  refine ⟨_, rfl, call t _ _ (by omega) (by omega) fun S5 g5 => ⟨_, g5 _ _ supd_at, by simp, ?_⟩⟩
  unfold dFrz
  refine ⟨a, _, rfl, supd_at, ?_⟩
  generalize e : leastL b over most ys (t + 1).toNat = o
  walk_at "dg5"
  refine same_okG (x := .lst [optI o, optI o]) (plain_two (plain_opt o) (plain_opt o)) ?_
  walk_at "dg5"
  cases o with
  | none =>
    walk_at "dg5"
    exact h _
  | some d =>
    obtain ⟨k, rfl, kn, kg, kb⟩ := least_some e
    have lat := least_at kg kb
    simp only [optI]
    walk_at "dg5"
    refine ⟨by omega, by omega, by rw [rng_len]; omega, fun i acc S' => acc = (List.range i).map fun j => optI (if k < j + 1 then some (k : Int) else none), rfl, ?_, ?_⟩
    · rintro i d acc S' hd' rfl
      obtain ⟨hi, rfl⟩ := rng_get hd'
      refine ⟨_, rfl, ?_⟩
      walk_at "dg5"
      refine call _ _ _ (by omega) (by omega) fun S6 g6 => ?_
      rw [lat, List.range_succ, List.map_append, show (0 + (i : Int) + 1).toNat = i + 1 by omega]
      rfl
    · rintro acc S' rfl
      rw [rng_len]
      have el : (List.range (t + 1).toNat).map (fun j => optI (if k < j + 1 then some (k : Int) else none)) = (List.replicate ((k : Int)).toNat [D.non]).flatten ++ (List.replicate (t + 1 - (k : Int)).toNat [D.int k]).flatten := least_list (by omega) (by omega)
      rw [el]
      have el2 := congrArg List.length el
      rw [List.length_map, List.length_range, List.length_append] at el2
      refine ⟨by omega, by omega, by omega, by omega, by omega, by omega, by omega, same_okG (.lst (by rw [List.length_append]; omega) fun y hy => ?_) ?_⟩
      · rw [← el] at hy
        obtain ⟨j, _, rfl⟩ := List.mem_map.mp hy
        exact plain_opt _
      · walk_at "dg5"
        refine ⟨b, over, most, 6, ws, ms, ys, rfl, hd.few.ok, hy, by omega, by omega, by omega, by omega, by omega, by omega, hd.lagsAt hs (by omega) kg, fun S6 g6 => ?_⟩
        rw [lat, if_pos (by omega)]
        exact same_okG .int (h _)
theorem vc_law : goal_law := by
  rintro x0 S P ⟨ns, e, hn, h⟩
  cases e
  unfold rd_law
  walk_at "dg5"
  rw [List.length_map]
  generalize hc : (if (if (ns.length : Int) < 4 then (ns.length : Int) else 4) > 1 then (if (ns.length : Int) < 4 then (ns.length : Int) else 4) else 1) = c
  have e1 : 1 ≤ c ∧ c ≤ 4 := by
    rw [← hc]
    split <;> split <;> omega
  refine ⟨by omega, by omega, by rw [rng_len]; omega, fun i acc S' => acc = List.replicate i (.bl true), rfl, ?_, ?_⟩
  · rintro i d acc S2 hd rfl
    obtain ⟨hi, rfl⟩ := rng_get hd
    refine ⟨_, rfl, ?_⟩
    walk_at "dg5"
    refine ⟨ns, _, rfl, by omega, by omega, fun p S3 hp hd3 => ?_⟩
    walk_at "dg5"
    refine ⟨p, 0, rfl, hd3.box, by decide, fun S4 => ?_⟩
    walk_at "dg5"
    rw [List.replicate_succ']
  · rintro acc S2 rfl
    walk_at "dg5"
    have hb : ∀ m : Nat, dBools (List.replicate m (.bl true)) = some (List.replicate m true) := fun m => by
      have := dBools_map (List.replicate m true)
      rwa [List.map_replicate] at this
    unfold cAll
    simp only [lstOf, Option.bind, hb]
    have ht : (List.replicate (rng 0 c.toNat).length true).all id = true := by simp
    rw [ht]
    exact h _
end K34

namespace K34
open PySem PySem.Spec PyProof.Rows L2 DL Lb
def topS (i : Nat) : Stmt := PySem.Challenge.pw_firstfigures_k34_least_lags.main.body.getD i (.Pass ⟨0, 0, 0, 0⟩)
abbrev s_wall : Stmt := topS 0
theorem sc_wall : FnScope ["k"] ["k"] (defScope s_wall) := ⟨rfl, rfl, rfl, by decide +kernel, rfl, by decide +kernel, by decide +kernel⟩
abbrev s_power : Stmt := topS 4
theorem sc_power : FnScope ["base", "many", "found", "turn"] ["base", "many"] (defScope s_power) := ⟨rfl, rfl, rfl, by decide +kernel, rfl, by decide +kernel, by decide +kernel⟩
abbrev s_sums_of : Stmt := topS 8
theorem sc_sums_of : FnScope ["weights", "mosts", "found", "weight", "most", "one", "figure"] ["weights", "mosts"] (defScope s_sums_of) := ⟨rfl, rfl, rfl, by decide +kernel, rfl, by decide +kernel, by decide +kernel⟩
abbrev s_Game_init : Stmt := inClass (topS 9) 0
theorem sc_Game_init : FnScope ["self", "base", "weights", "over", "mosts", "most", "lag"] ["self", "base", "weights", "over", "mosts", "most", "lag"] (defScope s_Game_init) := ⟨rfl, rfl, rfl, by decide +kernel, rfl, by decide +kernel, by decide +kernel⟩
abbrev s_Game_is_lost : Stmt := inClass (topS 9) 1
theorem sc_Game_is_lost : FnScope ["self", "rest"] ["self", "rest"] (defScope s_Game_is_lost) := ⟨rfl, rfl, rfl, by decide +kernel, rfl, by decide +kernel, by decide +kernel⟩
abbrev s_Game_greatest : Stmt := inClass (topS 9) 2
theorem sc_Game_greatest : FnScope ["self"] ["self"] (defScope s_Game_greatest) := ⟨rfl, rfl, rfl, by decide +kernel, rfl, by decide +kernel, by decide +kernel⟩
abbrev s_Game_rests : Stmt := inClass (topS 9) 3
theorem sc_Game_rests : FnScope ["self"] ["self"] (defScope s_Game_rests) := ⟨rfl, rfl, rfl, by decide +kernel, rfl, by decide +kernel, by decide +kernel⟩
abbrev s_Game_look : Stmt := inClass (topS 9) 4
theorem sc_Game_look : FnScope ["self", "many"] ["self"] (defScope s_Game_look) := ⟨rfl, rfl, rfl, by decide +kernel, rfl, by decide +kernel, by decide +kernel⟩
abbrev s_Game_led_to : Stmt := inClass (topS 9) 5
theorem sc_Game_led_to : FnScope ["self", "ahead", "least", "most", "figure"] ["self", "ahead"] (defScope s_Game_led_to) := ⟨rfl, rfl, rfl, by decide +kernel, rfl, by decide +kernel, by decide +kernel⟩
abbrev s_Game_is_held : Stmt := inClass (topS 9) 6
theorem sc_Game_is_held : FnScope ["self", "rest", "sum_now", "held", "one"] ["self", "rest", "sum_now", "held"] (defScope s_Game_is_held) := ⟨rfl, rfl, rfl, by decide +kernel, rfl, by decide +kernel, by decide +kernel⟩
abbrev s_Game_first_fatal : Stmt := inClass (topS 9) 7
theorem sc_Game_first_fatal : FnScope ["self", "rest", "known", "held", "sum_now", "ahead"] ["self", "rest", "known", "held"] (defScope s_Game_first_fatal) := ⟨rfl, rfl, rfl, by decide +kernel, rfl, by decide +kernel, by decide +kernel⟩
abbrev s_Game_ranks : Stmt := inClass (topS 9) 8
theorem sc_Game_ranks : FnScope ["self", "found", "held", "rest", "rank", "known", "fatal", "gone"] ["self"] (defScope s_Game_ranks) := ⟨rfl, rfl, rfl, by decide +kernel, rfl, by decide +kernel, by decide +kernel⟩
abbrev s_least_lag : Stmt := topS 10
theorem sc_least_lag : FnScope ["base", "weights", "over", "mosts", "most", "top", "lag", "game"] ["base", "weights", "over", "mosts", "most", "top"] (defScope s_least_lag) := ⟨rfl, rfl, rfl, by decide +kernel, rfl, by decide +kernel, by decide +kernel⟩
abbrev s_Lcell_at : Stmt := topS 12
theorem sc_Lcell_at : FnScope ["_law_script", "_law_k"] ["_law_script", "_law_k"] (defScope s_Lcell_at) := ⟨rfl, rfl, rfl, by decide +kernel, rfl, by decide +kernel, by decide +kernel⟩
abbrev s_Lbox : Stmt := topS 13
theorem sc_Lbox : FnScope ["_law_script", "_law_k", "_law_core"] ["_law_script", "_law_k"] (defScope s_Lbox) := ⟨rfl, rfl, rfl, by decide +kernel, rfl, by decide +kernel, by decide +kernel⟩
abbrev s_Ltake : Stmt := topS 14
theorem sc_Ltake : FnScope ["_law_box_here", "_law_size", "_law_found", "_law_once", "_law_twice"] ["_law_box_here", "_law_size"] (defScope s_Ltake) := ⟨rfl, rfl, rfl, by decide +kernel, rfl, by decide +kernel, by decide +kernel⟩
abbrev s_Lof : Stmt := topS 15
theorem sc_Lof : FnScope ["_law_box_here", "_law_some"] ["_law_box_here", "_law_some"] (defScope s_Lof) := ⟨rfl, rfl, rfl, by decide +kernel, rfl, by decide +kernel, by decide +kernel⟩
abbrev s_Lsame : Stmt := topS 16
theorem sc_Lsame : FnScope ["_law_found", "_law_due_here", "_law_key", "_law_one", "_law_two"] ["_law_found", "_law_due_here"] (defScope s_Lsame) := ⟨rfl, rfl, rfl, by decide +kernel, rfl, by decide +kernel, by decide +kernel⟩
abbrev s_Lsums : Stmt := topS 17
theorem sc_Lsums : FnScope ["_law_shares", "_law_wides", "_law_found", "_law_share", "_law_wide", "_law_more", "_law_one", "_law_figure"] ["_law_shares", "_law_wides"] (defScope s_Lsums) := ⟨rfl, rfl, rfl, by decide +kernel, rfl, by decide +kernel, by decide +kernel⟩
abbrev s_Ldrawn : Stmt := topS 18
theorem sc_Ldrawn : FnScope ["_law_box_here", "_law_root", "_law_least", "_law_shares", "_law_turn", "_law_wides", "_law_share"] ["_law_box_here"] (defScope s_Ldrawn) := ⟨rfl, rfl, rfl, by decide +kernel, rfl, by decide +kernel, by decide +kernel⟩
abbrev s_Lrules : Stmt := topS 19
theorem sc_Lrules : FnScope ["_law_game", "_law_late", "_law_root", "_law_shares", "_law_by", "_law_wides", "_law_wide", "_law_sums_here", "_law_step", "_law_turn"] ["_law_game", "_law_late"] (defScope s_Lrules) := ⟨rfl, rfl, rfl, by decide +kernel, rfl, by decide +kernel, by decide +kernel⟩
abbrev s_Lis_lost : Stmt := topS 20
theorem sc_Lis_lost : FnScope ["_law_g", "_law_rest"] ["_law_g", "_law_rest"] (defScope s_Lis_lost) := ⟨rfl, rfl, rfl, by decide +kernel, rfl, by decide +kernel, by decide +kernel⟩
abbrev s_Lrests : Stmt := topS 21
theorem sc_Lrests : FnScope ["_law_g", "_law_found", "_law_rest", "_law_one"] ["_law_g"] (defScope s_Lrests) := ⟨rfl, rfl, rfl, by decide +kernel, rfl, by decide +kernel, by decide +kernel⟩
abbrev s_Lleads : Stmt := topS 22
theorem sc_Lleads : FnScope ["_law_g", "_law_rest", "_law_more", "_law_figure"] ["_law_g", "_law_rest", "_law_more"] (defScope s_Lleads) := ⟨rfl, rfl, rfl, by decide +kernel, rfl, by decide +kernel, by decide +kernel⟩
abbrev s_Lis_safe : Stmt := topS 23
theorem sc_Lis_safe : FnScope ["_law_g", "_law_rest", "_law_some", "_law_more", "_law_one"] ["_law_g", "_law_rest", "_law_some"] (defScope s_Lis_safe) := ⟨rfl, rfl, rfl, by decide +kernel, rfl, by decide +kernel, by decide +kernel⟩
abbrev s_Llayers : Stmt := topS 24
theorem sc_Llayers : FnScope ["_law_g", "_law_found", "_law_some", "_law_count", "_law_rest", "_law_turn", "_law_gone"] ["_law_g"] (defScope s_Llayers) := ⟨rfl, rfl, rfl, by decide +kernel, rfl, by decide +kernel, by decide +kernel⟩
abbrev s_Ldue : Stmt := topS 25
theorem sc_Ldue : FnScope ["_law_game", "_law_highest", "_law_late", "_law_layers_here"] ["_law_game", "_law_highest"] (defScope s_Ldue) := ⟨rfl, rfl, rfl, by decide +kernel, rfl, by decide +kernel, by decide +kernel⟩
abbrev s_Lright : Stmt := topS 26
theorem sc_Lright : FnScope ["_law_box_here", "_law_game", "_law_highest", "_law_root", "_law_shares", "_law_by", "_law_wides", "_law_wide", "_law_due_here", "_law_found", "_law_some", "_law_turn"] ["_law_box_here"] (defScope s_Lright) := ⟨rfl, rfl, rfl, by decide +kernel, rfl, by decide +kernel, by decide +kernel⟩
abbrev s_law : Stmt := topS 27
theorem sc_law : FnScope ["_law_script", "_law_k"] ["_law_script"] (defScope s_law) := ⟨rfl, rfl, rfl, by decide +kernel, rfl, by decide +kernel, by decide +kernel⟩
/-- the built-in names that the top leaves as they are -/
structure Tx [CT] (K : PySem.W.Frag) (mg : Str → Option Value) : Prop where
  k_Game : Cls K (CT.at_ 3)
  a_Game_own_base : NoAttr K (CT.at_ 3) "own_base"
  a_Game_own_most : NoAttr K (CT.at_ 3) "own_most"
  a_Game_own_step : NoAttr K (CT.at_ 3) "own_step"
  a_Game_own_sums : NoAttr K (CT.at_ 3) "own_sums"
  n_abs : mg "abs" = none
  n_all : mg "all" = none
  n_any : mg "any" = none
  n_bool : mg "bool" = none
  n_dict : mg "dict" = none
  n_int : mg "int" = none
  n_isinstance : mg "isinstance" = none
  n_len : mg "len" = none
  n_list : mg "list" = none
  n_max : mg "max" = none
  n_min : mg "min" = none
  n_range : mg "range" = none
  n_set : mg "set" = none
  n_sorted : mg "sorted" = none
  n_str : mg "str" = none
  n_tuple : mg "tuple" = none
  n_zip : mg "zip" = none
  c_MOST_STATES : ∃ t, mg "MOST_STATES" = some (.int 2000 t)
  c_TOP : ∃ t, mg "TOP" = some (.int 6 t)
section
variable [CT]
variable {P : Program} {w : World} {K : PySem.W.Frag} {mg : Str → Option Value} {base : Heap}
theorem ok_wall {f : Addr} {fd : FuncData} (F : Fun K "_wall" "_wall" s_wall f fd) (T : Tx K mg) (vc : goal_wall) (len : ∀ ds S P, sp_wall ds S P → ds.length = 1)
     : FnD P w K mg base 1 f fd ["k"] sp_wall :=
  fn_d F sc_wall len fun cdv A outer s H E hr => ⟨rd_wall, (have nd := sc_wall.nd
  (jss_one
  (js_while PassesOwn.never (jt_val je_bl) (jss_one
  js_pass)))), fun ds S P h => match ds, len ds S P h, h with
  | [x0], _, h => vc x0 S P h⟩
theorem ok_power {f : Addr} {fd : FuncData} (F : Fun K "power" "power" s_power f fd) (T : Tx K mg) (vc : goal_power) (len : ∀ ds S P, sp_power ds S P → ds.length = 2)
     : FnD P w K mg base 1 f fd ["base", "many"] sp_power :=
  fn_d F sc_power len fun cdv A outer s H E hr => ⟨rd_power, (have nd := sc_power.nd
  (jss_cons
  (js_set 2 nd rfl (by first | exact Or.inl rfl | exact Or.inr rfl) je_int) (jss_cons
  (js_for PassesOwn.never rfl (ji_range1 T.n_range (ja_cons (je_abs T.n_abs (ja_cons (je_var 1) ja_nil)) ja_nil)) (jg_name 3 nd rfl (by first | exact Or.inl rfl | exact Or.inr rfl)) (jss_one
  (js_imul 2 nd rfl (by first | exact Or.inl rfl | exact Or.inr rfl) (je_var 0)))) (jss_one
  (js_ret (je_ifE (jt_ge (je_var 1) je_int) (je_tup (ja_cons (je_var 2) (ja_cons je_int ja_nil))) (je_tup (ja_cons je_int (ja_cons (je_var 2) ja_nil))))))))), fun ds S P h => match ds, len ds S P h, h with
  | [x0, x1], _, h => vc x0 x1 S P h⟩
theorem ok_sums_of {f : Addr} {fd : FuncData} (F : Fun K "sums_of" "sums_of" s_sums_of f fd) (T : Tx K mg) (vc : goal_sums_of) (len : ∀ ds S P, sp_sums_of ds S P → ds.length = 2)
     : FnD P w K mg base 1 f fd ["weights", "mosts"] sp_sums_of :=
  fn_d F sc_sums_of len fun cdv A outer s H E hr => ⟨rd_sums_of, (have nd := sc_sums_of.nd
  (jss_cons
  (js_set 2 nd rfl (by first | exact Or.inl rfl | exact Or.inr rfl) (je_disp (jps_cons je_int je_bl jps_nil))) (jss_cons
  (js_for PassesOwn.never rfl (ji_zipS T.n_zip (ja_cons (je_var 0) (ja_cons (je_var 1) ja_nil))) (jg_tup rfl (jgs_cons (jg_name 3 nd rfl (by first | exact Or.inl rfl | exact Or.inr rfl)) (jgs_cons (jg_name 4 nd rfl (by first | exact Or.inl rfl | exact Or.inr rfl)) jgs_nil))) (jss_one
  (js_lock (js_setDc2 2 [("one", 5), ("figure", 6)] (by decide) nd rfl rfl (swd_true rfl rfl rfl (by decide +kernel)) (ji_keys (je_var 2)) (blkOk_by (N := ["weights", "mosts", "found", "weight", "most", "one", "figure"]) (sc := defScope s_sums_of) (by decide +kernel)) rfl (fun _ _ _ _ _ => (jg_name 5 nd rfl (by first | exact Or.inl rfl | exact Or.inr rfl))) (fun _ _ _ _ _ => jts_nil) (fun _ _ _ _ _ => (ji_range2 T.n_range (ja_cons (je_neg (je_var 4)) (ja_cons (je_add (je_var 4) je_int) ja_nil)))) (fun _ _ _ _ _ => (jg_name 6 nd rfl (by first | exact Or.inl rfl | exact Or.inr rfl))) (fun _ _ _ _ _ => jts_nil) (fun _ _ _ _ _ => (je_add (je_var 5) (je_mul (je_var 3) (je_var 6)))) (fun _ _ _ _ _ => je_bl))))) (jss_one
  (js_ret (je_sortDB T.n_sorted rfl (ja_cons (je_var 2) ja_nil))))))), fun ds S P h => match ds, len ds S P h, h with
  | [x0, x1], _, h => vc x0 x1 S P h⟩
theorem ok_Game_init {f : Addr} {fd : FuncData} (F : Fun K "__init__" "Game.__init__" s_Game_init f fd) (T : Tx K mg) (vc : goal_Game_init) (len : ∀ ds S P, sp_Game_init ds S P → ds.length = 7)
    {f_power : Addr} {fd_power : FuncData} (G_power : Does P w K mg base 1 "power" ["base", "many"] f_power fd_power sp_power)
    {f_sums_of : Addr} {fd_sums_of : FuncData} (G_sums_of : Does P w K mg base 1 "sums_of" ["weights", "mosts"] f_sums_of fd_sums_of sp_sums_of) : FnD P w K mg base 2 f fd ["self", "base", "weights", "over", "mosts", "most", "lag"] sp_Game_init :=
  fn_d F sc_Game_init len fun cdv A outer s H E hr => ⟨rd_Game_init, (have nd := sc_Game_init.nd
  (jss_cons
  (js_fld T.k_Game T.a_Game_own_base (je_var 0) (je_var 1)) (jss_cons
  (js_fld T.k_Game T.a_Game_own_most (je_var 0) (je_var 5)) (jss_cons
  (js_fld T.k_Game T.a_Game_own_step (je_var 0) (je_mul (je_var 3) (je_ix (je_f G_power hr (ja_cons (je_var 1) (ja_cons (je_var 6) ja_nil))) je_int))) (jss_one
  (js_fld T.k_Game T.a_Game_own_sums (je_var 0) (je_f G_sums_of hr (ja_cons (je_var 2) (ja_cons (je_var 4) ja_nil))))))))), fun ds S P h => match ds, len ds S P h, h with
  | [x0, x1, x2, x3, x4, x5, x6], _, h => vc x0 x1 x2 x3 x4 x5 x6 S P h⟩
theorem ok_Game_is_lost {f : Addr} {fd : FuncData} (F : Fun K "is_lost" "Game.is_lost" s_Game_is_lost f fd) (T : Tx K mg) (vc : goal_Game_is_lost) (len : ∀ ds S P, sp_Game_is_lost ds S P → ds.length = 2)
    {f_wall : Addr} {fd_wall : FuncData} (G_wall : Does P w K mg base 1 "_wall" ["k"] f_wall fd_wall sp_wall) : FnD P w K mg base 2 f fd ["self", "rest"] sp_Game_is_lost :=
  fn_d F sc_Game_is_lost len fun cdv A outer s H E hr => ⟨rd_Game_is_lost, (have nd := sc_Game_is_lost.nd
  (jss_one
  (js_expr (je_f G_wall hr (ja_cons je_int ja_nil))))), fun ds S P h => match ds, len ds S P h, h with
  | [x0, x1], _, h => vc x0 x1 S P h⟩
theorem ok_Game_greatest {f : Addr} {fd : FuncData} (F : Fun K "greatest" "Game.greatest" s_Game_greatest f fd) (T : Tx K mg) (vc : goal_Game_greatest) (len : ∀ ds S P, sp_Game_greatest ds S P → ds.length = 1)
     : FnD P w K mg base 1 f fd ["self"] sp_Game_greatest :=
  fn_d F sc_Game_greatest len fun cdv A outer s H E hr => ⟨rd_Game_greatest, (have nd := sc_Game_greatest.nd
  (jss_one
  (js_ret (je_fdiv (je_sub (je_mul (je_fld T.k_Game T.a_Game_own_step (je_var 0)) (je_fld T.k_Game T.a_Game_own_most (je_var 0))) (je_ix (je_fld T.k_Game T.a_Game_own_sums (je_var 0)) (je_neg je_int))) (je_sub (je_fld T.k_Game T.a_Game_own_base (je_var 0)) je_int))))), fun ds S P h => match ds, len ds S P h, h with
  | [x0], _, h => vc x0 S P h⟩
theorem ok_Game_rests {f : Addr} {fd : FuncData} (F : Fun K "rests" "Game.rests" s_Game_rests f fd) (T : Tx K mg) (vc : goal_Game_rests) (len : ∀ ds S P, sp_Game_rests ds S P → ds.length = 1)
    {f_Game_greatest : Addr} {fd_Game_greatest : FuncData} (G_Game_greatest : DoesM P w K mg base 1 3 "greatest" ["self"] f_Game_greatest fd_Game_greatest sp_Game_greatest) : FnD P w K mg base 2 f fd ["self"] sp_Game_rests :=
  fn_d F sc_Game_rests len fun cdv A outer s H E hr => ⟨rd_Game_rests, (have nd := sc_Game_rests.nd
  (jss_one
  (js_ret (je_listR2 T.n_list T.n_range (je_neg (je_m0 G_Game_greatest hr (je_var 0))) (je_add (je_m0 G_Game_greatest hr (je_var 0)) je_int))))), fun ds S P h => match ds, len ds S P h, h with
  | [x0], _, h => vc x0 S P h⟩
theorem ok_Game_look {f : Addr} {fd : FuncData} (F : Fun K "look" "Game.look" s_Game_look f fd) (T : Tx K mg) (vc : goal_Game_look) (len : ∀ ds S P, sp_Game_look ds S P → ds.length = 1)
    {f_Game_greatest : Addr} {fd_Game_greatest : FuncData} (G_Game_greatest : DoesM P w K mg base 1 3 "greatest" ["self"] f_Game_greatest fd_Game_greatest sp_Game_greatest) : FnD P w K mg base 2 f fd ["self"] sp_Game_look :=
  fn_d F sc_Game_look len fun cdv A outer s H E hr => ⟨rd_Game_look, (have nd := sc_Game_look.nd
  (jss_cons
  (js_set 1 nd rfl (by first | exact Or.inl rfl | exact Or.inr rfl) (je_max2 T.n_max (ja_cons je_int (ja_cons (je_add (je_mul je_int (je_m0 G_Game_greatest hr (je_var 0))) je_int) ja_nil)))) (jss_one
  (js_if (jt_gt (je_var 1) (je_cI T.c_MOST_STATES)) jss_never jss_nil)))), fun ds S P h => match ds, len ds S P h, h with
  | [x0], _, h => vc x0 S P h⟩
theorem ok_Game_led_to {f : Addr} {fd : FuncData} (F : Fun K "led_to" "Game.led_to" s_Game_led_to f fd) (T : Tx K mg) (vc : goal_Game_led_to) (len : ∀ ds S P, sp_Game_led_to ds S P → ds.length = 2)
    {f_Game_greatest : Addr} {fd_Game_greatest : FuncData} (G_Game_greatest : DoesM P w K mg base 1 3 "greatest" ["self"] f_Game_greatest fd_Game_greatest sp_Game_greatest) : FnD P w K mg base 2 f fd ["self", "ahead"] sp_Game_led_to :=
  fn_d F sc_Game_led_to len fun cdv A outer s H E hr => ⟨rd_Game_led_to, (have nd := sc_Game_led_to.nd
  (jss_cons
  (js_set 2 nd rfl (by first | exact Or.inl rfl | exact Or.inr rfl) (je_max2 T.n_max (ja_cons (je_neg (je_fld T.k_Game T.a_Game_own_most (je_var 0))) (ja_cons (je_neg (je_fdiv (je_sub (je_m0 G_Game_greatest hr (je_var 0)) (je_var 1)) (je_fld T.k_Game T.a_Game_own_step (je_var 0)))) ja_nil)))) (jss_cons
  (js_set 3 nd rfl (by first | exact Or.inl rfl | exact Or.inr rfl) (je_min2 T.n_min (ja_cons (je_fld T.k_Game T.a_Game_own_most (je_var 0)) (ja_cons (je_fdiv (je_add (je_var 1) (je_m0 G_Game_greatest hr (je_var 0))) (je_fld T.k_Game T.a_Game_own_step (je_var 0))) ja_nil)))) (jss_one
  (js_ret (je_lc [("figure", 4)] rfl nd (ji_range2 T.n_range (ja_cons (je_var 2) (ja_cons (je_add (je_var 3) je_int) ja_nil))) (blkOk_by (N := ["self", "ahead", "least", "most", "figure"]) (sc := defScope s_Game_led_to) (by decide +kernel)) (by decide) (fun _ _ _ _ _ => (jg_name 4 nd rfl (by first | exact Or.inl rfl | exact Or.inr rfl))) (fun _ _ _ _ _ => jts_nil) (fun _ _ _ _ _ => (je_sub (je_var 1) (je_mul (je_var 4) (je_fld T.k_Game T.a_Game_own_step (je_var 0))))))))))), fun ds S P h => match ds, len ds S P h, h with
  | [x0, x1], _, h => vc x0 x1 S P h⟩
theorem ok_Game_is_held {f : Addr} {fd : FuncData} (F : Fun K "is_held" "Game.is_held" s_Game_is_held f fd) (T : Tx K mg) (vc : goal_Game_is_held) (len : ∀ ds S P, sp_Game_is_held ds S P → ds.length = 4)
    {f_Game_led_to : Addr} {fd_Game_led_to : FuncData} (G_Game_led_to : DoesM P w K mg base 2 3 "led_to" ["self", "ahead"] f_Game_led_to fd_Game_led_to sp_Game_led_to) : FnD P w K mg base 3 f fd ["self", "rest", "sum_now", "held"] sp_Game_is_held :=
  fn_d F sc_Game_is_held len fun cdv A outer s H E hr => ⟨rd_Game_is_held, (have nd := sc_Game_is_held.nd
  (jss_one
  (js_ret (je_any T.n_any (ja_cons (je_lc [("one", 4)] rfl nd (ji_seq (je_m G_Game_led_to hr (je_var 0) (ja_cons (je_add (je_mul (je_fld T.k_Game T.a_Game_own_base (je_var 0)) (je_var 1)) (je_var 2)) ja_nil))) (blkOk_by (N := ["self", "rest", "sum_now", "held", "one"]) (sc := defScope s_Game_is_held) (by decide +kernel)) (by decide) (fun _ _ _ _ _ => (jg_name 4 nd rfl (by first | exact Or.inl rfl | exact Or.inr rfl))) (fun _ _ _ _ _ => jts_nil) (fun _ _ _ _ _ => (je_din hr (je_var 4) (je_var 3)))) ja_nil))))), fun ds S P h => match ds, len ds S P h, h with
  | [x0, x1, x2, x3], _, h => vc x0 x1 x2 x3 S P h⟩
theorem ok_Game_first_fatal {f : Addr} {fd : FuncData} (F : Fun K "first_fatal" "Game.first_fatal" s_Game_first_fatal f fd) (T : Tx K mg) (vc : goal_Game_first_fatal) (len : ∀ ds S P, sp_Game_first_fatal ds S P → ds.length = 4)
    {f_Game_is_held : Addr} {fd_Game_is_held : FuncData} (G_Game_is_held : DoesM P w K mg base 3 3 "is_held" ["self", "rest", "sum_now", "held"] f_Game_is_held fd_Game_is_held sp_Game_is_held) : FnD P w K mg base 4 f fd ["self", "rest", "known", "held"] sp_Game_first_fatal :=
  fn_d F sc_Game_first_fatal len fun cdv A outer s H E hr => ⟨rd_Game_first_fatal, (have nd := sc_Game_first_fatal.nd
  (jss_cons
  (js_for PassesOwn.never rfl (ji_seq (je_fld T.k_Game T.a_Game_own_sums (je_var 0))) (jg_name 4 nd rfl (by first | exact Or.inl rfl | exact Or.inr rfl)) (jss_cons
  (js_set 5 nd rfl (by first | exact Or.inl rfl | exact Or.inr rfl) (je_add (je_mul (je_fld T.k_Game T.a_Game_own_base (je_var 0)) (je_var 1)) (je_var 4))) (jss_cons
  (js_if (jt_dnotin hr (je_var 5) (je_var 2)) (jss_one
  (js_dput hr (je_var 2) (je_var 5) (je_m G_Game_is_held hr (je_var 0) (ja_cons (je_var 1) (ja_cons (je_var 4) (ja_cons (je_var 3) ja_nil)))))) jss_nil) (jss_one
  (js_if (jt_not (jt_val (je_dget hr (je_var 2) (je_var 5)))) (jss_one
  (js_ret (je_var 4))) jss_nil))))) (jss_one
  (js_ret je_non)))), fun ds S P h => match ds, len ds S P h, h with
  | [x0, x1, x2, x3], _, h => vc x0 x1 x2 x3 S P h⟩
theorem ok_Game_ranks {f : Addr} {fd : FuncData} (F : Fun K "ranks" "Game.ranks" s_Game_ranks f fd) (T : Tx K mg) (vc : goal_Game_ranks) (len : ∀ ds S P, sp_Game_ranks ds S P → ds.length = 1)
    {f_Game_rests : Addr} {fd_Game_rests : FuncData} (G_Game_rests : DoesM P w K mg base 2 3 "rests" ["self"] f_Game_rests fd_Game_rests sp_Game_rests)
    {f_Game_first_fatal : Addr} {fd_Game_first_fatal : FuncData} (G_Game_first_fatal : DoesM P w K mg base 4 3 "first_fatal" ["self", "rest", "known", "held"] f_Game_first_fatal fd_Game_first_fatal sp_Game_first_fatal) : FnD P w K mg base 5 f fd ["self"] sp_Game_ranks :=
  fn_d F sc_Game_ranks len fun cdv A outer s H E hr => ⟨rd_Game_ranks, (have nd := sc_Game_ranks.nd
  (jss_cons
  (js_asg (je_tup (ja_cons je_dnew (ja_cons (je_dc [("rest", 3)] rfl nd (ji_seq (je_m0 G_Game_rests hr (je_var 0))) (blkOk_by (N := ["self", "found", "held", "rest", "rank", "known", "fatal", "gone"]) (sc := defScope s_Game_ranks) (by decide +kernel)) (by decide) (fun _ _ _ _ _ => (jg_name 3 nd rfl (by first | exact Or.inl rfl | exact Or.inr rfl))) (fun _ _ _ _ _ => jts_nil) (fun _ _ _ _ _ => (je_var 3)) (fun _ _ _ _ _ => je_bl)) ja_nil))) (jg_tup rfl (jgs_cons (jg_name 1 nd rfl (by first | exact Or.inl rfl | exact Or.inr rfl)) (jgs_cons (jg_name 2 nd rfl (by first | exact Or.inl rfl | exact Or.inr rfl)) jgs_nil)))) (jss_cons
  (js_set 4 nd rfl (by first | exact Or.inl rfl | exact Or.inr rfl) je_int) (jss_one
  (js_while PassesOwn.never (jt_val je_bl) (jss_cons
  (js_set 5 nd rfl (by first | exact Or.inl rfl | exact Or.inr rfl) je_dnew) (jss_cons
  (js_set 6 nd rfl (by first | exact Or.inl rfl | exact Or.inr rfl) (je_lock (je_dc [("rest", 3)] rfl nd (ji_keys (je_var 2)) (blkOk_by (N := ["self", "found", "held", "rest", "rank", "known", "fatal", "gone"]) (sc := defScope s_Game_ranks) (by decide +kernel)) (by decide) (fun _ _ _ _ _ => (jg_name 3 nd rfl (by first | exact Or.inl rfl | exact Or.inr rfl))) (fun _ _ _ _ _ => jts_nil) (fun _ _ _ _ _ => (je_var 3)) (fun _ _ _ _ _ => (je_m G_Game_first_fatal hr (je_var 0) (ja_cons (je_var 3) (ja_cons (je_var 5) (ja_cons (je_var 2) ja_nil)))))))) (jss_cons
  (js_lock (js_setLc 7 [("rest", 3)] rfl nd rfl rfl (sw_true rfl rfl rfl (by decide +kernel)) (ji_keys (je_var 6)) (blkOk_by (N := ["self", "found", "held", "rest", "rank", "known", "fatal", "gone"]) (sc := defScope s_Game_ranks) (by decide +kernel)) (by decide) (fun _ _ _ _ _ => (jg_name 3 nd rfl (by first | exact Or.inl rfl | exact Or.inr rfl))) (fun _ _ _ _ _ => (jts_one (jt_notN (je_dget hr (je_var 6) (je_var 3)) je_non))) (fun _ _ _ _ _ => (je_var 3)))) (jss_cons
  (js_if (jt_eq hr (je_var 7) (je_lst ja_nil)) (jss_one
  (js_ret (je_tup (ja_cons (je_var 1) (ja_cons (je_var 2) ja_nil))))) jss_nil) (jss_cons
  (js_expr (je_dupd (je_var 1) (je_dc [("rest", 3)] rfl nd (ji_seq (je_var 7)) (blkOk_by (N := ["self", "found", "held", "rest", "rank", "known", "fatal", "gone"]) (sc := defScope s_Game_ranks) (by decide +kernel)) (by decide) (fun _ _ _ _ _ => (jg_name 3 nd rfl (by first | exact Or.inl rfl | exact Or.inr rfl))) (fun _ _ _ _ _ => jts_nil) (fun _ _ _ _ _ => (je_var 3)) (fun _ _ _ _ _ => (je_tup (ja_cons (je_var 4) (ja_cons (je_dget hr (je_var 6) (je_var 3)) ja_nil))))))) (jss_cons
  (js_set 2 nd rfl (by first | exact Or.inl rfl | exact Or.inr rfl) (je_lock (je_dc [("rest", 3)] rfl nd (ji_keys (je_var 2)) (blkOk_by (N := ["self", "found", "held", "rest", "rank", "known", "fatal", "gone"]) (sc := defScope s_Game_ranks) (by decide +kernel)) (by decide) (fun _ _ _ _ _ => (jg_name 3 nd rfl (by first | exact Or.inl rfl | exact Or.inr rfl))) (fun _ _ _ _ _ => (jts_one (jt_isN (je_dget hr (je_var 6) (je_var 3)) je_non))) (fun _ _ _ _ _ => (je_var 3)) (fun _ _ _ _ _ => je_bl)))) (jss_one
  (js_iadd 4 nd rfl (by first | exact Or.inl rfl | exact Or.inr rfl) je_int))))))))))))), fun ds S P h => match ds, len ds S P h, h with
  | [x0], _, h => vc x0 S P h⟩
theorem ok_least_lag {f : Addr} {fd : FuncData} {dvs : List V} {kws : List (Str × V)} (F : FunD K "least_lag" "least_lag" (defArgs s_least_lag) (defBody s_least_lag) (defScope s_least_lag) dvs kws f fd) (T : Tx K mg) (vc : goal_least_lag) (len : ∀ ds S P, sp_least_lag ds S P → ds.length = 6)
    {f_Game_init : Addr} {fd_Game_init : FuncData} (G_Game_init : DoesI P w K mg base 2 3 "Game" ["self", "base", "weights", "over", "mosts", "most", "lag"] f_Game_init fd_Game_init sp_Game_init)
    (B_Game_init : Binds K fd_Game_init ["self", "base", "weights", "over", "mosts", "most", "lag"] [])
    {f_Game_look : Addr} {fd_Game_look : FuncData} (G_Game_look : DoesM P w K mg base 2 3 "look" ["self"] f_Game_look fd_Game_look sp_Game_look)
    {f_Game_ranks : Addr} {fd_Game_ranks : FuncData} (G_Game_ranks : DoesM P w K mg base 5 3 "ranks" ["self"] f_Game_ranks fd_Game_ranks sp_Game_ranks) : FnD P w K mg base 6 f fd ["base", "weights", "over", "mosts", "most", "top"] sp_least_lag :=
  fn_dD F sc_least_lag len fun cdv A outer s H E hr => ⟨rd_least_lag, (have nd := sc_least_lag.nd
  (jss_cons
  (js_for PassesOwn.never rfl (ji_range1 T.n_range (ja_cons (je_add (je_var 5) je_int) ja_nil)) (jg_name 6 nd rfl (by first | exact Or.inl rfl | exact Or.inr rfl)) (jss_cons
  (js_set 7 nd rfl (by first | exact Or.inl rfl | exact Or.inr rfl) (je_make G_Game_init hr B_Game_init (ja_cons (je_var 0) (ja_cons (je_var 1) (ja_cons (je_var 2) (ja_cons (je_var 3) (ja_cons (je_var 4) (ja_cons (je_var 6) ja_nil)))))))) (jss_cons
  (js_expr (je_m0 G_Game_look hr (je_var 7))) (jss_one
  (js_if (jt_din hr je_int (je_ix (je_m0 G_Game_ranks hr (je_var 7)) je_int)) (jss_one
  (js_ret (je_var 6))) jss_nil))))) (jss_one
  (js_ret je_non)))), fun ds S P h => match ds, len ds S P h, h with
  | [x0, x1, x2, x3, x4, x5], _, h => vc x0 x1 x2 x3 x4 x5 S P h⟩
theorem ok_Lcell_at {f : Addr} {fd : FuncData} (F : Fun K "_law_cell_at" "_law_cell_at" s_Lcell_at f fd) (T : Tx K mg) (vc : goal_Lcell_at) (len : ∀ ds S P, sp_Lcell_at ds S P → ds.length = 2)
     : FnD P w K mg base 1 f fd ["_law_script", "_law_k"] sp_Lcell_at :=
  fn_d F sc_Lcell_at len fun cdv A outer s H E hr => ⟨rd_Lcell_at, (have nd := sc_Lcell_at.nd
  (jss_cons
  (js_if (jt_lt (je_var 1) (je_len T.n_len (ja_cons (je_var 0) ja_nil))) (jss_one
  (js_ret (je_ix (je_var 0) (je_var 1)))) jss_nil) (jss_one
  (js_ret je_int)))), fun ds S P h => match ds, len ds S P h, h with
  | [x0, x1], _, h => vc x0 x1 S P h⟩
theorem ok_Lbox {f : Addr} {fd : FuncData} (F : Fun K "_law_box" "_law_box" s_Lbox f fd) (T : Tx K mg) (vc : goal_Lbox) (len : ∀ ds S P, sp_Lbox ds S P → ds.length = 2)
    {f_Lcell_at : Addr} {fd_Lcell_at : FuncData} (G_Lcell_at : Does P w K mg base 1 "_law_cell_at" ["_law_script", "_law_k"] f_Lcell_at fd_Lcell_at sp_Lcell_at) : FnD P w K mg base 2 f fd ["_law_script", "_law_k"] sp_Lbox :=
  fn_d F sc_Lbox len fun cdv A outer s H E hr => ⟨rd_Lbox, (have nd := sc_Lbox.nd
  (jss_cons
  (js_set 2 nd rfl (by first | exact Or.inl rfl | exact Or.inr rfl) (je_f G_Lcell_at hr (ja_cons (je_var 0) (ja_cons (je_var 1) ja_nil)))) (jss_one
  (js_ret (je_lstM (ja_cons (je_mul (je_abs T.n_abs (ja_cons (je_var 2) ja_nil)) (je_intC T.n_int (ja_cons (je_ge (je_abs T.n_abs (ja_cons (je_var 2) ja_nil)) (je_pow je_int je_int)) ja_nil))) (ja_cons (je_add (je_add (je_mod (je_var 2) je_int) (je_mul je_int (je_var 1))) je_int) (ja_cons je_int ja_nil)))))))), fun ds S P h => match ds, len ds S P h, h with
  | [x0, x1], _, h => vc x0 x1 S P h⟩
theorem ok_Ltake {f : Addr} {fd : FuncData} (F : Fun K "_law_take" "_law_take" s_Ltake f fd) (T : Tx K mg) (vc : goal_Ltake) (len : ∀ ds S P, sp_Ltake ds S P → ds.length = 2)
     : FnD P w K mg base 1 f fd ["_law_box_here", "_law_size"] sp_Ltake :=
  fn_d F sc_Ltake len fun cdv A outer s H E hr => ⟨rd_Ltake, (have nd := sc_Ltake.nd
  (jss_cons
  (js_if (jt_gt (je_ix (je_var 0) je_int) je_int) (jss_cons
  (js_set 2 nd rfl (by first | exact Or.inl rfl | exact Or.inr rfl) (je_mod (je_ix (je_var 0) je_int) (je_var 1))) (jss_cons
  (js_setIx (je_fdiv (je_ix (je_var 0) je_int) (je_var 1)) (je_var 0) je_int) (jss_one
  (js_ret (je_var 2))))) jss_nil) (jss_cons
  (js_setIx (je_add (je_ix (je_var 0) je_int) je_int) (je_var 0) je_int) (jss_cons
  (js_set 3 nd rfl (by first | exact Or.inl rfl | exact Or.inr rfl) (je_mod (je_mul (je_add (je_ix (je_var 0) je_int) (je_mul je_int (je_ix (je_var 0) je_int))) (je_add je_int (je_ix (je_var 0) je_int))) je_int)) (jss_cons
  (js_set 4 nd rfl (by first | exact Or.inl rfl | exact Or.inr rfl) (je_mod (je_mul (je_add (je_add (je_var 3) (je_ix (je_var 0) je_int)) (je_fdiv (je_ix (je_var 0) je_int) je_int)) (je_add (je_mod (je_var 3) je_int) je_int)) je_int)) (jss_one
  (js_ret (je_mod (je_fdiv (je_mod (je_add (je_mul (je_var 4) je_int) (je_var 3)) je_int) je_int) (je_var 1))))))))), fun ds S P h => match ds, len ds S P h, h with
  | [x0, x1], _, h => vc x0 x1 S P h⟩
theorem ok_Lof {f : Addr} {fd : FuncData} (F : Fun K "_law_of" "_law_of" s_Lof f fd) (T : Tx K mg) (vc : goal_Lof) (len : ∀ ds S P, sp_Lof ds S P → ds.length = 2)
    {f_Ltake : Addr} {fd_Ltake : FuncData} (G_Ltake : Does P w K mg base 1 "_law_take" ["_law_box_here", "_law_size"] f_Ltake fd_Ltake sp_Ltake) : FnD P w K mg base 2 f fd ["_law_box_here", "_law_some"] sp_Lof :=
  fn_d F sc_Lof len fun cdv A outer s H E hr => ⟨rd_Lof, (have nd := sc_Lof.nd
  (jss_one
  (js_ret (je_ix (je_var 1) (je_f G_Ltake hr (ja_cons (je_var 0) (ja_cons (je_len T.n_len (ja_cons (je_var 1) ja_nil)) ja_nil))))))), fun ds S P h => match ds, len ds S P h, h with
  | [x0, x1], _, h => vc x0 x1 S P h⟩
theorem ok_Lsame {f : Addr} {fd : FuncData} (F : Fun K "_law_same" "_law_same" s_Lsame f fd) (T : Tx K mg) (vc : goal_Lsame) (len : ∀ n ds S P, spr_Lsame n ds S P → ds.length = 2) (hz : ∀ ds S P, spr_Lsame 0 ds S P → False) (gm : mg "_law_same" = some (.ref f)) (kp : PySem.W.keepIn K (.ref f) = true) (B : Binds K fd ["_law_found", "_law_due_here"] [])
     : ∀ n : Nat, FnD P w K mg base (0 + n) f fd ["_law_found", "_law_due_here"] (spr_Lsame n)
  | 0 => fnd_never hz
  | n + 1 => have G_Lsame : Does P w K mg base (0 + n) "_law_same" ["_law_found", "_law_due_here"] f fd (spr_Lsame n) := ⟨gm, kp, B, ok_Lsame F T vc len hz gm kp B  n⟩
    fn_d F sc_Lsame (len (n + 1)) fun cdv A outer s H E hr => ⟨rd_Lsame (spr_Lsame n), (have nd := sc_Lsame.nd
  (jss_cons
  (js_if (jt_val (je_isi T.n_isinstance (ja_cons (je_var 1) (ja_cons (je_tyDict T.n_dict) ja_nil)))) jss_never jss_nil) (jss_cons
  (js_if (jt_val (je_isi T.n_isinstance (ja_cons (je_var 1) (ja_cons (je_tup (ja_cons (je_tyList T.n_list) (ja_cons (je_tyTuple T.n_tuple) ja_nil))) ja_nil)))) (jss_cons
  (js_if (jt_w (jw_or (jt_ne hr (je_isi T.n_isinstance (ja_cons (je_var 0) (ja_cons (je_tyList T.n_list) ja_nil))) (je_isi T.n_isinstance (ja_cons (je_var 1) (ja_cons (je_tyList T.n_list) ja_nil)))) (jw_or1 (jt_ne hr (je_isi T.n_isinstance (ja_cons (je_var 0) (ja_cons (je_tyTuple T.n_tuple) ja_nil))) (je_isi T.n_isinstance (ja_cons (je_var 1) (ja_cons (je_tyTuple T.n_tuple) ja_nil))))))) (jss_one
  (js_ret je_bl)) jss_nil) (jss_one
  (js_ret (je_and (je_eq hr (je_len T.n_len (ja_cons (je_var 0) ja_nil)) (je_len T.n_len (ja_cons (je_var 1) ja_nil))) (je_one (je_all T.n_all (ja_cons (je_lc [("_law_one", 3), ("_law_two", 4)] rfl nd (ji_zip T.n_zip (ja_cons (je_var 0) (ja_cons (je_var 1) ja_nil))) (blkOk_by (N := ["_law_found", "_law_due_here", "_law_key", "_law_one", "_law_two"]) (sc := defScope s_Lsame) (by decide +kernel)) (by decide) (fun _ _ _ _ _ => (jg_tup rfl (jgs_cons (jg_name 3 nd rfl (by first | exact Or.inl rfl | exact Or.inr rfl)) (jgs_cons (jg_name 4 nd rfl (by first | exact Or.inl rfl | exact Or.inr rfl)) jgs_nil)))) (fun _ _ _ _ _ => jts_nil) (fun _ _ _ _ _ => (je_f G_Lsame hr (ja_cons (je_var 3) (ja_cons (je_var 4) ja_nil)) (hk := by first | exact Nat.le_refl _ | exact Nat.le_trans (by decide) (Nat.le_add_right _ _) | omega)))) ja_nil))))))) jss_nil) (jss_cons
  (js_if (jt_w (jw_or (jt_isN (je_var 1) je_non) (jw_or1 (jt_val (je_isi T.n_isinstance (ja_cons (je_var 1) (ja_cons (je_tup (ja_cons (je_tyBool T.n_bool) (ja_cons (je_tyStr T.n_str) ja_nil))) ja_nil))))))) (jss_one
  (js_ret (je_and (je_eq hr (je_var 0) (je_var 1)) (je_and (je_eq hr (je_isi T.n_isinstance (ja_cons (je_var 0) (ja_cons (je_tyBool T.n_bool) ja_nil))) (je_isi T.n_isinstance (ja_cons (je_var 1) (ja_cons (je_tyBool T.n_bool) ja_nil)))) (je_one (je_eq hr (je_isN (je_var 0) je_non) (je_isN (je_var 1) je_non))))))) jss_nil) (jss_one
  (js_ret (je_and (je_isi T.n_isinstance (ja_cons (je_var 0) (ja_cons (je_tyInt T.n_int) ja_nil))) (je_and (je_not (je_isi T.n_isinstance (ja_cons (je_var 0) (ja_cons (je_tyBool T.n_bool) ja_nil)))) (je_one (je_eq hr (je_var 0) (je_var 1))))))))))), fun ds S P h => match ds, len _ ds S P h, h with
  | [x0, x1], _, h => vc n x0 x1 S P h⟩
theorem ok_Lsums {f : Addr} {fd : FuncData} (F : Fun K "_law_sums" "_law_sums" s_Lsums f fd) (T : Tx K mg) (vc : goal_Lsums) (len : ∀ ds S P, sp_Lsums ds S P → ds.length = 2)
     : FnD P w K mg base 1 f fd ["_law_shares", "_law_wides"] sp_Lsums :=
  fn_d F sc_Lsums len fun cdv A outer s H E hr => ⟨rd_Lsums, (have nd := sc_Lsums.nd
  (jss_cons
  (js_set 2 nd rfl (by first | exact Or.inl rfl | exact Or.inr rfl) (je_lst (ja_cons je_int ja_nil))) (jss_cons
  (js_for PassesOwn.never rfl (ji_zip T.n_zip (ja_cons (je_var 0) (ja_cons (je_var 1) ja_nil))) (jg_tup rfl (jgs_cons (jg_name 3 nd rfl (by first | exact Or.inl rfl | exact Or.inr rfl)) (jgs_cons (jg_name 4 nd rfl (by first | exact Or.inl rfl | exact Or.inr rfl)) jgs_nil))) (jss_cons
  (js_set 5 nd rfl (by first | exact Or.inl rfl | exact Or.inr rfl) (je_lst ja_nil)) (jss_cons
  (js_for PassesOwn.never rfl (ji_seq (je_var 2)) (jg_name 6 nd rfl (by first | exact Or.inl rfl | exact Or.inr rfl)) (jss_one
  (js_set 5 nd rfl (by first | exact Or.inl rfl | exact Or.inr rfl) (je_add (je_var 5) (je_lc [("_law_figure", 7)] rfl nd (ji_range2 T.n_range (ja_cons (je_sub je_int (je_var 4)) (ja_cons (je_add (je_var 4) je_int) ja_nil))) (blkOk_by (N := ["_law_shares", "_law_wides", "_law_found", "_law_share", "_law_wide", "_law_more", "_law_one", "_law_figure"]) (sc := defScope s_Lsums) (by decide +kernel)) (by decide) (fun _ _ _ _ _ => (jg_name 7 nd rfl (by first | exact Or.inl rfl | exact Or.inr rfl))) (fun _ _ _ _ _ => jts_nil) (fun _ _ _ _ _ => (je_add (je_var 6) (je_mul (je_var 3) (je_var 7))))))))) (jss_one
  (js_set 2 nd rfl (by first | exact Or.inl rfl | exact Or.inr rfl) (je_sortSet T.n_sorted T.n_set (je_var 5))))))) (jss_one
  (js_ret (je_var 2)))))), fun ds S P h => match ds, len ds S P h, h with
  | [x0, x1], _, h => vc x0 x1 S P h⟩
theorem ok_Ldrawn {f : Addr} {fd : FuncData} (F : Fun K "_law_drawn" "_law_drawn" s_Ldrawn f fd) (T : Tx K mg) (vc : goal_Ldrawn) (len : ∀ ds S P, sp_Ldrawn ds S P → ds.length = 1)
    {f_Lof : Addr} {fd_Lof : FuncData} (G_Lof : Does P w K mg base 2 "_law_of" ["_law_box_here", "_law_some"] f_Lof fd_Lof sp_Lof)
    {f_Ltake : Addr} {fd_Ltake : FuncData} (G_Ltake : Does P w K mg base 1 "_law_take" ["_law_box_here", "_law_size"] f_Ltake fd_Ltake sp_Ltake) : FnD P w K mg base 3 f fd ["_law_box_here"] sp_Ldrawn :=
  fn_d F sc_Ldrawn len fun cdv A outer s H E hr => ⟨rd_Ldrawn, (have nd := sc_Ldrawn.nd
  (jss_cons
  (js_set 1 nd rfl (by first | exact Or.inl rfl | exact Or.inr rfl) (je_f G_Lof hr (ja_cons (je_var 0) (ja_cons (je_lst (ja_cons je_int (ja_cons je_int (ja_cons je_int (ja_cons je_int (ja_cons je_int (ja_cons je_int ja_nil))))))) ja_nil)))) (jss_cons
  (js_set 2 nd rfl (by first | exact Or.inl rfl | exact Or.inr rfl) (je_fdiv (je_add (je_var 1) je_int) je_int)) (jss_cons
  (js_set 3 nd rfl (by first | exact Or.inl rfl | exact Or.inr rfl) (je_tupC T.n_tuple (ja_cons (je_lc [("_law_turn", 4)] rfl nd (ji_range1 T.n_range (ja_cons (je_add je_int (je_f G_Ltake hr (ja_cons (je_var 0) (ja_cons je_int ja_nil)))) ja_nil)) (blkOk_by (N := ["_law_box_here", "_law_root", "_law_least", "_law_shares", "_law_turn", "_law_wides", "_law_share"]) (sc := defScope s_Ldrawn) (by decide +kernel)) (by decide) (fun _ _ _ _ _ => (jg_name 4 nd rfl (by first | exact Or.inl rfl | exact Or.inr rfl))) (fun _ _ _ _ _ => jts_nil) (fun _ _ _ _ _ => (je_f G_Lof hr (ja_cons (je_var 0) (ja_cons (je_lst (ja_cons je_int (ja_cons je_int (ja_cons (je_neg je_int) (ja_cons je_int (ja_cons je_int ja_nil)))))) ja_nil))))) ja_nil))) (jss_cons
  (js_set 5 nd rfl (by first | exact Or.inl rfl | exact Or.inr rfl) (je_tupC T.n_tuple (ja_cons (je_lc [("_law_share", 6)] rfl nd (ji_seq (je_var 3)) (blkOk_by (N := ["_law_box_here", "_law_root", "_law_least", "_law_shares", "_law_turn", "_law_wides", "_law_share"]) (sc := defScope s_Ldrawn) (by decide +kernel)) (by decide) (fun _ _ _ _ _ => (jg_name 6 nd rfl (by first | exact Or.inl rfl | exact Or.inr rfl))) (fun _ _ _ _ _ => jts_nil) (fun _ _ _ _ _ => (je_add (je_var 2) (je_f G_Ltake hr (ja_cons (je_var 0) (ja_cons je_int ja_nil)))))) ja_nil))) (jss_one
  (js_ret (je_tup (ja_cons (je_var 1) (ja_cons (je_var 3) (ja_cons (je_add je_int (je_f G_Ltake hr (ja_cons (je_var 0) (ja_cons (je_ix (je_lst (ja_cons je_int (ja_cons je_int (ja_cons je_int ja_nil)))) (je_f G_Ltake hr (ja_cons (je_var 0) (ja_cons je_int ja_nil)))) ja_nil)))) (ja_cons (je_var 5) (ja_cons (je_add (je_var 2) (je_f G_Ltake hr (ja_cons (je_var 0) (ja_cons je_int ja_nil)))) ja_nil))))))))))))), fun ds S P h => match ds, len ds S P h, h with
  | [x0], _, h => vc x0 S P h⟩
theorem ok_Lrules {f : Addr} {fd : FuncData} (F : Fun K "_law_rules" "_law_rules" s_Lrules f fd) (T : Tx K mg) (vc : goal_Lrules) (len : ∀ ds S P, sp_Lrules ds S P → ds.length = 2)
    {f_Lsums : Addr} {fd_Lsums : FuncData} (G_Lsums : Does P w K mg base 1 "_law_sums" ["_law_shares", "_law_wides"] f_Lsums fd_Lsums sp_Lsums) : FnD P w K mg base 2 f fd ["_law_game", "_law_late"] sp_Lrules :=
  fn_d F sc_Lrules len fun cdv A outer s H E hr => ⟨rd_Lrules, (have nd := sc_Lrules.nd
  (jss_cons
  (js_asg (je_var 0) (jg_tup rfl (jgs_cons (jg_name 2 nd rfl (by first | exact Or.inl rfl | exact Or.inr rfl)) (jgs_cons (jg_name 3 nd rfl (by first | exact Or.inl rfl | exact Or.inr rfl)) (jgs_cons (jg_name 4 nd rfl (by first | exact Or.inl rfl | exact Or.inr rfl)) (jgs_cons (jg_name 5 nd rfl (by first | exact Or.inl rfl | exact Or.inr rfl)) (jgs_cons (jg_name 6 nd rfl (by first | exact Or.inl rfl | exact Or.inr rfl)) jgs_nil))))))) (jss_cons
  (js_par 7 8 rfl nd rfl rfl (by decide) rfl rfl (ja_cons (je_f G_Lsums hr (ja_cons (je_var 3) (ja_cons (je_var 5) ja_nil))) (ja_cons (je_var 4) ja_nil)) (by rfl)) (jss_cons
  (js_for PassesOwn.never rfl (ji_range1 T.n_range (ja_cons (je_var 1) ja_nil)) (jg_name 9 nd rfl (by first | exact Or.inl rfl | exact Or.inr rfl)) (jss_one
  (js_set 8 nd rfl (by first | exact Or.inl rfl | exact Or.inr rfl) (je_mul (je_var 8) (je_var 2))))) (jss_one
  (js_ret (je_disp (jps_cons je_str (je_var 2) (jps_cons je_str (je_var 8) (jps_cons je_str (je_var 7) (jps_cons je_str (je_ix (je_var 7) (je_neg je_int)) (jps_cons je_str (je_var 6) jps_nil)))))))))))), fun ds S P h => match ds, len ds S P h, h with
  | [x0, x1], _, h => vc x0 x1 S P h⟩
theorem ok_Lis_lost {f : Addr} {fd : FuncData} (F : Fun K "_law_is_lost" "_law_is_lost" s_Lis_lost f fd) (T : Tx K mg) (vc : goal_Lis_lost) (len : ∀ ds S P, sp_Lis_lost ds S P → ds.length = 2)
     : FnD P w K mg base 1 f fd ["_law_g", "_law_rest"] sp_Lis_lost :=
  fn_d F sc_Lis_lost len fun cdv A outer s H E hr => ⟨rd_Lis_lost, (have nd := sc_Lis_lost.nd
  (jss_one
  (js_ret (je_gt (je_add (je_mul (je_sub (je_dget hr (je_var 0) je_str) je_int) (je_abs T.n_abs (ja_cons (je_var 1) ja_nil))) (je_dget hr (je_var 0) je_str)) (je_mul (je_dget hr (je_var 0) je_str) (je_dget hr (je_var 0) je_str)))))), fun ds S P h => match ds, len ds S P h, h with
  | [x0, x1], _, h => vc x0 x1 S P h⟩
theorem ok_Lrests {f : Addr} {fd : FuncData} (F : Fun K "_law_rests" "_law_rests" s_Lrests f fd) (T : Tx K mg) (vc : goal_Lrests) (len : ∀ ds S P, sp_Lrests ds S P → ds.length = 1)
    {f_Lis_lost : Addr} {fd_Lis_lost : FuncData} (G_Lis_lost : Does P w K mg base 1 "_law_is_lost" ["_law_g", "_law_rest"] f_Lis_lost fd_Lis_lost sp_Lis_lost) : FnD P w K mg base 2 f fd ["_law_g"] sp_Lrests :=
  fn_d F sc_Lrests len fun cdv A outer s H E hr => ⟨rd_Lrests, (have nd := sc_Lrests.nd
  (jss_cons
  (js_set 1 nd rfl (by first | exact Or.inl rfl | exact Or.inr rfl) (je_lstM ja_nil)) (jss_cons
  (js_for PassesOwn.never rfl (ji_range1 T.n_range (ja_cons je_int ja_nil)) (jg_name 2 nd rfl (by first | exact Or.inl rfl | exact Or.inr rfl)) (jss_cons
  (js_if (jt_val (je_f G_Lis_lost hr (ja_cons (je_var 0) (ja_cons (je_var 2) ja_nil)))) (jss_one
  (js_ret (je_add (je_lc [("_law_one", 3)] rfl nd (ji_seq (je_back (je_var 1))) (blkOk_by (N := ["_law_g", "_law_found", "_law_rest", "_law_one"]) (sc := defScope s_Lrests) (by decide +kernel)) (by decide) (fun _ _ _ _ _ => (jg_name 3 nd rfl (by first | exact Or.inl rfl | exact Or.inr rfl))) (fun _ _ _ _ _ => jts_nil) (fun _ _ _ _ _ => (je_sub je_int (je_var 3)))) (je_var 1)))) jss_nil) (jss_one
  (js_expr (je_append (je_var 1) (je_var 2)))))) (jss_one
  (js_ret (je_add (je_lc [("_law_one", 3)] rfl nd (ji_seq (je_back (je_var 1))) (blkOk_by (N := ["_law_g", "_law_found", "_law_rest", "_law_one"]) (sc := defScope s_Lrests) (by decide +kernel)) (by decide) (fun _ _ _ _ _ => (jg_name 3 nd rfl (by first | exact Or.inl rfl | exact Or.inr rfl))) (fun _ _ _ _ _ => jts_nil) (fun _ _ _ _ _ => (je_sub je_int (je_var 3)))) (je_var 1))))))), fun ds S P h => match ds, len ds S P h, h with
  | [x0], _, h => vc x0 S P h⟩
theorem ok_Lleads {f : Addr} {fd : FuncData} (F : Fun K "_law_leads" "_law_leads" s_Lleads f fd) (T : Tx K mg) (vc : goal_Lleads) (len : ∀ ds S P, sp_Lleads ds S P → ds.length = 3)
     : FnD P w K mg base 1 f fd ["_law_g", "_law_rest", "_law_more"] sp_Lleads :=
  fn_d F sc_Lleads len fun cdv A outer s H E hr => ⟨rd_Lleads, (have nd := sc_Lleads.nd
  (jss_one
  (js_ret (je_lc [("_law_figure", 3)] rfl nd (ji_range2 T.n_range (ja_cons (je_sub je_int (je_dget hr (je_var 0) je_str)) (ja_cons (je_add (je_dget hr (je_var 0) je_str) je_int) ja_nil))) (blkOk_by (N := ["_law_g", "_law_rest", "_law_more", "_law_figure"]) (sc := defScope s_Lleads) (by decide +kernel)) (by decide) (fun _ _ _ _ _ => (jg_name 3 nd rfl (by first | exact Or.inl rfl | exact Or.inr rfl))) (fun _ _ _ _ _ => jts_nil) (fun _ _ _ _ _ => (je_sub (je_add (je_mul (je_dget hr (je_var 0) je_str) (je_var 1)) (je_var 2)) (je_mul (je_var 3) (je_dget hr (je_var 0) je_str)))))))), fun ds S P h => match ds, len ds S P h, h with
  | [x0, x1, x2], _, h => vc x0 x1 x2 S P h⟩
theorem ok_Lis_safe {f : Addr} {fd : FuncData} (F : Fun K "_law_is_safe" "_law_is_safe" s_Lis_safe f fd) (T : Tx K mg) (vc : goal_Lis_safe) (len : ∀ ds S P, sp_Lis_safe ds S P → ds.length = 3)
    {f_Lleads : Addr} {fd_Lleads : FuncData} (G_Lleads : Does P w K mg base 1 "_law_leads" ["_law_g", "_law_rest", "_law_more"] f_Lleads fd_Lleads sp_Lleads) : FnD P w K mg base 2 f fd ["_law_g", "_law_rest", "_law_some"] sp_Lis_safe :=
  fn_d F sc_Lis_safe len fun cdv A outer s H E hr => ⟨rd_Lis_safe, (have nd := sc_Lis_safe.nd
  (jss_cons
  (js_for PassesOwn.never rfl (ji_seq (je_dget hr (je_var 0) je_str)) (jg_name 3 nd rfl (by first | exact Or.inl rfl | exact Or.inr rfl)) (jss_one
  (js_if (jt_not (jt_val (je_any T.n_any (ja_cons (je_lc [("_law_one", 4)] rfl nd (ji_seq (je_f G_Lleads hr (ja_cons (je_var 0) (ja_cons (je_var 1) (ja_cons (je_var 3) ja_nil))))) (blkOk_by (N := ["_law_g", "_law_rest", "_law_some", "_law_more", "_law_one"]) (sc := defScope s_Lis_safe) (by decide +kernel)) (by decide) (fun _ _ _ _ _ => (jg_name 4 nd rfl (by first | exact Or.inl rfl | exact Or.inr rfl))) (fun _ _ _ _ _ => jts_nil) (fun _ _ _ _ _ => (je_din hr (je_var 4) (je_var 2)))) ja_nil)))) (jss_one
  (js_ret je_bl)) jss_nil))) (jss_one
  (js_ret je_bl)))), fun ds S P h => match ds, len ds S P h, h with
  | [x0, x1, x2], _, h => vc x0 x1 x2 S P h⟩
theorem ok_Llayers {f : Addr} {fd : FuncData} (F : Fun K "_law_layers" "_law_layers" s_Llayers f fd) (T : Tx K mg) (vc : goal_Llayers) (len : ∀ ds S P, sp_Llayers ds S P → ds.length = 1)
    {f_Lrests : Addr} {fd_Lrests : FuncData} (G_Lrests : Does P w K mg base 2 "_law_rests" ["_law_g"] f_Lrests fd_Lrests sp_Lrests)
    {f_Lis_safe : Addr} {fd_Lis_safe : FuncData} (G_Lis_safe : Does P w K mg base 2 "_law_is_safe" ["_law_g", "_law_rest", "_law_some"] f_Lis_safe fd_Lis_safe sp_Lis_safe) : FnD P w K mg base 3 f fd ["_law_g"] sp_Llayers :=
  fn_d F sc_Llayers len fun cdv A outer s H E hr => ⟨rd_Llayers, (have nd := sc_Llayers.nd
  (jss_cons
  (js_asg (je_tup (ja_cons je_dnew (ja_cons (je_dictP T.n_dict rfl (ja_cons (je_lc [("_law_rest", 4)] rfl nd (ji_seq (je_f G_Lrests hr (ja_cons (je_var 0) ja_nil))) (blkOk_by (N := ["_law_g", "_law_found", "_law_some", "_law_count", "_law_rest", "_law_turn", "_law_gone"]) (sc := defScope s_Llayers) (by decide +kernel)) (by decide) (fun _ _ _ _ _ => (jg_name 4 nd rfl (by first | exact Or.inl rfl | exact Or.inr rfl))) (fun _ _ _ _ _ => jts_nil) (fun _ _ _ _ _ => (je_tup (ja_cons (je_var 4) (ja_cons je_bl ja_nil))))) ja_nil)) (ja_cons je_int ja_nil)))) (jg_tup rfl (jgs_cons (jg_name 1 nd rfl (by first | exact Or.inl rfl | exact Or.inr rfl)) (jgs_cons (jg_name 2 nd rfl (by first | exact Or.inl rfl | exact Or.inr rfl)) (jgs_cons (jg_name 3 nd rfl (by first | exact Or.inl rfl | exact Or.inr rfl)) jgs_nil))))) (jss_cons
  (js_for PassesOwn.never rfl (ji_range1 T.n_range (ja_cons (je_add (je_lenD T.n_len (ja_cons (je_var 2) ja_nil)) je_int) ja_nil)) (jg_name 5 nd rfl (by first | exact Or.inl rfl | exact Or.inr rfl)) (jss_cons
  (js_lock (js_setLc 6 [("_law_rest", 4)] rfl nd rfl rfl (sw_true rfl rfl rfl (by decide +kernel)) (ji_keys (je_var 2)) (blkOk_by (N := ["_law_g", "_law_found", "_law_some", "_law_count", "_law_rest", "_law_turn", "_law_gone"]) (sc := defScope s_Llayers) (by decide +kernel)) (by decide) (fun _ _ _ _ _ => (jg_name 4 nd rfl (by first | exact Or.inl rfl | exact Or.inr rfl))) (fun _ _ _ _ _ => (jts_one (jt_not (jt_val (je_f G_Lis_safe hr (ja_cons (je_var 0) (ja_cons (je_var 4) (ja_cons (je_var 2) ja_nil)))))))) (fun _ _ _ _ _ => (je_var 4)))) (jss_cons
  (js_for PassesOwn.never rfl (ji_seq (je_var 6)) (jg_name 4 nd rfl (by first | exact Or.inl rfl | exact Or.inr rfl)) (jss_cons
  (js_dput hr (je_var 1) (je_var 4) (je_var 3)) (jss_one
  (js_expr (je_dpop1 (je_var 2) (je_var 4)))))) (jss_cons
  (js_set 3 nd rfl (by first | exact Or.inl rfl | exact Or.inr rfl) (je_add (je_var 3) je_int)) (jss_one
  (js_if (jt_eq hr (je_var 6) (je_lst ja_nil)) (jss_cons
  (js_expr (je_dupd (je_var 1) (je_dictP T.n_dict rfl (ja_cons (je_lock (je_lc [("_law_rest", 4)] rfl nd (ji_keys (je_var 2)) (blkOk_by (N := ["_law_g", "_law_found", "_law_some", "_law_count", "_law_rest", "_law_turn", "_law_gone"]) (sc := defScope s_Llayers) (by decide +kernel)) (by decide) (fun _ _ _ _ _ => (jg_name 4 nd rfl (by first | exact Or.inl rfl | exact Or.inr rfl))) (fun _ _ _ _ _ => jts_nil) (fun _ _ _ _ _ => (je_tup (ja_cons (je_var 4) (ja_cons je_non ja_nil)))))) ja_nil)))) (jss_one
  (js_ret (je_var 1)))) jss_nil)))))) (jss_one
  (js_ret (je_var 1)))))), fun ds S P h => match ds, len ds S P h, h with
  | [x0], _, h => vc x0 S P h⟩
theorem ok_Ldue {f : Addr} {fd : FuncData} (F : Fun K "_law_due" "_law_due" s_Ldue f fd) (T : Tx K mg) (vc : goal_Ldue) (len : ∀ ds S P, sp_Ldue ds S P → ds.length = 2)
    {f_Llayers : Addr} {fd_Llayers : FuncData} (G_Llayers : Does P w K mg base 3 "_law_layers" ["_law_g"] f_Llayers fd_Llayers sp_Llayers)
    {f_Lrules : Addr} {fd_Lrules : FuncData} (G_Lrules : Does P w K mg base 2 "_law_rules" ["_law_game", "_law_late"] f_Lrules fd_Lrules sp_Lrules) : FnD P w K mg base 4 f fd ["_law_game", "_law_highest"] sp_Ldue :=
  fn_d F sc_Ldue len fun cdv A outer s H E hr => ⟨rd_Ldue, (have nd := sc_Ldue.nd
  (jss_cons
  (js_for PassesOwn.never rfl (ji_range1 T.n_range (ja_cons (je_add (je_var 1) je_int) ja_nil)) (jg_name 2 nd rfl (by first | exact Or.inl rfl | exact Or.inr rfl)) (jss_cons
  (js_set 3 nd rfl (by first | exact Or.inl rfl | exact Or.inr rfl) (je_f G_Llayers hr (ja_cons (je_f G_Lrules hr (ja_cons (je_var 0) (ja_cons (je_var 2) ja_nil))) ja_nil))) (jss_one
  (js_if (jt_w (jw_and (jt_din hr je_int (je_var 3)) (jw_and1 (jt_isN (je_dget hr (je_var 3) je_int) je_non)))) (jss_one
  (js_ret (je_var 2))) jss_nil)))) (jss_one
  (js_ret je_non)))), fun ds S P h => match ds, len ds S P h, h with
  | [x0, x1], _, h => vc x0 x1 S P h⟩
theorem ok_Lright {f : Addr} {fd : FuncData} (F : Fun K "_law_right" "_law_right" s_Lright f fd) (T : Tx K mg) (vc : goal_Lright) (len : ∀ ds S P, sp_Lright ds S P → ds.length = 1)
    {f_Ldrawn : Addr} {fd_Ldrawn : FuncData} (G_Ldrawn : Does P w K mg base 3 "_law_drawn" ["_law_box_here"] f_Ldrawn fd_Ldrawn sp_Ldrawn)
    {f_Ltake : Addr} {fd_Ltake : FuncData} (G_Ltake : Does P w K mg base 1 "_law_take" ["_law_box_here", "_law_size"] f_Ltake fd_Ltake sp_Ltake)
    {f_Ldue : Addr} {fd_Ldue : FuncData} (G_Ldue : Does P w K mg base 4 "_law_due" ["_law_game", "_law_highest"] f_Ldue fd_Ldue sp_Ldue)
    {f_least_lag : Addr} {fd_least_lag : FuncData} (G_least_lag : DoesK P w K mg base 6 "least_lag" ["base", "weights", "over", "mosts", "most", "top"] f_least_lag fd_least_lag sp_least_lag)
    {f_Lsame : Addr} {fd_Lsame : FuncData} (G_Lsame : Does P w K mg base 6 "_law_same" ["_law_found", "_law_due_here"] f_Lsame fd_Lsame sp_Lsame)
    (kb_least_lag_0 : KBn K fd_least_lag ["base", "weights", "over", "mosts", "most", "top"] 5 ["top"] (pick [0, 1, 2, 3, 4, 5]) (pick [0, 1, 2, 3, 4, 5]))
    (kb_least_lag_1 : KBn K fd_least_lag ["base", "weights", "over", "mosts", "most", "top"] 0 ["most", "mosts", "over", "weights", "base", "top"] (pick [4, 3, 2, 1, 0, 5]) (pick [4, 3, 2, 1, 0, 5]))
    (L_least_lag : LackB K fd_least_lag ["base", "weights", "over", "mosts", "most", "top"] [.int 6]) : FnD P w K mg base 7 f fd ["_law_box_here"] sp_Lright :=
  fn_d F sc_Lright len fun cdv A outer s H E hr => ⟨rd_Lright, (have nd := sc_Lright.nd
  (jss_cons
  (js_par 1 2 rfl nd rfl rfl (by decide) rfl rfl (ja_cons (je_f G_Ldrawn hr (ja_cons (je_var 0) ja_nil)) (ja_cons (je_f G_Ltake hr (ja_cons (je_var 0) (ja_cons je_int ja_nil))) ja_nil)) (by rfl)) (jss_cons
  (js_asg (je_var 1) (jg_tup rfl (jgs_cons (jg_name 3 nd rfl (by first | exact Or.inl rfl | exact Or.inr rfl)) (jgs_cons (jg_name 4 nd rfl (by first | exact Or.inl rfl | exact Or.inr rfl)) (jgs_cons (jg_name 5 nd rfl (by first | exact Or.inl rfl | exact Or.inr rfl)) (jgs_cons (jg_name 6 nd rfl (by first | exact Or.inl rfl | exact Or.inr rfl)) (jgs_cons (jg_name 7 nd rfl (by first | exact Or.inl rfl | exact Or.inr rfl)) jgs_nil))))))) (jss_cons
  (js_set 8 nd rfl (by first | exact Or.inl rfl | exact Or.inr rfl) (je_f G_Ldue hr (ja_cons (je_var 1) (ja_cons (je_var 2) ja_nil)))) (jss_cons
  (js_set 9 nd rfl (by first | exact Or.inl rfl | exact Or.inr rfl) (je_lstM (ja_cons (je_gk G_least_lag hr kb_least_lag_0 (ja_cons (je_var 3) (ja_cons (je_var 4) (ja_cons (je_var 5) (ja_cons (je_var 6) (ja_cons (je_var 7) ja_nil))))) (jk_cons (je_var 2) jk_nil)) ja_nil))) (jss_cons
  (js_expr (je_append (je_var 9) (je_gk0 G_least_lag hr kb_least_lag_1 (jk_cons (je_var 7) (jk_cons (je_var 6) (jk_cons (je_var 5) (jk_cons (je_var 4) (jk_cons (je_var 3) (jk_cons (je_var 2) jk_nil))))))))) (jss_frz 9 (jss_cons
  (js_if (jt_not (jt_val (je_f G_Lsame hr (ja_cons (je_var 9) (ja_cons (je_lst (ja_cons (je_var 8) (ja_cons (je_var 8) ja_nil))) ja_nil))))) (jss_one
  (js_ret je_bl)) jss_nil) (jss_cons
  (js_if (jt_isN (je_var 8) je_non) (jss_one
  (js_ret je_bl)) jss_nil) (jss_cons
  (js_setLc 10 [("_law_turn", 11)] rfl nd rfl rfl (sw_true rfl rfl rfl (by decide +kernel)) (ji_range1 T.n_range (ja_cons (je_add (je_var 2) je_int) ja_nil)) (blkOk_by (N := ["_law_box_here", "_law_game", "_law_highest", "_law_root", "_law_shares", "_law_by", "_law_wides", "_law_wide", "_law_due_here", "_law_found", "_law_some", "_law_turn"]) (sc := defScope s_Lright) (by decide +kernel)) (by decide) (fun _ _ _ _ _ => (jg_name 11 nd rfl (by first | exact Or.inl rfl | exact Or.inr rfl))) (fun _ _ _ _ _ => jts_nil) (fun _ _ _ _ _ => (je_gk G_least_lag hr kb_least_lag_0 (ja_cons (je_var 3) (ja_cons (je_var 4) (ja_cons (je_var 5) (ja_cons (je_var 6) (ja_cons (je_var 7) ja_nil))))) (jk_cons (je_var 11) jk_nil)))) (jss_cons
  (js_if (jt_w (jw_or (jt_not (jt_val (je_f G_Lsame hr (ja_cons (je_var 10) (ja_cons (je_add (je_mul (je_lst (ja_cons je_non ja_nil)) (je_var 8)) (je_mul (je_lst (ja_cons (je_var 8) ja_nil)) (je_sub (je_add (je_var 2) je_int) (je_var 8)))) ja_nil))))) (jw_or1 (jt_ne hr (je_cI T.c_TOP) je_int)))) (jss_one
  (js_ret je_bl)) jss_nil) (jss_one
  (js_ret (je_f G_Lsame hr (ja_cons (je_gL G_least_lag hr L_least_lag (ja_cons (je_var 3) (ja_cons (je_var 4) (ja_cons (je_var 5) (ja_cons (je_var 6) (ja_cons (je_var 7) ja_nil))))) (dv := [.int 6]) (hdv := fun _ => (RepL.cons rep_int RepL.nil))) (ja_cons (je_var 8) ja_nil)))))))))))))))), fun ds S P h => match ds, len ds S P h, h with
  | [x0], _, h => vc x0 S P h⟩
theorem ok_law {f : Addr} {fd : FuncData} (F : Fun K "law" "law" s_law f fd) (T : Tx K mg) (vc : goal_law) (len : ∀ ds S P, sp_law ds S P → ds.length = 1)
    {f_Lright : Addr} {fd_Lright : FuncData} (G_Lright : Does P w K mg base 7 "_law_right" ["_law_box_here"] f_Lright fd_Lright sp_Lright)
    {f_Lbox : Addr} {fd_Lbox : FuncData} (G_Lbox : Does P w K mg base 2 "_law_box" ["_law_script", "_law_k"] f_Lbox fd_Lbox sp_Lbox) : FnD P w K mg base 8 f fd ["_law_script"] sp_law :=
  fn_d F sc_law len fun cdv A outer s H E hr => ⟨rd_law, (have nd := sc_law.nd
  (jss_one
  (js_ret (je_all T.n_all (ja_cons (je_lc [("_law_k", 1)] rfl nd (ji_range1 T.n_range (ja_cons (je_max2 T.n_max (ja_cons je_int (ja_cons (je_min2 T.n_min (ja_cons je_int (ja_cons (je_len T.n_len (ja_cons (je_var 0) ja_nil)) ja_nil))) ja_nil))) ja_nil)) (blkOk_by (N := ["_law_script", "_law_k"]) (sc := defScope s_law) (by decide +kernel)) (by decide) (fun _ _ _ _ _ => (jg_name 1 nd rfl (by first | exact Or.inl rfl | exact Or.inr rfl))) (fun _ _ _ _ _ => jts_nil) (fun _ _ _ _ _ => (je_f G_Lright hr (ja_cons (je_f G_Lbox hr (ja_cons (je_var 0) (ja_cons (je_var 1) ja_nil))) ja_nil)))) ja_nil))))), fun ds S P h => match ds, len ds S P h, h with
  | [x0], _, h => vc x0 S P h⟩
end
theorem all_mk {l : PySem.W.OpenLaw} {w : World} {K : PySem.W.Frag} {h : Heap} {mg : Str → Option Value} {fa : Addr} (X : K.In h) (G : h.Ns mainGlobals mg) (hfa : mg "law" = some (.ref fa))
    {C_Game : Addr} (aC_Game : PySem.W.nsIn K mainGlobals "Game" = some (some (.ref C_Game))) (pg_Game : PySem.W.plainGet K C_Game Str.empty = true) (hd_Game : PySem.W.hasDictIn K C_Game = true) (po_Game : PySem.W.plainOver K C_Game = true) (sa_Game : PySem.W.findIn K (.ref C_Game) "__setattr__" = some (some (.builtin "object.__setattr__"))) (mk_Game : PySem.W.makesIn K C_Game = true) (kc_Game : PySem.W.keepIn K (.ref C_Game) = true)
    (nA_Game_own_base : PySem.W.findIn K (.ref C_Game) "own_base" = some none)
    (nA_Game_own_most : PySem.W.findIn K (.ref C_Game) "own_most" = some none)
    (nA_Game_own_step : PySem.W.findIn K (.ref C_Game) "own_step" = some none)
    (nA_Game_own_sums : PySem.W.findIn K (.ref C_Game) "own_sums" = some none)
    {f_wall : Addr} {od_wall an_wall : Option Addr} {sl_wall : Array (Option Value)} {oc_wall kV_wall dc_wall pm_wall cd_wall ct_wall : Value}
    (a_wall : PySem.W.nsIn K mainGlobals "_wall" = some (some (.ref f_wall)))
    (l_wall : K.lookup f_wall = some ⟨oc_wall, od_wall, .func (PySem.W.fnOf "_wall" "_wall" (defArgs s_wall) (defBody s_wall) (defScope s_wall) .none kV_wall dc_wall pm_wall an_wall cd_wall ct_wall), sl_wall⟩)
    (c_wall : PySem.W.codeIn K cd_wall "_wall" = true) (k_wall : PySem.W.keepIn K (.ref f_wall) = true)
    {f_power : Addr} {od_power an_power : Option Addr} {sl_power : Array (Option Value)} {oc_power kV_power dc_power pm_power cd_power ct_power : Value}
    (a_power : PySem.W.nsIn K mainGlobals "power" = some (some (.ref f_power)))
    (l_power : K.lookup f_power = some ⟨oc_power, od_power, .func (PySem.W.fnOf "power" "power" (defArgs s_power) (defBody s_power) (defScope s_power) .none kV_power dc_power pm_power an_power cd_power ct_power), sl_power⟩)
    (c_power : PySem.W.codeIn K cd_power "power" = true) (k_power : PySem.W.keepIn K (.ref f_power) = true)
    {f_sums_of : Addr} {od_sums_of an_sums_of : Option Addr} {sl_sums_of : Array (Option Value)} {oc_sums_of kV_sums_of dc_sums_of pm_sums_of cd_sums_of ct_sums_of : Value}
    (a_sums_of : PySem.W.nsIn K mainGlobals "sums_of" = some (some (.ref f_sums_of)))
    (l_sums_of : K.lookup f_sums_of = some ⟨oc_sums_of, od_sums_of, .func (PySem.W.fnOf "sums_of" "sums_of" (defArgs s_sums_of) (defBody s_sums_of) (defScope s_sums_of) .none kV_sums_of dc_sums_of pm_sums_of an_sums_of cd_sums_of ct_sums_of), sl_sums_of⟩)
    (c_sums_of : PySem.W.codeIn K cd_sums_of "sums_of" = true) (k_sums_of : PySem.W.keepIn K (.ref f_sums_of) = true)
    {f_Game_init : Addr} {od_Game_init an_Game_init : Option Addr} {sl_Game_init : Array (Option Value)} {oc_Game_init kV_Game_init dc_Game_init pm_Game_init cd_Game_init ct_Game_init : Value}
    (a_Game_init : PySem.W.findIn K (.ref C_Game) "__init__" = some (some (.ref f_Game_init))) (i_Game_init : PySem.W.isFn K (.ref f_Game_init) = true)
    (l_Game_init : K.lookup f_Game_init = some ⟨oc_Game_init, od_Game_init, .func (PySem.W.fnOf "__init__" "Game.__init__" (defArgs s_Game_init) (defBody s_Game_init) (defScope s_Game_init) .none kV_Game_init dc_Game_init pm_Game_init an_Game_init cd_Game_init ct_Game_init), sl_Game_init⟩)
    (c_Game_init : PySem.W.codeIn K cd_Game_init "Game.__init__" = true) (k_Game_init : PySem.W.keepIn K (.ref f_Game_init) = true)
    {f_Game_is_lost : Addr} {od_Game_is_lost an_Game_is_lost : Option Addr} {sl_Game_is_lost : Array (Option Value)} {oc_Game_is_lost kV_Game_is_lost dc_Game_is_lost pm_Game_is_lost cd_Game_is_lost ct_Game_is_lost : Value}
    (a_Game_is_lost : PySem.W.findIn K (.ref C_Game) "is_lost" = some (some (.ref f_Game_is_lost))) (i_Game_is_lost : PySem.W.isFn K (.ref f_Game_is_lost) = true)
    (l_Game_is_lost : K.lookup f_Game_is_lost = some ⟨oc_Game_is_lost, od_Game_is_lost, .func (PySem.W.fnOf "is_lost" "Game.is_lost" (defArgs s_Game_is_lost) (defBody s_Game_is_lost) (defScope s_Game_is_lost) .none kV_Game_is_lost dc_Game_is_lost pm_Game_is_lost an_Game_is_lost cd_Game_is_lost ct_Game_is_lost), sl_Game_is_lost⟩)
    (c_Game_is_lost : PySem.W.codeIn K cd_Game_is_lost "Game.is_lost" = true) (k_Game_is_lost : PySem.W.keepIn K (.ref f_Game_is_lost) = true)
    {f_Game_greatest : Addr} {od_Game_greatest an_Game_greatest : Option Addr} {sl_Game_greatest : Array (Option Value)} {oc_Game_greatest kV_Game_greatest dc_Game_greatest pm_Game_greatest cd_Game_greatest ct_Game_greatest : Value}
    (a_Game_greatest : PySem.W.findIn K (.ref C_Game) "greatest" = some (some (.ref f_Game_greatest))) (i_Game_greatest : PySem.W.isFn K (.ref f_Game_greatest) = true)
    (l_Game_greatest : K.lookup f_Game_greatest = some ⟨oc_Game_greatest, od_Game_greatest, .func (PySem.W.fnOf "greatest" "Game.greatest" (defArgs s_Game_greatest) (defBody s_Game_greatest) (defScope s_Game_greatest) .none kV_Game_greatest dc_Game_greatest pm_Game_greatest an_Game_greatest cd_Game_greatest ct_Game_greatest), sl_Game_greatest⟩)
    (c_Game_greatest : PySem.W.codeIn K cd_Game_greatest "Game.greatest" = true) (k_Game_greatest : PySem.W.keepIn K (.ref f_Game_greatest) = true)
    {f_Game_rests : Addr} {od_Game_rests an_Game_rests : Option Addr} {sl_Game_rests : Array (Option Value)} {oc_Game_rests kV_Game_rests dc_Game_rests pm_Game_rests cd_Game_rests ct_Game_rests : Value}
    (a_Game_rests : PySem.W.findIn K (.ref C_Game) "rests" = some (some (.ref f_Game_rests))) (i_Game_rests : PySem.W.isFn K (.ref f_Game_rests) = true)
    (l_Game_rests : K.lookup f_Game_rests = some ⟨oc_Game_rests, od_Game_rests, .func (PySem.W.fnOf "rests" "Game.rests" (defArgs s_Game_rests) (defBody s_Game_rests) (defScope s_Game_rests) .none kV_Game_rests dc_Game_rests pm_Game_rests an_Game_rests cd_Game_rests ct_Game_rests), sl_Game_rests⟩)
    (c_Game_rests : PySem.W.codeIn K cd_Game_rests "Game.rests" = true) (k_Game_rests : PySem.W.keepIn K (.ref f_Game_rests) = true)
    {f_Game_look : Addr} {od_Game_look an_Game_look : Option Addr} {sl_Game_look : Array (Option Value)} {oc_Game_look kV_Game_look dc_Game_look pm_Game_look cd_Game_look ct_Game_look : Value}
    (a_Game_look : PySem.W.findIn K (.ref C_Game) "look" = some (some (.ref f_Game_look))) (i_Game_look : PySem.W.isFn K (.ref f_Game_look) = true)
    (l_Game_look : K.lookup f_Game_look = some ⟨oc_Game_look, od_Game_look, .func (PySem.W.fnOf "look" "Game.look" (defArgs s_Game_look) (defBody s_Game_look) (defScope s_Game_look) .none kV_Game_look dc_Game_look pm_Game_look an_Game_look cd_Game_look ct_Game_look), sl_Game_look⟩)
    (c_Game_look : PySem.W.codeIn K cd_Game_look "Game.look" = true) (k_Game_look : PySem.W.keepIn K (.ref f_Game_look) = true)
    {f_Game_led_to : Addr} {od_Game_led_to an_Game_led_to : Option Addr} {sl_Game_led_to : Array (Option Value)} {oc_Game_led_to kV_Game_led_to dc_Game_led_to pm_Game_led_to cd_Game_led_to ct_Game_led_to : Value}
    (a_Game_led_to : PySem.W.findIn K (.ref C_Game) "led_to" = some (some (.ref f_Game_led_to))) (i_Game_led_to : PySem.W.isFn K (.ref f_Game_led_to) = true)
    (l_Game_led_to : K.lookup f_Game_led_to = some ⟨oc_Game_led_to, od_Game_led_to, .func (PySem.W.fnOf "led_to" "Game.led_to" (defArgs s_Game_led_to) (defBody s_Game_led_to) (defScope s_Game_led_to) .none kV_Game_led_to dc_Game_led_to pm_Game_led_to an_Game_led_to cd_Game_led_to ct_Game_led_to), sl_Game_led_to⟩)
    (c_Game_led_to : PySem.W.codeIn K cd_Game_led_to "Game.led_to" = true) (k_Game_led_to : PySem.W.keepIn K (.ref f_Game_led_to) = true)
    {f_Game_is_held : Addr} {od_Game_is_held an_Game_is_held : Option Addr} {sl_Game_is_held : Array (Option Value)} {oc_Game_is_held kV_Game_is_held dc_Game_is_held pm_Game_is_held cd_Game_is_held ct_Game_is_held : Value}
    (a_Game_is_held : PySem.W.findIn K (.ref C_Game) "is_held" = some (some (.ref f_Game_is_held))) (i_Game_is_held : PySem.W.isFn K (.ref f_Game_is_held) = true)
    (l_Game_is_held : K.lookup f_Game_is_held = some ⟨oc_Game_is_held, od_Game_is_held, .func (PySem.W.fnOf "is_held" "Game.is_held" (defArgs s_Game_is_held) (defBody s_Game_is_held) (defScope s_Game_is_held) .none kV_Game_is_held dc_Game_is_held pm_Game_is_held an_Game_is_held cd_Game_is_held ct_Game_is_held), sl_Game_is_held⟩)
    (c_Game_is_held : PySem.W.codeIn K cd_Game_is_held "Game.is_held" = true) (k_Game_is_held : PySem.W.keepIn K (.ref f_Game_is_held) = true)
    {f_Game_first_fatal : Addr} {od_Game_first_fatal an_Game_first_fatal : Option Addr} {sl_Game_first_fatal : Array (Option Value)} {oc_Game_first_fatal kV_Game_first_fatal dc_Game_first_fatal pm_Game_first_fatal cd_Game_first_fatal ct_Game_first_fatal : Value}
    (a_Game_first_fatal : PySem.W.findIn K (.ref C_Game) "first_fatal" = some (some (.ref f_Game_first_fatal))) (i_Game_first_fatal : PySem.W.isFn K (.ref f_Game_first_fatal) = true)
    (l_Game_first_fatal : K.lookup f_Game_first_fatal = some ⟨oc_Game_first_fatal, od_Game_first_fatal, .func (PySem.W.fnOf "first_fatal" "Game.first_fatal" (defArgs s_Game_first_fatal) (defBody s_Game_first_fatal) (defScope s_Game_first_fatal) .none kV_Game_first_fatal dc_Game_first_fatal pm_Game_first_fatal an_Game_first_fatal cd_Game_first_fatal ct_Game_first_fatal), sl_Game_first_fatal⟩)
    (c_Game_first_fatal : PySem.W.codeIn K cd_Game_first_fatal "Game.first_fatal" = true) (k_Game_first_fatal : PySem.W.keepIn K (.ref f_Game_first_fatal) = true)
    {f_Game_ranks : Addr} {od_Game_ranks an_Game_ranks : Option Addr} {sl_Game_ranks : Array (Option Value)} {oc_Game_ranks kV_Game_ranks dc_Game_ranks pm_Game_ranks cd_Game_ranks ct_Game_ranks : Value}
    (a_Game_ranks : PySem.W.findIn K (.ref C_Game) "ranks" = some (some (.ref f_Game_ranks))) (i_Game_ranks : PySem.W.isFn K (.ref f_Game_ranks) = true)
    (l_Game_ranks : K.lookup f_Game_ranks = some ⟨oc_Game_ranks, od_Game_ranks, .func (PySem.W.fnOf "ranks" "Game.ranks" (defArgs s_Game_ranks) (defBody s_Game_ranks) (defScope s_Game_ranks) .none kV_Game_ranks dc_Game_ranks pm_Game_ranks an_Game_ranks cd_Game_ranks ct_Game_ranks), sl_Game_ranks⟩)
    (c_Game_ranks : PySem.W.codeIn K cd_Game_ranks "Game.ranks" = true) (k_Game_ranks : PySem.W.keepIn K (.ref f_Game_ranks) = true)
    {KD_least_lag : Addr} {q_least_lag_0 : Tok}
    {f_least_lag : Addr} {od_least_lag an_least_lag : Option Addr} {sl_least_lag : Array (Option Value)} {oc_least_lag dc_least_lag pm_least_lag cd_least_lag ct_least_lag : Value}
    (a_least_lag : PySem.W.nsIn K mainGlobals "least_lag" = some (some (.ref f_least_lag)))
    (l_least_lag : K.lookup f_least_lag = some ⟨oc_least_lag, od_least_lag, .func (PySem.W.fnOf "least_lag" "least_lag" (defArgs s_least_lag) (defBody s_least_lag) (defScope s_least_lag) .none (.ref KD_least_lag) dc_least_lag pm_least_lag an_least_lag cd_least_lag ct_least_lag), sl_least_lag⟩)
    (kd_least_lag_0 : PySem.W.nsIn K KD_least_lag "top" = some (some (.int 6 q_least_lag_0)))
    (c_least_lag : PySem.W.codeIn K cd_least_lag "least_lag" = true) (k_least_lag : PySem.W.keepIn K (.ref f_least_lag) = true)
    {f_Lcell_at : Addr} {od_Lcell_at an_Lcell_at : Option Addr} {sl_Lcell_at : Array (Option Value)} {oc_Lcell_at kV_Lcell_at dc_Lcell_at pm_Lcell_at cd_Lcell_at ct_Lcell_at : Value}
    (a_Lcell_at : PySem.W.nsIn K mainGlobals "_law_cell_at" = some (some (.ref f_Lcell_at)))
    (l_Lcell_at : K.lookup f_Lcell_at = some ⟨oc_Lcell_at, od_Lcell_at, .func (PySem.W.fnOf "_law_cell_at" "_law_cell_at" (defArgs s_Lcell_at) (defBody s_Lcell_at) (defScope s_Lcell_at) .none kV_Lcell_at dc_Lcell_at pm_Lcell_at an_Lcell_at cd_Lcell_at ct_Lcell_at), sl_Lcell_at⟩)
    (c_Lcell_at : PySem.W.codeIn K cd_Lcell_at "_law_cell_at" = true) (k_Lcell_at : PySem.W.keepIn K (.ref f_Lcell_at) = true)
    {f_Lbox : Addr} {od_Lbox an_Lbox : Option Addr} {sl_Lbox : Array (Option Value)} {oc_Lbox kV_Lbox dc_Lbox pm_Lbox cd_Lbox ct_Lbox : Value}
    (a_Lbox : PySem.W.nsIn K mainGlobals "_law_box" = some (some (.ref f_Lbox)))
    (l_Lbox : K.lookup f_Lbox = some ⟨oc_Lbox, od_Lbox, .func (PySem.W.fnOf "_law_box" "_law_box" (defArgs s_Lbox) (defBody s_Lbox) (defScope s_Lbox) .none kV_Lbox dc_Lbox pm_Lbox an_Lbox cd_Lbox ct_Lbox), sl_Lbox⟩)
    (c_Lbox : PySem.W.codeIn K cd_Lbox "_law_box" = true) (k_Lbox : PySem.W.keepIn K (.ref f_Lbox) = true)
    {f_Ltake : Addr} {od_Ltake an_Ltake : Option Addr} {sl_Ltake : Array (Option Value)} {oc_Ltake kV_Ltake dc_Ltake pm_Ltake cd_Ltake ct_Ltake : Value}
    (a_Ltake : PySem.W.nsIn K mainGlobals "_law_take" = some (some (.ref f_Ltake)))
    (l_Ltake : K.lookup f_Ltake = some ⟨oc_Ltake, od_Ltake, .func (PySem.W.fnOf "_law_take" "_law_take" (defArgs s_Ltake) (defBody s_Ltake) (defScope s_Ltake) .none kV_Ltake dc_Ltake pm_Ltake an_Ltake cd_Ltake ct_Ltake), sl_Ltake⟩)
    (c_Ltake : PySem.W.codeIn K cd_Ltake "_law_take" = true) (k_Ltake : PySem.W.keepIn K (.ref f_Ltake) = true)
    {f_Lof : Addr} {od_Lof an_Lof : Option Addr} {sl_Lof : Array (Option Value)} {oc_Lof kV_Lof dc_Lof pm_Lof cd_Lof ct_Lof : Value}
    (a_Lof : PySem.W.nsIn K mainGlobals "_law_of" = some (some (.ref f_Lof)))
    (l_Lof : K.lookup f_Lof = some ⟨oc_Lof, od_Lof, .func (PySem.W.fnOf "_law_of" "_law_of" (defArgs s_Lof) (defBody s_Lof) (defScope s_Lof) .none kV_Lof dc_Lof pm_Lof an_Lof cd_Lof ct_Lof), sl_Lof⟩)
    (c_Lof : PySem.W.codeIn K cd_Lof "_law_of" = true) (k_Lof : PySem.W.keepIn K (.ref f_Lof) = true)
    {f_Lsame : Addr} {od_Lsame an_Lsame : Option Addr} {sl_Lsame : Array (Option Value)} {oc_Lsame kV_Lsame dc_Lsame pm_Lsame cd_Lsame ct_Lsame : Value}
    (a_Lsame : PySem.W.nsIn K mainGlobals "_law_same" = some (some (.ref f_Lsame)))
    (l_Lsame : K.lookup f_Lsame = some ⟨oc_Lsame, od_Lsame, .func (PySem.W.fnOf "_law_same" "_law_same" (defArgs s_Lsame) (defBody s_Lsame) (defScope s_Lsame) .none kV_Lsame dc_Lsame pm_Lsame an_Lsame cd_Lsame ct_Lsame), sl_Lsame⟩)
    (c_Lsame : PySem.W.codeIn K cd_Lsame "_law_same" = true) (k_Lsame : PySem.W.keepIn K (.ref f_Lsame) = true)
    {f_Lsums : Addr} {od_Lsums an_Lsums : Option Addr} {sl_Lsums : Array (Option Value)} {oc_Lsums kV_Lsums dc_Lsums pm_Lsums cd_Lsums ct_Lsums : Value}
    (a_Lsums : PySem.W.nsIn K mainGlobals "_law_sums" = some (some (.ref f_Lsums)))
    (l_Lsums : K.lookup f_Lsums = some ⟨oc_Lsums, od_Lsums, .func (PySem.W.fnOf "_law_sums" "_law_sums" (defArgs s_Lsums) (defBody s_Lsums) (defScope s_Lsums) .none kV_Lsums dc_Lsums pm_Lsums an_Lsums cd_Lsums ct_Lsums), sl_Lsums⟩)
    (c_Lsums : PySem.W.codeIn K cd_Lsums "_law_sums" = true) (k_Lsums : PySem.W.keepIn K (.ref f_Lsums) = true)
    {f_Ldrawn : Addr} {od_Ldrawn an_Ldrawn : Option Addr} {sl_Ldrawn : Array (Option Value)} {oc_Ldrawn kV_Ldrawn dc_Ldrawn pm_Ldrawn cd_Ldrawn ct_Ldrawn : Value}
    (a_Ldrawn : PySem.W.nsIn K mainGlobals "_law_drawn" = some (some (.ref f_Ldrawn)))
    (l_Ldrawn : K.lookup f_Ldrawn = some ⟨oc_Ldrawn, od_Ldrawn, .func (PySem.W.fnOf "_law_drawn" "_law_drawn" (defArgs s_Ldrawn) (defBody s_Ldrawn) (defScope s_Ldrawn) .none kV_Ldrawn dc_Ldrawn pm_Ldrawn an_Ldrawn cd_Ldrawn ct_Ldrawn), sl_Ldrawn⟩)
    (c_Ldrawn : PySem.W.codeIn K cd_Ldrawn "_law_drawn" = true) (k_Ldrawn : PySem.W.keepIn K (.ref f_Ldrawn) = true)
    {f_Lrules : Addr} {od_Lrules an_Lrules : Option Addr} {sl_Lrules : Array (Option Value)} {oc_Lrules kV_Lrules dc_Lrules pm_Lrules cd_Lrules ct_Lrules : Value}
    (a_Lrules : PySem.W.nsIn K mainGlobals "_law_rules" = some (some (.ref f_Lrules)))
    (l_Lrules : K.lookup f_Lrules = some ⟨oc_Lrules, od_Lrules, .func (PySem.W.fnOf "_law_rules" "_law_rules" (defArgs s_Lrules) (defBody s_Lrules) (defScope s_Lrules) .none kV_Lrules dc_Lrules pm_Lrules an_Lrules cd_Lrules ct_Lrules), sl_Lrules⟩)
    (c_Lrules : PySem.W.codeIn K cd_Lrules "_law_rules" = true) (k_Lrules : PySem.W.keepIn K (.ref f_Lrules) = true)
    {f_Lis_lost : Addr} {od_Lis_lost an_Lis_lost : Option Addr} {sl_Lis_lost : Array (Option Value)} {oc_Lis_lost kV_Lis_lost dc_Lis_lost pm_Lis_lost cd_Lis_lost ct_Lis_lost : Value}
    (a_Lis_lost : PySem.W.nsIn K mainGlobals "_law_is_lost" = some (some (.ref f_Lis_lost)))
    (l_Lis_lost : K.lookup f_Lis_lost = some ⟨oc_Lis_lost, od_Lis_lost, .func (PySem.W.fnOf "_law_is_lost" "_law_is_lost" (defArgs s_Lis_lost) (defBody s_Lis_lost) (defScope s_Lis_lost) .none kV_Lis_lost dc_Lis_lost pm_Lis_lost an_Lis_lost cd_Lis_lost ct_Lis_lost), sl_Lis_lost⟩)
    (c_Lis_lost : PySem.W.codeIn K cd_Lis_lost "_law_is_lost" = true) (k_Lis_lost : PySem.W.keepIn K (.ref f_Lis_lost) = true)
    {f_Lrests : Addr} {od_Lrests an_Lrests : Option Addr} {sl_Lrests : Array (Option Value)} {oc_Lrests kV_Lrests dc_Lrests pm_Lrests cd_Lrests ct_Lrests : Value}
    (a_Lrests : PySem.W.nsIn K mainGlobals "_law_rests" = some (some (.ref f_Lrests)))
    (l_Lrests : K.lookup f_Lrests = some ⟨oc_Lrests, od_Lrests, .func (PySem.W.fnOf "_law_rests" "_law_rests" (defArgs s_Lrests) (defBody s_Lrests) (defScope s_Lrests) .none kV_Lrests dc_Lrests pm_Lrests an_Lrests cd_Lrests ct_Lrests), sl_Lrests⟩)
    (c_Lrests : PySem.W.codeIn K cd_Lrests "_law_rests" = true) (k_Lrests : PySem.W.keepIn K (.ref f_Lrests) = true)
    {f_Lleads : Addr} {od_Lleads an_Lleads : Option Addr} {sl_Lleads : Array (Option Value)} {oc_Lleads kV_Lleads dc_Lleads pm_Lleads cd_Lleads ct_Lleads : Value}
    (a_Lleads : PySem.W.nsIn K mainGlobals "_law_leads" = some (some (.ref f_Lleads)))
    (l_Lleads : K.lookup f_Lleads = some ⟨oc_Lleads, od_Lleads, .func (PySem.W.fnOf "_law_leads" "_law_leads" (defArgs s_Lleads) (defBody s_Lleads) (defScope s_Lleads) .none kV_Lleads dc_Lleads pm_Lleads an_Lleads cd_Lleads ct_Lleads), sl_Lleads⟩)
    (c_Lleads : PySem.W.codeIn K cd_Lleads "_law_leads" = true) (k_Lleads : PySem.W.keepIn K (.ref f_Lleads) = true)
    {f_Lis_safe : Addr} {od_Lis_safe an_Lis_safe : Option Addr} {sl_Lis_safe : Array (Option Value)} {oc_Lis_safe kV_Lis_safe dc_Lis_safe pm_Lis_safe cd_Lis_safe ct_Lis_safe : Value}
    (a_Lis_safe : PySem.W.nsIn K mainGlobals "_law_is_safe" = some (some (.ref f_Lis_safe)))
    (l_Lis_safe : K.lookup f_Lis_safe = some ⟨oc_Lis_safe, od_Lis_safe, .func (PySem.W.fnOf "_law_is_safe" "_law_is_safe" (defArgs s_Lis_safe) (defBody s_Lis_safe) (defScope s_Lis_safe) .none kV_Lis_safe dc_Lis_safe pm_Lis_safe an_Lis_safe cd_Lis_safe ct_Lis_safe), sl_Lis_safe⟩)
    (c_Lis_safe : PySem.W.codeIn K cd_Lis_safe "_law_is_safe" = true) (k_Lis_safe : PySem.W.keepIn K (.ref f_Lis_safe) = true)
    {f_Llayers : Addr} {od_Llayers an_Llayers : Option Addr} {sl_Llayers : Array (Option Value)} {oc_Llayers kV_Llayers dc_Llayers pm_Llayers cd_Llayers ct_Llayers : Value}
    (a_Llayers : PySem.W.nsIn K mainGlobals "_law_layers" = some (some (.ref f_Llayers)))
    (l_Llayers : K.lookup f_Llayers = some ⟨oc_Llayers, od_Llayers, .func (PySem.W.fnOf "_law_layers" "_law_layers" (defArgs s_Llayers) (defBody s_Llayers) (defScope s_Llayers) .none kV_Llayers dc_Llayers pm_Llayers an_Llayers cd_Llayers ct_Llayers), sl_Llayers⟩)
    (c_Llayers : PySem.W.codeIn K cd_Llayers "_law_layers" = true) (k_Llayers : PySem.W.keepIn K (.ref f_Llayers) = true)
    {f_Ldue : Addr} {od_Ldue an_Ldue : Option Addr} {sl_Ldue : Array (Option Value)} {oc_Ldue kV_Ldue dc_Ldue pm_Ldue cd_Ldue ct_Ldue : Value}
    (a_Ldue : PySem.W.nsIn K mainGlobals "_law_due" = some (some (.ref f_Ldue)))
    (l_Ldue : K.lookup f_Ldue = some ⟨oc_Ldue, od_Ldue, .func (PySem.W.fnOf "_law_due" "_law_due" (defArgs s_Ldue) (defBody s_Ldue) (defScope s_Ldue) .none kV_Ldue dc_Ldue pm_Ldue an_Ldue cd_Ldue ct_Ldue), sl_Ldue⟩)
    (c_Ldue : PySem.W.codeIn K cd_Ldue "_law_due" = true) (k_Ldue : PySem.W.keepIn K (.ref f_Ldue) = true)
    {f_Lright : Addr} {od_Lright an_Lright : Option Addr} {sl_Lright : Array (Option Value)} {oc_Lright kV_Lright dc_Lright pm_Lright cd_Lright ct_Lright : Value}
    (a_Lright : PySem.W.nsIn K mainGlobals "_law_right" = some (some (.ref f_Lright)))
    (l_Lright : K.lookup f_Lright = some ⟨oc_Lright, od_Lright, .func (PySem.W.fnOf "_law_right" "_law_right" (defArgs s_Lright) (defBody s_Lright) (defScope s_Lright) .none kV_Lright dc_Lright pm_Lright an_Lright cd_Lright ct_Lright), sl_Lright⟩)
    (c_Lright : PySem.W.codeIn K cd_Lright "_law_right" = true) (k_Lright : PySem.W.keepIn K (.ref f_Lright) = true)
    {f_law : Addr} {od_law an_law : Option Addr} {sl_law : Array (Option Value)} {oc_law kV_law dc_law pm_law cd_law ct_law : Value}
    (a_law : PySem.W.nsIn K mainGlobals "law" = some (some (.ref f_law)))
    (l_law : K.lookup f_law = some ⟨oc_law, od_law, .func (PySem.W.fnOf "law" "law" (defArgs s_law) (defBody s_law) (defScope s_law) .none kV_law dc_law pm_law an_law cd_law ct_law), sl_law⟩)
    (c_law : PySem.W.codeIn K cd_law "law" = true) (k_law : PySem.W.keepIn K (.ref f_law) = true)
    (z_abs : PySem.W.nsIn K mainGlobals "abs" = some none)
    (z_all : PySem.W.nsIn K mainGlobals "all" = some none)
    (z_any : PySem.W.nsIn K mainGlobals "any" = some none)
    (z_bool : PySem.W.nsIn K mainGlobals "bool" = some none)
    (z_dict : PySem.W.nsIn K mainGlobals "dict" = some none)
    (z_int : PySem.W.nsIn K mainGlobals "int" = some none)
    (z_isinstance : PySem.W.nsIn K mainGlobals "isinstance" = some none)
    (z_len : PySem.W.nsIn K mainGlobals "len" = some none)
    (z_list : PySem.W.nsIn K mainGlobals "list" = some none)
    (z_max : PySem.W.nsIn K mainGlobals "max" = some none)
    (z_min : PySem.W.nsIn K mainGlobals "min" = some none)
    (z_range : PySem.W.nsIn K mainGlobals "range" = some none)
    (z_set : PySem.W.nsIn K mainGlobals "set" = some none)
    (z_sorted : PySem.W.nsIn K mainGlobals "sorted" = some none)
    (z_str : PySem.W.nsIn K mainGlobals "str" = some none)
    (z_tuple : PySem.W.nsIn K mainGlobals "tuple" = some none)
    (z_zip : PySem.W.nsIn K mainGlobals "zip" = some none)
    {q_MOST_STATES : Tok} (g_MOST_STATES : PySem.W.nsIn K mainGlobals "MOST_STATES" = some (some (.int 2000 q_MOST_STATES)))
    {q_TOP : Tok} (g_TOP : PySem.W.nsIn K mainGlobals "TOP" = some (some (.int 6 q_TOP)))
    : ∃ fd : FuncData, (∀ (s : Shared) (v : Value), BindsTo s fd ⟨[v], []⟩ [("_law_script", v)]) ∧ ∀ base : Heap, K.In base → base.Ns mainGlobals mg → DG.FnG l.prog w K mg base CX0 8 fa fd ["_law_script"] (spLaw K) := by
  have e := hfa.symm.trans (PySem.W.mg_of X G a_law)
  cases e
  letI : CT := ⟨fun n => match n with | 3 => C_Game | _ => 0⟩
  have T : Tx K mg := ⟨⟨pg_Game, hd_Game, po_Game, sa_Game⟩, nA_Game_own_base, nA_Game_own_most, nA_Game_own_step, nA_Game_own_sums, PySem.W.mg_none_of X G z_abs, PySem.W.mg_none_of X G z_all, PySem.W.mg_none_of X G z_any, PySem.W.mg_none_of X G z_bool, PySem.W.mg_none_of X G z_dict, PySem.W.mg_none_of X G z_int, PySem.W.mg_none_of X G z_isinstance, PySem.W.mg_none_of X G z_len, PySem.W.mg_none_of X G z_list, PySem.W.mg_none_of X G z_max, PySem.W.mg_none_of X G z_min, PySem.W.mg_none_of X G z_range, PySem.W.mg_none_of X G z_set, PySem.W.mg_none_of X G z_sorted, PySem.W.mg_none_of X G z_str, PySem.W.mg_none_of X G z_tuple, PySem.W.mg_none_of X G z_zip, ⟨_, PySem.W.mg_of X G g_MOST_STATES⟩, ⟨_, PySem.W.mg_of X G g_TOP⟩⟩
  have F_wall := fun_mk (st := s_wall) l_wall c_wall k_wall
  have B_wall := F_wall.binds (ps := ["k"]) fun _ _ _ _ _ _ us hl => match us, hl with | [_], _ => rfl
  have F_power := fun_mk (st := s_power) l_power c_power k_power
  have B_power := F_power.binds (ps := ["base", "many"]) fun _ _ _ _ _ _ us hl => match us, hl with | [_, _], _ => rfl
  have F_sums_of := fun_mk (st := s_sums_of) l_sums_of c_sums_of k_sums_of
  have B_sums_of := F_sums_of.binds (ps := ["weights", "mosts"]) fun _ _ _ _ _ _ us hl => match us, hl with | [_, _], _ => rfl
  have F_Game_init := fun_mk (st := s_Game_init) l_Game_init c_Game_init k_Game_init
  have B_Game_init := F_Game_init.binds (ps := ["self", "base", "weights", "over", "mosts", "most", "lag"]) fun _ _ _ _ _ _ us hl => match us, hl with | [_, _, _, _, _, _, _], _ => rfl
  have F_Game_is_lost := fun_mk (st := s_Game_is_lost) l_Game_is_lost c_Game_is_lost k_Game_is_lost
  have B_Game_is_lost := F_Game_is_lost.binds (ps := ["self", "rest"]) fun _ _ _ _ _ _ us hl => match us, hl with | [_, _], _ => rfl
  have F_Game_greatest := fun_mk (st := s_Game_greatest) l_Game_greatest c_Game_greatest k_Game_greatest
  have B_Game_greatest := F_Game_greatest.binds (ps := ["self"]) fun _ _ _ _ _ _ us hl => match us, hl with | [_], _ => rfl
  have F_Game_rests := fun_mk (st := s_Game_rests) l_Game_rests c_Game_rests k_Game_rests
  have B_Game_rests := F_Game_rests.binds (ps := ["self"]) fun _ _ _ _ _ _ us hl => match us, hl with | [_], _ => rfl
  have F_Game_look := fun_mk (st := s_Game_look) l_Game_look c_Game_look k_Game_look
  have B_Game_look := F_Game_look.binds (ps := ["self"]) fun _ _ _ _ _ _ us hl => match us, hl with | [_], _ => rfl
  have F_Game_led_to := fun_mk (st := s_Game_led_to) l_Game_led_to c_Game_led_to k_Game_led_to
  have B_Game_led_to := F_Game_led_to.binds (ps := ["self", "ahead"]) fun _ _ _ _ _ _ us hl => match us, hl with | [_, _], _ => rfl
  have F_Game_is_held := fun_mk (st := s_Game_is_held) l_Game_is_held c_Game_is_held k_Game_is_held
  have B_Game_is_held := F_Game_is_held.binds (ps := ["self", "rest", "sum_now", "held"]) fun _ _ _ _ _ _ us hl => match us, hl with | [_, _, _, _], _ => rfl
  have F_Game_first_fatal := fun_mk (st := s_Game_first_fatal) l_Game_first_fatal c_Game_first_fatal k_Game_first_fatal
  have B_Game_first_fatal := F_Game_first_fatal.binds (ps := ["self", "rest", "known", "held"]) fun _ _ _ _ _ _ us hl => match us, hl with | [_, _, _, _], _ => rfl
  have F_Game_ranks := fun_mk (st := s_Game_ranks) l_Game_ranks c_Game_ranks k_Game_ranks
  have B_Game_ranks := F_Game_ranks.binds (ps := ["self"]) fun _ _ _ _ _ _ us hl => match us, hl with | [_], _ => rfl
  have F_least_lag := funK_mk (st := s_least_lag) (kws := [("top", .int 6)]) l_least_lag c_least_lag k_least_lag (fun q hq => by cases hq with | head => exact ⟨_, kd_least_lag_0, _, rfl⟩ | tail _ hq => cases hq)
  have L_least_lag : LackB K _ ["base", "weights", "over", "mosts", "most", "top"] [.int 6] := F_least_lag.binds0 (ps := ["base", "weights", "over", "mosts", "most", "top"]) 5 (by simp) rfl fun D doc pm an cdv ct us ks l1 l2 => match us, ks, l1, l2 with | [_, _, _, _, _], [_], _, _ => ⟨_, _, _, _, _, _, rfl, rfl, rfl⟩
  have F_Lcell_at := fun_mk (st := s_Lcell_at) l_Lcell_at c_Lcell_at k_Lcell_at
  have B_Lcell_at := F_Lcell_at.binds (ps := ["_law_script", "_law_k"]) fun _ _ _ _ _ _ us hl => match us, hl with | [_, _], _ => rfl
  have F_Lbox := fun_mk (st := s_Lbox) l_Lbox c_Lbox k_Lbox
  have B_Lbox := F_Lbox.binds (ps := ["_law_script", "_law_k"]) fun _ _ _ _ _ _ us hl => match us, hl with | [_, _], _ => rfl
  have F_Ltake := fun_mk (st := s_Ltake) l_Ltake c_Ltake k_Ltake
  have B_Ltake := F_Ltake.binds (ps := ["_law_box_here", "_law_size"]) fun _ _ _ _ _ _ us hl => match us, hl with | [_, _], _ => rfl
  have F_Lof := fun_mk (st := s_Lof) l_Lof c_Lof k_Lof
  have B_Lof := F_Lof.binds (ps := ["_law_box_here", "_law_some"]) fun _ _ _ _ _ _ us hl => match us, hl with | [_, _], _ => rfl
  have F_Lsame := fun_mk (st := s_Lsame) l_Lsame c_Lsame k_Lsame
  have B_Lsame := F_Lsame.binds (ps := ["_law_found", "_law_due_here"]) fun _ _ _ _ _ _ us hl => match us, hl with | [_, _], _ => rfl
  have F_Lsums := fun_mk (st := s_Lsums) l_Lsums c_Lsums k_Lsums
  have B_Lsums := F_Lsums.binds (ps := ["_law_shares", "_law_wides"]) fun _ _ _ _ _ _ us hl => match us, hl with | [_, _], _ => rfl
  have F_Ldrawn := fun_mk (st := s_Ldrawn) l_Ldrawn c_Ldrawn k_Ldrawn
  have B_Ldrawn := F_Ldrawn.binds (ps := ["_law_box_here"]) fun _ _ _ _ _ _ us hl => match us, hl with | [_], _ => rfl
  have F_Lrules := fun_mk (st := s_Lrules) l_Lrules c_Lrules k_Lrules
  have B_Lrules := F_Lrules.binds (ps := ["_law_game", "_law_late"]) fun _ _ _ _ _ _ us hl => match us, hl with | [_, _], _ => rfl
  have F_Lis_lost := fun_mk (st := s_Lis_lost) l_Lis_lost c_Lis_lost k_Lis_lost
  have B_Lis_lost := F_Lis_lost.binds (ps := ["_law_g", "_law_rest"]) fun _ _ _ _ _ _ us hl => match us, hl with | [_, _], _ => rfl
  have F_Lrests := fun_mk (st := s_Lrests) l_Lrests c_Lrests k_Lrests
  have B_Lrests := F_Lrests.binds (ps := ["_law_g"]) fun _ _ _ _ _ _ us hl => match us, hl with | [_], _ => rfl
  have F_Lleads := fun_mk (st := s_Lleads) l_Lleads c_Lleads k_Lleads
  have B_Lleads := F_Lleads.binds (ps := ["_law_g", "_law_rest", "_law_more"]) fun _ _ _ _ _ _ us hl => match us, hl with | [_, _, _], _ => rfl
  have F_Lis_safe := fun_mk (st := s_Lis_safe) l_Lis_safe c_Lis_safe k_Lis_safe
  have B_Lis_safe := F_Lis_safe.binds (ps := ["_law_g", "_law_rest", "_law_some"]) fun _ _ _ _ _ _ us hl => match us, hl with | [_, _, _], _ => rfl
  have F_Llayers := fun_mk (st := s_Llayers) l_Llayers c_Llayers k_Llayers
  have B_Llayers := F_Llayers.binds (ps := ["_law_g"]) fun _ _ _ _ _ _ us hl => match us, hl with | [_], _ => rfl
  have F_Ldue := fun_mk (st := s_Ldue) l_Ldue c_Ldue k_Ldue
  have B_Ldue := F_Ldue.binds (ps := ["_law_game", "_law_highest"]) fun _ _ _ _ _ _ us hl => match us, hl with | [_, _], _ => rfl
  have F_Lright := fun_mk (st := s_Lright) l_Lright c_Lright k_Lright
  have B_Lright := F_Lright.binds (ps := ["_law_box_here"]) fun _ _ _ _ _ _ us hl => match us, hl with | [_], _ => rfl
  have F_law := fun_mk (st := s_law) l_law c_law k_law
  have B_law := F_law.binds (ps := ["_law_script"]) fun _ _ _ _ _ _ us hl => match us, hl with | [_], _ => rfl
  have kb_least_lag_0 : KBn K _ ["base", "weights", "over", "mosts", "most", "top"] 5 ["top"] (pick [0, 1, 2, 3, 4, 5]) (pick [0, 1, 2, 3, 4, 5]) := kbn_mkD F_least_lag (by simp) fun _ _ _ _ _ _ us ws h1 h2 => match us, ws, h1, h2 with | [_, _, _, _, _], [_], _, _ => rfl
  have kb_least_lag_1 : KBn K _ ["base", "weights", "over", "mosts", "most", "top"] 0 ["most", "mosts", "over", "weights", "base", "top"] (pick [4, 3, 2, 1, 0, 5]) (pick [4, 3, 2, 1, 0, 5]) := kbn_mkD F_least_lag (by simp) fun _ _ _ _ _ _ us ws h1 h2 => match us, ws, h1, h2 with | [], [_, _, _, _, _, _], _, _ => rfl
  refine ⟨PySem.W.fnOf "law" "law" (defArgs s_law) (defBody s_law) (defScope s_law) .none kV_law dc_law pm_law an_law cd_law ct_law, fun s v => .of_eq rfl, fun base _ _ => ?_⟩
  have G_wall : Does l.prog w K mg base 1 "_wall" ["k"] _ _ sp_wall := ⟨PySem.W.mg_of X G a_wall, k_wall, B_wall, ok_wall F_wall T vc_wall len_wall  ⟩
  have G_power : Does l.prog w K mg base 1 "power" ["base", "many"] _ _ sp_power := ⟨PySem.W.mg_of X G a_power, k_power, B_power, ok_power F_power T vc_power len_power  ⟩
  have G_sums_of : Does l.prog w K mg base 1 "sums_of" ["weights", "mosts"] _ _ sp_sums_of := ⟨PySem.W.mg_of X G a_sums_of, k_sums_of, B_sums_of, ok_sums_of F_sums_of T vc_sums_of len_sums_of  ⟩
  have G_Game_init : DoesI l.prog w K mg base 2 3 "Game" ["self", "base", "weights", "over", "mosts", "most", "lag"] _ _ sp_Game_init := ⟨PySem.W.mg_of X G aC_Game, ⟨mk_Game, a_Game_init, i_Game_init, kc_Game⟩, ok_Game_init F_Game_init T vc_Game_init len_Game_init G_power G_sums_of ⟩
  have G_Game_is_lost : DoesM l.prog w K mg base 2 3 "is_lost" ["self", "rest"] _ _ sp_Game_is_lost := ⟨T.k_Game, ⟨a_Game_is_lost, i_Game_is_lost, k_Game_is_lost⟩, B_Game_is_lost, ok_Game_is_lost F_Game_is_lost T vc_Game_is_lost len_Game_is_lost G_wall ⟩
  have G_Game_greatest : DoesM l.prog w K mg base 1 3 "greatest" ["self"] _ _ sp_Game_greatest := ⟨T.k_Game, ⟨a_Game_greatest, i_Game_greatest, k_Game_greatest⟩, B_Game_greatest, ok_Game_greatest F_Game_greatest T vc_Game_greatest len_Game_greatest  ⟩
  have G_Game_rests : DoesM l.prog w K mg base 2 3 "rests" ["self"] _ _ sp_Game_rests := ⟨T.k_Game, ⟨a_Game_rests, i_Game_rests, k_Game_rests⟩, B_Game_rests, ok_Game_rests F_Game_rests T vc_Game_rests len_Game_rests G_Game_greatest ⟩
  have G_Game_look : DoesM l.prog w K mg base 2 3 "look" ["self"] _ _ sp_Game_look := ⟨T.k_Game, ⟨a_Game_look, i_Game_look, k_Game_look⟩, B_Game_look, ok_Game_look F_Game_look T vc_Game_look len_Game_look G_Game_greatest ⟩
  have G_Game_led_to : DoesM l.prog w K mg base 2 3 "led_to" ["self", "ahead"] _ _ sp_Game_led_to := ⟨T.k_Game, ⟨a_Game_led_to, i_Game_led_to, k_Game_led_to⟩, B_Game_led_to, ok_Game_led_to F_Game_led_to T vc_Game_led_to len_Game_led_to G_Game_greatest ⟩
  have G_Game_is_held : DoesM l.prog w K mg base 3 3 "is_held" ["self", "rest", "sum_now", "held"] _ _ sp_Game_is_held := ⟨T.k_Game, ⟨a_Game_is_held, i_Game_is_held, k_Game_is_held⟩, B_Game_is_held, ok_Game_is_held F_Game_is_held T vc_Game_is_held len_Game_is_held G_Game_led_to ⟩
  have G_Game_first_fatal : DoesM l.prog w K mg base 4 3 "first_fatal" ["self", "rest", "known", "held"] _ _ sp_Game_first_fatal := ⟨T.k_Game, ⟨a_Game_first_fatal, i_Game_first_fatal, k_Game_first_fatal⟩, B_Game_first_fatal, ok_Game_first_fatal F_Game_first_fatal T vc_Game_first_fatal len_Game_first_fatal G_Game_is_held ⟩
  have G_Game_ranks : DoesM l.prog w K mg base 5 3 "ranks" ["self"] _ _ sp_Game_ranks := ⟨T.k_Game, ⟨a_Game_ranks, i_Game_ranks, k_Game_ranks⟩, B_Game_ranks, ok_Game_ranks F_Game_ranks T vc_Game_ranks len_Game_ranks G_Game_rests G_Game_first_fatal ⟩
  have G_least_lag : DoesK l.prog w K mg base 6 "least_lag" ["base", "weights", "over", "mosts", "most", "top"] _ _ sp_least_lag := ⟨PySem.W.mg_of X G a_least_lag, k_least_lag, ok_least_lag F_least_lag T vc_least_lag len_least_lag G_Game_init B_Game_init G_Game_look G_Game_ranks ⟩
  have G_Lcell_at : Does l.prog w K mg base 1 "_law_cell_at" ["_law_script", "_law_k"] _ _ sp_Lcell_at := ⟨PySem.W.mg_of X G a_Lcell_at, k_Lcell_at, B_Lcell_at, ok_Lcell_at F_Lcell_at T vc_Lcell_at len_Lcell_at  ⟩
  have G_Lbox : Does l.prog w K mg base 2 "_law_box" ["_law_script", "_law_k"] _ _ sp_Lbox := ⟨PySem.W.mg_of X G a_Lbox, k_Lbox, B_Lbox, ok_Lbox F_Lbox T vc_Lbox len_Lbox G_Lcell_at ⟩
  have G_Ltake : Does l.prog w K mg base 1 "_law_take" ["_law_box_here", "_law_size"] _ _ sp_Ltake := ⟨PySem.W.mg_of X G a_Ltake, k_Ltake, B_Ltake, ok_Ltake F_Ltake T vc_Ltake len_Ltake  ⟩
  have G_Lof : Does l.prog w K mg base 2 "_law_of" ["_law_box_here", "_law_some"] _ _ sp_Lof := ⟨PySem.W.mg_of X G a_Lof, k_Lof, B_Lof, ok_Lof F_Lof T vc_Lof len_Lof G_Ltake ⟩
  have G_Lsame : Does l.prog w K mg base 6 "_law_same" ["_law_found", "_law_due_here"] _ _ sp_Lsame := ⟨PySem.W.mg_of X G a_Lsame, k_Lsame, B_Lsame, ok_Lsame F_Lsame T vc_Lsame len_Lsame z_Lsame (PySem.W.mg_of X G a_Lsame) k_Lsame B_Lsame  6⟩
  have G_Lsums : Does l.prog w K mg base 1 "_law_sums" ["_law_shares", "_law_wides"] _ _ sp_Lsums := ⟨PySem.W.mg_of X G a_Lsums, k_Lsums, B_Lsums, ok_Lsums F_Lsums T vc_Lsums len_Lsums  ⟩
  have G_Ldrawn : Does l.prog w K mg base 3 "_law_drawn" ["_law_box_here"] _ _ sp_Ldrawn := ⟨PySem.W.mg_of X G a_Ldrawn, k_Ldrawn, B_Ldrawn, ok_Ldrawn F_Ldrawn T vc_Ldrawn len_Ldrawn G_Lof G_Ltake ⟩
  have G_Lrules : Does l.prog w K mg base 2 "_law_rules" ["_law_game", "_law_late"] _ _ sp_Lrules := ⟨PySem.W.mg_of X G a_Lrules, k_Lrules, B_Lrules, ok_Lrules F_Lrules T vc_Lrules len_Lrules G_Lsums ⟩
  have G_Lis_lost : Does l.prog w K mg base 1 "_law_is_lost" ["_law_g", "_law_rest"] _ _ sp_Lis_lost := ⟨PySem.W.mg_of X G a_Lis_lost, k_Lis_lost, B_Lis_lost, ok_Lis_lost F_Lis_lost T vc_Lis_lost len_Lis_lost  ⟩
  have G_Lrests : Does l.prog w K mg base 2 "_law_rests" ["_law_g"] _ _ sp_Lrests := ⟨PySem.W.mg_of X G a_Lrests, k_Lrests, B_Lrests, ok_Lrests F_Lrests T vc_Lrests len_Lrests G_Lis_lost ⟩
  have G_Lleads : Does l.prog w K mg base 1 "_law_leads" ["_law_g", "_law_rest", "_law_more"] _ _ sp_Lleads := ⟨PySem.W.mg_of X G a_Lleads, k_Lleads, B_Lleads, ok_Lleads F_Lleads T vc_Lleads len_Lleads  ⟩
  have G_Lis_safe : Does l.prog w K mg base 2 "_law_is_safe" ["_law_g", "_law_rest", "_law_some"] _ _ sp_Lis_safe := ⟨PySem.W.mg_of X G a_Lis_safe, k_Lis_safe, B_Lis_safe, ok_Lis_safe F_Lis_safe T vc_Lis_safe len_Lis_safe G_Lleads ⟩
  have G_Llayers : Does l.prog w K mg base 3 "_law_layers" ["_law_g"] _ _ sp_Llayers := ⟨PySem.W.mg_of X G a_Llayers, k_Llayers, B_Llayers, ok_Llayers F_Llayers T vc_Llayers len_Llayers G_Lrests G_Lis_safe ⟩
  have G_Ldue : Does l.prog w K mg base 4 "_law_due" ["_law_game", "_law_highest"] _ _ sp_Ldue := ⟨PySem.W.mg_of X G a_Ldue, k_Ldue, B_Ldue, ok_Ldue F_Ldue T vc_Ldue len_Ldue G_Llayers G_Lrules ⟩
  have G_Lright : Does l.prog w K mg base 7 "_law_right" ["_law_box_here"] _ _ sp_Lright := ⟨PySem.W.mg_of X G a_Lright, k_Lright, B_Lright, ok_Lright F_Lright T vc_Lright len_Lright G_Ldrawn G_Ltake G_Ldue G_least_lag G_Lsame kb_least_lag_0 kb_least_lag_1 L_least_lag⟩
  have G_law : Does l.prog w K mg base 8 "law" ["_law_script"] _ _ sp_law := ⟨PySem.W.mg_of X G a_law, k_law, B_law, ok_law F_law T vc_law len_law G_Lright G_Lbox ⟩
  exact G_law.ok.imp law_up
end K34
open PySem PySem.W PyProof.Rows
set_option maxHeartbeats 0 in
theorem PySem.Challenge.cw_firstfigures_k34_least_lags_holds : PySem.Challenge.rw_firstfigures_k34_least_lags.Holds := by
  w_on; o_law; k_head; (case hw => w_witness2)
  k_fill
  refine DG.walk_of (l := PySem.Challenge.rw_firstfigures_k34_least_lags) (n := 63) (k := 8) (x := "_law_script") (CX := fun _ => L2.CX0) (sp := fun w => DL.spLaw _) rfl (by decide) rfl ⟨⟨rfl, by decide, by decide⟩, rfl⟩ (fun w h Y => PySem.W.kIn_of Y) ?F (fun _ _ a ns hl _ hS => ⟨a, ns, rfl, hS, hl, fun _ => rfl⟩) (fun _ _ _ _ _ h => h)
  case F =>
    intro w mg fa h KX G hmg
    refine' K34.all_mk KX G hmg ?aC_Game ?pg_Game ?hd_Game ?po_Game ?sa_Game ?mk_Game ?kc_Game ?nA_Game_own_base ?nA_Game_own_most ?nA_Game_own_step ?nA_Game_own_sums ?a_wall ?l_wall ?c_wall ?k_wall ?a_power ?l_power ?c_power ?k_power ?a_sums_of ?l_sums_of ?c_sums_of ?k_sums_of ?a_Game_init ?i_Game_init ?l_Game_init ?c_Game_init ?k_Game_init ?a_Game_is_lost ?i_Game_is_lost ?l_Game_is_lost ?c_Game_is_lost ?k_Game_is_lost ?a_Game_greatest ?i_Game_greatest ?l_Game_greatest ?c_Game_greatest ?k_Game_greatest ?a_Game_rests ?i_Game_rests ?l_Game_rests ?c_Game_rests ?k_Game_rests ?a_Game_look ?i_Game_look ?l_Game_look ?c_Game_look ?k_Game_look ?a_Game_led_to ?i_Game_led_to ?l_Game_led_to ?c_Game_led_to ?k_Game_led_to ?a_Game_is_held ?i_Game_is_held ?l_Game_is_held ?c_Game_is_held ?k_Game_is_held ?a_Game_first_fatal ?i_Game_first_fatal ?l_Game_first_fatal ?c_Game_first_fatal ?k_Game_first_fatal ?a_Game_ranks ?i_Game_ranks ?l_Game_ranks ?c_Game_ranks ?k_Game_ranks ?a_least_lag ?l_least_lag ?kd_least_lag_0 ?c_least_lag ?k_least_lag ?a_Lcell_at ?l_Lcell_at ?c_Lcell_at ?k_Lcell_at ?a_Lbox ?l_Lbox ?c_Lbox ?k_Lbox ?a_Ltake ?l_Ltake ?c_Ltake ?k_Ltake ?a_Lof ?l_Lof ?c_Lof ?k_Lof ?a_Lsame ?l_Lsame ?c_Lsame ?k_Lsame ?a_Lsums ?l_Lsums ?c_Lsums ?k_Lsums ?a_Ldrawn ?l_Ldrawn ?c_Ldrawn ?k_Ldrawn ?a_Lrules ?l_Lrules ?c_Lrules ?k_Lrules ?a_Lis_lost ?l_Lis_lost ?c_Lis_lost ?k_Lis_lost ?a_Lrests ?l_Lrests ?c_Lrests ?k_Lrests ?a_Lleads ?l_Lleads ?c_Lleads ?k_Lleads ?a_Lis_safe ?l_Lis_safe ?c_Lis_safe ?k_Lis_safe ?a_Llayers ?l_Llayers ?c_Llayers ?k_Llayers ?a_Ldue ?l_Ldue ?c_Ldue ?k_Ldue ?a_Lright ?l_Lright ?c_Lright ?k_Lright ?a_law ?l_law ?c_law ?k_law ?z_abs ?z_all ?z_any ?z_bool ?z_dict ?z_int ?z_isinstance ?z_len ?z_list ?z_max ?z_min ?z_range ?z_set ?z_sorted ?z_str ?z_tuple ?z_zip ?g_MOST_STATES ?g_TOP
    (case aC_Game => k_is)
    (case pg_Game => k_is)
    (case hd_Game => k_is)
    (case po_Game => k_is)
    (case sa_Game => k_is)
    (case mk_Game => k_is)
    (case kc_Game => k_is)
    (case nA_Game_own_base => k_is)
    (case nA_Game_own_most => k_is)
    (case nA_Game_own_step => k_is)
    (case nA_Game_own_sums => k_is)
    (case a_wall => k_is)
    (case l_wall => k_is)
    (case c_wall => k_is)
    (case k_wall => k_is)
    (case a_power => k_is)
    (case l_power => k_is)
    (case c_power => k_is)
    (case k_power => k_is)
    (case a_sums_of => k_is)
    (case l_sums_of => k_is)
    (case c_sums_of => k_is)
    (case k_sums_of => k_is)
    (case a_Game_init => k_is)
    (case i_Game_init => k_is)
    (case l_Game_init => k_is)
    (case c_Game_init => k_is)
    (case k_Game_init => k_is)
    (case a_Game_is_lost => k_is)
    (case i_Game_is_lost => k_is)
    (case l_Game_is_lost => k_is)
    (case c_Game_is_lost => k_is)
    (case k_Game_is_lost => k_is)
    (case a_Game_greatest => k_is)
    (case i_Game_greatest => k_is)
    (case l_Game_greatest => k_is)
    (case c_Game_greatest => k_is)
    (case k_Game_greatest => k_is)
    (case a_Game_rests => k_is)
    (case i_Game_rests => k_is)
    (case l_Game_rests => k_is)
    (case c_Game_rests => k_is)
    (case k_Game_rests => k_is)
    (case a_Game_look => k_is)
    (case i_Game_look => k_is)
    (case l_Game_look => k_is)
    (case c_Game_look => k_is)
    (case k_Game_look => k_is)
    (case a_Game_led_to => k_is)
    (case i_Game_led_to => k_is)
    (case l_Game_led_to => k_is)
    (case c_Game_led_to => k_is)
    (case k_Game_led_to => k_is)
    (case a_Game_is_held => k_is)
    (case i_Game_is_held => k_is)
    (case l_Game_is_held => k_is)
    (case c_Game_is_held => k_is)
    (case k_Game_is_held => k_is)
    (case a_Game_first_fatal => k_is)
    (case i_Game_first_fatal => k_is)
    (case l_Game_first_fatal => k_is)
    (case c_Game_first_fatal => k_is)
    (case k_Game_first_fatal => k_is)
    (case a_Game_ranks => k_is)
    (case i_Game_ranks => k_is)
    (case l_Game_ranks => k_is)
    (case c_Game_ranks => k_is)
    (case k_Game_ranks => k_is)
    (case a_least_lag => k_is)
    (case l_least_lag => k_is)
    (case kd_least_lag_0 => k_is)
    (case c_least_lag => k_is)
    (case k_least_lag => k_is)
    (case a_Lcell_at => k_is)
    (case l_Lcell_at => k_is)
    (case c_Lcell_at => k_is)
    (case k_Lcell_at => k_is)
    (case a_Lbox => k_is)
    (case l_Lbox => k_is)
    (case c_Lbox => k_is)
    (case k_Lbox => k_is)
    (case a_Ltake => k_is)
    (case l_Ltake => k_is)
    (case c_Ltake => k_is)
    (case k_Ltake => k_is)
    (case a_Lof => k_is)
    (case l_Lof => k_is)
    (case c_Lof => k_is)
    (case k_Lof => k_is)
    (case a_Lsame => k_is)
    (case l_Lsame => k_is)
    (case c_Lsame => k_is)
    (case k_Lsame => k_is)
    (case a_Lsums => k_is)
    (case l_Lsums => k_is)
    (case c_Lsums => k_is)
    (case k_Lsums => k_is)
    (case a_Ldrawn => k_is)
    (case l_Ldrawn => k_is)
    (case c_Ldrawn => k_is)
    (case k_Ldrawn => k_is)
    (case a_Lrules => k_is)
    (case l_Lrules => k_is)
    (case c_Lrules => k_is)
    (case k_Lrules => k_is)
    (case a_Lis_lost => k_is)
    (case l_Lis_lost => k_is)
    (case c_Lis_lost => k_is)
    (case k_Lis_lost => k_is)
    (case a_Lrests => k_is)
    (case l_Lrests => k_is)
    (case c_Lrests => k_is)
    (case k_Lrests => k_is)
    (case a_Lleads => k_is)
    (case l_Lleads => k_is)
    (case c_Lleads => k_is)
    (case k_Lleads => k_is)
    (case a_Lis_safe => k_is)
    (case l_Lis_safe => k_is)
    (case c_Lis_safe => k_is)
    (case k_Lis_safe => k_is)
    (case a_Llayers => k_is)
    (case l_Llayers => k_is)
    (case c_Llayers => k_is)
    (case k_Llayers => k_is)
    (case a_Ldue => k_is)
    (case l_Ldue => k_is)
    (case c_Ldue => k_is)
    (case k_Ldue => k_is)
    (case a_Lright => k_is)
    (case l_Lright => k_is)
    (case c_Lright => k_is)
    (case k_Lright => k_is)
    (case a_law => k_is)
    (case l_law => k_is)
    (case c_law => k_is)
    (case k_law => k_is)
    (case z_abs => k_is)
    (case z_all => k_is)
    (case z_any => k_is)
    (case z_bool => k_is)
    (case z_dict => k_is)
    (case z_int => k_is)
    (case z_isinstance => k_is)
    (case z_len => k_is)
    (case z_list => k_is)
    (case z_max => k_is)
    (case z_min => k_is)
    (case z_range => k_is)
    (case z_set => k_is)
    (case z_sorted => k_is)
    (case z_str => k_is)
    (case z_tuple => k_is)
    (case z_zip => k_is)
    (case g_MOST_STATES => k_is)
    (case g_TOP => k_is)
