import PyProof.Rows.All
import Wide.All
import OpenK.AllK
import Wide.FinOn
import HandS.ForMost
import HandS.Walk
import HandS.IsInst
import HandS.Wide
import HandS.TupAny
import HandS.StrMore
import HandS.Zip
import HandS.Style
import HandS.Flow
import HandS.FStr
import HandS.Exc
import KE.KExcSuper
import KE.KExcStr
import HandS.ExcOwn
import HandS.ExcValue
import HandS.ExcIs
import HandS.ExcField
import HandS.Steps
import HandS.TupMul
import HandS.Text
import HandS.WideBits
import KE.KRevSl
import HandS.More
import KE.GoesEnum
import KE.GoesZip
import HandS.Star
import PyProof.RulesMatch
import HandS.ReplaceLit
import PySem.Challenge.RW_setback_k11_settings_known_by_hand
set_option Elab.async false
set_option linter.all false
set_option maxRecDepth 100000
set_option maxHeartbeats 4000000
/-! VL0: the layer's calls once more, with the word that nothing is being shown (guards): a def that shows values wants it. -/
namespace VL
open PySem PySem.Spec PyProof.Rows L2

/-- as FnOk, called where no guard stands -/
structure FnG (P : Program) (w : World) (K : PySem.W.Frag) (mg : Str → Option Value) (base : Heap) (CX : CXT) (k : Nat) (f : Addr) (fd : FuncData) (ps : List Str) (sp : Sp) : Prop where
  len : ∀ vs H Q E, sp vs H Q E → vs.length = ps.length
  run : ∀ (A : Around) (outer : List Env) (s : Shared) (H : Hp) (args : Args) (us : List Value) (vs : List V) (Q : VK) (E : XK), A.guards = some [] → Room k A → Env0 P w K mg base A outer s H → BindsTo s fd args (ps.zip us) → Vals vs us → sp vs H Q E →
    codeAny (model P w) A (.call (.ref f) args) (CR CX outer P w H s Q E) s
theorem FnG.mono {P : Program} {w : World} {K : PySem.W.Frag} {mg : Str → Option Value} {base : Heap} {CX : CXT} {j k : Nat} {f : Addr} {fd : FuncData} {ps : List Str} {sp : Sp} (F : FnG P w K mg base CX j f fd ps sp) (h : j ≤ k) :
    FnG P w K mg base CX k f fd ps sp := ⟨F.len, fun A outer s H args us vs Q E hg hr => F.run A outer s H args us vs Q E hg (hr.mono h)⟩
theorem FnG.imp {P : Program} {w : World} {K : PySem.W.Frag} {mg : Str → Option Value} {base : Heap} {CX : CXT} {k : Nat} {f : Addr} {fd : FuncData} {ps : List Str} {sp sp' : Sp} (F : FnG P w K mg base CX k f fd ps sp)
    (h : ∀ vs H Q E, sp' vs H Q E → sp vs H Q E) : FnG P w K mg base CX k f fd ps sp' :=
  ⟨fun vs H Q E q => F.len vs H Q E (h _ _ _ _ q), fun A outer s H args us vs Q E hg hr he hb hv hs => F.run A outer s H args us vs Q E hg hr he hb hv (h _ _ _ _ hs)⟩
theorem FnG.of {P : Program} {w : World} {K : PySem.W.Frag} {mg : Str → Option Value} {base : Heap} {CX : CXT} {k : Nat} {f : Addr} {fd : FuncData} {ps : List Str} {sp : Sp} (F : FnOk P w K mg base CX k f fd ps sp) : FnG P w K mg base CX k f fd ps sp :=
  ⟨F.len, fun A outer s H args us vs Q E _ => F.run A outer s H args us vs Q E⟩

section
variable {X : Cx} {CX : CXT} {k : Nat} {f C : Addr} {fd : FuncData} {ps ks : List Str} {sp : Sp} {dvs : List V} {ds : List Value} {E : XK} {x m : Str} {p pos apos : Pos} {e o : Expr} {es : List Expr} {kws : List Keyword} {ta : TE} {t tk : TA}
theorem run_fg {pins : List (Addr × Obj)} {σ : L2.St} {H : Hp} {s : Shared} {Q : VK} {us : List Value} {vs : List V} (F : FnG X.prog X.w X.K X.mg X.base CX k f fd ps sp) (gd : X.A.guards = some []) (hr : Room k X.A) (hb : Binds X.K fd ps ds) (hd : Vals dvs ds) (hx : Passes CX X E)
    (I : Inv X pins σ H s) (r : Vals vs us) (h : sp (vs ++ dvs) H Q E) : wpAny (model X.prog X.w) X.A (call (.ref f) us) (EP X pins σ Q) X.xe s := by
  have r2 : Vals (vs ++ dvs) (us ++ ds) := r.append hd
  have hl : (us ++ ds).length = ps.length := by rw [← r2.length]; exact F.len _ _ _ _ h
  refine wpAny_call (codeAny_mono (F.run X.A X.stack s H ⟨us, []⟩ (us ++ ds) (vs ++ dvs) Q E gd hr I.env0 (hb s us I.kIn hl) r2 h) fun r s' hq => ?_)
  cases r with
  | error e => exact hx pins σ H s e s' I hq
  | ok fl =>
    cases fl with
    | ret u => exact I.after hq
    | next => exact False.elim hq
    | brk => exact False.elim hq
    | cont => exact False.elim hq
theorem pe_callG (F : FnG X.prog X.w X.K X.mg X.base CX k f fd ps sp) (gd : X.A.guards = some []) (hr : Room k X.A) (hg : Gl X x) (hm : X.mg x = some (.ref f)) (hk : PySem.W.keepIn X.K (.ref f) = true) (hb : Binds X.K fd ps ds) (hd : Vals dvs ds) (hx : Passes CX X E)
    (ha : PA X (e :: es) t) (hdb : (x == ("__debug__" : Str)) = false := by decide) (he : starEach (e :: es) X.env = (false, eval e X.env) :: starEach es X.env := by rfl) (hpl : (backTo pos (starEach es X.env)).any (·.1) = false := by rfl) :
    PE X (.Call (.Name x p) (e :: es) [] pos) (tCall sp dvs E t) := by
  refine ⟨fun pins s σ H Q I h => ?_⟩
  refine wpAny_Call_Name_kw (ld_glob I hg hm ?_ hdb)
  refine PySem.W.callWith_K (h₀ := X.base) I.ok.mod.kin hk (thn (ha.run pos pins s σ H _ I h) fun us s1 ⟨vs, H1, I1, r, q⟩ => ⟨I1.kIn, ?_⟩) he hpl
  exact run_fg F gd hr hb hd hx I1 r q
theorem pe_callG0 (F : FnG X.prog X.w X.K X.mg X.base CX k f fd ps sp) (gd : X.A.guards = some []) (hr : Room k X.A) (hg : Gl X x) (hm : X.mg x = some (.ref f)) (hk : PySem.W.keepIn X.K (.ref f) = true) (hb : Binds X.K fd ps ds) (hd : Vals dvs ds) (hx : Passes CX X E)
    (hdb : (x == ("__debug__" : Str)) = false := by decide) : PE X (.Call (.Name x p) [] [] pos) (tCall sp dvs E tNil) := by
  refine ⟨fun pins s σ H Q I h => ?_⟩
  refine wpAny_Call_Name_kw (ld_glob I hg hm ?_ hdb)
  exact PySem.W.callWith_K0 I.kIn hk (run_fg (us := []) F gd hr hb hd hx I .nil h)
variable {g : List Value → List Value → List Value} {gV : List V → List V → List V}
theorem run_fgk {pins : List (Addr × Obj)} {σ : L2.St} {H : Hp} {s : Shared} {Q : VK} {us ws : List Value} {vs zs : List V} (F : FnG X.prog X.w X.K X.mg X.base CX k f fd ps sp) (gd : X.A.guards = some []) (hr : Room k X.A) (hb : KBinds X.K fd ps ks g gV) (hx : Passes CX X E)
    (I : Inv X pins σ H s) (r : Vals vs us) (rz : Vals zs ws) (h : sp (gV vs zs) H Q E) : wpAny (model X.prog X.w) X.A (call (.ref f) us (ks.zip ws)) (EP X pins σ Q) X.xe s := by
  have r2 := hb.rel r rz
  have hl : (g us ws).length = ps.length := by rw [← r2.length]; exact F.len _ _ _ _ h
  refine wpAny_call (codeAny_mono (F.run X.A X.stack s H ⟨us, ks.zip ws⟩ (g us ws) (gV vs zs) Q E gd hr I.env0 (hb.to s us ws I.kIn hl) r2 h) fun r s' hq => ?_)
  cases r with
  | error e => exact hx pins σ H s e s' I hq
  | ok fl =>
    cases fl with
    | ret u => exact I.after hq
    | next => exact False.elim hq
    | brk => exact False.elim hq
    | cont => exact False.elim hq
/-- f(k = v, ..): keywords alone -/
theorem pe_callGK0 (F : FnG X.prog X.w X.K X.mg X.base CX k f fd ps sp) (gd : X.A.guards = some []) (hr : Room k X.A) (hg : Gl X x) (hm : X.mg x = some (.ref f)) (hk : PySem.W.keepIn X.K (.ref f) = true) (hb : KBinds X.K fd ps ks g gV) (hx : Passes CX X E)
    (hkw : PK X kws tk) (hall : (backToKw pos (keywordEach kws X.env)).all (·.1.isSome) = true := by rfl) (hks : (backToKw pos (keywordEach kws X.env)).filterMap (·.1) = ks := by rfl)
    (hdb : (x == ("__debug__" : Str)) = false := by decide)
    (hpl : ((backTo pos (starEach [] X.env)).any (·.1) || (backToKw pos (keywordEach kws X.env)).any (·.1.isNone)) = false := by rfl) :
    PE X (.Call (.Name x p) [] kws pos) (tCallK sp gV E tNil tk) := by
  refine ⟨fun pins s σ H Q I h => ?_⟩
  refine wpAny_Call_Name_kw (ld_glob I hg hm ?_ hdb)
  refine PySem.W.callWith_KW0 (h₀ := X.base) I.ok.mod.kin hk hall ?_ hpl
  refine thn (hkw.run pos pins s σ H _ I h) fun ws s2 ⟨zs, H2, I2, rz, q2⟩ => ⟨I2.kIn, ?_⟩
  rw [hks]
  exact run_fgk (us := []) (vs := []) F gd hr hb hx I2 .nil rz q2
/-- f(e, .., k = v, ..) -/
theorem pe_callGK (F : FnG X.prog X.w X.K X.mg X.base CX k f fd ps sp) (gd : X.A.guards = some []) (hr : Room k X.A) (hg : Gl X x) (hm : X.mg x = some (.ref f)) (hk : PySem.W.keepIn X.K (.ref f) = true) (hb : KBinds X.K fd ps ks g gV) (hx : Passes CX X E)
    (ha : PA X (e :: es) t) (hkw : PK X kws tk) (hall : (backToKw pos (keywordEach kws X.env)).all (·.1.isSome) = true := by rfl) (hks : (backToKw pos (keywordEach kws X.env)).filterMap (·.1) = ks := by rfl)
    (hdb : (x == ("__debug__" : Str)) = false := by decide) (he : starEach (e :: es) X.env = (false, eval e X.env) :: starEach es X.env := by rfl)
    (hpl : ((backTo pos (starEach (e :: es) X.env)).any (·.1) || (backToKw pos (keywordEach kws X.env)).any (·.1.isNone)) = false := by rfl) :
    PE X (.Call (.Name x p) (e :: es) kws pos) (tCallK sp gV E t tk) := by
  refine ⟨fun pins s σ H Q I h => ?_⟩
  refine wpAny_Call_Name_kw (ld_glob I hg hm ?_ hdb)
  refine PySem.W.callWith_KW (h₀ := X.base) I.ok.mod.kin hk hall (thn (ha.run pos pins s σ H _ I h) fun us s1 ⟨vs, H1, I1, r, q⟩ => ?_) hpl he
  refine thn (hkw.run pos pins s1 σ H1 _ I1 q) fun ws s2 ⟨zs, H2, I2, rz, q2⟩ => ⟨I2.kIn, ?_⟩
  rw [hks]
  exact run_fgk F gd hr hb hx I2 r rz q2
end

theorem fn_ofG {CX : CXT} {P : Program} {w : World} {K : PySem.W.Frag} {mg : Str → Option Value} {base : Heap} {k : Nat} {f : Addr} {name qual : Str} {params : Arguments} {body : List Stmt} {scope : Scope} {dV kV doc pm cdv ct oc : Value} {an od : Option Addr}
    {osl : Array (Option Value)} {N ps : List Str} {sp : Sp} (lk : K.lookup f = some ⟨oc, od, .func (PySem.W.fnOf name qual params body scope dV kV doc pm an cdv ct), osl⟩) (hcd : PySem.W.codeIn K cdv qual = true) (S : FnScope N ps scope)
    (len : ∀ vs H Q E, sp vs H Q E → vs.length = ps.length)
    (hbody : ∀ (A : Around) (outer : List Env) (s : Shared) (H : Hp) (vs : List V) (Q : VK) (E : XK), A.guards = some [] → Room k (A.deeper (envOfC qual scope s.heap.objs.size f cdv)) → sp vs H Q E →
      ∃ t, PSs (cxOf CX P w K mg base N qual scope f cdv A outer s H E) body t ∧ t { nx := fun _ H' => Q .non H', rt := Q } (start N vs) H) :
    FnG P w K mg base CX (k + 1) f (PySem.W.fnOf name qual params body scope dV kV doc pm an cdv ct) ps sp := by
  refine ⟨len, fun A outer s H args us vs Q E hgd hr e0 hb r hsp => ?_⟩
  have hl := len _ _ _ _ hsp
  have KX : K.In s.heap := e0.mod.kin.keeps fun b o e => (e0.bs b o e).1
  have lim : s.heap.NoLimit := e0.mod.nolimit.keeps fun b o e => (e0.bs b o e).1
  have hkind : ∀ y ∈ ps.zip us, scope.names.lookup y.1 = some .local ∨ (scope.names.lookup y.1 = some .cell ∧ ((cellsFrom (s.heap.objs.size + 1) scope.names []).lookup y.1).isSome = true) := fun ⟨n, v⟩ hy => by
    rcases S.par n (List.of_mem_zip hy).1 with q | q
    · exact .inl q
    · exact .inr ⟨q, PySem.W.cellsFrom_some _ _ _ (.inl q)⟩
  refine codeAny_call_function hr.depth (KX _ _ lk) rfl S.co S.gen rfl (PySem.W.codeRec_of KX hcd) (hb _ _ _ _ ?_)
  refine wpAny_newFunctionEnv_cells S.kind hkind fun env he s1 x => ?_
  subst he
  refine ⟨lim.keeps x.toInCall.keep, codeAny_func ?_⟩
  obtain ⟨t, ht, hq⟩ := hbody A outer s H vs Q E hgd (hr.deeper _) hsp
  have I : Inv (cxOf CX P w K mg base N qual scope f cdv A outer s H E) [] (start N vs) H s1 := inv_start S hr.hd e0 hl r x
  refine wpAny_mono (ht.run [] s1 (start N vs) H _ I hq) (fun fl s' hs => ?_) fun e s' hs => hs
  have fin : ∀ {σ' : L2.St} {H' : Hp} {v : V} {u : Value}, Inv (cxOf CX P w K mg base N qual scope f cdv A outer s H E) [] σ' H' s' → RelV v u → Q v H' → CE outer P w H s Q u s' :=
    fun {σ' H' v u} J rv q => ⟨v, H', J.os, J.bare, J.base, J.hok, rv, q⟩
  cases fl with
  | ret u =>
    obtain ⟨v, σ', H', J, rv, q⟩ := hs
    exact fin J rv q
  | next =>
    obtain ⟨σ', H', J, q⟩ := hs
    exact fin (v := V.non) (u := Value.none) J rfl q
  | brk =>
    obtain ⟨_, _, _, q⟩ := hs
    exact False.elim q
  | cont =>
    obtain ⟨_, _, _, q⟩ := hs
    exact False.elim q
section
variable {P : Program} {w : World} {K : PySem.W.Frag} {mg : Str → Option Value} {base : Heap}
/-- a def whose body lets no exception out -/
theorem okG {x qual : Str} {st : Stmt} {f : Addr} {fd : FuncData} {N ps : List Str} {k : Nat} {sp : Sp} (F : Fun K x qual st f fd) (S : FnScope N ps (defScope st)) (len : ∀ vs H Q E, sp vs H Q E → vs.length = ps.length)
    (hbody : ∀ (cdv : Value) (A : Around) (outer : List Env) (s : Shared) (H : Hp) (vs : List V) (Q : VK) (E : XK), A.guards = some [] → Room k (A.deeper (envOfC qual (defScope st) s.heap.objs.size f cdv)) → sp vs H Q E →
      ∃ t, PSs (cxOf CX0 P w K mg base N qual (defScope st) f cdv A outer s H E).nox (defBody st) t ∧ t { nx := fun _ H' => Q .non H', rt := Q } (start N vs) H) : FnG P w K mg base CX0 (k + 1) f fd ps sp := by
  obtain ⟨oc, od, kV, doc, pm, an, cdv, ct, osl, rfl, lk, hcd⟩ := F.ex
  refine fn_ofG lk hcd S len fun A outer s H vs Q E hgd hr hsp => ?_
  obtain ⟨t, h, q⟩ := hbody cdv A outer s H vs Q E hgd hr hsp
  exact ⟨t, h.nox, q⟩
theorem okGX {x qual : Str} {st : Stmt} {f : Addr} {fd : FuncData} {N ps : List Str} {k : Nat} {sp : Sp} {CX : CXT} (F : Fun K x qual st f fd) (S : FnScope N ps (defScope st)) (len : ∀ vs H Q E, sp vs H Q E → vs.length = ps.length)
    (hbody : ∀ (cdv : Value) (A : Around) (outer : List Env) (s : Shared) (H : Hp) (vs : List V) (Q : VK) (E : XK), A.guards = some [] → Room k (A.deeper (envOfC qual (defScope st) s.heap.objs.size f cdv)) → sp vs H Q E →
      ∃ t, PSs (cxOf CX P w K mg base N qual (defScope st) f cdv A outer s H E) (defBody st) t ∧ t { nx := fun _ H' => Q .non H', rt := Q } (start N vs) H) : FnG P w K mg base CX (k + 1) f fd ps sp := by
  obtain ⟨oc, od, kV, doc, pm, an, cdv, ct, osl, rfl, lk, hcd⟩ := F.ex
  exact fn_ofG lk hcd S len fun A outer s H vs Q E hgd hr hsp => hbody cdv A outer s H vs Q E hgd hr hsp
end

/-- as law_call -/
theorem law_callG {P : Program} {w : World} {K : PySem.W.Frag} {mg mb : Str → Option Value} {CX : CXT} {k : Nat} {fa a : Addr} {fd : FuncData} {x : Str} {sp : Sp} {s₁ : Shared} {vs : List Value} {ns : List Int}
    (KX : K.In s₁.heap) (hns : s₁.heap.Ns mainGlobals mg) (hb : s₁.heap.Ns builtinsNs mb) (hbb : ∀ x : Str, x ≠ "__name__" → mb x = bootBuiltins x) (hlim : s₁.heap.NoLimit) (hg : s₁.gens = #[])
    (ha : s₁.heap.get? a = some { cls := .type "list", data := .seq vs.toArray }) (hi : IntsAre vs ns) (hl : ns.length ≤ sizeLine) (hr : Room k callerA)
    (F : ∀ base : Heap, K.In base → base.Ns mainGlobals mg → FnG P w K mg base CX k fa fd [x] sp) (hbind : ∀ (s : Shared) (u : Value), BindsTo s fd ⟨[u], []⟩ [(x, u)])
    (hsp : ∀ H : Hp, Only H → SqL K H a (ns.map V.int) → sp [.ref a] H (fun v _ => v = .bl true) fun _ _ _ => False)
    (hCX : ∀ H e s', CX [] H s₁ (fun _ _ _ => False) e s' → False) :
    codeAny (model P w) callerA (.call (.ref fa) ⟨[.ref a], []⟩) (fun r s' => r = .ok (.ret (.bool true)) ∧ OldK s₁.heap s'.heap ∧ s'.os = s₁.os ∧ AllBare s'.gens) s₁ := by
  -- the guards of the caller are known: the promise of FnG is had at callerA alone, so any other place is answered by a guard that isn't there
  let sp' : Sp := sp
  have rv := vals_ints hi
  have lenV := hi.length
  have core : ∀ H : Hp, Only H → SqL K H a (ns.map V.int) → HOk P w H s₁.heap → (∀ b, H b ≠ none → b = a) → (H a ≠ none → K.lookup a = none) →
      codeAny (model P w) callerA (.call (.ref fa) ⟨[.ref a], []⟩) (fun r s' => r = .ok (.ret (.bool true)) ∧ OldK s₁.heap s'.heap ∧ s'.os = s₁.os ∧ AllBare s'.gens) s₁ := by
    intro H hO hS hok hA hK
    have base_of : ∀ {b : Addr} {o : Obj}, s₁.heap.get? b = some o → H b = none → (hidT s₁.heap H).get? b = some o := fun e n => hidT_get e n
    have noA : ∀ {b : Addr} {o : Obj} {es : Array DictEntry} {ep : Nat}, s₁.heap.get? b = some o → o.data = .dict es ep → H b = none := fun {b o es ep} e d => by
      cases q : H b with
      | none => rfl
      | some u =>
        have e' : b = a := hA b (by rw [q]; simp)
        subst e'
        rw [ha] at e; cases e
        have d' : Data.seq vs.toArray _ = Data.dict es ep := d
        cases d'
    have nsK : ∀ {b : Addr} {m : Str → Option Value}, s₁.heap.Ns b m → (hidT s₁.heap H).Ns b m := fun {b m} ⟨o, es, ep, e, d, r⟩ => ⟨o, es, ep, base_of e (noA e d), d, r⟩
    have hKb : K.In (hidT s₁.heap H) := fun b o e => base_of (KX b o e) (by
      cases q : H b with
      | none => rfl
      | some u =>
        have e' : b = a := hA b (by rw [q]; simp)
        subst e'
        rw [hK (by rw [q]; simp)] at e; cases e)
    have hM : Mod K mg (hidT s₁.heap H) := ⟨hKb, nsK hns, ⟨mb, nsK hb, hbb⟩, let ⟨mc, h1, h2⟩ := hlim; ⟨mc, nsK h1, h2⟩⟩
    have e0 : Env0 P w K mg (hidT s₁.heap H) callerA [] s₁ H := ⟨rfl, hM, fun b o e => of_hidT e, Nat.le_of_eq (hidT_size _ _), trivial, fun b hb => absurd (show b ∈ ([] : List Addr) from hb) (by simp), hok, .of_eq hg⟩
    refine codeAny_mono ((F _ hKb (nsK hns)).run callerA [] s₁ H ⟨[.ref a], []⟩ [.ref a] [.ref a] _ _ rfl hr e0 (hbind s₁ (.ref a)) (.cons rfl .nil) (hsp H hO hS)) fun r s' h => ?_
    cases r with
    | error e => exact (hCX H e s' h).elim
    | ok fl =>
      cases fl with
      | next => exact False.elim h
      | brk => exact False.elim h
      | cont => exact False.elim h
      | ret u =>
        obtain ⟨v, H', os, bare, un, hok', r', q⟩ := h
        have q' : v = .bl true := q
        subst q'
        obtain rfl : u = Value.bool true := r'
        refine ⟨rfl, OldK.of_keep fun b o e => ?_, os, bare⟩
        cases q : H b with
        | none => exact un.keep b o e q (by intro z; exact absurd (show b ∈ ([] : List Addr) from z) (by simp)) (by simp)
        | some u =>
          rcases hO b with z | ⟨ob, xs, z⟩
          · rw [q] at z; cases z
          · have z2 := un.frzs b ob _ z
            obtain ⟨e1, _⟩ := hok b _ z
            obtain ⟨e2, _⟩ := hok' b _ z2
            rw [e] at e1; cases e1
            exact e2
  cases hk : K.lookup a with
  | some o =>
    have e := KX a o hk
    rw [ha] at e
    cases e
    refine core (fun _ => none) (fun _ => .inl rfl) (.inr ⟨_, vs.toArray, _, hk, rfl, rfl, rfl, by rw [List.size_toArray, lenV]; exact hl, by simpa using rv⟩) (fun b u z => by have z' : (none : Option HO) = some u := z; cases z') (fun b z => absurd rfl z) fun z => absurd rfl z
  | none =>
    refine core (fun b => if b = a then some (.frz { cls := .type "list", data := .seq vs.toArray } (.lst (ns.map V.int))) else none) (fun b => ?_) (.inl (.inr ⟨{ cls := .type "list", data := .seq vs.toArray }, if_pos rfl⟩)) (fun b u z => ?_) (fun b z => ?_) fun _ => hk
    · by_cases hb : b = a
      · exact .inr ⟨_, _, if_pos hb⟩
      · exact .inl (if_neg hb)
    · by_cases hb : b = a
      · have z' := (if_pos hb).symm.trans z
        cases z'
        subst hb
        exact ⟨ha, by rw [List.length_map]; exact hl, vs, _, rv, ha⟩
      · have z' := (if_neg hb).symm.trans z
        cases z'
    · by_cases hb : b = a
      · exact hb
      · exact absurd (if_neg hb) z
theorem walk_ofG {l : PySem.W.OpenLaw} {n k : Nat} {q : Program} {loose : List Str} {XP : (Str → Option Value) → Heap → Prop} {YP : World → Heap → Prop} {d : DefRec} {K : Params → PySem.W.Frag} {CX : World → CXT} {sp : World → Sp} {x : Str}
    (hn : l.most = some n) (hn2 : n ≤ sizeLine) (hdf : d.params.defaults = []) (hr : Room k callerA)
    (hY : ∀ (w : World) (h : Heap), YP w h → (K w.params).In h)
    (F : ∀ (w : World) (mg : Str → Option Value) (fa : Addr) (h : Heap), (K w.params).In h → h.Ns mainGlobals mg → mg d.name = some (.ref fa) →
      ∃ fd : FuncData, (∀ (s : Shared) (u : Value), BindsTo s fd ⟨[u], []⟩ [(x, u)]) ∧
        ∀ base : Heap, (K w.params).In base → base.Ns mainGlobals mg → FnG l.prog w (K w.params) mg base (CX w) k fa fd [x] (sp w))
    (hsp : ∀ (w : World) (H : Hp) (a : Addr) (ns : List Int), ns.length ≤ n → Only H → SqL (K w.params) H a (ns.map V.int) → sp w [.ref a] H (fun v _ => v = .bl true) fun _ _ _ => False)
    (hCX : ∀ (w : World) (H : Hp) (s : Shared) (e : Value) (s' : Shared), CX w [] H s (fun _ _ _ => False) e s' → False) :
    PySem.W.WalkO q loose XP YP l.row.toRowW d [] (fun f vs => PySem.call f vs) := by
  refine Att.attach_call hn hdf fun w s₀ s₁ mg mb fa o pm cd doc a vs ns G Y ho hd hcd hmg hobj hints hlen hg => ?_
  have KX := hY w _ Y
  obtain ⟨fd, hb, hF⟩ := F w mg fa _ KX G.T.g hmg
  exact law_callG KX G.T.g G.T.b G.T.builtins G.T.nolimit hg hobj hints (Nat.le_trans hlen hn2) hr hF hb (fun H hO hS => hsp w H a ns hlen hO hS) fun H e s' => hCX w H s₁ e s'
end VL

set_option Elab.async false
set_option linter.all false
set_option maxRecDepth 100000
set_option maxHeartbeats 4000000
/-! VX0: an own error of one field whose __init__ hands it to its super: the machine's side. -/
namespace VX
open PySem PySem.W PySem.Calls PyProof.Rows PySem.HandSPX PySem.Spec
/-- the text of __init__(self, f): super().__init__(f); self.f = f -/
def xA (f : Str) (a1 a2 : Pos) : Arguments := { posonlyargs := [], args := [{ arg := "self", annotation := none, pos := a1 }, { arg := f, annotation := none, pos := a2 }], vararg := none, kwonlyargs := [], kw_defaults := [], kwarg := none, defaults := [] }
def xB (f : Str) (p0 p1 p2 p3 p4 p5 q1 q2 q3 q4 : Pos) : List Stmt :=
  [.Expr (.Call (.Attribute (.Call (.Name "super" p0) [] [] p1) "__init__" p2) [.Name f p3] [] p4) p5, .Assign [.Attribute (.Name "self" q1) f q2] (.Name f q3) q4]
def xS (f : Str) : Scope := { kind := .function, names := [("self", .local), (f, .local), ("__class__", .free), ("super", .globalImplicit)], isGenerator := false, isCoroutine := false, more := [] }
/-- f is a name like another -/
structure Plain (f : Str) : Prop where
  a : (f == ("self" : Str)) = false
  b : (f == ("__class__" : Str)) = false
  c : (f == ("super" : Str)) = false
  d : (f == ("__debug__" : Str)) = false
  a' : (("self" : Str) == f) = false
  b' : (("__class__" : Str) == f) = false
  c' : (("super" : Str) == f) = false
/-- the call of super().__init__ as it is evaluated where it stands -/
def Late (f : Str) (p0 p1 p2 p3 p4 : Pos) : Prop := ∃ pl : Sem Bool, ∀ env : Env, eval (.Call (.Attribute (.Call (.Name "super" p0) [] [] p1) "__init__" p2) [.Name f p3] [] p4) env = (do
  let ov ← attributeBase (.Call (.Name "super" p0) [] [] p1) "__init__" env (eval (.Call (.Name "super" p0) [] [] p1) env)
  standAt p2.atName
  let (g, first) ← holding [ov] (getMethod ov "__init__" pl)
  callWith p4 g first (backTo p4 (starEach [.Name f p3] env)) [])
/-- what the written part says of the class x at C and of its __init__ at fI -/
structure XTxt (prog : Program) (K : Frag) (mg : Str → Option Value) (x f : Str) (C fI : Addr) : Prop where
  gC : mg x = some (.ref C)
  nC : nsIn K mainGlobals x = some (some (.ref C))
  cls : ∃ nm q N bs bm sn sub ab col dd k0 k1 k2 k3 k5, K.lookup C = some (excClassObj nm q C N bs bm true sn sub ab col dd k0 k1 k2 k3 k5 "ValueError.__new__") ∧ refsVE bm = true
  sa : findIn K (.ref C) "__setattr__" = some (some (.builtin "object.__setattr__"))
  ga : findIn K (.ref C) "__getattribute__" = some (some (.builtin "BaseException.__getattribute__"))
  gg : findIn K (.ref C) "__getattr__" = some none
  noN : findIn K (.ref C) f = some none
  iC : findIn K (.ref C) "__init__" = some (some (.ref fI))
  tC : typeIn K (.ref fI) = some (.type "function")
  kC : keepIn K (.ref C) = true
  exC : subIn K (.ref C) (.type "BaseException") = some true
  veC : subIn K (.ref C) (.type "ValueError") = some true
  tyC : typeIn K (.ref C) = some (.type "type")
  hdC : hasDictIn K C = true
  su : ks_superIn K C C "__init__" = some (some (.builtin "ValueError.__init__"))
  mC : mroIn K C (.ref C) = some true
  no : nsIn K cStatics "thirdparty.any" = some none
  sup : nsIn K mainGlobals "super" = some none
  pl : Plain f
  bd : ∀ (qual : Str) (a1 a2 p0 p1 p2 p3 p4 p5 q1 q2 q3 q4 : Pos) (doc pm : Value) (an : Option Addr) (cda : Addr) (ct : Value) (cc : Addr) (u v : Value), bindArgs (ksFn "__init__" qual (xA f a1 a2) (xB f p0 p1 p2 p3 p4 p5 q1 q2 q3 q4) (xS f) .none .none doc pm an (.ref cda) ct cc) ⟨[u, v], []⟩ = pure [(("self" : Str), u), (f, v)]
  fn : ∃ (oc : Value) (od : Option Addr) (doc pm : Value) (an : Option Addr) (ct : Value) (osl : Array (Option Value)) (a1 a2 p0 p1 p2 p3 p4 p5 q1 q2 q3 q4 : Pos) (qual : Str) (cc cda : Addr) (ccl cl : Value) (cdd cld : Option Addr) (ccs csl : Array (Option Value)) (vs : Array Value) (file : Str) (tf : Tok),
    K.lookup fI = some ⟨oc, od, .func (ksFn "__init__" qual (xA f a1 a2) (xB f p0 p1 p2 p3 p4 p5 q1 q2 q3 q4) (xS f) .none .none doc pm an (.ref cda) ct cc), osl⟩ ∧ codeIn K (.ref cda) qual = true ∧
    K.lookup cda = some ⟨ccl, cdd, .fields vs, ccs⟩ ∧ vs[2]? = some (.str file tf) ∧ ((prog.main.file : Str) == file) = true ∧ (prog.main.scope.names.lookup ("super" : Str)).isSome = false ∧ K.lookup cc = some ⟨cl, cld, .cell (some (.ref C)), csl⟩ ∧ Late f p0 p1 p2 p3 p4
/-- what __init__ leaves of a fresh exception at x -/
structure XEnd (h h' : Heap) (f : Str) (x C dx t1 : Addr) (v : Value) : Prop where
  keep : ∀ b o, b ≠ x → h.get? b = some o → h'.get? b = some o
  obj : h'.get? x = some { cls := .ref C, dict := some dx, data := .fields #[.ref t1, .none, .none, .none, .bool false, .none] }
  dbig : h.objs.size ≤ dx
  dne : dx ≠ x
  ns : h'.Ns1 dx (fun y => if y = f then some v else none)
section
variable {prog : Program} {w : World} {A : Around} {E : Value → Shared → Prop} {R : Result → Shared → Prop} {s : Shared} {K : Frag} {mg mb : Str → Option Value} {C fI : Addr} {nm f : Str}
theorem ld_own {M : Model} {s : Shared} {q : Str} {scope : Scope} {L a cc : Addr} {cd : Value} {m : Str → Option Value} {x : Str} {pos : Pos} {v : Value} {Q : Value → Shared → Prop} (hn : s.heap.Ns L m) (hv : m x = some v) (h : Q v s)
    (hk : scope.kind = .function) (hl : (ksEnv q scope L a cd cc).kindOf x = some .local) (hd : (x == ("__debug__" : Str)) = false) : wpAny M A (eval (.Name x pos) (ksEnv q scope L a cd cc)) Q E s := wpAny_Name (wpAny_loadName_local hk hl hn hv h) hd
theorem look_f (P : Plain f) : (xS f).names.lookup f = some .local := by
  show List.lookup f [(("self" : Str), NameKind.local), (f, .local), ("__class__", .free), ("super", .globalImplicit)] = _
  rw [List.lookup_cons, P.a]
  simp
theorem look_self : (xS f).names.lookup ("self" : Str) = some .local := by
  show List.lookup ("self" : Str) [(("self" : Str), NameKind.local), (f, .local), ("__class__", .free), ("super", .globalImplicit)] = _
  simp
theorem look_class (P : Plain f) : (xS f).names.lookup ("__class__" : Str) = some .free := by
  show List.lookup ("__class__" : Str) [(("self" : Str), NameKind.local), (f, .local), ("__class__", .free), ("super", .globalImplicit)] = _
  rw [List.lookup_cons, show (("__class__" : Str) == "self") = false by decide, List.lookup_cons, P.b']
  simp
theorem look_super (P : Plain f) : (xS f).names.lookup ("super" : Str) = some .globalImplicit := by
  show List.lookup ("super" : Str) [(("self" : Str), NameKind.local), (f, .local), ("__class__", .free), ("super", .globalImplicit)] = _
  rw [List.lookup_cons, show (("super" : Str) == "self") = false by decide, List.lookup_cons, P.c', List.lookup_cons, show (("super" : Str) == "__class__") = false by decide]
  simp
theorem x_init (T : XTxt prog K mg nm f C fI) {x t0 : Addr} {v : Value} (X : K.In s.heap) (hlim : s.heap.NoLimit) (hg : s.heap.Ns mainGlobals mg) (hb : s.heap.Ns builtinsNs mb) (hbb : ∀ x : Str, x ≠ "__name__" → mb x = bootBuiltins x) (hmg : mg "super" = none)
    (hx : s.heap.get? x = some (excO C t0)) (hnx : K.lookup x = none) (hroom : A.depth < recursionLimit)
    (hq : ∀ h' tk dx t1, XEnd s.heap h' f x C dx t1 v → R (.ok (.ret .none)) { s with heap := h', toks := tk }) :
    codeAny (model prog w) A (.call (.ref fI) ⟨[.ref x, v], []⟩) R s := by
  obtain ⟨oc, od, doc, pm, an, ct, osl, a1, a2, p0, p1, p2, p3, p4, p5, q1, q2, q3, q4, qual, cc, cda, ccl, cl, cdd, cld, ccs, csl, vs, file, tf, ho, hcd, hcode, hvs, hfile, htop, hcell, pl, hlate⟩ := T.fn
  obtain ⟨cnm, q, N, bs, bm, sn, sub, ab, col, dd, k0, k1, k2, k3, k5, hC, hbm⟩ := T.cls
  have P := T.pl
  have hcl : clsIn K C = some { name := cnm, bases := bs, mro := .ref C :: bm, ns := N, qualname := q, hasDict := true, slotNames := sn, subclasses := sub, abstract := ab, collection := col, hasDel := false } := by unfold clsIn; rw [hC] <;> rfl
  refine ks_codeAny_call_defAt (fd := ksFn "__init__" qual (xA f a1 a2) (xB f p0 p1 p2 p3 p4 p5 q1 q2 q3 q4) (xS f) .none .none doc pm an (.ref cda) ct cc) (binds := [("self", .ref x), (f, v)]) hroom (X _ _ ho) rfl hlim (codeRec_of X hcd) rfl (BindsTo.of_eq (T.bd _ _ _ _ _ _ _ _ _ _ _ _ _ _ _ _ _ _ _ _ _)) ?_ ?_ (fun h₁ hn k => ?_) rfl rfl rfl
  · intro y hy
    simp only [xS, List.mem_cons, List.not_mem_nil, or_false] at hy
    rcases hy with rfl | rfl | rfl | rfl <;> (intro z; cases z)
  · intro y hy
    simp only [List.mem_cons, List.not_mem_nil, or_false] at hy
    rcases hy with rfl | rfl
    · exact look_self
    · exact look_f P
  have X₁ : K.In h₁ := X.keeps k
  have hx₁ := k _ _ hx
  have ne : x ≠ C := fun z => by
    have y := X _ _ hC
    rw [← z, hx] at y
    cases y
  have mv : (List.lookup f ([(("self" : Str), Value.ref x), (f, v)].reverse)) = some v := by
    show List.lookup f [(f, v), (("self" : Str), Value.ref x)] = _
    simp
  have mx : (List.lookup ("self" : Str) ([(("self" : Str), Value.ref x), (f, v)].reverse)) = some (.ref x) := by
    show List.lookup ("self" : Str) [(f, v), (("self" : Str), Value.ref x)] = _
    rw [List.lookup_cons, P.a']
    simp
  -- super().__init__(f)
  refine ks_wpAt_execs_cons (ks_wpAt_Expr_any (ks_wpAt_MethodCall (pl := pl) ?_ (hlate _)) rfl rfl)
  · refine ks_wpAt_super_base (fd := ksFn "__init__" qual (xA f a1 a2) (xB f p0 p1 p2 p3 p4 p5 q1 q2 q3 q4) (xS f) .none .none doc pm an (.ref cda) ct cc) (look_super P) (look_class P) (by decide) rfl (k _ _ (X _ _ ho)) rfl rfl rfl (k _ _ (X _ _ hcode)) rfl hvs hfile htop ?_
    refine ks_loadName_global rfl (look_super P) (loadGlobal_builtin (hg.keeps k) hmg (hb.keeps k) ((hbb _ (by decide +kernel)).trans (by first | boot_by_name | rfl | kernel_rfl)) ⟨rfl, ?_⟩)
    refine wpAny_loadName_free rfl (look_class P) rfl ⟨_, X₁ _ _ hcell, rfl⟩ ?_
    refine wpAny_loadName_local rfl look_self hn mx ?_
    refine ks_wpAny_isType_cls (X₁ _ _ hC) rfl ⟨rfl, ?_⟩
    refine ks_wpAny_call_super (X₁ _ _ hC) rfl hx₁ rfl (fun c z => by cases z) (looks_mroIn X₁ T.mC) (fun h₂ e₂ k₂ => ?_)
    have X₂ : K.In h₂ := X₁.keeps k₂
    have hx₂ := k₂ _ _ hx₁
    have I₂ : InstAt h₂ x (excO C t0) C none := ⟨hx₂, rfl, rfl, trivial⟩
    have su : alongIn K "__init__" (((Value.ref C :: bm).dropWhile (· != .ref C)).drop 1) = some (some (.builtin "ValueError.__init__")) := by
      have y := T.su
      unfold ks_superIn at y
      rw [hcl] at y
      exact y
    refine kxs_getMethod kxs_ValueError e₂ (looks_opaque X₂ T.no) (l₀ := .ref C :: bm) (fun A Q E s k q => wpAny_bind ((looks_clsIn X₂ hcl) A _ E s k (wpAny_pure q))) rfl X₂ su (I₂.type.andThen (looks_subIn X₂ T.veC)) ne (by decide) ?_
    have k₃ : ∀ b o, h₂.get? b = some o → (h₂.push (kxs_mw "ValueError.__init__" x)).get? b = some o := fun b o e => Heap.get?_push_of_some _ e
    have hu : (h₂.push (kxs_mw "ValueError.__init__" x)).get? h₂.objs.size = some (kxs_mw "ValueError.__init__" x) := Heap.get?_push_at rfl rfl
    have hn₃ := (hn.keeps k₂).keeps k₃
    refine kxs_callWith (i := "ValueError.__init__") (x := x) rfl (evalArgs_plain (spliced_cons ?_))
    refine ld_own hn₃ mv ?_ rfl (look_f P) P.d
    refine spliced_nil ⟨hu, ?_⟩
    -- the built-in __init__: the args anew
    refine wpAny_call (codeAny_of_tree ?_)
    show wpAny _ _ (callAny (.ref h₂.objs.size) ⟨[v], []⟩) _ _ _
    simp only [callAny]
    refine wpAny_bind (wpAny_load hu ?_)
    simp only [kxs_mw, show (Value.type "method-wrapper" == Value.type "method" || Value.type "method-wrapper" == Value.type "builtin_function_or_method" || Value.type "method-wrapper" == Value.type "method-wrapper") = true by decide, if_true]
    refine KFB.if_so (by decide) ?_
    refine wpAny_bind (check_bound_init F.excBase_ValueError.toExcCallFacts (k₃ _ _ (k₂ _ _ (X₁ _ _ hC))) (k₃ _ _ hx₂) rfl ?_)
    refine wpAny_bind (wpAny_pure (wpAny_pure ?_))
    refine ⟨plainId_quiet F.excBase_ValueError.init.plain _, codeAny_builtin F.excBase_ValueError.initEntry ?_⟩
    refine exc_init_tree (cls := .ref C) (t0 := t0) (dv := none) (c2 := .none) (c3 := .none) (b4 := .bool false) (k₃ _ _ hx₂) (by rw [sizeLine_eq]; exact (by decide : 1 ≤ 16777216)) (fun h₄ k₄ hx₄ ht₄ => ?_)
    have k04 : ∀ b o, b ≠ x → s.heap.get? b = some o → h₄.get? b = some o := fun b o z e => k₄ b o z (k₃ _ _ (k₂ _ _ (k _ _ e)))
    have X₄ : K.In h₄ := fun a o e => k04 a o (fun z => by rw [z, hnx] at e; cases e) (X _ _ e)
    have nL : s.heap.objs.size ≠ x := Nat.ne_of_gt (Heap.lt_size hx)
    have hn₄ : h₄.Ns s.heap.objs.size (fun y => List.lookup y ([(("self" : Str), Value.ref x), (f, v)].reverse)) := by
      obtain ⟨oL, es, ep, e, r⟩ := hn₃
      exact ⟨oL, es, ep, k₄ _ _ nL e, r⟩
    show _root_.PySem.wpAt _ _ _ (execs _ _) _ _ _
    refine ks_wpAt_execs_cons (ks_wpAt_Assign_Attr (wpAt_of_wpAny ?_) ?_)
    · refine ld_own (q := qual) (scope := xS f) hn₄ mv ?_ rfl (look_f P) P.d
      refine ld_own (q := qual) (scope := xS f) hn₄ mx ?_ rfl look_self (by decide)
      refine set_plain X₄ (ox := excO C (h₂.push (kxs_mw "ValueError.__init__" x)).objs.size) (od := none) ⟨hx₄, rfl, rfl, trivial⟩ T.sa ?_
      refine exc_osa X₄ hx₄ hcl (show refsVE (.ref C :: bm) = true from hbm) rfl T.noN (fun h₅ tk₅ dx k₅ dn dne hx₅ hn₅ => ?_)
      show _root_.PySem.wpAt _ _ _ (execs _ _) _ _ _
      refine wpAt_of_wpAny (wpAny_execs_nil ?_)
      refine hq h₅ tk₅ dx _ ⟨fun b o hb e => k₅ b o hb (k04 b o hb e), hx₅, ?_, dne, hn₅⟩
      have z : s.heap.objs.size < h₄.objs.size := hn₄.lt
      exact Nat.le_of_lt (Nat.lt_of_lt_of_le z dn)
    · rfl
end
end VX

set_option Elab.async false
set_option linter.all false
set_option maxRecDepth 100000
set_option maxHeartbeats 4000000
/-! VX1: an own error made and raised; a caught one that is kept beyond its suite. -/
namespace VX
open PySem PySem.W PySem.Calls PyProof.Rows PySem.HandSPX PySem.Spec
section
variable {prog : Program} {w : World} {A : Around} {R : Result → Shared → Prop} {s : Shared} {K : Frag} {mg mb : Str → Option Value} {C fI : Addr} {nm f : Str}
/-- a made one -/
structure XMade (h h' : Heap) (f : Str) (e C d : Addr) (v : Value) : Prop where
  keep : ∀ b o, h.get? b = some o → h'.get? b = some o
  new : h.objs.size ≤ e
  obj : ∃ oe vs, h'.get? e = some oe ∧ oe.cls = .ref C ∧ oe.dict = some d ∧ oe.data = .fields vs ∧ vs[1]? = some .none
  dbig : h.objs.size ≤ d
  dne : d ≠ e
  ns : h'.Ns1 d (fun y => if y = f then some v else none)
theorem x_made (T : XTxt prog K mg nm f C fI) {v : Value} (X : K.In s.heap) (hlim : s.heap.NoLimit) (hg : s.heap.Ns mainGlobals mg) (hb : s.heap.Ns builtinsNs mb) (hbb : ∀ x : Str, x ≠ "__name__" → mb x = bootBuiltins x) (hmg : mg "super" = none)
    (hroom : A.depth + 1 < recursionLimit) (hq : ∀ h' tk e d, XMade s.heap h' f e C d v → R (.ok (.ret (.ref e))) { s with heap := h', toks := tk }) :
    codeAny (model prog w) A (.call (.ref C) ⟨[v], []⟩) R s := by
  obtain ⟨cn, q, N, bs, bm, sn, sub, ab, col, dd, k0, k1, k2, k3, k5, hC, hbm⟩ := T.cls
  obtain ⟨hp, g, dr, tk, os⟩ := s
  generalize e2 : (hp.push (kdv_tup [v])).push (excO C hp.objs.size) = h2
  have k : ∀ b o, hp.get? b = some o → h2.get? b = some o := fun b o e => by
    rw [← e2]
    exact Heap.get?_push_of_some _ (Heap.get?_push_of_some _ e)
  have at2 : h2.get? (hp.objs.size + 1) = some (excO C hp.objs.size) := by
    rw [← e2]
    heap_get
  have sz2 : h2.objs.size = hp.objs.size + 1 + 1 := by rw [← e2, Heap.size_push, Heap.size_push]
  have free : K.lookup (hp.objs.size + 1) = none := by
    cases e : K.lookup (hp.objs.size + 1) with
    | none => rfl
    | some o => exact absurd (Nat.lt_of_succ_lt (Heap.lt_size (show hp.get? (hp.objs.size + 1) = some o from X _ _ e))) (Nat.lt_irrefl _)
  refine call_own F.excBase_ValueError (fun Y => refsVE_contains Y bm hbm) (X _ _ hC) (looks_findIn X T.iC) (fun self => bind_fn X self T.tC) (by rw [sizeLine_eq]; exact (by decide : 1 ≤ 16777216)) ?_
  rw [e2]
  refine x_init (s := ⟨h2, g, dr, tk, os⟩) (mb := mb) T (X.keeps k) (hlim.keeps k) (hg.keeps k) (hb.keeps k) hbb hmg at2 free hroom fun h' tk' dx t1 Z => ?_
  have old : ∀ b o, hp.get? b = some o → h'.get? b = some o := fun b o e => Z.keep b o (Nat.ne_of_lt (Nat.lt_succ_of_lt (Heap.lt_size e))) (k b o e)
  have big : h2.objs.size ≤ dx := Z.dbig
  exact ⟨rfl, hq h' tk' (hp.objs.size + 1) dx ⟨old, Nat.le_succ _, ⟨_, _, Z.obj, rfl, rfl, rfl, rfl⟩, (by show hp.objs.size ≤ dx; omega), Z.dne, Z.ns⟩⟩
end
end VX
namespace VX
open PySem PySem.Spec PyProof.Rows L2
section
variable {X : Cx} {C fI : Addr} {nm f : Str}
theorem relO_one {v : V} {u : Value} (r : RelV v u) (g : Str) : RelO (List.lookup g [(f, v)]) (if g = f then some u else none) := by
  by_cases hw : g = f
  · subst hw
    rw [if_pos rfl, show List.lookup g [(g, v)] = some v by simp [List.lookup]]
    exact r
  · rw [if_neg hw, show List.lookup g [(f, v)] = none by simp [List.lookup, show (g == f) = false by simpa using hw]]
    trivial
/-- X(e) -/
def tMkX (C : Addr) (f : Str) (ta : TA) : L2.St → Hp → XK → Prop := fun σ H Q => ta σ H fun vs H1 => ∃ v, vs = [v] ∧ ∀ d, H1 d = none → Q (.ref C) (some d) (upd H1 d (.xd [(f, v)]))
theorem pmk_x {a : Expr} {ta : TA} {p pos : Pos} {k : Nat} (T : XTxt X.prog X.K X.mg nm f C fI) (hmg : X.mg "super" = none) (hr : Room k X.A) (ha : PA X [a] ta) (hg : Gl X nm) (hd : (nm == ("__debug__" : Str)) = false)
    (he : starEach (a :: []) X.env = (false, eval a X.env) :: starEach [] X.env) (hpl : (backTo pos (starEach [] X.env)).any (·.1) = false) :
    PMk X (.Call (.Name nm p) [a] [] pos) (tMkX C f ta) := by
  intro pins s σ H Q I h
  refine wpAny_Call_Name_kw (ld_glob I hg T.gC ?_ hd)
  refine PySem.W.callWith_K (h₀ := X.base) I.ok.mod.kin T.kC (thn (ha.run pos pins s σ H _ I h) fun us s1 hh => ?_) he hpl
  obtain ⟨vs, H1, I1, r1, v, rfl, q1⟩ := hh
  refine ⟨I1.kIn, ?_⟩
  obtain ⟨u, rfl, ru⟩ := vals1 r1
  obtain ⟨mb, hb1, hb2⟩ := I1.mod.blt
  obtain ⟨hp, g, dr, tk, os⟩ := s1
  have kp : ∀ b o, X.base.get? b = some o → hp.get? b = some o := I1.bk
  refine wpAny_call (x_made (mb := mb) T I1.kIn I1.nolimit (I1.mod.glob.keeps kp) (hb1.keeps kp) hb2 hmg (by have := hr.dp; omega) fun h' tk' e d M => ?_)
  show MkP X pins σ Q (.ref e) ⟨h', g, dr, tk', os⟩
  obtain ⟨oe, fv, hoe, hc, hdi, hdat, h1⟩ := M.obj
  obtain ⟨G, g1, g2⟩ := restrict h' fun b => decide (b ≠ e)
  have gk : ∀ b, b ≠ e → G.get? b = h'.get? b := fun b hb => g1 b (decide_eq_true hb)
  have ge : G.get? e = none := g2 e (by simp)
  have ob : ObjOk X.prog X.w (upd H1 d (.xd [(f, v)])) G d (.xd [(f, v)]) := ⟨_, M.ns.at (fun o q => (gk d M.dne).trans q), fun g => relO_one ru g⟩
  have J : Inv X pins σ (upd H1 d (.xd [(f, v)])) ⟨G, g, dr, tk', os⟩ :=
    I1.laid (t' := tk') (fun b o q => (gk b (Nat.ne_of_lt (Nat.lt_of_lt_of_le (Heap.lt_size q) M.new))).trans (M.keep b o q)) M.dbig ob
  refine ⟨e, oe, fv, ⟨G, g, dr, tk', os⟩, _, .ref C, some d, rfl, J, fun b o q => ?_, ge, hoe, ⟨hc, hdi⟩, hdat, h1, ?_, rfl, I1.bare, raises_own T.exC T.tyC, q1 d (I1.hok.fresh M.dbig)⟩
  · by_cases hb : b = e
    · have z : G.get? b = some o := q
      rw [hb, ge] at z
      cases z
    · exact (gk b hb).symm.trans q
  · rw [upd_ne (Ne.symm M.dne)]
    exact I1.hok.fresh M.new
end

/-! ### kept beyond its suite -/
/-- an error as an object that is told: its class, its own dict -/
def ExF (cls : Value) (d : Option Addr) (a : Addr) : HO := .ext fun h => ∃ (oe : Obj) (vs : Array Value), h.get? a = some oe ∧ Zc cls d oe ∧ oe.data = .fields vs
theorem exF_ok {P : Program} {w : World} {H : Hp} {h : Heap} {a : Addr} {cls : Value} {d : Option Addr} {oe : Obj} {vs : Array Value} (e : h.get? a = some oe) (z : Zc cls d oe) (dt : oe.data = .fields vs) : ObjOk P w H h a (ExF cls d a) :=
  ⟨⟨oe, vs, e, z, dt⟩, ⟨oe, e⟩, fun h1 h2 ⟨o, us, e1, z1, d1⟩ k => ⟨o, us, k _ e1, z1, d1⟩⟩
section
variable {X : Cx} {pins : List (Addr × Obj)} {σ : L2.St} {H : Hp} {s : Shared} {a : Addr} {oe : Obj} {cls : Value} {d : Option Addr}
/-- a pinned new object is told from now on -/
theorem tell_pin (I : Inv X ((a, oe) :: pins) σ H s) (hz : Zc cls d oe) (hf : ∃ vs, oe.data = .fields vs) (h0 : X.s_0.heap.get? a = none) (hp : ∀ p ∈ X.pn ++ pins, p.1 ≠ a) : Inv X pins σ (upd H a (ExF cls d a)) s := by
  obtain ⟨vs, hd⟩ := hf
  obtain ⟨ha, na, nL, nF, ncell⟩ := I.pin (a, oe) (List.mem_append_right _ List.mem_cons_self)
  have keep : ∀ {b : Addr} {o : HO}, H b = some o → upd H a (ExF cls d a) b = some o := fun {b o} e => by
    rw [upd_ne (ne_of_none e na)]
    exact e
  refine ⟨I.ok, I.os, I.bare, ⟨I.base.keep, I.base.slot, fun b o e n x => ?_, I.base.there, fun b xs e => keep (I.base.tups b xs e), fun b o u e => keep (I.base.frzs b o u e), fun b ps e => ?_⟩, I.loc, I.cell, ?_, fun x c e => ?_, fun p hm => ?_, HOk.laidN I.hok (fun _ _ q => q) na (exF_ok ha hz hd), I.len⟩
  · rw [upd_ne (fun z => by rw [z, h0] at e; cases e)]
    exact I.base.free b o e n x
  · obtain ⟨more, q⟩ := I.base.tbls b ps e
    exact ⟨more, keep q⟩
  · rw [upd_ne (Ne.symm nL)]
    exact I.free
  · have ne : c ≠ a := fun z => by
      obtain ⟨v, o, q1, q2⟩ := I.cell x c e
      rw [z, ha] at q1
      cases q1
      exact ncell v q2
    rw [upd_ne ne]
    exact I.freeC x c e
  · have hm' : p ∈ X.pn ++ (a, oe) :: pins := by
      rcases List.mem_append.mp hm with q | q
      · exact List.mem_append_left _ q
      · exact List.mem_append_right _ (List.mem_cons_of_mem _ q)
    obtain ⟨q1, q2, q3⟩ := I.pin p hm'
    exact ⟨q1, by rw [upd_ne (hp p hm)]; exact q2, q3⟩
end
end VX

set_option Elab.async false
set_option linter.all false
set_option maxRecDepth 100000
set_option maxHeartbeats 4000000
/-! VX2: try: .. except X as n: .. where the error is told beyond the suite. -/
namespace VX
open PySem PySem.Spec PyProof.Rows L2
/-- the ends of a suite that holds the error a in slot i: behind it the slot is bare and the error is told -/
def endsK (i : Nat) (a : Addr) (cls : Value) (d : Option Addr) (D : Ends) : Ends :=
  { nx := fun σ H => D.nx (σ.set i none) (upd H a (ExF cls d a)), rt := fun v H => D.rt v (upd H a (ExF cls d a)), bk := fun σ H => D.bk (σ.set i none) (upd H a (ExF cls d a)), ct := fun σ H => D.ct (σ.set i none) (upd H a (ExF cls d a)) }
def wKeep (K : PySem.W.Frag) (c : Value) (i : Nat) (ts : Addr → Value → Option Addr → TS) (Wout : WX) (D : Ends) : WX := fun cls d σ H =>
  ∃ b, PySem.W.exmOne K cls c = some b ∧ (b = true → ∀ a, H a = none → ts a cls d (endsK i a cls d D) (σ.set i (some (.ref a))) H) ∧ (b = false → Wout cls d σ H)
section
variable {X : Cx} {x n : Str} {c : Value} {i : Nat} {body suite : List Stmt} {b₀ : Stmt} {np pos pos' : Pos} {tb : WX → TS} {ts : Addr → Value → Option Addr → TS} {Wout : WX}
theorem ps_try_keep (hs : X.stack = X.env :: X.outer) (hf : X.env.frame = some X.env.locals) (hN : X.N.Nodup) (hi : X.N[i]? = some n) (hln : X.env.kindOf n = some .local) (hc : Names X x c) (tk : Takes X Wout) (hex : X.ex = [])
    (hb : ∀ (W : WX) (pn : List (Addr × Obj)) (xe : Value → Shared → Prop), Takes (X.tr pn xe) W → PassesOwn (model X.prog X.w) X.A X.env xe → PSs (X.tr pn xe) body (tb W))
    (hsu : ∀ (a : Addr) (oe : Obj) (cls : Value) (d : Option Addr) (pn : List (Addr × Obj)), Zc cls d oe → (∃ vs, oe.data = .fields vs) → PSs (X.suite a ((a, oe) :: pn)) (b₀ :: suite) (ts a cls d)) :
    PS X (.Try body [.ExceptHandler (some (.Name x np)) (some n) (b₀ :: suite) pos'] [] [] pos) (fun D σ H => tb (wKeep X.K c i ts Wout D) D σ H) := by
  constructor
  intro pins s σ H D I h
  have ok := I.ok
  have frm : X.A.frames = some (X.env :: X.outer) := ok.frames.trans (congrArg some hs)
  apply wpAny_Try_except
  -- what is wanted of an error of the body: the clause
  have clause : ∀ (u : Value) (s1 : Shared), XE (X.tr (X.pn ++ pins) fun e s₁ => wpAny (model X.prog X.w) X.A (noteFrame e X.env) (fun _ s₂ => wpAny (model X.prog X.w) X.A (setFlight e none) (fun _ s₃ =>
      wpAny (model X.prog X.w) X.A (handleBy e X.env [.ExceptHandler (some (.Name x np)) (some n) (b₀ :: suite) pos']) (SP X pins D) X.xe s₃) X.xe s₂) X.xe s₁) (wKeep X.K c i ts Wout D) u s1 →
      wpAny (model X.prog X.w) X.A (noteFrame u X.env) (fun _ s₂ => wpAny (model X.prog X.w) X.A (setFlight u none) (fun _ s₃ =>
      wpAny (model X.prog X.w) X.A (handleBy u X.env [.ExceptHandler (some (.Name x np)) (some n) (b₀ :: suite) pos']) (SP X pins D) X.xe s₃) X.xe s₂) X.xe s1 := by
    rintro u s1 ⟨a, B, sI, ps, τ, G, cls, d, rfl, J0, nb, up, sky, na, os, ag, b, hb1, yes, no⟩
    have J : Inv X pins τ G sI := J0.ofTry ok
    have sky1 : Sky B (X.env :: X.outer) a (Zc cls d) X.env.locals s1.heap := hs ▸ sky
    apply Sky.land Zc.steady frm hf sky1
    intro h2 fly up2
    have J2 : Inv X pins τ G { s1 with heap := h2 } := J.landed nb fly.1 (up.trans up2) os ag
    -- the error is none of the frames, and it is new
    obtain ⟨o2, v2, e2, z2, d2⟩ := fly.there
    have nfr : a ∉ frs (X.env :: X.outer) := fun hm => by
      obtain ⟨_, o', e', hnf⟩ := fly.2.2.1.mem hm
      rw [e2] at e'
      cases e'
      exact hnf _ d2
    have nL : a ≠ X.env.locals := fun z => nfr (List.mem_filterMap.mpr ⟨X.env, List.mem_cons_self, by rw [hf, z]⟩)
    have nF : a ∉ X.fs := fun hm => by
      obtain ⟨e, he, q⟩ := List.mem_filterMap.mp hm
      exact nfr (List.mem_filterMap.mpr ⟨e, List.mem_cons_of_mem _ he, q⟩)
    have nI : sI.heap.get? a = none := by
      cases q : sI.heap.get? a with
      | none => rfl
      | some o =>
        have y := nb a o q (by rw [show (X.tr _ _ : Cx).stack = X.stack from rfl, hs]; exact nfr)
        rw [fly.2.1] at y
        cases y
    have n0 : X.s_0.heap.get? a = none := by
      cases q : X.s_0.heap.get? a with
      | none => rfl
      | some o =>
        obtain ⟨o', y⟩ := J.base.there a o q (by rw [hex]; simp)
        rw [nI] at y
        cases y
    have nP : ∀ p ∈ X.pn ++ pins, p.1 ≠ a := fun p hp z => by
      have y := (J.pin p hp).1
      rw [z, nI] at y
      cases y
    have S2 := J2.suite e2 d2 na nL nF
    refine wpAny_handleBy_cons (codeAny_handlers_test ?_) (by intro q; cases q)
    have tyA : PySem.W.Looks (model X.prog X.w) h2 (typeOf (.ref a)) cls := fun A Q E s k q => wpAny_typeOf_ref (k _ _ e2) (by rw [z2.1]; exact q)
    have tst : PySem.W.Looks (model X.prog X.w) h2 (excMatches (.ref a) c) b := PySem.W.exm_one (M := model X.prog X.w) J2.kIn tyA hb1
    have cname : ∀ {Q : Value → Shared → Prop} {E : Value → Shared → Prop}, Q c { s1 with heap := h2 } → wpAny (model X.prog X.w) (X.A.mark (some (.ref a))) (eval (.Name x np) X.env) Q E { s1 with heap := h2 } := fun {Q E} q => by
      obtain ⟨g1, g2, g3 | ⟨g3, g4, g5⟩⟩ := hc
      · exact ld_glob (X := X.suite a ((a, o2) :: (X.pn ++ pins))) S2 g1 g3 q g2
      · exact ld_blt (X := X.suite a ((a, o2) :: (X.pn ++ pins))) S2 g1 g3 g4 q g5 g2
    refine cname (tst.here ?_)
    cases b with
    | true =>
      refine codeAny_handlers_suite_as (HandSPX.lands_againZ fly fun h3 fly3 up3 => ?_)
      have J3 : Inv X pins τ G { s1 with heap := h3 } := J.landed nb fly3.1 ((up.trans up2).trans up3) os ag
      obtain ⟨o3, v3, e3, z3, d3⟩ := fly3.there
      have S3 := J3.suite e3 d3 na nL nF
      refine store_ok (X := X.suite a ((a, o3) :: (X.pn ++ pins))) (v := .ref a) S3 hN hi (.inl hln) rfl (fun s4 S4 => ?_) (.inr hln)
      have out : ∀ {τ5 : L2.St} {G5 : Hp} {s5 : Shared} {Q : Shared → Prop}, Inv (X.suite a ((a, o3) :: (X.pn ++ pins))) [] τ5 G5 s5 → (∀ s6, Inv X pins (τ5.set i none) (upd G5 a (ExF cls d a)) s6 → Q s6) →
          wpAny (model X.prog X.w) X.A (do bindName X.env n .none; unbindBehindTheSuite X.env n pos') (fun _ s6 => Q s6) X.xe s5 := fun {τ5 G5 s5 Q} S5 hq => by
        have K5 : Inv X ((a, o3) :: pins) τ5 G5 s5 := ⟨ok, S5.os, S5.bare, S5.base, S5.loc, S5.cell, S5.free, S5.freeC, fun p hp => S5.pin p (by
          rw [List.append_nil]
          rcases List.mem_append.mp hp with q | q
          · exact List.mem_cons_of_mem _ (List.mem_append_left _ q)
          · rcases List.mem_cons.mp q with q | q
            · rw [q]; exact List.mem_cons_self
            · exact List.mem_cons_of_mem _ (List.mem_append_right _ q)), S5.hok, S5.len⟩
        exact gone_ok K5 hN hi hln fun s6 K6 => hq s6 (tell_pin K6 z3 ⟨_, d3⟩ n0 nP)
      refine wpAny_mono ((hsu a o3 cls d (X.pn ++ pins) z3 ⟨_, d3⟩).run [] s4 _ G _ S4 (yes rfl a na)) (fun fl s5 hsp => ?_) (fun _ _ z => False.elim z)
      cases fl with
      | next => obtain ⟨τ5, G5, S5, q5⟩ := hsp; exact out S5 fun s6 J6 => ⟨_, _, J6, q5⟩
      | brk => obtain ⟨τ5, G5, S5, q5⟩ := hsp; exact out S5 fun s6 J6 => ⟨_, _, J6, q5⟩
      | cont => obtain ⟨τ5, G5, S5, q5⟩ := hsp; exact out S5 fun s6 J6 => ⟨_, _, J6, q5⟩
      | ret u => obtain ⟨v5, τ5, G5, S5, r5, q5⟩ := hsp; exact out S5 fun s6 J6 => ⟨_, _, _, J6, r5, q5⟩
    | false =>
      show wpAny _ X.A (handleBy (.ref a) X.env []) _ _ _
      refine wpAny_handleBy_nil ?_
      obtain ⟨_, _, _, oe, us, tb0, ot, rest, he, hz, hd, hh, hr⟩ := id fly
      unfold PySem.passOn
      refine wpAny_bind (wpAny_field he hd hh ?_)
      rw [if_neg (show ¬ ((Value.ref tb0 == Value.none) = true) by simp)]
      have go : wpAny (model X.prog X.w) X.A (setFlight (.ref a) X.env.frame) (fun _ s4 => wpAny (model X.prog X.w) X.A (throw (.ref a) : Sem Flow) (SP X pins D) X.xe s4) X.xe { s1 with heap := h2 } := by
        rw [hf]
        exact HandSPX.setFlight_upZ fly fun h4 held up4 => wpAny_throw (tk _ _ ⟨a, B, sI, pins, τ, G, cls, d, rfl, J, nb, (up.trans up2).trans up4, .inr (.inr (by rw [hs]; exact held)), na, os, ag, no rfl⟩)
      first
        | exact wpAny_bind (wpAny_pure (wpAny_bind go))
        | exact wpAny_bind go
  refine wpAny_mono ((hb (wKeep X.K c i ts Wout D) (X.pn ++ pins) _ clause PassesOwn.looking).run [] s σ H D (I.toTry _) h) (fun fl s1 hsp => ?_) (fun e s1 he => he)
  cases fl with
  | next => obtain ⟨τ, G, J, q⟩ := hsp; exact wpAny_execs_nil ⟨τ, G, J.ofTry ok, q⟩
  | brk => obtain ⟨τ, G, J, q⟩ := hsp; exact ⟨τ, G, J.ofTry ok, q⟩
  | cont => obtain ⟨τ, G, J, q⟩ := hsp; exact ⟨τ, G, J.ofTry ok, q⟩
  | ret u => obtain ⟨v, τ, G, J, r, q⟩ := hsp; exact ⟨v, τ, G, J.ofTry ok, r, q⟩
end
end VX

set_option Elab.async false
set_option linter.all false
set_option maxRecDepth 100000
set_option maxHeartbeats 4000000
/-! VX3: isinstance of, and the field of, an error that is told. -/
namespace VX
open PySem PySem.W PySem.Calls PyProof.Rows PySem.Spec
section
variable {prog : Program} {w : World} {A : Around} {E : Value → Shared → Prop} {s : Shared} {K : Frag} {x D : Addr} {ox : Obj} {od : Option Obj}
/-- x.__class__ of an error with its own dict -/
theorem class_of {Q : Option Value → Shared → Prop} (C : L2.ExcC K D) (X : K.In s.heap) (I : InstAt s.heap x ox D od) (h : Q (some (.ref D)) { s with toks := s.toks + 1 }) : wpAny (model prog w) A (getAttr? (.ref x) "__class__") Q E s := by
  have found : findObj K D od "__class__" = some (.bind (.builtin "getset_descriptor.__get__") (.builtin "object.__class__")) := by
    obtain ⟨cd, hc, _⟩ := any_some C.hd
    unfold findObj
    rw [hc, Option.bind_some, C.ha, Option.bind_some]
    simp [C.hn, C.ht]
  obtain ⟨hp, g, d, t, os⟩ := s
  have tyL := I.type (M := model prog w)
  have gaL := looks_findIn (M := model prog w) X C.hg
  have ggL := looks_findIn (M := model prog w) X C.hk
  have fiL := looks_find (M := model prog w) X I found
  have isL : Looks (model prog w) hp (isInstance (.ref x) (.type "BaseException")) true := tyL.andThen (looks_subIn X C.hs)
  have n1 : (Value.builtin "BaseException.__getattribute__" == Value.builtin "object.__getattribute__") = false := by decide +kernel
  have n2 : (onTheHeap (Value.ref D) && Value.builtin "BaseException.__getattribute__" == Value.builtin "object.__getattribute__") = false := by
    rw [n1]
    rfl
  unfold getAttr? getAttrBy? getAttrBy
  apply wpAny_bind
  apply wpAny_mkText
  apply wpAny_bind
  apply wpAny_attempt
  apply wpAny_holding
  apply wpAny_bind
  apply tyL.at
  apply wpAny_bind
  apply gaL.at
  show wpAny _ _ (if (onTheHeap (Value.ref D) && Value.builtin "BaseException.__getattribute__" == Value.builtin "object.__getattribute__") = true then _ else _) _ _ (_ : Shared)
  rw [n2, if_neg (fun z => Bool.noConfusion z)]
  unfold getAttrByItsOwn hookBefore callGetattribute
  apply wpAny_bind
  have oh : onTheHeap (Value.ref D) = true := rfl
  rw [if_pos oh]
  apply ggL.at
  apply wpAny_bind
  apply wpAny_attempt
  apply wpAny_holding
  rw [show (false && onTheHeap (Value.builtin "BaseException.__getattribute__")) = false from rfl, if_neg (fun z => Bool.noConfusion z)]
  unfold boundAndCalled
  rw [PySem.F.excAttr_ValueError.ga.bind (.ref x)]
  apply wpAny_bind
  apply wpAny_pure
  show wpAny _ _ (call (.builtin "BaseException.__getattribute__") [.ref x, .str "__class__" t]) _ _ (_ : Shared)
  apply wpAny_call
  refine codeAny_call_builtin PySem.F.excAttr_ValueError.ga.plain PySem.F.entry_bexc_ga (@check_slot (model prog w) _ _ ⟨hp, g, d, t + 1, os⟩ "BaseException.__getattribute__" "BaseException" "__getattribute__" (.ref x) [.str "__class__" t] [] _ (by decide +kernel) (by decide +kernel) isL (PySem.F.args_bexc_ga (.ref x) (.str "__class__" t)) ?_)
  unfold Builtin.«object.__getattribute__»
  refine wpAny_bind (wpAny_of_eq (a := ((Value.ref x : Value), [Value.str "__class__" t])) (by first | rfl | simp only [slotArgs]) ?_)
  apply wpAny_bind
  apply wpAny_pure
  apply wpAny_bind
  apply tyL.at
  apply wpAny_bind
  apply fiL.at
  show wpAny _ _ (holding [Value.builtin "object.__class__"] (call (.builtin "getset_descriptor.__get__") [.builtin "object.__class__", .ref x, .ref D]) >>= ret) _ _ (_ : Shared)
  refine wpAny_bind (wpAny_holding (wpAny_call (class_get (s := ⟨hp, g, d, t + 1, os⟩) (ox := ox) (od := od) X I C.hm ?_)))
  apply wpAny_pure
  show wpAny _ _ (handedOut (.ref D)) _ _ (_ : Shared)
  rw [handedOut_of (v := .ref D) rfl]
  first
    | exact wpAny_pure (wpAny_pure h)
    | exact wpAny_pure h
    | exact wpAny_pure (wpAny_bind (wpAny_pure (wpAny_pure h)))
theorem kit_own (C : L2.ExcC K D) : KitX K (.ref x) (.ref D) (fun h => ∃ ox od, InstAt h x ox D od) where
  ty := fun _ _ _ ⟨_, _, I⟩ => I.type
  it := fun _ _ X _ => by
    obtain ⟨cd, hc, _⟩ := any_some C.hd
    unfold clsIn at hc
    split at hc
    · rename_i ho
      exact fun A' Q' E' s' k q => by
        unfold isType loadHead
        exact wpAny_bind (wpAny_loadPart (k _ _ (X _ _ ho)) (wpAny_pure q))
    · cases hc
  ne := fun h tp dd its n sl X htp => by
    obtain ⟨cd, hc, _⟩ := any_some C.hd
    rw [Bool.eq_false_iff]
    intro q
    obtain rfl : D = tp := Value.ref.inj (beq_iff_eq.mp q)
    unfold clsIn at hc
    split at hc
    · rename_i ho
      cases (X _ _ ho).symm.trans htp
    · cases hc
  ca := fun X ⟨_, _, I⟩ k => class_of C X I k
end
end VX
namespace VX
open PySem PySem.Spec PyProof.Rows L2
theorem exF_at {P : Program} {w : World} {H : Hp} {h : Heap} {a : Addr} {cls : Value} {d : Option Addr} (hok : HOk P w H h) (e : H a = some (ExF cls d a)) : ∃ (oe : Obj) (vs : Array Value), h.get? a = some oe ∧ Zc cls d oe ∧ oe.data = .fields vs := by
  have z : ObjOk P w H h a (ExF cls d a) := hok a _ e
  exact z.1
/-- isinstance(e, c) -/
def rIsT (K : PySem.W.Frag) : List V → Hp → VK → Prop := fun xs H Q => ∃ (a D dd : Addr) (fs : List (Str × V)) (c : V) (cv : Value) (b : Bool), xs = [.ref a, c] ∧ H a = some (ExF (.ref D) (some dd) a) ∧ H dd = some (.xd fs) ∧ ExcC K D ∧ (∀ u, RelV c u → u = cv) ∧ PySem.W.kitOne K (.ref D) cv = some b ∧ Q (.bl b) H
theorem call_isT {X : Cx} : CallR X (.builtin "isinstance") (rIsT X.K) := by
  intro pins s σ H xs us Q I r h
  obtain ⟨a, D, dd, fs, c, cv, b, rfl, ha, hd, C, hcv, e, q⟩ := h
  obtain ⟨u1, u2, rfl, r1, r2⟩ := r.two
  cases r1
  cases hcv _ r2
  obtain ⟨oe, vs, hget, hz, hv⟩ := exF_at I.hok ha
  obtain ⟨mA, hns, _⟩ : ObjOk X.prog X.w H s.heap dd (.xd fs) := I.hok dd _ hd
  obtain ⟨od, ho, _⟩ := lookIn_ns hns
  have J : PySem.W.InstAt s.heap a oe D (some od) := ⟨hget, hz.1, by unfold PySem.W.notCls; rw [hv], by rw [hz.2]; exact ho⟩
  exact PySem.W.kia_one (kit_own C) I.kIn ⟨_, _, J⟩ e (fun z => nomatch z) fun tk => ⟨.bl b, H, I.kept (t' := tk) fun _ _ z => z, rfl, q⟩
/-- e.f -/
def tXt (K : PySem.W.Frag) (f : Str) (te : TE) : TE := fun σ H Q => te σ H fun x H1 => ∃ (a C dd : Addr) (fs : List (Str × V)) (v : V), x = .ref a ∧ H1 a = some (ExF (.ref C) (some dd) a) ∧ H1 dd = some (.xd fs) ∧ XfC K C ∧ PySem.W.findIn K (.ref C) f = some none ∧ fs.lookup f = some v ∧ Q v H1
theorem pe_xt {X : Cx} {e : Expr} {te : TE} {pos : Pos} {f : Str} (he : PE X e te) (hb : attributeBase e f X.env (eval e X.env) = eval e X.env) : PE X (.Attribute e f pos) (tXt X.K f te) := by
  refine ⟨fun pins s σ H Q I h => ?_⟩
  refine attr_of hb (thn (he.run pins s σ H _ I h) fun u s1 hh => ?_)
  obtain ⟨x, H1, I1, rx, a, C, dd, fs, v, rfl, ha, hd, T, hno, l, q⟩ := hh
  cases rx
  obtain ⟨oe, vs, hget, hz, hv⟩ := exF_at I1.hok ha
  obtain ⟨mA, hns, hr⟩ : ObjOk X.prog X.w H1 s1.heap dd (.xd fs) := I1.hok dd _ hd
  obtain ⟨od, ho, hl⟩ := lookIn_ns hns
  obtain ⟨u, hu, ru⟩ := RelO.some_of (v := v) (o := mA f) (by rw [← l]; exact hr f)
  have J : PySem.W.InstAt s1.heap a oe C (some od) := ⟨hget, hz.1, by unfold PySem.W.notCls; rw [hv], by rw [hz.2]; exact ho⟩
  exact HandSPX.exc_get I1.kIn J T.ga T.gg T.exC (PySem.W.findObj_own T.hdC hno rfl (by rw [hl, hu])) (handed_of ru) ⟨v, H1, I1.tok _, ru, q⟩
end VX

set_option Elab.async false
set_option linter.all false
set_option maxRecDepth 100000
set_option maxHeartbeats 4000000
/-! VL1: values told by data; slots that hold values or lists of their own (cells); the frame between a def's entry and where it stands. -/
namespace VL
open PySem PySem.Spec PyProof.Rows L2

/-! ### what a value is, as data -/
mutual
inductive DV (K : PySem.W.Frag) (F : Hp) : V → PyData → Prop
  | non : DV K F .non .none
  | bl (b : Bool) : DV K F (.bl b) (.bool b)
  | int (i : Int) : DV K F (.int i) (.int i)
  | str (x : Str) : DV K F (.str x) (.str x)
  | lst {a : Addr} {vs : List V} {ds : List PyData} : F a = some (.lst vs) → DVs K F vs ds → DV K F (.ref a) (.list ds)
  | tup {a : Addr} {vs : List V} {ds : List PyData} : SqT K F a vs → DVs K F vs ds → DV K F (.ref a) (.tuple ds)
  | dct {a : Addr} {kvs : List (Key × V)} {ks : List PyData} {es : List PyData} : F a = some (.dK kvs) → DVs K F (kvs.map fun p => kV p.1) ks → DVs K F (kvs.map fun p => p.2) es → DV K F (.ref a) (.dict (ks.zip es))
inductive DVs (K : PySem.W.Frag) (F : Hp) : List V → List PyData → Prop
  | nil : DVs K F [] []
  | cons {v : V} {vs : List V} {d : PyData} {ds : List PyData} : DV K F v d → DVs K F vs ds → DVs K F (v :: vs) (d :: ds)
end
section
variable {K : PySem.W.Frag} {F F' : Hp}
theorem sqT_mono {a : Addr} {vs : List V} (e : Same F F') (h : SqT K F a vs) : SqT K F' a vs := by
  rcases h with (h | ⟨o, h⟩) | h
  · exact .inl (.inl (e _ _ h))
  · exact .inl (.inr ⟨o, e _ _ h⟩)
  · exact .inr h
mutual
theorem DV.mono (e : Same F F') : ∀ {v : V} {d : PyData}, DV K F v d → DV K F' v d
  | _, _, .non => .non
  | _, _, .bl b => .bl b
  | _, _, .int i => .int i
  | _, _, .str x => .str x
  | _, _, .lst h hs => .lst (e _ _ h) (DVs.mono e hs)
  | _, _, .tup h hs => .tup (sqT_mono e h) (DVs.mono e hs)
  | _, _, .dct h h1 h2 => .dct (e _ _ h) (DVs.mono e h1) (DVs.mono e h2)
theorem DVs.mono (e : Same F F') : ∀ {vs : List V} {ds : List PyData}, DVs K F vs ds → DVs K F' vs ds
  | _, _, .nil => .nil
  | _, _, .cons h t => .cons (DV.mono e h) (DVs.mono e t)
end
theorem DVs.length : ∀ {vs : List V} {ds : List PyData}, DVs K F vs ds → vs.length = ds.length
  | _, _, .nil => rfl
  | _, _, .cons _ t => by simp [DVs.length t]
theorem DVs.get : ∀ {vs : List V} {ds : List PyData} {i : Nat} {d : PyData}, DVs K F vs ds → ds[i]? = some d → ∃ v, vs[i]? = some v ∧ DV K F v d
  | _, _, _, _, .nil, e => by simp at e
  | _, _, 0, d, .cons h _, e => by
    simp at e
    subst e
    exact ⟨_, rfl, h⟩
  | _, _, i + 1, d, .cons _ t, e => by
    obtain ⟨v, h1, h2⟩ := DVs.get (i := i) (d := d) t (by simpa using e)
    exact ⟨v, by simpa using h1, h2⟩
theorem DVs.got : ∀ {vs : List V} {ds : List PyData} {i : Nat} {v : V}, DVs K F vs ds → vs[i]? = some v → ∃ d, ds[i]? = some d ∧ DV K F v d
  | _, _, _, _, .nil, e => by simp at e
  | _, _, 0, v, .cons h _, e => by
    simp at e
    subst e
    exact ⟨_, rfl, h⟩
  | _, _, i + 1, v, .cons _ t, e => by
    obtain ⟨d, h1, h2⟩ := DVs.got (i := i) (v := v) t (by simpa using e)
    exact ⟨d, by simpa using h1, h2⟩
theorem DVs.append : ∀ {vs ws : List V} {ds es : List PyData}, DVs K F vs ds → DVs K F ws es → DVs K F (vs ++ ws) (ds ++ es)
  | _, _, _, _, .nil, h => h
  | _, _, _, _, .cons h t, r => .cons h (DVs.append t r)
theorem DVs.set {v : V} {d : PyData} (h : DV K F v d) : ∀ {vs : List V} {ds : List PyData} (i : Nat), DVs K F vs ds → DVs K F (vs.set i v) (ds.set i d)
  | _, _, _, .nil => .nil
  | _, _, 0, .cons _ t => .cons h t
  | _, _, i + 1, .cons q t => .cons q (DVs.set h i t)
theorem DVs.take : ∀ {vs : List V} {ds : List PyData} (n : Nat), DVs K F vs ds → DVs K F (vs.take n) (ds.take n)
  | _, _, 0, _ => .nil
  | _, _, _ + 1, .nil => .nil
  | _, _, n + 1, .cons r t => .cons r (DVs.take n t)
theorem DVs.drop : ∀ {vs : List V} {ds : List PyData} (n : Nat), DVs K F vs ds → DVs K F (vs.drop n) (ds.drop n)
  | _, _, 0, r => r
  | _, _, _ + 1, .nil => .nil
  | _, _, n + 1, .cons _ t => DVs.drop n t
theorem DVs.eraseIdx : ∀ {vs : List V} {ds : List PyData} (n : Nat), DVs K F vs ds → DVs K F (vs.eraseIdx n) (ds.eraseIdx n)
  | _, _, _, .nil => .nil
  | _, _, 0, .cons _ t => t
  | _, _, n + 1, .cons r t => .cons r (DVs.eraseIdx n t)
theorem DVs.ints : ∀ (ns : List Int) {vs : List V}, DVs K F vs (ns.map PyData.int) → vs = ns.map V.int
  | [], _, .nil => rfl
  | n :: ns, _, .cons h t => by
    cases h
    rw [DVs.ints ns t]
    rfl
theorem DVs.bools : ∀ (ns : List Bool) {vs : List V}, DVs K F vs (ns.map PyData.bool) → vs = ns.map V.bl
  | [], _, .nil => rfl
  | n :: ns, _, .cons h t => by
    cases h
    rw [DVs.bools ns t]
    rfl
theorem DVs.strs : ∀ (ns : List Str) {vs : List V}, DVs K F vs (ns.map PyData.str) → vs = ns.map V.str
  | [], _, .nil => rfl
  | n :: ns, _, .cons h t => by
    cases h
    rw [DVs.strs ns t]
    rfl
theorem DVs.ofInts : ∀ (ns : List Int), DVs K F (ns.map V.int) (ns.map PyData.int)
  | [] => .nil
  | n :: ns => .cons (.int n) (DVs.ofInts ns)
theorem DVs.ofStrs : ∀ (ns : List Str), DVs K F (ns.map V.str) (ns.map PyData.str)
  | [] => .nil
  | n :: ns => .cons (.str n) (DVs.ofStrs ns)
end

/-! ### slots, results -/
/-- what is handed on as it is: the script; an error of the class c with its fields -/
inductive Opq where
  | ns (l : List Int) | ex (c : Str) (fs : List (Str × PyData)) | ptr (k : Nat) (a : Addr)
def OR (K : PySem.W.Frag) (F : Hp) : Opq → V → Prop
  | .ns l, v => ∃ a, v = .ref a ∧ SqL K F a (l.map V.int)
  | .ptr _ a, v => v = .ref a
  | .ex c fs, v => ∃ (a C dd : Addr) (vs : List V), v = .ref a ∧ PySem.W.nsIn K mainGlobals c = some (some (.ref C)) ∧ F a = some (VX.ExF (.ref C) (some dd) a) ∧ F dd = some (.xd ((fs.map (·.1)).zip vs)) ∧ DVs K F vs (fs.map (·.2))
/-- a slot: a value; a list of its own, that may be changed; a list lent by the caller, that may be changed; the script -/
inductive SL where
  | v (d : PyData) | c (xs : List PyData) | q (xs : List PyData) | s (o : Opq)
/-- a result: a value; the list of slot i; the script -/
inductive SV where
  | v (d : PyData) | p (i : Nat) | s (o : Opq)
abbrev Sl := List (Option SL)
abbrev ME := Sl → Option (SV × Sl)
abbrev MA := Sl → Option (List SV × Sl)
abbrev MT := Sl → Option (Bool × Sl)
inductive Fl where
  | nx | bk | ct | rt (r : SV) | rz (c : Str) (fs : List (Str × PyData))
abbrev MS := Sl → Option (Fl × Sl)

/-- what a list of one's own or a lent one holds -/
def SL.held : SL → Option (List PyData)
  | .c xs => some xs
  | .q xs => some xs
  | _ => none
def heldAt (S : Sl) (i : Nat) : Option (List PyData) := (S[i]?.bind id).bind SL.held
/-- a result as data, where it stands -/
def deref (S : Sl) : SV → Option PyData
  | .v d => some d
  | .p i => (heldAt S i).map .list
  | .s _ => none
/-- a result that no later change can reach -/
def stable : SV → Option PyData
  | .v d => some d
  | _ => none

/-- new things alone: F (what is told as data) grows by new things, H grows -/
structure Ext (F H F' H' : Hp) : Prop where
  f : Same F F'
  fh : Same F' H'
  h : Same H H'
  fr : ∀ b, F' b ≠ none → F b ≠ none ∨ H b = none
theorem Ext.refl {F H : Hp} (h : Same F H) : Ext F H F H := ⟨Same.refl _, h, Same.refl _, fun b z => .inl z⟩
theorem Ext.trans {F H F1 H1 F2 H2 : Hp} (a : Ext F H F1 H1) (b : Ext F1 H1 F2 H2) : Ext F H F2 H2 :=
  ⟨a.f.trans b.f, b.fh, a.h.trans b.h, fun x z => by
    rcases b.fr x z with z | z
    · exact a.fr x z
    · exact .inr (a.h.free z)⟩
theorem same_new {H : Hp} {p : Addr} {o : HO} (h : H p = none) : Same H (upd H p o) := fun a u e => by
  rw [upd_ne (ne_of_none e h)]
  exact e
theorem same_upd2 {F H : Hp} {p : Addr} {o : HO} (h : Same F H) : Same (upd F p o) (upd H p o) := fun a u e => by
  by_cases q : a = p
  · subst q
    rw [upd_same] at e ⊢
    exact e
  · rw [upd_ne q] at e ⊢
    exact h _ _ e
/-- a new object, told as data -/
theorem Ext.new {F H : Hp} {p : Addr} {o : HO} (fh : Same F H) (h : H p = none) : Ext F H (upd F p o) (upd H p o) :=
  ⟨same_new (fh.free h), same_upd2 fh, same_new h, fun b z => by
    by_cases q : b = p
    · subst q
      exact .inr h
    · rw [upd_ne q] at z
      exact .inl z⟩
/-- a new object that is not told -/
theorem Ext.aside {F H : Hp} {p : Addr} {o : HO} (fh : Same F H) (h : H p = none) : Ext F H F (upd H p o) :=
  ⟨Same.refl _, fh.trans (same_new h), same_new h, fun b z => .inl z⟩

/-- where a def stands: P what must stay, F0 what is told as data at the entry, qc the lent lists; F what is told as data now, cell where the slots' own lists stand -/
structure RC (K : PySem.W.Frag) (P F0 : Hp) (qc : Nat → Addr) (F : Hp) (cell : Nat → Addr) (S : Sl) (σ : L2.St) (H : Hp) : Prop where
  len : S.length = σ.length
  f0 : Same F0 F
  fh : Same F H
  ph : Same P H
  fr : ∀ b, F b ≠ none → F0 b ≠ none ∨ P b = none
  vl : ∀ (i : Nat) (d : PyData), S[i]? = some (some (.v d)) → ∃ v, σ[i]? = some (some v) ∧ DV K F v d
  sc : ∀ (i : Nat) (o : Opq), S[i]? = some (some (.s o)) → ∃ v, σ[i]? = some (some v) ∧ OR K F o v
  cl : ∀ (i : Nat) (x : SL) (xs : List PyData), S[i]? = some (some x) → x.held = some xs → σ[i]? = some (some (.ref (cell i))) ∧ F (cell i) = none ∧ P (cell i) = none ∧ ∃ vs, H (cell i) = some (.lst vs) ∧ DVs K F vs xs
  qs : ∀ (i : Nat) (xs : List PyData), S[i]? = some (some (.q xs)) → cell i = qc i
  inj : ∀ (i j : Nat) (x y : SL), S[i]? = some (some x) → S[j]? = some (some y) → x.held.isSome = true → y.held.isSome = true → cell i = cell j → i = j
def VR (K : PySem.W.Frag) (F : Hp) (cell : Nat → Addr) : SV → V → Prop
  | .v d, v => DV K F v d
  | .p i, v => v = .ref (cell i)
  | .s o, v => OR K F o v
section
variable {K : PySem.W.Frag} {P F0 F F' : Hp} {qc cell : Nat → Addr} {S : Sl} {σ : L2.St} {H H' : Hp}
theorem sqL_mono {a : Addr} {vs : List V} (e : Same F F') (h : SqL K F a vs) : SqL K F' a vs := Same.seq e h
theorem OR.mono (e : Same F F') {o : Opq} {v : V} (h : OR K F o v) : OR K F' o v := by
  cases o with
  | ns l =>
    obtain ⟨a, h1, h2⟩ := h
    exact ⟨a, h1, sqL_mono e h2⟩
  | ex c fs =>
    obtain ⟨a, C, dd, vs, h1, h2, h3, h4, h5⟩ := h
    exact ⟨a, C, dd, vs, h1, h2, e _ _ h3, e _ _ h4, h5.mono e⟩
  | ptr k a => exact h
theorem VR.mono (e : Same F F') {r : SV} {v : V} (h : VR K F cell r v) : VR K F' cell r v := by
  cases r with
  | v d => exact DV.mono e h
  | p i => exact h
  | s o => exact OR.mono e h
theorem RC.ext (R : RC K P F0 qc F cell S σ H) (e : Ext F H F' H') : RC K P F0 qc F' cell S σ H' where
  len := R.len
  f0 := R.f0.trans e.f
  fh := e.fh
  ph := R.ph.trans e.h
  fr := fun b z => by
    rcases e.fr b z with z | z
    · exact R.fr b z
    · exact .inr (R.ph.free z)
  vl := fun i d h => by
    obtain ⟨v, h1, h2⟩ := R.vl i d h
    exact ⟨v, h1, h2.mono e.f⟩
  sc := fun i ns h => by
    obtain ⟨a, h1, h2⟩ := R.sc i ns h
    exact ⟨a, h1, h2.mono e.f⟩
  cl := fun i x xs h hx => by
    obtain ⟨h1, h2, h3, vs, h4, h5⟩ := R.cl i x xs h hx
    refine ⟨h1, ?_, h3, vs, e.h _ _ h4, h5.mono e.f⟩
    cases q : F' (cell i) with
    | none => rfl
    | some o =>
      rcases e.fr (cell i) (by rw [q]; simp) with z | z
      · exact absurd h2 z
      · rw [h4] at z; cases z
  qs := R.qs
  inj := R.inj
theorem RC.at (R : RC K P F0 qc F cell S σ H) {i : Nat} {xs : List PyData} (h : heldAt S i = some xs) : σ[i]? = some (some (.ref (cell i))) ∧ F (cell i) = none ∧ P (cell i) = none ∧ ∃ vs, H (cell i) = some (.lst vs) ∧ DVs K F vs xs := by
  unfold heldAt at h
  cases e : S[i]? with
  | none => rw [e] at h; cases h
  | some o =>
    cases o with
    | none => rw [e] at h; cases h
    | some x =>
      rw [e] at h
      exact R.cl i x xs e h
/-- data where it stands: told, or the list of a slot -/
def DX (K : PySem.W.Frag) (F H : Hp) (v : V) (d : PyData) : Prop := DV K F v d ∨ ∃ a vs ds, v = .ref a ∧ d = .list ds ∧ H a = some (.lst vs) ∧ DVs K F vs ds
theorem RC.deref (R : RC K P F0 qc F cell S σ H) {r : SV} {v : V} {d : PyData} (h : VR K F cell r v) (e : deref S r = some d) : DX K F H v d := by
  cases r with
  | v d' =>
    cases e
    exact .inl h
  | p i =>
    unfold VL.deref at e
    obtain ⟨xs, e1, rfl⟩ := Option.map_eq_some_iff.mp e
    obtain ⟨_, _, _, vs, h1, h2⟩ := R.at e1
    exact .inr ⟨_, vs, xs, h, rfl, h1, h2⟩
  | s ns => cases e
theorem DX.mono (fh : Same F H) (e : Ext F H F' H') {v : V} {d : PyData} (h : DX K F H v d) : DX K F' H' v d := by
  rcases h with h | ⟨a, vs, ds, h1, h2, h3, h4⟩
  · exact .inl (h.mono e.f)
  · exact .inr ⟨a, vs, ds, h1, h2, e.h _ _ h3, h4.mono e.f⟩
/-- as data over the heap itself -/
theorem DX.dv (fh : Same F H) {v : V} {d : PyData} (h : DX K F H v d) : DV K H v d := by
  rcases h with h | ⟨a, vs, ds, rfl, rfl, h3, h4⟩
  · exact h.mono fh
  · exact .lst h3 (h4.mono fh)
theorem DX.list {v : V} {ds : List PyData} (fh : Same F H) (h : DX K F H v (.list ds)) : ∃ a vs, v = .ref a ∧ H a = some (.lst vs) ∧ DVs K F vs ds := by
  rcases h with h | ⟨a, vs, ds', h1, h2, h3, h4⟩
  · cases h with
    | lst h1 h2 => exact ⟨_, _, rfl, fh _ _ h1, h2⟩
  · cases h2
    exact ⟨a, vs, h1, h3, h4⟩
theorem DX.tuple {v : V} {ds : List PyData} (h : DX K F H v (.tuple ds)) : ∃ a vs, v = .ref a ∧ SqT K F a vs ∧ DVs K F vs ds := by
  rcases h with h | ⟨a, vs, ds', h1, h2, h3, h4⟩
  · cases h with
    | tup h1 h2 => exact ⟨_, _, rfl, h1, h2⟩
  · cases h2
theorem DX.int {v : V} {i : Int} (h : DX K F H v (.int i)) : v = .int i := by
  rcases h with h | ⟨a, vs, ds', h1, h2, h3, h4⟩
  · cases h
    rfl
  · cases h2
theorem DX.bool {v : V} {i : Bool} (h : DX K F H v (.bool i)) : v = .bl i := by
  rcases h with h | ⟨a, vs, ds', h1, h2, h3, h4⟩
  · cases h
    rfl
  · cases h2
theorem DX.str {v : V} {i : Str} (h : DX K F H v (.str i)) : v = .str i := by
  rcases h with h | ⟨a, vs, ds', h1, h2, h3, h4⟩
  · cases h
    rfl
  · cases h2
theorem DX.non {v : V} (h : DX K F H v .none) : v = .non := by
  rcases h with h | ⟨a, vs, ds', h1, h2, h3, h4⟩
  · cases h
    rfl
  · cases h2
end
end VL

set_option Elab.async false
set_option linter.all false
set_option maxRecDepth 100000
set_option maxHeartbeats 4000000
/-! VL2: operators on data. -/
namespace VL
open PySem PySem.Spec PyProof.Rows L2

/-- an operator on values does on data what f says -/
def OpS (K : PySem.W.Frag) (r : R2) (f : PyData → PyData → Option PyData) : Prop :=
  ∀ (F H : Hp) (x y : V) (d e z : PyData) (Q : VK), Same F H → DX K F H x d → DX K F H y e → f d e = some z → (∀ v F' H', Ext F H F' H' → DV K F' v z → Q v H') → r x y H Q
section
variable {K : PySem.W.Frag}
theorem OpS.orL {r r' : R2} {f : PyData → PyData → Option PyData} (h : OpS K r f) : OpS K (fun x y H Q => r x y H Q ∨ r' x y H Q) f :=
  fun F H x y d e z Q fh hx hy hf k => .inl (h F H x y d e z Q fh hx hy hf k)
theorem OpS.orR {r r' : R2} {f : PyData → PyData → Option PyData} (h : OpS K r' f) : OpS K (fun x y H Q => r x y H Q ∨ r' x y H Q) f :=
  fun F H x y d e z Q fh hx hy hf k => .inr (h F H x y d e z Q fh hx hy hf k)
end

/-! ### a tuple beside the empty one -/
section
variable {X : Cx}
theorem isTuple_of {h : Heap} {a : Addr} {its : Array Value} (p : IsTup h a its) : h.IsTuple a its := p
def rEqE (K : PySem.W.Frag) : R2 := fun x y H Q => ∃ a b xs ys, x = .ref a ∧ y = .ref b ∧ SqT K H a xs ∧ SqT K H b ys ∧ (xs = [] ∨ ys = []) ∧ Q (.bl (xs.isEmpty && ys.isEmpty)) H
theorem op_eqE (hu : X.A.units < cLine) : OpR X (compareOp .Eq) (rEqE X.K) := by
  intro pins s σ H x y v u Q I rx ry h
  obtain ⟨a, b, xs, ys, rfl, rfl, ha, hb, hz, q⟩ := h
  obtain rfl : v = Value.ref a := rx
  obtain rfl : u = Value.ref b := ry
  obtain ⟨its, rv, p1, _⟩ := I.tuple ha
  obtain ⟨its2, rv2, p2, _⟩ := I.tuple hb
  have l1 := rv.length
  have l2 := rv2.length
  refine PySem.SeqAt.eq_tupleAt (e := fun _ => true) (isTuple_of p1) (isTuple_of p2) hu (fun j h1 h2 => ?_) ?_
  · exfalso
    have h1' : j < its.length := by simpa using h1
    have h2' : j < its2.length := by simpa using h2
    rcases hz with z | z
    · subst z
      simp at l1
      omega
    · subst z
      simp at l2
      omega
  · have e : ((List.range (min its.toArray.size its2.toArray.size)).all (fun _ => true) && its.toArray.size == its2.toArray.size) = (xs.isEmpty && ys.isEmpty) := by
      have a1 : (List.range (min its.toArray.size its2.toArray.size)).all (fun _ => true) = true := by simp
      rw [a1, Bool.true_and]
      have s1 : its.toArray.size = xs.length := by simp [l1]
      have s2 : its2.toArray.size = ys.length := by simp [l2]
      rw [s1, s2]
      rcases hz with z | z
      · subst z
        cases ys <;> simp
      · subst z
        cases xs <;> simp
    rw [e]
    exact ⟨.bl _, H, I, rfl, q⟩
/-- str * int -/
def mulOk (n : Int) (l : Nat) : Bool := decide (0 ≤ n) && decide (n ≤ 100000) && decide (l * n.toNat ≤ 100000)
def rMulS : R2 := fun x y H Q => ∃ a n, x = .str a ∧ y = .int n ∧ MulOk a n ∧ Q (.str (Txt.mul a n)) H
theorem op_mulS : OpR X (binaryOp .Mult) rMulS := by
  intro pins s σ H x y v u Q I rx ry h
  obtain ⟨a, n, rfl, rfl, ok, q⟩ := h
  obtain ⟨t, rfl⟩ := rx
  obtain ⟨t', rfl⟩ := ry
  exact PySem.SB.mul ok fun t' k => ⟨.str _, H, I.tok _, ⟨_, rfl⟩, q⟩
/-- i ** j, of any size that is not too large -/
theorem op_powW : OpR X (binaryOp .Pow) (rI (fun i j => 0 ≤ j ∧ (Builtin.Int.intBits i : Int) * j ≤ 2 ^ 27) fun i j => .int (i ^ j.toNat)) := by
  intro pins s σ H x y v u Q I rx ry h
  obtain ⟨i, j, rfl, rfl, ⟨c1, c2⟩, q⟩ := h
  obtain ⟨t, rfl⟩ := rx
  obtain ⟨t', rfl⟩ := ry
  exact PyProof.Rows.pow_int c1 c2 ⟨.int _, H, I.tok _, ⟨_, rfl⟩, q⟩
end

/-! ### data functions -/
def b2z (b : Bool) : Int := if b = true then 1 else 0
def addD : PyData → PyData → Option PyData
  | .int i, .int j => some (.int (i + j))
  | .str a, .str b => if a.length + b.length ≤ 100000 then some (.str (a ++ b)) else none
  | .list a, .list b => if a.length + b.length ≤ 100000 then some (.list (a ++ b)) else none
  | .tuple a, .tuple b => if a.length + b.length ≤ 100000 then some (.tuple (a ++ b)) else none
  | _, _ => none
def subD : PyData → PyData → Option PyData
  | .int i, .int j => some (.int (i - j))
  | _, _ => none
def mulD : PyData → PyData → Option PyData
  | .int i, .int j => if (-(2 ^ 64) < i ∧ i < 2 ^ 64) ∨ (-(2 ^ 64) < j ∧ j < 2 ^ 64) then some (.int (i * j)) else none
  | .str a, .int n => if 0 ≤ n ∧ n ≤ 100000 ∧ a.length * n.toNat ≤ 100000 then some (.str (Txt.mul a n)) else none
  | .list a, .int n => if 0 ≤ n ∧ n ≤ 100000 ∧ a.length * n.toNat ≤ 100000 then some (.list (List.replicate n.toNat a).flatten) else none
  | .tuple a, .int n => if a ≠ [] ∧ 2 ≤ n ∧ n ≤ 1000 ∧ a.length ≤ 1000 then some (.tuple (List.replicate n.toNat a).flatten) else none
  | _, _ => none
def fdivD : PyData → PyData → Option PyData
  | .int i, .int j => if 0 < j ∧ j < 1073741824 then some (.int (i / j)) else none
  | _, _ => none
def modD : PyData → PyData → Option PyData
  | .int i, .int j => if 0 < j then some (.int (i % j)) else none
  | _, _ => none
def powD : PyData → PyData → Option PyData
  | .int i, .int j => if 0 ≤ j ∧ (Builtin.Int.intBits i : Int) * j ≤ 2 ^ 27 then some (.int (i ^ j.toNat)) else none
  | _, _ => none
def ltD : PyData → PyData → Option PyData
  | .int i, .int j => some (.bool (decide (i < j)))
  | .str a, .str b => some (.bool (decide (a.cps.toList < b.cps.toList)))
  | _, _ => none
def leD : PyData → PyData → Option PyData
  | .int i, .int j => some (.bool (decide (i ≤ j)))
  | .str a, .str b => some (.bool (!decide (b.cps.toList < a.cps.toList)))
  | _, _ => none
def gtD : PyData → PyData → Option PyData
  | .int i, .int j => some (.bool (decide (j < i)))
  | .str a, .str b => some (.bool (decide (b.cps.toList < a.cps.toList)))
  | _, _ => none
def geD : PyData → PyData → Option PyData
  | .int i, .int j => some (.bool (decide (j ≤ i)))
  | .str a, .str b => some (.bool (!decide (a.cps.toList < b.cps.toList)))
  | _, _ => none
def eqD (d e : PyData) : Option Bool :=
  match d, e with
  | .str a, .str b => some (decide (a = b))
  | .tuple xs, .tuple [] => some xs.isEmpty
  | .tuple [], .tuple ys => some ys.isEmpty
  | d, e => if SeqAt.shaped d = true ∧ SeqAt.shaped e = true then some (PyData.eqv d e) else none
def eqDD (d e : PyData) : Option PyData := (eqD d e).map .bool
def neDD (d e : PyData) : Option PyData := match d, e with
  | .str a, .str b => some (.bool (!decide (a = b)))
  | d, e => if SeqAt.shaped d = true ∧ SeqAt.shaped e = true then some (.bool (!PyData.eqv d e)) else none
/-- one sign in a text -/
def inD : PyData → PyData → Option PyData
  | .str a, .str b => if a.cps.size = 1 then some (.bool (decide (a.cps.getD 0 0 ∈ b.cps.toList))) else none
  | _, _ => none
def notInD : PyData → PyData → Option PyData
  | .str a, .str b => if a.cps.size = 1 then some (.bool (!decide (a.cps.getD 0 0 ∈ b.cps.toList))) else none
  | _, _ => none
def isNo : PyData → Bool
  | .none => true
  | _ => false
def isND : PyData → PyData → Option PyData
  | d, .none => some (.bool (isNo d))
  | _, _ => none
def isNotND : PyData → PyData → Option PyData
  | d, .none => some (.bool (!isNo d))
  | _, _ => none

section
variable {X : Cx} {K : PySem.W.Frag}
theorem small5 {n : Nat} (h : n ≤ 100000) : n ≤ sizeLine := Nat.le_trans h (by decide)
/-! ### .. are what the operators do -/
abbrev rAddA (K : PySem.W.Frag) : R2 := fun x y H Q => (∃ i j, x = V.int i ∧ y = V.int j ∧ Q (V.int (i + j)) H) ∨ ((∃ i j, x = .str i ∧ y = .str j ∧ i.length + j.length ≤ sizeLine ∧ Q (.str (i ++ j)) H) ∨ (rCat x y H Q ∨ rCatA K x y H Q))
theorem op_addA : OpR X (binaryOp .Add) (rAddA X.K) := OpR.or op_add (OpR.or op_add_str (OpR.or op_cat op_catA))
theorem ops_add : OpS K (rAddA K) addD := by
  intro F H x y d e z Q fh hx hy hf k
  unfold addD at hf
  split at hf
  · cases hf
    exact .inl ⟨_, _, hx.int, hy.int, k _ _ _ (Ext.refl fh) (.int _)⟩
  · split at hf
    · rename_i hl
      cases hf
      exact .inr (.inl ⟨_, _, hx.str, hy.str, small5 hl, k _ _ _ (Ext.refl fh) (.str _)⟩)
    · cases hf
  · split at hf
    · rename_i hl
      cases hf
      obtain ⟨a, vs, rfl, h1, h2⟩ := hx.list fh
      obtain ⟨b, ws, rfl, h3, h4⟩ := hy.list fh
      refine .inr (.inr (.inl ⟨a, b, vs, ws, rfl, rfl, h1, h3, by rw [h2.length, h4.length]; exact small5 hl, fun p hp => ?_⟩))
      have ex : Ext F H (upd F p (.lst (vs ++ ws))) (upd H p (.lst (vs ++ ws))) := Ext.new fh hp
      exact k _ _ _ ex (.lst upd_same ((h2.append h4).mono ex.f))
    · cases hf
  · split at hf
    · rename_i hl
      cases hf
      obtain ⟨a, vs, rfl, h1, h2⟩ := hx.tuple
      obtain ⟨b, ws, rfl, h3, h4⟩ := hy.tuple
      refine .inr (.inr (.inr ⟨a, b, vs, ws, rfl, rfl, sqT_mono fh h1, sqT_mono fh h3, by rw [h2.length, h4.length]; exact small5 hl, fun e0 => ?_, fun _ e1 => ?_, fun _ _ p hp => ?_⟩))
      · subst e0
        cases h2
        exact k _ _ _ (Ext.refl fh) (.tup h3 h4)
      · subst e1
        cases h4
        rw [List.append_nil] at k
        exact k _ _ _ (Ext.refl fh) (.tup h1 h2)
      · have ex : Ext F H (upd F p (.tup (vs ++ ws))) (upd H p (.tup (vs ++ ws))) := Ext.new fh hp
        exact k _ _ _ ex (.tup (SqT.of upd_same) ((h2.append h4).mono ex.f))
    · cases hf
  · cases hf
theorem ops_sub : OpS K (rI0 fun i j => .int (i - j)) subD := by
  intro F H x y d e z Q fh hx hy hf k
  unfold subD at hf
  split at hf
  · cases hf
    exact ⟨_, _, hx.int, hy.int, k _ _ _ (Ext.refl fh) (.int _)⟩
  · cases hf
theorem DVs.rep {F : Hp} {vs : List V} {ds : List PyData} (h : DVs K F vs ds) : ∀ n : Nat, DVs K F (List.replicate n vs).flatten (List.replicate n ds).flatten
  | 0 => .nil
  | n + 1 => by
    rw [List.replicate_succ, List.replicate_succ, List.flatten_cons, List.flatten_cons]
    exact h.append (DVs.rep h n)
abbrev rMulA (K : PySem.W.Frag) : R2 := fun x y H Q => rI CMul (fun i j => V.int (i * j)) x y H Q ∨ (rMulS x y H Q ∨ (rRep x y H Q ∨ rRepT K x y H Q))
theorem op_mulA : OpR X (binaryOp .Mult) (rMulA X.K) := OpR.or op_mul (OpR.or op_mulS (OpR.or op_rep op_repT))
theorem mulOk_of {a : Str} {n : Int} (h0 : 0 ≤ n) (h1 : n ≤ 100000) (h2 : a.length * n.toNat ≤ 100000) : MulOk a n := by
  refine ⟨?_, fun h3 _ h4 => ?_, fun _ _ => ?_⟩
  · rw [Bool.or_eq_false_iff]
    exact ⟨decide_eq_false (by omega), decide_eq_false (by omega)⟩
  · have hn : 0 < n := by omega
    have h5 : (a.length : Int) * n ≤ 100000 := by
      have e : (n.toNat : Int) = n := Int.toNat_of_nonneg h0
      have : ((a.length * n.toNat : Nat) : Int) ≤ ((100000 : Nat) : Int) := Int.ofNat_le.mpr h2
      rw [Int.natCast_mul, e] at this
      exact this
    have h6 : (a.length : Int) ≤ (2 ^ 63 - 1) / n := by
      rw [Int.le_ediv_iff_mul_le hn]
      omega
    omega
  · show decide (a.length * n.toNat > sizeLine) = false
    have : a.length * n.toNat ≤ sizeLine := small5 h2
    exact decide_eq_false (by omega)
theorem ops_mul : OpS K (rMulA K) mulD := by
  intro F H x y d e z Q fh hx hy hf k
  unfold mulD at hf
  split at hf
  · split at hf
    · rename_i hl
      cases hf
      exact .inl ⟨_, _, hx.int, hy.int, hl, k _ _ _ (Ext.refl fh) (.int _)⟩
    · cases hf
  · split at hf
    · rename_i hl
      cases hf
      exact .inr (.inl ⟨_, _, hx.str, hy.int, mulOk_of hl.1 hl.2.1 hl.2.2, k _ _ _ (Ext.refl fh) (.str _)⟩)
    · cases hf
  · split at hf
    · rename_i n hl
      cases hf
      obtain ⟨a, vs, rfl, h1, h2⟩ := hx.list fh
      refine .inr (.inr (.inl ⟨a, n, vs, rfl, hy.int, h1, by omega, by omega, by rw [h2.length]; exact small5 hl.2.2, fun p hp => ?_⟩))
      have ex : Ext F H (upd F p (.lst (List.replicate n.toNat vs).flatten)) (upd H p (.lst (List.replicate n.toNat vs).flatten)) := Ext.new fh hp
      exact k _ _ _ ex (.lst upd_same ((h2.rep _).mono ex.f))
    · cases hf
  · split at hf
    · rename_i n hl
      cases hf
      obtain ⟨a, vs, rfl, h1, h2⟩ := hx.tuple
      have hne : vs ≠ [] := fun q => by
        subst q
        cases h2
        exact hl.1 rfl
      refine .inr (.inr (.inr ⟨a, n, vs, rfl, hy.int, sqT_mono fh h1, hne, hl.2.1, hl.2.2.1, by rw [h2.length]; exact hl.2.2.2, fun p hp => ?_⟩))
      have ex : Ext F H (upd F p (.tup (List.replicate n.toNat vs).flatten)) (upd H p (.tup (List.replicate n.toNat vs).flatten)) := Ext.new fh hp
      exact k _ _ _ ex (.tup (SqT.of upd_same) ((h2.rep _).mono ex.f))
    · cases hf
  · cases hf
theorem ops_fdiv : OpS K (rI CDiv fun i j => .int (i / j)) fdivD := by
  intro F H x y d e z Q fh hx hy hf k
  unfold fdivD at hf
  split at hf
  · split at hf
    · rename_i hl
      cases hf
      exact ⟨_, _, hx.int, hy.int, hl, k _ _ _ (Ext.refl fh) (.int _)⟩
    · cases hf
  · cases hf
theorem ops_mod : OpS K (rI (fun _ j => 0 < j) fun i j => .int (i % j)) modD := by
  intro F H x y d e z Q fh hx hy hf k
  unfold modD at hf
  split at hf
  · split at hf
    · rename_i hl
      cases hf
      exact ⟨_, _, hx.int, hy.int, hl, k _ _ _ (Ext.refl fh) (.int _)⟩
    · cases hf
  · cases hf
theorem ops_pow : OpS K (rI (fun i j => 0 ≤ j ∧ (Builtin.Int.intBits i : Int) * j ≤ 2 ^ 27) fun i j => .int (i ^ j.toNat)) powD := by
  intro F H x y d e z Q fh hx hy hf k
  unfold powD at hf
  split at hf
  · split at hf
    · rename_i hl
      cases hf
      exact ⟨_, _, hx.int, hy.int, hl, k _ _ _ (Ext.refl fh) (.int _)⟩
    · cases hf
  · cases hf
abbrev rLtA : R2 := fun x y H Q => (∃ i j, x = V.int i ∧ y = V.int j ∧ Q (V.bl (decide (i < j))) H) ∨ (∃ i j, x = V.str i ∧ y = V.str j ∧ Q (.bl (decide (i.cps.toList < j.cps.toList))) H)
theorem op_ltA : OpR X (compareOp .Lt) rLtA := OpR.or op_lt op_lt_str
abbrev rLeA : R2 := fun x y H Q => (∃ i j, x = V.int i ∧ y = V.int j ∧ Q (V.bl (decide (i ≤ j))) H) ∨ (∃ i j, x = V.str i ∧ y = V.str j ∧ Q (.bl (!decide (j.cps.toList < i.cps.toList))) H)
theorem op_leA : OpR X (compareOp .LtE) rLeA := OpR.or op_le op_le_str
abbrev rGtA : R2 := fun x y H Q => (∃ i j, x = V.int i ∧ y = V.int j ∧ Q (V.bl (decide (j < i))) H) ∨ (∃ i j, x = V.str i ∧ y = V.str j ∧ Q (.bl (decide (j.cps.toList < i.cps.toList))) H)
theorem op_gtA : OpR X (compareOp .Gt) rGtA := OpR.or op_gt op_gt_str
abbrev rGeA : R2 := fun x y H Q => (∃ i j, x = V.int i ∧ y = V.int j ∧ Q (V.bl (decide (j ≤ i))) H) ∨ (∃ i j, x = V.str i ∧ y = V.str j ∧ Q (.bl (!decide (i.cps.toList < j.cps.toList))) H)
theorem op_geA : OpR X (compareOp .GtE) rGeA := OpR.or op_ge op_ge_str
theorem ops_lt : OpS K rLtA ltD := by
  intro F H x y d e z Q fh hx hy hf k
  unfold ltD at hf
  split at hf
  · cases hf
    exact .inl ⟨_, _, hx.int, hy.int, k _ _ _ (Ext.refl fh) (.bl _)⟩
  · cases hf
    exact .inr ⟨_, _, hx.str, hy.str, k _ _ _ (Ext.refl fh) (.bl _)⟩
  · cases hf
theorem ops_le : OpS K rLeA leD := by
  intro F H x y d e z Q fh hx hy hf k
  unfold leD at hf
  split at hf
  · cases hf
    exact .inl ⟨_, _, hx.int, hy.int, k _ _ _ (Ext.refl fh) (.bl _)⟩
  · cases hf
    exact .inr ⟨_, _, hx.str, hy.str, k _ _ _ (Ext.refl fh) (.bl _)⟩
  · cases hf
theorem ops_gt : OpS K rGtA gtD := by
  intro F H x y d e z Q fh hx hy hf k
  unfold gtD at hf
  split at hf
  · cases hf
    exact .inl ⟨_, _, hx.int, hy.int, k _ _ _ (Ext.refl fh) (.bl _)⟩
  · cases hf
    exact .inr ⟨_, _, hx.str, hy.str, k _ _ _ (Ext.refl fh) (.bl _)⟩
  · cases hf
theorem ops_ge : OpS K rGeA geD := by
  intro F H x y d e z Q fh hx hy hf k
  unfold geD at hf
  split at hf
  · cases hf
    exact .inl ⟨_, _, hx.int, hy.int, k _ _ _ (Ext.refl fh) (.bl _)⟩
  · cases hf
    exact .inr ⟨_, _, hx.str, hy.str, k _ _ _ (Ext.refl fh) (.bl _)⟩
  · cases hf
/-! ### ==, != -/
theorem DVs.empty {F : Hp} {vs : List V} {ds : List PyData} (h : DVs K F vs ds) : vs.isEmpty = ds.isEmpty := by
  cases h <;> rfl
mutual
theorem DV.dp {F : Hp} : ∀ {v : V} {d : PyData}, DV K F v d → d.canLay0 = true → Dp K F v d
  | _, _, .non, _ => .non
  | _, _, .bl b, _ => .bl b
  | _, _, .int i, _ => .int i
  | _, _, .str x, _ => .str x
  | _, _, .lst h hs, c => .lst (SqL.of h) (DVs.dp hs (by simpa [PyData.canLay0] using c))
  | _, _, .tup h hs, c => .tup h (DVs.dp hs (by simpa [PyData.canLay0] using c))
  | _, _, .dct h h1 h2, c => by simp [PyData.canLay0] at c
theorem DVs.dp {F : Hp} : ∀ {vs : List V} {ds : List PyData}, DVs K F vs ds → PyData.canLayAll0 ds = true → DpAll K F vs ds
  | _, _, .nil, _ => .nil
  | _, _, .cons h t, c => by
    have c' := c
    simp [PyData.canLayAll0] at c'
    exact .cons (DV.dp h c'.1) (DVs.dp t c'.2)
end
abbrev rEqA (K : PySem.W.Frag) : R2 := fun x y H Q => rEq x y H Q ∨ (rEqE K x y H Q ∨ rEqD K x y H Q)
theorem op_eqA (hu : X.A.units + 64 < cLine) : OpR X (compareOp .Eq) (rEqA X.K) := OpR.or op_eq (OpR.or (op_eqE (by omega)) (op_eqD hu))
abbrev rNeA (K : PySem.W.Frag) : R2 := fun x y H Q => rNe x y H Q ∨ rNeD K x y H Q
theorem op_neA (hu : X.A.units + 64 < cLine) : OpR X (compareOp .NotEq) (rNeA X.K) := OpR.or op_ne (op_neD hu)
theorem dec_strs {i j : Str} : decide (V.str i = V.str j) = decide (i = j) := by
  rw [Bool.eq_iff_iff]
  simp
theorem ops_eq : OpS K (rEqA K) eqDD := by
  intro F H x y d e z Q fh hx hy hf k
  unfold eqDD at hf
  obtain ⟨b, hb, rfl⟩ := Option.map_eq_some_iff.mp hf
  unfold eqD at hb
  split at hb
  · cases hb
    cases hx.str
    cases hy.str
    refine .inl ⟨rfl, ?_⟩
    rw [dec_strs]
    exact k _ _ _ (Ext.refl fh) (.bl _)
  · cases hb
    obtain ⟨a, vs, rfl, h1, h2⟩ := hx.tuple
    obtain ⟨c, ws, rfl, h3, h4⟩ := hy.tuple
    cases h4
    refine .inr (.inl ⟨a, c, vs, [], rfl, rfl, sqT_mono fh h1, sqT_mono fh h3, .inr rfl, ?_⟩)
    rw [show (vs.isEmpty && ([] : List V).isEmpty) = vs.isEmpty by rw [List.isEmpty_nil, Bool.and_true], h2.empty]
    exact k _ _ _ (Ext.refl fh) (.bl _)
  · cases hb
    obtain ⟨a, vs, rfl, h1, h2⟩ := hx.tuple
    obtain ⟨c, ws, rfl, h3, h4⟩ := hy.tuple
    cases h2
    refine .inr (.inl ⟨a, c, [], ws, rfl, rfl, sqT_mono fh h1, sqT_mono fh h3, .inl rfl, ?_⟩)
    rw [show (([] : List V).isEmpty && ws.isEmpty) = ws.isEmpty by rw [List.isEmpty_nil, Bool.true_and], h4.empty]
    exact k _ _ _ (Ext.refl fh) (.bl _)
  · split at hb
    · rename_i hs
      cases hb
      exact .inr (.inr ⟨_, _, (hx.dv fh).dp (SeqAt.canLay_of_shaped hs.1), (hy.dv fh).dp (SeqAt.canLay_of_shaped hs.2), hs.1, hs.2, k _ _ _ (Ext.refl fh) (.bl _)⟩)
    · cases hb
theorem ops_ne : OpS K (rNeA K) neDD := by
  intro F H x y d e z Q fh hx hy hf k
  unfold neDD at hf
  split at hf
  · cases hf
    cases hx.str
    cases hy.str
    refine .inl ⟨rfl, ?_⟩
    rw [dec_strs]
    exact k _ _ _ (Ext.refl fh) (.bl _)
  · split at hf
    · rename_i hs
      cases hf
      exact .inr ⟨_, _, (hx.dv fh).dp (SeqAt.canLay_of_shaped hs.1), (hy.dv fh).dp (SeqAt.canLay_of_shaped hs.2), hs.1, hs.2, k _ _ _ (Ext.refl fh) (.bl _)⟩
    · cases hf
theorem one_sign {a : Str} (h : a.cps.size = 1) : a = ⟨#[a.cps.getD 0 0]⟩ := by
  obtain ⟨⟨l⟩⟩ := a
  have h' : l.length = 1 := h
  match l, h' with
  | [c], _ => rfl
theorem ops_in : OpS K rInS inD := by
  intro F H x y d e z Q fh hx hy hf k
  unfold inD at hf
  split at hf
  · split at hf
    · rename_i hs
      cases hf
      exact ⟨_, _, hx.str.trans (congrArg V.str (one_sign hs)), hy.str, k _ _ _ (Ext.refl fh) (.bl _)⟩
    · cases hf
  · cases hf
theorem ops_notIn : OpS K rNotInS notInD := by
  intro F H x y d e z Q fh hx hy hf k
  unfold notInD at hf
  split at hf
  · split at hf
    · rename_i hs
      cases hf
      exact ⟨_, _, hx.str.trans (congrArg V.str (one_sign hs)), hy.str, k _ _ _ (Ext.refl fh) (.bl _)⟩
    · cases hf
  · cases hf
theorem dx_non {F H : Hp} {x : V} {d : PyData} (hx : DX K F H x d) : decide (x = V.non) = isNo d := by
  rcases hx with h | ⟨a, vs, ds', rfl, rfl, h3, h4⟩
  · cases h <;> rfl
  · rfl
theorem ops_isN : OpS K rIsN isND := by
  intro F H x y d e z Q fh hx hy hf k
  unfold isND at hf
  split at hf
  · cases hf
    refine ⟨hy.non, ?_⟩
    rw [dx_non hx]
    exact k _ _ _ (Ext.refl fh) (.bl _)
  · cases hf
theorem ops_isNotN : OpS K rNotN isNotND := by
  intro F H x y d e z Q fh hx hy hf k
  unfold isNotND at hf
  split at hf
  · cases hf
    refine ⟨hy.non, ?_⟩
    rw [dx_non hx]
    exact k _ _ _ (Ext.refl fh) (.bl _)
  · cases hf
end
end VL

set_option Elab.async false
set_option linter.all false
set_option maxRecDepth 100000
set_option maxHeartbeats 4000000
/-! VL3: expressions, tests, arguments: «e is m». -/
namespace VL
open PySem PySem.Spec PyProof.Rows L2

def SndE (K : PySem.W.Frag) (t : TE) (m : ME) : Prop :=
  ∀ (P F0 : Hp) (qc : Nat → Addr) (F : Hp) (cell : Nat → Addr) (S : Sl) (σ : L2.St) (H : Hp) (Q : VK) (r : SV) (S' : Sl), RC K P F0 qc F cell S σ H → m S = some (r, S') →
    (∀ v F' H', Same F F' → RC K P F0 qc F' cell S' σ H' → VR K F' cell r v → Q v H') → t σ H Q
def SndT (K : PySem.W.Frag) (t : TT) (m : MT) : Prop :=
  ∀ (P F0 : Hp) (qc : Nat → Addr) (F : Hp) (cell : Nat → Addr) (S : Sl) (σ : L2.St) (H : Hp) (Q : Bool → Hp → Prop) (r : Bool) (S' : Sl), RC K P F0 qc F cell S σ H → m S = some (r, S') →
    (∀ F' H', Same F F' → RC K P F0 qc F' cell S' σ H' → Q r H') → t σ H Q
def VRs (K : PySem.W.Frag) (F : Hp) (cell : Nat → Addr) : List SV → List V → Prop
  | [], vs => vs = []
  | r :: rs, vs => ∃ v ws, vs = v :: ws ∧ VR K F cell r v ∧ VRs K F cell rs ws
theorem VRs.mono {K : PySem.W.Frag} {F F' : Hp} {cell : Nat → Addr} (e : Same F F') : ∀ {rs : List SV} {vs : List V}, VRs K F cell rs vs → VRs K F' cell rs vs
  | [], _, h => h
  | _ :: _, _, ⟨v, ws, h1, h2, h3⟩ => ⟨v, ws, h1, h2.mono e, VRs.mono e h3⟩
theorem VRs.length {K : PySem.W.Frag} {F : Hp} {cell : Nat → Addr} : ∀ {rs : List SV} {vs : List V}, VRs K F cell rs vs → vs.length = rs.length
  | [], _, h => by rw [show _ = [] from h]; rfl
  | _ :: _, _, ⟨v, ws, h1, h2, h3⟩ => by rw [h1, List.length_cons, List.length_cons, VRs.length h3]
def SndA (K : PySem.W.Frag) (t : TA) (m : MA) : Prop :=
  ∀ (P F0 : Hp) (qc : Nat → Addr) (F : Hp) (cell : Nat → Addr) (S : Sl) (σ : L2.St) (H : Hp) (Q : List V → Hp → Prop) (rs : List SV) (S' : Sl), RC K P F0 qc F cell S σ H → m S = some (rs, S') →
    (∀ vs F' H', Same F F' → RC K P F0 qc F' cell S' σ H' → VRs K F' cell rs vs → Q vs H') → t σ H Q
structure JE (X : Cx) (e : Expr) (m : ME) : Prop where
  ex : ∃ t, PE X e t ∧ SndE X.K t m
structure JT (X : Cx) (e : Expr) (m : MT) : Prop where
  ex : ∃ t, PT X e t ∧ SndT X.K t m
structure JW (X : Cx) (e : Expr) (m : MT) : Prop where
  ex : ∃ t, PW X e t ∧ SndT X.K t m
structure JA (X : Cx) (es : List Expr) (m : MA) : Prop where
  ex : ∃ t, PA X es t ∧ SndA X.K t m

/-! ### the functions -/
def mVar (i : Nat) : ME := fun S => match S[i]? with
  | some (some (.v d)) => some (.v d, S)
  | some (some (.c _)) => some (.p i, S)
  | some (some (.q _)) => some (.p i, S)
  | some (some (.s ns)) => some (.s ns, S)
  | _ => none
def mC (d : PyData) : ME := fun S => some (.v d, S)
def mBin (f : PyData → PyData → Option PyData) (ma mb : ME) : ME := fun S =>
  match ma S with
  | none => none
  | some (r1, S1) => match mb S1 with
    | none => none
    | some (r2, S2) => match deref S2 r1, deref S2 r2 with
      | some d, some e => match f d e with
        | some z => some (.v z, S2)
        | none => none
      | _, _ => none
def mUn (f : PyData → Option PyData) (ma : ME) : ME := fun S =>
  match ma S with
  | none => none
  | some (r1, S1) => match deref S1 r1 with
    | some d => match f d with
      | some z => some (.v z, S1)
      | none => none
    | none => none
def mAnd (ma mb : ME) : ME := fun S =>
  match ma S with
  | some (.v (.bool true), S1) => mb S1
  | some (.v (.bool false), S1) => some (.v (.bool false), S1)
  | _ => none
def mOr (ma mb : ME) : ME := fun S =>
  match ma S with
  | some (.v (.bool true), S1) => some (.v (.bool true), S1)
  | some (.v (.bool false), S1) => mb S1
  | _ => none
def mNot (ma : ME) : ME := fun S =>
  match ma S with
  | some (.v (.bool b), S1) => some (.v (.bool (!b)), S1)
  | _ => none
def mIf (mt : MT) (ma mb : ME) : ME := fun S =>
  match mt S with
  | some (true, S1) => ma S1
  | some (false, S1) => mb S1
  | none => none
def mChain (f g : PyData → PyData → Option PyData) (ma mb mc : ME) : ME := fun S =>
  match ma S with
  | none => none
  | some (r1, S1) => match mb S1 with
    | none => none
    | some (r2, S2) => match deref S2 r1, stable r2 with
      | some d, some e => match f d e with
        | some (.bool true) => match mc S2 with
          | some (r3, S3) => match deref S3 r3 with
            | some h => match g e h with
              | some (.bool b) => some (.v (.bool b), S3)
              | _ => none
            | none => none
          | none => none
        | some (.bool false) => some (.v (.bool false), S2)
        | _ => none
      | _, _ => none
def tVal (ma : ME) : MT := fun S =>
  match ma S with
  | some (.v (.bool b), S1) => some (b, S1)
  | _ => none
def tAndM (ma mb : MT) : MT := fun S =>
  match ma S with
  | some (true, S1) => mb S1
  | some (false, S1) => some (false, S1)
  | none => none
def tOrM (ma mb : MT) : MT := fun S =>
  match ma S with
  | some (true, S1) => some (true, S1)
  | some (false, S1) => mb S1
  | none => none
def tNotM (ma : MT) : MT := fun S =>
  match ma S with
  | some (b, S1) => some (!b, S1)
  | none => none
def aNil : MA := fun S => some ([], S)
def aCons (me : ME) (ma : MA) : MA := fun S =>
  match me S with
  | none => none
  | some (r, S1) => match ma S1 with
    | none => none
    | some (rs, S2) => some (r :: rs, S2)

section
variable {X : Cx} {e a b c : Expr} {es rest : List Expr} {ma mb mc : ME} {mt mu : MT} {mas : MA} {pos : Pos} {x : Str}
theorem je_var (i : Nat) (hN : X.N[i]? = some x := by rfl) (hv : Vis X.env.scope x := by first | exact Or.inl rfl | exact Or.inr (Or.inl rfl) | exact Or.inr (Or.inr rfl)) (hd : (x == ("__debug__" : Str)) = false := by decide)
    (hcd : (x == ("__classdict__" : Str)) = false := by decide) : JE X (.Name x pos) (mVar i) := by
  refine ⟨_, pe_var hN hv hd hcd, fun P F0 qc F cell S σ H Q r S' R hm k => ?_⟩
  unfold mVar at hm
  split at hm
  · rename_i d hs
    cases hm
    obtain ⟨v, h1, h2⟩ := R.vl i d hs
    exact ⟨v, h1, k v F H (Same.refl _) R h2⟩
  · rename_i xs hs
    cases hm
    obtain ⟨h1, _⟩ := R.cl i _ xs hs rfl
    exact ⟨_, h1, k _ F H (Same.refl _) R rfl⟩
  · rename_i xs hs
    cases hm
    obtain ⟨h1, _⟩ := R.cl i _ xs hs rfl
    exact ⟨_, h1, k _ F H (Same.refl _) R rfl⟩
  · rename_i ns hs
    cases hm
    obtain ⟨a, h1, h2⟩ := R.sc i ns hs
    exact ⟨_, h1, k _ F H (Same.refl _) R h2⟩
  · cases hm
theorem snd_c {K : PySem.W.Frag} {v : V} {d : PyData} (h : ∀ F, DV K F v d) : SndE K (tC v) (mC d) := fun P F0 qc F cell S σ H Q r S' R hm k => by
  cases hm
  exact k v F H (Same.refl _) R (h F)
theorem je_int {i : Int} {j} : JE X (.Constant (.int i) j pos) (mC (.int i)) := ⟨_, pe_int, snd_c fun _ => .int i⟩
theorem je_bl {i : Bool} {j} : JE X (.Constant (.bool i) j pos) (mC (.bool i)) := ⟨_, pe_bl, snd_c fun _ => .bl i⟩
theorem je_non {j} : JE X (.Constant .none j pos) (mC .none) := ⟨_, pe_non, snd_c fun _ => .non⟩
theorem je_str {z : Str} {j} : JE X (.Constant (.str z) j pos) (mC (.str z)) := ⟨_, pe_str, snd_c fun _ => .str z⟩
/-- a constant of the module -/
theorem je_gstr {z : Str} {t : Tok} (hm : X.mg x = some (.str z t)) (hg : Gl X x := by rfl) (hd : (x == ("__debug__" : Str)) = false := by decide) : JE X (.Name x pos) (mC (.str z)) := ⟨_, pe_glob (v := .str z) hg hm ⟨t, rfl⟩ hd, snd_c fun _ => .str z⟩
theorem je_gint {z : Int} {t : Tok} (hm : X.mg x = some (.int z t)) (hg : Gl X x := by rfl) (hd : (x == ("__debug__" : Str)) = false := by decide) : JE X (.Name x pos) (mC (.int z)) := ⟨_, pe_glob (v := .int z) hg hm ⟨t, rfl⟩ hd, snd_c fun _ => .int z⟩

theorem snd_bin {K : PySem.W.Frag} {r : R2} {f : PyData → PyData → Option PyData} {ta tb : TE} (hs : OpS K r f) (ha : SndE K ta ma) (hb : SndE K tb mb) : SndE K (tOp r ta tb) (mBin f ma mb) := by
  intro P F0 qc F cell S σ H Q z S' R hm k
  unfold mBin at hm
  split at hm
  · cases hm
  · rename_i r1 S1 e1
    split at hm
    · cases hm
    · rename_i r2 S2 e2
      split at hm
      · rename_i d e hd he
        split at hm
        · rename_i z' hz
          cases hm
          refine ha P F0 qc F cell S σ H _ r1 S1 R e1 fun v1 F1 H1 s1 R1 q1 => ?_
          refine hb P F0 qc F1 cell S1 σ H1 _ r2 S' R1 e2 fun v2 F2 H2 s2 R2 q2 => ?_
          refine hs F2 H2 v1 v2 d e z' Q R2.fh (R2.deref (q1.mono s2) hd) (R2.deref q2 he) hz fun v F' H' ex dv => ?_
          exact k v F' H' ((s1.trans s2).trans ex.f) (R2.ext ex) dv
        · cases hm
      · cases hm
theorem je_bin {op : Operator} {r : R2} {f : PyData → PyData → Option PyData} (ho : OpR X (binaryOp op) r) (hs : OpS X.K r f) (ha : JE X a ma) (hb : JE X b mb) : JE X (.BinOp a op b pos) (mBin f ma mb) := by
  obtain ⟨ta, pa, sa⟩ := ha.ex
  obtain ⟨tb, pb, sb⟩ := hb.ex
  exact ⟨_, pe_op ho pa pb, snd_bin hs sa sb⟩
theorem je_add (ha : JE X a ma) (hb : JE X b mb) : JE X (.BinOp a .Add b pos) (mBin addD ma mb) := je_bin op_addA ops_add ha hb
theorem je_sub (ha : JE X a ma) (hb : JE X b mb) : JE X (.BinOp a .Sub b pos) (mBin subD ma mb) := je_bin op_sub ops_sub ha hb
theorem je_mul (ha : JE X a ma) (hb : JE X b mb) : JE X (.BinOp a .Mult b pos) (mBin mulD ma mb) := je_bin op_mulA ops_mul ha hb
theorem je_fdiv (ha : JE X a ma) (hb : JE X b mb) : JE X (.BinOp a .FloorDiv b pos) (mBin fdivD ma mb) := je_bin op_fdiv ops_fdiv ha hb
theorem je_mod (ha : JE X a ma) (hb : JE X b mb) : JE X (.BinOp a .Mod b pos) (mBin modD ma mb) := je_bin op_mod ops_mod ha hb
theorem je_pow (ha : JE X a ma) (hb : JE X b mb) : JE X (.BinOp a .Pow b pos) (mBin powD ma mb) := je_bin op_powW ops_pow ha hb
theorem je_cmp {op : CmpOp} {r : R2} {f : PyData → PyData → Option PyData} (ho : OpR X (compareOp op) r) (hs : OpS X.K r f) (hm : behindInMarks op b = false) (ha : JE X a ma) (hb : JE X b mb) : JE X (.Compare a [op] [b] pos) (mBin f ma mb) := by
  obtain ⟨ta, pa, sa⟩ := ha.ex
  obtain ⟨tb, pb, sb⟩ := hb.ex
  exact ⟨_, pe_cmpR ho pa pb hm, snd_bin hs sa sb⟩
theorem je_lt (ha : JE X a ma) (hb : JE X b mb) : JE X (.Compare a [.Lt] [b] pos) (mBin ltD ma mb) := je_cmp op_ltA ops_lt (nomark _) ha hb
theorem je_le (ha : JE X a ma) (hb : JE X b mb) : JE X (.Compare a [.LtE] [b] pos) (mBin leD ma mb) := je_cmp op_leA ops_le (nomark _) ha hb
theorem je_gt (ha : JE X a ma) (hb : JE X b mb) : JE X (.Compare a [.Gt] [b] pos) (mBin gtD ma mb) := je_cmp op_gtA ops_gt (nomark _) ha hb
theorem je_ge (ha : JE X a ma) (hb : JE X b mb) : JE X (.Compare a [.GtE] [b] pos) (mBin geD ma mb) := je_cmp op_geA ops_ge (nomark _) ha hb
theorem je_eq {k : Nat} (hr : Room k X.A) (ha : JE X a ma) (hb : JE X b mb) : JE X (.Compare a [.Eq] [b] pos) (mBin eqDD ma mb) := je_cmp (op_eqA hr.units) ops_eq (nomark _) ha hb
theorem je_ne {k : Nat} (hr : Room k X.A) (ha : JE X a ma) (hb : JE X b mb) : JE X (.Compare a [.NotEq] [b] pos) (mBin neDD ma mb) := je_cmp (op_neA hr.units) ops_ne (nomark _) ha hb
theorem je_in (ha : JE X a ma) (hb : JE X b mb) (hm : behindInMarks .In b = false := by rfl) : JE X (.Compare a [.In] [b] pos) (mBin inD ma mb) := je_cmp op_inS ops_in hm ha hb
theorem je_notIn (ha : JE X a ma) (hb : JE X b mb) (hm : behindInMarks .NotIn b = false := by rfl) : JE X (.Compare a [.NotIn] [b] pos) (mBin notInD ma mb) := je_cmp op_notInS ops_notIn hm ha hb
theorem je_isN (ha : JE X a ma) (hb : JE X b mb) : JE X (.Compare a [.Is] [b] pos) (mBin isND ma mb) := je_cmp op_isN1 ops_isN (nomark _) ha hb
theorem je_isNotN (ha : JE X a ma) (hb : JE X b mb) : JE X (.Compare a [.IsNot] [b] pos) (mBin isNotND ma mb) := je_cmp op_notN1 ops_isNotN (nomark _) ha hb
/-- a < b < c, b a value -/
theorem snd_chain {K : PySem.W.Frag} {r r' : R2} {f g : PyData → PyData → Option PyData} {ta tb tc : TE} (hs : OpS K r f) (hs' : OpS K r' g) (sa : SndE K ta ma) (sb : SndE K tb mb) (sc : SndE K tc mc) : SndE K (tChain r r' ta tb tc) (mChain f g ma mb mc) := by
  intro P F0 qc F cell S σ H Q z S' R hm k
  unfold mChain at hm
  split at hm
  · cases hm
  · rename_i r1 S1 e1
    split at hm
    · cases hm
    · rename_i r2 S2 e2
      split at hm
      · rename_i d e hd he
        have q2' : r2 = .v e := by
          cases r2 with
          | v d' => cases he; rfl
          | p i => cases he
          | s ns => cases he
        subst q2'
        refine sa P F0 qc F cell S σ H _ r1 S1 R e1 fun v1 F1 H1 s1 R1 q1 => ?_
        refine sb P F0 qc F1 cell S1 σ H1 _ _ S2 R1 e2 fun v2 F2 H2 s2 R2 q2 => ?_
        split at hm
        · rename_i hz
          split at hm
          · rename_i r3 S3 e3
            split at hm
            · rename_i h hh
              split at hm
              · rename_i bb hg
                cases hm
                refine hs F2 H2 v1 v2 d e _ _ R2.fh (R2.deref (q1.mono s2) hd) (.inl q2) hz fun v F' H' ex dv => ?_
                cases dv
                refine ⟨true, rfl, ?_⟩
                rw [if_pos rfl]
                refine sc P F0 qc F' cell S2 σ H' _ r3 S' (R2.ext ex) e3 fun v3 F3 H3 s3 R3 q3 => ?_
                refine hs' F3 H3 v2 v3 e h _ _ R3.fh (.inl (DV.mono s3 (DV.mono ex.f q2))) (R3.deref q3 hh) hg fun v F4 H4 ex4 dv4 => ?_
                exact k v F4 H4 (((s1.trans s2).trans ex.f).trans (s3.trans ex4.f)) (R3.ext ex4) dv4
              · cases hm
            · cases hm
          · cases hm
        · rename_i hz
          cases hm
          refine hs F2 H2 v1 v2 d e _ _ R2.fh (R2.deref (q1.mono s2) hd) (.inl q2) hz fun v F' H' ex dv => ?_
          cases dv
          refine ⟨false, rfl, ?_⟩
          rw [if_neg Bool.false_ne_true]
          exact k _ F' H' ((s1.trans s2).trans ex.f) (R2.ext ex) (.bl false)
        · cases hm
      · cases hm
theorem je_chain {op op' : CmpOp} {r r' : R2} {f g : PyData → PyData → Option PyData} (ho : OpR X (compareOp op) r) (hs : OpS X.K r f) (ho' : OpR X (compareOp op') r') (hs' : OpS X.K r' g) (ha : JE X a ma) (hb : JE X b mb) (hc : JE X c mc)
    (hl : lastMarks [op, op'] [b, c] = false := by rfl) : JE X (.Compare a [op, op'] [b, c] pos) (mChain f g ma mb mc) := by
  obtain ⟨ta, pa, sa⟩ := ha.ex
  obtain ⟨tb, pb, sb⟩ := hb.ex
  obtain ⟨tc, pc, sc⟩ := hc.ex
  exact ⟨_, pe_chain ho ho' pa pb pc hl, snd_chain hs hs' sa sb sc⟩
theorem je_one {op} (ha : JE X a ma) : JE X (.BoolOp op [a] pos) ma := by
  obtain ⟨ta, pa, sa⟩ := ha.ex
  exact ⟨_, pe_one pa, sa⟩
theorem je_and (ha : JE X a ma) (hb : JE X (.BoolOp .And (b :: rest) pos) mb) : JE X (.BoolOp .And (a :: b :: rest) pos) (mAnd ma mb) := by
  obtain ⟨ta, pa, sa⟩ := ha.ex
  obtain ⟨tb, pb, sb⟩ := hb.ex
  refine ⟨_, pe_and pa pb, fun P F0 qc F cell S σ H Q z S' R hm k => ?_⟩
  unfold mAnd at hm
  split at hm
  · rename_i S1 e1
    refine sa P F0 qc F cell S σ H _ _ S1 R e1 fun v1 F1 H1 s1 R1 q1 => ?_
    cases (show DV X.K F1 v1 (.bool true) from q1)
    refine ⟨true, rfl, ?_⟩
    rw [if_pos rfl]
    exact sb P F0 qc F1 cell S1 σ H1 Q z S' R1 hm fun v F' H' s2 R2 q2 => k v F' H' (s1.trans s2) R2 q2
  · rename_i S1 e1
    cases hm
    refine sa P F0 qc F cell S σ H _ _ S' R e1 fun v1 F1 H1 s1 R1 q1 => ?_
    cases (show DV X.K F1 v1 (.bool false) from q1)
    refine ⟨false, rfl, ?_⟩
    rw [if_neg Bool.false_ne_true]
    exact k _ F1 H1 s1 R1 (.bl false)
  · cases hm
theorem je_or (ha : JE X a ma) (hb : JE X (.BoolOp .Or (b :: rest) pos) mb) : JE X (.BoolOp .Or (a :: b :: rest) pos) (mOr ma mb) := by
  obtain ⟨ta, pa, sa⟩ := ha.ex
  obtain ⟨tb, pb, sb⟩ := hb.ex
  refine ⟨_, pe_or pa pb, fun P F0 qc F cell S σ H Q z S' R hm k => ?_⟩
  unfold mOr at hm
  split at hm
  · rename_i S1 e1
    cases hm
    refine sa P F0 qc F cell S σ H _ _ S' R e1 fun v1 F1 H1 s1 R1 q1 => ?_
    cases (show DV X.K F1 v1 (.bool true) from q1)
    refine ⟨true, rfl, ?_⟩
    rw [if_pos rfl]
    exact k _ F1 H1 s1 R1 (.bl true)
  · rename_i S1 e1
    refine sa P F0 qc F cell S σ H _ _ S1 R e1 fun v1 F1 H1 s1 R1 q1 => ?_
    cases (show DV X.K F1 v1 (.bool false) from q1)
    refine ⟨false, rfl, ?_⟩
    rw [if_neg Bool.false_ne_true]
    exact sb P F0 qc F1 cell S1 σ H1 Q z S' R1 hm fun v F' H' s2 R2 q2 => k v F' H' (s1.trans s2) R2 q2
  · cases hm
theorem je_not (ha : JE X a ma) : JE X (.UnaryOp .Not a pos) (mNot ma) := by
  obtain ⟨ta, pa, sa⟩ := ha.ex
  refine ⟨_, pe_not pa, fun P F0 qc F cell S σ H Q z S' R hm k => ?_⟩
  unfold mNot at hm
  split at hm
  · rename_i bb S1 e1
    cases hm
    refine sa P F0 qc F cell S σ H _ _ S' R e1 fun v1 F1 H1 s1 R1 q1 => ?_
    cases (show DV X.K F1 v1 (.bool bb) from q1)
    exact ⟨bb, rfl, k _ F1 H1 s1 R1 (.bl _)⟩
  · cases hm
def negD : PyData → Option PyData
  | .int i => some (.int (-i))
  | _ => none
theorem je_neg (ha : JE X a ma) : JE X (.UnaryOp .USub a pos) (mUn negD ma) := by
  obtain ⟨ta, pa, sa⟩ := ha.ex
  refine ⟨_, pe_un un_neg pa, fun P F0 qc F cell S σ H Q z S' R hm k => ?_⟩
  unfold mUn at hm
  split at hm
  · cases hm
  · rename_i r1 S1 e1
    split at hm
    · rename_i d hd
      split at hm
      · rename_i z' hz
        cases hm
        unfold negD at hz
        split at hz
        · cases hz
          refine sa P F0 qc F cell S σ H _ r1 S' R e1 fun v1 F1 H1 s1 R1 q1 => ?_
          exact ⟨_, (R1.deref q1 hd).int, k _ F1 H1 s1 R1 (.int _)⟩
        · cases hz
      · cases hm
    · cases hm
theorem je_if (hc : JT X c mt) (ha : JE X a ma) (hb : JE X b mb) : JE X (.IfExp c a b pos) (mIf mt ma mb) := by
  obtain ⟨tc, pc, sc⟩ := hc.ex
  obtain ⟨ta, pa, sa⟩ := ha.ex
  obtain ⟨tb, pb, sb⟩ := hb.ex
  refine ⟨_, pe_ifExp pc pa pb, fun P F0 qc F cell S σ H Q z S' R hm k => ?_⟩
  unfold mIf at hm
  split at hm
  · rename_i S1 e1
    refine sc P F0 qc F cell S σ H _ _ S1 R e1 fun F1 H1 s1 R1 => ?_
    rw [if_pos rfl]
    exact sa P F0 qc F1 cell S1 σ H1 Q z S' R1 hm fun v F' H' s2 R2 q2 => k v F' H' (s1.trans s2) R2 q2
  · rename_i S1 e1
    refine sc P F0 qc F cell S σ H _ _ S1 R e1 fun F1 H1 s1 R1 => ?_
    rw [if_neg Bool.false_ne_true]
    exact sb P F0 qc F1 cell S1 σ H1 Q z S' R1 hm fun v F' H' s2 R2 q2 => k v F' H' (s1.trans s2) R2 q2
  · cases hm
/-! ### tests -/
theorem snd_tval {K : PySem.W.Frag} {ta : TE} (sa : SndE K ta ma) : SndT K (tB ta) (tVal ma) := by
  intro P F0 qc F cell S σ H Q z S' R hm k
  unfold tVal at hm
  split at hm
  · rename_i bb S1 e1
    cases hm
    refine sa P F0 qc F cell S σ H _ _ S' R e1 fun v1 F1 H1 s1 R1 q1 => ?_
    cases (show DV K F1 v1 (.bool z) from q1)
    exact ⟨z, rfl, k F1 H1 s1 R1⟩
  · cases hm
theorem jt_val (ha : JE X a ma) (he : ∀ whole, isTrue a X.env whole = (do let v ← whole; standAt a.pos; holding [v] (truthy v)) := by intro _; rfl) : JT X a (tVal ma) := by
  obtain ⟨ta, pa, sa⟩ := ha.ex
  exact ⟨_, pt_val pa he, snd_tval sa⟩
theorem snd_tcmp {K : PySem.W.Frag} {t : TE} (sa : SndE K t ma) : SndT K (tTest t) (tVal ma) := by
  intro P F0 qc F cell S σ H Q z S' R hm k
  unfold tVal at hm
  split at hm
  · rename_i bb S1 e1
    cases hm
    refine sa P F0 qc F cell S σ H _ _ S' R e1 fun v1 F1 H1 s1 R1 q1 => ?_
    cases (show DV K F1 v1 (.bool z) from q1)
    exact ⟨z, rfl, k F1 H1 s1 R1⟩
  · cases hm
theorem jt_cmp {op : CmpOp} {r : R2} {f : PyData → PyData → Option PyData} (ho : OpR X (compareOp op) r) (hs : OpS X.K r f) (hm : behindInMarks op b = false) (ha : JE X a ma) (hb : JE X b mb) : JT X (.Compare a [op] [b] pos) (tVal (mBin f ma mb)) := by
  obtain ⟨ta, pa, sa⟩ := ha.ex
  obtain ⟨tb, pb, sb⟩ := hb.ex
  exact ⟨_, pt_cmpR ho pa pb hm, snd_tcmp (snd_bin hs sa sb)⟩
theorem jt_chain {op op' : CmpOp} {r r' : R2} {f g : PyData → PyData → Option PyData} (ho : OpR X (compareOp op) r) (hs : OpS X.K r f) (ho' : OpR X (compareOp op') r') (hs' : OpS X.K r' g) (ha : JE X a ma) (hb : JE X b mb) (hc : JE X c mc)
    (hl : lastMarks [op, op'] [b, c] = false := by rfl) : JT X (.Compare a [op, op'] [b, c] pos) (tVal (mChain f g ma mb mc)) := by
  obtain ⟨ta, pa, sa⟩ := ha.ex
  obtain ⟨tb, pb, sb⟩ := hb.ex
  obtain ⟨tc, pc, sc⟩ := hc.ex
  exact ⟨_, pt_chain ho ho' pa pb pc hl, snd_tcmp (snd_chain hs hs' sa sb sc)⟩
theorem jt_lt (ha : JE X a ma) (hb : JE X b mb) : JT X (.Compare a [.Lt] [b] pos) (tVal (mBin ltD ma mb)) := jt_cmp op_ltA ops_lt (nomark _) ha hb
theorem jt_le (ha : JE X a ma) (hb : JE X b mb) : JT X (.Compare a [.LtE] [b] pos) (tVal (mBin leD ma mb)) := jt_cmp op_leA ops_le (nomark _) ha hb
theorem jt_gt (ha : JE X a ma) (hb : JE X b mb) : JT X (.Compare a [.Gt] [b] pos) (tVal (mBin gtD ma mb)) := jt_cmp op_gtA ops_gt (nomark _) ha hb
theorem jt_ge (ha : JE X a ma) (hb : JE X b mb) : JT X (.Compare a [.GtE] [b] pos) (tVal (mBin geD ma mb)) := jt_cmp op_geA ops_ge (nomark _) ha hb
theorem jt_eq {k : Nat} (hr : Room k X.A) (ha : JE X a ma) (hb : JE X b mb) : JT X (.Compare a [.Eq] [b] pos) (tVal (mBin eqDD ma mb)) := jt_cmp (op_eqA hr.units) ops_eq (nomark _) ha hb
theorem jt_ne {k : Nat} (hr : Room k X.A) (ha : JE X a ma) (hb : JE X b mb) : JT X (.Compare a [.NotEq] [b] pos) (tVal (mBin neDD ma mb)) := jt_cmp (op_neA hr.units) ops_ne (nomark _) ha hb
theorem jt_in (ha : JE X a ma) (hb : JE X b mb) (hm : behindInMarks .In b = false := by rfl) : JT X (.Compare a [.In] [b] pos) (tVal (mBin inD ma mb)) := jt_cmp op_inS ops_in hm ha hb
theorem jt_notIn (ha : JE X a ma) (hb : JE X b mb) (hm : behindInMarks .NotIn b = false := by rfl) : JT X (.Compare a [.NotIn] [b] pos) (tVal (mBin notInD ma mb)) := jt_cmp op_notInS ops_notIn hm ha hb
theorem jt_isN (ha : JE X a ma) (hb : JE X b mb) : JT X (.Compare a [.Is] [b] pos) (tVal (mBin isND ma mb)) := jt_cmp op_isN1 ops_isN (nomark _) ha hb
theorem jt_isNotN (ha : JE X a ma) (hb : JE X b mb) : JT X (.Compare a [.IsNot] [b] pos) (tVal (mBin isNotND ma mb)) := jt_cmp op_notN1 ops_isNotN (nomark _) ha hb
theorem snd_and {K : PySem.W.Frag} {ta tb : TT} (sa : SndT K ta mt) (sb : SndT K tb mu) : SndT K (tAnd ta tb) (tAndM mt mu) := by
  intro P F0 qc F cell S σ H Q z S' R hm k
  unfold tAndM at hm
  split at hm
  · rename_i S1 e1
    refine sa P F0 qc F cell S σ H _ _ S1 R e1 fun F1 H1 s1 R1 => ?_
    rw [if_pos rfl]
    exact sb P F0 qc F1 cell S1 σ H1 Q z S' R1 hm fun F' H' s2 R2 => k F' H' (s1.trans s2) R2
  · rename_i S1 e1
    cases hm
    refine sa P F0 qc F cell S σ H _ _ S' R e1 fun F1 H1 s1 R1 => ?_
    rw [if_neg Bool.false_ne_true]
    exact k F1 H1 s1 R1
  · cases hm
theorem snd_or {K : PySem.W.Frag} {ta tb : TT} (sa : SndT K ta mt) (sb : SndT K tb mu) : SndT K (tOr ta tb) (tOrM mt mu) := by
  intro P F0 qc F cell S σ H Q z S' R hm k
  unfold tOrM at hm
  split at hm
  · rename_i S1 e1
    cases hm
    refine sa P F0 qc F cell S σ H _ _ S' R e1 fun F1 H1 s1 R1 => ?_
    rw [if_pos rfl]
    exact k F1 H1 s1 R1
  · rename_i S1 e1
    refine sa P F0 qc F cell S σ H _ _ S1 R e1 fun F1 H1 s1 R1 => ?_
    rw [if_neg Bool.false_ne_true]
    exact sb P F0 qc F1 cell S1 σ H1 Q z S' R1 hm fun F' H' s2 R2 => k F' H' (s1.trans s2) R2
  · cases hm
theorem jw_and1 (ha : JT X a mt) : JW X (.BoolOp .And [a] pos) mt := by
  obtain ⟨ta, pa, sa⟩ := ha.ex
  exact ⟨_, pw_and1 pa, sa⟩
theorem jw_or1 (ha : JT X a mt) : JW X (.BoolOp .Or [a] pos) mt := by
  obtain ⟨ta, pa, sa⟩ := ha.ex
  exact ⟨_, pw_or1 pa, sa⟩
theorem jw_and (ha : JT X a mt) (hb : JW X (.BoolOp .And (b :: rest) pos) mu) : JW X (.BoolOp .And (a :: b :: rest) pos) (tAndM mt mu) := by
  obtain ⟨ta, pa, sa⟩ := ha.ex
  obtain ⟨tb, pb, sb⟩ := hb.ex
  exact ⟨_, pw_and pa pb, snd_and sa sb⟩
theorem jw_or (ha : JT X a mt) (hb : JW X (.BoolOp .Or (b :: rest) pos) mu) : JW X (.BoolOp .Or (a :: b :: rest) pos) (tOrM mt mu) := by
  obtain ⟨ta, pa, sa⟩ := ha.ex
  obtain ⟨tb, pb, sb⟩ := hb.ex
  exact ⟨_, pw_or pa pb, snd_or sa sb⟩
theorem JW.jt (h : JW X a mt) : JT X a mt := by
  obtain ⟨t, p, s⟩ := h.ex
  exact ⟨t, p.pt, s⟩
theorem jt_not (ha : JT X a mt) : JT X (.UnaryOp .Not a pos) (tNotM mt) := by
  obtain ⟨ta, pa, sa⟩ := ha.ex
  refine ⟨_, pt_not pa, fun P F0 qc F cell S σ H Q z S' R hm k => ?_⟩
  unfold tNotM at hm
  split at hm
  · rename_i bb S1 e1
    cases hm
    exact sa P F0 qc F cell S σ H _ _ S' R e1 fun F1 H1 s1 R1 => k F1 H1 s1 R1
  · cases hm
/-! ### arguments, displays -/
theorem ja_nil : JA X [] aNil := ⟨_, pa_nil, fun P F0 qc F cell S σ H Q rs S' R hm k => by
  cases hm
  exact k [] F H (Same.refl _) R rfl⟩
theorem ja_cons (ha : JE X e ma) (hr : JA X es mas) (hs : starEach (e :: es) X.env = (false, eval e X.env) :: starEach es X.env := by rfl) : JA X (e :: es) (aCons ma mas) := by
  obtain ⟨ta, pa, sa⟩ := ha.ex
  obtain ⟨tr, pr, sr⟩ := hr.ex
  refine ⟨_, pa_cons pa pr hs, fun P F0 qc F cell S σ H Q rs S' R hm k => ?_⟩
  unfold aCons at hm
  split at hm
  · cases hm
  · rename_i r S1 e1
    split at hm
    · cases hm
    · rename_i rs' S2 e2
      cases hm
      refine sa P F0 qc F cell S σ H _ r S1 R e1 fun v1 F1 H1 s1 R1 q1 => ?_
      exact sr P F0 qc F1 cell S1 σ H1 _ rs' S' R1 e2 fun vs F2 H2 s2 R2 q2 => k _ F2 H2 (s1.trans s2) R2 ⟨v1, vs, rfl, q1.mono s2, q2⟩
end
def stables : List SV → Option (List PyData)
  | [] => some []
  | r :: rs => match stable r, stables rs with
    | some d, some ds => some (d :: ds)
    | _, _ => none
def derefs (S : Sl) : List SV → Option (List PyData)
  | [] => some []
  | r :: rs => match deref S r, derefs S rs with
    | some d, some ds => some (d :: ds)
    | _, _ => none
def DXs (K : PySem.W.Frag) (F H : Hp) : List V → List PyData → Prop
  | vs, [] => vs = []
  | vs, d :: ds => ∃ v ws, vs = v :: ws ∧ DX K F H v d ∧ DXs K F H ws ds
theorem VRs.stable {K : PySem.W.Frag} {F : Hp} {cell : Nat → Addr} : ∀ {rs : List SV} {vs : List V} {ds : List PyData}, VRs K F cell rs vs → stables rs = some ds → DVs K F vs ds
  | [], _, _, h, e => by
    cases e
    rw [show _ = [] from h]
    exact .nil
  | r :: rs, _, ds, ⟨v, ws, h1, h2, h3⟩, e => by
    unfold stables at e
    split at e
    · rename_i d ds' e1 e2
      cases e
      subst h1
      refine .cons ?_ (VRs.stable h3 e2)
      cases r with
      | v d' => cases e1; exact h2
      | p i => cases e1
      | s ns => cases e1
    · cases e
section
variable {K : PySem.W.Frag} {P F0 F F' : Hp} {qc cell : Nat → Addr} {S : Sl} {σ : L2.St} {H H' : Hp}
theorem RC.derefs (R : RC K P F0 qc F cell S σ H) : ∀ {rs : List SV} {vs : List V} {ds : List PyData}, VRs K F cell rs vs → VL.derefs S rs = some ds → DXs K F H vs ds
  | [], _, _, h, e => by
    cases e
    exact h
  | r :: rs, _, ds, ⟨v, ws, h1, h2, h3⟩, e => by
    unfold VL.derefs at e
    split at e
    · rename_i d ds' e1 e2
      cases e
      exact ⟨v, ws, h1, R.deref h2 e1, RC.derefs R h3 e2⟩
    · cases e
end
def mTup (ma : MA) : ME := fun S =>
  match ma S with
  | none => none
  | some (rs, S1) => match stables rs with
    | some ds => if ds.length ≤ 100000 then some (.v (.tuple ds), S1) else none
    | none => none
def mLst (ma : MA) : ME := fun S =>
  match ma S with
  | none => none
  | some (rs, S1) => match stables rs with
    | some ds => if ds.length ≤ 100000 then some (.v (.list ds), S1) else none
    | none => none
section
variable {X : Cx} {e a b c : Expr} {es rest : List Expr} {ma mb mc : ME} {mt mu : MT} {mas : MA} {pos : Pos} {x : Str}
theorem je_tup {j} (h : JA X es mas) : JE X (.Tuple es j pos) (mTup mas) := by
  obtain ⟨ta, pa, sa⟩ := h.ex
  refine ⟨_, pe_tup pa, fun P F0 qc F cell S σ H Q z S' R hm k => ?_⟩
  unfold mTup at hm
  split at hm
  · cases hm
  · rename_i rs S1 e1
    split at hm
    · rename_i ds e2
      split at hm
      · rename_i hl
        cases hm
        refine sa P F0 qc F cell S σ H _ rs S' R e1 fun vs F1 H1 s1 R1 q1 => ?_
        have dv := VRs.stable q1 e2
        refine ⟨by rw [dv.length]; exact small5 hl, fun p hp => ?_⟩
        have ex : Ext F1 H1 (upd F1 p (.tup vs)) (upd H1 p (.tup vs)) := Ext.new R1.fh hp
        exact k _ _ _ (s1.trans ex.f) (R1.ext ex) (.tup (SqT.of upd_same) (dv.mono ex.f))
      · cases hm
    · cases hm
theorem je_lst (h : JA X es mas) : JE X (.List es pos) (mLst mas) := by
  obtain ⟨ta, pa, sa⟩ := h.ex
  refine ⟨_, pe_lst pa, fun P F0 qc F cell S σ H Q z S' R hm k => ?_⟩
  unfold mLst at hm
  split at hm
  · cases hm
  · rename_i rs S1 e1
    split at hm
    · rename_i ds e2
      split at hm
      · rename_i hl
        cases hm
        refine sa P F0 qc F cell S σ H _ rs S' R e1 fun vs F1 H1 s1 R1 q1 => ?_
        have dv := VRs.stable q1 e2
        refine ⟨by rw [dv.length]; exact small5 hl, fun p hp => ?_⟩
        have ex : Ext F1 H1 (upd F1 p (.lst vs)) (upd H1 p (.lst vs)) := Ext.new R1.fh hp
        exact k _ _ _ (s1.trans ex.f) (R1.ext ex) (.lst upd_same (dv.mono ex.f))
      · cases hm
    · cases hm
end
end VL

set_option Elab.async false
set_option linter.all false
set_option maxRecDepth 100000
set_option maxHeartbeats 4000000
/-! VL4: built-in calls, methods of texts, subscripts, slices on data. -/
namespace VL
open PySem PySem.Spec PyProof.Rows L2

/-! ### calls by values -/
def CS (K : PySem.W.Frag) (r : List V → Hp → VK → Prop) (f : List PyData → Option PyData) : Prop :=
  ∀ (F H : Hp) (xs : List V) (ds : List PyData) (z : PyData) (Q : VK), Same F H → DXs K F H xs ds → f ds = some z → (∀ v F' H', Ext F H F' H' → DV K F' v z → Q v H') → r xs H Q
def mCall (f : List PyData → Option PyData) (ma : MA) : ME := fun S =>
  match ma S with
  | none => none
  | some (rs, S1) => match derefs S1 rs with
    | some ds => match f ds with
      | some z => some (.v z, S1)
      | none => none
    | none => none
section
variable {X : Cx} {e a b c : Expr} {es rest : List Expr} {ma mb mc : ME} {mt mu : MT} {mas : MA} {pos p : Pos} {x : Str} {f : List PyData → Option PyData} {id T : String} {r : List V → Hp → VK → Prop}
theorem snd_call {K : PySem.W.Frag} {ta : TA} (hs : CS K r f) (sa : SndA K ta mas) : SndE K (tCB r ta) (mCall f mas) := by
  intro P F0 qc F cell S σ H Q z S' R hm k
  unfold mCall at hm
  split at hm
  · cases hm
  · rename_i rs S1 e1
    split at hm
    · rename_i ds e2
      split at hm
      · rename_i z' e3
        cases hm
        refine sa P F0 qc F cell S σ H _ rs S' R e1 fun vs F1 H1 s1 R1 q1 => ?_
        refine hs F1 H1 vs ds z' Q R1.fh (R1.derefs q1 e2) e3 fun v F' H' ex dv => ?_
        exact k v F' H' (s1.trans ex.f) (R1.ext ex) dv
      · cases hm
    · cases hm
theorem je_callB (hc : CallR X (.builtin id) r) (hs : CS X.K r f) (hm : X.mg x = none) (hv : bootBuiltins x = some (.builtin id)) (ha : JA X (e :: es) mas) (hg : Gl X x := by rfl) (hn : x ≠ "__name__" := by decide) (hdb : (x == ("__debug__" : Str)) = false := by decide)
    (he : starEach (e :: es) X.env = (false, eval e X.env) :: starEach es X.env := by rfl) (hpl : (backTo pos (starEach es X.env)).any (·.1) = false := by rfl) : JE X (.Call (.Name x p) (e :: es) [] pos) (mCall f mas) := by
  obtain ⟨ta, pa, sa⟩ := ha.ex
  exact ⟨_, pe_callB hc hg hm hv pa hn hdb he hpl, snd_call hs sa⟩
theorem je_callT (hc : CallR X (.type T) r) (hs : CS X.K r f) (hm : X.mg x = none) (hv : bootBuiltins x = some (.type T)) (ha : JA X (e :: es) mas) (hg : Gl X x := by rfl) (hn : x ≠ "__name__" := by decide) (hdb : (x == ("__debug__" : Str)) = false := by decide)
    (he : starEach (e :: es) X.env = (false, eval e X.env) :: starEach es X.env := by rfl) (hpl : (backTo pos (starEach es X.env)).any (·.1) = false := by rfl) : JE X (.Call (.Name x p) (e :: es) [] pos) (mCall f mas) := by
  obtain ⟨ta, pa, sa⟩ := ha.ex
  exact ⟨_, pe_callTy hc hg hm hv pa hn hdb he hpl, snd_call hs sa⟩
end
/-! ### the built-ins on data -/
def lenF : List PyData → Option PyData
  | [.str a] => if a.length ≤ 100000 then some (.int a.length) else none
  | [.list xs] => some (.int xs.length)
  | [.tuple xs] => some (.int xs.length)
  | _ => none
def absF : List PyData → Option PyData
  | [.int i] => some (.int (if i < 0 then -i else i))
  | _ => none
def intF : List PyData → Option PyData
  | [.int i] => some (.int i)
  | [.bool k] => some (.int (if k = true then 1 else 0))
  | _ => none
def max2F : List PyData → Option PyData
  | [.int i, .int j] => some (.int (if j > i then j else i))
  | _ => none
def min2F : List PyData → Option PyData
  | [.int i, .int j] => some (.int (if j < i then j else i))
  | _ => none
def boolsOf : List PyData → Option (List Bool)
  | [] => some []
  | .bool b :: ds => (boolsOf ds).map (b :: ·)
  | _ :: _ => none
def intsOf : List PyData → Option (List Int)
  | [] => some []
  | .int b :: ds => (intsOf ds).map (b :: ·)
  | _ :: _ => none
def strsOf : List PyData → Option (List Str)
  | [] => some []
  | .str b :: ds => (strsOf ds).map (b :: ·)
  | _ :: _ => none
theorem boolsOf_some : ∀ {ds : List PyData} {bs : List Bool}, boolsOf ds = some bs → ds = bs.map .bool
  | [], _, h => by cases h; rfl
  | d :: ds, bs, h => by
    cases d <;> simp only [boolsOf] at h <;> try cases h
    obtain ⟨cs, h1, rfl⟩ := Option.map_eq_some_iff.mp h
    rw [boolsOf_some h1]
    rfl
theorem intsOf_some : ∀ {ds : List PyData} {bs : List Int}, intsOf ds = some bs → ds = bs.map .int
  | [], _, h => by cases h; rfl
  | d :: ds, bs, h => by
    cases d <;> simp only [intsOf] at h <;> try cases h
    obtain ⟨cs, h1, rfl⟩ := Option.map_eq_some_iff.mp h
    rw [intsOf_some h1]
    rfl
theorem strsOf_some : ∀ {ds : List PyData} {bs : List Str}, strsOf ds = some bs → ds = bs.map .str
  | [], _, h => by cases h; rfl
  | d :: ds, bs, h => by
    cases d <;> simp only [strsOf] at h <;> try cases h
    obtain ⟨cs, h1, rfl⟩ := Option.map_eq_some_iff.mp h
    rw [strsOf_some h1]
    rfl
theorem boolsOf_map : ∀ bs : List Bool, boolsOf (bs.map .bool) = some bs
  | [] => rfl
  | b :: bs => by rw [List.map_cons, boolsOf, boolsOf_map bs]; rfl
theorem intsOf_map : ∀ bs : List Int, intsOf (bs.map .int) = some bs
  | [] => rfl
  | b :: bs => by rw [List.map_cons, intsOf, intsOf_map bs]; rfl
theorem strsOf_map : ∀ bs : List Str, strsOf (bs.map .str) = some bs
  | [] => rfl
  | b :: bs => by rw [List.map_cons, strsOf, strsOf_map bs]; rfl
def allF : List PyData → Option PyData
  | [.list ds] => (boolsOf ds).map fun bs => .bool (bs.all id)
  | _ => none
def anyF : List PyData → Option PyData
  | [.list ds] => (boolsOf ds).map fun bs => .bool (bs.any id)
  | _ => none
def sumF : List PyData → Option PyData
  | [.list ds] => (intsOf ds).map fun bs => .int bs.sum
  | _ => none
def tupleF : List PyData → Option PyData
  | [.list ds] => some (.tuple ds)
  | [.tuple ds] => some (.tuple ds)
  | _ => none
def listF : List PyData → Option PyData
  | [.list ds] => some (.list ds)
  | [.tuple ds] => some (.list ds)
  | _ => none
def strF : List PyData → Option PyData
  | [.int i] => if i.natAbs.log2 < 1920 then some (.str (toString i)) else none
  | _ => none
section
variable {X : Cx} {K : PySem.W.Frag}
theorem dxs1 {F H : Hp} {xs : List V} {d : PyData} (h : DXs K F H xs [d]) : ∃ v, xs = [v] ∧ DX K F H v d := by
  obtain ⟨v, ws, rfl, h1, h2⟩ := h
  rw [show ws = [] from h2]
  exact ⟨v, rfl, h1⟩
theorem dxs2 {F H : Hp} {xs : List V} {d e : PyData} (h : DXs K F H xs [d, e]) : ∃ v w, xs = [v, w] ∧ DX K F H v d ∧ DX K F H w e := by
  obtain ⟨v, ws, rfl, h1, h2⟩ := h
  obtain ⟨w, rfl, h3⟩ := dxs1 h2
  exact ⟨v, w, rfl, h1, h3⟩
theorem cs_len : CS K (fun xs H Q => ∃ x n, xs = [x] ∧ LenV K x H n ∧ Q (.int n) H) lenF := by
  intro F H xs ds z Q fh hx hf k
  unfold lenF at hf
  split at hf
  · split at hf
    · rename_i hl
      cases hf
      obtain ⟨v, rfl, h1⟩ := dxs1 hx
      rw [h1.str]
      exact ⟨_, _, rfl, ⟨small5 hl, rfl⟩, k _ _ _ (Ext.refl fh) (.int _)⟩
    · cases hf
  · cases hf
    obtain ⟨v, rfl, h1⟩ := dxs1 hx
    obtain ⟨a, vs, rfl, h2, h3⟩ := h1.list fh
    refine ⟨_, _, rfl, .inl ⟨vs, SqL.of h2, h3.length.symm⟩, k _ _ _ (Ext.refl fh) (.int _)⟩
  · cases hf
    obtain ⟨v, rfl, h1⟩ := dxs1 hx
    obtain ⟨a, vs, rfl, h2, h3⟩ := h1.tuple
    refine ⟨_, _, rfl, .inr ⟨vs, sqT_mono fh h2, h3.length.symm⟩, k _ _ _ (Ext.refl fh) (.int _)⟩
  · cases hf
theorem cs_abs : CS K (fun xs H Q => ∃ i, xs = [.int i] ∧ Q (.int (if i < 0 then -i else i)) H) absF := by
  intro F H xs ds z Q fh hx hf k
  unfold absF at hf
  split at hf
  · cases hf
    obtain ⟨v, rfl, h1⟩ := dxs1 hx
    rw [h1.int]
    exact ⟨_, rfl, k _ _ _ (Ext.refl fh) (.int _)⟩
  · cases hf
theorem cs_int : CS K (fun xs H Q => (∃ i, xs = [.int i] ∧ Q (.int i) H) ∨ ∃ k, xs = [.bl k] ∧ Q (.int (if k then 1 else 0)) H) intF := by
  intro F H xs ds z Q fh hx hf k
  unfold intF at hf
  split at hf
  · cases hf
    obtain ⟨v, rfl, h1⟩ := dxs1 hx
    rw [h1.int]
    exact .inl ⟨_, rfl, k _ _ _ (Ext.refl fh) (.int _)⟩
  · cases hf
    obtain ⟨v, rfl, h1⟩ := dxs1 hx
    rw [h1.bool]
    exact .inr ⟨_, rfl, k _ _ _ (Ext.refl fh) (.int _)⟩
  · cases hf
theorem cs_max2 : CS K (fun xs H Q => ∃ i j, xs = [.int i, .int j] ∧ Q (.int (if j > i then j else i)) H) max2F := by
  intro F H xs ds z Q fh hx hf k
  unfold max2F at hf
  split at hf
  · cases hf
    obtain ⟨v, w, rfl, h1, h2⟩ := dxs2 hx
    rw [h1.int, h2.int]
    exact ⟨_, _, rfl, k _ _ _ (Ext.refl fh) (.int _)⟩
  · cases hf
theorem cs_min2 : CS K (fun xs H Q => ∃ i j, xs = [.int i, .int j] ∧ Q (.int (if j < i then j else i)) H) min2F := by
  intro F H xs ds z Q fh hx hf k
  unfold min2F at hf
  split at hf
  · cases hf
    obtain ⟨v, w, rfl, h1, h2⟩ := dxs2 hx
    rw [h1.int, h2.int]
    exact ⟨_, _, rfl, k _ _ _ (Ext.refl fh) (.int _)⟩
  · cases hf
theorem cs_all : CS K (rAll K) allF := by
  intro F H xs ds z Q fh hx hf k
  unfold allF at hf
  split at hf
  · obtain ⟨bs, hb, rfl⟩ := Option.map_eq_some_iff.mp hf
    obtain ⟨v, rfl, h1⟩ := dxs1 hx
    obtain ⟨a, vs, rfl, h2, h3⟩ := h1.list fh
    rw [boolsOf_some hb] at h3
    rw [DVs.bools bs h3] at h2
    exact ⟨a, bs, rfl, SqL.of h2, k _ _ _ (Ext.refl fh) (.bl _)⟩
  · cases hf
theorem cs_any : CS K (rAny K) anyF := by
  intro F H xs ds z Q fh hx hf k
  unfold anyF at hf
  split at hf
  · obtain ⟨bs, hb, rfl⟩ := Option.map_eq_some_iff.mp hf
    obtain ⟨v, rfl, h1⟩ := dxs1 hx
    obtain ⟨a, vs, rfl, h2, h3⟩ := h1.list fh
    rw [boolsOf_some hb] at h3
    rw [DVs.bools bs h3] at h2
    exact ⟨a, bs, rfl, SqL.of h2, k _ _ _ (Ext.refl fh) (.bl _)⟩
  · cases hf
theorem cs_sum : CS K (rSum K) sumF := by
  intro F H xs ds z Q fh hx hf k
  unfold sumF at hf
  split at hf
  · obtain ⟨bs, hb, rfl⟩ := Option.map_eq_some_iff.mp hf
    obtain ⟨v, rfl, h1⟩ := dxs1 hx
    obtain ⟨a, vs, rfl, h2, h3⟩ := h1.list fh
    rw [intsOf_some hb] at h3
    rw [DVs.ints bs h3] at h2
    exact ⟨a, bs, rfl, SqL.of h2, k _ _ _ (Ext.refl fh) (.int _)⟩
  · cases hf
theorem cs_tuple : CS K (fun xs H Q => ∃ p ys, xs = [.ref p] ∧ ((SqL K H p ys ∧ ∀ l, H l = none → Q (.ref l) (upd H l (.tup ys))) ∨ (SqT K H p ys ∧ Q (.ref p) H))) tupleF := by
  intro F H xs ds z Q fh hx hf k
  unfold tupleF at hf
  split at hf
  · cases hf
    obtain ⟨v, rfl, h1⟩ := dxs1 hx
    obtain ⟨a, vs, rfl, h2, h3⟩ := h1.list fh
    refine ⟨a, vs, rfl, .inl ⟨SqL.of h2, fun l hl => ?_⟩⟩
    have ex : Ext F H (upd F l (.tup vs)) (upd H l (.tup vs)) := Ext.new fh hl
    exact k _ _ _ ex (.tup (SqT.of upd_same) (h3.mono ex.f))
  · cases hf
    obtain ⟨v, rfl, h1⟩ := dxs1 hx
    obtain ⟨a, vs, rfl, h2, h3⟩ := h1.tuple
    exact ⟨a, vs, rfl, .inr ⟨sqT_mono fh h2, k _ _ _ (Ext.refl fh) (.tup h2 h3)⟩⟩
  · cases hf
theorem cs_list : CS K (fun xs H Q => ∃ p ys, xs = [.ref p] ∧ (SqL K H p ys ∨ SqT K H p ys) ∧ ∀ l, H l = none → Q (.ref l) (upd H l (.lst ys))) listF := by
  intro F H xs ds z Q fh hx hf k
  unfold listF at hf
  split at hf
  · cases hf
    obtain ⟨v, rfl, h1⟩ := dxs1 hx
    obtain ⟨a, vs, rfl, h2, h3⟩ := h1.list fh
    refine ⟨a, vs, rfl, .inl (SqL.of h2), fun l hl => ?_⟩
    have ex : Ext F H (upd F l (.lst vs)) (upd H l (.lst vs)) := Ext.new fh hl
    exact k _ _ _ ex (.lst upd_same (h3.mono ex.f))
  · cases hf
    obtain ⟨v, rfl, h1⟩ := dxs1 hx
    obtain ⟨a, vs, rfl, h2, h3⟩ := h1.tuple
    refine ⟨a, vs, rfl, .inr (sqT_mono fh h2), fun l hl => ?_⟩
    have ex : Ext F H (upd F l (.lst vs)) (upd H l (.lst vs)) := Ext.new fh hl
    exact k _ _ _ ex (.lst upd_same (h3.mono ex.f))
  · cases hf
theorem cs_str : CS K (fun xs H Q => ∃ i, xs = [.int i] ∧ i.natAbs.log2 < 1920 ∧ Q (.str (toString i)) H) strF := by
  intro F H xs ds z Q fh hx hf k
  unfold strF at hf
  split at hf
  · split at hf
    · rename_i hl
      cases hf
      obtain ⟨v, rfl, h1⟩ := dxs1 hx
      rw [h1.int]
      exact ⟨_, rfl, hl, k _ _ _ (Ext.refl fh) (.str _)⟩
    · cases hf
  · cases hf
end
section
variable {X : Cx} {e : Expr} {es : List Expr} {mas : MA} {pos p : Pos}
theorem je_len (hm : X.mg "len" = none) (ha : JA X [e] mas) (hg : Gl X "len" := by rfl) (he : starEach [e] X.env = (false, eval e X.env) :: starEach [] X.env := by rfl) (hpl : (backTo pos (starEach [] X.env)).any (·.1) = false := by rfl) : JE X (.Call (.Name "len" p) [e] [] pos) (mCall lenF mas) := je_callB call_len cs_len hm PySem.boot_len ha hg (by decide) (by decide) he hpl
theorem je_abs (hm : X.mg "abs" = none) (ha : JA X [e] mas) (hg : Gl X "abs" := by rfl) (he : starEach [e] X.env = (false, eval e X.env) :: starEach [] X.env := by rfl) (hpl : (backTo pos (starEach [] X.env)).any (·.1) = false := by rfl) : JE X (.Call (.Name "abs" p) [e] [] pos) (mCall absF mas) := je_callB call_abs cs_abs hm (by decide +kernel) ha hg (by decide) (by decide) he hpl
theorem je_toint (hm : X.mg "int" = none) (ha : JA X [e] mas) (hg : Gl X "int" := by rfl) (he : starEach [e] X.env = (false, eval e X.env) :: starEach [] X.env := by rfl) (hpl : (backTo pos (starEach [] X.env)).any (·.1) = false := by rfl) : JE X (.Call (.Name "int" p) [e] [] pos) (mCall intF mas) := je_callT call_int1 cs_int hm (by decide +kernel) ha hg (by decide) (by decide) he hpl
theorem je_max2 {a b : Expr} (hc : X.calm = true) (hm : X.mg "max" = none) (ha : JA X [a, b] mas) (hg : Gl X "max" := by rfl) (he : starEach [a, b] X.env = (false, eval a X.env) :: starEach [b] X.env := by rfl) (hpl : (backTo pos (starEach [b] X.env)).any (·.1) = false := by rfl) : JE X (.Call (.Name "max" p) [a, b] [] pos) (mCall max2F mas) := je_callB (call_max2 hc) cs_max2 hm (by decide +kernel) ha hg (by decide) (by decide) he hpl
theorem je_min2 {a b : Expr} (hc : X.calm = true) (hm : X.mg "min" = none) (ha : JA X [a, b] mas) (hg : Gl X "min" := by rfl) (he : starEach [a, b] X.env = (false, eval a X.env) :: starEach [b] X.env := by rfl) (hpl : (backTo pos (starEach [b] X.env)).any (·.1) = false := by rfl) : JE X (.Call (.Name "min" p) [a, b] [] pos) (mCall min2F mas) := je_callB (call_min2 hc) cs_min2 hm (by decide +kernel) ha hg (by decide) (by decide) he hpl
theorem je_all (hc : X.calm = true) (hm : X.mg "all" = none) (ha : JA X [e] mas) (hg : Gl X "all" := by rfl) (he : starEach [e] X.env = (false, eval e X.env) :: starEach [] X.env := by rfl) (hpl : (backTo pos (starEach [] X.env)).any (·.1) = false := by rfl) : JE X (.Call (.Name "all" p) [e] [] pos) (mCall allF mas) := je_callB (cr_all hc) cs_all hm (by decide +kernel) ha hg (by decide) (by decide) he hpl
theorem je_any (hc : X.calm = true) (hm : X.mg "any" = none) (ha : JA X [e] mas) (hg : Gl X "any" := by rfl) (he : starEach [e] X.env = (false, eval e X.env) :: starEach [] X.env := by rfl) (hpl : (backTo pos (starEach [] X.env)).any (·.1) = false := by rfl) : JE X (.Call (.Name "any" p) [e] [] pos) (mCall anyF mas) := je_callB (cr_any hc) cs_any hm (by decide +kernel) ha hg (by decide) (by decide) he hpl
theorem je_sum (hc : X.calm = true) (hm : X.mg "sum" = none) (ha : JA X [e] mas) (hg : Gl X "sum" := by rfl) (he : starEach [e] X.env = (false, eval e X.env) :: starEach [] X.env := by rfl) (hpl : (backTo pos (starEach [] X.env)).any (·.1) = false := by rfl) : JE X (.Call (.Name "sum" p) [e] [] pos) (mCall sumF mas) := je_callB (cr_sum hc) cs_sum hm (by decide +kernel) ha hg (by decide) (by decide) he hpl
theorem je_totuple (hm : X.mg "tuple" = none) (ha : JA X [e] mas) (hg : Gl X "tuple" := by rfl) (he : starEach [e] X.env = (false, eval e X.env) :: starEach [] X.env := by rfl) (hpl : (backTo pos (starEach [] X.env)).any (·.1) = false := by rfl) : JE X (.Call (.Name "tuple" p) [e] [] pos) (mCall tupleF mas) := je_callT call_tuple_of cs_tuple hm (by decide +kernel) ha hg (by decide) (by decide) he hpl
theorem je_tolist (hm : X.mg "list" = none) (ha : JA X [e] mas) (hg : Gl X "list" := by rfl) (he : starEach [e] X.env = (false, eval e X.env) :: starEach [] X.env := by rfl) (hpl : (backTo pos (starEach [] X.env)).any (·.1) = false := by rfl) : JE X (.Call (.Name "list" p) [e] [] pos) (mCall listF mas) := je_callT call_list_of cs_list hm (by decide +kernel) ha hg (by decide) (by decide) he hpl
theorem je_tostr (hm : X.mg "str" = none) (ha : JA X [e] mas) (hg : Gl X "str" := by rfl) (he : starEach [e] X.env = (false, eval e X.env) :: starEach [] X.env := by rfl) (hpl : (backTo pos (starEach [] X.env)).any (·.1) = false := by rfl) : JE X (.Call (.Name "str" p) [e] [] pos) (mCall strF mas) := je_callT call_str_int cs_str hm (by decide +kernel) ha hg (by decide) (by decide) he hpl
end

/-! ### the script: len, an item -/
def mLenS (ma : ME) : ME := fun S => match ma S with
  | some (.s (.ns ns), S1) => some (.v (.int ns.length), S1)
  | _ => none
def mIxS (ma mb : ME) : ME := fun S => match ma S with
  | some (.s (.ns ns), S1) => match mb S1 with
    | some (.v (.int i), S2) => match atI ns i with
      | some n => some (.v (.int n), S2)
      | none => none
    | _ => none
  | _ => none
section
variable {X : Cx} {e a b : Expr} {ma mb : ME} {pos p : Pos}
theorem je_lenS (hm : X.mg "len" = none) (ha : JE X e ma) (hg : Gl X "len" := by rfl) (he : starEach [e] X.env = (false, eval e X.env) :: starEach [] X.env := by rfl) (hpl : (backTo pos (starEach [] X.env)).any (·.1) = false := by rfl) : JE X (.Call (.Name "len" p) [e] [] pos) (mLenS ma) := by
  obtain ⟨ta, pa, sa⟩ := ha.ex
  refine ⟨_, pe_callB call_len hg hm PySem.boot_len (pa_cons pa pa_nil he) (by decide) (by decide) he hpl, fun P F0 qc F cell S σ H Q z S' R hz k => ?_⟩
  unfold mLenS at hz
  split at hz
  · rename_i ns S1 e1
    cases hz
    refine sa P F0 qc F cell S σ H _ _ S' R e1 fun v1 F1 H1 s1 R1 q1 => ?_
    obtain ⟨a, rfl, hl⟩ := q1
    exact ⟨_, _, rfl, .inl ⟨_, sqL_mono R1.fh hl, by rw [List.length_map]⟩, k _ F1 H1 s1 R1 (.int _)⟩
  · cases hz
theorem atI_map {α β : Type} {f : α → β} {xs : List α} {i : Int} {v : α} (h : atI xs i = some v) : atI (xs.map f) i = some (f v) := by
  unfold atI at h ⊢
  rw [List.length_map]
  cases q : ixN xs.length i with
  | none => rw [q] at h; cases h
  | some j =>
    rw [q] at h
    show (xs.map f)[j]? = some (f v)
    rw [List.getElem?_map, show xs[j]? = some v from h]
    rfl
theorem je_ixS (ha : JE X a ma) (hb : JE X b mb) (hs : PlainIx b := by exact fun _ _ => rfl) : JE X (.Subscript a b pos) (mIxS ma mb) := by
  obtain ⟨ta, pa, sa⟩ := ha.ex
  obtain ⟨tb, pb, sb⟩ := hb.ex
  refine ⟨_, pe_ix ix_list pa pb hs, fun P F0 qc F cell S σ H Q z S' R hz k => ?_⟩
  unfold mIxS at hz
  split at hz
  · rename_i ns S1 e1
    split at hz
    · rename_i i S2 e2
      split at hz
      · rename_i n hn
        cases hz
        refine sa P F0 qc F cell S σ H _ _ S1 R e1 fun v1 F1 H1 s1 R1 q1 => ?_
        refine sb P F0 qc F1 cell S1 σ H1 _ _ S' R1 e2 fun v2 F2 H2 s2 R2 q2 => ?_
        obtain ⟨c, rfl, hl⟩ := q1
        cases (show DV X.K F2 v2 (.int i) from q2)
        exact ⟨c, _, i, _, rfl, rfl, sqL_mono (s2.trans R2.fh) hl, atI_map hn, k _ F2 H2 (s1.trans s2) R2 (.int _)⟩
      · cases hz
    · cases hz
  · cases hz
end

/-! ### subscripts, slices -/
def ixD : PyData → PyData → Option PyData
  | .list xs, .int i => atI xs i
  | .tuple xs, .int i => atI xs i
  | .str z, .int i => if z.length ≤ 100000 then (atI z.cps.toList i).map fun c => .str ⟨#[c]⟩ else none
  | _, _ => none
def cutL {α : Type} (xs : List α) (lo hi : Option Int) : List α := (xs.drop (HT.sIx xs.length 0 lo)).take (HT.sIx xs.length xs.length hi - HT.sIx xs.length 0 lo)
def slD : PyData → Option Int → Option Int → Option PyData
  | .list xs, lo, hi => some (.list (cutL xs lo hi))
  | .tuple xs, lo, hi => some (.tuple (cutL xs lo hi))
  | .str z, lo, hi => if z.length ≤ 100000 then some (.str (cutS z lo hi)) else none
  | _, _, _ => none
abbrev MO := Sl → Option (Option Int × Sl)
def oNone : MO := fun S => some (none, S)
def oSome (ma : ME) : MO := fun S => match ma S with
  | some (.v (.int i), S1) => some (some i, S1)
  | _ => none
def mSl (ma : ME) (ml mh : MO) : ME := fun S => match ma S with
  | none => none
  | some (r, S1) => match ml S1 with
    | none => none
    | some (lo, S2) => match mh S2 with
      | none => none
      | some (hi, S3) => match deref S3 r with
        | none => none
        | some d => match slD d lo hi with
          | some z => some (.v z, S3)
          | none => none
def SndO (K : PySem.W.Frag) (t : TO) (m : MO) : Prop :=
  ∀ (P F0 : Hp) (qc : Nat → Addr) (F : Hp) (cell : Nat → Addr) (S : Sl) (σ : L2.St) (H : Hp) (Q : Option Int → Hp → Prop) (r : Option Int) (S' : Sl), RC K P F0 qc F cell S σ H → m S = some (r, S') →
    (∀ F' H', Same F F' → RC K P F0 qc F' cell S' σ H' → Q r H') → t σ H Q
structure JO (X : Cx) (e : Option Expr) (m : MO) : Prop where
  ex : ∃ t, PO X e t ∧ SndO X.K t m
section
variable {X : Cx} {e a b : Expr} {ma mb : ME} {ml mh : MO} {pos p p2 : Pos} {lo hi : Option Expr} {K : PySem.W.Frag}
theorem jo_none : JO X none oNone := ⟨_, po_none, fun P F0 qc F cell S σ H Q r S' R hm k => by
  cases hm
  exact k F H (Same.refl _) R⟩
theorem jo_some (h : JE X e ma) : JO X (some e) (oSome ma) := by
  obtain ⟨ta, pa, sa⟩ := h.ex
  refine ⟨_, po_some pa, fun P F0 qc F cell S σ H Q r S' R hm k => ?_⟩
  unfold oSome at hm
  split at hm
  · rename_i i S1 e1
    cases hm
    refine sa P F0 qc F cell S σ H _ _ S' R e1 fun v1 F1 H1 s1 R1 q1 => ?_
    cases (show DV X.K F1 v1 (.int i) from q1)
    exact ⟨i, rfl, k F1 H1 s1 R1⟩
  · cases hm
theorem dvs_atI {F : Hp} {vs : List V} {ds : List PyData} {i : Int} {d : PyData} (h : DVs K F vs ds) (e : atI ds i = some d) : ∃ v, atI vs i = some v ∧ DV K F v d := by
  unfold atI at e ⊢
  rw [h.length]
  cases q : ixN ds.length i with
  | none => rw [q] at e; cases e
  | some j =>
    rw [q] at e
    exact h.get e
theorem ops_ix : OpS K (rIx K) ixD := by
  intro F H x y d e z Q fh hx hy hf k
  unfold ixD at hf
  split at hf
  · obtain ⟨a, vs, rfl, h1, h2⟩ := hx.list fh
    obtain ⟨v, h3, h4⟩ := dvs_atI h2 hf
    exact .inl ⟨a, vs, _, v, rfl, hy.int, SqL.of h1, h3, k _ _ _ (Ext.refl fh) h4⟩
  · obtain ⟨a, vs, rfl, h1, h2⟩ := hx.tuple
    obtain ⟨v, h3, h4⟩ := dvs_atI h2 hf
    exact .inr (.inl ⟨a, vs, _, v, rfl, hy.int, sqT_mono fh h1, h3, k _ _ _ (Ext.refl fh) h4⟩)
  · split at hf
    · rename_i hl
      obtain ⟨c, h3, rfl⟩ := Option.map_eq_some_iff.mp hf
      exact .inr (.inr ⟨_, _, c, hx.str, hy.int, small5 hl, h3, k _ _ _ (Ext.refl fh) (.str _)⟩)
    · cases hf
  · cases hf
theorem je_ix (ha : JE X a ma) (hb : JE X b mb) (hs : PlainIx b := by exact fun _ _ => rfl) : JE X (.Subscript a b pos) (mBin ixD ma mb) := by
  obtain ⟨ta, pa, sa⟩ := ha.ex
  obtain ⟨tb, pb, sb⟩ := hb.ex
  exact ⟨_, pe_ix ix_seq pa pb hs, snd_bin ops_ix sa sb⟩
theorem DVs.cut {F : Hp} {vs : List V} {ds : List PyData} (h : DVs K F vs ds) (lo hi : Option Int) : DVs K F (cutV vs lo hi) (cutL ds lo hi) := by
  unfold cutV cutL
  rw [h.length]
  exact (h.drop _).take _
theorem sIx_le' (n d : Nat) (hd : d ≤ n) (o : Option Int) : HT.sIx n d o ≤ n := HT.sIx_le _ _ hd _
theorem cut_whole {α : Type} {xs : List α} {lo hi : Option Int} (h1 : HT.sIx xs.length 0 lo = 0) (h2 : HT.sIx xs.length xs.length hi = xs.length) : cutL xs lo hi = xs := by
  unfold cutL
  rw [h1, h2, List.drop_zero, Nat.sub_zero, List.take_length]
theorem sl_any : SlR X (fun x lo hi H Q => rSlL X.K x lo hi H Q ∨ (rSlA X.K x lo hi H Q ∨ rSlS x lo hi H Q)) := SlR.or sl_list (SlR.or sl_tupA sl_str)
theorem je_slice (ha : JE X e ma) (hl : JO X lo ml) (hh : JO X hi mh) : JE X (.Subscript e (.Slice lo hi none p2) pos) (mSl ma ml mh) := by
  obtain ⟨ta, pa, sa⟩ := ha.ex
  obtain ⟨tl, pl, sl⟩ := hl.ex
  obtain ⟨th, ph, sh⟩ := hh.ex
  refine ⟨_, pe_slice sl_any pa pl ph, fun P F0 qc F cell S σ H Q z S' R hm k => ?_⟩
  unfold mSl at hm
  split at hm
  · cases hm
  · rename_i r S1 e1
    split at hm
    · cases hm
    · rename_i lo S2 e2
      split at hm
      · cases hm
      · rename_i hi S3 e3
        split at hm
        · cases hm
        · rename_i d hd
          split at hm
          · rename_i z' hz
            cases hm
            refine sa P F0 qc F cell S σ H _ _ S1 R e1 fun v1 F1 H1 s1 R1 q1 => ?_
            refine sl P F0 qc F1 cell S1 σ H1 _ _ S2 R1 e2 fun F2 H2 s2 R2 => ?_
            refine sh P F0 qc F2 cell S2 σ H2 _ _ S' R2 e3 fun F3 H3 s3 R3 => ?_
            have dx := R3.deref (q1.mono (s2.trans s3)) hd
            have k' : ∀ (v : V) (F' H' : Hp), Ext F3 H3 F' H' → DV X.K F' v z' → Q v H' := fun v F' H' ex dv => k v F' H' (((s1.trans s2).trans s3).trans ex.f) (R3.ext ex) dv
            unfold slD at hz
            split at hz
            · cases hz
              obtain ⟨a, vs, rfl, h1, h2⟩ := dx.list R3.fh
              refine .inl ⟨a, vs, rfl, SqL.of h1, fun p hp => ?_⟩
              have ex : Ext F3 H3 (upd F3 p (.lst (cutV vs lo hi))) (upd H3 p (.lst (cutV vs lo hi))) := Ext.new R3.fh hp
              exact k' _ _ _ ex (.lst upd_same ((h2.cut lo hi).mono ex.f))
            · cases hz
              obtain ⟨a, vs, rfl, h1, h2⟩ := dx.tuple
              refine .inr (.inl ⟨a, vs, rfl, sqT_mono R3.fh h1, fun hw => ?_, fun _ p hp => ?_⟩)
              · have e := cut_whole (xs := vs) hw.1 hw.2
                rw [h2.length] at hw
                rw [cut_whole hw.1 hw.2] at k'
                exact k' _ _ _ (Ext.refl R3.fh) (.tup h1 h2)
              · have ex : Ext F3 H3 (upd F3 p (.tup (cutV vs lo hi))) (upd H3 p (.tup (cutV vs lo hi))) := Ext.new R3.fh hp
                exact k' _ _ _ ex (.tup (SqT.of upd_same) ((h2.cut lo hi).mono ex.f))
            · split at hz
              · rename_i hl
                cases hz
                exact .inr (.inr ⟨_, dx.str, small5 hl, k' _ _ _ (Ext.refl R3.fh) (.str _)⟩)
              · cases hz
            · cases hz
          · cases hm
end
end VL

set_option Elab.async false
set_option linter.all false
set_option maxRecDepth 100000
set_option maxHeartbeats 4000000
/-! VL5: methods of texts, isinstance, repr, a text backwards, written dicts. -/
namespace VL
open PySem PySem.Spec PyProof.Rows L2

/-! ### methods of texts -/
def MS1 (K : PySem.W.Frag) (r : V → List V → Hp → VK → Prop) (f : Str → PyData → Option PyData) : Prop :=
  ∀ (F H : Hp) (a : Str) (y : V) (d z : PyData) (Q : VK), Same F H → DX K F H y d → f a d = some z → (∀ v F' H', Ext F H F' H' → DV K F' v z → Q v H') → r (.str a) [y] H Q
def MS0 (K : PySem.W.Frag) (r : V → List V → Hp → VK → Prop) (f : Str → Option PyData) : Prop :=
  ∀ (F H : Hp) (a : Str) (z : PyData) (Q : VK), Same F H → f a = some z → (∀ v F' H', Ext F H F' H' → DV K F' v z → Q v H') → r (.str a) [] H Q
def onStr (f : Str → PyData → Option PyData) : PyData → PyData → Option PyData
  | .str a, d => f a d
  | _, _ => none
def onStr0 (f : Str → Option PyData) : PyData → Option PyData
  | .str a => f a
  | _ => none
section
variable {X : Cx} {o e : Expr} {mo me : ME} {id : String} {name : Str} {apos pos : Pos} {r : V → List V → Hp → VK → Prop} {f : Str → PyData → Option PyData} {f0 : Str → Option PyData}
theorem je_m1 (slot : Slot "str" name id) (ty : typeOf (.builtin id) = pure (.type "method_descriptor")) (rule : MtR X id r) (hs : MS1 X.K r f) (ho : JE X o mo) (he : JE X e me)
    (hst : starEach [e] X.env = [(false, eval e X.env)] := by rfl) (hbase : attributeBase o name X.env (eval o X.env) = eval o X.env := by rfl) (hline : (apos.endLine == pos.line) = true := by rfl) :
    JE X (.Call (.Attribute o name apos) [e] [] pos) (mBin (onStr f) mo me) := by
  obtain ⟨to, po, so⟩ := ho.ex
  obtain ⟨te, pe, se⟩ := he.ex
  refine ⟨_, pe_m1 slot ty rule po pe hst hbase hline, fun P F0 qc F cell S σ H Q z S' R hm k => ?_⟩
  unfold mBin at hm
  split at hm
  · cases hm
  · rename_i r1 S1 e1
    split at hm
    · cases hm
    · rename_i r2 S2 e2
      split at hm
      · rename_i d e hd he
        split at hm
        · rename_i z' hz
          cases hm
          cases d with
          | str a =>
            have hz : f a e = some z' := hz
            refine so P F0 qc F cell S σ H _ r1 S1 R e1 fun v1 F1 H1 s1 R1 q1 => ?_
            have q1' : r1 = .v (.str a) := by
              cases r1 with
              | v x => cases hd; rfl
              | p i =>
                obtain ⟨xs, _, hx⟩ := Option.map_eq_some_iff.mp (show (heldAt S' i).map PyData.list = some (.str a) from hd)
                cases hx
              | s ns => cases hd
            subst q1'
            cases (show DV X.K F1 v1 (.str a) from q1)
            refine ⟨⟨a, rfl⟩, se P F0 qc F1 cell S1 σ H1 _ r2 S' R1 e2 fun v2 F2 H2 s2 R2 q2 => ?_⟩
            refine hs F2 H2 a v2 _ z' Q R2.fh (R2.deref q2 he) hz fun v F' H' ex dv => ?_
            exact k v F' H' ((s1.trans s2).trans ex.f) (R2.ext ex) dv
          | _ => cases hz
        · cases hm
      · cases hm
theorem je_m0 (slot : Slot "str" name id) (ty : typeOf (.builtin id) = pure (.type "method_descriptor")) (rule : MtR X id r) (hs : MS0 X.K r f0) (ho : JE X o mo)
    (hbase : attributeBase o name X.env (eval o X.env) = eval o X.env := by rfl) (hline : (apos.endLine == pos.line) = true := by rfl) :
    JE X (.Call (.Attribute o name apos) [] [] pos) (mUn (onStr0 f0) mo) := by
  obtain ⟨to, po, so⟩ := ho.ex
  refine ⟨_, pe_m0 slot ty rule po hbase hline, fun P F0 qc F cell S σ H Q z S' R hm k => ?_⟩
  unfold mUn at hm
  split at hm
  · cases hm
  · rename_i r1 S1 e1
    split at hm
    · rename_i d hd
      split at hm
      · rename_i z' hz
        cases hm
        unfold onStr0 at hz
        split at hz
        · rename_i a
          refine so P F0 qc F cell S σ H _ r1 S' R e1 fun v1 F1 H1 s1 R1 q1 => ?_
          have q1' : r1 = .v (.str a) := by
            cases r1 with
            | v x => cases hd; rfl
            | p i =>
              obtain ⟨xs, _, hx⟩ := Option.map_eq_some_iff.mp (show (heldAt S' i).map PyData.list = some (.str a) from hd)
              cases hx
            | s ns => cases hd
          subst q1'
          cases (show DV X.K F1 v1 (.str a) from q1)
          refine ⟨⟨a, rfl⟩, ?_⟩
          refine hs F1 H1 a z' Q R1.fh hz fun v F' H' ex dv => ?_
          exact k v F' H' (s1.trans ex.f) (R1.ext ex) dv
        · cases hz
      · cases hm
    · cases hm
end
def joinF (a : Str) : PyData → Option PyData
  | .list ds => match strsOf ds with
    | some ys => if (ys.map (·.length)).sum + ys.length * a.length ≤ 100000 then some (.str (Txt.join a ys)) else none
    | none => none
  | .tuple ds => match strsOf ds with
    | some ys => if (ys.map (·.length)).sum + ys.length * a.length ≤ 100000 then some (.str (Txt.join a ys)) else none
    | none => none
  | _ => none
def splitF (a : Str) : PyData → Option PyData
  | .str b => if (b.length == 0) = false ∧ a.length ≤ 100000 then some (.list ((Txt.split a b).map .str)) else none
  | _ => none
def stripF (a : Str) : PyData → Option PyData
  | .str b => if a.length ≤ 100000 then some (.str (Txt.stripChars a b)) else none
  | _ => none
def rstripF (a : Str) : PyData → Option PyData
  | .str b => if a.length ≤ 100000 then some (.str (Txt.rstripChars a b)) else none
  | _ => none
def lstripF (a : Str) : PyData → Option PyData
  | .str b => if a.length ≤ 100000 then some (.str (Txt.lstripChars a b)) else none
  | _ => none
section
variable {K : PySem.W.Frag}
theorem ms_join : MS1 K (fun x xs H Q => ∃ a p, ∃ ys : List Str, x = .str a ∧ xs = [.ref p] ∧ (SqL K H p (ys.map V.str) ∨ SqT K H p (ys.map V.str)) ∧
    (ys.map (·.length)).sum + ys.length * a.length ≤ 16777216 ∧ Q (.str (Txt.join a ys)) H) joinF := by
  intro F H a y d z Q fh hy hf k
  unfold joinF at hf
  split at hf
  · split at hf
    · rename_i ys hys
      split at hf
      · rename_i hl
        cases hf
        obtain ⟨c, vs, rfl, h2, h3⟩ := hy.list fh
        rw [strsOf_some hys] at h3
        rw [DVs.strs ys h3] at h2
        exact ⟨a, c, ys, rfl, rfl, .inl (SqL.of h2), Nat.le_trans hl (by decide), k _ _ _ (Ext.refl fh) (.str _)⟩
      · cases hf
    · cases hf
  · split at hf
    · rename_i ys hys
      split at hf
      · rename_i hl
        cases hf
        obtain ⟨c, vs, rfl, h2, h3⟩ := hy.tuple
        rw [strsOf_some hys] at h3
        rw [DVs.strs ys h3] at h2
        exact ⟨a, c, ys, rfl, rfl, .inr (sqT_mono fh h2), Nat.le_trans hl (by decide), k _ _ _ (Ext.refl fh) (.str _)⟩
      · cases hf
    · cases hf
  · cases hf
theorem ms_split : MS1 K (fun x xs H Q => ∃ a b, x = .str a ∧ xs = [.str b] ∧ (b.length == 0) = false ∧ a.length + 2 ≤ sizeLine ∧ rNewStrs (Txt.split a b) H Q) splitF := by
  intro F H a y d z Q fh hy hf k
  unfold splitF at hf
  split at hf
  · split at hf
    · rename_i b hl
      cases hf
      rw [hy.str]
      have hz : a.length + 2 ≤ sizeLine := Nat.le_trans (Nat.add_le_add_right hl.2 2) (by decide)
      refine ⟨a, b, rfl, rfl, hl.1, hz, fun p hp => ?_⟩
      have ex : Ext F H (upd F p (.lst ((Txt.split a b).map V.str))) (upd H p (.lst ((Txt.split a b).map V.str))) := Ext.new fh hp
      exact k _ _ _ ex (.lst upd_same (DVs.ofStrs _))
    · cases hf
  · cases hf
theorem ms_strip : MS1 K (fun x xs H Q => ∃ a b, x = .str a ∧ xs = [.str b] ∧ a.length ≤ sizeLine ∧ Q (.str (Txt.stripChars a b)) H) stripF := by
  intro F H a y d z Q fh hy hf k
  unfold stripF at hf
  split at hf
  · split at hf
    · rename_i b hl
      cases hf
      rw [hy.str]
      exact ⟨a, b, rfl, rfl, small5 hl, k _ _ _ (Ext.refl fh) (.str _)⟩
    · cases hf
  · cases hf
theorem ms_rstrip : MS1 K (fun x xs H Q => ∃ a b, x = .str a ∧ xs = [.str b] ∧ a.length ≤ sizeLine ∧ Q (.str (Txt.rstripChars a b)) H) rstripF := by
  intro F H a y d z Q fh hy hf k
  unfold rstripF at hf
  split at hf
  · split at hf
    · rename_i b hl
      cases hf
      rw [hy.str]
      exact ⟨a, b, rfl, rfl, small5 hl, k _ _ _ (Ext.refl fh) (.str _)⟩
    · cases hf
  · cases hf
theorem ms_lstrip : MS1 K (fun x xs H Q => ∃ a b, x = .str a ∧ xs = [.str b] ∧ a.length ≤ sizeLine ∧ Q (.str (Txt.lstripChars a b)) H) lstripF := by
  intro F H a y d z Q fh hy hf k
  unfold lstripF at hf
  split at hf
  · split at hf
    · rename_i b hl
      cases hf
      rw [hy.str]
      exact ⟨a, b, rfl, rfl, small5 hl, k _ _ _ (Ext.refl fh) (.str _)⟩
    · cases hf
  · cases hf
end
section
variable {X : Cx} {o e : Expr} {mo me : ME} {apos pos : Pos}
theorem je_join (ho : JE X o mo) (he : JE X e me) (hst : starEach [e] X.env = [(false, eval e X.env)] := by rfl) (hbase : attributeBase o "join" X.env (eval o X.env) = eval o X.env := by rfl) (hline : (apos.endLine == pos.line) = true := by rfl) :
    JE X (.Call (.Attribute o "join" apos) [e] [] pos) (mBin (onStr joinF) mo me) := je_m1 F.slot_str_join F.type_str_join mt_join ms_join ho he hst hbase hline
theorem je_split (ho : JE X o mo) (he : JE X e me) (hst : starEach [e] X.env = [(false, eval e X.env)] := by rfl) (hbase : attributeBase o "split" X.env (eval o X.env) = eval o X.env := by rfl) (hline : (apos.endLine == pos.line) = true := by rfl) :
    JE X (.Call (.Attribute o "split" apos) [e] [] pos) (mBin (onStr splitF) mo me) := je_m1 F.slot_str_split F.type_str_split mt_split ms_split ho he hst hbase hline
theorem je_strip (ho : JE X o mo) (he : JE X e me) (hst : starEach [e] X.env = [(false, eval e X.env)] := by rfl) (hbase : attributeBase o "strip" X.env (eval o X.env) = eval o X.env := by rfl) (hline : (apos.endLine == pos.line) = true := by rfl) :
    JE X (.Call (.Attribute o "strip" apos) [e] [] pos) (mBin (onStr stripF) mo me) := je_m1 F.slot_str_strip F.type_str_strip mt_stripChars ms_strip ho he hst hbase hline
theorem je_rstrip (ho : JE X o mo) (he : JE X e me) (hst : starEach [e] X.env = [(false, eval e X.env)] := by rfl) (hbase : attributeBase o "rstrip" X.env (eval o X.env) = eval o X.env := by rfl) (hline : (apos.endLine == pos.line) = true := by rfl) :
    JE X (.Call (.Attribute o "rstrip" apos) [e] [] pos) (mBin (onStr rstripF) mo me) := je_m1 F.slot_str_rstrip F.type_str_rstrip mt_rstripChars ms_rstrip ho he hst hbase hline
theorem je_lstrip (ho : JE X o mo) (he : JE X e me) (hst : starEach [e] X.env = [(false, eval e X.env)] := by rfl) (hbase : attributeBase o "lstrip" X.env (eval o X.env) = eval o X.env := by rfl) (hline : (apos.endLine == pos.line) = true := by rfl) :
    JE X (.Call (.Attribute o "lstrip" apos) [e] [] pos) (mBin (onStr lstripF) mo me) := je_m1 F.slot_str_lstrip F.type_str_lstrip mt_lstripChars ms_lstrip ho he hst hbase hline
end

/-! ### isinstance -/
def tyName : PyData → String
  | .none => "NoneType"
  | .bool _ => "bool"
  | .int _ => "int"
  | .str _ => "str"
  | .list _ => "list"
  | .tuple _ => "tuple"
  | .dict _ => "dict"
def isiF (T : String) (d : PyData) : Option PyData := (kitB (tyName d) T).map .bool
section
variable {X : Cx} {e : Expr} {me : ME} {pos p p2 : Pos} {tn : Str} {T : String}
theorem dx_ty {K : PySem.W.Frag} {F H : Hp} {v : V} {d : PyData} (fh : Same F H) (h : DX K F H v d) : TyX K H v (.type (tyName d)) := by
  rcases h with h | ⟨a, vs, ds, rfl, rfl, h3, h4⟩
  · cases h with
    | non => exact .base .non
    | bl b => exact .base (.bl b)
    | int i => exact .base (.int i)
    | str x => exact .base (.str x)
    | lst h _ => exact .base (.lst (fh _ _ h))
    | tup h _ =>
      rcases h with (h | ⟨o, h⟩) | ⟨o, its, n, h1, h2, _⟩
      · exact .base (.tup (fh _ _ h))
      · exact .fTuple (fh _ _ h)
      · exact .kTuple h1 h2
    | dct h _ _ => exact .base (.dK (fh _ _ h))
  · exact .base (.lst h3)
theorem je_isi (T : String) (hm : X.mg "isinstance" = none) (hT : X.mg tn = none) (hv : bootBuiltins tn = some (.type T)) (he : JE X e me) (hg : Gl X "isinstance" := by rfl) (hgT : Gl X tn := by rfl) (hn : tn ≠ "__name__" := by decide) (hdb : (tn == ("__debug__" : Str)) = false := by decide)
    (hst : starEach [e, .Name tn p2] X.env = (false, eval e X.env) :: starEach [.Name tn p2] X.env := by rfl) (hpl : (backTo pos (starEach [.Name tn p2] X.env)).any (·.1) = false := by rfl) :
    JE X (.Call (.Name "isinstance" p) [e, .Name tn p2] [] pos) (mUn (isiF T) me) := by
  obtain ⟨te, pe, se⟩ := he.ex
  refine ⟨_, pe_callB call_isi hg hm (by decide +kernel) (pa_cons pe (pa_cons (pe_bltn (v := .ty T) hgT hT hv rfl hn hdb) pa_nil) hst) (by decide) (by decide) hst hpl, fun P F0 qc F cell S σ H Q z S' R hz k => ?_⟩
  unfold mUn at hz
  split at hz
  · cases hz
  · rename_i r1 S1 e1
    split at hz
    · rename_i d hd
      split at hz
      · rename_i z' hf
        cases hz
        refine se P F0 qc F cell S σ H _ r1 S' R e1 fun v1 F1 H1 s1 R1 q1 => ?_
        obtain ⟨b, hb, rfl⟩ := Option.map_eq_some_iff.mp hf
        exact ⟨v1, _, _, _, b, rfl, .ty T, dx_ty R1.fh (R1.deref q1 hd), kit_ty hb, k _ F1 H1 s1 R1 (.bl b)⟩
      · cases hz
    · cases hz
end

/-! ### repr -/
mutual
/-- told by the heap, every dict another one than sys.modules -/
inductive RdD (h : Heap) : Value → PyData → Prop
  | none : RdD h .none .none
  | bool (b) : RdD h (.bool b) (.bool b)
  | int (i t) : RdD h (.int i t) (.int i)
  | str (x t) : RdD h (.str x t) (.str x)
  | list {a o vs n xs} : h.get? a = some o → o.cls = .type "list" → o.data = .seq vs n → RdsD h vs.toList xs → RdD h (.ref a) (.list xs)
  | tuple {a o vs n xs} : h.get? a = some o → o.cls = .type "tuple" → o.data = .seq vs n → RdsD h vs.toList xs → RdD h (.ref a) (.tuple xs)
  | dict {a o} {es : Array DictEntry} {n} {kvs : List (PyData × PyData)} : h.get? a = some o → o.cls = .type "dict" → o.data = .dict es n → (a == sysModules) = false → RdsD h (es.toList.map (·.key)) (kvs.map (·.1)) → RdsD h (es.toList.map (·.val)) (kvs.map (·.2)) → RdD h (.ref a) (.dict kvs)
inductive RdsD (h : Heap) : List Value → List PyData → Prop
  | nil : RdsD h [] []
  | cons {v vs d ds} : RdD h v d → RdsD h vs ds → RdsD h (v :: vs) (d :: ds)
end
section
variable {prog : Program} {w : World} {h₀ : Heap}
mutual
theorem RdD.reads : ∀ {v : Value} {d : PyData}, RdD h₀ v d → ∃ as, Reads h₀ v d as
  | _, _, .none => ⟨_, .none⟩
  | _, _, .bool b => ⟨_, .bool b⟩
  | _, _, .int i t => ⟨_, .int i t⟩
  | _, _, .str x t => ⟨_, .str x t⟩
  | _, _, .list h1 h2 h3 h4 => let ⟨_, r⟩ := RdsD.reads h4; ⟨_, .list h1 h2 h3 r⟩
  | _, _, .tuple h1 h2 h3 h4 => let ⟨_, r⟩ := RdsD.reads h4; ⟨_, .tuple h1 h2 h3 r⟩
  | _, _, .dict h1 h2 h3 _ h4 h5 => let ⟨_, r⟩ := RdsD.reads h4; let ⟨_, r2⟩ := RdsD.reads h5; ⟨_, .dict h1 h2 h3 r r2⟩
theorem RdsD.reads : ∀ {vs : List Value} {ds : List PyData}, RdsD h₀ vs ds → ∃ as, ReadsAll h₀ vs ds as
  | _, _, .nil => ⟨_, .nil⟩
  | _, _, .cons h t => let ⟨_, r⟩ := RdD.reads h; let ⟨_, r2⟩ := RdsD.reads t; ⟨_, .cons r r2⟩
end
mutual
theorem RdD.reprK : ∀ {v : Value} {d : PyData}, RdD h₀ v d → d.showable = true → d.shown.length ≤ sizeLine → ∃ bs, ReadAtMost h₀ d.depth bs ∧ ReprK prog w bs h₀ d.depth v d.shown
  | _, _, .none, _, _ => ⟨[], (fun _ h => nomatch h), by simp only [PyData.shown]; exact .of_is ReprIs.none _ _ _⟩
  | _, _, .bool b, _, _ => ⟨[], (fun _ h => nomatch h), by simp only [PyData.shown]; exact .of_is (ReprIs.bool b) _ _ _⟩
  | _, _, .int i t, hs, _ => ⟨[], (fun _ h => nomatch h), by simp only [PyData.shown]; exact .of_is (ReprIs.int t (by simpa [PyData.showable] using hs)) _ _ _⟩
  | _, _, .str x t, _, hz => ⟨[], (fun _ h => nomatch h), by simp only [PyData.shown]; exact .of_is (ReprIs.str x t (by simpa only [PyData.shown] using hz)) _ _ _⟩
  | _, _, .list (a := a) (vs := vs) (xs := xs) h1 h2 h3 h4, hs, hz => by
    have hz' : (listText (PyData.shownAll xs)).length ≤ sizeLine := by simpa only [PyData.shown] using hz
    obtain ⟨bs, hb, hk⟩ := RdsD.reprK h4 (by simpa [PyData.showable] using hs) (fun t ht => Nat.le_trans (listText_mem_le ht) hz')
    obtain ⟨as, r4⟩ := RdsD.reads h4
    have r : Reads h₀ (.ref a) (.list xs) _ := .list h1 h2 h3 r4
    have hna : a ∉ bs := not_mem_of_deeper r (by simp only [PyData.depth]; omega) hb
    refine ⟨a :: bs, ReadAtMost.cons r (by simp only [PyData.depth]; omega) hb, ?_⟩
    simp only [PyData.depth, PyData.shown]
    obtain ⟨l⟩ := vs
    cases l with
    | nil =>
      have h4' : RdsD h₀ [] xs := h4
      cases h4'
      simp only [PyData.shownAll, listText_nil]
      exact ReprK.listEmpty h1 h2 h3
    | cons x l => exact ReprK.list h1 h2 h3 hna (by simpa using hk.length_eq) (fun i y e => hk.item i y (by simpa using e))
  | _, _, .tuple (a := a) (xs := xs) h1 h2 h3 h4, hs, hz => by
    have hz' : (tupleText (PyData.shownAll xs)).length ≤ sizeLine := by simpa only [PyData.shown] using hz
    obtain ⟨bs, hb, hk⟩ := RdsD.reprK h4 (by simpa [PyData.showable] using hs) (fun t ht => Nat.le_trans (tupleText_mem_le ht) hz')
    obtain ⟨as, r4⟩ := RdsD.reads h4
    have r : Reads h₀ (.ref a) (.tuple xs) _ := .tuple h1 h2 h3 r4
    have hna : a ∉ bs := not_mem_of_deeper r (by simp only [PyData.depth]; omega) hb
    refine ⟨a :: bs, ReadAtMost.cons r (by simp only [PyData.depth]; omega) hb, ?_⟩
    simp only [PyData.depth, PyData.shown]
    exact ReprK.tuple h1 h2 h3 hna hk
  | _, _, .dict (a := a) (es := es) (kvs := kvs) h1 h2 h3 hsys h4 h5, hs, hz => by
    have hz' : (dictText (PyData.shownKv kvs)).length ≤ sizeLine := by simpa only [PyData.shown] using hz
    obtain ⟨hs1, hs2⟩ := PyData.showableKv_split kvs (by simpa [PyData.showable] using hs)
    obtain ⟨b1, hb1, k1⟩ := RdsD.reprK h4 hs1 (fun t ht => let ⟨p, hp, hl⟩ := PyData.shownKv_key_le kvs t ht; Nat.le_trans hl (Nat.le_trans (dictText_mem_le hp) hz'))
    obtain ⟨b2, hb2, k2⟩ := RdsD.reprK h5 hs2 (fun t ht => let ⟨p, hp, hl⟩ := PyData.shownKv_val_le kvs t ht; Nat.le_trans hl (Nat.le_trans (dictText_mem_le hp) hz'))
    obtain ⟨as, r4⟩ := RdsD.reads h4
    obtain ⟨as2, r5⟩ := RdsD.reads h5
    have r : Reads h₀ (.ref a) (.dict kvs) _ := .dict h1 h2 h3 r4 r5
    have hb : ReadAtMost h₀ (PyData.depthKv kvs) (b1 ++ b2) := (hb1.mono (PyData.depthAll_keys_le kvs)).append (hb2.mono (PyData.depthAll_vals_le kvs))
    have hna : a ∉ b1 ++ b2 := not_mem_of_deeper r (by simp only [PyData.depth]; omega) hb
    refine ⟨a :: (b1 ++ b2), ReadAtMost.cons r (by simp only [PyData.depth]; omega) hb, ?_⟩
    simp only [PyData.depth, PyData.shown, PyData.shownKv_eq]
    exact ReprK.dict h1 h2 h3 hsys hna (ReprEntriesK.of_two es.toList _ _
      (k1.more_le (fun b hb => List.mem_append_left _ hb) (PyData.depthAll_keys_le kvs)) (k2.more_le (fun b hb => List.mem_append_right _ hb) (PyData.depthAll_vals_le kvs)))
theorem RdsD.reprK : ∀ {vs : List Value} {ds : List PyData}, RdsD h₀ vs ds → PyData.showableAll ds = true → (∀ t ∈ PyData.shownAll ds, t.length ≤ sizeLine) →
    ∃ bs, ReadAtMost h₀ (PyData.depthAll ds) bs ∧ ReprAllK prog w bs h₀ (PyData.depthAll ds) vs (PyData.shownAll ds)
  | _, _, .nil, _, _ => ⟨[], (fun _ h => nomatch h), by simp only [PyData.shownAll]; exact .nil⟩
  | _, _, .cons (d := d) (ds := ds) r rs, hs, hz => by
    have hs' : d.showable = true ∧ PyData.showableAll ds = true := by simpa [PyData.showableAll] using hs
    obtain ⟨b1, hb1, k1⟩ := RdD.reprK r hs'.1 (hz _ (by simp only [PyData.shownAll]; exact List.mem_cons_self ..))
    obtain ⟨b2, hb2, k2⟩ := RdsD.reprK rs hs'.2 (fun t ht => hz t (by simp only [PyData.shownAll]; exact List.mem_cons_of_mem _ ht))
    refine ⟨b1 ++ b2, ?_, ?_⟩
    · simp only [PyData.depthAll]
      exact (hb1.mono (Nat.le_max_left _ _)).append (hb2.mono (Nat.le_max_right _ _))
    · simp only [PyData.depthAll, PyData.shownAll]
      exact .cons ((k1.more fun b hb => List.mem_append_left _ hb).level_le (Nat.le_max_left _ _)) (k2.more_le (fun b hb => List.mem_append_right _ hb) (Nat.le_max_right _ _))
end
end
end VL

set_option Elab.async false
set_option linter.all false
set_option maxRecDepth 100000
set_option maxHeartbeats 4000000
/-! VL6: repr as a call; a text backwards; written dicts of one entry. -/
namespace VL
open PySem PySem.Spec PyProof.Rows L2
section
variable {prog : Program} {w : World} {h₀ : Heap}
theorem call_repr_rd {A : Around} {E : Value → Shared → Prop} {s : Shared} {Q : Value → Shared → Prop} : ∀ {u : Value} {d : PyData}, RdD s.heap u d → d.showable = true → d.shown.length ≤ sizeLine → A.guards = some [] → A.units + (d.depth + 1) < cLine →
    (∀ h' t tk, (∀ b o, s.heap.get? b = some o → h'.get? b = some o) → Q (.str d.shown t) { s with heap := h', toks := tk }) → wpAny (model prog w) A (call (.builtin "repr") [u]) Q E s
  | _, _, .none, _, _, _, _, hQ => by
    simp only [PyData.shown] at hQ
    exact PySem.P.repr_of_none (hQ s.heap _ _ fun _ _ e => e)
  | _, _, .bool b, _, _, _, _, hQ => by
    simp only [PyData.shown] at hQ
    exact PySem.P.repr_of_bool (hQ s.heap _ _ fun _ _ e => e)
  | _, _, .int i t, hs, _, _, _, hQ => by
    simp only [PyData.shown] at hQ
    exact PySem.P.repr_of_int (by simpa [PyData.showable] using hs) (hQ s.heap _ _ fun _ _ e => e)
  | _, _, .str x t, _, hz, _, _, hQ => by
    simp only [PyData.shown] at hQ
    exact PySem.P.repr_of_str (hQ s.heap _ _ fun _ _ e => e) (by simpa only [PyData.shown] using hz)
  | _, _, .list (a := a) (o := o) (vs := vs) (xs := xs) h1 h2 h3 h4, hs, hz, hg, hu, hQ => by
    have hz' : (listText (PyData.shownAll xs)).length ≤ sizeLine := by simpa only [PyData.shown] using hz
    obtain ⟨bs, hb, hk⟩ := RdsD.reprK (prog := prog) (w := w) h4 (by simpa [PyData.showable] using hs) (fun t ht => Nat.le_trans (listText_mem_le ht) hz')
    obtain ⟨as, r4⟩ := RdsD.reads h4
    have r : Reads s.heap (.ref a) (.list xs) _ := .list h1 h2 h3 r4
    have hna : a ∉ bs := not_mem_of_deeper r (by simp only [PyData.depth]; omega) hb
    simp only [PyData.depth] at hu
    simp only [PyData.shown] at hQ
    have hui : A.in1.units + (PyData.depthAll xs + 1) < cLine := by show A.units + 1 + (PyData.depthAll xs + 1) < cLine; omega
    refine call_repr_slot (by omega) ⟨o, h1, h2⟩ F.slot_list_repr.toG ?_
    obtain ⟨l⟩ := vs
    cases l with
    | nil =>
      have h4' : RdsD s.heap [] xs := h4
      cases h4'
      simp only [PyData.shownAll, listText_nil] at hQ
      exact call_list_repr_empty ⟨o, h1, h2⟩ h1 h3 ⟨_, _, rfl, hQ s.heap _ _ fun _ _ e => e⟩
    | cons x l =>
      exact call_list_reprK h1 h2 h3 hna (by simpa using hk.length_eq) (fun i y e => hk.item i y (by simpa using e)) (show A.in1.guards = some [] from hg) (fun b _ => Clear.nil b) hui (fun _ _ e => e) (fun h' u tk hk' => ⟨_, _, rfl, hQ h' u tk hk'⟩) hz'
  | _, _, .tuple (a := a) (o := o) (xs := xs) h1 h2 h3 h4, hs, hz, hg, hu, hQ => by
    have hz' : (tupleText (PyData.shownAll xs)).length ≤ sizeLine := by simpa only [PyData.shown] using hz
    obtain ⟨bs, hb, hk⟩ := RdsD.reprK (prog := prog) (w := w) h4 (by simpa [PyData.showable] using hs) (fun t ht => Nat.le_trans (tupleText_mem_le ht) hz')
    obtain ⟨as, r4⟩ := RdsD.reads h4
    have r : Reads s.heap (.ref a) (.tuple xs) _ := .tuple h1 h2 h3 r4
    have hna : a ∉ bs := not_mem_of_deeper r (by simp only [PyData.depth]; omega) hb
    simp only [PyData.depth] at hu
    simp only [PyData.shown] at hQ
    have hui : A.in1.units + (PyData.depthAll xs + 1) < cLine := by show A.units + 1 + (PyData.depthAll xs + 1) < cLine; omega
    refine call_repr_slot (by omega) ⟨o, h1, h2⟩ F.slot_tuple_repr ?_
    exact call_tuple_reprK h1 h2 h3 hna hk (show A.in1.guards = some [] from hg) (fun b _ => Clear.nil b) hui (fun _ _ e => e) (fun h' u tk hk' => ⟨_, _, rfl, hQ h' u tk hk'⟩) hz'
  | _, _, .dict (a := a) (o := o) (es := es) (kvs := kvs) h1 h2 h3 hsys h4 h5, hs, hz, hg, hu, hQ => by
    have hz' : (dictText (PyData.shownKv kvs)).length ≤ sizeLine := by simpa only [PyData.shown] using hz
    obtain ⟨hs1, hs2⟩ := PyData.showableKv_split kvs (by simpa [PyData.showable] using hs)
    obtain ⟨b1, hb1, k1⟩ := RdsD.reprK (prog := prog) (w := w) h4 hs1 (fun t ht => let ⟨p, hp, hl⟩ := PyData.shownKv_key_le kvs t ht; Nat.le_trans hl (Nat.le_trans (dictText_mem_le hp) hz'))
    obtain ⟨b2, hb2, k2⟩ := RdsD.reprK (prog := prog) (w := w) h5 hs2 (fun t ht => let ⟨p, hp, hl⟩ := PyData.shownKv_val_le kvs t ht; Nat.le_trans hl (Nat.le_trans (dictText_mem_le hp) hz'))
    obtain ⟨as, r4⟩ := RdsD.reads h4
    obtain ⟨as2, r5⟩ := RdsD.reads h5
    have r : Reads s.heap (.ref a) (.dict kvs) _ := .dict h1 h2 h3 r4 r5
    have hb : ReadAtMost s.heap (PyData.depthKv kvs) (b1 ++ b2) := (hb1.mono (PyData.depthAll_keys_le kvs)).append (hb2.mono (PyData.depthAll_vals_le kvs))
    have hna : a ∉ b1 ++ b2 := not_mem_of_deeper r (by simp only [PyData.depth]; omega) hb
    simp only [PyData.depth] at hu
    simp only [PyData.shown, PyData.shownKv_eq] at hQ
    have hui : A.in1.units + (PyData.depthKv kvs + 1) < cLine := by show A.units + 1 + (PyData.depthKv kvs + 1) < cLine; omega
    refine call_repr_slot (by omega) ⟨o, h1, h2⟩ F.slot_dict_repr ?_
    exact call_dict_reprK h1 h2 h3 hsys hna (ReprEntriesK.of_two es.toList _ _
      (k1.more_le (fun b hb => List.mem_append_left _ hb) (PyData.depthAll_keys_le kvs)) (k2.more_le (fun b hb => List.mem_append_right _ hb) (PyData.depthAll_vals_le kvs))) (show A.in1.guards = some [] from hg) (fun b _ => Clear.nil b) hui (fun _ _ e => e) (fun h' u tk hk' => ⟨_, _, rfl, hQ h' u tk hk'⟩) (by rw [← PyData.shownKv_eq]; exact hz')
end
section
variable {X : Cx} {pins : List (Addr × Obj)} {σ : L2.St} {H : Hp} {s : Shared}
theorem key_rel {k : Key} {u : Value} (h : keyIs k u = true) : RelV (kV k) u := by
  rcases keyIs_shape h with ⟨i, t, rfl, rfl⟩ | ⟨x, t, rfl, rfl⟩
  · exact ⟨t, rfl⟩
  · exact ⟨t, rfl⟩
theorem pairs_vals {prog : Program} {w : World} : ∀ {es : List DictEntry} {kvs : List (Key × V)} {vs : List (Key × Value)}, PySem.Pairs (mixKind prog w) es vs → KV kvs vs → Vals (kvs.map fun p => kV p.1) (es.map (·.key)) ∧ Vals (kvs.map fun p => p.2) (es.map (·.val))
  | [], _, _, .nil, .nil => ⟨.nil, .nil⟩
  | e :: es, _, _, .cons h1 h2 h3, .cons r t => by
    obtain ⟨a, b⟩ := pairs_vals h3 t
    obtain ⟨r1, r2⟩ := r
    refine ⟨.cons ?_ a, .cons ?_ b⟩
    · show RelV (kV _) _
      rw [r1]
      exact key_rel h1
    · show RelV _ e.val
      rw [h2]
      exact r2
mutual
theorem DV.rd (I : Inv X pins σ H s) : ∀ {v : V} {d : PyData} {u : Value}, DV X.K H v d → RelV v u → RdD s.heap u d
  | _, _, _, .non, r => by
    cases r
    exact .none
  | _, _, _, .bl b, r => by
    cases r
    exact .bool b
  | _, _, _, .int i, r => by
    obtain ⟨t, rfl⟩ := r
    exact .int i t
  | _, _, _, .str x, r => by
    obtain ⟨t, rfl⟩ := r
    exact .str x t
  | _, _, _, .lst h hs, r => by
    cases r
    obtain ⟨its, rv, ⟨o, n, ho, hc, _, hd⟩, _⟩ := I.list (SqL.of h)
    exact .list ho hc hd (DVs.rd I hs rv)
  | _, _, _, .tup h hs, r => by
    cases r
    obtain ⟨its, rv, ⟨o, ho, hc, n, hd⟩, _⟩ := I.tuple h
    exact .tuple ho hc hd (DVs.rd I hs rv)
  | _, _, _, .dct (kvs := kvs) (ks := ks) (es := es') h h1 h2, r => by
    cases r
    obtain ⟨_, hd, vs, rel, o, es, ep, ho, hx, hde, _, hp, _⟩ := dk_of I.hok h
    obtain ⟨p1, p2⟩ := pairs_vals hp rel
    have l1 := h1.length
    have l2 := h2.length
    rw [List.length_map] at l1 l2
    have q1 := DVs.rd I h1 p1
    have q2 := DVs.rd I h2 p2
    refine .dict ho hx.1 hde hd ?_ ?_
    · rw [List.map_fst_zip (by omega)]
      exact q1
    · rw [List.map_snd_zip (by omega)]
      exact q2
theorem DVs.rd (I : Inv X pins σ H s) : ∀ {vs : List V} {ds : List PyData} {us : List Value}, DVs X.K H vs ds → Vals vs us → RdsD s.heap us ds
  | _, _, _, .nil, .nil => .nil
  | _, _, _, .cons h t, .cons r rs => .cons (DV.rd I h r) (DVs.rd I t rs)
end
end
def rRepr (K : PySem.W.Frag) : List V → Hp → VK → Prop := fun xs H Q => ∃ v d, xs = [v] ∧ DV K H v d ∧ d.showable = true ∧ d.shown.length ≤ sizeLine ∧ d.depth ≤ 60 ∧ Q (.str d.shown) H
theorem call_reprD {X : Cx} (gd : X.A.guards = some []) (hu : X.A.units + 64 < cLine) : CallR X (.builtin "repr") (rRepr X.K) := by
  intro pins s σ H xs us Q I r h
  obtain ⟨v, d, rfl, hd, hs, hz, hp, q⟩ := h
  obtain ⟨u, rfl, r1⟩ := vals1 r
  exact call_repr_rd (DV.rd I hd r1) hs hz gd (by omega) fun h' t tk hk => ⟨.str _, H, I.kept hk, ⟨t, rfl⟩, q⟩
def reprF : List PyData → Option PyData
  | [d] => if d.showable = true ∧ d.shown.length ≤ 1000000 ∧ d.depth ≤ 60 then some (.str d.shown) else none
  | _ => none
theorem cs_repr {K : PySem.W.Frag} : CS K (rRepr K) reprF := by
  intro F H xs ds z Q fh hx hf k
  unfold reprF at hf
  split at hf
  · split at hf
    · rename_i d hl
      cases hf
      obtain ⟨v, rfl, h1⟩ := dxs1 hx
      exact ⟨v, d, rfl, h1.dv fh, hl.1, Nat.le_trans hl.2.1 (by decide), hl.2.2, k _ _ _ (Ext.refl fh) (.str _)⟩
    · cases hf
  · cases hf
section
variable {X : Cx} {e : Expr} {mas : MA} {pos p : Pos}
theorem je_repr {k : Nat} (gd : X.A.guards = some []) (hr : Room k X.A) (hm : X.mg "repr" = none) (ha : JA X [e] mas) (hg : Gl X "repr" := by rfl) (he : starEach [e] X.env = (false, eval e X.env) :: starEach [] X.env := by rfl) (hpl : (backTo pos (starEach [] X.env)).any (·.1) = false := by rfl) :
    JE X (.Call (.Name "repr" p) [e] [] pos) (mCall reprF mas) := je_callB (call_reprD gd hr.units) cs_repr hm (by decide +kernel) ha hg (by decide) (by decide) he hpl
end

/-! ### a text backwards -/
def revS (z : Str) : Str := ⟨z.cps.toList.reverse.toArray⟩
def revF : PyData → Option PyData
  | .str z => if z.length ≤ 100000 then some (.str (revS z)) else none
  | _ => none
theorem strSlice_rev (z : Str) : ((Builtin.Str.strSliceIndices none none (-1) z.length).filterMap (z.cps[·]?)).toArray = (revS z).cps := by
  have e : Builtin.Str.strSliceIndices none none (-1) z.length = sliceRange ((z.cps.size : Int) - 1) (-1) (-1) := by
    unfold Builtin.Str.strSliceIndices
    rfl
  rw [e, PySem.W.krv_sliceRange, PySem.W.krv_range, List.filterMap_reverse, PySem.W.krv_all]
  rfl
def tRevS (te : TE) : TE := fun σ H Q => te σ H fun x H1 => ∃ z, x = .str z ∧ z.length ≤ sizeLine ∧ Q (.str (revS z)) H1
theorem pe_revS {X : Cx} {e : Expr} {te : TE} {k : Nat} {p1 p2 p3 pos : Pos} (he : PE X e te) : PE X (.Subscript e (.Slice none none (some (.UnaryOp .USub (.Constant (.int 1) k p1) p2)) p3) pos) (tRevS te) := by
  refine ⟨fun pins s σ H Q I h => ?_⟩
  refine Subscript_ (thn (he.run pins s σ H _ I h) fun v s1 ⟨x, H1, I1, r1, q1⟩ => ?_)
  obtain ⟨z, ex, hz, q⟩ := q1
  subst ex
  obtain ⟨t, rfl⟩ := r1
  have hst : PO X (some (.UnaryOp .USub (.Constant (.int 1) k p1) p2)) (tPart (tUn (rU fun i => .int (-i)) (tC (.int 1)))) := po_some (pe_un un_neg pe_int)
  refine wpAny_Slice (thn (po_none.run pins s1 σ H1 (fun o H2 => o = none ∧ H2 = H1) I1 ⟨rfl, rfl⟩) fun vl s2 ⟨l, H2, I2, pl, el, e2⟩ => ?_)
  subst el e2
  refine thn (po_none.run pins s2 σ H2 (fun o H3 => o = none ∧ H3 = H2) I2 ⟨rfl, rfl⟩) fun vu s3 ⟨u, H3, I3, pu, eu, e3⟩ => ?_
  subst eu e3
  refine thn (hst.run pins s3 σ H3 (fun o H4 => o = some (-1) ∧ H4 = H3) I3 ⟨1, rfl, -1, rfl, rfl, rfl⟩) fun vs s4 ⟨o, H4, I4, ps, eo, e4⟩ => ?_
  subst eo e4
  have I5 : Inv X pins σ H4 { s4 with heap := s4.heap.push { cls := .type "slice", data := .fields #[vl, vu, vs] } } := I4.kept (t' := s4.toks) fun b ob q => Heap.get?_push_of_some _ q
  obtain ⟨l, rfl, hl⟩ := IsPart.raw pl
  obtain ⟨u, rfl, hu⟩ := IsPart.raw pu
  obtain ⟨st, rfl, hst'⟩ := IsPart.raw ps
  show wpAny (model X.prog X.w) X.A (subscriptTail e (.Slice none none (some (.UnaryOp .USub (.Constant (.int 1) k p1) p2)) p3) (.str z t) (.ref s4.heap.objs.size)) (EP X pins σ Q) X.xe { s4 with heap := s4.heap.push { cls := .type "slice", data := .fields #[partValue l, partValue u, partValue st] } }
  refine tail_any (ops := [.str z t, .ref s4.heap.objs.size]) (typeIs_str _ _ _) F.slot_str_getitem.lookup ?_ (by with_unfolding_all rfl)
  refine wpAny_getItem_str_slice (l := l) (u := u) (st := st) ⟨_, Heap.get?_push_size _ rfl, rfl, rfl⟩ (by rw [hst']; rfl) ?_
  unfold sliceMade slicePicked
  rw [hl, hu, hst']
  show Made.post (if ((-1 : Int) == 1 && _) = true then Made.val (.str z t) else Made.str ⟨((Builtin.Str.strSliceIndices none none (-1) z.length).filterMap (z.cps[·]?)).toArray⟩) (EP X pins σ Q) _
  rw [if_neg (by simp), strSlice_rev]
  have hlen : (revS z).length ≤ sizeLine := by
    show z.cps.toList.reverse.toArray.size ≤ sizeLine
    have : z.cps.toList.reverse.toArray.size = z.length := by simp; rfl
    omega
  exact ⟨hlen, .str _, H4, I5.tok _, ⟨_, rfl⟩, q⟩
section
variable {X : Cx} {e : Expr} {me : ME}
theorem je_rev {k : Nat} {p1 p2 p3 pos : Pos} (he : JE X e me) : JE X (.Subscript e (.Slice none none (some (.UnaryOp .USub (.Constant (.int 1) k p1) p2)) p3) pos) (mUn revF me) := by
  obtain ⟨te, pe, se⟩ := he.ex
  refine ⟨_, pe_revS pe, fun P F0 qc F cell S σ H Q z S' R hm k => ?_⟩
  unfold mUn at hm
  split at hm
  · cases hm
  · rename_i r1 S1 e1
    split at hm
    · rename_i d hd
      split at hm
      · rename_i z' hz
        cases hm
        unfold revF at hz
        split at hz
        · split at hz
          · rename_i zz hl
            cases hz
            refine se P F0 qc F cell S σ H _ r1 S' R e1 fun v1 F1 H1 s1 R1 q1 => ?_
            exact ⟨_, (R1.deref q1 hd).str, small5 hl, k _ F1 H1 s1 R1 (.str _)⟩
          · cases hz
        · cases hz
      · cases hm
    · cases hm
end
end VL

set_option Elab.async false
set_option linter.all false
set_option maxRecDepth 100000
set_option maxHeartbeats 4000000
/-! VL7: objects on the way (guarded), written dicts, calls of defs by their functions. -/
namespace VL
open PySem PySem.Spec PyProof.Rows L2
section
variable {K : PySem.W.Frag} {P F0 F F' : Hp} {qc cell : Nat → Addr} {S : Sl} {σ : L2.St} {H H' : Hp} {p : Addr} {o o' : HO}
/-- no slot's own list stands at p -/
def Apart (S : Sl) (cell : Nat → Addr) (p : Addr) : Prop := ∀ (i : Nat) (x : SL), S[i]? = some (some x) → x.held.isSome = true → cell i ≠ p
theorem RC.apart_new (R : RC K P F0 qc F cell S σ H) (hp : H p = none) : Apart S cell p := fun i x h hx e => by
  obtain ⟨xs, hx'⟩ := Option.isSome_iff_exists.mp hx
  obtain ⟨_, _, _, vs, h4, _⟩ := R.cl i x xs h hx'
  rw [e, hp] at h4
  cases h4
/-- a new object on the way: it must stay, it is not told -/
theorem RC.lay (R : RC K P F0 qc F cell S σ H) (hp : H p = none) : RC K (upd P p o) F0 qc F cell S σ (upd H p o) where
  len := R.len
  f0 := R.f0
  fh := R.fh.trans (same_new hp)
  ph := same_upd2 R.ph
  fr := fun b z => by
    by_cases q : b = p
    · subst q
      exact absurd (R.fh.free hp) z
    · rcases R.fr b z with z | z
      · exact .inl z
      · exact .inr (by rw [upd_ne q]; exact z)
  vl := R.vl
  sc := R.sc
  cl := fun i x xs h hx => by
    obtain ⟨h1, h2, h3, vs, h4, h5⟩ := R.cl i x xs h hx
    have ne : cell i ≠ p := R.apart_new hp i x h (by rw [hx]; rfl)
    exact ⟨h1, h2, by rw [upd_ne ne]; exact h3, vs, by rw [upd_ne ne]; exact h4, h5⟩
  qs := R.qs
  inj := R.inj
theorem RC.laid_at (R : RC K (upd P p o) F0 qc F cell S σ H) : H p = some o := R.ph p o upd_same
theorem RC.laid_apart (R : RC K (upd P p o) F0 qc F cell S σ H) : Apart S cell p := fun i x h hx e => by
  obtain ⟨xs, hx'⟩ := Option.isSome_iff_exists.mp hx
  obtain ⟨_, _, h3, _⟩ := R.cl i x xs h hx'
  rw [e, upd_same] at h3
  cases h3
theorem RC.laid_untold (R : RC K (upd P p o) F0 qc F cell S σ H) (hp : F0 p = none) : F p = none := by
  cases q : F p with
  | none => rfl
  | some u =>
    rcases R.fr p (by rw [q]; simp) with z | z
    · exact absurd hp z
    · rw [upd_same] at z; cases z
/-- it is told from now on, as o' -/
theorem RC.adopt (R : RC K (upd P p o) F0 qc F cell S σ H) (hp : F0 p = none) (hP : P p = none) : RC K P F0 qc (upd F p o') cell S σ (upd H p o') ∧ Same F (upd F p o') := by
  have hF := R.laid_untold hp
  have sF : Same F (upd F p o') := same_new hF
  have ap := R.laid_apart
  refine ⟨⟨R.len, R.f0.trans sF, same_upd2 R.fh, fun b u e => ?_, fun b z => ?_, fun i d h => ?_, fun i ns h => ?_, fun i x xs h hx => ?_, R.qs, R.inj⟩, sF⟩
  · have ne : b ≠ p := fun q => by subst q; rw [hP] at e; cases e
    rw [upd_ne ne]
    exact R.ph b u (by rw [upd_ne ne]; exact e)
  · by_cases q : b = p
    · subst q
      exact .inr hP
    · rw [upd_ne q] at z
      rcases R.fr b z with z | z
      · exact .inl z
      · rw [upd_ne q] at z
        exact .inr z
  · obtain ⟨v, h1, h2⟩ := R.vl i d h
    exact ⟨v, h1, h2.mono sF⟩
  · obtain ⟨a, h1, h2⟩ := R.sc i ns h
    exact ⟨a, h1, h2.mono sF⟩
  · obtain ⟨h1, h2, h3, vs, h4, h5⟩ := R.cl i x xs h hx
    have ne := ap i x h (by rw [hx]; rfl)
    rw [upd_ne ne] at h3
    exact ⟨h1, by rw [upd_ne ne]; exact h2, h3, vs, by rw [upd_ne ne]; exact h4, h5.mono sF⟩
/-- changed on the way -/
theorem RC.relay (R : RC K (upd P p o) F0 qc F cell S σ H) (hp : F0 p = none) : RC K (upd P p o') F0 qc F cell S σ (upd H p o') := by
  have hF := R.laid_untold hp
  have ap := R.laid_apart
  refine ⟨R.len, R.f0, fun b u e => ?_, fun b u e => ?_, fun b z => ?_, R.vl, R.sc, fun i x xs h hx => ?_, R.qs, R.inj⟩
  · have ne : b ≠ p := fun q => by subst q; rw [hF] at e; cases e
    rw [upd_ne ne]
    exact R.fh b u e
  · by_cases q : b = p
    · subst q
      rw [upd_same] at e ⊢
      exact e
    · rw [upd_ne q] at e ⊢
      exact R.ph b u (by rw [upd_ne q]; exact e)
  · rcases R.fr b z with z | z
    · exact .inl z
    · by_cases q : b = p
      · subst q
        rw [upd_same] at z; cases z
      · rw [upd_ne q] at z ⊢
        exact .inr z
  · obtain ⟨h1, h2, h3, vs, h4, h5⟩ := R.cl i x xs h hx
    have ne := ap i x h (by rw [hx]; rfl)
    rw [upd_ne ne] at h3
    exact ⟨h1, h2, by rw [upd_ne ne]; exact h3, vs, by rw [upd_ne ne]; exact h4, h5⟩
end

/-! ### {}, {'k': e} -/
def mDict1 (z : Str) (me : ME) : ME := fun S => match me S with
  | none => none
  | some (r, S1) => match stable r with
    | some d => some (.v (.dict [(.str z, d)]), S1)
    | none => none
section
variable {X : Cx} {e : Expr} {me : ME} {pos p1 : Pos}
theorem je_dict0 : JE X (.Dict [] [] pos) (mC (.dict [])) := by
  refine ⟨_, pe_dnewK, fun P F0 qc F cell S σ H Q z S' R hm k => ?_⟩
  cases hm
  intro p hp
  have ex : Ext F H (upd F p (.dK [])) (upd H p (.dK [])) := Ext.new R.fh hp
  exact k _ _ _ ex.f (R.ext ex) (.dct (kvs := []) (ks := []) (es := []) upd_same .nil .nil)
theorem je_dict1 {z : Str} {j} (he : JE X e me) : JE X (.Dict [some (.Constant (.str z) j p1)] [e] pos) (mDict1 z me) := by
  obtain ⟨te, pe, se⟩ := he.ex
  refine ⟨_, pe_disp (pps_cons pe_str pe pps_nil) (by rfl) (by rfl) (fun z => by cases z) (by show 1 ≤ 15; decide), fun P F0 qc F cell S σ H Q r S' R hm k => ?_⟩
  unfold mDict1 at hm
  split at hm
  · cases hm
  · rename_i r1 S1 e1
    split at hm
    · rename_i d hd
      cases hm
      intro p hp
      show te σ (upd H p (.dK [])) _
      refine se (upd P p (.dK [])) F0 qc F cell S σ _ _ r1 S' (R.lay hp) e1 fun v1 F1 H1 s1 R1 q1 => ?_
      have hF0 : F0 p = none := (R.f0.trans R.fh).free hp
      have hP : P p = none := R.ph.free hp
      have q1' : DV X.K F1 v1 d := by
        cases r1 with
        | v d' => cases hd; exact q1
        | p i => cases hd
        | s ns => cases hd
      refine ⟨R1.laid_at, [(.inr z, v1)], rfl, by show 1 ≤ 15; decide, ?_⟩
      obtain ⟨R2, s2⟩ := R1.adopt (o' := .dK (mergeK [] [(.inr z, v1)])) hF0 hP
      refine k _ _ _ (s1.trans s2) R2 ?_
      exact .dct (kvs := [(.inr z, v1)]) (ks := [.str z]) (es := [d]) upd_same (.cons (.str z) .nil) (.cons (q1'.mono s2) .nil)
    · cases hm
end

/-! ### a def's function: its arguments in, its value and the lent lists out -/
abbrev MF := List SL → Option (PyData × List SL)
def ArgR (K : PySem.W.Frag) (F H : Hp) : SL → V → Prop
  | .v d, v => DV K F v d
  | .q xs, v => ∃ c ws, v = .ref c ∧ F c = none ∧ H c = some (.lst ws) ∧ DVs K F ws xs
  | .s o, v => OR K F o v
  | .c _, _ => False
structure Fits (K : PySem.W.Frag) (F H : Hp) (as : List SL) (vs : List V) : Prop where
  len : vs.length = as.length
  arg : ∀ (j : Nat) (a : SL), as[j]? = some a → ∃ v, vs[j]? = some v ∧ ArgR K F H a v
  dist : ∀ (i j : Nat) (x y : List PyData) (c : Addr), as[i]? = some (.q x) → as[j]? = some (.q y) → vs[i]? = some (.ref c) → vs[j]? = some (.ref c) → i = j
structure Back (K : PySem.W.Frag) (F H F' H' : Hp) (as : List SL) (vs : List V) (as' : List SL) (v : V) (d : PyData) : Prop where
  f : Same F F'
  fh : Same F' H'
  keep : ∀ b o, H b = some o → (∀ (j : Nat) (xs : List PyData), as[j]? = some (.q xs) → vs[j]? ≠ some (.ref b)) → H' b = some o
  fr : ∀ b, F' b ≠ none → F b ≠ none ∨ H b = none
  dv : DV K F' v d
  qs : ∀ (j : Nat) (xs : List PyData), as'[j]? = some (.q xs) → ∃ c ws, vs[j]? = some (.ref c) ∧ H' c = some (.lst ws) ∧ DVs K F' ws xs
/-- the promise of a def that is m -/
def spM (K : PySem.W.Frag) (n : Nat) (m : MF) : Sp := fun vs H Q _ => vs.length = n ∧ ∃ F as d as', Same F H ∧ Fits K F H as vs ∧ m as = some (d, as') ∧ ∀ v F' H', Back K F H F' H' as vs as' v d → Q v H'

def argOf (S : Sl) : SV → Option SL
  | .v d => some (.v d)
  | .p i => (heldAt S i).map .q
  | .s ns => some (.s ns)
def argsOf (S : Sl) : List SV → Option (List SL)
  | [] => some []
  | r :: rs => match argOf S r, argsOf S rs with
    | some a, some as => some (a :: as)
    | _, _ => none
def ptrs : List SV → List Nat
  | [] => []
  | .p i :: rs => i :: ptrs rs
  | _ :: rs => ptrs rs
def SL.put (xs : List PyData) : SL → SL
  | .c _ => .c xs
  | .q _ => .q xs
  | x => x
def putAt (S : Sl) (i : Nat) (xs : List PyData) : Sl := S.set i ((S[i]?.bind id).map (SL.put xs))
def putBack (S : Sl) : List SV → List SL → Option Sl
  | [], [] => some S
  | .p i :: rs, .q xs :: as => putBack (putAt S i xs) rs as
  | .v _ :: rs, _ :: as => putBack S rs as
  | .s _ :: rs, _ :: as => putBack S rs as
  | _, _ => none
def mCallF (n : Nat) (m : MF) (ma : MA) : ME := fun S => match ma S with
  | none => none
  | some (rs, S1) => if rs.length = n ∧ (ptrs rs).Nodup then match argsOf S1 rs with
      | none => none
      | some as => match m as with
        | none => none
        | some (d, as') => match putBack S1 rs as' with
          | none => none
          | some S2 => some (.v d, S2)
    else none
theorem mem_ptrs : ∀ {rs : List SV} {i : Nat}, i ∈ ptrs rs ↔ ∃ j : Nat, rs[j]? = some (.p i)
  | [], i => by simp [ptrs]
  | .p k :: rs, i => by
    unfold ptrs
    rw [List.mem_cons, mem_ptrs]
    constructor
    · rintro (rfl | ⟨j, h⟩)
      · exact ⟨0, rfl⟩
      · exact ⟨j + 1, h⟩
    · rintro ⟨j, h⟩
      cases j with
      | zero => simp at h; exact .inl h.symm
      | succ j => exact .inr ⟨j, by simpa using h⟩
  | .v d :: rs, i => by
    unfold ptrs
    rw [mem_ptrs]
    constructor
    · rintro ⟨j, h⟩
      exact ⟨j + 1, h⟩
    · rintro ⟨j, h⟩
      cases j with
      | zero => simp at h
      | succ j => exact ⟨j, by simpa using h⟩
  | .s d :: rs, i => by
    unfold ptrs
    rw [mem_ptrs]
    constructor
    · rintro ⟨j, h⟩
      exact ⟨j + 1, h⟩
    · rintro ⟨j, h⟩
      cases j with
      | zero => simp at h
      | succ j => exact ⟨j, by simpa using h⟩
theorem ptrs_inj : ∀ {rs : List SV} {i j k : Nat}, (ptrs rs).Nodup → rs[i]? = some (.p k) → rs[j]? = some (.p k) → i = j
  | [], _, _, _, _, h, _ => by simp at h
  | r :: rs, i, j, k, nd, h1, h2 => by
    have tail : (ptrs rs).Nodup := by
      cases r with
      | p m => exact (List.nodup_cons.mp nd).2
      | v d => exact nd
      | s d => exact nd
    have no : r = .p k → ∀ m : Nat, rs[m]? ≠ some (.p k) := fun e m h => by
      subst e
      exact (List.nodup_cons.mp nd).1 (mem_ptrs.mpr ⟨m, h⟩)
    cases i with
    | zero =>
      have e1 : r = .p k := by simpa using h1
      cases j with
      | zero => rfl
      | succ j => exact absurd (by simpa using h2) (no e1 j)
    | succ i =>
      cases j with
      | zero => exact absurd (by simpa using h1) (no (by simpa using h2) i)
      | succ j => rw [ptrs_inj tail (i := i) (j := j) (k := k) (by simpa using h1) (by simpa using h2)]
theorem putAt_len (S : Sl) (i : Nat) (xs : List PyData) : (putAt S i xs).length = S.length := by unfold putAt; rw [List.length_set]
theorem putAt_same {S : Sl} {i : Nat} {xs : List PyData} {x : SL} (h : S[i]? = some (some x)) : (putAt S i xs)[i]? = some (some (x.put xs)) := by
  unfold putAt
  have hi : i < S.length := (List.getElem?_eq_some_iff.mp h).1
  rw [List.getElem?_set_self hi, h]
  rfl
theorem putAt_ne {S : Sl} {i j : Nat} {xs : List PyData} (h : i ≠ j) : (putAt S i xs)[j]? = S[j]? := by
  unfold putAt
  rw [List.getElem?_set_ne h]
theorem putBack_len : ∀ {rs : List SV} {as : List SL} {S S2 : Sl}, putBack S rs as = some S2 → S2.length = S.length
  | [], [], _, _, h => by cases h; rfl
  | [], _ :: _, _, _, h => by simp [putBack] at h
  | .p i :: rs, [], _, _, h => by simp [putBack] at h
  | .v d :: rs, [], _, _, h => by simp [putBack] at h
  | .s d :: rs, [], _, _, h => by simp [putBack] at h
  | .p i :: rs, a :: as, S, S2, h => by
    cases a with
    | q xs =>
      have h' : putBack (putAt S i xs) rs as = some S2 := h
      rw [putBack_len h', putAt_len]
    | _ => simp [putBack] at h
  | .v d :: rs, a :: as, S, S2, h => putBack_len (show putBack S rs as = some S2 from h)
  | .s d :: rs, a :: as, S, S2, h => putBack_len (show putBack S rs as = some S2 from h)
/-- what is not lent stays -/
theorem putBack_out : ∀ {rs : List SV} {as : List SL} {S S2 : Sl} {i : Nat}, putBack S rs as = some S2 → i ∉ ptrs rs → S2[i]? = S[i]?
  | [], [], _, _, _, h, _ => by cases h; rfl
  | [], _ :: _, _, _, _, h, _ => by simp [putBack] at h
  | .p i :: rs, [], _, _, _, h, _ => by simp [putBack] at h
  | .v d :: rs, [], _, _, _, h, _ => by simp [putBack] at h
  | .s d :: rs, [], _, _, _, h, _ => by simp [putBack] at h
  | .p k :: rs, a :: as, S, S2, i, h, hn => by
    cases a with
    | q xs =>
      have h' : putBack (putAt S k xs) rs as = some S2 := h
      have hn' : i ≠ k ∧ i ∉ ptrs rs := by
        have q : i ∉ k :: ptrs rs := hn
        exact ⟨fun e => q (e ▸ List.mem_cons_self), fun e => q (List.mem_cons_of_mem _ e)⟩
      rw [putBack_out h' hn'.2, putAt_ne (Ne.symm hn'.1)]
    | _ => simp [putBack] at h
  | .v d :: rs, a :: as, S, S2, i, h, hn => putBack_out (show putBack S rs as = some S2 from h) hn
  | .s d :: rs, a :: as, S, S2, i, h, hn => putBack_out (show putBack S rs as = some S2 from h) hn
/-- what is lent comes back -/
theorem putBack_in : ∀ {rs : List SV} {as : List SL} {S S2 : Sl} {i j : Nat} {x : SL}, putBack S rs as = some S2 → (ptrs rs).Nodup → rs[j]? = some (.p i) → S[i]? = some (some x) → ∃ xs, as[j]? = some (.q xs) ∧ S2[i]? = some (some (x.put xs))
  | [], [], _, _, _, _, _, _, _, h, _ => by simp at h
  | [], _ :: _, _, _, _, _, _, h, _, _, _ => by simp [putBack] at h
  | .p i :: rs, [], _, _, _, _, _, h, _, _, _ => by simp [putBack] at h
  | .v d :: rs, [], _, _, _, _, _, h, _, _, _ => by simp [putBack] at h
  | .s d :: rs, [], _, _, _, _, _, h, _, _, _ => by simp [putBack] at h
  | .p k :: rs, a :: as, S, S2, i, j, x, h, nd, hj, hx => by
    cases a with
    | q xs =>
      have h' : putBack (putAt S k xs) rs as = some S2 := h
      obtain ⟨n1, n2⟩ := List.nodup_cons.mp (show (k :: ptrs rs).Nodup from nd)
      cases j with
      | zero =>
        have e : k = i := by simpa using hj
        subst e
        exact ⟨xs, rfl, by rw [putBack_out h' n1]; exact putAt_same hx⟩
      | succ j =>
        have hj' : rs[j]? = some (.p i) := by simpa using hj
        have ne : k ≠ i := fun e => n1 (e ▸ mem_ptrs.mpr ⟨j, hj'⟩)
        obtain ⟨ys, h1, h2⟩ := putBack_in h' n2 hj' (x := x) (by rw [putAt_ne ne]; exact hx)
        exact ⟨ys, by simpa using h1, h2⟩
    | _ => simp [putBack] at h
  | .v d :: rs, a :: as, S, S2, i, j, x, h, nd, hj, hx => by
    cases j with
    | zero => simp at hj
    | succ j =>
      obtain ⟨ys, h1, h2⟩ := putBack_in (show putBack S rs as = some S2 from h) nd (show rs[j]? = some (.p i) by simpa using hj) hx
      exact ⟨ys, by simpa using h1, h2⟩
  | .s d :: rs, a :: as, S, S2, i, j, x, h, nd, hj, hx => by
    cases j with
    | zero => simp at hj
    | succ j =>
      obtain ⟨ys, h1, h2⟩ := putBack_in (show putBack S rs as = some S2 from h) nd (show rs[j]? = some (.p i) by simpa using hj) hx
      exact ⟨ys, by simpa using h1, h2⟩
theorem argsOf_len : ∀ {rs : List SV} {S : Sl} {as : List SL}, argsOf S rs = some as → as.length = rs.length
  | [], _, _, h => by cases h; rfl
  | r :: rs, S, as, h => by
    unfold argsOf at h
    split at h
    · rename_i a as' h1 h2
      cases h
      rw [List.length_cons, List.length_cons, argsOf_len h2]
    · cases h
theorem argsOf_at : ∀ {rs : List SV} {S : Sl} {as : List SL} {j : Nat} {a : SL}, argsOf S rs = some as → as[j]? = some a → ∃ r, rs[j]? = some r ∧ argOf S r = some a
  | [], _, _, _, _, h, e => by cases h; simp at e
  | r :: rs, S, as, j, a, h, e => by
    unfold argsOf at h
    split at h
    · rename_i a' as' h1 h2
      cases h
      cases j with
      | zero =>
        simp at e
        subst e
        exact ⟨r, rfl, h1⟩
      | succ j =>
        obtain ⟨r', h3, h4⟩ := argsOf_at h2 (j := j) (a := a) (by simpa using e)
        exact ⟨r', by simpa using h3, h4⟩
    · cases h
theorem argsOf_got : ∀ {rs : List SV} {S : Sl} {as : List SL} {j : Nat} {r : SV}, argsOf S rs = some as → rs[j]? = some r → ∃ a, as[j]? = some a ∧ argOf S r = some a
  | [], _, _, _, _, h, e => by simp at e
  | r' :: rs, S, as, j, r, h, e => by
    unfold argsOf at h
    split at h
    · rename_i a' as' h1 h2
      cases h
      cases j with
      | zero =>
        simp at e
        subst e
        exact ⟨a', rfl, h1⟩
      | succ j =>
        obtain ⟨a, h3, h4⟩ := argsOf_got h2 (j := j) (r := r) (by simpa using e)
        exact ⟨a, by simpa using h3, h4⟩
    · cases h
section
variable {K : PySem.W.Frag} {P F0 F F' : Hp} {qc cell : Nat → Addr} {S : Sl} {σ : L2.St} {H H' : Hp}
theorem VRs.at : ∀ {rs : List SV} {vs : List V} {j : Nat} {r : SV}, VRs K F cell rs vs → rs[j]? = some r → ∃ v, vs[j]? = some v ∧ VR K F cell r v
  | [], _, _, _, _, e => by simp at e
  | r' :: rs, _, j, r, ⟨v, ws, h1, h2, h3⟩, e => by
    subst h1
    cases j with
    | zero =>
      simp at e
      subst e
      exact ⟨v, rfl, h2⟩
    | succ j =>
      obtain ⟨u, h4, h5⟩ := VRs.at h3 (j := j) (r := r) (by simpa using e)
      exact ⟨u, by simpa using h4, h5⟩
theorem held_of {i : Nat} {xs : List PyData} (h : heldAt S i = some xs) : ∃ x : SL, S[i]? = some (some x) ∧ x.held = some xs := by
  unfold heldAt at h
  cases e : S[i]? with
  | none => rw [e] at h; cases h
  | some o =>
    cases o with
    | none => rw [e] at h; cases h
    | some x =>
      rw [e] at h
      exact ⟨x, rfl, h⟩
theorem SL.put_held {x : SL} {xs ys : List PyData} (h : x.held = some xs) : (x.put ys).held = some ys := by
  cases x with
  | c z => rfl
  | q z => rfl
  | v d => cases h
  | s ns => cases h
theorem SL.put_q {x : SL} {xs ys : List PyData} (h : x.put ys = .q xs) : ∃ z, x = .q z := by
  cases x with
  | q z => exact ⟨z, rfl⟩
  | c z => cases h
  | v d => cases h
  | s ns => cases h
theorem RC.fits (R : RC K P F0 qc F cell S σ H) {rs : List SV} {vs : List V} {as : List SL} (hv : VRs K F cell rs vs) (ha : argsOf S rs = some as) (nd : (ptrs rs).Nodup) : Fits K F H as vs := by
  refine ⟨by rw [hv.length, argsOf_len ha], fun j a e => ?_, fun i j x y c h1 h2 h3 h4 => ?_⟩
  · obtain ⟨r, hr, hra⟩ := argsOf_at ha e
    obtain ⟨v, h1, h2⟩ := hv.at hr
    refine ⟨v, h1, ?_⟩
    cases r with
    | v d => cases hra; exact h2
    | s ns => cases hra; exact h2
    | p i =>
      obtain ⟨xs, hx, rfl⟩ := Option.map_eq_some_iff.mp (show (heldAt S i).map SL.q = some a from hra)
      obtain ⟨_, h3, _, ws, h4, h5⟩ := R.at hx
      exact ⟨cell i, ws, h2, h3, h4, h5⟩
  · obtain ⟨r1, hr1, hra1⟩ := argsOf_at ha h1
    obtain ⟨r2, hr2, hra2⟩ := argsOf_at ha h2
    obtain ⟨v1, q1, q2⟩ := hv.at hr1
    obtain ⟨v2, q3, q4⟩ := hv.at hr2
    rw [h3] at q1
    rw [h4] at q3
    cases q1
    cases q3
    cases r1 with
    | v d => cases hra1
    | s ns => cases hra1
    | p k1 =>
      cases r2 with
      | v d => cases hra2
      | s ns => cases hra2
      | p k2 =>
        obtain ⟨xs, hx, _⟩ := Option.map_eq_some_iff.mp (show (heldAt S k1).map SL.q = some _ from hra1)
        obtain ⟨ys, hy, _⟩ := Option.map_eq_some_iff.mp (show (heldAt S k2).map SL.q = some _ from hra2)
        obtain ⟨x', e1, e2⟩ := held_of hx
        obtain ⟨y', e3, e4⟩ := held_of hy
        have c1 : V.ref c = .ref (cell k1) := q2
        have c2 : V.ref c = .ref (cell k2) := q4
        have e : cell k1 = cell k2 := by
          have := c1.symm.trans c2
          injection this
        have := R.inj k1 k2 x' y' e1 e3 (by rw [e2]; rfl) (by rw [e4]; rfl) e
        subst this
        exact ptrs_inj nd hr1 hr2
/-- behind a call -/
theorem RC.back (R : RC K P F0 qc F cell S σ H) {rs : List SV} {vs : List V} {as as' : List SL} {v : V} {d : PyData} {S2 : Sl} (hv : VRs K F cell rs vs) (ha : argsOf S rs = some as) (nd : (ptrs rs).Nodup) (B : Back K F H F' H' as vs as' v d)
    (hb : putBack S rs as' = some S2) : RC K P F0 qc F' cell S2 σ H' := by
  have lent : ∀ {i : Nat} {j : Nat}, rs[j]? = some (.p i) → vs[j]? = some (.ref (cell i)) := fun {i j} h => by
    obtain ⟨u, h1, h2⟩ := hv.at h
    rw [h1, show u = .ref (cell i) from h2]
  have isq : ∀ {j : Nat} {xs : List PyData} {b : Addr}, as[j]? = some (.q xs) → vs[j]? = some (.ref b) → ∃ i, rs[j]? = some (.p i) ∧ b = cell i := fun {j xs b} h1 h2 => by
    obtain ⟨r, hr, hra⟩ := argsOf_at ha h1
    cases r with
    | v d => cases hra
    | s ns => cases hra
    | p i =>
      refine ⟨i, hr, ?_⟩
      have := (lent hr).symm.trans h2
      injection this with this
      injection this with this
      exact this.symm
  have stay : ∀ b o, H b = some o → (∀ i, i ∈ ptrs rs → b ≠ cell i) → H' b = some o := fun b o h hn => by
    refine B.keep b o h fun j xs h1 h2 => ?_
    obtain ⟨i, h3, h4⟩ := isq h1 h2
    exact hn i (mem_ptrs.mpr ⟨j, h3⟩) h4
  have heldP : ∀ i, i ∈ ptrs rs → ∃ x xs, S[i]? = some (some x) ∧ x.held = some xs := fun i hi => by
    obtain ⟨j, hj⟩ := mem_ptrs.mp hi
    obtain ⟨a, h1, h2⟩ := argsOf_got ha hj
    obtain ⟨xs, hx, _⟩ := Option.map_eq_some_iff.mp (show (heldAt S i).map SL.q = some a from h2)
    obtain ⟨x, e1, e2⟩ := held_of hx
    exact ⟨x, xs, e1, e2⟩
  -- what stands in a slot behind the call
  have look : ∀ {i : Nat} {y : SL}, S2[i]? = some (some y) → (i ∉ ptrs rs ∧ S[i]? = some (some y)) ∨ (i ∈ ptrs rs ∧ ∃ (x : SL) (xs ys : List PyData) (j : Nat), S[i]? = some (some x) ∧ x.held = some xs ∧ rs[j]? = some (.p i) ∧ as'[j]? = some (.q ys) ∧ y = x.put ys) := fun {i y} h => by
    by_cases hi : i ∈ ptrs rs
    · obtain ⟨x, xs, e1, e2⟩ := heldP i hi
      obtain ⟨j, hj⟩ := mem_ptrs.mp hi
      obtain ⟨ys, h1, h2⟩ := putBack_in hb nd hj e1
      rw [h] at h2
      cases h2
      exact .inr ⟨hi, x, xs, ys, j, e1, e2, hj, h1, rfl⟩
    · exact .inl ⟨hi, by rw [← putBack_out hb hi]; exact h⟩
  refine ⟨by rw [putBack_len hb]; exact R.len, R.f0.trans B.f, B.fh, fun b o e => ?_, fun b z => ?_, fun i d' h => ?_, fun i ns h => ?_, fun i y ys h hy => ?_, fun i xs h => ?_, fun i j x y h1 h2 hx hy e => ?_⟩
  · refine stay b o (R.ph b o e) fun i hi q => ?_
    obtain ⟨x, xs, e1, e2⟩ := heldP i hi
    obtain ⟨_, _, h3, _⟩ := R.cl i x xs e1 e2
    subst q
    rw [h3] at e; cases e
  · rcases B.fr b z with z | z
    · exact R.fr b z
    · exact .inr (R.ph.free z)
  · rcases look h with ⟨_, h'⟩ | ⟨_, x, xs, ys, j, e1, e2, _, _, e5⟩
    · obtain ⟨u, h1, h2⟩ := R.vl i d' h'
      exact ⟨u, h1, h2.mono B.f⟩
    · have q := SL.put_held (ys := ys) e2
      rw [← e5] at q
      cases q
  · rcases look h with ⟨_, h'⟩ | ⟨_, x, xs, ys, j, e1, e2, _, _, e5⟩
    · obtain ⟨u, h1, h2⟩ := R.sc i ns h'
      exact ⟨u, h1, h2.mono B.f⟩
    · have q := SL.put_held (ys := ys) e2
      rw [← e5] at q
      cases q
  · have untold : ∀ {a : Addr}, F a = none → H a ≠ none → F' a = none := fun {a} h1 h2 => by
      cases q : F' a with
      | none => rfl
      | some u =>
        rcases B.fr a (by rw [q]; simp) with z | z
        · exact absurd h1 z
        · exact absurd z h2
    rcases look h with ⟨hi, h'⟩ | ⟨hi, x, xs, zs, j, e1, e2, e3, e4, e5⟩
    · obtain ⟨h1, h2, h3, ws, h4, h5⟩ := R.cl i y ys h' hy
      refine ⟨h1, untold h2 (by rw [h4]; simp), h3, ws, stay _ _ h4 fun k hk q => ?_, h5.mono B.f⟩
      obtain ⟨x, xs, e1, e2⟩ := heldP k hk
      have := R.inj i k y x h' e1 (by rw [hy]; rfl) (by rw [e2]; rfl) q
      subst this
      exact hi hk
    · obtain ⟨h1, h2, h3, ws, h4, h5⟩ := R.cl i x xs e1 e2
      obtain ⟨c, us, g1, g2, g3⟩ := B.qs j zs e4
      rw [lent e3] at g1
      cases g1
      have hz : zs = ys := by
        have q := SL.put_held (ys := zs) e2
        rw [← e5, hy] at q
        exact (Option.some.inj q).symm
      subst hz
      exact ⟨h1, untold h2 (by rw [h4]; simp), h3, us, g2, g3⟩
  · rcases look h with ⟨_, h'⟩ | ⟨_, x, ws, ys, j, e1, e2, _, _, e5⟩
    · exact R.qs i xs h'
    · obtain ⟨z, hz⟩ := SL.put_q e5.symm
      subst hz
      exact R.qs i z e1
  · have old : ∀ {i : Nat} {y : SL}, S2[i]? = some (some y) → y.held.isSome = true → ∃ x : SL, S[i]? = some (some x) ∧ x.held.isSome = true := fun {i y} h hy => by
      rcases look h with ⟨_, h'⟩ | ⟨_, x, ws, ys, j, e1, e2, _, _, e5⟩
      · exact ⟨y, h', hy⟩
      · exact ⟨x, e1, by rw [e2]; rfl⟩
    obtain ⟨x', g1, g2⟩ := old h1 hx
    obtain ⟨y', g3, g4⟩ := old h2 hy
    exact R.inj i j x' y' g1 g3 g2 g4 e
end
section
variable {X : Cx} {CX : CXT} {k n : Nat} {f : Addr} {fd : FuncData} {ps ks : List Str} {x : Str} {p pos : Pos} {e : Expr} {es : List Expr} {kws : List Keyword} {m : MF} {mas : MA}
theorem snd_callF {K : PySem.W.Frag} {ta : TA} (sa : SndA K ta mas) : SndE K (tCall (spM K n m) [] E0 ta) (mCallF n m mas) := by
  intro P F0 qc F cell S σ H Q z S' R hm k
  unfold mCallF at hm
  split at hm
  · cases hm
  · rename_i rs S1 e1
    split at hm
    · rename_i hc
      split at hm
      · cases hm
      · rename_i as ha
        split at hm
        · cases hm
        · rename_i d as' hd
          split at hm
          · cases hm
          · rename_i S2 hb
            cases hm
            refine sa P F0 qc F cell S σ H _ rs S1 R e1 fun vs F1 H1 s1 R1 q1 => ?_
            show spM K n m (vs ++ []) H1 Q E0
            rw [List.append_nil]
            refine ⟨by rw [q1.length]; exact hc.1, F1, as, d, as', R1.fh, R1.fits q1 ha hc.2, hd, fun v F' H' B => ?_⟩
            exact k v F' H' (s1.trans B.f) (R1.back q1 ha hc.2 B hb) B.dv
    · cases hm
/-- f(e, ..) -/
theorem je_callF (G : FnG X.prog X.w X.K X.mg X.base CX0 k f fd ps (spM X.K n m)) (gd : X.A.guards = some []) (hr : Room k X.A) (hm : X.mg x = some (.ref f)) (hk : PySem.W.keepIn X.K (.ref f) = true) (hb : Binds X.K fd ps []) (ha : JA X (e :: es) mas)
    (hg : Gl X x := by rfl) (hdb : (x == ("__debug__" : Str)) = false := by decide) (he : starEach (e :: es) X.env = (false, eval e X.env) :: starEach es X.env := by rfl) (hpl : (backTo pos (starEach es X.env)).any (·.1) = false := by rfl) :
    JE X (.Call (.Name x p) (e :: es) [] pos) (mCallF n m mas) := by
  obtain ⟨ta, pa, sa⟩ := ha.ex
  exact ⟨_, pe_callG G gd hr hg hm hk hb .nil pass0 pa hdb he hpl, snd_callF sa⟩
end
end VL

set_option Elab.async false
set_option linter.all false
set_option maxRecDepth 100000
set_option maxHeartbeats 4000000
/-! VL8: statements: «st is m». -/
namespace VL
open PySem PySem.Spec PyProof.Rows L2

def FlK (K : PySem.W.Frag) (W : WX) (F : Hp) (cell : Nat → Addr) (fl : Fl) (D : Ends) (σ : L2.St) (H : Hp) : Prop :=
  match fl with
  | .nx => D.nx σ H
  | .bk => D.bk σ H
  | .ct => D.ct σ H
  | .rt r => ∀ v, VR K F cell r v → D.rt v H
  | .rz c fs => ∀ (C dd : Addr) (vs : List V), PySem.W.nsIn K mainGlobals c = some (some (.ref C)) → F dd = some (.xd ((fs.map (·.1)).zip vs)) → DVs K F vs (fs.map (·.2)) → W (.ref C) (some dd) σ H
def SndS (K : PySem.W.Frag) (W : WX) (t : TS) (m : MS) : Prop :=
  ∀ (P F0 : Hp) (qc : Nat → Addr) (F : Hp) (cell : Nat → Addr) (S : Sl) (σ : L2.St) (H : Hp) (D : Ends) (fl : Fl) (S' : Sl), RC K P F0 qc F cell S σ H → m S = some (fl, S') →
    (∀ F' cell' σ' H', Same F F' → RC K P F0 qc F' cell' S' σ' H' → FlK K W F' cell' fl D σ' H') → t D σ H
structure JS (X : Cx) (W : WX) (st : Stmt) (m : MS) : Prop where
  ex : ∃ t, PS X st t ∧ SndS X.K W t m
structure JB (X : Cx) (W : WX) (sts : List Stmt) (m : MS) : Prop where
  ex : ∃ t, PSs X sts t ∧ SndS X.K W t m
/-- nothing is let out -/
def W0 : WX := fun _ _ _ _ => False

/-! ### slots changed -/
section
variable {K : PySem.W.Frag} {P F0 F F' : Hp} {qc cell : Nat → Addr} {S : Sl} {σ : L2.St} {H H' : Hp}
theorem get_set {α : Type} {l : List α} {i j : Nat} {a b : α} (h : (l.set i a)[j]? = some b) : (i = j ∧ b = a ∧ i < l.length) ∨ (i ≠ j ∧ l[j]? = some b) := by
  rw [List.getElem?_set] at h
  by_cases e : i = j
  · subst e
    rw [if_pos rfl] at h
    split at h
    · cases h
      exact .inl ⟨rfl, rfl, by assumption⟩
    · cases h
  · rw [if_neg e] at h
    exact .inr ⟨e, h⟩
theorem RC.setV (R : RC K P F0 qc F cell S σ H) {i : Nat} {v : V} {d : PyData} (h : DV K F v d) : RC K P F0 qc F cell (S.set i (some (.v d))) (σ.set i (some v)) H := by
  refine ⟨by rw [List.length_set, List.length_set]; exact R.len, R.f0, R.fh, R.ph, R.fr, fun j d' e => ?_, fun j ns e => ?_, fun j x xs e hx => ?_, fun j xs e => ?_, fun j k x y e1 e2 hx hy => ?_⟩
  · rcases get_set e with ⟨rfl, e2, hl⟩ | ⟨ne, e⟩
    · cases e2
      exact ⟨v, by rw [List.getElem?_set_self (by rw [← R.len]; exact hl)], h⟩
    · obtain ⟨u, h1, h2⟩ := R.vl j d' e
      exact ⟨u, by rw [List.getElem?_set_ne ne]; exact h1, h2⟩
  · rcases get_set e with ⟨rfl, e2, hl⟩ | ⟨ne, e⟩
    · cases e2
    · obtain ⟨u, h1, h2⟩ := R.sc j ns e
      exact ⟨u, by rw [List.getElem?_set_ne ne]; exact h1, h2⟩
  · rcases get_set e with ⟨rfl, e2, hl⟩ | ⟨ne, e⟩
    · cases e2
      cases hx
    · obtain ⟨h1, h2⟩ := R.cl j x xs e hx
      exact ⟨by rw [List.getElem?_set_ne ne]; exact h1, h2⟩
  · rcases get_set e with ⟨rfl, e2, hl⟩ | ⟨ne, e⟩
    · cases e2
    · exact R.qs j xs e
  · rcases get_set e1 with ⟨rfl, e3, hl⟩ | ⟨ne, e1⟩
    · cases e3
      cases hx
    · rcases get_set e2 with ⟨rfl, e4, hl⟩ | ⟨ne2, e2⟩
      · cases e4
        cases hy
      · exact R.inj j k x y e1 e2 hx hy
/-- a list that is not told becomes slot i's own -/
theorem RC.setC (R : RC K P F0 qc F cell S σ H) {i : Nat} {p : Addr} {vs : List V} {ds : List PyData} (hF : F p = none) (hP : P p = none) (ap : Apart S cell p) (hH : H p = some (.lst vs)) (h : DVs K F vs ds) :
    RC K P F0 qc F (fun j => if j = i then p else cell j) (S.set i (some (.c ds))) (σ.set i (some (.ref p))) H := by
  refine ⟨by rw [List.length_set, List.length_set]; exact R.len, R.f0, R.fh, R.ph, R.fr, fun j d' e => ?_, fun j ns e => ?_, fun j x xs e hx => ?_, fun j xs e => ?_, fun j k x y e1 e2 hx hy he => ?_⟩
  · rcases get_set e with ⟨rfl, e2, hl⟩ | ⟨ne, e⟩
    · cases e2
    · obtain ⟨u, h1, h2⟩ := R.vl j d' e
      exact ⟨u, by rw [List.getElem?_set_ne ne]; exact h1, h2⟩
  · rcases get_set e with ⟨rfl, e2, hl⟩ | ⟨ne, e⟩
    · cases e2
    · obtain ⟨u, h1, h2⟩ := R.sc j ns e
      exact ⟨u, by rw [List.getElem?_set_ne ne]; exact h1, h2⟩
  · rcases get_set e with ⟨rfl, e2, hl⟩ | ⟨ne, e⟩
    · cases e2
      cases hx
      rw [if_pos rfl]
      exact ⟨by rw [List.getElem?_set_self (by rw [← R.len]; exact hl)], hF, hP, vs, hH, h⟩
    · obtain ⟨h1, h2⟩ := R.cl j x xs e hx
      rw [if_neg (Ne.symm ne)]
      exact ⟨by rw [List.getElem?_set_ne ne]; exact h1, h2⟩
  · rcases get_set e with ⟨rfl, e2, hl⟩ | ⟨ne, e⟩
    · cases e2
    · rw [if_neg (Ne.symm ne)]
      exact R.qs j xs e
  · rcases get_set e1 with ⟨rfl, e3, hl⟩ | ⟨ne, e1⟩
    · rcases get_set e2 with ⟨rfl, e4, hl⟩ | ⟨ne2, e2⟩
      · rfl
      · rw [if_pos rfl, if_neg (Ne.symm ne2)] at he
        exact absurd he.symm (ap k y e2 hy)
    · rcases get_set e2 with ⟨rfl, e4, hl⟩ | ⟨ne2, e2⟩
      · rw [if_pos rfl, if_neg (Ne.symm ne)] at he
        exact absurd he (ap j x e1 hx)
      · rw [if_neg (Ne.symm ne), if_neg (Ne.symm ne2)] at he
        exact R.inj j k x y e1 e2 hx hy he
/-- slot i's own list is told from now on -/
theorem RC.freeze (R : RC K P F0 qc F cell S σ H) {i : Nat} {xs : List PyData} (h : S[i]? = some (some (.c xs))) : ∃ F' v, Same F F' ∧ DV K F' v (.list xs) ∧ v = .ref (cell i) ∧ RC K P F0 qc F' cell (S.set i (some (.v (.list xs)))) σ H := by
  obtain ⟨h1, h2, h3, vs, h4, h5⟩ := R.cl i _ xs h rfl
  have sF : Same F (upd F (cell i) (.lst vs)) := same_new h2
  have dv : DV K (upd F (cell i) (.lst vs)) (.ref (cell i)) (.list xs) := .lst upd_same (h5.mono sF)
  refine ⟨_, _, sF, dv, rfl, ⟨by rw [List.length_set]; exact R.len, R.f0.trans sF, fun b o e => ?_, R.ph, fun b z => ?_, fun j d' e => ?_, fun j ns e => ?_, fun j x ys e hx => ?_, fun j ys e => ?_, fun j k x y e1 e2 hx hy he => ?_⟩⟩
  · by_cases q : b = cell i
    · subst q
      rw [upd_same] at e
      cases e
      exact h4
    · rw [upd_ne q] at e
      exact R.fh b o e
  · by_cases q : b = cell i
    · subst q
      exact .inr h3
    · rw [upd_ne q] at z
      exact R.fr b z
  · rcases get_set e with ⟨rfl, e2, hl⟩ | ⟨ne, e⟩
    · cases e2
      exact ⟨_, h1, dv⟩
    · obtain ⟨u, h1, h2⟩ := R.vl j d' e
      exact ⟨u, h1, h2.mono sF⟩
  · rcases get_set e with ⟨rfl, e2, hl⟩ | ⟨ne, e⟩
    · cases e2
    · obtain ⟨u, h1, h2⟩ := R.sc j ns e
      exact ⟨u, h1, h2.mono sF⟩
  · rcases get_set e with ⟨rfl, e2, hl⟩ | ⟨ne, e⟩
    · cases e2
      cases hx
    · obtain ⟨g1, g2, g3, ws, g4, g5⟩ := R.cl j x ys e hx
      have nc : cell j ≠ cell i := fun q => ne (R.inj i j _ x h e rfl (by rw [hx]; rfl) q.symm)
      exact ⟨g1, by rw [upd_ne nc]; exact g2, g3, ws, g4, g5.mono sF⟩
  · rcases get_set e with ⟨rfl, e2, hl⟩ | ⟨ne, e⟩
    · cases e2
    · exact R.qs j ys e
  · rcases get_set e1 with ⟨rfl, e3, hl⟩ | ⟨ne, e1⟩
    · cases e3
      cases hx
    · rcases get_set e2 with ⟨rfl, e4, hl⟩ | ⟨ne2, e2⟩
      · cases e4
        cases hy
      · exact R.inj j k x y e1 e2 hx hy he
/-- a slot's list is changed -/
theorem RC.mutate (R : RC K P F0 qc F cell S σ H) {i : Nat} {xs ys : List PyData} {ws : List V} (h : heldAt S i = some xs) (hw : DVs K F ws ys) : RC K P F0 qc F cell (putAt S i ys) σ (upd H (cell i) (.lst ws)) := by
  obtain ⟨x0, hx0, hh0⟩ := held_of h
  obtain ⟨h1, h2, h3, vs, h4, h5⟩ := R.cl i x0 xs hx0 hh0
  have look : ∀ {j : Nat} {y : SL}, (putAt S i ys)[j]? = some (some y) → (i = j ∧ y = x0.put ys) ∨ (i ≠ j ∧ S[j]? = some (some y)) := fun {j y} e => by
    by_cases q : i = j
    · subst q
      rw [putAt_same hx0] at e
      cases e
      exact .inl ⟨rfl, rfl⟩
    · rw [putAt_ne q] at e
      exact .inr ⟨q, e⟩
  have hp : (x0.put ys).held = some ys := SL.put_held hh0
  refine ⟨by rw [putAt_len]; exact R.len, R.f0, fun b o e => ?_, fun b o e => ?_, R.fr, fun j d' e => ?_, fun j ns e => ?_, fun j y zs e hy => ?_, fun j zs e => ?_, fun j k x y e1 e2 hx hy he => ?_⟩
  · have ne : b ≠ cell i := fun q => by subst q; rw [h2] at e; cases e
    rw [upd_ne ne]
    exact R.fh b o e
  · have ne : b ≠ cell i := fun q => by subst q; rw [h3] at e; cases e
    rw [upd_ne ne]
    exact R.ph b o e
  · rcases look e with ⟨rfl, e2⟩ | ⟨ne, e⟩
    · rw [← e2] at hp; cases hp
    · exact R.vl j d' e
  · rcases look e with ⟨rfl, e2⟩ | ⟨ne, e⟩
    · rw [← e2] at hp; cases hp
    · exact R.sc j ns e
  · rcases look e with ⟨rfl, e2⟩ | ⟨ne, e⟩
    · rw [e2, hp] at hy
      cases hy
      exact ⟨h1, h2, h3, ws, upd_same, hw⟩
    · obtain ⟨g1, g2, g3, us, g4, g5⟩ := R.cl j y zs e hy
      have nc : cell j ≠ cell i := fun q => ne (R.inj i j _ y hx0 e (by rw [hh0]; rfl) (by rw [hy]; rfl) q.symm)
      exact ⟨g1, g2, g3, us, by rw [upd_ne nc]; exact g4, g5⟩
  · rcases look e with ⟨rfl, e2⟩ | ⟨ne, e⟩
    · obtain ⟨z, hz⟩ := SL.put_q e2.symm
      subst hz
      exact R.qs i z hx0
    · exact R.qs j zs e
  · have old : ∀ {j : Nat} {y : SL}, (putAt S i ys)[j]? = some (some y) → y.held.isSome = true → ∃ x : SL, S[j]? = some (some x) ∧ x.held.isSome = true := fun {j y} e hy => by
      rcases look e with ⟨rfl, e2⟩ | ⟨ne, e⟩
      · exact ⟨x0, hx0, by rw [hh0]; rfl⟩
      · exact ⟨y, e, hy⟩
    obtain ⟨x', g1, g2⟩ := old e1 hx
    obtain ⟨y', g3, g4⟩ := old e2 hy
    exact R.inj j k x' y' g1 g3 g2 g4 he
end

/-! ### the functions -/
def mNil : MS := fun S => some (.nx, S)
def mSeq (m n : MS) : MS := fun S => match m S with
  | some (.nx, S1) => n S1
  | some (.bk, S1) => some (.bk, S1)
  | some (.ct, S1) => some (.ct, S1)
  | some (.rt r, S1) => some (.rt r, S1)
  | some (.rz c fs, S1) => some (.rz c fs, S1)
  | none => none
def mDrop (me : ME) : MS := fun S => match me S with
  | some (_, S1) => some (.nx, S1)
  | none => none
def mRet (me : ME) : MS := fun S => match me S with
  | some (.v d, S1) => some (.rt (.v d), S1)
  | some (.p i, S1) => match S1[i]? with
    | some (some (.c xs)) => some (.rt (.v (.list xs)), S1.set i (some (.v (.list xs))))
    | _ => none
  | _ => none
def mRetN : MS := fun S => some (.rt (.v .none), S)
def mBk : MS := fun S => some (.bk, S)
def mCt : MS := fun S => some (.ct, S)
def mIfS (mt : MT) (ma mb : MS) : MS := fun S => match mt S with
  | some (true, S1) => ma S1
  | some (false, S1) => mb S1
  | none => none
def mSet (i : Nat) (me : ME) : MS := fun S => match me S with
  | some (.v d, S1) => some (.nx, S1.set i (some (.v d)))
  | _ => none
/-- told from now on: a word between two statements -/
def mFrz (i : Nat) (m : MS) : MS := fun S => match S[i]? with
  | some (some (.c xs)) => m (S.set i (some (.v (.list xs))))
  | _ => none
def mAug (i : Nat) (f : PyData → PyData → Option PyData) (me : ME) : MS := fun S => match S[i]? with
  | some (some (.v d)) => match me S with
    | some (r, S1) => match deref S1 r with
      | some e => match f d e with
        | some z => some (.nx, S1.set i (some (.v z)))
        | none => none
      | none => none
    | none => none
  | _ => none
/-- x[i] = e, x slot j's list -/
def mPut (j : Nat) (mi me : ME) : MS := fun S => match me S with
  | some (.v d, S1) => match mi S1 with
    | some (.v (.int k), S2) => match heldAt S1 j, heldAt S2 j with
      | some _, some xs => match ixN xs.length k with
        | some n => some (.nx, putAt S2 j (xs.set n d))
        | none => none
      | _, _ => none
    | _ => none
  | _ => none
def mApp (j : Nat) (me : ME) : MS := fun S => match heldAt S j with
  | some _ => match me S with
    | some (.v d, S1) => match heldAt S1 j with
      | some xs => if xs.length < 100000 then some (.nx, putAt S1 j (xs ++ [d])) else none
      | none => none
    | _ => none
  | none => none
def mExt (j : Nat) (me : ME) : MS := fun S => match heldAt S j with
  | some _ => match me S with
    | some (.v (.list ys), S1) => match heldAt S1 j with
      | some xs => if xs.length + ys.length ≤ 100000 then some (.nx, putAt S1 j (xs ++ ys)) else none
      | none => none
    | _ => none
  | none => none
def mPopAt (j : Nat) (me : ME) : MS := fun S => match heldAt S j with
  | some _ => match me S with
    | some (.v (.int k), S1) => match heldAt S1 j with
      | some xs => match ixN xs.length k with
        | some n => if xs.length ≤ 100000 then some (.nx, putAt S1 j (xs.eraseIdx n)) else none
        | none => none
      | none => none
    | _ => none
  | none => none
def mIns (j : Nat) (mi me : ME) : MS := fun S => match heldAt S j with
  | some _ => match mi S with
    | some (.v (.int k), S1) => match me S1 with
      | some (.v d, S2) => match heldAt S2 j with
        | some xs => if xs.length < 100000 ∧ 0 ≤ k ∧ k ≤ 100000 then some (.nx, putAt S2 j (xs.take k.toNat ++ [d] ++ xs.drop k.toNat)) else none
        | none => none
      | _ => none
    | _ => none
  | none => none

section
variable {X : Cx} {W : WX} {st : Stmt} {rest : List Stmt} {e c a b o : Expr} {me mi : ME} {mt : MT} {m n : MS} {x : Str} {pos pos' : Pos} {as bs : List Stmt}
theorem jb_nil : JB X W [] mNil := ⟨_, pss_nil, fun P F0 qc F cell S σ H D fl S' R hm k => by
  cases hm
  exact k F cell σ H (Same.refl _) R⟩
theorem jb_cons (h1 : JS X W st m) (h2 : JB X W rest n) : JB X W (st :: rest) (mSeq m n) := by
  obtain ⟨t, p1, s1⟩ := h1.ex
  obtain ⟨u, p2, s2⟩ := h2.ex
  refine ⟨_, pss_cons p1 p2, fun P F0 qc F cell S σ H D fl S' R hm k => ?_⟩
  unfold mSeq at hm
  split at hm
  · rename_i S1 e1
    refine s1 P F0 qc F cell S σ H { D with nx := u D } .nx S1 R e1 fun F1 c1 σ1 H1 f1 R1 => ?_
    exact s2 P F0 qc F1 c1 S1 σ1 H1 D fl S' R1 hm fun F2 c2 σ2 H2 f2 R2 => k F2 c2 σ2 H2 (f1.trans f2) R2
  · rename_i S1 e1
    cases hm
    exact s1 P F0 qc F cell S σ H { D with nx := u D } .bk S' R e1 fun F1 c1 σ1 H1 f1 R1 => k F1 c1 σ1 H1 f1 R1
  · rename_i S1 e1
    cases hm
    exact s1 P F0 qc F cell S σ H { D with nx := u D } .ct S' R e1 fun F1 c1 σ1 H1 f1 R1 => k F1 c1 σ1 H1 f1 R1
  · rename_i r S1 e1
    cases hm
    exact s1 P F0 qc F cell S σ H { D with nx := u D } (.rt r) S' R e1 fun F1 c1 σ1 H1 f1 R1 => k F1 c1 σ1 H1 f1 R1
  · rename_i c fs S1 e1
    cases hm
    exact s1 P F0 qc F cell S σ H { D with nx := u D } (.rz c fs) S' R e1 fun F1 c1 σ1 H1 f1 R1 => k F1 c1 σ1 H1 f1 R1
  · cases hm
theorem jb_frz (i : Nat) (h : JB X W rest n) : JB X W rest (mFrz i n) := by
  obtain ⟨t, p, s⟩ := h.ex
  refine ⟨t, p, fun P F0 qc F cell S σ H D fl S' R hm k => ?_⟩
  unfold mFrz at hm
  split at hm
  · rename_i xs e1
    obtain ⟨F', v, f1, _, _, R1⟩ := R.freeze e1
    exact s P F0 qc F' cell _ σ H D fl S' R1 hm fun F2 c2 σ2 H2 f2 R2 => k F2 c2 σ2 H2 (f1.trans f2) R2
  · cases hm
theorem js_pass : JS X W (.Pass pos) mNil := ⟨_, ps_pass, fun P F0 qc F cell S σ H D fl S' R hm k => by
  cases hm
  exact k F cell σ H (Same.refl _) R⟩
theorem js_break : JS X W (.Break pos) mBk := ⟨_, ps_break, fun P F0 qc F cell S σ H D fl S' R hm k => by
  cases hm
  exact k F cell σ H (Same.refl _) R⟩
theorem js_continue : JS X W (.Continue pos) mCt := ⟨_, ps_continue, fun P F0 qc F cell S σ H D fl S' R hm k => by
  cases hm
  exact k F cell σ H (Same.refl _) R⟩
theorem js_expr (he : JE X e me) (hs : swapsWith e none pos.line X.env = pure false := by rfl) : JS X W (.Expr e pos) (mDrop me) := by
  obtain ⟨t, p, s⟩ := he.ex
  refine ⟨_, ps_expr p hs, fun P F0 qc F cell S σ H D fl S' R hm k => ?_⟩
  unfold mDrop at hm
  split at hm
  · rename_i r S1 e1
    cases hm
    exact s P F0 qc F cell S σ H _ r S' R e1 fun v F1 H1 f1 R1 _ => k F1 cell σ H1 f1 R1
  · cases hm
theorem js_ret (he : JE X e me) : JS X W (.Return (some e) pos) (mRet me) := by
  obtain ⟨t, p, s⟩ := he.ex
  refine ⟨_, ps_ret p, fun P F0 qc F cell S σ H D fl S' R hm k => ?_⟩
  unfold mRet at hm
  split at hm
  · rename_i d S1 e1
    cases hm
    exact s P F0 qc F cell S σ H _ _ S' R e1 fun v F1 H1 f1 R1 q1 => k F1 cell σ H1 f1 R1 v q1
  · rename_i i S1 e1
    split at hm
    · rename_i xs e2
      cases hm
      refine s P F0 qc F cell S σ H _ _ S1 R e1 fun v F1 H1 f1 R1 q1 => ?_
      obtain ⟨F2, u, f2, dv, rfl, R2⟩ := R1.freeze e2
      rw [show v = .ref (cell i) from q1]
      exact k F2 cell σ H1 (f1.trans f2) R2 _ dv
    · cases hm
  · cases hm
theorem js_retN : JS X W (.Return none pos) mRetN := ⟨_, ps_retN, fun P F0 qc F cell S σ H D fl S' R hm k => by
  cases hm
  exact k F cell σ H (Same.refl _) R _ .non⟩
theorem js_if (hc : JT X c mt) (ha : JB X W as m) (hb : JB X W bs n) : JS X W (.If c as bs pos) (mIfS mt m n) := by
  obtain ⟨tc, pc, sc⟩ := hc.ex
  obtain ⟨ta, pa, sa⟩ := ha.ex
  obtain ⟨tb, pb, sb⟩ := hb.ex
  refine ⟨_, ps_if pc pa pb, fun P F0 qc F cell S σ H D fl S' R hm k => ?_⟩
  unfold mIfS at hm
  split at hm
  · rename_i S1 e1
    refine sc P F0 qc F cell S σ H _ _ S1 R e1 fun F1 H1 f1 R1 => ?_
    rw [if_pos rfl]
    exact sa P F0 qc F1 cell S1 σ H1 D fl S' R1 hm fun F2 c2 σ2 H2 f2 R2 => k F2 c2 σ2 H2 (f1.trans f2) R2
  · rename_i S1 e1
    refine sc P F0 qc F cell S σ H _ _ S1 R e1 fun F1 H1 f1 R1 => ?_
    rw [if_neg Bool.false_ne_true]
    exact sb P F0 qc F1 cell S1 σ H1 D fl S' R1 hm fun F2 c2 σ2 H2 f2 R2 => k F2 c2 σ2 H2 (f1.trans f2) R2
  · cases hm
theorem js_set (i : Nat) (hN : X.N.Nodup) (he : JE X e me) (hi : X.N[i]? = some x := by rfl) (hx : Loc X.env.scope x := by first | exact Or.inl rfl | exact Or.inr rfl) (hs : swapsWith e (some (.Name x pos')) pos.line X.env = pure false := by rfl)
    (hf : X.fn x = true ∨ X.env.scope.names.lookup x = some .local := by first | exact .inl rfl | exact .inr rfl) : JS X W (.Assign [.Name x pos'] e pos) (mSet i me) := by
  obtain ⟨t, p, s⟩ := he.ex
  refine ⟨_, ps_set hN hi hx p hs hf, fun P F0 qc F cell S σ H D fl S' R hm k => ?_⟩
  unfold mSet at hm
  split at hm
  · rename_i d S1 e1
    cases hm
    exact s P F0 qc F cell S σ H _ _ S1 R e1 fun v F1 H1 f1 R1 q1 => k F1 cell _ H1 f1 (R1.setV q1)
  · cases hm
theorem js_aug (i : Nat) {op : Operator} {r : R2} {f : PyData → PyData → Option PyData} (ho : OpR X (inplaceOp op) r) (hs : OpS X.K r f) (hN : X.N.Nodup) (he : JE X e me) (hi : X.N[i]? = some x := by rfl) (hx : Loc X.env.scope x := by first | exact Or.inl rfl | exact Or.inr rfl)
    (hf : X.fn x = true ∨ X.env.scope.names.lookup x = some .local := by first | exact .inl rfl | exact .inr rfl) : JS X W (.AugAssign (.Name x pos') op e pos) (mAug i f me) := by
  obtain ⟨t, p, s⟩ := he.ex
  refine ⟨_, ps_aug (ti := r) hN hi hx p ho hf, fun P F0 qc F cell S σ H D fl S' R hm k => ?_⟩
  unfold mAug at hm
  split at hm
  · rename_i d e0
    split at hm
    · rename_i rr S1 e1
      split at hm
      · rename_i dd e2
        split at hm
        · rename_i z e3
          cases hm
          obtain ⟨v0, h1, h2⟩ := R.vl i d e0
          refine ⟨v0, h1, s P F0 qc F cell S σ H _ _ S1 R e1 fun v F1 H1 f1 R1 q1 => ?_⟩
          refine hs F1 H1 v0 v d dd z _ R1.fh (.inl (h2.mono f1)) (R1.deref q1 e2) e3 fun w F2 H2 ex dv => ?_
          exact k F2 cell _ H2 (f1.trans ex.f) ((R1.ext ex).setV dv)
        · cases hm
      · cases hm
    · cases hm
  · cases hm
abbrev rIAddA : R2 := fun x y H Q => (∃ i j, x = V.int i ∧ y = V.int j ∧ Q (V.int (i + j)) H) ∨ (∃ i j, x = .str i ∧ y = .str j ∧ i.length + j.length ≤ sizeLine ∧ Q (.str (i ++ j)) H)
theorem iop_addA : OpR X (inplaceOp .Add) rIAddA := OpR.or iop_add iop_add_str
def iaddD : PyData → PyData → Option PyData
  | .int i, .int j => some (.int (i + j))
  | .str a, .str b => if a.length + b.length ≤ 100000 then some (.str (a ++ b)) else none
  | _, _ => none
theorem ops_iadd {K : PySem.W.Frag} : OpS K rIAddA iaddD := by
  intro F H x y d e z Q fh hx hy hf k
  unfold iaddD at hf
  split at hf
  · cases hf
    exact .inl ⟨_, _, hx.int, hy.int, k _ _ _ (Ext.refl fh) (.int _)⟩
  · split at hf
    · rename_i hl
      cases hf
      exact .inr ⟨_, _, hx.str, hy.str, small5 hl, k _ _ _ (Ext.refl fh) (.str _)⟩
    · cases hf
  · cases hf
theorem js_iadd (i : Nat) (hN : X.N.Nodup) (he : JE X e me) (hi : X.N[i]? = some x := by rfl) (hx : Loc X.env.scope x := by first | exact Or.inl rfl | exact Or.inr rfl)
    (hf : X.fn x = true ∨ X.env.scope.names.lookup x = some .local := by first | exact .inl rfl | exact .inr rfl) : JS X W (.AugAssign (.Name x pos') .Add e pos) (mAug i iaddD me) := js_aug i iop_addA ops_iadd hN he hi hx hf
theorem held_var {S : Sl} {j : Nat} {xs : List PyData} (h : heldAt S j = some xs) : mVar j S = some (.p j, S) := by
  obtain ⟨y, h1, h2⟩ := held_of h
  unfold mVar
  rw [h1]
  cases y with
  | c z => rfl
  | q z => rfl
  | v d => cases h2
  | s ns => cases h2
theorem js_put {p1 : Pos} (j : Nat) (he : JE X e me) (hix : JE X a mi) (hN : X.N[j]? = some x := by rfl) (hv : Vis X.env.scope x := by first | exact Or.inl rfl | exact Or.inr (Or.inl rfl) | exact Or.inr (Or.inr rfl)) (hd : (x == ("__debug__" : Str)) = false := by decide)
    (hcd : (x == ("__classdict__" : Str)) = false := by decide)
    (hs : swapsWithSole [.Subscript (.Name x p1) a pos'] e pos.line X.env = pure false := by rfl) (hw : swappedStores [.Subscript (.Name x p1) a pos'] e X.env = pure none := by rfl)
    (h1 : (assignEach [.Subscript (.Name x p1) a pos'] X.env).map (·.2) = [assign (.Subscript (.Name x p1) a pos') X.env] := by rfl)
    (ha : ∀ v, assign (.Subscript (.Name x p1) a pos') X.env v = (do
      let ov ← holding [v] (eval (.Name x p1) X.env)
      let iv ← holding [v, ov] (eval a X.env)
      standAt pos'
      holding [v, ov, iv] (setItem ov iv v)
      release [v, ov, iv] []) := by intro _; rfl) : JS X W (.Assign [.Subscript (.Name x p1) a pos'] e pos) (mPut j mi me) := by
  obtain ⟨t, p, s⟩ := he.ex
  obtain ⟨ti, pi, si⟩ := hix.ex
  refine ⟨_, ps_asg p (pg_sub (pe_var hN hv hd hcd) pi set_list ha) hs hw h1, fun P F0 qc F cell S σ H D fl S' R hm k => ?_⟩
  unfold mPut at hm
  split at hm
  · rename_i d S1 e1
    split at hm
    · rename_i kk S2 e2
      split at hm
      · rename_i zs xs h3 h4
        split at hm
        · rename_i n h5
          cases hm
          refine s P F0 qc F cell S σ H _ _ S1 R e1 fun v F1 H1 f1 R1 q1 => ?_
          obtain ⟨g1, _⟩ := R1.at h3
          refine ⟨_, g1, si P F0 qc F1 cell S1 σ H1 _ _ S2 R1 e2 fun w F2 H2 f2 R2 q2 => ?_⟩
          obtain ⟨_, g2, g3, ws, g4, g5⟩ := R2.at h4
          cases (show DV X.K F2 w (.int kk) from q2)
          refine ⟨_, ws, kk, n, rfl, rfl, g4, by rw [g5.length]; exact h5, ?_⟩
          exact k F2 cell σ _ (f1.trans f2) (R2.mutate h4 (DVs.set (DV.mono f2 q1) n g5))
        · cases hm
      · cases hm
    · cases hm
  · cases hm
section
variable {p1 apos cpos : Pos}
theorem snd_bm1 {K : PySem.W.Frag} {id : String} {r : V → List V → Hp → VK → Prop} {te : TE} {j : Nat} {m : MS} (se : SndE K te me) (hmd : ∀ S fl S', m S = some (fl, S') → ∃ zs d S1, heldAt S j = some zs ∧ me S = some (.v d, S1) ∧ fl = .nx ∧ ∃ xs ys, heldAt S1 j = some xs ∧ S' = putAt S1 j ys ∧
    ∀ (F H : Hp) (c : Addr) (v : V) (ws : List V) (Q : VK), Same F H → H c = some (.lst ws) → DVs K F ws xs → DV K F v d → (∀ us u, DVs K F us ys → Q u (upd H c (.lst us))) → r (.ref c) [v] H Q) :
    SndS K W (tDrop (tBM K "list" r (tVar j) (tCons te tNil))) m := by
  intro P F0 qc F cell S σ H D fl S' R hm k
  obtain ⟨zs, d, S1, h1, h2, rfl, xs, ys, h3, rfl, hr⟩ := hmd S fl S' hm
  obtain ⟨g1, _, _, vs0, g0, _⟩ := R.at h1
  refine ⟨_, g1, .inl ⟨rfl, vs0, SqL.of g0⟩, ?_⟩
  refine se P F0 qc F cell S σ H _ _ S1 R h2 fun v F1 H1 f1 R1 q1 => ?_
  obtain ⟨_, _, _, ws, g4, g5⟩ := R1.at h3
  exact hr F1 H1 (cell j) v ws _ R1.fh g4 g5 q1 fun us u hu => k F1 cell σ _ f1 (R1.mutate h3 hu)
theorem js_app (j : Nat) (he : JE X e me) (hN : X.N[j]? = some x := by rfl) (hv : Vis X.env.scope x := by first | exact Or.inl rfl | exact Or.inr (Or.inl rfl) | exact Or.inr (Or.inr rfl)) (hd : (x == ("__debug__" : Str)) = false := by decide)
    (hcd : (x == ("__classdict__" : Str)) = false := by decide)
    (hbase : attributeBase (.Name x p1) "append" X.env (eval (.Name x p1) X.env) = eval (.Name x p1) X.env := by rfl)
    (hfew : ((backTo cpos (starEach [e] X.env)).all (fun x => !x.1) && (backToKw cpos (keywordEach [] X.env)).all (fun x => x.1.isSome)
      && decide ([e].length + ([] : List Keyword).length + (if ([] : List Keyword).isEmpty then 0 else 1) < 30)) = true := by rfl)
    (hline : (apos.endLine == cpos.line) = true := by rfl) (hst : starEach [e] X.env = (false, eval e X.env) :: starEach [] X.env := by rfl) (hplain : (backTo cpos (starEach [] X.env)).any (·.1) = false := by rfl)
    (hs : swapsWith (.Call (.Attribute (.Name x p1) "append" apos) [e] [] cpos) none pos.line X.env = pure false := by rfl) :
    JS X W (.Expr (.Call (.Attribute (.Name x p1) "append" apos) [e] [] cpos) pos) (mApp j me) := by
  obtain ⟨t, p, s⟩ := he.ex
  refine ⟨_, ps_expr (pe_bm PySem.F.plainAttrs_list PySem.F.slot_list_append PySem.F.type_list_append mt_append (pe_var hN hv hd hcd) (pa_cons p pa_nil hst) hbase hfew hline hst hplain) hs, snd_bm1 (id := "list.append") s fun S fl S' hm => ?_⟩
  unfold mApp at hm
  split at hm
  · rename_i zs h1
    split at hm
    · rename_i d S1 h2
      split at hm
      · rename_i xs h3
        split at hm
        · rename_i hl
          cases hm
          refine ⟨zs, d, S1, h1, h2, rfl, xs, _, h3, rfl, fun F H c v ws Q fh hc hws hv k => ?_⟩
          refine ⟨c, ws, v, rfl, rfl, hc, ?_, ?_⟩
          · rw [hws.length]
            exact Nat.lt_of_lt_of_le hl (by decide)
          · exact k _ _ (hws.append (.cons hv .nil))
        · cases hm
      · cases hm
    · cases hm
  · cases hm
theorem js_ext (j : Nat) (he : JE X e me) (hN : X.N[j]? = some x := by rfl) (hv : Vis X.env.scope x := by first | exact Or.inl rfl | exact Or.inr (Or.inl rfl) | exact Or.inr (Or.inr rfl)) (hd : (x == ("__debug__" : Str)) = false := by decide)
    (hcd : (x == ("__classdict__" : Str)) = false := by decide)
    (hbase : attributeBase (.Name x p1) "extend" X.env (eval (.Name x p1) X.env) = eval (.Name x p1) X.env := by rfl)
    (hfew : ((backTo cpos (starEach [e] X.env)).all (fun x => !x.1) && (backToKw cpos (keywordEach [] X.env)).all (fun x => x.1.isSome)
      && decide ([e].length + ([] : List Keyword).length + (if ([] : List Keyword).isEmpty then 0 else 1) < 30)) = true := by rfl)
    (hline : (apos.endLine == cpos.line) = true := by rfl) (hst : starEach [e] X.env = (false, eval e X.env) :: starEach [] X.env := by rfl) (hplain : (backTo cpos (starEach [] X.env)).any (·.1) = false := by rfl)
    (hs : swapsWith (.Call (.Attribute (.Name x p1) "extend" apos) [e] [] cpos) none pos.line X.env = pure false := by rfl) :
    JS X W (.Expr (.Call (.Attribute (.Name x p1) "extend" apos) [e] [] cpos) pos) (mExt j me) := by
  obtain ⟨t, p, s⟩ := he.ex
  refine ⟨_, ps_expr (pe_bm PySem.F.plainAttrs_list PySem.F.slot_list_extend PySem.F.type_list_extend mt_extend (pe_var hN hv hd hcd) (pa_cons p pa_nil hst) hbase hfew hline hst hplain) hs, snd_bm1 (id := "list.extend") s fun S fl S' hm => ?_⟩
  unfold mExt at hm
  split at hm
  · rename_i zs h1
    split at hm
    · rename_i ys S1 h2
      split at hm
      · rename_i xs h3
        split at hm
        · rename_i hl
          cases hm
          refine ⟨zs, _, S1, h1, h2, rfl, xs, _, h3, rfl, fun F H c v ws Q fh hc hws hv k => ?_⟩
          cases hv with
          | lst g1 g2 =>
            refine ⟨c, _, ws, _, rfl, rfl, hc, fh _ _ g1, ?_, ?_⟩
            · rw [hws.length, g2.length]
              exact small5 hl
            · exact k _ _ (hws.append g2)
        · cases hm
      · cases hm
    · cases hm
  · cases hm
theorem js_popAt (j : Nat) (he : JE X e me) (hN : X.N[j]? = some x := by rfl) (hv : Vis X.env.scope x := by first | exact Or.inl rfl | exact Or.inr (Or.inl rfl) | exact Or.inr (Or.inr rfl)) (hd : (x == ("__debug__" : Str)) = false := by decide)
    (hcd : (x == ("__classdict__" : Str)) = false := by decide)
    (hbase : attributeBase (.Name x p1) "pop" X.env (eval (.Name x p1) X.env) = eval (.Name x p1) X.env := by rfl)
    (hfew : ((backTo cpos (starEach [e] X.env)).all (fun x => !x.1) && (backToKw cpos (keywordEach [] X.env)).all (fun x => x.1.isSome)
      && decide ([e].length + ([] : List Keyword).length + (if ([] : List Keyword).isEmpty then 0 else 1) < 30)) = true := by rfl)
    (hline : (apos.endLine == cpos.line) = true := by rfl) (hst : starEach [e] X.env = (false, eval e X.env) :: starEach [] X.env := by rfl) (hplain : (backTo cpos (starEach [] X.env)).any (·.1) = false := by rfl)
    (hs : swapsWith (.Call (.Attribute (.Name x p1) "pop" apos) [e] [] cpos) none pos.line X.env = pure false := by rfl) :
    JS X W (.Expr (.Call (.Attribute (.Name x p1) "pop" apos) [e] [] cpos) pos) (mPopAt j me) := by
  obtain ⟨t, p, s⟩ := he.ex
  refine ⟨_, ps_expr (pe_bm PySem.F.plainAttrs_list PySem.F.slot_list_pop PySem.F.type_list_pop mt_popAt (pe_var hN hv hd hcd) (pa_cons p pa_nil hst) hbase hfew hline hst hplain) hs, snd_bm1 (id := "list.pop") s fun S fl S' hm => ?_⟩
  unfold mPopAt at hm
  split at hm
  · rename_i zs h1
    split at hm
    · rename_i kk S1 h2
      split at hm
      · rename_i xs h3
        split at hm
        · rename_i nn h4
          split at hm
          · rename_i hl
            cases hm
            refine ⟨zs, _, S1, h1, h2, rfl, xs, _, h3, rfl, fun F H c v ws Q fh hc hws hv k => ?_⟩
            cases hv
            obtain ⟨q1, q2, q3, q4⟩ := ixN_seq h4
            have hn : nn < ws.length := by rw [hws.length]; exact q2
            refine ⟨c, ws, kk, nn, ws[nn], rfl, rfl, hc, by omega, by omega, by rw [hws.length]; exact q1, by simp [hn], ?_⟩
            exact k _ _ (hws.eraseIdx nn)
          · cases hm
        · cases hm
      · cases hm
    · cases hm
  · cases hm
end
end
end VL

set_option Elab.async false
set_option linter.all false
set_option maxRecDepth 100000
set_option maxHeartbeats 4000000
/-! VL9: walks, for, comprehensions, targets; a def by its body. -/
namespace VL
open PySem PySem.Spec PyProof.Rows L2

/-! ### what a for walks -/
structure ItOk (K : PySem.W.Frag) (J : It) (F : Hp) (ds : List PyData) : Prop where
  ex : ∃ (G : Hp → Prop) (Y : Nat → Hp → V → Hp → Prop), Walk J ds.length G Y ∧ (∀ H, Same F H → G H) ∧
    ∀ (i : Nat) (H : Hp) (x : V) (H' F2 : Hp) (d : PyData), Same F F2 → Same F2 H → ds[i]? = some d → Y i H x H' → ∃ F3, Ext F2 H F3 H' ∧ DV K F3 x d
abbrev MI := Sl → Option (List PyData × Sl)
def SndI (K : PySem.W.Frag) (wi : TI) (m : MI) : Prop :=
  ∀ (P F0 : Hp) (qc : Nat → Addr) (F : Hp) (cell : Nat → Addr) (S : Sl) (σ : L2.St) (H : Hp) (R : It → Hp → Prop) (ds : List PyData) (S' : Sl), RC K P F0 qc F cell S σ H → m S = some (ds, S') →
    (∀ J F' H', Same F F' → RC K P F0 qc F' cell S' σ H' → ItOk K J F' ds → R J H') → wi σ H R
structure JI (X : Cx) (tg iter : Expr) (m : MI) : Prop where
  ex : ∃ wi, PI X tg iter wi ∧ SndI X.K wi m
theorem PI.or {X : Cx} {tg iter : Expr} {w1 w2 : TI} (h1 : PI X tg iter w1) (h2 : PI X tg iter w2) : PI X tg iter (fun σ H R => w1 σ H R ∨ w2 σ H R) :=
  ⟨fun pins s σ H R I h => by
    rcases h with h | h
    · exact h1.run pins s σ H R I h
    · exact h2.run pins s σ H R I h⟩
section
variable {K : PySem.W.Frag} {F : Hp} {vs : List V} {ds : List PyData} {a : Addr}
theorem itok_list (h : F a = some (.lst vs)) (hv : DVs K F vs ds) : ItOk K (Itl K a) F ds := by
  refine ⟨_, _, by rw [← hv.length]; exact walk_list (a := a) (xs := vs), fun H e => SqL.of (e _ _ h), fun i H x H' F2 d e1 e2 hd y => ?_⟩
  obtain ⟨rfl, hx⟩ := y
  obtain ⟨v, g1, g2⟩ := hv.get hd
  rw [hx] at g1
  cases g1
  exact ⟨F2, Ext.refl e2, g2.mono e1⟩
theorem itok_tup (h : SqT K F a vs) (hv : DVs K F vs ds) : ItOk K (Itt K a) F ds := by
  refine ⟨_, _, by rw [← hv.length]; exact walk_tup (a := a) (xs := vs), fun H e => sqT_mono e h, fun i H x H' F2 d e1 e2 hd y => ?_⟩
  obtain ⟨rfl, hx⟩ := y
  obtain ⟨v, g1, g2⟩ := hv.get hd
  rw [hx] at g1
  cases g1
  exact ⟨F2, Ext.refl e2, g2.mono e1⟩
/-- the signs of a text -/
def signsD (z : Str) : List PyData := z.cps.toList.map fun c => .str ⟨#[c]⟩
theorem itok_str (z : Str) : ItOk K (Its z) F (signsD z) := by
  refine ⟨_, _, by unfold signsD; rw [List.length_map, Array.length_toList]; exact walk_str, fun _ _ => trivial, fun i H x H' F2 d e1 e2 hd y => ?_⟩
  obtain ⟨rfl, c, hc, rfl⟩ := y
  unfold signsD at hd
  rw [List.getElem?_map, Array.getElem?_toList, hc] at hd
  cases hd
  exact ⟨F2, Ext.refl e2, .str _⟩
def rngD (lo : Int) (n : Nat) : List PyData := (List.range n).map fun i => .int (lo + (i : Nat))
theorem itok_rng (lo : Int) (n : Nat) : ItOk K (Itr lo n) F (rngD lo n) := by
  refine ⟨_, _, by unfold rngD; rw [List.length_map, List.length_range]; exact walk_range, fun _ _ => trivial, fun i H x H' F2 d e1 e2 hd y => ?_⟩
  obtain ⟨rfl, rfl⟩ := y
  unfold rngD at hd
  rw [List.getElem?_map] at hd
  cases q : (List.range n)[i]? with
  | none => rw [q] at hd; cases hd
  | some j =>
    rw [q] at hd
    have hj : j = i := by
      have := List.getElem?_eq_some_iff.mp q
      obtain ⟨h1, h2⟩ := this
      simpa using h2.symm
    subst hj
    cases hd
    exact ⟨F2, Ext.refl e2, .int _⟩
def enumD (ds : List PyData) : List PyData := ds.mapIdx fun i d => .tuple [.int (i : Nat), d]
theorem itok_enum (h : F a = some (.lst vs)) (hv : DVs K F vs ds) : ItOk K (Ite K a) F (enumD ds) := by
  have hl : (enumD ds).length = vs.length := by unfold enumD; rw [List.length_mapIdx, hv.length]
  refine ⟨_, _, by rw [hl]; exact walk_enum (a := a) (xs := vs), fun H e => SqL.of (e _ _ h), fun i H x H' F2 d e1 e2 hd y => ?_⟩
  obtain ⟨T, x1, x2, rfl, hT, rfl, g1, g2⟩ := y
  cases g1
  obtain ⟨dd, g3, g4⟩ := hv.got g2
  unfold enumD at hd
  rw [List.getElem?_mapIdx, g3] at hd
  cases hd
  refine ⟨upd F2 T (.tup [.int (i : Nat), x2]), Ext.new e2 hT, ?_⟩
  exact .tup (SqT.of upd_same) (.cons (.int _) (.cons ((g4.mono e1).mono (same_new (e2.free hT))) .nil))
end
def mIt (me : ME) : MI := fun S => match me S with
  | some (.v (.list ds), S1) => some (ds, S1)
  | some (.v (.tuple ds), S1) => some (ds, S1)
  | some (.v (.str z), S1) => some (signsD z, S1)
  | _ => none
def mRng1 (ma : MA) : MI := fun S => match ma S with
  | some ([.v (.int j)], S1) => if -(2 ^ 62) ≤ j ∧ j < 2 ^ 62 then some (rngD 0 j.toNat, S1) else none
  | _ => none
def mRng2 (ma : MA) : MI := fun S => match ma S with
  | some ([.v (.int i), .v (.int j)], S1) => if -(2 ^ 62) ≤ i ∧ i < 2 ^ 62 ∧ -(2 ^ 62) ≤ j ∧ j < 2 ^ 62 then some (rngD i (j - i).toNat, S1) else none
  | _ => none
def mEnum (ma : MA) : MI := fun S => match ma S with
  | some ([.v (.list ds)], S1) => some (enumD ds, S1)
  | _ => none
section
variable {X : Cx} {tg e a b : Expr} {me : ME} {mas : MA} {pos p tpos : Pos}
theorem ji_any (he : JE X e me) : JI X tg e (mIt me) := by
  obtain ⟨t, pe, s⟩ := he.ex
  refine ⟨_, PI.or (pi_list pe) (PI.or (pi_tup pe) (pi_str pe)), fun P F0 qc F cell S σ H R ds S' RR hm k => ?_⟩
  unfold mIt at hm
  split at hm
  · rename_i ds' S1 e1
    cases hm
    refine .inl (s P F0 qc F cell S σ H _ _ S' RR e1 fun v F1 H1 f1 R1 q1 => ?_)
    cases (show DV X.K F1 v (.list ds) from q1) with
    | lst g1 g2 => exact ⟨_, rfl, ⟨_, SqL.of (R1.fh _ _ g1)⟩, k _ F1 H1 f1 R1 (itok_list g1 g2)⟩
  · rename_i ds' S1 e1
    cases hm
    refine .inr (.inl (s P F0 qc F cell S σ H _ _ S' RR e1 fun v F1 H1 f1 R1 q1 => ?_))
    cases (show DV X.K F1 v (.tuple ds) from q1) with
    | tup g1 g2 => exact ⟨_, rfl, ⟨_, sqT_mono R1.fh g1⟩, k _ F1 H1 f1 R1 (itok_tup g1 g2)⟩
  · rename_i z S1 e1
    cases hm
    refine .inr (.inr (s P F0 qc F cell S σ H _ _ S' RR e1 fun v F1 H1 f1 R1 q1 => ?_))
    cases (show DV X.K F1 v (.str z) from q1)
    exact ⟨z, rfl, k _ F1 H1 f1 R1 (itok_str z)⟩
  · cases hm
theorem ji_rng1 (hm : X.mg "range" = none) (ha : JA X [a] mas) (hg : Gl X "range" := by rfl) (hs : starEach [a] X.env = [(false, eval a X.env)] := by rfl) : JI X tg (.Call (.Name "range" p) [a] [] pos) (mRng1 mas) := by
  obtain ⟨t, pa, s⟩ := ha.ex
  refine ⟨_, pi_range1 hg hm pa hs, fun P F0 qc F cell S σ H R ds S' RR hm k => ?_⟩
  unfold mRng1 at hm
  split at hm
  · rename_i j S1 e1
    split at hm
    · rename_i hl
      cases hm
      refine s P F0 qc F cell S σ H _ _ S' RR e1 fun vs F1 H1 f1 R1 q1 => ?_
      obtain ⟨v, ws, rfl, g1, g2⟩ := q1
      cases (show ws = [] from g2)
      cases (show DV X.K F1 v (.int j) from g1)
      exact ⟨j, rfl, hl.1, hl.2, k _ F1 H1 f1 R1 (itok_rng 0 _)⟩
    · cases hm
  · cases hm
theorem ji_rng2 (hm : X.mg "range" = none) (ha : JA X [a, b] mas) (hg : Gl X "range" := by rfl) (hs : starEach [a, b] X.env = [(false, eval a X.env), (false, eval b X.env)] := by rfl) (hs2 : starEach [b] X.env = [(false, eval b X.env)] := by rfl) : JI X tg (.Call (.Name "range" p) [a, b] [] pos) (mRng2 mas) := by
  obtain ⟨t, pa, s⟩ := ha.ex
  refine ⟨_, pi_range2 hg hm pa hs hs2, fun P F0 qc F cell S σ H R ds S' RR hm k => ?_⟩
  unfold mRng2 at hm
  split at hm
  · rename_i i j S1 e1
    split at hm
    · rename_i hl
      cases hm
      refine s P F0 qc F cell S σ H _ _ S' RR e1 fun vs F1 H1 f1 R1 q1 => ?_
      obtain ⟨v, ws, rfl, g1, w, us, rfl, g2, g3⟩ := q1
      cases (show us = [] from g3)
      cases (show DV X.K F1 v (.int i) from g1)
      cases (show DV X.K F1 w (.int j) from g2)
      exact ⟨i, j, rfl, hl, k _ F1 H1 f1 R1 (itok_rng i _)⟩
    · cases hm
  · cases hm
theorem ji_enum {elts : List Expr} {kk : Nat} (hm : X.mg "enumerate" = none) (ha : JA X [e] mas) (hg : Gl X "enumerate" := by rfl) (hs : starEach [e] X.env = [(false, eval e X.env)] := by rfl) : JI X (.Tuple elts kk tpos) (.Call (.Name "enumerate" p) [e] [] pos) (mEnum mas) := by
  obtain ⟨t, pa, s⟩ := ha.ex
  refine ⟨_, pi_enum hg hm pa hs, fun P F0 qc F cell S σ H R ds S' RR hm k => ?_⟩
  unfold mEnum at hm
  split at hm
  · rename_i ds' S1 e1
    cases hm
    refine s P F0 qc F cell S σ H _ _ S' RR e1 fun vs F1 H1 f1 R1 q1 => ?_
    obtain ⟨v, ws, rfl, g1, g2⟩ := q1
    cases (show ws = [] from g2)
    cases (show DV X.K F1 v (.list ds') from g1) with
    | lst g3 g4 => exact ⟨_, _, rfl, SqL.of (R1.fh _ _ g3), k _ F1 H1 f1 R1 (itok_enum g3 g4)⟩
  · cases hm
end

/-! ### targets -/
abbrev MG := PyData → Sl → Option Sl
def SndG (K : PySem.W.Frag) (g : TG) (m : MG) (ts : List Nat) : Prop :=
  ∀ (P F0 : Hp) (qc : Nat → Addr) (F : Hp) (cell : Nat → Addr) (S : Sl) (σ : L2.St) (H : Hp) (Q : L2.St → Hp → Prop) (x : V) (d : PyData) (S' : Sl), RC K P F0 qc F cell S σ H → DV K F x d → m d S = some S' →
    (∀ σ', RC K P F0 qc F cell S' σ' H → (∀ vs : List Nat, (∀ i ∈ ts, i ∈ vs) → wipe σ' vs = wipe σ vs) → Q σ' H) → g x σ H Q
structure JG (X : Cx) (tg : Expr) (m : MG) (ts : List Nat) : Prop where
  ex : ∃ g, PG X tg g ∧ SndG X.K g m ts
structure JGs (X : Cx) (tgs : List Expr) (n : Nat) (m : List PyData → Sl → Option Sl) (ts : List Nat) : Prop where
  ex : tgs.length = n ∧ ∃ g, PGs X tgs g ∧ ∀ (P F0 : Hp) (qc : Nat → Addr) (F : Hp) (cell : Nat → Addr) (S : Sl) (σ : L2.St) (H : Hp) (Q : L2.St → Hp → Prop) (xs : List V) (ds : List PyData) (S' : Sl), RC X.K P F0 qc F cell S σ H → DVs X.K F xs ds → m ds S = some S' →
    (∀ σ', RC X.K P F0 qc F cell S' σ' H → (∀ vs : List Nat, (∀ i ∈ ts, i ∈ vs) → wipe σ' vs = wipe σ vs) → Q σ' H) → g xs σ H Q
def gSet (i : Nat) : MG := fun d S => some (S.set i (some (.v d)))
def gsNil : List PyData → Sl → Option Sl := fun ds S => match ds with
  | [] => some S
  | _ => none
def gsCons (m : MG) (ms : List PyData → Sl → Option Sl) : List PyData → Sl → Option Sl := fun ds S => match ds with
  | d :: ds => match m d S with
    | some S1 => ms ds S1
    | none => none
  | [] => none
def gTupM (n : Nat) (ms : List PyData → Sl → Option Sl) : MG := fun d S => match d with
  | .tuple ds => if ds.length = n then ms ds S else none
  | _ => none
theorem wipe_set {σ : L2.St} {i : Nat} {x : Option V} : ∀ {vs : List Nat}, i ∈ vs → wipe (σ.set i x) vs = wipe σ vs
  | [], h => by cases h
  | v :: vs, h => by
    unfold wipe
    by_cases hi : i ∈ vs
    · rw [wipe_set hi]
    · have e : i = v := by
        rcases List.mem_cons.mp h with e | e
        · exact e
        · exact absurd e hi
      subst e
      have aux : ∀ (vs : List Nat), i ∉ vs → wipe (σ.set i x) vs = (wipe σ vs).set i x := by
        intro vs
        induction vs with
        | nil => intro _; rfl
        | cons u vs ih =>
          intro hn
          unfold wipe
          have h1 : i ≠ u := fun e => hn (e ▸ List.mem_cons_self)
          have h2 : i ∉ vs := fun e => hn (List.mem_cons_of_mem _ e)
          rw [ih h2, List.set_comm _ _ h1]
      rw [aux vs hi, List.set_set]
section
variable {X : Cx} {tg : Expr} {tgs : List Expr} {x : Str} {pos : Pos} {m : MG} {ms : List PyData → Sl → Option Sl} {ts us : List Nat} {n : Nat}
theorem jg_name (i : Nat) (hN : X.N.Nodup) (hi : X.N[i]? = some x := by rfl) (hx : Loc X.env.scope x := by first | exact Or.inl rfl | exact Or.inr rfl) (hf : X.fn x = true ∨ X.env.scope.names.lookup x = some .local := by first | exact .inl rfl | exact .inr rfl) : JG X (.Name x pos) (gSet i) [i] :=
  ⟨_, pg_name hN hi hx hf, fun P F0 qc F cell S σ H Q y d S' R hd hm k => by
    cases hm
    exact k _ (R.setV hd) fun vs hv => wipe_set (hv i (by simp))⟩
theorem jgs_nil : JGs X [] 0 gsNil [] := ⟨rfl, _, pgs_nil, fun P F0 qc F cell S σ H Q xs ds S' R hd hm k => by
  cases hd with
  | nil =>
    cases hm
    exact ⟨rfl, k σ R fun _ _ => rfl⟩
  | cons _ _ => cases hm⟩
theorem jgs_cons (h : JG X tg m ts) (hs : JGs X tgs n ms us) (he : (assignEach (tg :: tgs) X.env).map (·.2) = assign tg X.env :: (assignEach tgs X.env).map (·.2) := by rfl) : JGs X (tg :: tgs) (n + 1) (gsCons m ms) (ts ++ us) := by
  obtain ⟨g, pg, sg⟩ := h.ex
  obtain ⟨hl, gs, pgs, sgs⟩ := hs.ex
  refine ⟨by rw [List.length_cons, hl], _, pgs_cons pg pgs he, fun P F0 qc F cell S σ H Q xs ds S' R hd hm k => ?_⟩
  cases hd with
  | nil => cases hm
  | cons h1 h2 =>
    rename_i x0 vs0 d0 ds0
    unfold gsCons at hm
    cases e1 : m d0 S with
    | none => simp only [e1] at hm; cases hm
    | some S1 =>
      simp only [e1] at hm
      refine ⟨_, _, rfl, sg P F0 qc F cell S σ H _ _ _ S1 R h1 e1 fun σ1 R1 w1 => ?_⟩
      refine sgs P F0 qc F cell S1 σ1 H Q _ _ S' R1 h2 hm fun σ2 R2 w2 => k σ2 R2 fun vs hv => ?_
      rw [w2 vs fun i hi => hv i (List.mem_append_right _ hi), w1 vs fun i hi => hv i (List.mem_append_left _ hi)]
theorem jg_tup {k : Nat} (hc : X.calm = true) (hs : JGs X tgs n ms ts) (hn : (assignEach tgs X.env).length = n := by rfl) (hst : (assignEach tgs X.env).findIdx? (·.1) = none := by rfl) : JG X (.Tuple tgs k pos) (gTupM n ms) ts := by
  obtain ⟨hl, gs, pgs, sgs⟩ := hs.ex
  refine ⟨_, pg_tup hc pgs hn hst, fun P F0 qc F cell S σ H Q y d S' R hd hm kk => ?_⟩
  unfold gTupM at hm
  split at hm
  · split at hm
    · rename_i hln
      cases hd with
      | tup h1 h2 =>
        exact ⟨_, _, rfl, sqT_mono R.fh h1, by rw [h2.length]; exact hln, sgs P F0 qc F cell S σ H Q _ _ S' R h2 hm kk⟩
    · cases hm
  · cases hm
end

/-! ### for -/
def forM (g : MG) (mb : MS) : List PyData → Sl → Option (Fl × Sl)
  | [], S => some (.nx, S)
  | d :: ds, S => match g d S with
    | none => none
    | some S1 => match mb S1 with
      | some (.nx, S2) => forM g mb ds S2
      | some (.ct, S2) => forM g mb ds S2
      | some (.bk, S2) => some (.nx, S2)
      | some (.rt r, S2) => some (.rt r, S2)
      | some (.rz c fs, S2) => some (.rz c fs, S2)
      | none => none
def mFor (mi : MI) (g : MG) (mb : MS) : MS := fun S => match mi S with
  | some (ds, S1) => forM g mb ds S1
  | none => none
section
variable {X : Cx} {W : WX} {tg iter : Expr} {body : List Stmt} {mi : MI} {g : MG} {mb : MS} {ts : List Nat} {pos : Pos}
theorem drop_cons {α : Type} {l : List α} {i : Nat} (h : i < l.length) : ∃ d, l[i]? = some d ∧ l.drop i = d :: l.drop (i + 1) := ⟨l[i], by simp [h], (List.drop_eq_getElem_cons h)⟩
theorem js_for (hc : X.calm = true) (hi : JI X tg iter mi) (hg : JG X tg g ts) (hb : JB X W body mb) (hp : PassesOwn (model X.prog X.w) X.A X.env X.xe := by exact PassesOwn.never) (hs : ∀ x, foldedSetIterable iter X.env x = pure x := by intro _; rfl) : JS X W (.For tg iter body [] pos) (mFor mi g mb) := by
  obtain ⟨wi, pi, si⟩ := hi.ex
  obtain ⟨gg, pg, sg⟩ := hg.ex
  obtain ⟨tb, pb, sb⟩ := hb.ex
  refine ⟨_, ps_for hp hc pi pg pb hs, fun P F0 qc F cell S σ H D fl S' R hm k => ?_⟩
  unfold mFor at hm
  split at hm
  · rename_i ds S1 e1
    refine si P F0 qc F cell S σ H _ ds S1 R e1 fun J F1 H1 f1 R1 ok => ?_
    obtain ⟨G, Y, w, hG, hY⟩ := ok.ex
    refine for_it w (fun i σ' H' => ∃ F2 c2 S2, Same F1 F2 ∧ RC X.K P F0 qc F2 c2 S2 σ' H' ∧ forM g mb (ds.drop i) S2 = some (fl, S')) ⟨F1, cell, S1, Same.refl _, R1, hm⟩ (fun i σ' H' _ ⟨F2, c2, S2, f2, R2, _⟩ => hG H' (f2.trans R2.fh)) (fun i x σ' H' H'' hlt ⟨F2, c2, S2, f2, R2, e2⟩ y => ?_) fun σ' H' ⟨F2, c2, S2, f2, R2, e2⟩ => ?_
    · obtain ⟨d, hd, hdr⟩ := drop_cons hlt
      rw [hdr] at e2
      unfold forM at e2
      obtain ⟨F3, ex, dv⟩ := hY i H' x H'' F2 d f2 R2.fh hd y
      have R3 := R2.ext ex
      split at e2
      · cases e2
      · rename_i S3 e3
        refine sg P F0 qc F3 c2 S2 σ' H'' _ x d S3 R3 dv e3 fun σ3 R4 _ => ?_
        split at e2
        · rename_i S4 e4
          refine sb P F0 qc F3 c2 S3 σ3 H'' _ .nx S4 R4 e4 fun F5 c5 σ5 H5 f5 R5 => ?_
          exact ⟨F5, c5, S4, (f2.trans ex.f).trans f5, R5, e2⟩
        · rename_i S4 e4
          refine sb P F0 qc F3 c2 S3 σ3 H'' _ .ct S4 R4 e4 fun F5 c5 σ5 H5 f5 R5 => ?_
          exact ⟨F5, c5, S4, (f2.trans ex.f).trans f5, R5, e2⟩
        · rename_i S4 e4
          cases e2
          refine sb P F0 qc F3 c2 S3 σ3 H'' _ .bk S' R4 e4 fun F5 c5 σ5 H5 f5 R5 => ?_
          exact k F5 c5 σ5 H5 (f1.trans ((f2.trans ex.f).trans f5)) R5
        · rename_i r S4 e4
          cases e2
          refine sb P F0 qc F3 c2 S3 σ3 H'' _ (.rt r) S' R4 e4 fun F5 c5 σ5 H5 f5 R5 => ?_
          exact k F5 c5 σ5 H5 (f1.trans ((f2.trans ex.f).trans f5)) R5
        · rename_i c fs S4 e4
          cases e2
          refine sb P F0 qc F3 c2 S3 σ3 H'' _ (.rz c fs) S' R4 e4 fun F5 c5 σ5 H5 f5 R5 => ?_
          exact k F5 c5 σ5 H5 (f1.trans ((f2.trans ex.f).trans f5)) R5
        · cases e2
    · rw [List.drop_length] at e2
      cases e2
      exact k F2 c2 σ' H' (f1.trans f2) R2
  · cases hm
end

/-! ### a def by its body -/
def startS (n : Nat) (as : List SL) : Sl := as.map some ++ List.replicate (n - as.length) none
def asOut : List SL → Sl → Option (List SL)
  | [], _ => some []
  | .q _ :: as, some (.q xs) :: S => (asOut as S).map (.q xs :: ·)
  | .q _ :: _, _ => none
  | a :: as, _ :: S => (asOut as S).map (a :: ·)
  | _ :: _, [] => none
def defM (n : Nat) (m : MS) : MF := fun as => match m (startS n as) with
  | some (.rt (.v d), S) => match asOut as S with
    | some as' => some (d, as')
    | none => none
  | some (.nx, S) => match asOut as S with
    | some as' => some (.none, as')
    | none => none
  | _ => none
theorem asOut_q : ∀ {as : List SL} {S : Sl} {as' : List SL} {j : Nat} {xs : List PyData}, asOut as S = some as' → as'[j]? = some (.q xs) → S[j]? = some (some (.q xs)) ∧ ∃ ys, as[j]? = some (.q ys)
  | [], S, as', j, xs, h, e => by cases h; simp at e
  | a :: as, [], as', j, xs, h, e => by
    cases a <;> simp [asOut] at h
  | a :: as, s :: S, as', j, xs, h, e => by
    have key : ∀ (b : SL), (asOut as S).map (b :: ·) = some as' → (b = .q xs ∨ j ≠ 0 → True) → (j = 0 → b = .q xs) ∧ (∀ j', j = j' + 1 → S[j']? = some (some (.q xs)) ∧ ∃ ys, as[j']? = some (.q ys)) := by
      intro b hb _
      obtain ⟨as2, h2, rfl⟩ := Option.map_eq_some_iff.mp hb
      refine ⟨fun hj => ?_, fun j' hj => ?_⟩
      · subst hj
        simpa using e
      · subst hj
        exact asOut_q h2 (by simpa using e)
    cases a with
    | q zs =>
      cases s with
      | none => simp [asOut] at h
      | some s =>
        cases s with
        | q ws =>
          obtain ⟨k1, k2⟩ := key (.q ws) (by simpa [asOut] using h) (fun _ => trivial)
          cases j with
          | zero =>
            have := k1 rfl
            cases this
            exact ⟨rfl, zs, rfl⟩
          | succ j =>
            obtain ⟨q1, ys, q2⟩ := k2 j rfl
            exact ⟨by simpa using q1, ys, by simpa using q2⟩
        | _ => simp [asOut] at h
    | v d =>
      obtain ⟨k1, k2⟩ := key (.v d) (by simpa [asOut] using h) (fun _ => trivial)
      cases j with
      | zero => cases k1 rfl
      | succ j =>
        obtain ⟨q1, ys, q2⟩ := k2 j rfl
        exact ⟨by simpa using q1, ys, by simpa using q2⟩
    | c d =>
      obtain ⟨k1, k2⟩ := key (.c d) (by simpa [asOut] using h) (fun _ => trivial)
      cases j with
      | zero => cases k1 rfl
      | succ j =>
        obtain ⟨q1, ys, q2⟩ := k2 j rfl
        exact ⟨by simpa using q1, ys, by simpa using q2⟩
    | s d =>
      obtain ⟨k1, k2⟩ := key (.s d) (by simpa [asOut] using h) (fun _ => trivial)
      cases j with
      | zero => cases k1 rfl
      | succ j =>
        obtain ⟨q1, ys, q2⟩ := k2 j rfl
        exact ⟨by simpa using q1, ys, by simpa using q2⟩
/-- the address of an argument -/
def adr (vs : List V) (j : Nat) : Addr := match vs[j]? with
  | some (.ref a) => a
  | _ => 0
open Classical in
/-- at a def's entry -/
theorem rc_start {K : PySem.W.Frag} {F H : Hp} {as : List SL} {vs : List V} {N : List Str} (fh : Same F H) (ft : Fits K F H as vs) (hn : as.length ≤ N.length) :
    ∃ P : Hp, (∀ b o, H b = some o → (∀ (j : Nat) (xs : List PyData), as[j]? = some (.q xs) → vs[j]? ≠ some (.ref b)) → P b = some o) ∧ (∀ b, P b = none → H b = none ∨ ∃ (j : Nat) (xs : List PyData), as[j]? = some (.q xs) ∧ vs[j]? = some (.ref b)) ∧
    RC K P F (adr vs) F (adr vs) (startS N.length as) (L2.start N vs) H := by
  refine ⟨fun b => if ∃ (j : Nat) (xs : List PyData), as[j]? = some (.q xs) ∧ vs[j]? = some (.ref b) then none else H b, fun b o e hno => ?_, fun b e => ?_, ?_⟩
  · show (if _ then _ else _) = _
    rw [if_neg]
    · exact e
    · rintro ⟨j, xs, h1, h2⟩
      exact hno j xs h1 h2
  · by_cases q : ∃ (j : Nat) (xs : List PyData), as[j]? = some (.q xs) ∧ vs[j]? = some (.ref b)
    · exact .inr q
    · replace e : (if _ then _ else _) = _ := e
      rw [if_neg q] at e
      exact .inl e
  have at_ : ∀ {i : Nat} {x : SL}, (startS N.length as)[i]? = some (some x) → as[i]? = some x := fun {i x} h => by
    unfold startS at h
    by_cases hi : i < as.length
    · rw [List.getElem?_append_left (by simpa using hi), List.getElem?_map] at h
      cases e : as[i]? with
      | none => rw [e] at h; cases h
      | some a => rw [e] at h; cases h; rfl
    · rw [List.getElem?_append_right (by simpa using hi), List.getElem?_replicate] at h
      split at h <;> cases h
  have slot : ∀ {i : Nat} {v : V}, vs[i]? = some v → (L2.start N vs)[i]? = some (some v) := fun {i v} h => by
    unfold L2.start
    have hi : i < vs.length := (List.getElem?_eq_some_iff.mp h).1
    rw [List.getElem?_append_left (by simpa using hi), List.getElem?_map, h]
    rfl
  have isq : ∀ {x : SL} {xs : List PyData} {i : Nat} {v : V}, x.held = some xs → ArgR K F H x v → x = .q xs := fun {x xs i v} h ha => by
    cases x with
    | q zs => cases h; rfl
    | c zs => exact ha.elim
    | v d => cases h
    | s ns => cases h
  refine ⟨?_, Same.refl _, fh, fun b o e => ?_, fun b z => .inl z, fun i d h => ?_, fun i ns h => ?_, fun i x xs h hx => ?_, fun i xs h => rfl, fun i j x y h1 h2 hx hy he => ?_⟩
  · unfold startS L2.start
    rw [List.length_append, List.length_append, List.length_map, List.length_map, List.length_replicate, List.length_replicate, ft.len]
  · by_cases q : ∃ (j : Nat) (xs : List PyData), as[j]? = some (.q xs) ∧ vs[j]? = some (.ref b)
    · replace e : (if _ then _ else _) = _ := e
      rw [if_pos q] at e
      cases e
    · replace e : (if _ then _ else _) = _ := e
      rw [if_neg q] at e
      exact e
  · obtain ⟨v, h1, h2⟩ := ft.arg i _ (at_ h)
    exact ⟨v, slot h1, h2⟩
  · obtain ⟨v, h1, h2⟩ := ft.arg i _ (at_ h)
    exact ⟨v, slot h1, h2⟩
  · obtain ⟨v, h1, h2⟩ := ft.arg i _ (at_ h)
    have e := isq (i := i) hx h2
    subst e
    obtain ⟨c, ws, rfl, g1, g2, g3⟩ := h2
    have ec : adr vs i = c := by unfold adr; rw [h1]
    rw [ec]
    exact ⟨slot h1, g1, (if_pos ⟨i, xs, at_ h, h1⟩), ws, g2, g3⟩
  · obtain ⟨v, g1, g2⟩ := ft.arg i _ (at_ h1)
    obtain ⟨u, g3, g4⟩ := ft.arg j _ (at_ h2)
    obtain ⟨xs, hx'⟩ := Option.isSome_iff_exists.mp hx
    obtain ⟨ys, hy'⟩ := Option.isSome_iff_exists.mp hy
    have e1 := isq (i := i) hx' g2
    have e2 := isq (i := j) hy' g4
    subst e1
    subst e2
    obtain ⟨c, ws, rfl, _⟩ := g2
    obtain ⟨c', ws', rfl, _⟩ := g4
    have ec : adr vs i = c := by unfold adr; rw [g1]
    have ec' : adr vs j = c' := by unfold adr; rw [g3]
    rw [ec, ec'] at he
    subst he
    exact ft.dist i j xs ys c (at_ h1) (at_ h2) g1 g3
section
variable {P : Program} {w : World} {K : PySem.W.Frag} {mg : Str → Option Value} {base : Heap}
/-- THE RULE of a def: it is the function of its body -/
theorem jf {x qual : Str} {st : Stmt} {f : Addr} {fd : FuncData} {N ps : List Str} {k : Nat} {m : MS} (F : Fun K x qual st f fd) (S : FnScope N ps (defScope st)) (hl : ps.length ≤ N.length)
    (hb : ∀ cdv A outer s H (E : _), A.guards = some [] → Room k (cxOf CX0 P w K mg base N qual (defScope st) f cdv A outer s H E).nox.A → JB (cxOf CX0 P w K mg base N qual (defScope st) f cdv A outer s H E).nox W0 (defBody st) m) :
    FnG P w K mg base CX0 (k + 1) f fd ps (spM K ps.length (defM N.length m)) := by
  refine okG F S (fun vs H Q E h => h.1) fun cdv A outer s H vs Q E hg hr h => ?_
  obtain ⟨hv, F1, as, d, as', fh, ft, hm, kk⟩ := h
  obtain ⟨t, pt, stt⟩ := (hb cdv A outer s H E hg hr).ex
  refine ⟨t, pt, ?_⟩
  obtain ⟨P1, hP1, hP2, R⟩ := rc_start (N := N) fh ft (by rw [← ft.len, hv]; exact hl)
  have fin : ∀ (v : V) (F' : Hp) (c' : Nat → Addr) (S' : Sl) (σ' : L2.St) (H' : Hp) (d : PyData) (as' : List SL), (∀ v F' H', Back K F1 H F' H' as vs as' v d → Q v H') → Same F1 F' → RC K P1 F1 (adr vs) F' c' S' σ' H' → DV K F' v d → asOut as S' = some as' → Q v H' := by
    intro v F' c' S' σ' H' d as' kk f1 R1 dv ho
    refine kk v F' H' ⟨f1, R1.fh, fun b o e hno => R1.ph b o (hP1 b o e hno), fun b z => ?_, dv, fun j xs e => ?_⟩
    · rcases R1.fr b z with z' | z'
      · exact .inl z'
      · rcases hP2 b z' with z2 | ⟨j, xs, h1, h2⟩
        · exact .inr z2
        · -- a lent list is not told as long as its slot holds it; here it must be shown from the slot
          by_cases q : F1 b = none
          · exact absurd q (by
              intro q
              -- the slot j still bears the lent list
              obtain ⟨ys, e1⟩ : ∃ ys, S'[j]? = some (some (.q ys)) := by
                have aux : ∀ {as : List SL} {S : Sl} {as' : List SL} {j : Nat} {xs : List PyData}, asOut as S = some as' → as[j]? = some (.q xs) → ∃ ys, S[j]? = some (some (.q ys)) := by
                  intro as
                  induction as with
                  | nil => intro S as' j xs _ e; simp at e
                  | cons a as ih =>
                    intro S as' j xs h e
                    cases S with
                    | nil => cases a <;> simp [asOut] at h
                    | cons s S =>
                      cases j with
                      | zero =>
                        have ea : a = .q xs := by simpa using e
                        subst ea
                        cases s with
                        | none => simp [asOut] at h
                        | some s =>
                          cases s with
                          | q ws => exact ⟨ws, rfl⟩
                          | _ => simp [asOut] at h
                      | succ j =>
                        have e' : as[j]? = some (.q xs) := by simpa using e
                        have tl : ∃ as2, asOut as S = some as2 := by
                          cases a with
                          | q zs =>
                            cases s with
                            | none => simp [asOut] at h
                            | some s =>
                              cases s with
                              | q ws =>
                                obtain ⟨as2, h2, _⟩ := Option.map_eq_some_iff.mp (show (asOut as S).map (SL.q ws :: ·) = some as' by simpa [asOut] using h)
                                exact ⟨as2, h2⟩
                              | _ => simp [asOut] at h
                          | v d =>
                            obtain ⟨as2, h2, _⟩ := Option.map_eq_some_iff.mp (show (asOut as S).map (SL.v d :: ·) = some as' by simpa [asOut] using h)
                            exact ⟨as2, h2⟩
                          | c d =>
                            obtain ⟨as2, h2, _⟩ := Option.map_eq_some_iff.mp (show (asOut as S).map (SL.c d :: ·) = some as' by simpa [asOut] using h)
                            exact ⟨as2, h2⟩
                          | s d =>
                            obtain ⟨as2, h2, _⟩ := Option.map_eq_some_iff.mp (show (asOut as S).map (SL.s d :: ·) = some as' by simpa [asOut] using h)
                            exact ⟨as2, h2⟩
                        obtain ⟨as2, h2⟩ := tl
                        obtain ⟨ys, e3⟩ := ih h2 e'
                        exact ⟨ys, by simpa using e3⟩
                exact aux ho h1
              obtain ⟨_, g2, _⟩ := R1.cl j _ ys e1 rfl
              have ec : c' j = b := by
                rw [R1.qs j ys e1]
                unfold adr
                rw [h2]
              rw [ec] at g2
              exact z g2)
          · exact .inl q
    · obtain ⟨e1, ys, e2⟩ := asOut_q ho e
      obtain ⟨g1, _, _, ws, g4, g5⟩ := R1.cl j _ xs e1 rfl
      obtain ⟨v2, g6, c2, us, rfl, _⟩ := ft.arg j _ e2
      have ec : c' j = c2 := by
        rw [R1.qs j xs e1]
        unfold adr
        rw [g6]
      rw [ec] at g4
      exact ⟨c2, ws, g6, g4, g5⟩
  unfold defM at hm
  split at hm
  · rename_i d' S' e1
    split at hm
    · rename_i as2 e2
      cases hm
      exact stt P1 F1 (adr vs) F1 (adr vs) _ _ H _ _ S' R e1 fun F' c' σ' H' f1 R1 v q => fin v F' c' S' σ' H' _ _ kk f1 R1 q e2
    · cases hm
  · rename_i S' e1
    split at hm
    · rename_i as2 e2
      cases hm
      exact stt P1 F1 (adr vs) F1 (adr vs) _ _ H _ _ S' R e1 fun F' c' σ' H' f1 R1 => fin .non F' c' S' σ' H' _ _ kk f1 R1 .non e2
    · cases hm
  · cases hm
end
end VL

set_option Elab.async false
set_option linter.all false
set_option maxRecDepth 100000
set_option maxHeartbeats 4000000
/-! VL10: new lists of one's own; comprehensions; several targets at once. -/
namespace VL
open PySem PySem.Spec PyProof.Rows L2

/-! ### the canonical readings -/
def denE (K : PySem.W.Frag) (m : ME) : TE := fun σ H Q => ∃ P F0 qc F cell S r S', RC K P F0 qc F cell S σ H ∧ m S = some (r, S') ∧ ∀ v F' H', Same F F' → RC K P F0 qc F' cell S' σ H' → VR K F' cell r v → Q v H'
def denT (K : PySem.W.Frag) (m : MT) : TT := fun σ H Q => ∃ P F0 qc F cell S r S', RC K P F0 qc F cell S σ H ∧ m S = some (r, S') ∧ ∀ F' H', Same F F' → RC K P F0 qc F' cell S' σ H' → Q r H'
def denG (K : PySem.W.Frag) (m : MG) (ts : List Nat) : TG := fun x σ H Q => ∃ P F0 qc F cell S d S', RC K P F0 qc F cell S σ H ∧ DV K F x d ∧ m d S = some S' ∧ ∀ σ', RC K P F0 qc F cell S' σ' H → (∀ vs : List Nat, (∀ i ∈ ts, i ∈ vs) → wipe σ' vs = wipe σ vs) → Q σ' H
theorem JE.den {X : Cx} {e : Expr} {m : ME} (h : JE X e m) : PE X e (denE X.K m) := by
  obtain ⟨t, p, s⟩ := h.ex
  exact ⟨fun pins s0 σ H Q I ⟨P, F0, qc, F, cell, S, r, S', R, hm, k⟩ => p.run pins s0 σ H Q I (s P F0 qc F cell S σ H Q r S' R hm k)⟩
theorem JG.den {X : Cx} {e : Expr} {m : MG} {ts : List Nat} (h : JG X e m ts) : PG X e (denG X.K m ts) := by
  obtain ⟨t, p, s⟩ := h.ex
  exact ⟨fun pins s0 σ H v u Q I r ⟨P, F0, qc, F, cell, S, d, S', R, hd, hm, k⟩ => p.run pins s0 σ H v u Q I r (s P F0 qc F cell S σ H Q v d S' R hd hm k)⟩
structure JTs (X : Cx) (ifs : List Expr) (m : MT) : Prop where
  ex : ∃ t, PTs X ifs t ∧ SndT X.K t m
theorem JTs.den {X : Cx} {ifs : List Expr} {m : MT} (h : JTs X ifs m) : PTs X ifs (denT X.K m) := by
  obtain ⟨t, p, s⟩ := h.ex
  exact ⟨fun pins s0 σ H Q I ⟨P, F0, qc, F, cell, S, r, S', R, hm, k⟩ => p.run pins s0 σ H Q I (s P F0 qc F cell S σ H Q r S' R hm k)⟩
def tYesM : MT := fun S => some (true, S)
theorem jts_nil {X : Cx} : JTs X [] tYesM := ⟨_, pts_nil, fun P F0 qc F cell S σ H Q r S' R hm k => by
  cases hm
  exact k F H (Same.refl _) R⟩
theorem jts_one {X : Cx} {c : Expr} {m : MT} (h : JT X c m) : JTs X [c] m := by
  obtain ⟨t, p, s⟩ := h.ex
  exact ⟨t, pts_one p, s⟩

/-! ### new lists of one's own -/
abbrev MX := Sl → Option (SL × Sl)
def SndX (K : PySem.W.Frag) (t : TE) (m : MX) : Prop :=
  ∀ (P F0 : Hp) (qc : Nat → Addr) (F : Hp) (cell : Nat → Addr) (S : Sl) (σ : L2.St) (H : Hp) (Q : VK) (r : SL) (S' : Sl), RC K P F0 qc F cell S σ H → m S = some (r, S') →
    (match r with
      | .v d => ∀ v F' H', Same F F' → RC K P F0 qc F' cell S' σ H' → DV K F' v d → Q v H'
      | .c ds => ∀ p vs F' H', Same F F' → P p = none → F0 p = none → RC K (upd P p (.lst vs)) F0 qc F' cell S' σ H' → DVs K F' vs ds → Q (.ref p) H'
      | _ => False) → t σ H Q
structure JX (X : Cx) (e : Expr) (m : MX) : Prop where
  ex : ∃ t, PE X e t ∧ SndX X.K t m
section
variable {K : PySem.W.Frag} {P F0 F F' : Hp} {qc cell : Nat → Addr} {S : Sl} {σ : L2.St} {H H' : Hp} {p : Addr} {o o' : HO}
theorem RC.unlay (R : RC K (upd P p o) F0 qc F cell S σ H) (hp : P p = none) : RC K P F0 qc F cell S σ H where
  len := R.len
  f0 := R.f0
  fh := R.fh
  ph := fun b u e => R.ph b u (by rw [upd_ne (fun q => by subst q; rw [hp] at e; cases e)]; exact e)
  fr := fun b z => by
    rcases R.fr b z with z | z
    · exact .inl z
    · by_cases q : b = p
      · subst q
        exact .inr hp
      · rw [upd_ne q] at z
        exact .inr z
  vl := R.vl
  sc := R.sc
  cl := fun i x xs h hx => by
    obtain ⟨h1, h2, h3, h4⟩ := R.cl i x xs h hx
    refine ⟨h1, h2, ?_, h4⟩
    by_cases q : cell i = p
    · rw [q]; exact hp
    · rw [upd_ne q] at h3; exact h3
  qs := R.qs
  inj := R.inj
/-- the laid list becomes slot i's own -/
theorem RC.own {vs : List V} {ds : List PyData} {i : Nat} (R : RC K (upd P p (.lst vs)) F0 qc F cell S σ H) (hp : P p = none) (h0 : F0 p = none) (hv : DVs K F vs ds) :
    RC K P F0 qc F (fun j => if j = i then p else cell j) (S.set i (some (.c ds))) (σ.set i (some (.ref p))) H :=
  (R.unlay hp).setC (R.laid_untold h0) hp R.laid_apart R.laid_at hv
/-- the laid list is told -/
theorem RC.tell {vs : List V} {ds : List PyData} (R : RC K (upd P p (.lst vs)) F0 qc F cell S σ H) (hp : P p = none) (h0 : F0 p = none) (hv : DVs K F vs ds) :
    ∃ F', Same F F' ∧ RC K P F0 qc F' cell S σ H ∧ DV K F' (.ref p) (.list ds) := by
  obtain ⟨R2, s2⟩ := R.adopt (o' := .lst vs) h0 hp
  have e : upd H p (.lst vs) = H := by
    funext b
    by_cases q : b = p
    · subst q
      rw [upd_same]
      exact R.laid_at.symm
    · rw [upd_ne q]
  rw [e] at R2
  exact ⟨_, s2, R2, .lst upd_same (hv.mono s2)⟩
end
def mV (me : ME) : MX := fun S => match me S with
  | some (.v d, S1) => some (.v d, S1)
  | _ => none
def mTell (mx : MX) : ME := fun S => match mx S with
  | some (.v d, S1) => some (.v d, S1)
  | some (.c ds, S1) => some (.v (.list ds), S1)
  | _ => none
def xLst (ma : MA) : MX := fun S => match ma S with
  | none => none
  | some (rs, S1) => match stables rs with
    | some ds => if ds.length ≤ 100000 then some (.c ds, S1) else none
    | none => none
def xToList (me : ME) : MX := fun S => match me S with
  | none => none
  | some (r, S1) => match deref S1 r with
    | some (.list ds) => some (.c ds, S1)
    | some (.tuple ds) => some (.c ds, S1)
    | _ => none
section
variable {X : Cx} {W : WX} {e a b : Expr} {es : List Expr} {me : ME} {mx : MX} {mas : MA} {pos p : Pos}
theorem jx_je (h : JE X e me) : JX X e (mV me) := by
  obtain ⟨t, p, s⟩ := h.ex
  refine ⟨t, p, fun P F0 qc F cell S σ H Q r S' R hm k => ?_⟩
  unfold mV at hm
  split at hm
  · rename_i d S1 e1
    cases hm
    exact s P F0 qc F cell S σ H Q _ S' R e1 fun v F' H' f1 R1 q1 => k v F' H' f1 R1 q1
  · cases hm
theorem je_tell (h : JX X e mx) : JE X e (mTell mx) := by
  obtain ⟨t, p, s⟩ := h.ex
  refine ⟨t, p, fun P F0 qc F cell S σ H Q r S' R hm k => ?_⟩
  unfold mTell at hm
  split at hm
  · rename_i d S1 e1
    cases hm
    exact s P F0 qc F cell S σ H Q _ S' R e1 fun v F' H' f1 R1 q1 => k v F' H' f1 R1 q1
  · rename_i ds S1 e1
    cases hm
    refine s P F0 qc F cell S σ H Q _ S' R e1 fun p vs F' H' f1 hp h0 R1 q1 => ?_
    obtain ⟨F2, f2, R2, dv⟩ := R1.tell hp h0 q1
    exact k _ F2 H' (f1.trans f2) R2 dv
  · cases hm
theorem jx_lst (h : JA X es mas) : JX X (.List es pos) (xLst mas) := by
  obtain ⟨ta, pa, sa⟩ := h.ex
  refine ⟨_, pe_lst pa, fun P F0 qc F cell S σ H Q z S' R hm k => ?_⟩
  unfold xLst at hm
  split at hm
  · cases hm
  · rename_i rs S1 e1
    split at hm
    · rename_i ds e2
      split at hm
      · rename_i hl
        cases hm
        refine sa P F0 qc F cell S σ H _ rs S' R e1 fun vs F1 H1 s1 R1 q1 => ?_
        have dv := VRs.stable q1 e2
        refine ⟨by rw [dv.length]; exact small5 hl, fun p hp => ?_⟩
        exact k p vs F1 _ s1 (R1.ph.free hp) ((R1.f0.trans R1.fh).free hp) (R1.lay hp) dv
      · cases hm
    · cases hm
theorem jx_tolist (hm : X.mg "list" = none) (ha : JE X e me) (hg : Gl X "list" := by rfl) (hs : starEach [e] X.env = (false, eval e X.env) :: starEach [] X.env := by rfl) (hpl : (backTo pos (starEach [] X.env)).any (·.1) = false := by rfl) : JX X (.Call (.Name "list" p) [e] [] pos) (xToList me) := by
  obtain ⟨t, pe, s⟩ := ha.ex
  refine ⟨_, pe_callTy call_list_of hg hm (by decide +kernel) (pa_cons pe pa_nil hs) (he := hs) (hpl := hpl), fun P F0 qc F cell S σ H Q z S' R hm k => ?_⟩
  unfold xToList at hm
  split at hm
  · cases hm
  · rename_i r S1 e1
    split at hm
    · rename_i ds e2
      cases hm
      refine s P F0 qc F cell S σ H _ r S' R e1 fun v F1 H1 f1 R1 q1 => ?_
      obtain ⟨a, vs, rfl, h2, h3⟩ := (R1.deref q1 e2).list R1.fh
      refine ⟨a, vs, rfl, .inl (SqL.of h2), fun l hl => ?_⟩
      exact k l vs F1 _ f1 (R1.ph.free hl) ((R1.f0.trans R1.fh).free hl) (R1.lay hl) h3
    · rename_i ds e2
      cases hm
      refine s P F0 qc F cell S σ H _ r S' R e1 fun v F1 H1 f1 R1 q1 => ?_
      obtain ⟨a, vs, rfl, h2, h3⟩ := (R1.deref q1 e2).tuple
      refine ⟨a, vs, rfl, .inr (sqT_mono R1.fh h2), fun l hl => ?_⟩
      exact k l vs F1 _ f1 (R1.ph.free hl) ((R1.f0.trans R1.fh).free hl) (R1.lay hl) h3
    · cases hm
def mSetX (i : Nat) (mx : MX) : MS := fun S => match mx S with
  | some (.v d, S1) => some (.nx, S1.set i (some (.v d)))
  | some (.c d, S1) => some (.nx, S1.set i (some (.c d)))
  | _ => none
theorem snd_setX {W : WX} {K : PySem.W.Frag} {t : TE} {i : Nat} (s : SndX K t mx) : SndS K W (tAsg t (gName i)) (mSetX i mx) := by
  intro P F0 qc F cell S σ H D fl S' R hm k
  unfold mSetX at hm
  split at hm
  · rename_i d S1 e1
    cases hm
    exact s P F0 qc F cell S σ H _ _ S1 R e1 fun v F' H' f1 R1 q1 => k F' cell _ H' f1 (R1.setV q1)
  · rename_i ds S1 e1
    cases hm
    exact s P F0 qc F cell S σ H _ _ S1 R e1 fun p vs F' H' f1 hp h0 R1 q1 => k F' _ _ H' f1 (R1.own hp h0 q1)
  · cases hm
theorem js_setX (i : Nat) {x : Str} {pos' : Pos} (hN : X.N.Nodup) (he : JX X e mx) (hi : X.N[i]? = some x := by rfl) (hx : Loc X.env.scope x := by first | exact Or.inl rfl | exact Or.inr rfl) (hs : swapsWith e (some (.Name x pos')) pos.line X.env = pure false := by rfl)
    (hf : X.fn x = true ∨ X.env.scope.names.lookup x = some .local := by first | exact .inl rfl | exact .inr rfl) : JS X W (.Assign [.Name x pos'] e pos) (mSetX i mx) := by
  obtain ⟨t, p, s⟩ := he.ex
  exact ⟨_, ps_set hN hi hx p hs hf, snd_setX s⟩
end

/-! ### slots forgotten for a block, and had again -/
def wp : Sl → List Nat → Sl
  | S, [] => S
  | S, v :: vs => (wp S vs).set v none
def ownOk (S : Sl) (vs : List Nat) : Bool := vs.all fun v => match S[v]? with
  | some (some (.v _)) => true
  | some none => true
  | _ => false
/-- T, the slots vs as in S -/
def unwp (S T : Sl) : List Nat → Sl
  | [] => T
  | v :: vs => (unwp S T vs).set v (S[v]?.bind id)
theorem wp_length (S : Sl) : ∀ vs : List Nat, (wp S vs).length = S.length
  | [] => rfl
  | v :: vs => by unfold wp; rw [List.length_set, wp_length S vs]
theorem unwp_length (S T : Sl) : ∀ vs : List Nat, (unwp S T vs).length = T.length
  | [] => rfl
  | v :: vs => by unfold unwp; rw [List.length_set, unwp_length S T vs]
theorem unwp_at {S T : Sl} {i : Nat} {x : SL} : ∀ {vs : List Nat}, (unwp S T vs)[i]? = some (some x) → (i ∈ vs ∧ S[i]? = some (some x)) ∨ (i ∉ vs ∧ T[i]? = some (some x))
  | [], h => .inr ⟨by simp, h⟩
  | v :: vs, h => by
    unfold unwp at h
    rcases get_set h with ⟨rfl, e2, hl⟩ | ⟨ne, e⟩
    · refine .inl ⟨List.mem_cons_self, ?_⟩
      cases q : S[v]? with
      | none => rw [q] at e2; cases e2
      | some u =>
        rw [q] at e2
        cases u with
        | none => cases e2
        | some u => cases e2; rfl
    · rcases unwp_at e with ⟨h1, h2⟩ | ⟨h1, h2⟩
      · exact .inl ⟨List.mem_cons_of_mem _ h1, h2⟩
      · exact .inr ⟨fun z => (List.mem_cons.mp z).elim (fun z => ne z.symm) h1, h2⟩
section
variable {K : PySem.W.Frag} {P F0 F F' : Hp} {qc cell : Nat → Addr} {S T : Sl} {σ : L2.St} {H H' : Hp}
theorem RC.setN (R : RC K P F0 qc F cell S σ H) (i : Nat) : RC K P F0 qc F cell (S.set i none) (σ.set i none) H := by
  have at_ : ∀ {j : Nat} {x : SL}, (S.set i none)[j]? = some (some x) → i ≠ j ∧ S[j]? = some (some x) := fun {j x} h => by
    rcases get_set h with ⟨rfl, e2, hl⟩ | h
    · cases e2
    · exact h
  refine ⟨by rw [List.length_set, List.length_set]; exact R.len, R.f0, R.fh, R.ph, R.fr, fun j d e => ?_, fun j ns e => ?_, fun j x xs e hx => ?_, fun j xs e => R.qs j xs (at_ e).2, fun j k x y e1 e2 hx hy => R.inj j k x y (at_ e1).2 (at_ e2).2 hx hy⟩
  · obtain ⟨ne, e⟩ := at_ e
    obtain ⟨u, h1, h2⟩ := R.vl j d e
    exact ⟨u, by rw [List.getElem?_set_ne ne]; exact h1, h2⟩
  · obtain ⟨ne, e⟩ := at_ e
    obtain ⟨u, h1, h2⟩ := R.sc j ns e
    exact ⟨u, by rw [List.getElem?_set_ne ne]; exact h1, h2⟩
  · obtain ⟨ne, e⟩ := at_ e
    obtain ⟨h1, h2⟩ := R.cl j x xs e hx
    exact ⟨by rw [List.getElem?_set_ne ne]; exact h1, h2⟩
theorem RC.wipe (R : RC K P F0 qc F cell S σ H) : ∀ vs : List Nat, RC K P F0 qc F cell (wp S vs) (L2.wipe σ vs) H
  | [] => R
  | v :: vs => (RC.wipe R vs).setN v
theorem wipe_in {σ : L2.St} {i : Nat} (hl : i < σ.length) : ∀ {vs : List Nat}, i ∈ vs → (L2.wipe σ vs)[i]? = some none
  | v :: vs, h => by
    unfold L2.wipe
    by_cases q : v = i
    · subst q
      rw [List.getElem?_set_self (by rw [wipe_length]; exact hl)]
    · rw [List.getElem?_set_ne q]
      exact wipe_in hl ((List.mem_cons.mp h).elim (fun z => absurd z.symm q) id)
theorem wipe_idem (σ : L2.St) (vs : List Nat) : L2.wipe (L2.wipe σ vs) vs = L2.wipe σ vs := by
  refine List.ext_getElem? fun i => ?_
  by_cases h : i ∈ vs
  · by_cases hl : i < σ.length
    · rw [wipe_in (by rw [wipe_length]; exact hl) h, wipe_in hl h]
    · rw [List.getElem?_eq_none (by rw [wipe_length, wipe_length]; omega), List.getElem?_eq_none (by rw [wipe_length]; omega)]
  · rw [wipe_out h]
theorem RC.unwipe {S1 : Sl} {H1 F1 P1 F01 : Hp} {qc1 cell1 : Nat → Addr} {vs : List Nat} (R1 : RC K P1 F01 qc1 F1 cell1 S1 σ H1) (ho : ownOk S1 vs = true) (f : Same F1 F) (R : RC K P F0 qc F cell T (L2.wipe σ vs) H) : RC K P F0 qc F cell (unwp S1 T vs) σ H := by
  have data : ∀ {i : Nat} {x : SL}, i ∈ vs → S1[i]? = some (some x) → ∃ d, x = .v d := fun {i x} hi e => by
    have := List.all_eq_true.mp ho i hi
    rw [e] at this
    cases x with
    | v d => exact ⟨d, rfl⟩
    | c d => cases this
    | q d => cases this
    | s d => cases this
  have held : ∀ {i : Nat} {x : SL}, (unwp S1 T vs)[i]? = some (some x) → (∀ d, x ≠ .v d) → i ∉ vs ∧ T[i]? = some (some x) := fun {i x} h hx => by
    rcases unwp_at h with ⟨h1, h2⟩ | h
    · obtain ⟨d, rfl⟩ := data h1 h2
      exact absurd rfl (hx d)
    · exact h
  have noV : ∀ {x : SL}, x.held.isSome = true → ∀ d, x ≠ .v d := fun {x} h d e => by subst e; cases h
  refine ⟨by rw [unwp_length, R.len, wipe_length], R.f0, R.fh, R.ph, R.fr, fun j d e => ?_, fun j ns e => ?_, fun j x xs e hx => ?_, fun j xs e => ?_, fun j k x y e1 e2 hx hy => ?_⟩
  · rcases unwp_at e with ⟨h1, h2⟩ | ⟨h1, h2⟩
    · obtain ⟨v, h3, h4⟩ := R1.vl j d h2
      exact ⟨v, h3, h4.mono f⟩
    · obtain ⟨v, h3, h4⟩ := R.vl j d h2
      exact ⟨v, (wipe_some h3).1, h4⟩
  · obtain ⟨h1, h2⟩ := held e (fun d z => by cases z)
    obtain ⟨v, h3, h4⟩ := R.sc j ns h2
    exact ⟨v, (wipe_some h3).1, h4⟩
  · obtain ⟨h1, h2⟩ := held e (noV (by rw [hx]; rfl))
    obtain ⟨h3, h4⟩ := R.cl j x xs h2 hx
    exact ⟨(wipe_some h3).1, h4⟩
  · obtain ⟨h1, h2⟩ := held e (fun d z => by cases z)
    exact R.qs j xs h2
  · exact R.inj j k x y (held e1 (noV hx)).2 (held e2 (noV hy)).2 hx hy
end

/-! ### [e for .. in .. if ..] -/
def lcGo (g : MG) (mt : MT) (me : ME) (vs : List Nat) : List PyData → Sl → List PyData → Option (List PyData × Sl)
  | [], T, acc => some (acc, T)
  | d :: ds, T, acc => match g d T with
    | none => none
    | some T1 => match mt T1 with
      | none => none
      | some (false, T2) => lcGo g mt me vs ds (wp T2 vs) acc
      | some (true, T2) => match me T2 with
        | some (.v z, T3) => if acc.length < 100000 then lcGo g mt me vs ds (wp T3 vs) (acc ++ [z]) else none
        | _ => none
def xLc (mi : MI) (g : MG) (mt : MT) (me : ME) (vs : List Nat) : MX := fun S => match mi S with
  | none => none
  | some (ds, S1) => if ownOk S1 vs = true then match lcGo g mt me vs ds (wp S1 vs) [] with
      | some (acc, T) => some (.c acc, unwp S1 T vs)
      | none => none
    else none
section
variable {X : Cx} {W : WX} {elt tg iter : Expr} {ifs : List Expr} {scope : Scope} {own : List (Str × Nat)} {pos : Pos} {mi : MI} {g : MG} {mt : MT} {me : ME} {ts : List Nat}
theorem snd_lc {K : PySem.W.Frag} {wi : TI} {vs : List Nat} (si : SndI K wi mi) (hv : ∀ i ∈ ts, i ∈ vs) : SndX K (tLc wi (denG K g ts) (denT K mt) (denE K me) vs) (xLc mi g mt me vs) := by
  intro P F0 qc F cell S σ H Q r S' R hm k
  unfold xLc at hm
  split at hm
  · cases hm
  · rename_i ds S1 e1
    split at hm
    · rename_i ho
      split at hm
      · rename_i acc T e2
        cases hm
        refine si P F0 qc F cell S σ H _ ds S1 R e1 fun J F1 H1 f1 R1 ok => ?_
        intro D hD
        obtain ⟨G, Y, w, hG, hY⟩ := ok.ex
        have hP : P D = none := R1.ph.free hD
        have h0 : F0 D = none := (R1.f0.trans R1.fh).free hD
        -- Pv
        refine ⟨fun i m H => m = ds.length - i ∧ i ≤ ds.length ∧ ∃ F2 T2 acc2 ws, Same F1 F2 ∧ RC K (upd P D (.lst ws)) F0 qc F2 cell T2 (L2.wipe σ vs) H ∧ DVs K F2 ws acc2 ∧ lcGo g mt me vs (ds.drop i) T2 acc2 = some (acc, T),
          ⟨ds.length, by simp, Nat.zero_le _, F1, wp S1 vs, [], [], Same.refl _, (R1.lay hD).wipe vs, .nil, e2⟩, ?_⟩
        rintro i m H2 ⟨rfl, hi, F2, T2, acc2, ws, f2, R2, hw, e3⟩
        by_cases hlt : i < ds.length
        · refine .inr ⟨w.1 i H2 hlt (hG H2 (f2.trans R2.fh)), fun H' => i + 1 ≤ ds.length ∧ ∃ F2 T2 acc2 ws, Same F1 F2 ∧ RC K (upd P D (.lst ws)) F0 qc F2 cell T2 (L2.wipe σ vs) H' ∧ DVs K F2 ws acc2 ∧ lcGo g mt me vs (ds.drop (i + 1)) T2 acc2 = some (acc, T), fun H' q => ⟨ds.length - (i + 1), by omega, rfl, q⟩, fun x H' y => ?_⟩
          obtain ⟨d, hd, hdr⟩ := drop_cons hlt
          rw [hdr] at e3
          unfold lcGo at e3
          obtain ⟨F3, ex, dv⟩ := hY i H2 x H' F2 d f2 R2.fh hd (w.yields i H2 x H' hlt (hG H2 (f2.trans R2.fh)) y)
          have R3 := R2.ext ex
          cases e4 : g d T2 with
          | none => rw [e4] at e3; cases e3
          | some T3 =>
            rw [e4] at e3
            refine ⟨_, F0, qc, F3, cell, T2, d, T3, R3, dv, e4, fun σ4 R4 w4 => ⟨(w4 vs hv).trans (wipe_idem σ vs), ?_⟩⟩
            cases e5 : mt T3 with
            | none => simp only [e5] at e3; cases e3
            | some z =>
              obtain ⟨b, T4⟩ := z
              simp only [e5] at e3
              refine ⟨_, F0, qc, F3, cell, T3, b, T4, R4, e5, fun F5 H5 f5 R5 => ?_⟩
              cases b with
              | false =>
                rw [if_neg Bool.false_ne_true]
                have e3 : lcGo g mt me vs (ds.drop (i + 1)) (wp T4 vs) acc2 = some (acc, T) := e3
                refine ⟨hlt, F5, _, acc2, ws, (f2.trans ex.f).trans f5, ?_, (hw.mono ex.f).mono f5, e3⟩
                rw [← (w4 vs hv).trans (wipe_idem σ vs)]
                exact R5.wipe vs
              | true =>
                rw [if_pos rfl]
                have e3 : (match me T4 with
                  | some (.v z, T3) => if acc2.length < 100000 then lcGo g mt me vs (ds.drop (i + 1)) (wp T3 vs) (acc2 ++ [z]) else none
                  | _ => none) = some (acc, T) := e3
                split at e3
                · rename_i z T5 e6
                  split at e3
                  · rename_i hl
                    refine ⟨_, F0, qc, F5, cell, T4, .v z, T5, R5, e6, fun v F6 H6 f6 R6 q6 => ?_⟩
                    refine ⟨ws, R6.laid_at, ?_, hlt, F6, _, acc2 ++ [z], ws ++ [v], ((f2.trans ex.f).trans f5).trans f6, ?_, (((hw.mono ex.f).mono f5).mono f6).append (.cons q6 .nil), e3⟩
                    · rw [hw.length]
                      exact Nat.lt_of_lt_of_le hl (by decide)
                    · rw [← (w4 vs hv).trans (wipe_idem σ vs)]
                      exact (R6.relay h0).wipe vs
                  · cases e3
                · cases e3
        · have e : i = ds.length := by omega
          subst e
          rw [List.drop_length] at e3
          cases e3
          refine .inl ⟨w.2 H2 (hG H2 (f2.trans R2.fh)), ?_⟩
          exact k D ws F2 H2 (f1.trans f2) hP h0 (R1.unwipe ho f2 R2) hw
      · cases hm
    · cases hm
/-- [elt for tg in iter if ..] -/
theorem jx_lc (hc : X.calm = true) (hN : X.N.Nodup) (hi : JI X tg iter mi) (ok : BlkOk X.N X.env.scope scope own)
    (hg : ∀ (s : Shared) (H : Hp) (C : Addr) (cl : List (Str × Addr)) (fp : List Addr), JG (X.blk s H scope (compEnvC scope cl C X.env) fp) tg g ts) (ht : ∀ (s : Shared) (H : Hp) (C : Addr) (cl : List (Str × Addr)) (fp : List Addr), JTs (X.blk s H scope (compEnvC scope cl C X.env) fp) ifs mt)
    (he : ∀ (s : Shared) (H : Hp) (C : Addr) (cl : List (Str × Addr)) (fp : List Addr), JE (X.blk s H scope (compEnvC scope cl C X.env) fp) elt me) (hv : ∀ i ∈ ts, i ∈ own.map (·.2) := by decide) (hs : ∀ x, foldedSetIterable iter X.env x = pure x := by intro _; rfl) :
    JX X (.ListComp elt [⟨tg, iter, ifs, 0⟩] scope pos) (xLc mi g mt me (own.map (·.2))) := by
  obtain ⟨wi, pi, si⟩ := hi.ex
  exact ⟨_, pe_lc hc hN pi ok (fun s H C cl fp => (hg s H C cl fp).den) (fun s H C cl fp => (ht s H C cl fp).den) (fun s H C cl fp => (he s H C cl fp).den) hs, snd_lc si hv⟩
/-- name = [..] on one line, the name a local -/
theorem js_setLc (i : Nat) {y : Str} {py spos : Pos} (hc : X.calm = true) (hN : X.N.Nodup) (hi : JI X tg iter mi) (ok : BlkOk X.N X.env.scope scope own)
    (hg : ∀ (s : Shared) (H : Hp) (C : Addr) (cl : List (Str × Addr)) (fp : List Addr), JG (X.blk s H scope (compEnvC scope cl C X.env) fp) tg g ts) (ht : ∀ (s : Shared) (H : Hp) (C : Addr) (cl : List (Str × Addr)) (fp : List Addr), JTs (X.blk s H scope (compEnvC scope cl C X.env) fp) ifs mt)
    (he : ∀ (s : Shared) (H : Hp) (C : Addr) (cl : List (Str × Addr)) (fp : List Addr), JE (X.blk s H scope (compEnvC scope cl C X.env) fp) elt me) (hy : X.N[i]? = some y := by rfl) (hyl : X.env.scope.names.lookup y = some .local := by rfl)
    (hsw : swapsWith (.ListComp elt [⟨tg, iter, ifs, 0⟩] scope pos) (some (.Name y py)) spos.line X.env = pure true := by rfl) (hv : ∀ i ∈ ts, i ∈ own.map (·.2) := by decide) (hs : ∀ x, foldedSetIterable iter X.env x = pure x := by intro _; rfl) :
    JS X W (.Assign [.Name y py] (.ListComp elt [⟨tg, iter, ifs, 0⟩] scope pos) spos) (mSetX i (xLc mi g mt me (own.map (·.2)))) := by
  obtain ⟨wi, pi, si⟩ := hi.ex
  exact ⟨_, ps_setLc hc hN hy hyl hsw pi ok (fun s H C cl fp => (hg s H C cl fp).den) (fun s H C cl fp => (ht s H C cl fp).den) (fun s H C cl fp => (he s H C cl fp).den) hs, snd_setX (snd_lc si hv)⟩
end

/-! ### a, b = e, e2 -/
abbrev MXs := Sl → Option (List SL × Sl)
inductive LD (K : PySem.W.Frag) (F0 F : Hp) : Hp → Hp → List SL → List V → Prop
  | nil {P : Hp} : LD K F0 F P P [] []
  | v {P P' : Hp} {d : PyData} {v : V} {rs : List SL} {vs : List V} : DV K F v d → LD K F0 F P P' rs vs → LD K F0 F P P' (.v d :: rs) (v :: vs)
  | c {P P' : Hp} {ds : List PyData} {p : Addr} {ws : List V} {rs : List SL} {vs : List V} : P p = none → F0 p = none → DVs K F ws ds → LD K F0 F (upd P p (.lst ws)) P' rs vs → LD K F0 F P P' (.c ds :: rs) (.ref p :: vs)
def SndXs (K : PySem.W.Frag) (t : TA) (m : MXs) : Prop :=
  ∀ (P F0 : Hp) (qc : Nat → Addr) (F : Hp) (cell : Nat → Addr) (S : Sl) (σ : L2.St) (H : Hp) (Q : List V → Hp → Prop) (rs : List SL) (S' : Sl), RC K P F0 qc F cell S σ H → m S = some (rs, S') →
    (∀ vs P' F' H', Same F F' → RC K P' F0 qc F' cell S' σ H' → LD K F0 F' P P' rs vs → Q vs H') → t σ H Q
structure JXs (X : Cx) (es : List Expr) (m : MXs) : Prop where
  ex : ∃ t, PA X es t ∧ SndXs X.K t m
def xsNil : MXs := fun S => some ([], S)
def xsCons (mx : MX) (ms : MXs) : MXs := fun S => match mx S with
  | some (.v d, S1) => match ms S1 with
    | some (rs, S2) => some (.v d :: rs, S2)
    | none => none
  | some (.c d, S1) => match ms S1 with
    | some (rs, S2) => some (.c d :: rs, S2)
    | none => none
  | _ => none
def setAll : List Nat → List SL → Sl → Sl
  | i :: is, r :: rs, S => (setAll is rs S).set i (some r)
  | _, _, S => S
def setAllV : List Nat → List V → L2.St → L2.St
  | i :: is, r :: rs, S => (setAllV is rs S).set i (some r)
  | _, _, S => S
def mPar (is : List Nat) (ms : MXs) : MS := fun S => match ms S with
  | some (rs, S1) => if rs.length = is.length then some (.nx, setAll is rs S1) else none
  | none => none
theorem LD.mono {K : PySem.W.Frag} {F0 F F' : Hp} (e : Same F F') : ∀ {P P' : Hp} {rs : List SL} {vs : List V}, LD K F0 F P P' rs vs → LD K F0 F' P P' rs vs
  | _, _, _, _, .nil => .nil
  | _, _, _, _, .v h t => .v (h.mono e) (LD.mono e t)
  | _, _, _, _, .c h1 h2 h3 t => .c h1 h2 (h3.mono e) (LD.mono e t)
theorem LD.length {K : PySem.W.Frag} {F0 F : Hp} : ∀ {P P' : Hp} {rs : List SL} {vs : List V}, LD K F0 F P P' rs vs → vs.length = rs.length
  | _, _, _, _, .nil => rfl
  | _, _, _, _, .v h t => by rw [List.length_cons, List.length_cons, LD.length t]
  | _, _, _, _, .c h1 h2 h3 t => by rw [List.length_cons, List.length_cons, LD.length t]
theorem LD.all {K : PySem.W.Frag} {F0 F H : Hp} {qc : Nat → Addr} {σ : L2.St} {S : Sl} : ∀ {is : List Nat} {P P' : Hp} {rs : List SL} {vs : List V} {cell : Nat → Addr}, LD K F0 F P P' rs vs → rs.length = is.length → RC K P' F0 qc F cell S σ H →
    ∃ cell', RC K P F0 qc F cell' (setAll is rs S) (setAllV is vs σ) H
  | [], _, _, _, _, cell, .nil, _, R => ⟨cell, R⟩
  | i :: is, _, _, _, _, cell, .v h t, hl, R => by
    obtain ⟨c', R'⟩ := LD.all (is := is) t (by simpa using hl) R
    exact ⟨c', R'.setV h⟩
  | i :: is, _, _, _, _, cell, .c h1 h2 h3 t, hl, R => by
    obtain ⟨c', R'⟩ := LD.all (is := is) t (by simpa using hl) R
    exact ⟨_, R'.own h1 h2 h3⟩
section
variable {X : Cx} {W : WX} {e a b c : Expr} {es : List Expr} {mx : MX} {ms : MXs} {pos : Pos}
theorem jxs_nil : JXs X [] xsNil := ⟨_, pa_nil, fun P F0 qc F cell S σ H Q rs S' R hm k => by
  cases hm
  exact k [] P F H (Same.refl _) R .nil⟩
theorem jxs_cons (he : JX X e mx) (hs : JXs X es ms) (hst : starEach (e :: es) X.env = (false, eval e X.env) :: starEach es X.env := by rfl) : JXs X (e :: es) (xsCons mx ms) := by
  obtain ⟨t, p, s⟩ := he.ex
  obtain ⟨u, q, sq⟩ := hs.ex
  refine ⟨_, pa_cons p q hst, fun P F0 qc F cell S σ H Q rs S' R hm k => ?_⟩
  unfold xsCons at hm
  split at hm
  · rename_i d S1 e1
    split at hm
    · rename_i rs' S2 e2
      cases hm
      refine s P F0 qc F cell S σ H _ _ S1 R e1 fun v F1 H1 f1 R1 q1 => ?_
      refine sq P F0 qc F1 cell S1 σ H1 _ rs' S' R1 e2 fun vs P2 F2 H2 f2 R2 l2 => ?_
      exact k (v :: vs) P2 F2 H2 (f1.trans f2) R2 (.v (q1.mono f2) l2)
    · cases hm
  · rename_i d S1 e1
    split at hm
    · rename_i rs' S2 e2
      cases hm
      refine s P F0 qc F cell S σ H _ _ S1 R e1 fun p ws F1 H1 f1 hp h0 R1 q1 => ?_
      refine sq _ F0 qc F1 cell S1 σ H1 _ rs' S' R1 e2 fun vs P2 F2 H2 f2 R2 l2 => ?_
      exact k (.ref p :: vs) P2 F2 H2 (f1.trans f2) R2 (.c hp h0 (q1.mono f2) l2)
    · cases hm
  · cases hm
theorem js_par2 {i j : Nat} {x y : Str} {px py pt : Pos} {kt k2 pt2} (hc : X.calm = true) (hN : X.N.Nodup) (ha : JXs X [a, b] ms) (hi : X.N[i]? = some x := by rfl) (hj : X.N[j]? = some y := by rfl) (hij : i ≠ j := by decide)
    (hx : X.env.scope.names.lookup x = some .local := by rfl) (hy : X.env.scope.names.lookup y = some .local := by rfl)
    (hw : swappedStores [.Tuple [.Name x px, .Name y py] kt pt] (.Tuple [a, b] k2 pt2) X.env = pure (some [x, y]) := by rfl)
    (hs : swapsWithSole [.Tuple [.Name x px, .Name y py] kt pt] (.Tuple [a, b] k2 pt2) pos.line X.env = pure false := by rfl) :
    JS X W (.Assign [.Tuple [.Name x px, .Name y py] kt pt] (.Tuple [a, b] k2 pt2) pos) (mPar [i, j] ms) := by
  obtain ⟨t, p, s⟩ := ha.ex
  refine ⟨_, ps_par hc hN hi hj hij hx hy p hw hs, fun P F0 qc F cell S σ H D fl S' R hm k => ?_⟩
  unfold mPar at hm
  split at hm
  · rename_i rs S1 e1
    split at hm
    · rename_i hl
      cases hm
      refine s P F0 qc F cell S σ H _ rs S1 R e1 fun vs P' F' H' f1 R1 l => ?_
      obtain ⟨c', R2⟩ := l.all hl R1
      have hv : vs.length = 2 := l.length.trans hl
      match vs, hv with
      | [v, w], _ =>
        refine ⟨v, w, rfl, ?_⟩
        rw [List.set_comm _ _ hij]
        exact k F' c' _ H' f1 R2
    · cases hm
  · cases hm
theorem js_par3 {i j l : Nat} {x y z : Str} {px py pz pt : Pos} {kt k2 pt2} (hc : X.calm = true) (hN : X.N.Nodup) (ha : JXs X [a, b, c] ms) (hi : X.N[i]? = some x := by rfl) (hj : X.N[j]? = some y := by rfl) (hk : X.N[l]? = some z := by rfl) (hij : i ≠ j := by decide) (hil : i ≠ l := by decide) (hjl : j ≠ l := by decide)
    (hx : X.env.scope.names.lookup x = some .local := by rfl) (hy : X.env.scope.names.lookup y = some .local := by rfl) (hz : X.env.scope.names.lookup z = some .local := by rfl)
    (hw : swappedStores [.Tuple [.Name x px, .Name y py, .Name z pz] kt pt] (.Tuple [a, b, c] k2 pt2) X.env = pure (some [x, y, z]) := by rfl)
    (hs : swapsWithSole [.Tuple [.Name x px, .Name y py, .Name z pz] kt pt] (.Tuple [a, b, c] k2 pt2) pos.line X.env = pure false := by rfl) :
    JS X W (.Assign [.Tuple [.Name x px, .Name y py, .Name z pz] kt pt] (.Tuple [a, b, c] k2 pt2) pos) (mPar [i, j, l] ms) := by
  obtain ⟨t, p, s⟩ := ha.ex
  refine ⟨_, ps_par3 hc hN hi hj hk hij hil hjl hx hy hz p hw hs, fun P F0 qc F cell S σ H D fl S' R hm k => ?_⟩
  unfold mPar at hm
  split at hm
  · rename_i rs S1 e1
    split at hm
    · rename_i hl
      cases hm
      refine s P F0 qc F cell S σ H _ rs S1 R e1 fun vs P' F' H' f1 R1 l => ?_
      obtain ⟨c', R2⟩ := l.all hl R1
      have hv : vs.length = 3 := l.length.trans hl
      match vs, hv with
      | [v, w, u], _ =>
        refine ⟨v, w, u, rfl, ?_⟩
        rw [List.set_comm _ _ hjl, List.set_comm _ _ hil, List.set_comm _ _ hij]
        exact k F' c' _ H' f1 R2
    · cases hm
  · cases hm
/-- by a pair that is made and taken apart -/
def mUnp (m : ME) (g : MG) : MS := fun S => match m S with
  | some (.v d, S1) => match g d S1 with
    | some S2 => some (.nx, S2)
    | none => none
  | _ => none
theorem js_unp {tg : Expr} {me : ME} {g : MG} {ts : List Nat} (he : JE X e me) (hg : JG X tg g ts) (hs : swapsWithSole [tg] e pos.line X.env = pure false := by rfl) (hw : swappedStores [tg] e X.env = pure none := by rfl)
    (h1 : (assignEach [tg] X.env).map (·.2) = [assign tg X.env] := by rfl) : JS X W (.Assign [tg] e pos) (mUnp me g) := by
  obtain ⟨t, p, s⟩ := he.ex
  obtain ⟨gg, pg, sg⟩ := hg.ex
  refine ⟨_, ps_asg p pg hs hw h1, fun P F0 qc F cell S σ H D fl S' R hm k => ?_⟩
  unfold mUnp at hm
  split at hm
  · rename_i d S1 e1
    split at hm
    · rename_i S2 e2
      cases hm
      refine s P F0 qc F cell S σ H _ _ S1 R e1 fun v F1 H1 f1 R1 q1 => ?_
      exact sg P F0 qc F1 cell S1 σ H1 _ v d S' R1 q1 e2 fun σ' R2 _ => k F1 cell σ' H1 f1 R2
    · cases hm
  · cases hm
end
end VL

set_option Elab.async false
set_option linter.all false
set_option maxRecDepth 100000
set_option maxHeartbeats 4000000
/-! VL11: insert; defs called by keywords; defs that give a new list. -/
namespace VL
open PySem PySem.Spec PyProof.Rows L2

/-! ### x.insert(i, e) -/
section
variable {X : Cx} {W : WX} {e a : Expr} {me mi : ME} {x : Str} {pos p1 apos cpos : Pos}
theorem js_ins (j : Nat) (hi : JE X a mi) (he : JE X e me) (hN : X.N[j]? = some x := by rfl) (hv : Vis X.env.scope x := by first | exact Or.inl rfl | exact Or.inr (Or.inl rfl) | exact Or.inr (Or.inr rfl)) (hd : (x == ("__debug__" : Str)) = false := by decide)
    (hcd : (x == ("__classdict__" : Str)) = false := by decide)
    (hbase : attributeBase (.Name x p1) "insert" X.env (eval (.Name x p1) X.env) = eval (.Name x p1) X.env := by rfl)
    (hfew : ((backTo cpos (starEach [a, e] X.env)).all (fun x => !x.1) && (backToKw cpos (keywordEach [] X.env)).all (fun x => x.1.isSome)
      && decide ([a, e].length + ([] : List Keyword).length + (if ([] : List Keyword).isEmpty then 0 else 1) < 30)) = true := by rfl)
    (hline : (apos.endLine == cpos.line) = true := by rfl) (hst : starEach [a, e] X.env = (false, eval a X.env) :: starEach [e] X.env := by rfl) (hst2 : starEach [e] X.env = (false, eval e X.env) :: starEach [] X.env := by rfl) (hplain : (backTo cpos (starEach [e] X.env)).any (·.1) = false := by rfl)
    (hs : swapsWith (.Call (.Attribute (.Name x p1) "insert" apos) [a, e] [] cpos) none pos.line X.env = pure false := by rfl) :
    JS X W (.Expr (.Call (.Attribute (.Name x p1) "insert" apos) [a, e] [] cpos) pos) (mIns j mi me) := by
  obtain ⟨t, p, s⟩ := he.ex
  obtain ⟨ti, pi, si⟩ := hi.ex
  refine ⟨_, ps_expr (pe_bm PySem.F.plainAttrs_list PySem.F.slot_list_insert PySem.F.type_list_insert mt_insert (pe_var hN hv hd hcd) (pa_cons pi (pa_cons p pa_nil hst2) hst) hbase hfew hline hst hplain) hs, fun P F0 qc F cell S σ H D fl S' R hm k => ?_⟩
  unfold mIns at hm
  split at hm
  · rename_i zs h1
    split at hm
    · rename_i kk S1 h2
      split at hm
      · rename_i d S2 h3
        split at hm
        · rename_i xs h4
          split at hm
          · rename_i hl
            cases hm
            obtain ⟨g1, _, _, vs0, g0, _⟩ := R.at h1
            refine ⟨_, g1, .inl ⟨rfl, vs0, SqL.of g0⟩, ?_⟩
            refine si P F0 qc F cell S σ H _ _ S1 R h2 fun u F1 H1 f1 R1 q1 => ?_
            refine s P F0 qc F1 cell S1 σ H1 _ _ S2 R1 h3 fun v F2 H2 f2 R2 q2 => ?_
            obtain ⟨_, _, _, ws, g4, g5⟩ := R2.at h4
            cases (show DV X.K F1 u (.int kk) from q1)
            refine ⟨cell j, ws, kk, v, rfl, rfl, g4, ?_, hl.2.1, Int.lt_of_le_of_lt hl.2.2 (by decide), ?_⟩
            · rw [g5.length]
              exact Nat.lt_of_lt_of_le hl.1 (by decide)
            · exact k F2 cell σ _ (f1.trans f2) (R2.mutate h4 (((g5.take kk.toNat).append (.cons q2 .nil)).append (g5.drop kk.toNat)))
          · cases hm
        · cases hm
      · cases hm
    · cases hm
  · cases hm
end

/-! ### by keywords alone -/
/-- ks: the names in the parameters' order -/
structure KB (K : PySem.W.Frag) (fd : FuncData) (ps : List Str) : Prop where
  to : ∀ (s : Shared) (ws : List Value), K.In s.heap → ws.length = ps.length → BindsTo s fd ⟨[], ps.zip ws⟩ (ps.zip ws)
theorem KB.of {K : PySem.W.Frag} {x qual : Str} {st : Stmt} {f : Addr} {fd : FuncData} (F : Fun K x qual st f fd) {ps : List Str}
    (h : ∀ (kV doc pm : Value) (an : Option Addr) (cdv ct : Value) (ws : List Value), ws.length = ps.length → bindArgs (PySem.W.fnOf x qual (defArgs st) (defBody st) (defScope st) .none kV doc pm an cdv ct) ⟨[], ps.zip ws⟩ = pure (ps.zip ws)) : KB K fd ps := by
  obtain ⟨oc, od, kV, doc, pm, an, cdv, ct, osl, rfl, lk, hcd⟩ := F.ex
  exact ⟨fun s ws _ hl => .of_eq (h kV doc pm an cdv ct ws hl)⟩
def gK {α : Type} (us ws : List α) : List α := match us with
  | [] => ws
  | _ :: _ => []
theorem KB.kb {K : PySem.W.Frag} {fd : FuncData} {p0 : Str} {ps : List Str} (b : KB K fd (p0 :: ps)) : KBinds K fd (p0 :: ps) (p0 :: ps) gK gK :=
  ⟨fun s us ws h hl => by
    cases us with
    | nil => exact b.to s ws h hl
    | cons u us => simp [gK] at hl, fun {vs us zs ws} r rz => by
    cases r with
    | nil => exact rz
    | cons _ _ => exact .nil⟩
section
variable {X : Cx} {k n : Nat} {f : Addr} {fd : FuncData} {p0 : Str} {ps : List Str} {x : Str} {p pos : Pos} {e : Expr} {es : List Expr} {kws : List Keyword} {m : MF} {mas : MA}
structure JK (X : Cx) (kws : List Keyword) (m : MA) : Prop where
  ex : ∃ t, PK X kws t ∧ SndA X.K t m
theorem jk_nil : JK X [] aNil := by
  obtain ⟨t, _, s⟩ := (ja_nil (X := X)).ex
  exact ⟨_, pk_nil, fun P F0 qc F cell S σ H Q rs S' R hm k => by
    cases hm
    exact k [] F H (Same.refl _) R rfl⟩
theorem snd_cons {K : PySem.W.Frag} {t : TE} {u : TA} {ma : ME} (s : SndE K t ma) (su : SndA K u mas) : SndA K (tCons t u) (aCons ma mas) := by
  intro P F0 qc F cell S σ H Q rs S' R hm k
  unfold aCons at hm
  split at hm
  · cases hm
  · rename_i r S1 e1
    split at hm
    · cases hm
    · rename_i rs' S2 e2
      cases hm
      refine s P F0 qc F cell S σ H _ r S1 R e1 fun v F1 H1 f1 R1 q1 => ?_
      refine su P F0 qc F1 cell S1 σ H1 _ rs' S' R1 e2 fun vs F2 H2 f2 R2 q2 => ?_
      exact k (v :: vs) F2 H2 (f1.trans f2) R2 ⟨v, vs, rfl, q1.mono f2, q2⟩
theorem jk_cons {nm} {kpos : Pos} {me : ME} (ha : JE X e me) (hr : JK X kws mas) : JK X (⟨nm, e, kpos⟩ :: kws) (aCons me mas) := by
  obtain ⟨t, p, s⟩ := ha.ex
  obtain ⟨u, q, su⟩ := hr.ex
  exact ⟨_, pk_cons p q, snd_cons s su⟩
/-- f(k = e, ..) -/
theorem je_callFK (G : FnG X.prog X.w X.K X.mg X.base CX0 k f fd (p0 :: ps) (spM X.K n m)) (gd : X.A.guards = some []) (hr : Room k X.A) (hm : X.mg x = some (.ref f)) (hk : PySem.W.keepIn X.K (.ref f) = true) (hb : KB X.K fd (p0 :: ps)) (ha : JK X kws mas)
    (hg : Gl X x := by rfl) (hall : (backToKw pos (keywordEach kws X.env)).all (·.1.isSome) = true := by rfl) (hks : (backToKw pos (keywordEach kws X.env)).filterMap (·.1) = p0 :: ps := by rfl) (hdb : (x == ("__debug__" : Str)) = false := by decide)
    (hpl : ((backTo pos (starEach [] X.env)).any (·.1) || (backToKw pos (keywordEach kws X.env)).any (·.1.isNone)) = false := by rfl) :
    JE X (.Call (.Name x p) [] kws pos) (mCallF n m mas) := by
  obtain ⟨ta, pa, sa⟩ := ha.ex
  have imp : ∀ (σ : L2.St) (H : Hp) (Q : VK), tCall (spM X.K n m) [] E0 ta σ H Q → tCallK (spM X.K n m) gK E0 tNil ta σ H Q := fun σ H Q h => by
    have e : (fun (vs : List V) H1 => spM X.K n m (vs ++ []) H1 Q E0) = fun (zs : List V) H2 => spM X.K n m (gK [] zs) H2 Q E0 := by
      funext vs H1
      rw [List.append_nil]
      rfl
    show ta σ H (fun (zs : List V) H2 => spM X.K n m (gK [] zs) H2 Q E0)
    rw [← e]
    exact h
  refine ⟨_, pe_callGK0 G gd hr hg hm hk hb.kb pass0 pa hall hks hdb hpl, fun P F0 qc F cell S σ H Q z S' R hm k => ?_⟩
  exact imp σ H Q (snd_callF (n := n) (m := m) sa P F0 qc F cell S σ H Q z S' R hm k)
end

/-! ### defs that give a new list -/
abbrev MFc := List SL → Option (List PyData × List SL)
def spC (K : PySem.W.Frag) (n : Nat) (m : MFc) : Sp := fun vs H Q _ => vs.length = n ∧ ∃ F as ds as', Same F H ∧ Fits K F H as vs ∧ m as = some (ds, as') ∧
  ∀ p ws F' H', Back K F H F' H' as vs as' .non .none → H p = none → F' p = none → H' p = some (.lst ws) → DVs K F' ws ds → Q (.ref p) H'
abbrev MC := Sl → Option (List PyData × Sl)
def SndC (K : PySem.W.Frag) (W : WX) (t : TS) (m : MC) : Prop :=
  ∀ (P F0 : Hp) (qc : Nat → Addr) (F : Hp) (cell : Nat → Addr) (S : Sl) (σ : L2.St) (H : Hp) (D : Ends) (ds : List PyData) (S' : Sl), RC K P F0 qc F cell S σ H → m S = some (ds, S') →
    (∀ p ws F' cell' σ' H', Same F F' → P p = none → F0 p = none → RC K (upd P p (.lst ws)) F0 qc F' cell' S' σ' H' → DVs K F' ws ds → D.rt (.ref p) H') → t D σ H
structure JC (X : Cx) (W : WX) (sts : List Stmt) (m : MC) : Prop where
  ex : ∃ t, PSs X sts t ∧ SndC X.K W t m
def mSeqC (m : MS) (n : MC) : MC := fun S => match m S with
  | some (.nx, S1) => n S1
  | _ => none
def mRetC (mx : MX) : MC := fun S => match mx S with
  | some (.c ds, S1) => some (ds, S1)
  | _ => none
section
variable {X : Cx} {W : WX} {st : Stmt} {rest : List Stmt} {e : Expr} {m : MS} {n : MC} {mx : MX} {pos : Pos}
theorem jc_cons (h1 : JS X W st m) (h2 : JC X W rest n) : JC X W (st :: rest) (mSeqC m n) := by
  obtain ⟨t, p1, s1⟩ := h1.ex
  obtain ⟨u, p2, s2⟩ := h2.ex
  refine ⟨_, pss_cons p1 p2, fun P F0 qc F cell S σ H D ds S' R hm k => ?_⟩
  unfold mSeqC at hm
  split at hm
  · rename_i S1 e1
    refine s1 P F0 qc F cell S σ H { D with nx := u D } .nx S1 R e1 fun F1 c1 σ1 H1 f1 R1 => ?_
    exact s2 P F0 qc F1 c1 S1 σ1 H1 D ds S' R1 hm fun p ws F2 c2 σ2 H2 f2 hp h0 R2 q => k p ws F2 c2 σ2 H2 (f1.trans f2) hp h0 R2 q
  · cases hm
theorem jc_ret (he : JX X e mx) : JC X W [.Return (some e) pos] (mRetC mx) := by
  obtain ⟨t, p, s⟩ := he.ex
  refine ⟨_, pss_one (ps_ret p), fun P F0 qc F cell S σ H D ds S' R hm k => ?_⟩
  unfold mRetC at hm
  split at hm
  · rename_i ds' S1 e1
    cases hm
    exact s P F0 qc F cell S σ H _ _ S' R e1 fun p ws F' H' f1 hp h0 R1 q1 => k p ws F' cell σ H' f1 hp h0 R1 q1
  · cases hm
end
theorem asOut_still : ∀ {as : List SL} {S : Sl} {as' : List SL} {j : Nat} {xs : List PyData}, asOut as S = some as' → as[j]? = some (.q xs) → ∃ ys, S[j]? = some (some (.q ys)) := by
  intro as
  induction as with
  | nil => intro S as' j xs _ e; simp at e
  | cons a as ih =>
    intro S as' j xs h e
    cases S with
    | nil => cases a <;> simp [asOut] at h
    | cons s S =>
      cases j with
      | zero =>
        have ea : a = .q xs := by simpa using e
        subst ea
        cases s with
        | none => simp [asOut] at h
        | some s =>
          cases s with
          | q ws => exact ⟨ws, rfl⟩
          | _ => simp [asOut] at h
      | succ j =>
        have e' : as[j]? = some (.q xs) := by simpa using e
        have tl : ∃ as2, asOut as S = some as2 := by
          cases a with
          | q zs =>
            cases s with
            | none => simp [asOut] at h
            | some s =>
              cases s with
              | q ws =>
                obtain ⟨as2, h2, _⟩ := Option.map_eq_some_iff.mp (show (asOut as S).map (SL.q ws :: ·) = some as' by simpa [asOut] using h)
                exact ⟨as2, h2⟩
              | _ => simp [asOut] at h
          | v d =>
            obtain ⟨as2, h2, _⟩ := Option.map_eq_some_iff.mp (show (asOut as S).map (SL.v d :: ·) = some as' by simpa [asOut] using h)
            exact ⟨as2, h2⟩
          | c d =>
            obtain ⟨as2, h2, _⟩ := Option.map_eq_some_iff.mp (show (asOut as S).map (SL.c d :: ·) = some as' by simpa [asOut] using h)
            exact ⟨as2, h2⟩
          | s d =>
            obtain ⟨as2, h2, _⟩ := Option.map_eq_some_iff.mp (show (asOut as S).map (SL.s d :: ·) = some as' by simpa [asOut] using h)
            exact ⟨as2, h2⟩
        obtain ⟨as2, h2⟩ := tl
        obtain ⟨ys, e3⟩ := ih h2 e'
        exact ⟨ys, by simpa using e3⟩
theorem back_end {K : PySem.W.Frag} {F1 H P1 : Hp} {as as' : List SL} {vs : List V} {v : V} {d : PyData} {F' H' : Hp} {c' : Nat → Addr} {S' : Sl} {σ' : L2.St} (ft : Fits K F1 H as vs)
    (hP1 : ∀ b o, H b = some o → (∀ (j : Nat) (xs : List PyData), as[j]? = some (.q xs) → vs[j]? ≠ some (.ref b)) → P1 b = some o) (hP2 : ∀ b, P1 b = none → H b = none ∨ ∃ (j : Nat) (xs : List PyData), as[j]? = some (.q xs) ∧ vs[j]? = some (.ref b))
    (f1 : Same F1 F') (R1 : RC K P1 F1 (adr vs) F' c' S' σ' H') (dv : DV K F' v d) (ho : asOut as S' = some as') : Back K F1 H F' H' as vs as' v d := by
  refine ⟨f1, R1.fh, fun b o e hno => R1.ph b o (hP1 b o e hno), fun b z => ?_, dv, fun j xs e => ?_⟩
  · rcases R1.fr b z with z' | z'
    · exact .inl z'
    · rcases hP2 b z' with z2 | ⟨j, xs, h1, h2⟩
      · exact .inr z2
      · -- a lent list is not told as long as its slot holds it; here it must be shown from the slot
        by_cases q : F1 b = none
        · exact absurd q (by
            intro q
            -- the slot j still bears the lent list
            obtain ⟨ys, e1⟩ : ∃ ys, S'[j]? = some (some (.q ys)) := by
              have aux : ∀ {as : List SL} {S : Sl} {as' : List SL} {j : Nat} {xs : List PyData}, asOut as S = some as' → as[j]? = some (.q xs) → ∃ ys, S[j]? = some (some (.q ys)) := by
                intro as
                induction as with
                | nil => intro S as' j xs _ e; simp at e
                | cons a as ih =>
                  intro S as' j xs h e
                  cases S with
                  | nil => cases a <;> simp [asOut] at h
                  | cons s S =>
                    cases j with
                    | zero =>
                      have ea : a = .q xs := by simpa using e
                      subst ea
                      cases s with
                      | none => simp [asOut] at h
                      | some s =>
                        cases s with
                        | q ws => exact ⟨ws, rfl⟩
                        | _ => simp [asOut] at h
                    | succ j =>
                      have e' : as[j]? = some (.q xs) := by simpa using e
                      have tl : ∃ as2, asOut as S = some as2 := by
                        cases a with
                        | q zs =>
                          cases s with
                          | none => simp [asOut] at h
                          | some s =>
                            cases s with
                            | q ws =>
                              obtain ⟨as2, h2, _⟩ := Option.map_eq_some_iff.mp (show (asOut as S).map (SL.q ws :: ·) = some as' by simpa [asOut] using h)
                              exact ⟨as2, h2⟩
                            | _ => simp [asOut] at h
                        | v d =>
                          obtain ⟨as2, h2, _⟩ := Option.map_eq_some_iff.mp (show (asOut as S).map (SL.v d :: ·) = some as' by simpa [asOut] using h)
                          exact ⟨as2, h2⟩
                        | c d =>
                          obtain ⟨as2, h2, _⟩ := Option.map_eq_some_iff.mp (show (asOut as S).map (SL.c d :: ·) = some as' by simpa [asOut] using h)
                          exact ⟨as2, h2⟩
                        | s d =>
                          obtain ⟨as2, h2, _⟩ := Option.map_eq_some_iff.mp (show (asOut as S).map (SL.s d :: ·) = some as' by simpa [asOut] using h)
                          exact ⟨as2, h2⟩
                      obtain ⟨as2, h2⟩ := tl
                      obtain ⟨ys, e3⟩ := ih h2 e'
                      exact ⟨ys, by simpa using e3⟩
              exact aux ho h1
            obtain ⟨_, g2, _⟩ := R1.cl j _ ys e1 rfl
            have ec : c' j = b := by
              rw [R1.qs j ys e1]
              unfold adr
              rw [h2]
            rw [ec] at g2
            exact z g2)
        · exact .inl q
  · obtain ⟨e1, ys, e2⟩ := asOut_q ho e
    obtain ⟨g1, _, _, ws, g4, g5⟩ := R1.cl j _ xs e1 rfl
    obtain ⟨v2, g6, c2, us, rfl, _⟩ := ft.arg j _ e2
    have ec : c' j = c2 := by
      rw [R1.qs j xs e1]
      unfold adr
      rw [g6]
    rw [ec] at g4
    exact ⟨c2, ws, g6, g4, g5⟩

def defMc (n : Nat) (m : MC) : MFc := fun as => match m (startS n as) with
  | some (ds, S) => match asOut as S with
    | some as' => some (ds, as')
    | none => none
  | none => none
section
variable {P : Program} {w : World} {K : PySem.W.Frag} {mg : Str → Option Value} {base : Heap}
theorem jfC {x qual : Str} {st : Stmt} {f : Addr} {fd : FuncData} {N ps : List Str} {k : Nat} {m : MC} (F : Fun K x qual st f fd) (S : FnScope N ps (defScope st)) (hl : ps.length ≤ N.length)
    (hb : ∀ cdv A outer s H (E : _), A.guards = some [] → Room k (cxOf CX0 P w K mg base N qual (defScope st) f cdv A outer s H E).nox.A → JC (cxOf CX0 P w K mg base N qual (defScope st) f cdv A outer s H E).nox W0 (defBody st) m) :
    FnG P w K mg base CX0 (k + 1) f fd ps (spC K ps.length (defMc N.length m)) := by
  refine okG F S (fun vs H Q E h => h.1) fun cdv A outer s H vs Q E hg hr h => ?_
  obtain ⟨hv, F1, as, ds, as', fh, ft, hm, kk⟩ := h
  obtain ⟨t, pt, stt⟩ := (hb cdv A outer s H E hg hr).ex
  refine ⟨t, pt, ?_⟩
  obtain ⟨P1, hP1, hP2, R⟩ := rc_start (N := N) fh ft (by rw [← ft.len, hv]; exact hl)
  unfold defMc at hm
  split at hm
  · rename_i ds' S' e1
    split at hm
    · rename_i as2 e2
      cases hm
      refine stt P1 F1 (adr vs) F1 (adr vs) _ _ H _ _ S' R e1 fun p ws F' c' σ' H' f1 hp h0 R1 q => ?_
      have B := back_end ft hP1 hP2 f1 (R1.unlay hp) .non e2
      refine kk p ws F' H' B ?_ (R1.laid_untold h0) R1.laid_at q
      rcases hP2 p hp with z | ⟨j, xs, z1, z2⟩
      · exact z
      · exfalso
        obtain ⟨ys, e3⟩ := asOut_still e2 z1
        have e4 : c' j = p := by
          rw [R1.qs j ys e3]
          unfold adr
          rw [z2]
        exact R1.laid_apart j _ e3 rfl e4
    · cases hm
  · cases hm
end
def mCallC (n : Nat) (m : MFc) (ma : MA) : MX := fun S => match ma S with
  | none => none
  | some (rs, S1) => if rs.length = n ∧ (ptrs rs).Nodup then match argsOf S1 rs with
      | none => none
      | some as => match m as with
        | none => none
        | some (ds, as') => match putBack S1 rs as' with
          | none => none
          | some S2 => some (.c ds, S2)
    else none
section
variable {K : PySem.W.Frag} {P F0 F F' : Hp} {qc cell : Nat → Addr} {S : Sl} {σ : L2.St} {H H' : Hp} {p : Addr} {o : HO}
theorem RC.lay_old (R : RC K P F0 qc F cell S σ H) (hp : H p = some o) (hF : F p = none) (ap : Apart S cell p) : RC K (upd P p o) F0 qc F cell S σ H where
  len := R.len
  f0 := R.f0
  fh := R.fh
  ph := fun b u e => by
    by_cases q : b = p
    · subst q
      rw [upd_same] at e
      cases e
      exact hp
    · rw [upd_ne q] at e
      exact R.ph b u e
  fr := fun b z => by
    by_cases q : b = p
    · subst q
      exact absurd hF z
    · rcases R.fr b z with z | z
      · exact .inl z
      · exact .inr (by rw [upd_ne q]; exact z)
  vl := R.vl
  sc := R.sc
  cl := fun i x xs h hx => by
    obtain ⟨h1, h2, h3, h4⟩ := R.cl i x xs h hx
    exact ⟨h1, h2, by rw [upd_ne (ap i x h (by rw [hx]; rfl))]; exact h3, h4⟩
  qs := R.qs
  inj := R.inj
theorem putBack_old {rs : List SV} {as as' : List SL} {S S2 : Sl} (hb : putBack S rs as' = some S2) (ha : argsOf S rs = some as) {i : Nat} {y : SL} (h : S2[i]? = some (some y)) (hy : y.held.isSome = true) : ∃ x : SL, S[i]? = some (some x) ∧ x.held.isSome = true := by
  by_cases hi : i ∈ ptrs rs
  · obtain ⟨j, hj⟩ := mem_ptrs.mp hi
    obtain ⟨a, h1, h2⟩ := argsOf_got ha hj
    obtain ⟨xs, hx, _⟩ := Option.map_eq_some_iff.mp (show (heldAt S i).map SL.q = some a from h2)
    obtain ⟨x, e1, e2⟩ := held_of hx
    exact ⟨x, e1, by rw [e2]; rfl⟩
  · rw [putBack_out hb hi] at h
    exact ⟨y, h, hy⟩
end
section
variable {X : Cx} {k n : Nat} {f : Addr} {fd : FuncData} {ps : List Str} {x : Str} {p pos : Pos} {e : Expr} {es : List Expr} {m : MFc} {mas : MA}
theorem jx_callC (G : FnG X.prog X.w X.K X.mg X.base CX0 k f fd ps (spC X.K n m)) (gd : X.A.guards = some []) (hr : Room k X.A) (hm : X.mg x = some (.ref f)) (hk : PySem.W.keepIn X.K (.ref f) = true) (hb : Binds X.K fd ps []) (ha : JA X (e :: es) mas)
    (hg : Gl X x := by rfl) (hdb : (x == ("__debug__" : Str)) = false := by decide) (he : starEach (e :: es) X.env = (false, eval e X.env) :: starEach es X.env := by rfl) (hpl : (backTo pos (starEach es X.env)).any (·.1) = false := by rfl) :
    JX X (.Call (.Name x p) (e :: es) [] pos) (mCallC n m mas) := by
  obtain ⟨ta, pa, sa⟩ := ha.ex
  refine ⟨_, pe_callG G gd hr hg hm hk hb .nil pass0 pa hdb he hpl, fun P F0 qc F cell S σ H Q z S' R hm k => ?_⟩
  unfold mCallC at hm
  split at hm
  · cases hm
  · rename_i rs S1 e1
    split at hm
    · rename_i hc
      split at hm
      · cases hm
      · rename_i as ha
        split at hm
        · cases hm
        · rename_i ds as' hd
          split at hm
          · cases hm
          · rename_i S2 hb
            cases hm
            refine sa P F0 qc F cell S σ H _ rs S1 R e1 fun vs F1 H1 s1 R1 q1 => ?_
            show spC X.K n m (vs ++ []) H1 Q E0
            rw [List.append_nil]
            refine ⟨by rw [q1.length]; exact hc.1, F1, as, ds, as', R1.fh, R1.fits q1 ha hc.2, hd, fun p ws F' H' B hp hF hH q => ?_⟩
            have R2 := R1.back q1 ha hc.2 B hb
            have ap : Apart S' cell p := fun i y h hy => by
              obtain ⟨x, h1, h2⟩ := putBack_old hb ha h hy
              exact R1.apart_new hp i x h1 h2
            exact k p ws F' H' (s1.trans B.f) (R1.ph.free hp) ((R1.f0.trans R1.fh).free hp) (R2.lay_old hH hF ap) q
    · cases hm
end
end VL

set_option Elab.async false
set_option linter.all false
set_option maxRecDepth 100000
set_option maxHeartbeats 4000000
/-! VX4: enumerate of a tuple, of a text. -/
namespace VX
open PySem PySem.Spec PyProof.Rows L2
theorem meets_enum1 {v : Value} {o : Obj} {H : Heap → Prop} (B : Begins v o H) :
    Meets (Builtin.«enumerate.__new__» ⟨[.type "enumerate", v], []⟩) (fun _ R s => H s.heap ∧
      R (.ok (.ret (.ref (s.heap.push o).objs.size))) { s with heap := (s.heap.push o).push { cls := .type "enumerate", data := .fields #[.none, .bool false, .ref s.heap.objs.size, rawInt 0, .none, .none] } }) :=
  .of_wp fun prog w A R s h => by
    obtain ⟨hp, g, d, tk, os⟩ := s; obtain ⟨h1, h⟩ := h
    have hsub := sub_enumerate
    have q1 : ∀ {A' : Around} {E : Value → Shared → Prop} {Q : Value → Shared → Prop}, Q (.ref hp.objs.size) ⟨hp.push o, g, d, tk, os⟩ → wpAny (model prog w) A' (pyIter v) Q E ⟨hp, g, d, tk, os⟩ :=
      fun q => B.iter prog w _ _ ⟨hp, g, d, tk, os⟩ _ h1 q
    wp_walk using q1
    refine wpAny_stack_any fun st => wpAny_pure ?_
    split
    · rename_i c _ _ _ _ _
      cases (c == Value.type "enumerate")
      · wp_walk using q1
        exact ⟨_, rfl, h⟩
      · wp_walk using q1
        exact ⟨_, rfl, h⟩
    · wp_walk using q1
      exact ⟨_, rfl, h⟩
section
variable {prog : Program} {w : World} {A : Around} {E : Value → Shared → Prop} {s : Shared}
theorem enum_begins1 {v : Value} {o : Obj} {H : Heap → Prop} {Q : Value → Shared → Prop} (B : Begins v o H) (h1 : H s.heap)
    (h : ∀ h', IsEnum h' (s.heap.objs.size + 1) s.heap.objs.size 0 .none → h'.get? s.heap.objs.size = some o → h'.objs.size = s.heap.objs.size + 2 →
      (∀ b o, s.heap.get? b = some o → h'.get? b = some o) → Q (.ref (s.heap.objs.size + 1)) { s with heap := h' }) :
    wpAny (model prog w) A (call (.type "enumerate") [v]) Q E s := by
  refine callType_new F.called_enumerate (by decide) (F.typeCall_enumerate_1 _) (F.newCall_enumerate_1 _) (fun obj => F.args_object_init_2 obj _) F.entry_enumerate_new
    (meets_enum1 B) ⟨h1, ?_⟩
  have hz : (s.heap.push o).objs.size = s.heap.objs.size + 1 := Heap.size_push ..
  show _ ∧ _
  rw [hz]
  have he : IsEnum ((s.heap.push o).push { cls := .type "enumerate", data := .fields #[.none, .bool false, .ref s.heap.objs.size, rawInt 0, .none, .none] }) (s.heap.objs.size + 1) s.heap.objs.size 0 .none := by
    have := Heap.get?_push_size (s.heap.push o) (o := { cls := .type "enumerate", data := .fields #[.none, .bool false, .ref s.heap.objs.size, rawInt 0, .none, .none] }) rfl
    rw [hz] at this; exact this
  refine ⟨⟨_, he, rfl⟩, h _ he (Heap.get?_push_of_some _ (Heap.get?_push_size _ B.free)) (by rw [Heap.size_push, hz]) fun b o x => Heap.get?_push_of_some _ (Heap.get?_push_of_some _ x)⟩
end
/-- the items xs with their places, in new pairs, where G stands -/
def Iten (xs : List V) (G : Hp → Prop) : It :=
  ⟨fun i H => G H ∧ i < xs.length, fun i H v H' => ∃ T x, v = .ref T ∧ H T = none ∧ H' = upd H T (.tup [.int (i : Nat), x]) ∧ xs[i]? = some x, fun i H => G H ∧ i = xs.length⟩
theorem walk_en {xs : List V} {G : Hp → Prop} : Walk (Iten xs G) xs.length G (YPair (fun i => some (.int (i : Nat))) (fun i => xs[i]?)) := by
  refine ⟨fun i _ hi q => ⟨q, hi⟩, fun _ q => ⟨q, rfl⟩, fun i H v H' _ q y => ?_⟩
  obtain ⟨T, x, h1, h2, h3, h4⟩ := y
  exact ⟨T, .int (i : Nat), x, h1, h2, h3, rfl, h4⟩
/-- what is drawn from the iterator it, its footprint fp (ahead of it: it), as the V's xs -/
structure Src (P : Program) (w : World) (K : PySem.W.Frag) (xs : List V) (G : Hp → Prop) (it : Addr) (St : Nat → Heap → Prop) : Prop where
  obj : ∀ i h, St i h → ∃ o, h.get? it = some o ∧ ∀ v, o.data ≠ .cell v
  keep : ∀ i h h', St i h → (∀ o, h.get? it = some o → h'.get? it = some o) → St i h'
  draw : ∀ (X : Cx) (pins : List (Addr × Obj)) (σ : L2.St) (H : Hp) (s : Shared) (e : Addr) (old : Value) (j : Int), X.prog = P → X.w = w → X.K = K → X.A.handled = none → Inv X pins σ H s → G H → IsEnum s.heap e it j old →
    ∃ fp PP ST, Draws X.prog X.w X.A.in1 it fp xs.length PP ST ∧ (e ≠ it → e ∉ fp) ∧ (∀ i, St i s.heap → ST i s.heap) ∧ (∀ i h', ST i h' → St i h') ∧ ∀ i u, PP i u → ∃ x, xs[i]? = some x ∧ RelV x u
section
variable {P : Program} {w : World} {K : PySem.W.Frag} {xs : List V} {G : Hp → Prop} {it : Addr} {St : Nat → Heap → Prop}
theorem turn_en {elts : List Expr} {kk : Nat} {tpos : Pos} (R : Src P w K xs G it St) (hG : ∀ H T o, G H → H T = none → G (upd H T o)) (e : Addr) :
    Turn P w K (.Tuple elts kk tpos) (Iten xs G) [e, it] e (fun i h => (∃ old, IsEnum h e it ((i : Nat) : Int) old) ∧ St i h ∧ e ≠ it) where
  mem := by simp
  obj := fun i h st b hb => by
    obtain ⟨⟨old, he⟩, hs, _⟩ := st
    have e' : b = e ∨ b = it := by simpa using hb
    rcases e' with z | z
    · rw [z]; exact ⟨_, he, fun v q => nomatch q⟩
    · rw [z]; exact R.obj i h hs
  keep := fun i h h' st k => let ⟨⟨old, he⟩, hs, hne⟩ := st; ⟨⟨old, k e (by simp) _ he⟩, R.keep i h h' hs fun o q => k it (by simp) o q, hne⟩
  item := by
    intro X hP hw hK hc i pins s σ H E I hf st hg
    obtain ⟨⟨old, he⟩, hs, hne⟩ := st
    obtain ⟨hG1, hi⟩ := hg
    obtain ⟨fp, PP, ST, D, hef, h1, h2, h3⟩ := R.draw X pins σ H s e old _ hP hw hK (I.ok.hd hc) I hG1 he
    subst hP hw hK
    have hel : e < s.heap.objs.size := Heap.lt_size he
    have hil : it < s.heap.objs.size := by obtain ⟨_, q, _⟩ := R.obj i _ hs; exact Heap.lt_size q
    refine wpAny_pyNext_enum_itemC D he (h1 i hs) hi hne (hef hne) fun u h' tk hP ho hs' hT hsz hk => ?_
    obtain ⟨x, hx, ru⟩ := h3 i u hP
    refine ⟨_, rfl, wpAny_letOwnedTupleGo_enum (s := { s with heap := h', toks := tk + 1 }) ho fun h'' he' sb => ?_⟩
    have hT2 : h''.get? s.heap.objs.size = some { cls := .type "tuple", data := .seq #[.int i tk, u] } := (sb.2 _ (Nat.ne_of_gt hel)).trans hT
    have new : ObjOk X.prog X.w (upd H s.heap.objs.size (.tup [.int (i : Nat), x])) h'' s.heap.objs.size (.tup [.int (i : Nat), x]) :=
      ⟨by show 2 ≤ sizeLine; decide, [.int i tk, u], .cons ⟨_, rfl⟩ (.cons ru .nil), ⟨_, hT2, rfl, _, rfl⟩⟩
    have I1 : Inv X pins σ (upd H s.heap.objs.size (.tup [.int (i : Nat), x])) { s with heap := h'', toks := tk + 1 } :=
      I.turnedNew (ch := [e, it]) (fun b ob hb q => (sb.2 b (fun z => hb (by simp [z]))).trans (hk b ob (fun z => hb (by simp [z])) (fun z => hb (by simp [z])) q)) hf (Nat.le_refl _) new
    refine ⟨.ref s.heap.objs.size, _, I1, rfl, ⟨_, x, rfl, I.hok.fresh (Nat.le_refl _), rfl, hx⟩, ⟨⟨u, ?_⟩, R.keep _ _ _ (h2 _ _ hs') fun o q => (sb.2 it (Ne.symm hne)).trans q, hne⟩, fun b hb => ?_⟩
    · have e1 : ((i + 1 : Nat) : Int) = (i : Int) + 1 := by omega
      rw [e1]; exact he'
    · have hb' : b < s.heap.objs.size := by
        have e' : b = e ∨ b = it := by simpa using hb
        rcases e' with z | z
        · rw [z]; exact hel
        · rw [z]; exact hil
      rw [upd_ne (Nat.ne_of_lt hb')]
      exact (hf b hb).1
  done := by
    intro X hP hw hK hc i pins s σ H E I hf st hg
    obtain ⟨⟨old, he⟩, hs, hne⟩ := st
    obtain ⟨hG1, hi⟩ := hg
    obtain ⟨fp, PP, ST, D, hef, h1, h2, h3⟩ := R.draw X pins σ H s e old _ hP hw hK (I.ok.hd hc) I hG1 he
    subst hP hw hK
    obtain ⟨f0, f1, f2, f3, f4, f5⟩ := hf it (by simp)
    subst hi
    exact wpAny_pyNext_enum_endD D he (h1 _ hs) fun h' eb => ⟨rfl, I.turned (t' := s.toks) (fun b o hb q => eb b o hb q) f0 f1 f3 f4 f5⟩
  self := fun A i s Q E st h => let ⟨⟨_, he⟩, _⟩ := st; wpAny_pyIter_enum he h
end
/-! ### the sources -/
theorem src_tup {P : Program} {w : World} {K : PySem.W.Frag} {a it : Addr} {xs : List V} (hne : a ≠ it) : Src P w K xs (fun H => SqT K H a xs) it (fun i h => h.IsTupleIter it a i) where
  obj := fun i h ⟨o, e, c, d⟩ => ⟨o, e, fun v z => by rw [d] at z; cases z⟩
  keep := fun i h h' st k => st.at fun o e => k o e
  draw := by
    intro X pins σ H s e old j hP hw hK hh I hG he
    subst hP hw hK
    obtain ⟨its, rv, p, hz⟩ := I.tuple hG
    have p' : s.heap.IsTuple a its.toArray := p
    have D := Draws.tuple (prog := X.prog) (w := X.w) (A := X.A.in1) hh it a hne its.toArray
    rw [List.size_toArray, ← rv.length] at D
    refine ⟨[it, a], _, _, D, fun hei hm => ?_, fun i st => ⟨st, p'⟩, fun i h' st => st.1, fun i u hu => ?_⟩
    · rcases List.mem_cons.mp hm with z | z
      · exact hei z
      · rw [List.mem_singleton] at z
        subst z
        obtain ⟨o, e1, e2, _⟩ := p'
        unfold IsEnum at he
        rw [he] at e1
        cases e1
        exact absurd e2 (by simp)
    · have hu' : its[i]? = some u := by simpa using hu
      obtain ⟨hl, hu2⟩ := List.getElem?_eq_some_iff.mp hu'
      have hl2 : i < xs.length := by rw [rv.length]; exact hl
      obtain ⟨u2, h1, h2⟩ := rv.get (List.getElem?_eq_getElem hl2)
      rw [hu'] at h1
      cases h1
      exact ⟨_, List.getElem?_eq_getElem hl2, h2⟩
theorem src_str {P : Program} {w : World} {K : PySem.W.Frag} {it : Addr} (x : Str) (t : Tok) : Src P w K (x.cps.toList.map fun c => V.str ⟨#[c]⟩) (fun _ => True) it (fun i h => h.IsStrIter it (strIterType x) x t i) where
  obj := fun i h ⟨o, e, c, d⟩ => ⟨o, e, fun v z => by rw [d] at z; cases z⟩
  keep := fun i h h' ⟨o, ho, r⟩ k => ⟨o, k o ho, r⟩
  draw := by
    intro X pins σ H s e old j hP hw hK hh I hG he
    subst hP hw hK
    have D := Draws.text (prog := X.prog) (w := X.w) (A := X.A.in1) hh it x t
    rw [show x.cps.size = (x.cps.toList.map fun c => V.str ⟨#[c]⟩).length by rw [List.length_map, Array.length_toList]] at D
    refine ⟨[it], _, _, D, fun hei hm => hei (List.mem_singleton.mp hm), fun i st => st, fun i h' st => st, ?_⟩
    rintro i u ⟨c, v, hc, rfl⟩
    exact ⟨.str ⟨#[c]⟩, by rw [List.getElem?_map, Array.getElem?_toList, hc]; rfl, ⟨v, rfl⟩⟩
/-! ### the calls -/
def iEnT (K : PySem.W.Frag) (ta : TA) : TI := fun σ H R => ta σ H fun vs H1 => ∃ a xs, vs = [.ref a] ∧ SqT K H1 a xs ∧ R (Iten xs fun H => SqT K H a xs) H1
def iEnS (ta : TA) : TI := fun σ H R => ta σ H fun vs H1 => ∃ x : Str, vs = [.str x] ∧ R (Iten (x.cps.toList.map fun c => V.str ⟨#[c]⟩) fun _ => True) H1
section
variable {X : Cx} {e : Expr} {ta : TA} {p pos tpos : Pos} {elts : List Expr} {kk : Nat}
theorem en_land {pins : List (Addr × Obj)} {σ : L2.St} {H1 : Hp} {s1 : Shared} {R : It → Hp → Prop} {v : Value} {o : Obj} {HH : Heap → Prop} {xs : List V} {G : Hp → Prop} {St : Nat → Heap → Prop} (I1 : Inv X pins σ H1 s1) (B : Begins v o HH) (hB : HH s1.heap)
    (S : Src X.prog X.w X.K xs G s1.heap.objs.size St) (hG : ∀ H T o, G H → H T = none → G (upd H T o)) (h0 : ∀ h', h'.get? s1.heap.objs.size = some o → St 0 h') (q : R (Iten xs G) H1) {E : Value → Shared → Prop} :
    wpAny (model X.prog X.w) X.A (call (.type "enumerate") [v]) (fun v2 s2 => wpAny (model X.prog X.w) X.A (pyIter v2) (PIE X pins σ (.Tuple elts kk tpos) R) E s2) E s1 := by
  refine enum_begins1 B hB fun h' he hit hsz hk => wpAny_pyIter_enum he ?_
  have I2 : Inv X pins σ H1 { s1 with heap := h' } := I1.kept (t' := s1.toks) hk
  refine ⟨s1.heap.objs.size + 1, [s1.heap.objs.size + 1, s1.heap.objs.size], _, _, H1, rfl, I2, turn_en S hG (s1.heap.objs.size + 1), ⟨⟨.none, he⟩, h0 h' hit, Nat.succ_ne_self _⟩, fun b hb => ?_, q⟩
  have e' : b = s1.heap.objs.size + 1 ∨ b = s1.heap.objs.size := by simpa using hb
  have hle : s1.heap.objs.size ≤ b := by
    rcases e' with z | z
    · rw [z]; exact Nat.le_add_right _ _
    · rw [z]; exact Nat.le_refl _
  exact I1.fpOk hle (I1.hok.fresh hle)
theorem pi_enT (hg : Gl X "enumerate") (hm : X.mg "enumerate" = none) (ha : PA X [e] ta) (hs : starEach [e] X.env = [(false, eval e X.env)] := by rfl) :
    PI X (.Tuple elts kk tpos) (.Call (.Name "enumerate" p) [e] [] pos) (iEnT X.K ta) := by
  refine ⟨fun pins s σ H R I h => ?_⟩
  refine Call_ (ld_blt I hg hm boot_enumerate (PyProof.Rows.callWith_type1 (thn (ha.run pos pins s σ H _ I h) fun us s1 ⟨vs, H1, I1, r1, q1⟩ => ?_) hs rfl))
  obtain ⟨a, xs, ex, hq, q⟩ := q1
  subst ex
  cases r1 with
  | cons r rr =>
    cases rr
    cases r
    obtain ⟨its, rv, p', hz⟩ := I1.tuple hq
    have p2 : s1.heap.IsTuple a its.toArray := p'
    have hal : a < s1.heap.objs.size := by obtain ⟨_, q, _⟩ := p2; exact Heap.lt_size q
    exact en_land I1 (begins_tuple a its.toArray) p2 (src_tup (Nat.ne_of_lt hal)) (fun H T o g hT => VL.sqT_mono (VL.same_new hT) g) (fun h' hit => ⟨_, hit, rfl, rfl⟩) q
theorem pi_enS (hg : Gl X "enumerate") (hm : X.mg "enumerate" = none) (ha : PA X [e] ta) (hs : starEach [e] X.env = [(false, eval e X.env)] := by rfl) :
    PI X (.Tuple elts kk tpos) (.Call (.Name "enumerate" p) [e] [] pos) (iEnS ta) := by
  refine ⟨fun pins s σ H R I h => ?_⟩
  refine Call_ (ld_blt I hg hm boot_enumerate (PyProof.Rows.callWith_type1 (thn (ha.run pos pins s σ H _ I h) fun us s1 ⟨vs, H1, I1, r1, q1⟩ => ?_) hs rfl))
  obtain ⟨x, ex, q⟩ := q1
  subst ex
  cases r1 with
  | cons r rr =>
    cases rr
    obtain ⟨t, rfl⟩ := r
    exact en_land I1 (begins_text x t) trivial (src_str x t) (fun H T o g hT => trivial) (fun h' hit => ⟨_, hit, rfl, rfl⟩) q
end
end VX

set_option Elab.async false
set_option linter.all false
set_option maxRecDepth 100000
set_option maxHeartbeats 4000000
/-! VL16: raise, defs that may raise, try .. except X as n: y = n; what is asked of a kept error. -/
namespace VL
open PySem PySem.Spec PyProof.Rows L2
def mNever : MS := fun _ => none
theorem js_never {X : Cx} {W : WX} {st : Stmt} : JS X W st mNever := ⟨_, ps_never, fun P F0 qc F cell S σ H D fl S' R hm k => by cases hm⟩
def denS (K : PySem.W.Frag) (W : WX) (m : MS) : TS := fun D σ H => ∃ P F0 qc F cell S fl S', RC K P F0 qc F cell S σ H ∧ m S = some (fl, S') ∧ ∀ F' cell' σ' H', Same F F' → RC K P F0 qc F' cell' S' σ' H' → FlK K W F' cell' fl D σ' H'
theorem JB.den {X : Cx} {W : WX} {sts : List Stmt} {m : MS} (h : JB X W sts m) : PSs X sts (denS X.K W m) := by
  obtain ⟨t, p, s⟩ := h.ex
  exact ⟨fun pins s0 σ H D I ⟨P, F0, qc, F, cell, S, fl, S', R, hm, k⟩ => p.run pins s0 σ H D I (s P F0 qc F cell S σ H D fl S' R hm k)⟩
section
variable {K : PySem.W.Frag} {P F0 F F' : Hp} {qc cell : Nat → Addr} {S : Sl} {σ : L2.St} {H H' : Hp}
theorem RC.setO (R : RC K P F0 qc F cell S σ H) {i : Nat} {v : V} {o : Opq} (h : OR K F o v) : RC K P F0 qc F cell (S.set i (some (.s o))) (σ.set i (some v)) H := by
  have held : ∀ {j : Nat} {x : SL}, (S.set i (some (.s o)))[j]? = some (some x) → x.held.isSome = true → i ≠ j ∧ S[j]? = some (some x) := fun {j x} e hx => by
    rcases get_set e with ⟨rfl, e2, hl⟩ | q
    · cases e2
      cases hx
    · exact q
  refine ⟨by rw [List.length_set, List.length_set]; exact R.len, R.f0, R.fh, R.ph, R.fr, fun j d e => ?_, fun j o' e => ?_, fun j x xs e hx => ?_, fun j xs e => R.qs j xs (held e rfl).2, fun j k x y e1 e2 hx hy => R.inj j k x y (held e1 hx).2 (held e2 hy).2 hx hy⟩
  · rcases get_set e with ⟨rfl, e2, hl⟩ | ⟨ne, e⟩
    · cases e2
    · obtain ⟨u, h1, h2⟩ := R.vl j d e
      exact ⟨u, by rw [List.getElem?_set_ne ne]; exact h1, h2⟩
  · rcases get_set e with ⟨rfl, e2, hl⟩ | ⟨ne, e⟩
    · cases e2
      exact ⟨v, by rw [List.getElem?_set_self (by rw [← R.len]; exact hl)], h⟩
    · obtain ⟨u, h1, h2⟩ := R.sc j o' e
      exact ⟨u, by rw [List.getElem?_set_ne ne]; exact h1, h2⟩
  · obtain ⟨ne, e⟩ := held e (by rw [hx]; rfl)
    obtain ⟨h1, h2⟩ := R.cl j x xs e hx
    exact ⟨by rw [List.getElem?_set_ne ne]; exact h1, h2⟩
end

/-! ### raise -/
def mRaise (nm f : Str) (me : ME) : MS := fun S => match me S with
  | some (.v d, S1) => some (.rz nm [(f, d)], S1)
  | _ => none
section
variable {X : Cx} {W : WX} {e : Expr} {me : ME} {nm f : Str} {C fI : Addr} {k : Nat} {p pos pos2 : Pos}
theorem js_raise (tk : Takes X W) (T : VX.XTxt X.prog X.K X.mg nm f C fI) (hmg : X.mg "super" = none) (hr : Room k X.A) (hc : X.calm = true) (he : JE X e me) (hg : Gl X nm := by rfl) (hd : (nm == ("__debug__" : Str)) = false := by decide)
    (hs : starEach [e] X.env = (false, eval e X.env) :: starEach [] X.env := by rfl) (hpl : (backTo pos (starEach [] X.env)).any (·.1) = false := by rfl) : JS X W (.Raise (some (.Call (.Name nm p) [e] [] pos)) none pos2) (mRaise nm f me) := by
  obtain ⟨t, pe, s⟩ := he.ex
  refine ⟨_, ps_raise hc tk (VX.pmk_x T hmg hr (pa_cons pe pa_nil hs) hg hd hs hpl), fun P F0 qc F cell S σ H D fl S' R hm kk => ?_⟩
  unfold mRaise at hm
  split at hm
  · rename_i d S1 e1
    cases hm
    refine s P F0 qc F cell S σ H _ _ S' R e1 fun v F1 H1 f1 R1 q1 => ?_
    refine ⟨v, rfl, fun dd hdd => ?_⟩
    have ex : Ext F1 H1 (upd F1 dd (.xd [(f, v)])) (upd H1 dd (.xd [(f, v)])) := Ext.new R1.fh hdd
    exact kk _ cell σ _ (f1.trans ex.f) (R1.ext ex) C dd [v] T.nC upd_same (.cons (DV.mono ex.f q1) .nil)
  · cases hm
end

/-! ### defs that may raise -/
inductive Out where
  | val (d : PyData) | exc (c : Str) (fs : List (Str × PyData))
abbrev MFX := List SL → Option (Out × List SL)
def OutK (K : PySem.W.Frag) (F H : Hp) (as : List SL) (vs : List V) (as' : List SL) (Q : VK) (E : XK) : Out → Prop
  | .val d => ∀ v F' H', Back K F H F' H' as vs as' v d → Q v H'
  | .exc c fs => ∀ (C dd : Addr) (us : List V) (F' H' : Hp), Back K F H F' H' as vs as' .non .none → PySem.W.nsIn K mainGlobals c = some (some (.ref C)) → F' dd = some (.xd ((fs.map (·.1)).zip us)) → DVs K F' us (fs.map (·.2)) → E (.ref C) (some dd) H'
def spX (K : PySem.W.Frag) (n : Nat) (m : MFX) : Sp := fun vs H Q E => vs.length = n ∧ ∃ F as o as', Same F H ∧ Fits K F H as vs ∧ m as = some (o, as') ∧ OutK K F H as vs as' Q E o
def defMX (n : Nat) (m : MS) : MFX := fun as => match m (startS n as) with
  | some (.rt (.v d), S) => match asOut as S with
    | some as' => some (.val d, as')
    | none => none
  | some (.nx, S) => match asOut as S with
    | some as' => some (.val .none, as')
    | none => none
  | some (.rz c fs, S) => match asOut as S with
    | some as' => some (.exc c fs, as')
    | none => none
  | _ => none
section
variable {P : Program} {w : World} {K : PySem.W.Frag} {mg : Str → Option Value} {base : Heap}
theorem jfX {x qual : Str} {st : Stmt} {f : Addr} {fd : FuncData} {N ps : List Str} {k : Nat} {m : MS} (F : Fun K x qual st f fd) (S : FnScope N ps (defScope st)) (hl : ps.length ≤ N.length)
    (hb : ∀ cdv A outer s H (E : _), A.guards = some [] → Room k (cxOf (L2.CX P w) P w K mg base N qual (defScope st) f cdv A outer s H E).A → JB (cxOf (L2.CX P w) P w K mg base N qual (defScope st) f cdv A outer s H E) (fun cls d _ H => E cls d H) (defBody st) m) :
    FnG P w K mg base (L2.CX P w) (k + 1) f fd ps (spX K ps.length (defMX N.length m)) := by
  refine okGX F S (fun vs H Q E h => h.1) fun cdv A outer s H vs Q E hg hr h => ?_
  obtain ⟨hv, F1, as, o, as', fh, ft, hm, kk⟩ := h
  obtain ⟨t, pt, stt⟩ := (hb cdv A outer s H E hg hr).ex
  refine ⟨t, pt, ?_⟩
  obtain ⟨P1, hP1, hP2, R⟩ := rc_start (N := N) fh ft (by rw [← ft.len, hv]; exact hl)
  unfold defMX at hm
  split at hm
  · rename_i d' S' e1
    split at hm
    · rename_i as2 e2
      cases hm
      exact stt P1 F1 (adr vs) F1 (adr vs) _ _ H _ _ S' R e1 fun F' c' σ' H' f1 R1 v q => kk v F' H' (back_end ft hP1 hP2 f1 R1 q e2)
    · cases hm
  · rename_i S' e1
    split at hm
    · rename_i as2 e2
      cases hm
      exact stt P1 F1 (adr vs) F1 (adr vs) _ _ H _ _ S' R e1 fun F' c' σ' H' f1 R1 => kk .non F' H' (back_end ft hP1 hP2 f1 R1 .non e2)
    · cases hm
  · rename_i c fs S' e1
    split at hm
    · rename_i as2 e2
      cases hm
      exact stt P1 F1 (adr vs) F1 (adr vs) _ _ H _ _ S' R e1 fun F' c' σ' H' f1 R1 C dd us h1 h2 h3 => kk C dd us F' H' (back_end ft hP1 hP2 f1 R1 .non e2) h1 h2 h3
    · cases hm
  · cases hm
end
abbrev MO2 := Sl → Option (Out × Sl)
def mCallX (n : Nat) (m : MFX) (ma : MA) : MO2 := fun S => match ma S with
  | none => none
  | some (rs, S1) => if rs.length = n ∧ (ptrs rs).Nodup then match argsOf S1 rs with
      | none => none
      | some as => match m as with
        | none => none
        | some (o, as') => match putBack S1 rs as' with
          | none => none
          | some S2 => some (o, S2)
    else none
/-- a call of such a def, within what may raise: W tells what is wanted -/
def SndX2 (K : PySem.W.Frag) (W : WX) (t : TE) (m : MO2) : Prop :=
  ∀ (P F0 : Hp) (qc : Nat → Addr) (F : Hp) (cell : Nat → Addr) (S : Sl) (σ : L2.St) (H : Hp) (Q : VK) (o : Out) (S' : Sl), RC K P F0 qc F cell S σ H → m S = some (o, S') →
    (match o with
      | .val d => ∀ v F' H', Same F F' → RC K P F0 qc F' cell S' σ H' → DV K F' v d → Q v H'
      | .exc c fs => ∀ (C dd : Addr) (us : List V) (F' H' : Hp), Same F F' → RC K P F0 qc F' cell S' σ H' → PySem.W.nsIn K mainGlobals c = some (some (.ref C)) → F' dd = some (.xd ((fs.map (·.1)).zip us)) → DVs K F' us (fs.map (·.2)) → W (.ref C) (some dd) σ H') → t σ H Q
structure JO2 (X : Cx) (W : WX) (e : Expr) (m : MO2) : Prop where
  ex : ∃ t, PE X e t ∧ SndX2 X.K W t m
section
variable {X : Cx} {W : WX} {CX : CXT} {k n : Nat} {f : Addr} {fd : FuncData} {ps : List Str} {x : Str} {p pos : Pos} {e : Expr} {es : List Expr} {m : MFX} {mas : MA} {E : L2.St → XK}
theorem pe_callGS (G : FnG X.prog X.w X.K X.mg X.base CX k f fd ps (spX X.K n m)) (gd : X.A.guards = some []) (hr : Room k X.A) (hg : Gl X x) (hm : X.mg x = some (.ref f)) (hk : PySem.W.keepIn X.K (.ref f) = true) (hb : Binds X.K fd ps []) (hx : ∀ σ, PassesAt CX X σ (E σ)) {t : TA}
    (ha : PA X (e :: es) t) (hdb : (x == ("__debug__" : Str)) = false := by decide) (he : starEach (e :: es) X.env = (false, eval e X.env) :: starEach es X.env := by rfl) (hpl : (backTo pos (starEach es X.env)).any (·.1) = false := by rfl) :
    PE X (.Call (.Name x p) (e :: es) [] pos) (tCallS (spX X.K n m) E t) := by
  refine ⟨fun pins s σ H Q I h => ?_⟩
  refine wpAny_Call_Name_kw (ld_glob I hg hm ?_ hdb)
  refine PySem.W.callWith_K (h₀ := X.base) I.ok.mod.kin hk (thn (ha.run pos pins s σ H _ I h) fun us s1 ⟨vs, H1, I1, r, q⟩ => ⟨I1.kIn, ?_⟩) he hpl
  have hl : us.length = ps.length := by rw [← r.length]; exact G.len _ _ _ _ q
  have b := hb s1 us I1.kIn (by rw [List.append_nil]; exact hl)
  rw [List.append_nil] at b
  refine wpAny_call (codeAny_mono (G.run X.A X.stack s1 H1 ⟨us, []⟩ us vs Q (E σ) gd hr I1.env0 b r q) fun r s' hq => ?_)
  cases r with
  | error u => exact hx σ pins H1 s1 u s' I1 hq
  | ok fl =>
    cases fl with
    | ret u => exact I1.after hq
    | next => exact False.elim hq
    | brk => exact False.elim hq
    | cont => exact False.elim hq
theorem snd_callX {K : PySem.W.Frag} {ta : TA} (sa : SndA K ta mas) : SndX2 K W (tCallS (spX K n m) (WE W) ta) (mCallX n m mas) := by
  intro P F0 qc F cell S σ H Q o S' R hm k
  unfold mCallX at hm
  split at hm
  · cases hm
  · rename_i rs S1 e1
    split at hm
    · rename_i hc
      split at hm
      · cases hm
      · rename_i as ha
        split at hm
        · cases hm
        · rename_i o' as' hd
          split at hm
          · cases hm
          · rename_i S2 hb
            cases hm
            refine sa P F0 qc F cell S σ H _ rs S1 R e1 fun vs F1 H1 s1 R1 q1 => ?_
            refine ⟨by rw [q1.length]; exact hc.1, F1, as, o, as', R1.fh, R1.fits q1 ha hc.2, hd, ?_⟩
            cases o with
            | val d => exact fun v F' H' B => k v F' H' (s1.trans B.f) (R1.back q1 ha hc.2 B hb) B.dv
            | exc c fs => exact fun C dd us F' H' B h1 h2 h3 => k C dd us F' H' (s1.trans B.f) (R1.back q1 ha hc.2 B hb) h1 h2 h3
    · cases hm
theorem jo_callX (tk : Takes X W) (G : FnG X.prog X.w X.K X.mg X.base (L2.CX X.prog X.w) k f fd ps (spX X.K n m)) (gd : X.A.guards = some []) (hr : Room k X.A) (hm : X.mg x = some (.ref f)) (hk : PySem.W.keepIn X.K (.ref f) = true) (hb : Binds X.K fd ps []) (ha : JA X (e :: es) mas)
    (hg : Gl X x := by rfl) (hdb : (x == ("__debug__" : Str)) = false := by decide) (he : starEach (e :: es) X.env = (false, eval e X.env) :: starEach es X.env := by rfl) (hpl : (backTo pos (starEach es X.env)).any (·.1) = false := by rfl) :
    JO2 X W (.Call (.Name x p) (e :: es) [] pos) (mCallX n m mas) := by
  obtain ⟨ta, pa, sa⟩ := ha.ex
  exact ⟨_, pe_callGS G gd hr hg hm hk hb (fun σ => passAt tk σ) pa hdb he hpl, snd_callX sa⟩
def mExprX (m : MO2) : MS := fun S => match m S with
  | some (.val _, S1) => some (.nx, S1)
  | some (.exc c fs, S1) => some (.rz c fs, S1)
  | none => none
def mSetX2 (i : Nat) (m : MO2) : MS := fun S => match m S with
  | some (.val d, S1) => some (.nx, S1.set i (some (.v d)))
  | some (.exc c fs, S1) => some (.rz c fs, S1)
  | none => none
def mRetX2 (m : MO2) : MS := fun S => match m S with
  | some (.val d, S1) => some (.rt (.v d), S1)
  | some (.exc c fs, S1) => some (.rz c fs, S1)
  | none => none
variable {mo : MO2}
theorem js_exprX (he : JO2 X W e mo) (hs : swapsWith e none pos.line X.env = pure false := by rfl) : JS X W (.Expr e pos) (mExprX mo) := by
  obtain ⟨t, p, s⟩ := he.ex
  refine ⟨_, ps_expr p hs, fun P F0 qc F cell S σ H D fl S' R hm k => ?_⟩
  unfold mExprX at hm
  split at hm
  · rename_i d S1 e1
    cases hm
    exact s P F0 qc F cell S σ H _ _ S' R e1 fun v F' H' f1 R1 q => k F' cell σ H' f1 R1
  · rename_i c fs S1 e1
    cases hm
    exact s P F0 qc F cell S σ H _ _ S' R e1 fun C dd us F' H' f1 R1 h1 h2 h3 => k F' cell σ H' f1 R1 C dd us h1 h2 h3
  · cases hm
theorem js_setX2 (i : Nat) {y : Str} {pos' : Pos} (hN : X.N.Nodup) (he : JO2 X W e mo) (hi : X.N[i]? = some y := by rfl) (hx : Loc X.env.scope y := by first | exact Or.inl rfl | exact Or.inr rfl) (hs : swapsWith e (some (.Name y pos')) pos.line X.env = pure false := by rfl)
    (hf : X.fn y = true ∨ X.env.scope.names.lookup y = some .local := by first | exact .inl rfl | exact .inr rfl) : JS X W (.Assign [.Name y pos'] e pos) (mSetX2 i mo) := by
  obtain ⟨t, p, s⟩ := he.ex
  refine ⟨_, ps_set hN hi hx p hs hf, fun P F0 qc F cell S σ H D fl S' R hm k => ?_⟩
  unfold mSetX2 at hm
  split at hm
  · rename_i d S1 e1
    cases hm
    exact s P F0 qc F cell S σ H _ _ S1 R e1 fun v F' H' f1 R1 q => k F' cell _ H' f1 (R1.setV q)
  · rename_i c fs S1 e1
    cases hm
    exact s P F0 qc F cell S σ H _ _ S' R e1 fun C dd us F' H' f1 R1 h1 h2 h3 => k F' cell σ H' f1 R1 C dd us h1 h2 h3
  · cases hm
theorem js_retX2 (he : JO2 X W e mo) : JS X W (.Return (some e) pos) (mRetX2 mo) := by
  obtain ⟨t, p, s⟩ := he.ex
  refine ⟨_, ps_ret p, fun P F0 qc F cell S σ H D fl S' R hm k => ?_⟩
  unfold mRetX2 at hm
  split at hm
  · rename_i d S1 e1
    cases hm
    exact s P F0 qc F cell S σ H _ _ S' R e1 fun v F' H' f1 R1 q => k F' cell σ H' f1 R1 v q
  · rename_i c fs S1 e1
    cases hm
    exact s P F0 qc F cell S σ H _ _ S' R e1 fun C dd us F' H' f1 R1 h1 h2 h3 => k F' cell σ H' f1 R1 C dd us h1 h2 h3
  · cases hm
/-- where it does not raise -/
def mValX (m : MO2) : ME := fun S => match m S with
  | some (.val d, S1) => some (.v d, S1)
  | _ => none
theorem je_callFX (G : FnG X.prog X.w X.K X.mg X.base (L2.CX X.prog X.w) k f fd ps (spX X.K n m)) (gd : X.A.guards = some []) (hr : Room k X.A) (hm : X.mg x = some (.ref f)) (hk : PySem.W.keepIn X.K (.ref f) = true) (hb : Binds X.K fd ps []) (ha : JA X (e :: es) mas)
    (hg : Gl X x := by rfl) (hdb : (x == ("__debug__" : Str)) = false := by decide) (he : starEach (e :: es) X.env = (false, eval e X.env) :: starEach es X.env := by rfl) (hpl : (backTo pos (starEach es X.env)).any (·.1) = false := by rfl) :
    JE X (.Call (.Name x p) (e :: es) [] pos) (mValX (mCallX n m mas)) := by
  obtain ⟨ta, pa, sa⟩ := ha.ex
  have none_ : ∀ σ : L2.St, PassesAt (L2.CX X.prog X.w) X σ (WE W0 σ) := fun σ pins H s e s' I c => by
    obtain ⟨_, _, _, _, _, _, _, _, _, _, _, _, z⟩ := c
    exact z.elim
  refine ⟨_, pe_callGS G gd hr hg hm hk hb none_ pa hdb he hpl, fun P F0 qc F cell S σ H Q r S' R hz kk => ?_⟩
  unfold mValX at hz
  split at hz
  · rename_i d S1 e1
    cases hz
    exact snd_callX (W := W0) sa P F0 qc F cell S σ H Q _ S' R e1 fun v F' H' f1 R1 q => kk v F' H' f1 R1 q
  · cases hz
end
end VL

set_option Elab.async false
set_option linter.all false
set_option maxRecDepth 100000
set_option maxHeartbeats 4000000
/-! VL17: try .. except X as n: y = n; isinstance of and a field of a kept error; is None. -/
namespace VL
open PySem PySem.Spec PyProof.Rows L2
def mTryK (sub : Str → Option Bool) (y i : Nat) (mb : MS) : MS := fun S => match mb S with
  | some (.nx, S1) => some (.nx, S1)
  | some (.bk, S1) => some (.bk, S1)
  | some (.ct, S1) => some (.ct, S1)
  | some (.rt r, S1) => some (.rt r, S1)
  | some (.rz c fs, S1) => match sub c with
    | some true => if i < S1.length then some (.nx, (S1.set y (some (.s (.ex c fs)))).set i none) else none
    | some false => some (.rz c fs, S1)
    | none => none
  | none => none
section
variable {X : Cx} {W : WX} {x n yn : Str} {c : Value} {body : List Stmt} {np pos pos' yp yp2 sp : Pos} {mb : MS} {sub : Str → Option Bool}
theorem js_try_keep (y i : Nat) (hN : X.N.Nodup) (hyi : i ≠ y) (tk : Takes X W) (hex : X.ex = []) (hs : X.stack = X.env :: X.outer) (hf : X.env.frame = some X.env.locals) (hc : Names X x c)
    (hsub : ∀ (k : Str) (C : Addr) (b : Bool), PySem.W.nsIn X.K mainGlobals k = some (some (.ref C)) → sub k = some b → PySem.W.exmOne X.K (.ref C) c = some b)
    (hb : ∀ (W' : WX) (pn : List (Addr × Obj)) (xe : Value → Shared → Prop), Takes (X.tr pn xe) W' → PassesOwn (model X.prog X.w) X.A X.env xe → JB (X.tr pn xe) W' body mb)
    (hi : X.N[i]? = some n := by rfl) (hln : X.env.kindOf n = some .local := by rfl) (hy : X.N[y]? = some yn := by rfl) (hyl : X.env.scope.names.lookup yn = some .local := by rfl)
    (hv : Vis X.env.scope n := by first | exact Or.inl rfl | exact Or.inr (Or.inl rfl) | exact Or.inr (Or.inr rfl)) (hd : (n == ("__debug__" : Str)) = false := by decide) (hcd : (n == ("__classdict__" : Str)) = false := by decide)
    (hsw : swapsWith (.Name n yp2) (some (.Name yn yp)) sp.line X.env = pure false := by rfl) :
    JS X W (.Try body [.ExceptHandler (some (.Name x np)) (some n) [.Assign [.Name yn yp] (.Name n yp2) sp] pos'] [] [] pos) (mTryK sub y i mb) := by
  refine ⟨_, VX.ps_try_keep (i := i) (tb := fun W' => denS X.K W' mb) (ts := fun a cls d => fun D σ H => tAsg (tVar i) (gName y) { D with nx := fun σ H => D.nx σ H } σ H) hs hf hN hi hln hc tk hex (fun W' pn xe tk' po => (hb W' pn xe tk' po).den) (fun a oe cls d pn hz hfl => ?_), fun P F0 qc F cell S σ H D fl S' R hm k => ?_⟩
  · refine pss_one (t := fun D σ H => tAsg (tVar i) (gName y) D σ H) ?_
    exact ps_set (X := X.suite a ((a, oe) :: pn)) hN hy (.inl hyl) (pe_var hi hv hd hcd) hsw (.inr hyl)
  · have go : ∀ (fl : Fl) (S1 : Sl), mb S = some (fl, S1) → (∀ F' cell' σ' H', Same F F' → RC X.K P F0 qc F' cell' S1 σ' H' → FlK X.K (VX.wKeep X.K c i (fun a cls d => fun D σ H => tAsg (tVar i) (gName y) { D with nx := fun σ H => D.nx σ H } σ H) W D) F' cell' fl D σ' H') →
        denS X.K (VX.wKeep X.K c i (fun a cls d => fun D σ H => tAsg (tVar i) (gName y) { D with nx := fun σ H => D.nx σ H } σ H) W D) mb D σ H := fun fl S1 e kk => ⟨P, F0, qc, F, cell, S, fl, S1, R, e, kk⟩
    unfold mTryK at hm
    split at hm
    · rename_i S1 e1
      cases hm
      exact go _ _ e1 fun F' c' σ' H' f1 R1 => k F' c' σ' H' f1 R1
    · rename_i S1 e1
      cases hm
      exact go _ _ e1 fun F' c' σ' H' f1 R1 => k F' c' σ' H' f1 R1
    · rename_i S1 e1
      cases hm
      exact go _ _ e1 fun F' c' σ' H' f1 R1 => k F' c' σ' H' f1 R1
    · rename_i r S1 e1
      cases hm
      exact go _ _ e1 fun F' c' σ' H' f1 R1 => k F' c' σ' H' f1 R1
    · rename_i cn fs S1 e1
      split at hm
      · rename_i hsc
        split at hm
        case isFalse => cases hm
        rename_i hlen
        cases hm
        refine go _ _ e1 fun F' c' σ' H' f1 R1 C dd vs h1 h2 h3 => ⟨true, hsub cn C true h1 hsc, fun _ a ha => ?_, fun z => by cases z⟩
        have li : i < σ'.length := by
          rw [← R1.len]
          exact hlen
        refine ⟨.ref a, List.getElem?_set_self li, ?_⟩
        show D.nx (((σ'.set i (some (V.ref a))).set y (some (.ref a))).set i none) (upd H' a (VX.ExF (.ref C) (some dd) a))
        have ex : Ext F' H' (upd F' a (VX.ExF (.ref C) (some dd) a)) (upd H' a (VX.ExF (.ref C) (some dd) a)) := Ext.new R1.fh ha
        have or : OR X.K (upd F' a (VX.ExF (.ref C) (some dd) a)) (.ex cn fs) (.ref a) := ⟨a, C, dd, vs, rfl, h1, upd_same, ex.f _ _ h2, h3.mono ex.f⟩
        have R2 := ((R1.ext ex).setO (i := y) or).setN i
        rw [List.set_comm _ _ hyi, List.set_set]
        exact k _ c' _ _ (f1.trans ex.f) R2
      · rename_i hsc
        cases hm
        exact go _ _ e1 fun F' c' σ' H' f1 R1 C dd vs h1 h2 h3 => ⟨false, hsub cn C false h1 hsc, (fun z => by cases z), fun _ => k F' c' σ' H' f1 R1 C dd vs h1 h2 h3⟩
      · cases hm
    · cases hm
end

/-! ### isinstance(e, C), e.f, e is None -/
/-- kx: the classes of errors; kn: what None answers -/
def mIsE (kx : Str → Option Bool) (kn : Option Bool) (me : ME) : ME := fun S => match me S with
  | some (.s (.ex c _), S1) => match kx c with
    | some b => some (.v (.bool b), S1)
    | none => none
  | some (.v .none, S1) => match kn with
    | some b => some (.v (.bool b), S1)
    | none => none
  | _ => none
def mFld (ok : Str → Bool) (f : Str) (me : ME) : ME := fun S => match me S with
  | some (.s (.ex c fs), S1) => if ok c = true then match fs.lookup f with
      | some d => some (.v d, S1)
      | none => none
    else none
  | _ => none
def mIsN (me : ME) : ME := fun S => match me S with
  | some (.v d, S1) => some (.v (.bool (isNo d)), S1)
  | some (.s _, S1) => some (.v (.bool false), S1)
  | _ => none
def mIsNN (me : ME) : ME := fun S => match me S with
  | some (.v d, S1) => some (.v (.bool (!isNo d)), S1)
  | some (.s _, S1) => some (.v (.bool true), S1)
  | _ => none
section
variable {X : Cx} {e ec : Expr} {me : ME} {pos p : Pos} {vc : V} {u : Value} {kx : Str → Option Bool} {kn : Option Bool} {f : Str} {ok : Str → Bool}
theorem je_isE (hm : X.mg "isinstance" = none) (he : JE X e me) (pc : PE X ec (tC vc)) (hcl : ClsV vc u)
    (hx : ∀ (c : Str) (C : Addr) (b : Bool), PySem.W.nsIn X.K mainGlobals c = some (some (.ref C)) → kx c = some b → PySem.W.kitOne X.K (.ref C) u = some b ∧ ExcC X.K C)
    (hn : ∀ b, kn = some b → PySem.W.kitOne X.K (.type "NoneType") u = some b) (hg : Gl X "isinstance" := by rfl)
    (hst : starEach [e, ec] X.env = (false, eval e X.env) :: starEach [ec] X.env := by rfl) (hst2 : starEach [ec] X.env = (false, eval ec X.env) :: starEach [] X.env := by rfl) (hpl : (backTo pos (starEach [ec] X.env)).any (·.1) = false := by rfl) :
    JE X (.Call (.Name "isinstance" p) [e, ec] [] pos) (mIsE kx kn me) := by
  obtain ⟨te, pe, se⟩ := he.ex
  refine ⟨_, pe_callB (CallR.or VX.call_isT call_isi) hg hm (by decide +kernel) (pa_cons pe (pa_cons pc pa_nil hst2) hst) (by decide) (by decide) hst hpl, fun P F0 qc F cell S σ H Q z S' R hz k => ?_⟩
  unfold mIsE at hz
  split at hz
  · rename_i c fs S1 e1
    split at hz
    · rename_i b hb
      cases hz
      refine se P F0 qc F cell S σ H _ _ S' R e1 fun v F1 H1 f1 R1 q1 => ?_
      obtain ⟨a, C, dd, vs, rfl, h1, h2, h3, h4⟩ := q1
      obtain ⟨y1, y2⟩ := hx c C b h1 hb
      exact .inl ⟨a, C, dd, _, vc, u, b, rfl, R1.fh _ _ h2, R1.fh _ _ h3, y2, fun w r => hcl.eq r, y1, k _ F1 H1 f1 R1 (.bl b)⟩
    · cases hz
  · rename_i S1 e1
    split at hz
    · rename_i b
      cases hz
      refine se P F0 qc F cell S σ H _ _ S' R e1 fun v F1 H1 f1 R1 q1 => ?_
      cases (show DV X.K F1 v .none from q1)
      exact .inr ⟨.non, vc, _, u, b, rfl, hcl, .base .non, hn b rfl, k _ F1 H1 f1 R1 (.bl b)⟩
    · cases hz
  · cases hz
theorem je_fld (he : JE X e me) (hx : ∀ (c : Str) (C : Addr), PySem.W.nsIn X.K mainGlobals c = some (some (.ref C)) → ok c = true → XfC X.K C ∧ PySem.W.findIn X.K (.ref C) f = some none)
    (hb : attributeBase e f X.env (eval e X.env) = eval e X.env := by rfl) : JE X (.Attribute e f pos) (mFld ok f me) := by
  obtain ⟨te, pe, se⟩ := he.ex
  refine ⟨_, VX.pe_xt pe hb, fun P F0 qc F cell S σ H Q z S' R hz k => ?_⟩
  unfold mFld at hz
  split at hz
  · rename_i c fs S1 e1
    split at hz
    · rename_i ho
      split at hz
      · rename_i d hd
        cases hz
        refine se P F0 qc F cell S σ H _ _ S' R e1 fun v F1 H1 f1 R1 q1 => ?_
        obtain ⟨a, C, dd, vs, rfl, h1, h2, h3, h4⟩ := q1
        obtain ⟨y1, y2⟩ := hx c C h1 ho
        have aux : ∀ (fs : List (Str × PyData)) (vs : List V), DVs X.K F1 vs (fs.map (·.2)) → fs.lookup f = some d → ∃ v, ((fs.map (·.1)).zip vs).lookup f = some v ∧ DV X.K F1 v d := by
          intro fs
          induction fs with
          | nil => intro vs _ h; cases h
          | cons g fs ih =>
            intro vs hv h
            obtain ⟨g1, g2⟩ := g
            cases hv with
            | cons q qs =>
              rename_i v vs
              simp only [List.map_cons, List.zip_cons_cons, List.lookup_cons] at h ⊢
              cases t : f == g1 with
              | true =>
                simp only [t] at h ⊢
                cases h
                exact ⟨v, rfl, q⟩
              | false =>
                simp only [t] at h ⊢
                exact ih vs qs h
        obtain ⟨v, l, dv⟩ := aux fs vs h4 hd
        exact ⟨a, C, dd, _, v, rfl, R1.fh _ _ h2, R1.fh _ _ h3, y1, y2, l, k v F1 H1 f1 R1 dv⟩
      · cases hz
    · cases hz
  · cases hz
theorem je_isNO {j} {p2 : Pos} (he : JE X e me) : JE X (.Compare e [.Is] [.Constant .none j p2] pos) (mIsN me) := by
  obtain ⟨te, pe, se⟩ := he.ex
  refine ⟨_, pe_cmpR op_isN1 pe pe_non (nomark _), fun P F0 qc F cell S σ H Q z S' R hz k => ?_⟩
  unfold mIsN at hz
  split at hz
  · rename_i d S1 e1
    cases hz
    refine se P F0 qc F cell S σ H _ _ S' R e1 fun v F1 H1 f1 R1 q1 => ⟨rfl, ?_⟩
    rw [dx_non (F := F1) (H := H1) (.inl q1)]
    exact k _ F1 H1 f1 R1 (.bl _)
  · rename_i o S1 e1
    cases hz
    refine se P F0 qc F cell S σ H _ _ S' R e1 fun v F1 H1 f1 R1 q1 => ⟨rfl, ?_⟩
    have : decide (v = V.non) = false := by
      cases o with
      | ns l => obtain ⟨a, rfl, _⟩ := q1; simp
      | ex c fs => obtain ⟨a, _, _, _, rfl, _⟩ := q1; simp
      | ptr k a => cases (show v = V.ref a from q1); simp
    rw [this]
    exact k _ F1 H1 f1 R1 (.bl _)
  · cases hz
end
end VL

set_option Elab.async false
set_option linter.all false
set_option maxRecDepth 100000
set_option maxHeartbeats 4000000
/-! VL18: enumerate of tuples and texts; comprehensions of two clauses; f(k = v) of a def that may raise, where it does not. -/
namespace VL
open PySem PySem.Spec PyProof.Rows L2
section
variable {K : PySem.W.Frag} {F : Hp} {vs : List V} {ds : List PyData} {a : Addr}
theorem itok_en {xs : List V} {G : Hp → Prop} (hv : DVs K F xs ds) (hG : ∀ H, Same F H → G H) : ItOk K (VX.Iten xs G) F (enumD ds) := by
  have hl : (enumD ds).length = xs.length := by unfold enumD; rw [List.length_mapIdx, hv.length]
  refine ⟨_, _, by rw [hl]; exact VX.walk_en, fun H e => hG H e, fun i H x H' F2 d e1 e2 hd y => ?_⟩
  obtain ⟨T, x1, x2, rfl, hT, rfl, g1, g2⟩ := y
  cases g1
  obtain ⟨dd, g3, g4⟩ := hv.got g2
  unfold enumD at hd
  rw [List.getElem?_mapIdx, g3] at hd
  cases hd
  refine ⟨upd F2 T (.tup [.int (i : Nat), x2]), Ext.new e2 hT, ?_⟩
  exact .tup (SqT.of upd_same) (.cons (.int _) (.cons ((g4.mono e1).mono (same_new (e2.free hT))) .nil))
theorem dvs_signs (z : Str) : DVs K F (z.cps.toList.map fun c => V.str ⟨#[c]⟩) (signsD z) := by
  unfold signsD
  generalize z.cps.toList = l
  induction l with
  | nil => exact .nil
  | cons c l ih => exact .cons (.str _) ih
end
def mEnumA (ma : MA) : MI := fun S => match ma S with
  | some ([.v (.list ds)], S1) => some (enumD ds, S1)
  | some ([.v (.tuple ds)], S1) => some (enumD ds, S1)
  | some ([.v (.str z)], S1) => some (enumD (signsD z), S1)
  | _ => none
section
variable {X : Cx} {e : Expr} {mas : MA} {pos p tpos : Pos} {elts : List Expr} {kk : Nat}
theorem ji_enumA (hm : X.mg "enumerate" = none) (ha : JA X [e] mas) (hg : Gl X "enumerate" := by rfl) (hs : starEach [e] X.env = [(false, eval e X.env)] := by rfl) : JI X (.Tuple elts kk tpos) (.Call (.Name "enumerate" p) [e] [] pos) (mEnumA mas) := by
  obtain ⟨t, pa, s⟩ := ha.ex
  refine ⟨_, PI.or (pi_enum hg hm pa hs) (PI.or (VX.pi_enT hg hm pa hs) (VX.pi_enS hg hm pa hs)), fun P F0 qc F cell S σ H R ds S' RR hm k => ?_⟩
  unfold mEnumA at hm
  split at hm
  · rename_i ds' S1 e1
    cases hm
    refine .inl (s P F0 qc F cell S σ H _ _ S' RR e1 fun vs F1 H1 f1 R1 q1 => ?_)
    obtain ⟨v, ws, rfl, g1, g2⟩ := q1
    cases (show ws = [] from g2)
    cases (show DV X.K F1 v (.list ds') from g1) with
    | lst g3 g4 => exact ⟨_, _, rfl, SqL.of (R1.fh _ _ g3), k _ F1 H1 f1 R1 (itok_enum g3 g4)⟩
  · rename_i ds' S1 e1
    cases hm
    refine .inr (.inl (s P F0 qc F cell S σ H _ _ S' RR e1 fun vs F1 H1 f1 R1 q1 => ?_))
    obtain ⟨v, ws, rfl, g1, g2⟩ := q1
    cases (show ws = [] from g2)
    cases (show DV X.K F1 v (.tuple ds') from g1) with
    | tup g3 g4 => exact ⟨_, _, rfl, sqT_mono R1.fh g3, k _ F1 H1 f1 R1 (itok_en g4 fun H e => sqT_mono e g3)⟩
  · rename_i z S1 e1
    cases hm
    refine .inr (.inr (s P F0 qc F cell S σ H _ _ S' RR e1 fun vs F1 H1 f1 R1 q1 => ?_))
    obtain ⟨v, ws, rfl, g1, g2⟩ := q1
    cases (show ws = [] from g2)
    cases (show DV X.K F1 v (.str z) from g1)
    exact ⟨z, rfl, k _ F1 H1 f1 R1 (itok_en (dvs_signs z) fun _ _ => trivial)⟩
  · cases hm
end

/-! ### [e for .. in .. if .. for .. in .. if ..] -/
def lc2Go (g : MG) (mt : MT) (mi1 : MI) (g1 : MG) (mt1 : MT) (me : ME) (vs vs1 : List Nat) : List PyData → Sl → List PyData → Option (List PyData × Sl)
  | [], T, acc => some (acc, T)
  | d :: ds, T, acc => match g d T with
    | none => none
    | some T1 => match mt T1 with
      | none => none
      | some (false, T2) => lc2Go g mt mi1 g1 mt1 me vs vs1 ds (wp T2 vs) acc
      | some (true, T2) => match mi1 T2 with
        | none => none
        | some (ds1, T3) => match lcGo g1 mt1 me vs1 ds1 (wp T3 vs1) acc with
          | none => none
          | some (acc', T4) => lc2Go g mt mi1 g1 mt1 me vs vs1 ds (wp T4 vs) acc'
def xLc2 (mi : MI) (g : MG) (mt : MT) (mi1 : MI) (g1 : MG) (mt1 : MT) (me : ME) (vs vs1 : List Nat) : MX := fun S => match mi S with
  | none => none
  | some (ds, S1) => if ownOk S1 vs = true then match lc2Go g mt mi1 g1 mt1 me vs vs1 ds (wp S1 vs) [] with
      | some (acc, T) => some (.c acc, unwp S1 T vs)
      | none => none
    else none
theorem wipe_sub (σ : L2.St) {vs vs1 : List Nat} (h : ∀ i ∈ vs1, i ∈ vs) : L2.wipe (L2.wipe σ vs1) vs = L2.wipe σ vs := by
  refine List.ext_getElem? fun i => ?_
  by_cases hi : i ∈ vs
  · by_cases hl : i < σ.length
    · rw [wipe_in (by rw [wipe_length]; exact hl) hi, wipe_in hl hi]
    · rw [List.getElem?_eq_none (by rw [wipe_length, wipe_length]; omega), List.getElem?_eq_none (by rw [wipe_length]; omega)]
  · rw [wipe_out hi, wipe_out hi, wipe_out fun z => hi (h i z)]
section
variable {X : Cx} {W : WX} {elt tg iter tg1 iter1 : Expr} {ifs ifs1 : List Expr} {scope : Scope} {own : List (Str × Nat)} {pos : Pos} {mi mi1 : MI} {g g1 : MG} {mt mt1 : MT} {me : ME} {ts ts1 : List Nat}
theorem snd_lc2 {K : PySem.W.Frag} {wi wi1 : TI} {vs vs1 : List Nat} (si : SndI K wi mi) (si1 : SndI K wi1 mi1) (hv : ∀ i ∈ ts, i ∈ vs) (hv1 : ∀ i ∈ ts1, i ∈ vs1) (hss : ∀ i ∈ vs1, i ∈ vs) :
    SndX K (tLc2 wi (denG K g ts) (denT K mt) wi1 (denG K g1 ts1) (denT K mt1) (denE K me) vs vs1) (xLc2 mi g mt mi1 g1 mt1 me vs vs1) := by
  intro P F0 qc F cell S σ H Q r S' R hm k
  unfold xLc2 at hm
  split at hm
  · cases hm
  · rename_i ds S1 e1
    split at hm
    · rename_i ho
      split at hm
      · rename_i acc T e2
        cases hm
        refine si P F0 qc F cell S σ H _ ds S1 R e1 fun J F1 H1 f1 R1 ok => ?_
        intro D hD
        obtain ⟨G, Y, w, hG, hY⟩ := ok.ex
        have hP : P D = none := R1.ph.free hD
        have h0 : F0 D = none := (R1.f0.trans R1.fh).free hD
        refine ⟨fun i m H => m = ds.length - i ∧ i ≤ ds.length ∧ ∃ F2 T2 acc2 ws, Same F1 F2 ∧ RC K (upd P D (.lst ws)) F0 qc F2 cell T2 (L2.wipe σ vs) H ∧ DVs K F2 ws acc2 ∧ lc2Go g mt mi1 g1 mt1 me vs vs1 (ds.drop i) T2 acc2 = some (acc, T),
          ⟨ds.length, by simp, Nat.zero_le _, F1, wp S1 vs, [], [], Same.refl _, (R1.lay hD).wipe vs, .nil, e2⟩, ?_⟩
        rintro i m H2 ⟨rfl, hi, F2, T2, acc2, ws, f2, R2, hw, e3⟩
        by_cases hlt : i < ds.length
        · refine .inr ⟨w.1 i H2 hlt (hG H2 (f2.trans R2.fh)), fun H' => i + 1 ≤ ds.length ∧ ∃ F2 T2 acc2 ws, Same F1 F2 ∧ RC K (upd P D (.lst ws)) F0 qc F2 cell T2 (L2.wipe σ vs) H' ∧ DVs K F2 ws acc2 ∧ lc2Go g mt mi1 g1 mt1 me vs vs1 (ds.drop (i + 1)) T2 acc2 = some (acc, T), fun H' q => ⟨ds.length - (i + 1), by omega, rfl, q⟩, fun x H' y => ?_⟩
          obtain ⟨d, hd, hdr⟩ := drop_cons hlt
          rw [hdr] at e3
          unfold lc2Go at e3
          obtain ⟨F3, ex, dv⟩ := hY i H2 x H' F2 d f2 R2.fh hd (w.yields i H2 x H' hlt (hG H2 (f2.trans R2.fh)) y)
          have R3 := R2.ext ex
          cases e4 : g d T2 with
          | none => rw [e4] at e3; cases e3
          | some T3 =>
            rw [e4] at e3
            refine ⟨_, F0, qc, F3, cell, T2, d, T3, R3, dv, e4, fun σ4 R4 w4 => ⟨(w4 vs hv).trans (wipe_idem σ vs), ?_⟩⟩
            have wv : L2.wipe σ4 vs = L2.wipe σ vs := (w4 vs hv).trans (wipe_idem σ vs)
            cases e5 : mt T3 with
            | none => simp only [e5] at e3; cases e3
            | some z =>
              obtain ⟨b, T4⟩ := z
              simp only [e5] at e3
              refine ⟨_, F0, qc, F3, cell, T3, b, T4, R4, e5, fun F5 H5 f5 R5 => ?_⟩
              cases b with
              | false =>
                rw [if_neg Bool.false_ne_true]
                have e3 : lc2Go g mt mi1 g1 mt1 me vs vs1 (ds.drop (i + 1)) (wp T4 vs) acc2 = some (acc, T) := e3
                refine ⟨hlt, F5, _, acc2, ws, (f2.trans ex.f).trans f5, ?_, (hw.mono ex.f).mono f5, e3⟩
                rw [← wv]
                exact R5.wipe vs
              | true =>
                rw [if_pos rfl]
                have e3 : (match mi1 T4 with
                  | none => none
                  | some (ds1, T3) => match lcGo g1 mt1 me vs1 ds1 (wp T3 vs1) acc2 with
                    | none => none
                    | some (acc', T4) => lc2Go g mt mi1 g1 mt1 me vs vs1 (ds.drop (i + 1)) (wp T4 vs) acc') = some (acc, T) := e3
                split at e3
                · cases e3
                · rename_i ds1 T5 e6
                  split at e3
                  · cases e3
                  · rename_i acc' T6 e7
                    refine si1 _ F0 qc F5 cell T4 σ4 H5 _ ds1 T5 R5 e6 fun J1 F6 H6 f6 R6 ok1 => ?_
                    obtain ⟨G1, Y1, w1, hG1, hY1⟩ := ok1.ex
                    have f16 : Same F1 F6 := ((f2.trans ex.f).trans f5).trans f6
                    have hw6 : DVs K F6 ws acc2 := ((hw.mono ex.f).mono f5).mono f6
                    refine ⟨fun j m H => m = ds1.length - j ∧ j ≤ ds1.length ∧ ∃ F7 T7 acc7 ws7, Same F6 F7 ∧ RC K (upd P D (.lst ws7)) F0 qc F7 cell T7 (L2.wipe σ4 vs1) H ∧ DVs K F7 ws7 acc7 ∧ lcGo g1 mt1 me vs1 (ds1.drop j) T7 acc7 = some (acc', T6),
                      ⟨ds1.length, by simp, Nat.zero_le _, F6, wp T5 vs1, acc2, ws, Same.refl _, R6.wipe vs1, hw6, e7⟩, ?_⟩
                    rintro j m H7 ⟨rfl, hj, F7, T7, acc7, ws7, f7, R7, hw7, e8⟩
                    by_cases hlt1 : j < ds1.length
                    · refine .inr ⟨w1.1 j H7 hlt1 (hG1 H7 (f7.trans R7.fh)), fun H' => j + 1 ≤ ds1.length ∧ ∃ F7 T7 acc7 ws7, Same F6 F7 ∧ RC K (upd P D (.lst ws7)) F0 qc F7 cell T7 (L2.wipe σ4 vs1) H' ∧ DVs K F7 ws7 acc7 ∧ lcGo g1 mt1 me vs1 (ds1.drop (j + 1)) T7 acc7 = some (acc', T6), fun H' q => ⟨ds1.length - (j + 1), by omega, rfl, q⟩, fun x1 H8 y1 => ?_⟩
                      obtain ⟨d1, hd1, hdr1⟩ := drop_cons hlt1
                      rw [hdr1] at e8
                      unfold lcGo at e8
                      obtain ⟨F8, ex8, dv8⟩ := hY1 j H7 x1 H8 F7 d1 f7 R7.fh hd1 (w1.yields j H7 x1 H8 hlt1 (hG1 H7 (f7.trans R7.fh)) y1)
                      have R8 := R7.ext ex8
                      cases e9 : g1 d1 T7 with
                      | none => rw [e9] at e8; cases e8
                      | some T8 =>
                        rw [e9] at e8
                        refine ⟨_, F0, qc, F8, cell, T7, d1, T8, R8, dv8, e9, fun σ9 R9 w9 => ⟨(w9 vs1 hv1).trans (wipe_idem σ4 vs1), ?_⟩⟩
                        have wv1 : L2.wipe σ9 vs1 = L2.wipe σ4 vs1 := (w9 vs1 hv1).trans (wipe_idem σ4 vs1)
                        cases e10 : mt1 T8 with
                        | none => simp only [e10] at e8; cases e8
                        | some z1 =>
                          obtain ⟨b1, T9⟩ := z1
                          simp only [e10] at e8
                          refine ⟨_, F0, qc, F8, cell, T8, b1, T9, R9, e10, fun F10 H10 f10 R10 => ?_⟩
                          cases b1 with
                          | false =>
                            rw [if_neg Bool.false_ne_true]
                            have e8 : lcGo g1 mt1 me vs1 (ds1.drop (j + 1)) (wp T9 vs1) acc7 = some (acc', T6) := e8
                            refine ⟨hlt1, F10, _, acc7, ws7, (f7.trans ex8.f).trans f10, ?_, (hw7.mono ex8.f).mono f10, e8⟩
                            rw [← wv1]
                            exact R10.wipe vs1
                          | true =>
                            rw [if_pos rfl]
                            have e8 : (match me T9 with
                              | some (.v z, T3) => if acc7.length < 100000 then lcGo g1 mt1 me vs1 (ds1.drop (j + 1)) (wp T3 vs1) (acc7 ++ [z]) else none
                              | _ => none) = some (acc', T6) := e8
                            split at e8
                            · rename_i z T10 e11
                              split at e8
                              · rename_i hl
                                refine ⟨_, F0, qc, F10, cell, T9, .v z, T10, R10, e11, fun v F11 H11 f11 R11 q11 => ?_⟩
                                refine ⟨ws7, R11.laid_at, ?_, hlt1, F11, _, acc7 ++ [z], ws7 ++ [v], ((f7.trans ex8.f).trans f10).trans f11, ?_, (((hw7.mono ex8.f).mono f10).mono f11).append (.cons q11 .nil), e8⟩
                                · rw [hw7.length]
                                  exact Nat.lt_of_lt_of_le hl (by decide)
                                · rw [← wv1]
                                  exact (R11.relay h0).wipe vs1
                              · cases e8
                            · cases e8
                    · have e : j = ds1.length := by omega
                      subst e
                      rw [List.drop_length] at e8
                      cases e8
                      refine .inl ⟨w1.2 H7 (hG1 H7 (f7.trans R7.fh)), hlt, F7, _, _, ws7, f16.trans f7, ?_, hw7, e3⟩
                      rw [← wv, ← wipe_sub σ4 hss]
                      exact R7.wipe vs
        · have e : i = ds.length := by omega
          subst e
          rw [List.drop_length] at e3
          cases e3
          refine .inl ⟨w.2 H2 (hG H2 (f2.trans R2.fh)), ?_⟩
          exact k D ws F2 H2 (f1.trans f2) hP h0 (R1.unwipe ho f2 R2) hw
      · cases hm
    · cases hm
def denI (K : PySem.W.Frag) (m : MI) : TI := fun σ H R => ∃ P F0 qc F cell S ds S', RC K P F0 qc F cell S σ H ∧ m S = some (ds, S') ∧ ∀ J F' H', Same F F' → RC K P F0 qc F' cell S' σ H' → ItOk K J F' ds → R J H'
theorem JI.den1 {X : Cx} {tg iter : Expr} {m : MI} (h : JI X tg iter m) : PI X tg iter (denI X.K m) := by
  obtain ⟨t, p, s⟩ := h.ex
  exact ⟨fun pins s0 σ H R I ⟨P, F0, qc, F, cell, S, ds, S', RR, hm, k⟩ => p.run pins s0 σ H R I (s P F0 qc F cell S σ H R ds S' RR hm k)⟩
theorem snd_denI {K : PySem.W.Frag} {m : MI} : SndI K (denI K m) m := fun P F0 qc F cell S σ H R ds S' RR hm k => ⟨P, F0, qc, F, cell, S, ds, S', RR, hm, k⟩
/-- [elt for tg in iter if .. for tg1 in iter1 if ..] -/
theorem jx_lc2 (vs1 : List Nat) (hc : X.calm = true) (hN : X.N.Nodup) (hi : JI X tg iter mi) (ok : BlkOk X.N X.env.scope scope own)
    (hg : ∀ (s : Shared) (H : Hp) (C : Addr) (cl : List (Str × Addr)) (fp : List Addr), JG (X.blk s H scope (compEnvC scope cl C X.env) fp) tg g ts) (ht : ∀ (s : Shared) (H : Hp) (C : Addr) (cl : List (Str × Addr)) (fp : List Addr), JTs (X.blk s H scope (compEnvC scope cl C X.env) fp) ifs mt)
    (hi1 : ∀ (s : Shared) (H : Hp) (C : Addr) (cl : List (Str × Addr)) (fp : List Addr), JI (X.blk s H scope (compEnvC scope cl C X.env) fp) tg1 iter1 mi1)
    (hg1 : ∀ (s : Shared) (H : Hp) (C : Addr) (cl : List (Str × Addr)) (fp : List Addr), JG (X.blk s H scope (compEnvC scope cl C X.env) fp) tg1 g1 ts1) (ht1 : ∀ (s : Shared) (H : Hp) (C : Addr) (cl : List (Str × Addr)) (fp : List Addr), JTs (X.blk s H scope (compEnvC scope cl C X.env) fp) ifs1 mt1)
    (he : ∀ (s : Shared) (H : Hp) (C : Addr) (cl : List (Str × Addr)) (fp : List Addr), JE (X.blk s H scope (compEnvC scope cl C X.env) fp) elt me) (hv : ∀ i ∈ ts, i ∈ own.map (·.2) := by decide) (hv1 : ∀ i ∈ ts1, i ∈ vs1 := by decide) (hss : ∀ i ∈ vs1, i ∈ own.map (·.2) := by decide)
    (hs : ∀ x, foldedSetIterable iter X.env x = pure x := by intro _; rfl) (hs1 : ∀ env x, foldedSetIterable iter1 env x = pure x := by intro _ _; rfl) :
    JX X (.ListComp elt [⟨tg, iter, ifs, 0⟩, ⟨tg1, iter1, ifs1, 0⟩] scope pos) (xLc2 mi g mt mi1 g1 mt1 me (own.map (·.2)) vs1) := by
  obtain ⟨wi, pi, si⟩ := hi.ex
  exact ⟨_, pe_lc2 hc hN pi ok hss (fun s H C cl fp => (hg s H C cl fp).den) (fun s H C cl fp => (ht s H C cl fp).den) (fun s H C cl fp => (hi1 s H C cl fp).den1) (fun s H C cl fp => (hg1 s H C cl fp).den) (fun s H C cl fp => (ht1 s H C cl fp).den) (fun s H C cl fp => (he s H C cl fp).den) hs hs1, snd_lc2 si snd_denI hv hv1 hss⟩
end
/-! ### f(k = e, ..) of a def that may raise, where it does not -/
section
variable {X : Cx} {k n : Nat} {f : Addr} {fd : FuncData} {p0 : Str} {ps : List Str} {x : Str} {p pos : Pos} {kws : List Keyword} {m : MFX} {mas : MA}
theorem je_callFKX (G : FnG X.prog X.w X.K X.mg X.base (L2.CX X.prog X.w) k f fd (p0 :: ps) (spX X.K n m)) (gd : X.A.guards = some []) (hr : Room k X.A) (hm : X.mg x = some (.ref f)) (hk : PySem.W.keepIn X.K (.ref f) = true) (hb : KB X.K fd (p0 :: ps)) (ha : JK X kws mas)
    (hg : Gl X x := by rfl) (hall : (backToKw pos (keywordEach kws X.env)).all (·.1.isSome) = true := by rfl) (hks : (backToKw pos (keywordEach kws X.env)).filterMap (·.1) = p0 :: ps := by rfl) (hdb : (x == ("__debug__" : Str)) = false := by decide)
    (hpl : ((backTo pos (starEach [] X.env)).any (·.1) || (backToKw pos (keywordEach kws X.env)).any (·.1.isNone)) = false := by rfl) :
    JE X (.Call (.Name x p) [] kws pos) (mValX (mCallX n m mas)) := by
  obtain ⟨ta, pa, sa⟩ := ha.ex
  have none_ : Passes (L2.CX X.prog X.w) X E0 := fun pins σ H s e s' I c => by
    obtain ⟨_, _, _, _, _, _, _, _, _, _, _, _, z⟩ := c
    exact z.elim
  have imp : ∀ (σ : L2.St) (H : Hp) (Q : VK), tCallS (spX X.K n m) (WE W0) ta σ H Q → tCallK (spX X.K n m) gK E0 tNil ta σ H Q := fun σ H Q h => h
  refine ⟨_, pe_callGK0 G gd hr hg hm hk hb.kb none_ pa hall hks hdb hpl, fun P F0 qc F cell S σ H Q r S' R hz kk => ?_⟩
  unfold mValX at hz
  split at hz
  · rename_i d S1 e1
    cases hz
    exact imp σ H Q (snd_callX (W := W0) sa P F0 qc F cell S σ H Q _ S' R e1 fun v F' H' f1 R1 q => kk v F' H' f1 R1 q)
  · cases hz
end
end VL

set_option Elab.async false
set_option linter.all false
set_option maxRecDepth 100000
set_option maxHeartbeats 4000000
/-! VL19: what is known of the classes of errors, put together for the texts that gen.py prints. -/
namespace VL
open PySem PySem.Spec PyProof.Rows L2
theorem takes0 {X : Cx} : Takes X W0 := fun u s' ⟨a, B, sI, pins, σ, H, cls, d, e, I, nb, up, sky, na, os, ag, w⟩ => w.elim
/-- for the classes of l, R holds of where they lie -/
inductive KX (K : PySem.W.Frag) (R : Addr → Bool → Prop) : List (Str × Bool) → Prop
  | nil : KX K R []
  | cons {c : Str} {C : Addr} {b : Bool} {l : List (Str × Bool)} : PySem.W.nsIn K mainGlobals c = some (some (.ref C)) → R C b → KX K R l → KX K R ((c, b) :: l)
def kx (l : List (Str × Bool)) : Str → Option Bool := fun c => l.lookup c
theorem KX.hx {K : PySem.W.Frag} {R : Addr → Bool → Prop} : ∀ {l : List (Str × Bool)}, KX K R l → ∀ (c : Str) (C : Addr) (b : Bool), PySem.W.nsIn K mainGlobals c = some (some (.ref C)) → kx l c = some b → R C b
  | _, .nil, c, C, b, h, e => by cases e
  | _, .cons (c := c0) (C := C0) (b := b0) (l := l) h0 r t, c, C, b, h, e => by
    unfold kx at e
    rw [List.lookup_cons] at e
    cases q : c == c0 with
    | true =>
      rw [q] at e
      have := beq_iff_eq.mp q
      subst this
      cases e
      rw [h0] at h
      cases h
      exact r
    | false =>
      rw [q] at e
      exact t.hx c C b h e
def kok (l : List (Str × Bool)) : Str → Bool := fun c => kx l c == some true
theorem KX.hok {K : PySem.W.Frag} {R : Addr → Bool → Prop} {l : List (Str × Bool)} (h : KX K R l) (c : Str) (C : Addr) (hc : PySem.W.nsIn K mainGlobals c = some (some (.ref C))) (e : kok l c = true) : R C true := h.hx c C true hc (beq_iff_eq.mp e)
section
variable {X : Cx} {e : Expr} {me : ME} {pos p p2 : Pos} {tn : Str} {kn : Option Bool} {l : List (Str × Bool)} {f : Str}
/-- isinstance(e, C), C an own class -/
theorem je_isX (l : List (Str × Bool)) (hm : X.mg "isinstance" = none) {C0 : Addr} (hC : X.mg tn = some (.ref C0)) (he : JE X e me) (hx : KX X.K (fun C b => PySem.W.kitOne X.K (.ref C) (.ref C0) = some b ∧ ExcC X.K C) l)
    (hn : PySem.W.kitOne X.K (.type "NoneType") (.ref C0) = some false) (hg : Gl X "isinstance" := by rfl) (hgT : Gl X tn := by rfl) (hdb : (tn == ("__debug__" : Str)) = false := by decide)
    (hst : starEach [e, .Name tn p2] X.env = (false, eval e X.env) :: starEach [.Name tn p2] X.env := by rfl) (hst2 : starEach [.Name tn p2] X.env = (false, eval (.Name tn p2) X.env) :: starEach [] X.env := by rfl) (hpl : (backTo pos (starEach [.Name tn p2] X.env)).any (·.1) = false := by rfl) :
    JE X (.Call (.Name "isinstance" p) [e, .Name tn p2] [] pos) (mIsE (kx l) (some false) me) :=
  je_isE hm he (pe_glob (v := .ref C0) hgT hC rfl hdb) (.own C0) (fun c C b h1 h2 => hx.hx c C b h1 h2) (fun b hb => by cases hb; exact hn) hg hst hst2 hpl
/-- isinstance(e, T), T a built-in class; e an error or None -/
theorem je_isXB (T : String) (l : List (Str × Bool)) (hm : X.mg "isinstance" = none) (hT : X.mg tn = none) (hv : bootBuiltins tn = some (.type T)) (he : JE X e me) (hx : KX X.K (fun C b => PySem.W.kitOne X.K (.ref C) (.type T) = some b ∧ ExcC X.K C) l)
    (hn : PySem.W.kitOne X.K (.type "NoneType") (.type T) = some false) (hg : Gl X "isinstance" := by rfl) (hgT : Gl X tn := by rfl) (hnn : tn ≠ "__name__" := by decide) (hdb : (tn == ("__debug__" : Str)) = false := by decide)
    (hst : starEach [e, .Name tn p2] X.env = (false, eval e X.env) :: starEach [.Name tn p2] X.env := by rfl) (hst2 : starEach [.Name tn p2] X.env = (false, eval (.Name tn p2) X.env) :: starEach [] X.env := by rfl) (hpl : (backTo pos (starEach [.Name tn p2] X.env)).any (·.1) = false := by rfl) :
    JE X (.Call (.Name "isinstance" p) [e, .Name tn p2] [] pos) (mIsE (kx l) (some false) me) :=
  je_isE hm he (pe_bltn (v := .ty T) hgT hT hv rfl hnn hdb) (.ty T) (fun c C b h1 h2 => hx.hx c C b h1 h2) (fun b hb => by cases hb; exact hn) hg hst hst2 hpl
/-- e.f -/
theorem je_fldX (l : List (Str × Bool)) (he : JE X e me) (hx : KX X.K (fun C b => XfC X.K C ∧ PySem.W.findIn X.K (.ref C) f = some none) l) (hb : attributeBase e f X.env (eval e X.env) = eval e X.env := by rfl) : JE X (.Attribute e f pos) (mFld (kok l) f me) :=
  je_fld he (fun c C h1 h2 => hx.hok c C h1 h2) hb
end
/-! ### how the facts are had -/
section
variable {K : PySem.W.Frag} {C D : Addr} {b : Bool} {t : Value} {T : String}
theorem kitc_own (h1 : PySem.W.isClsIn K D = true) (h2 : PySem.W.typeIn K (.ref D) = some (.type "type")) (h3 : PySem.W.subIn K t (.ref D) = some b) : PySem.W.kitCls K t (.ref D) = some b := by
  have e : ((PySem.W.clsIn K D).isSome && PySem.W.typeIn K (.ref D) == some (.type "type")) = true := by
    have h1' : (PySem.W.clsIn K D).isSome = true := h1
    rw [h1', h2] <;> rfl
  show (if ((PySem.W.clsIn K D).isSome && PySem.W.typeIn K (.ref D) == some (.type "type")) = true then PySem.W.subIn K t (.ref D) else none) = some b
  rw [if_pos e]
  exact h3
theorem exm_own (h0 : PySem.W.subIn K (.ref D) (.type "BaseException") = some true) (h1 : PySem.W.isClsIn K D = true) (h2 : PySem.W.typeIn K (.ref D) = some (.type "type")) (h3 : PySem.W.subIn K (.ref C) (.ref D) = some b) : PySem.W.exmOne K (.ref C) (.ref D) = some b := by
  have e1 : (PySem.W.subIn K (.ref D) (.type "BaseException") == some true) = true := by rw [h0] <;> rfl
  show (if (PySem.W.subIn K (.ref D) (.type "BaseException") == some true) = true then PySem.W.kitCls K (.ref C) (.ref D) else none) = some b
  rw [if_pos e1]
  exact kitc_own h1 h2 h3
theorem kit_same : PySem.W.kitOne K t t = some true := by
  unfold PySem.W.kitOne
  rw [if_pos (beq_self_eq_true t)]
theorem kit_ne {c : Value} (hn : (t == c) = false) (h : PySem.W.kitCls K t c = some b) : PySem.W.kitOne K t c = some b := by
  unfold PySem.W.kitOne
  rw [hn, if_neg Bool.false_ne_true]
  exact h
theorem kitc_ty (hk : PySem.W.kitMeta T = true) (h : PySem.W.subIn K t (.type T) = some b) : PySem.W.kitCls K t (.type T) = some b := by
  show (if PySem.W.kitMeta T = true then PySem.W.subIn K t (.type T) else none) = some b
  rw [if_pos hk]
  exact h
end
end VL

set_option Elab.async false
set_option linter.all false
set_option maxRecDepth 100000
set_option maxHeartbeats 4000000
/-! VL20: f-strings; isinstance(e, (A, B)) of a kept error. -/
namespace VL
open PySem PySem.Spec PyProof.Rows L2
def fmtD : PyData → Option PyData
  | .str y => if y.length ≤ 100000 then some (.str y) else none
  | .int i => if i.natAbs.log2 < 1920 then some (.str (toString i)) else none
  | _ => none
def mJoin : List ME → Str → Sl → Option (Str × Sl)
  | [], acc, S => some (acc, S)
  | m :: ms, acc, S => match m S with
    | some (.v (.str y), S1) => if acc.length + y.length ≤ 100000 then mJoin ms (acc ++ y) S1 else none
    | _ => none
def mFStr (ms : List ME) : ME := fun S => match mJoin ms Str.empty S with
  | some (z, S1) => some (.v (.str z), S1)
  | none => none
inductive SndEs (K : PySem.W.Frag) : List TE → List ME → Prop where
  | nil : SndEs K [] []
  | cons {t : TE} {m : ME} {ts : List TE} {ms : List ME} (h : SndE K t m) (r : SndEs K ts ms) : SndEs K (t :: ts) (m :: ms)
structure JFs (X : Cx) (es : List Expr) (ms : List ME) : Prop where
  ex : ∃ ts, PJ X es ts ∧ SndEs X.K ts ms
section
variable {X : Cx} {e : Expr} {es : List Expr} {me : ME} {ms : List ME} {pos p : Pos}
theorem je_fmt (he : JE X e me) : JE X (.FormattedValue e (-1) none pos) (mUn fmtD me) := by
  obtain ⟨te, pe, se⟩ := he.ex
  refine ⟨_, pe_fmt pe, fun P F0 qc F cell S σ H Q z S' R hm k => ?_⟩
  unfold mUn at hm
  split at hm
  · cases hm
  · rename_i r1 S1 e1
    split at hm
    · rename_i d hd
      split at hm
      · rename_i z' hz
        cases hm
        unfold fmtD at hz
        refine se P F0 qc F cell S σ H _ r1 S' R e1 fun v1 F1 H1 s1 R1 q1 => ?_
        split at hz
        · split at hz
          · rename_i y hl
            cases hz
            exact .inl ⟨_, (R1.deref q1 hd).str, small5 hl, k _ F1 H1 s1 R1 (.str _)⟩
          · cases hz
        · split at hz
          · rename_i y hl
            cases hz
            exact .inr ⟨_, (R1.deref q1 hd).int, hl, k _ F1 H1 s1 R1 (.str _)⟩
          · cases hz
        · cases hz
      · cases hm
    · cases hm
theorem jf_nil : JFs X [] [] := ⟨_, .nil, .nil⟩
theorem jf_cons (he : JE X e me) (h : JFs X es ms) : JFs X (e :: es) (me :: ms) := by
  obtain ⟨t, pe, se⟩ := he.ex
  obtain ⟨ts, ps, ss⟩ := h.ex
  exact ⟨_, .cons pe ps, .cons se ss⟩
theorem snd_join {K : PySem.W.Frag} {ts : List TE} (h : SndEs K ts ms) : ∀ (acc : Str) (P F0 : Hp) (qc : Nat → Addr) (F : Hp) (cell : Nat → Addr) (S : Sl) (σ : L2.St) (H : Hp) (Q : Str → Hp → Prop) (z : Str) (S' : Sl), RC K P F0 qc F cell S σ H → mJoin ms acc S = some (z, S') →
    (∀ F' H', Same F F' → RC K P F0 qc F' cell S' σ H' → Q z H') → tJs ts acc σ H Q := by
  induction h with
  | nil =>
    intro acc P F0 qc F cell S σ H Q z S' R hm k
    cases hm
    exact k F H (Same.refl _) R
  | @cons t m ts ms se r ih =>
    intro acc P F0 qc F cell S σ H Q z S' R hm k
    unfold mJoin at hm
    split at hm
    · rename_i y S1 e1
      split at hm
      · rename_i hl
        refine se P F0 qc F cell S σ H _ _ S1 R e1 fun v1 F1 H1 s1 R1 q1 => ?_
        cases (show DV K F1 v1 (.str y) from q1)
        refine ⟨y, rfl, ?_, ih (acc ++ y) P F0 qc F1 cell S1 σ H1 Q z S' R1 hm fun F' H' s2 R2 => k F' H' (s1.trans s2) R2⟩
        rw [strLen_append]
        exact small5 hl
      · cases hm
    · cases hm
theorem je_fstr {v1 v2 : Expr} (h : JFs X (v1 :: v2 :: es) ms) : JE X (.JoinedStr (v1 :: v2 :: es) pos) (mFStr ms) := by
  obtain ⟨ts, ps, ss⟩ := h.ex
  refine ⟨_, pe_joined ps, fun P F0 qc F cell S σ H Q z S' R hm k => ?_⟩
  unfold mFStr at hm
  split at hm
  · rename_i z' S1 e1
    cases hm
    exact snd_join ss _ P F0 qc F cell S σ H _ _ S' R e1 fun F' H' s1 R1 => k _ F' H' s1 R1 (.str _)
  · cases hm
end

/-! ### isinstance(e, (A, B)) -/
def rIsTT (K : PySem.W.Frag) : List V → Hp → VK → Prop := fun xs H Q => ∃ (a D dd tp : Addr) (fs : List (Str × V)) (cs : List V) (us : List Value) (b : Bool), xs = [.ref a, .ref tp] ∧ H a = some (VX.ExF (.ref D) (some dd) a) ∧ H dd = some (.xd fs) ∧ ExcC K D ∧ H tp = some (.tup cs) ∧ Paired ClsV cs us ∧ PySem.W.kitAny K (.ref D) us = some b ∧ Q (.bl b) H
theorem call_isTT {X : Cx} : CallR X (.builtin "isinstance") (rIsTT X.K) := by
  intro pins s σ H xs us Q I r h
  obtain ⟨a, D, dd, tp, fs, cs, ws, b, rfl, ha, hd, C, hT, k, e, q⟩ := h
  obtain ⟨u1, u2, rfl, r1, r2⟩ := r.two
  cases r1
  cases (show u2 = Value.ref tp from r2)
  obtain ⟨oe, vs, hget, hz, hv⟩ := VX.exF_at I.hok ha
  obtain ⟨mA, hns, _⟩ : ObjOk X.prog X.w H s.heap dd (.xd fs) := I.hok dd _ hd
  obtain ⟨od, ho, _⟩ := lookIn_ns hns
  have J : PySem.W.InstAt s.heap a oe D (some od) := ⟨hget, hz.1, by unfold PySem.W.notCls; rw [hv], by rw [hz.2]; exact ho⟩
  obtain ⟨_, its, rv, o, h1, h2, n, h3⟩ := (show ObjOk X.prog X.w H s.heap tp (.tup cs) from I.hok tp _ hT)
  have e3 := ClsV.all k rv
  subst e3
  obtain ⟨oc, od2, dt, sl⟩ := o
  simp only at h2 h3
  subst h2 h3
  exact PySem.W.kia_tup (VX.kit_own C) I.kIn ⟨_, _, J⟩ h1 e (fun z => nomatch z) fun tk => ⟨.bl b, H, I.kept (t' := tk) fun _ _ z => z, rfl, q⟩
def mIsE2 (kx : Str → Option Bool) (me : ME) : ME := fun S => match me S with
  | some (.s (.ex c _), S1) => match kx c with
    | some b => some (.v (.bool b), S1)
    | none => none
  | _ => none
section
variable {X : Cx} {e e1 e2 : Expr} {me : ME} {pos p p1 : Pos} {v1 v2 : V} {u1 u2 : Value} {kx : Str → Option Bool}
theorem je_isE2 {j} (hm : X.mg "isinstance" = none) (he : JE X e me) (pc1 : PE X e1 (tC v1)) (hcl1 : ClsV v1 u1) (pc2 : PE X e2 (tC v2)) (hcl2 : ClsV v2 u2)
    (hx : ∀ (c : Str) (C : Addr) (b : Bool), PySem.W.nsIn X.K mainGlobals c = some (some (.ref C)) → kx c = some b → PySem.W.kitAny X.K (.ref C) [u1, u2] = some b ∧ ExcC X.K C)
    (hg : Gl X "isinstance" := by rfl)
    (hs1 : starEach [e1, e2] X.env = (false, eval e1 X.env) :: starEach [e2] X.env := by rfl) (hs2 : starEach [e2] X.env = (false, eval e2 X.env) :: starEach [] X.env := by rfl)
    (hst : starEach [e, .Tuple [e1, e2] j p1] X.env = (false, eval e X.env) :: starEach [.Tuple [e1, e2] j p1] X.env := by rfl) (hst2 : starEach [.Tuple [e1, e2] j p1] X.env = (false, eval (.Tuple [e1, e2] j p1) X.env) :: starEach [] X.env := by rfl) (hpl : (backTo pos (starEach [.Tuple [e1, e2] j p1] X.env)).any (·.1) = false := by rfl) :
    JE X (.Call (.Name "isinstance" p) [e, .Tuple [e1, e2] j p1] [] pos) (mIsE2 kx me) := by
  obtain ⟨te, pe, se⟩ := he.ex
  refine ⟨_, pe_callB call_isTT hg hm (by decide +kernel) (pa_cons pe (pa_cons (pe_tup (pa_cons pc1 (pa_cons pc2 pa_nil hs2) hs1)) pa_nil hst2) hst) (by decide) (by decide) hst hpl, fun P F0 qc F cell S σ H Q z S' R hz k => ?_⟩
  unfold mIsE2 at hz
  split at hz
  · rename_i c fs S1 e1
    split at hz
    · rename_i b hb
      cases hz
      refine se P F0 qc F cell S σ H _ _ S' R e1 fun v F1 H1 f1 R1 q1 => ?_
      obtain ⟨a, C, dd, vs, rfl, h1, h2, h3, h4⟩ := q1
      obtain ⟨y1, y2⟩ := hx c C b h1 hb
      refine ⟨by show 2 ≤ sizeLine; decide, fun tp hp => ?_⟩
      have ex : Ext F1 H1 F1 (upd H1 tp (.tup [v1, v2])) := Ext.aside R1.fh hp
      have R2 := R1.ext ex
      exact ⟨a, C, dd, tp, _, [v1, v2], [u1, u2], b, rfl, R2.fh _ _ h2, R2.fh _ _ h3, y2, upd_same, .cons hcl1 (.cons hcl2 .nil), y1, k _ F1 _ (f1.trans ex.f) R2 (.bl b)⟩
    · cases hz
  · cases hz
end
def kx2 (l m : List (Str × Bool)) : Str → Option Bool := fun c => match kx l c, kx m c with
  | some a, some b => some (a || b)
  | _, _ => none
section
variable {X : Cx} {e : Expr} {me : ME} {pos p p1 p2 p3 : Pos} {t1 t2 : Str}
/-- isinstance(e, (A, B)), own classes; e an error -/
theorem je_isX2 (l m : List (Str × Bool)) {j} (hm : X.mg "isinstance" = none) {C1 C2 : Addr} (hC1 : X.mg t1 = some (.ref C1)) (hC2 : X.mg t2 = some (.ref C2)) (he : JE X e me)
    (hx1 : KX X.K (fun C b => PySem.W.kitOne X.K (.ref C) (.ref C1) = some b ∧ ExcC X.K C) l) (hx2 : KX X.K (fun C b => PySem.W.kitOne X.K (.ref C) (.ref C2) = some b ∧ ExcC X.K C) m)
    (hg : Gl X "isinstance" := by rfl) (hg1 : Gl X t1 := by rfl) (hg2 : Gl X t2 := by rfl) (hd1 : (t1 == ("__debug__" : Str)) = false := by decide) (hd2 : (t2 == ("__debug__" : Str)) = false := by decide)
    (hs1 : starEach [.Name t1 p2, .Name t2 p3] X.env = (false, eval (.Name t1 p2) X.env) :: starEach [.Name t2 p3] X.env := by rfl) (hs2 : starEach [.Name t2 p3] X.env = (false, eval (.Name t2 p3) X.env) :: starEach [] X.env := by rfl)
    (hst : starEach [e, .Tuple [.Name t1 p2, .Name t2 p3] j p1] X.env = (false, eval e X.env) :: starEach [.Tuple [.Name t1 p2, .Name t2 p3] j p1] X.env := by rfl) (hst2 : starEach [.Tuple [.Name t1 p2, .Name t2 p3] j p1] X.env = (false, eval (.Tuple [.Name t1 p2, .Name t2 p3] j p1) X.env) :: starEach [] X.env := by rfl) (hpl : (backTo pos (starEach [.Tuple [.Name t1 p2, .Name t2 p3] j p1] X.env)).any (·.1) = false := by rfl) :
    JE X (.Call (.Name "isinstance" p) [e, .Tuple [.Name t1 p2, .Name t2 p3] j p1] [] pos) (mIsE2 (kx2 l m) me) :=
  je_isE2 hm he (pe_glob (v := .ref C1) hg1 hC1 rfl hd1) (.own C1) (pe_glob (v := .ref C2) hg2 hC2 rfl hd2) (.own C2) (fun c C b h1 h2 => by
    unfold kx2 at h2
    split at h2
    · rename_i a b' ha hb
      cases h2
      obtain ⟨y1, y2⟩ := hx1.hx c C a h1 ha
      obtain ⟨z1, z2⟩ := hx2.hx c C b' h1 hb
      refine ⟨?_, y2⟩
      unfold PySem.W.kitAny
      rw [y1]
      cases a
      · show PySem.W.kitAny X.K (.ref C) [.ref C2] = _
        unfold PySem.W.kitAny
        rw [z1]
        cases b' <;> rfl
      · rfl
    · cases h2) hg hs1 hs2 hst hst2 hpl
end
section
variable {X : Cx} {e : Expr} {me : ME} {pos p2 : Pos}
theorem jt_isNO {j} (he : JE X e me) : JT X (.Compare e [.Is] [.Constant .none j p2] pos) (tVal (mIsN me)) := by
  obtain ⟨te, pe, se⟩ := he.ex
  refine ⟨_, pt_cmpR op_isN1 pe pe_non (nomark _), snd_tcmp ?_⟩
  intro P F0 qc F cell S σ H Q z S' R hz k
  unfold mIsN at hz
  split at hz
  · rename_i d S1 e1
    cases hz
    refine se P F0 qc F cell S σ H _ _ S' R e1 fun v F1 H1 f1 R1 q1 => ⟨rfl, ?_⟩
    rw [dx_non (F := F1) (H := H1) (.inl q1)]
    exact k _ F1 H1 f1 R1 (.bl _)
  · rename_i o S1 e1
    cases hz
    refine se P F0 qc F cell S σ H _ _ S' R e1 fun v F1 H1 f1 R1 q1 => ⟨rfl, ?_⟩
    have : decide (v = V.non) = false := by
      cases o with
      | ns l => obtain ⟨a, rfl, _⟩ := q1; simp
      | ex c fs => obtain ⟨a, _, _, _, rfl, _⟩ := q1; simp
      | ptr k a => cases (show v = V.ref a from q1); simp
    rw [this]
    exact k _ F1 H1 f1 R1 (.bl _)
  · cases hz
theorem je_isNNO {j} (he : JE X e me) : JE X (.Compare e [.IsNot] [.Constant .none j p2] pos) (mIsNN me) := by
  obtain ⟨te, pe, se⟩ := he.ex
  refine ⟨_, pe_cmpR op_notN1 pe pe_non (nomark _), ?_⟩
  intro P F0 qc F cell S σ H Q z S' R hz k
  unfold mIsNN at hz
  split at hz
  · rename_i d S1 e1
    cases hz
    refine se P F0 qc F cell S σ H _ _ S' R e1 fun v F1 H1 f1 R1 q1 => ⟨rfl, ?_⟩
    rw [dx_non (F := F1) (H := H1) (.inl q1)]
    exact k _ F1 H1 f1 R1 (.bl _)
  · rename_i o S1 e1
    cases hz
    refine se P F0 qc F cell S σ H _ _ S' R e1 fun v F1 H1 f1 R1 q1 => ⟨rfl, ?_⟩
    have : decide (v = V.non) = false := by
      cases o with
      | ns l => obtain ⟨a, rfl, _⟩ := q1; simp
      | ex c fs => obtain ⟨a, _, _, _, rfl, _⟩ := q1; simp
      | ptr k a => cases (show v = V.ref a from q1); simp
    rw [this]
    exact k _ F1 H1 f1 R1 (.bl _)
  · cases hz
theorem jt_isNNO {j} (he : JE X e me) : JT X (.Compare e [.IsNot] [.Constant .none j p2] pos) (tVal (mIsNN me)) := by
  obtain ⟨te, pe, se⟩ := he.ex
  refine ⟨_, pt_cmpR op_notN1 pe pe_non (nomark _), snd_tcmp ?_⟩
  intro P F0 qc F cell S σ H Q z S' R hz k
  unfold mIsNN at hz
  split at hz
  · rename_i d S1 e1
    cases hz
    refine se P F0 qc F cell S σ H _ _ S' R e1 fun v F1 H1 f1 R1 q1 => ⟨rfl, ?_⟩
    rw [dx_non (F := F1) (H := H1) (.inl q1)]
    exact k _ F1 H1 f1 R1 (.bl _)
  · rename_i o S1 e1
    cases hz
    refine se P F0 qc F cell S σ H _ _ S' R e1 fun v F1 H1 f1 R1 q1 => ⟨rfl, ?_⟩
    have : decide (v = V.non) = false := by
      cases o with
      | ns l => obtain ⟨a, rfl, _⟩ := q1; simp
      | ex c fs => obtain ⟨a, _, _, _, rfl, _⟩ := q1; simp
      | ptr k a => cases (show v = V.ref a from q1); simp
    rw [this]
    exact k _ F1 H1 f1 R1 (.bl _)
  · cases hz
end
end VL

set_option Elab.async false
set_option linter.all false
set_option maxRecDepth 100000
set_option maxHeartbeats 4000000
/-! VX5: zip of two, of three lists or tuples. -/
namespace VX
open PySem PySem.Spec PyProof.Rows L2
/-- what is drawn from the iterator it over the object at a, as the V's xs -/
structure SrcZ (P : Program) (w : World) (K : PySem.W.Frag) (xs : List V) (G : Hp → Prop) (a it : Addr) (St : Nat → Heap → Prop) : Prop where
  obj : ∀ i h, St i h → ∃ o, h.get? it = some o ∧ ∀ v, o.data ≠ .cell v
  keep : ∀ i h h', St i h → (∀ o, h.get? it = some o → h'.get? it = some o) → St i h'
  draw : ∀ (X : Cx) (pins : List (Addr × Obj)) (σ : L2.St) (H : Hp) (s : Shared), X.prog = P → X.w = w → X.K = K → X.A.handled = none → Inv X pins σ H s → G H →
    ∃ PP ST, Draws X.prog X.w X.A.in1 it [it, a] xs.length PP ST ∧ (∀ i, St i s.heap → ST i s.heap) ∧ (∀ i h', ST i h' → St i h') ∧ ∀ i u, PP i u → ∃ x, xs[i]? = some x ∧ RelV x u
theorem srcz_tup {P : Program} {w : World} {K : PySem.W.Frag} {a it : Addr} {xs : List V} (hne : a ≠ it) : SrcZ P w K xs (fun H => SqT K H a xs) a it (fun i h => h.IsTupleIter it a i) where
  obj := fun i h ⟨o, e, c, d⟩ => ⟨o, e, fun v z => by rw [d] at z; cases z⟩
  keep := fun i h h' st k => st.at fun o e => k o e
  draw := by
    intro X pins σ H s hP hw hK hh I hG
    subst hP hw hK
    obtain ⟨its, rv, p, hz⟩ := I.tuple hG
    have p' : s.heap.IsTuple a its.toArray := p
    have D := Draws.tuple (prog := X.prog) (w := X.w) (A := X.A.in1) hh it a hne its.toArray
    rw [List.size_toArray, ← rv.length] at D
    refine ⟨_, _, D, fun i st => ⟨st, p'⟩, fun i h' st => st.1, fun i u hu => ?_⟩
    have hu' : its[i]? = some u := by simpa using hu
    obtain ⟨hl, hu2⟩ := List.getElem?_eq_some_iff.mp hu'
    have hl2 : i < xs.length := by rw [rv.length]; exact hl
    obtain ⟨u2, h1, h2⟩ := rv.get (List.getElem?_eq_getElem hl2)
    rw [hu'] at h1
    cases h1
    exact ⟨_, List.getElem?_eq_getElem hl2, h2⟩
theorem srcz_list {P : Program} {w : World} {K : PySem.W.Frag} {a it : Addr} {xs : List V} (hne : a ≠ it) : SrcZ P w K xs (fun H => SqL K H a xs) a it (fun i h => h.IsListIter it a i) where
  obj := fun i h ⟨o, e, c, d⟩ => ⟨o, e, fun v z => by rw [d] at z; cases z⟩
  keep := fun i h h' st k => st.at fun o e => k o e
  draw := by
    intro X pins σ H s hP hw hK hh I hG
    subst hP hw hK
    obtain ⟨its, rv, p, hz⟩ := I.list hG
    have p' : s.heap.IsList a its.toArray := p.isList
    have D := Draws.list (prog := X.prog) (w := X.w) (A := X.A.in1) hh it a hne its.toArray
    rw [List.size_toArray, ← rv.length] at D
    refine ⟨_, _, D, fun i st => ⟨st, p'⟩, fun i h' st => st.1, fun i u hu => ?_⟩
    have hu' : its[i]? = some u := by simpa using hu
    obtain ⟨hl, hu2⟩ := List.getElem?_eq_some_iff.mp hu'
    have hl2 : i < xs.length := by rw [rv.length]; exact hl
    obtain ⟨u2, h1, h2⟩ := rv.get (List.getElem?_eq_getElem hl2)
    rw [hu'] at h1
    cases h1
    exact ⟨_, List.getElem?_eq_getElem hl2, h2⟩
/-- the items in new pairs -/
def Iz2 (xs ys : List V) (G : Hp → Prop) : It :=
  ⟨fun i H => G H ∧ i < min xs.length ys.length, fun i H v H' => ∃ T x y, v = .ref T ∧ H T = none ∧ H' = upd H T (.tup [x, y]) ∧ xs[i]? = some x ∧ ys[i]? = some y, fun i H => G H ∧ i = min xs.length ys.length⟩
theorem walk_z2 {xs ys : List V} {G : Hp → Prop} : Walk (Iz2 xs ys G) (min xs.length ys.length) G (YPair (fun i => xs[i]?) (fun i => ys[i]?)) := by
  refine ⟨fun i _ hi q => ⟨q, hi⟩, fun _ q => ⟨q, rfl⟩, fun i H v H' _ q y => ?_⟩
  obtain ⟨T, x, y, h1, h2, h3, h4, h5⟩ := y
  exact ⟨T, x, y, h1, h2, h3, h4, h5⟩
section
variable {P : Program} {w : World} {K : PySem.W.Frag} {xs ys us : List V} {G1 G2 G3 : Hp → Prop} {a1 a2 a3 z TI TO i1 i2 i3 : Addr} {St1 St2 St3 : Nat → Heap → Prop}
theorem turn_z2 {elts : List Expr} {kk : Nat} {tpos : Pos} (S : ZipSep2 z TI TO i1 i2 [i1, a1] [i2, a2]) (R1 : SrcZ P w K xs G1 a1 i1 St1) (R2 : SrcZ P w K ys G2 a2 i2 St2) :
    Turn P w K (.Tuple elts kk tpos) (Iz2 xs ys fun H => G1 H ∧ G2 H) [z, TI, TO, i1, i2] z (fun i h => IsZip h z TI TO .none ∧ IsTupOf2 h TI (.ref i1) (.ref i2) ∧ (∃ x y, IsTupOf2 h TO x y) ∧ St1 i h ∧ St2 i h) where
  mem := by simp
  obj := fun i h st c hc => by
    obtain ⟨hz, hTI, ⟨x, y, hTO⟩, h1, h2⟩ := st
    have e' : c = z ∨ c = TI ∨ c = TO ∨ c = i1 ∨ c = i2 := by simpa using hc
    rcases e' with q | q | q | q | q
    · rw [q]; exact ⟨_, hz, fun v q => nomatch q⟩
    · rw [q]; exact ⟨_, hTI, fun v q => nomatch q⟩
    · rw [q]; exact ⟨_, hTO, fun v q => nomatch q⟩
    · rw [q]; exact R1.obj i h h1
    · rw [q]; exact R2.obj i h h2
  keep := fun i h h' st k => by
    obtain ⟨hz, hTI, ⟨x, y, hTO⟩, h1, h2⟩ := st
    exact ⟨k z (by simp) _ hz, k TI (by simp) _ hTI, ⟨x, y, k TO (by simp) _ hTO⟩, R1.keep i h h' h1 fun o q => k i1 (by simp) o q, R2.keep i h h' h2 fun o q => k i2 (by simp) o q⟩
  item := by
    intro X hP hw hK hc i pins s σ H E I hf st hg
    obtain ⟨hz, hTI, ⟨x0, y0, hTO⟩, h1, h2⟩ := st
    obtain ⟨⟨g1, g2⟩, hi⟩ := hg
    obtain ⟨PP1, ST1, D1, b1, c1, e1⟩ := R1.draw X pins σ H s hP hw hK (I.ok.hd hc) I g1
    obtain ⟨PP2, ST2, D2, b2, c2, e2⟩ := R2.draw X pins σ H s hP hw hK (I.ok.hd hc) I g2
    subst hP hw hK
    have hzl : z < s.heap.objs.size := Heap.lt_size hz
    refine wpAny_pyNext_zipD2_item S D1 D2 hz hTI hTO (b1 i h1) (b2 i h2) (Nat.lt_of_lt_of_le hi (Nat.min_le_left _ _)) (Nat.lt_of_lt_of_le hi (Nat.min_le_right _ _)) fun u1 u2 h' tk q1 q2 z' TO' s1' s2' hT hsz hk => ?_
    obtain ⟨x, hx, ru1⟩ := e1 i u1 q1
    obtain ⟨y, hy, ru2⟩ := e2 i u2 q2
    refine ⟨_, rfl, wpAny_letOwnedTupleGo_zip (s := { s with heap := h', toks := tk }) z' fun h'' z'' sb => ?_⟩
    have hT2 : h''.get? s.heap.objs.size = some { cls := .type "tuple", data := .seq #[u1, u2] } := (sb.2 _ (Nat.ne_of_gt hzl)).trans hT
    have new : ObjOk X.prog X.w (upd H s.heap.objs.size (.tup [x, y])) h'' s.heap.objs.size (.tup [x, y]) :=
      ⟨by show 2 ≤ sizeLine; decide, [u1, u2], .cons ru1 (.cons ru2 .nil), ⟨_, hT2, rfl, _, rfl⟩⟩
    have I1 : Inv X pins σ (upd H s.heap.objs.size (.tup [x, y])) { s with heap := h'', toks := tk } :=
      I.turnedNew (ch := [z, TI, TO, i1, i2]) (fun c o hb q => (sb.2 c (fun q' => hb (by simp [q']))).trans (hk c o (fun q' => hb (by simp [q'])) (fun q' => hb (by simp [q'])) (fun q' => hb (by simp [q'])) (fun q' => hb (by simp [q'])) q)) hf (Nat.le_refl _) new
    refine ⟨.ref s.heap.objs.size, _, I1, rfl, ⟨_, x, y, rfl, I.hok.fresh (Nat.le_refl _), rfl, hx, hy⟩, ⟨z'', ?_, ⟨u1, u2, ?_⟩, R1.keep _ _ _ (c1 _ _ s1') fun o q => (sb.2 i1 (Ne.symm S.zi1)).trans q, R2.keep _ _ _ (c2 _ _ s2') fun o q => (sb.2 i2 (Ne.symm S.zi2)).trans q⟩, fun c hcm => ?_⟩
    · exact (sb.2 _ S.TIz).trans (hk _ _ S.TIz S.TITO S.TIi1 S.TIi2 hTI)
    · exact (sb.2 _ S.TOz).trans TO'
    · have hlt : c < s.heap.objs.size := by
        have e' : c = z ∨ c = TI ∨ c = TO ∨ c = i1 ∨ c = i2 := by simpa using hcm
        rcases e' with q | q | q | q | q
        · rw [q]; exact hzl
        · rw [q]; exact Heap.lt_size hTI
        · rw [q]; exact Heap.lt_size hTO
        · rw [q]; obtain ⟨_, e1, _⟩ := R1.obj _ _ h1; exact Heap.lt_size e1
        · rw [q]; obtain ⟨_, e2, _⟩ := R2.obj _ _ h2; exact Heap.lt_size e2
      rw [upd_ne (Nat.ne_of_lt hlt)]
      exact (hf c hcm).1
  done := by
    intro X hP hw hK hc i pins s σ H E I hf st hg
    obtain ⟨hz, hTI, ⟨x0, y0, hTO⟩, h1, h2⟩ := st
    obtain ⟨⟨g1, g2⟩, hi⟩ := hg
    obtain ⟨PP1, ST1, D1, b1, c1, e1⟩ := R1.draw X pins σ H s hP hw hK (I.ok.hd hc) I g1
    obtain ⟨PP2, ST2, D2, b2, c2, e2⟩ := R2.draw X pins σ H s hP hw hK (I.ok.hd hc) I g2
    subst hP hw hK
    exact wpAny_pyNext_zipD2_end S D1 D2 hz hTI hTO (b1 i h1) (b2 i h2) (by omega) (by omega) (by omega) fun h' tk hk => ⟨rfl, I.turnedL (t' := tk) (ch := [z, TI, TO, i1, i2]) (fun c o hb q =>
      hk c o (fun q' => hb (by simp [q'])) (fun q' => hb (by simp [q'])) (fun q' => hb (by simp [q'])) (fun q' => hb (by simp [q'])) q) hf⟩
  self := fun A i s Q E st h => wpAny_pyIter_zip st.1 h
def Iz3 (xs ys us : List V) (G : Hp → Prop) : It :=
  ⟨fun i H => G H ∧ i < min (min xs.length ys.length) us.length, fun i H v H' => ∃ T x y u, v = .ref T ∧ H T = none ∧ H' = upd H T (.tup [x, y, u]) ∧ xs[i]? = some x ∧ ys[i]? = some y ∧ us[i]? = some u, fun i H => G H ∧ i = min (min xs.length ys.length) us.length⟩
def YTri (f g k : Nat → Option V) : Nat → Hp → V → Hp → Prop := fun i H v H' => ∃ T x y u, v = .ref T ∧ H T = none ∧ H' = upd H T (.tup [x, y, u]) ∧ f i = some x ∧ g i = some y ∧ k i = some u
theorem walk_z3 {xs ys us : List V} {G : Hp → Prop} : Walk (Iz3 xs ys us G) (min (min xs.length ys.length) us.length) G (YTri (fun i => xs[i]?) (fun i => ys[i]?) (fun i => us[i]?)) := by
  refine ⟨fun i _ hi q => ⟨q, hi⟩, fun _ q => ⟨q, rfl⟩, fun i H v H' _ q y => ?_⟩
  obtain ⟨T, x, y, u, h1, h2, h3, h4, h5, h6⟩ := y
  exact ⟨T, x, y, u, h1, h2, h3, h4, h5, h6⟩
theorem turn_z3 {elts : List Expr} {kk : Nat} {tpos : Pos} (S : ZipSep3 z TI TO i1 i2 i3 [i1, a1] [i2, a2] [i3, a3]) (R1 : SrcZ P w K xs G1 a1 i1 St1) (R2 : SrcZ P w K ys G2 a2 i2 St2) (R3 : SrcZ P w K us G3 a3 i3 St3) :
    Turn P w K (.Tuple elts kk tpos) (Iz3 xs ys us fun H => G1 H ∧ G2 H ∧ G3 H) [z, TI, TO, i1, i2, i3] z (fun i h => IsZip h z TI TO .none ∧ IsTupOf3 h TI (.ref i1) (.ref i2) (.ref i3) ∧ (∃ x y u, IsTupOf3 h TO x y u) ∧ St1 i h ∧ St2 i h ∧ St3 i h) where
  mem := by simp
  obj := fun i h st c hc => by
    obtain ⟨hz, hTI, ⟨x, y, u, hTO⟩, h1, h2, h3⟩ := st
    have e' : c = z ∨ c = TI ∨ c = TO ∨ c = i1 ∨ c = i2 ∨ c = i3 := by simpa using hc
    rcases e' with q | q | q | q | q | q
    · rw [q]; exact ⟨_, hz, fun v q => nomatch q⟩
    · rw [q]; exact ⟨_, hTI, fun v q => nomatch q⟩
    · rw [q]; exact ⟨_, hTO, fun v q => nomatch q⟩
    · rw [q]; exact R1.obj i h h1
    · rw [q]; exact R2.obj i h h2
    · rw [q]; exact R3.obj i h h3
  keep := fun i h h' st k => by
    obtain ⟨hz, hTI, ⟨x, y, u, hTO⟩, h1, h2, h3⟩ := st
    exact ⟨k z (by simp) _ hz, k TI (by simp) _ hTI, ⟨x, y, u, k TO (by simp) _ hTO⟩, R1.keep i h h' h1 fun o q => k i1 (by simp) o q, R2.keep i h h' h2 fun o q => k i2 (by simp) o q, R3.keep i h h' h3 fun o q => k i3 (by simp) o q⟩
  item := by
    intro X hP hw hK hc i pins s σ H E I hf st hg
    obtain ⟨hz, hTI, ⟨x0, y0, u0, hTO⟩, h1, h2, h3⟩ := st
    obtain ⟨⟨g1, g2, g3⟩, hi⟩ := hg
    obtain ⟨PP1, ST1, D1, b1, c1, e1⟩ := R1.draw X pins σ H s hP hw hK (I.ok.hd hc) I g1
    obtain ⟨PP2, ST2, D2, b2, c2, e2⟩ := R2.draw X pins σ H s hP hw hK (I.ok.hd hc) I g2
    obtain ⟨PP3, ST3, D3, b3, c3, e3⟩ := R3.draw X pins σ H s hP hw hK (I.ok.hd hc) I g3
    subst hP hw hK
    have hzl : z < s.heap.objs.size := Heap.lt_size hz
    refine wpAny_pyNext_zipD3_item S D1 D2 D3 hz hTI hTO (b1 i h1) (b2 i h2) (b3 i h3) (by omega) (by omega) (by omega) fun u1 u2 u3 h' tk q1 q2 q3 z' TO' s1' s2' s3' hT hsz hk => ?_
    obtain ⟨x, hx, ru1⟩ := e1 i u1 q1
    obtain ⟨y, hy, ru2⟩ := e2 i u2 q2
    obtain ⟨u, hu, ru3⟩ := e3 i u3 q3
    refine ⟨_, rfl, wpAny_letOwnedTupleGo_zip (s := { s with heap := h', toks := tk }) z' fun h'' z'' sb => ?_⟩
    have hT2 : h''.get? s.heap.objs.size = some { cls := .type "tuple", data := .seq #[u1, u2, u3] } := (sb.2 _ (Nat.ne_of_gt hzl)).trans hT
    have new : ObjOk X.prog X.w (upd H s.heap.objs.size (.tup [x, y, u])) h'' s.heap.objs.size (.tup [x, y, u]) :=
      ⟨by show 3 ≤ sizeLine; decide, [u1, u2, u3], .cons ru1 (.cons ru2 (.cons ru3 .nil)), ⟨_, hT2, rfl, _, rfl⟩⟩
    have I1 : Inv X pins σ (upd H s.heap.objs.size (.tup [x, y, u])) { s with heap := h'', toks := tk } :=
      I.turnedNew (ch := [z, TI, TO, i1, i2, i3]) (fun c o hb q => (sb.2 c (fun q' => hb (by simp [q']))).trans (hk c o (fun q' => hb (by simp [q'])) (fun q' => hb (by simp [q'])) (fun q' => hb (by simp [q'])) (fun q' => hb (by simp [q'])) (fun q' => hb (by simp [q'])) q)) hf (Nat.le_refl _) new
    refine ⟨.ref s.heap.objs.size, _, I1, rfl, ⟨_, x, y, u, rfl, I.hok.fresh (Nat.le_refl _), rfl, hx, hy, hu⟩, ⟨z'', ?_, ⟨u1, u2, u3, ?_⟩, R1.keep _ _ _ (c1 _ _ s1') fun o q => (sb.2 i1 (Ne.symm S.zi1)).trans q, R2.keep _ _ _ (c2 _ _ s2') fun o q => (sb.2 i2 (Ne.symm S.zi2)).trans q, R3.keep _ _ _ (c3 _ _ s3') fun o q => (sb.2 i3 (Ne.symm S.zi3)).trans q⟩, fun c hcm => ?_⟩
    · exact (sb.2 _ S.TIz).trans (hk _ _ S.TIz S.TITO S.TIi1 S.TIi2 S.TIi3 hTI)
    · exact (sb.2 _ S.TOz).trans TO'
    · have hlt : c < s.heap.objs.size := by
        have e' : c = z ∨ c = TI ∨ c = TO ∨ c = i1 ∨ c = i2 ∨ c = i3 := by simpa using hcm
        rcases e' with q | q | q | q | q | q
        · rw [q]; exact hzl
        · rw [q]; exact Heap.lt_size hTI
        · rw [q]; exact Heap.lt_size hTO
        · rw [q]; obtain ⟨_, e1, _⟩ := R1.obj _ _ h1; exact Heap.lt_size e1
        · rw [q]; obtain ⟨_, e2, _⟩ := R2.obj _ _ h2; exact Heap.lt_size e2
        · rw [q]; obtain ⟨_, e3, _⟩ := R3.obj _ _ h3; exact Heap.lt_size e3
      rw [upd_ne (Nat.ne_of_lt hlt)]
      exact (hf c hcm).1
  done := by
    intro X hP hw hK hc i pins s σ H E I hf st hg
    obtain ⟨hz, hTI, ⟨x0, y0, u0, hTO⟩, h1, h2, h3⟩ := st
    obtain ⟨⟨g1, g2, g3⟩, hi⟩ := hg
    obtain ⟨PP1, ST1, D1, b1, c1, e1⟩ := R1.draw X pins σ H s hP hw hK (I.ok.hd hc) I g1
    obtain ⟨PP2, ST2, D2, b2, c2, e2⟩ := R2.draw X pins σ H s hP hw hK (I.ok.hd hc) I g2
    obtain ⟨PP3, ST3, D3, b3, c3, e3⟩ := R3.draw X pins σ H s hP hw hK (I.ok.hd hc) I g3
    subst hP hw hK
    exact wpAny_pyNext_zipD3_end S D1 D2 D3 hz hTI hTO (b1 i h1) (b2 i h2) (b3 i h3) (by omega) (by omega) (by omega) (by omega) fun h' tk hk => ⟨rfl, I.turnedL (t' := tk) (ch := [z, TI, TO, i1, i2, i3]) (fun c o hb q =>
      hk c o (fun q' => hb (by simp [q'])) (fun q' => hb (by simp [q'])) (fun q' => hb (by simp [q'])) (fun q' => hb (by simp [q'])) (fun q' => hb (by simp [q'])) q) hf⟩
  self := fun A i s Q E st h => wpAny_pyIter_zip st.1 h
end
/-! ### the calls -/
/-- a list or a tuple at a, as xs -/
inductive Sqz (K : PySem.W.Frag) (H : Hp) (a : Addr) (xs : List V) (G : Hp → Prop) : Prop
  | l (h : SqL K H a xs) (e : G = fun H => SqL K H a xs)
  | t (h : SqT K H a xs) (e : G = fun H => SqT K H a xs)
/-- what a source brings -/
structure Beg (X : Cx) (H : Hp) (s : Shared) (a : Addr) (xs : List V) (G : Hp → Prop) where
  lt : a < s.heap.objs.size
  g : G H
  ex : ∃ (o : Obj) (HH : Heap → Prop), Begins (.ref a) o HH ∧ HH s.heap ∧ ∀ it, a ≠ it → ∃ St, SrcZ X.prog X.w X.K xs G a it St ∧ ∀ h' : Heap, h'.get? it = some o → St 0 h'
theorem Sqz.beg {X : Cx} {pins : List (Addr × Obj)} {σ : L2.St} {H : Hp} {s : Shared} {a : Addr} {xs : List V} {G : Hp → Prop} (I : Inv X pins σ H s) (z : Sqz X.K H a xs G) : Beg X H s a xs G := by
  cases z with
  | l h e =>
    subst e
    obtain ⟨its, rv, p, hz⟩ := I.list h
    have p' : s.heap.IsList a its.toArray := p.isList
    exact ⟨p.lt, h, _, _, begins_list a its.toArray, p', fun it hne => ⟨_, srcz_list hne, fun h' hit => ⟨_, hit, rfl, rfl⟩⟩⟩
  | t h e =>
    subst e
    obtain ⟨its, rv, p, hz⟩ := I.tuple h
    have p' : s.heap.IsTuple a its.toArray := p
    have hal : a < s.heap.objs.size := by obtain ⟨_, q, _⟩ := p'; exact Heap.lt_size q
    exact ⟨hal, h, _, _, begins_tuple a its.toArray, p', fun it hne => ⟨_, srcz_tup hne, fun h' hit => ⟨_, hit, rfl, rfl⟩⟩⟩
def iZ2 (K : PySem.W.Frag) (ta : TA) : TI := fun σ H R => ta σ H fun vs H1 => ∃ a b xs ys G1 G2, vs = [.ref a, .ref b] ∧ Sqz K H1 a xs G1 ∧ Sqz K H1 b ys G2 ∧ R (Iz2 xs ys fun H => G1 H ∧ G2 H) H1
def iZ3 (K : PySem.W.Frag) (ta : TA) : TI := fun σ H R => ta σ H fun vs H1 => ∃ a b c xs ys us G1 G2 G3, vs = [.ref a, .ref b, .ref c] ∧ Sqz K H1 a xs G1 ∧ Sqz K H1 b ys G2 ∧ Sqz K H1 c us G3 ∧ R (Iz3 xs ys us fun H => G1 H ∧ G2 H ∧ G3 H) H1
section
variable {X : Cx} {e e2 e3 : Expr} {ta : TA} {p pos tpos : Pos} {elts : List Expr} {kk : Nat}
theorem pi_z2 (hg : Gl X "zip") (hm : X.mg "zip" = none) (ha : PA X [e, e2] ta)
    (hs : starEach [e, e2] X.env = (false, eval e X.env) :: starEach [e2] X.env := by rfl) (hpl : (backTo pos (starEach [e2] X.env)).any (·.1) = false := by rfl) :
    PI X (.Tuple elts kk tpos) (.Call (.Name "zip" p) [e, e2] [] pos) (iZ2 X.K ta) := by
  refine ⟨fun pins s σ H R I h => ?_⟩
  refine Call_ (ld_blt I hg hm PyProof.Rows.boot_zip (PyProof.Rows.callWith_type1 (thn (ha.run pos pins s σ H _ I h) fun us s1 ⟨vs, H1, I1, r1, q1⟩ => ?_) hs hpl))
  obtain ⟨a, b, xs, ys, G1, G2, ex, z1, z2, q⟩ := q1
  subst ex
  cases r1 with
  | cons r rr =>
    cases rr with
    | cons r' rr =>
      cases rr
      cases r
      cases r'
      obtain ⟨l1, g1, o1, HH1, B1, x1, y1⟩ := z1.beg I1
      obtain ⟨l2, g2, o2, HH2, B2, x2, y2⟩ := z2.beg I1
      obtain ⟨St1, R1, s10⟩ := y1 s1.heap.objs.size (Nat.ne_of_lt l1)
      obtain ⟨St2, R2, s20⟩ := y2 (s1.heap.objs.size + 1) (Nat.ne_of_lt (Nat.lt_succ_of_lt l2))
      have S := zip_sep2 (N := s1.heap.objs.size) (fp1 := [a]) (fp2 := [b]) (fun c hc => by rw [List.mem_singleton.mp hc]; exact l1) (fun c hc => by rw [List.mem_singleton.mp hc]; exact l2)
      refine zip_begins2 B1 B2 x1 x2 fun h' hz hTI hTO ho1 ho2 hsz hk => wpAny_pyIter_zip hz ?_
      have I2 : Inv X pins σ H1 { s1 with heap := h' } := I1.kept (t' := s1.toks) hk
      refine ⟨s1.heap.objs.size + 4, [s1.heap.objs.size + 4, s1.heap.objs.size + 2, s1.heap.objs.size + 3, s1.heap.objs.size, s1.heap.objs.size + 1], _, _, H1, rfl, I2, turn_z2 S R1 R2, ⟨hz, hTI, ⟨_, _, hTO⟩, s10 h' ho1, s20 h' ho2⟩, fun c hcm => ?_, q⟩
      have e' : c = s1.heap.objs.size + 4 ∨ c = s1.heap.objs.size + 2 ∨ c = s1.heap.objs.size + 3 ∨ c = s1.heap.objs.size ∨ c = s1.heap.objs.size + 1 := by simpa using hcm
      have hle : s1.heap.objs.size ≤ c := by
        rcases e' with z | z | z | z | z
        · rw [z]; exact Nat.le_add_right _ _
        · rw [z]; exact Nat.le_add_right _ _
        · rw [z]; exact Nat.le_add_right _ _
        · rw [z]; exact Nat.le_refl _
        · rw [z]; exact Nat.le_add_right _ _
      exact I1.fpOk hle (I1.hok.fresh hle)
theorem pi_z3 (hg : Gl X "zip") (hm : X.mg "zip" = none) (ha : PA X [e, e2, e3] ta)
    (hs : starEach [e, e2, e3] X.env = (false, eval e X.env) :: starEach [e2, e3] X.env := by rfl) (hpl : (backTo pos (starEach [e2, e3] X.env)).any (·.1) = false := by rfl) :
    PI X (.Tuple elts kk tpos) (.Call (.Name "zip" p) [e, e2, e3] [] pos) (iZ3 X.K ta) := by
  refine ⟨fun pins s σ H R I h => ?_⟩
  refine Call_ (ld_blt I hg hm PyProof.Rows.boot_zip (PyProof.Rows.callWith_type1 (thn (ha.run pos pins s σ H _ I h) fun us s1 ⟨vs, H1, I1, r1, q1⟩ => ?_) hs hpl))
  obtain ⟨a, b, c3, xs, ys, us3, G1, G2, G3, ex, z1, z2, z3, q⟩ := q1
  subst ex
  cases r1 with
  | cons r rr =>
    cases rr with
    | cons r' rr =>
      cases rr with
      | cons r'' rr =>
        cases rr
        cases r
        cases r'
        cases r''
        obtain ⟨l1, g1, o1, HH1, B1, x1, y1⟩ := z1.beg I1
        obtain ⟨l2, g2, o2, HH2, B2, x2, y2⟩ := z2.beg I1
        obtain ⟨l3, g3, o3, HH3, B3, x3, y3⟩ := z3.beg I1
        obtain ⟨St1, R1, s10⟩ := y1 s1.heap.objs.size (Nat.ne_of_lt l1)
        obtain ⟨St2, R2, s20⟩ := y2 (s1.heap.objs.size + 1) (Nat.ne_of_lt (Nat.lt_succ_of_lt l2))
        obtain ⟨St3, R3, s30⟩ := y3 (s1.heap.objs.size + 2) (Nat.ne_of_lt (Nat.lt_succ_of_lt (Nat.lt_succ_of_lt l3)))
        have S := zip_sep3 (N := s1.heap.objs.size) (fp1 := [a]) (fp2 := [b]) (fp3 := [c3]) (fun c hc => by rw [List.mem_singleton.mp hc]; exact l1) (fun c hc => by rw [List.mem_singleton.mp hc]; exact l2) (fun c hc => by rw [List.mem_singleton.mp hc]; exact l3)
        refine zip_begins3 B1 B2 B3 x1 x2 x3 fun h' hz hTI hTO ho1 ho2 ho3 hsz hk => wpAny_pyIter_zip hz ?_
        have I2 : Inv X pins σ H1 { s1 with heap := h' } := I1.kept (t' := s1.toks) hk
        refine ⟨s1.heap.objs.size + 5, [s1.heap.objs.size + 5, s1.heap.objs.size + 3, s1.heap.objs.size + 4, s1.heap.objs.size, s1.heap.objs.size + 1, s1.heap.objs.size + 2], _, _, H1, rfl, I2, turn_z3 S R1 R2 R3, ⟨hz, hTI, ⟨_, _, _, hTO⟩, s10 h' ho1, s20 h' ho2, s30 h' ho3⟩, fun c hcm => ?_, q⟩
        have e' : c = s1.heap.objs.size + 5 ∨ c = s1.heap.objs.size + 3 ∨ c = s1.heap.objs.size + 4 ∨ c = s1.heap.objs.size ∨ c = s1.heap.objs.size + 1 ∨ c = s1.heap.objs.size + 2 := by simpa using hcm
        have hle : s1.heap.objs.size ≤ c := by
          rcases e' with z | z | z | z | z | z
          · rw [z]; exact Nat.le_add_right _ _
          · rw [z]; exact Nat.le_add_right _ _
          · rw [z]; exact Nat.le_add_right _ _
          · rw [z]; exact Nat.le_refl _
          · rw [z]; exact Nat.le_add_right _ _
          · rw [z]; exact Nat.le_add_right _ _
        exact I1.fpOk hle (I1.hok.fresh hle)
end
end VX

set_option Elab.async false
set_option linter.all false
set_option maxRecDepth 100000
set_option maxHeartbeats 4000000
/-! VX6: sum of a tuple of ints; match over values. -/
namespace VX
open PySem PySem.Spec PyProof.Rows L2
section
variable {prog : Program} {w : World} {A : Around} {E : Value → Shared → Prop} {s : Shared} {l : Addr} {its : List Value} {ns : List Int} {Q : Value → Shared → Prop}
theorem sumT_raw (hh : A.handled = none) (hl : s.heap.IsTuple l its.toArray) (hi : IntsAre its ns)
    (h : ∀ h' tk t', (∀ b o, s.heap.get? b = some o → h'.get? b = some o) → Q (.int ns.sum t') { s with heap := h', toks := tk }) : wpAny (model prog w) A (call (.builtin "sum") [.ref l]) Q E s := by
  obtain ⟨xs, e⟩ := hi.allInts.items
  have hn : numsOf (intItems xs).toList = ns := by rw [← e]; exact hi.numsOf
  rw [nums_intItems] at hn
  rw [e] at hl
  have hlt : l < s.heap.objs.size := by obtain ⟨o, q, _⟩ := hl; exact Heap.lt_size q
  refine call_sum_walkG (wpAny_pyIter_tuple hl ?_)
  have k1 : ∀ b o, s.heap.get? b = some o → (s.heap.push { cls := .type "tuple_iterator", data := .fields #[.ref l, .int 0 0] }).get? b = some o := fun b o q => Heap.get?_push_of_some _ q
  refine ⟨s.heap.objs.size, _, _, _, _, _, numAt xs, rfl, Walks.tuple (A := A.in1) hh s.heap.objs.size l (Nat.ne_of_lt hlt) (intItems xs), ⟨⟨_, Heap.get?_push_size _ rfl, rfl, rfl⟩, hl.at fun o q => k1 l o q⟩, fun b hb => ?_, (fun _ _ => intItems_at), fun h' tk t' hk => ?_⟩
  · show b < (s.heap.push _).objs.size
    rw [Heap.size_push]
    have e' : b = s.heap.objs.size ∨ b = l := by simpa using hb
    rcases e' with z | z
    · rw [z]; exact Nat.lt_succ_self _
    · rw [z]; exact Nat.lt_succ_of_lt hlt
  · have := h h' tk t' fun b o q => hk b o (fun z => by
      have : b = s.heap.objs.size := by simpa using z
      rw [this] at q
      exact Nat.lt_irrefl _ (Heap.lt_size q)) (k1 b o q)
    have e1 : preSum (numAt xs) (intItems xs).size = ns.sum := by
      rw [preSum_eq, List.take_of_length_le (by simp [intItems]), hn]
    rw [e1]
    exact this
end
section
variable {X : Cx}
def rSumT (K : PySem.W.Frag) : List V → Hp → VK → Prop := fun vs H Q => ∃ (a : Addr) (ns : List Int), vs = [V.ref a] ∧ SqT K H a (ns.map V.int) ∧ Q (.int ns.sum) H
theorem cr_sumT (hc : X.calm = true) : CallR X (.builtin "sum") (rSumT X.K) := by
  intro pins s σ H vs us Q I r h
  obtain ⟨a, ns, rfl, hs, q⟩ := h
  obtain ⟨its, rv, hl, _⟩ := I.tuple hs
  rw [Vals.ref1 r]
  exact sumT_raw (I.ok.hd hc) hl rv.ints fun h' tk t' hk => ⟨.int _, H, I.kept hk, ⟨_, rfl⟩, q⟩
end
/-! ### match -/
abbrev TPat := V → Hp → (Bool → Hp → Prop) → Prop
structure PPat (X : Cx) (p : Pattern) (t : TPat) : Prop where
  run : ∀ (pins : List (Addr × Obj)) (s : Shared) (σ : L2.St) (H : Hp) (v : V) (u : Value) (Q : Bool → Hp → Prop), Inv X pins σ H s → RelV v u → t v H Q →
    wpAny (model X.prog X.w) X.A (matchPattern p X.env u) (fun r s1 => (r = none ∨ r = some []) ∧ ∃ H1, Inv X pins σ H1 s1 ∧ Q r.isSome H1) X.xe s
structure PFirst (X : Cx) (ps : List Pattern) (t : TPat) : Prop where
  run : ∀ (pins : List (Addr × Obj)) (s : Shared) (σ : L2.St) (H : Hp) (v : V) (u : Value) (Q : Bool → Hp → Prop), Inv X pins σ H s → RelV v u → t v H Q →
    wpAny (model X.prog X.w) X.A (matchFirst ps X.env u) (fun r s1 => (r = none ∨ r = some []) ∧ ∃ H1, Inv X pins σ H1 s1 ∧ Q r.isSome H1) X.xe s
structure PMC (X : Cx) (cs : List MatchCase) (t : V → TS) : Prop where
  run : ∀ (pins : List (Addr × Obj)) (s : Shared) (σ : L2.St) (H : Hp) (v : V) (u : Value) (D : Ends) (first : Bool), Inv X pins σ H s → RelV v u → t v D σ H → wpAny (model X.prog X.w) X.A (matchCases cs X.env u first) (SP X pins D) X.xe s
section
variable {X : Cx} {r : R2} {z : Str} {pos p1 p2 : Pos} {p : Pattern} {ps : List Pattern} {t tp : TPat} {cs : List MatchCase} {tr : V → TS} {body : List Stmt} {tb : TS} {e : Expr} {te : TE}
def tPatS (r : R2) (z : Str) : TPat := fun v H Q => r v (.str z) H fun c H1 => ∃ b, c = .bl b ∧ Q b H1
theorem ppat_str {j} (ho : OpR X (compareOp .Eq) r) : PPat X (.MatchValue (.Constant (.str z) j p1) p2) (tPatS r z) := by
  refine ⟨fun pins s σ H v u Q I rv h => ?_⟩
  refine wpAny_matchPattern_Value (thn ((pe_str (X := X) (x := z) (j := j) (pos := p1)).run pins s σ H (fun x H1 => x = .str z ∧ H1 = H) I ⟨rfl, rfl⟩) fun x s1 ⟨xv, H1, I1, r1, ex, eH⟩ => ?_)
  subst ex eH
  refine thn (ho pins s1 σ H1 v (.str z) u x _ I1 rv r1 h) fun c s2 ⟨cv, H2, I2, r2, b, ec, q⟩ => ?_
  subst ec
  cases r2
  refine wpAny_truthy_bool ?_
  cases b
  · exact ⟨.inl rfl, H2, I2, q⟩
  · exact ⟨.inr rfl, H2, I2, q⟩
theorem ppat_any : PPat X (.MatchAs none none p1) (fun _ H Q => Q true H) :=
  ⟨fun pins s σ H v u Q I rv h => wpAny_matchPattern_Capture ⟨.inr rfl, H, I, h⟩⟩
theorem pfirst_nil : PFirst X [] (fun _ H Q => Q false H) := ⟨fun pins s σ H v u Q I rv h => wpAny_matchFirst_nil ⟨.inl rfl, H, I, h⟩⟩
theorem pfirst_cons (h1 : PPat X p tp) (h2 : PFirst X ps t) : PFirst X (p :: ps) (fun v H Q => tp v H fun b H1 => if b = true then Q true H1 else t v H1 Q) := by
  refine ⟨fun pins s σ H v u Q I rv h => ?_⟩
  refine wpAny_matchFirst_cons (thn (h1.run pins s σ H v u _ I rv h) fun r s1 ⟨hr, H1, I1, q⟩ => ?_)
  rcases hr with rfl | rfl
  · exact h2.run pins s1 σ H1 v u Q I1 rv q
  · exact ⟨.inr rfl, H1, I1, q⟩
theorem ppat_or (h : PFirst X ps t) (hn : namesOfAll (ps.take 1) = [] := by rfl) : PPat X (.MatchOr ps p1) t := by
  refine ⟨fun pins s σ H v u Q I rv q => ?_⟩
  refine wpAny_matchPattern_Or (thn (h.run pins s σ H v u Q I rv q) fun r s1 ⟨hr, H1, I1, q⟩ => ?_)
  rcases hr with rfl | rfl
  · exact ⟨.inl rfl, H1, I1, q⟩
  · rw [hn]
    exact ⟨.inr rfl, H1, I1, q⟩
theorem pmc_nil : PMC X [] (fun _ D σ H => D.nx σ H) := ⟨fun pins s σ H v u D first I rv h => wpAny_matchCases_nil ⟨σ, H, I, h⟩⟩
theorem pmc_cons (h1 : PPat X p tp) (hb : PSs X body tb) (h2 : PMC X cs tr) : PMC X (⟨p, none, body⟩ :: cs) (fun v D σ H => tp v H fun b H1 => if b = true then tb D σ H1 else tr v D σ H1) := by
  refine ⟨fun pins s σ H v u D first I rv h => ?_⟩
  refine wpAny_matchCases_cons (thn (h1.run pins s σ H v u _ I rv h) fun r s1 ⟨hr, H1, I1, q⟩ => ?_)
  rcases hr with rfl | rfl
  · exact h2.run pins s1 σ H1 v u D false I1 rv q
  · exact wpAny_assignInOrder_none (hb.run pins s1 σ H1 D I1 q)
theorem ps_match (he : PE X e te) (hc : PMC X cs tr) : PS X (.Match e cs pos) (fun D σ H => te σ H fun v H1 => tr v D σ H1) :=
  ⟨fun pins s σ H D I h => wpAny_Match (thn (he.run pins s σ H _ I h) fun u s1 ⟨v, H1, I1, rv, q⟩ => hc.run pins s1 σ H1 v u D true I1 rv q)⟩
end
end VX

set_option Elab.async false
set_option linter.all false
set_option maxRecDepth 100000
set_option maxHeartbeats 4000000
/-! VL23: zip, sum, max, min, starred displays, upper, written dicts asked, match. -/
namespace VL
open PySem PySem.Spec PyProof.Rows L2
/-! ### zip -/
def zip2D : List PyData → List PyData → List PyData
  | x :: xs, y :: ys => .tuple [x, y] :: zip2D xs ys
  | _, _ => []
def zip3D : List PyData → List PyData → List PyData → List PyData
  | x :: xs, y :: ys, u :: us => .tuple [x, y, u] :: zip3D xs ys us
  | _, _, _ => []
theorem zip2D_length : ∀ xs ys : List PyData, (zip2D xs ys).length = min xs.length ys.length
  | [], ys => by simp [zip2D]
  | x :: xs, [] => by simp [zip2D]
  | x :: xs, y :: ys => by simp only [zip2D, List.length_cons, zip2D_length xs ys]; omega
theorem zip3D_length : ∀ xs ys us : List PyData, (zip3D xs ys us).length = min (min xs.length ys.length) us.length
  | [], ys, us => by simp [zip3D]
  | x :: xs, [], us => by simp [zip3D]
  | x :: xs, y :: ys, [] => by simp [zip3D]
  | x :: xs, y :: ys, u :: us => by simp only [zip3D, List.length_cons, zip3D_length xs ys us]; omega
theorem zip2D_get : ∀ {xs ys : List PyData} {i : Nat} {d : PyData}, (zip2D xs ys)[i]? = some d → ∃ x y, d = .tuple [x, y] ∧ xs[i]? = some x ∧ ys[i]? = some y
  | [], ys, i, d, h => by simp [zip2D] at h
  | x :: xs, [], i, d, h => by simp [zip2D] at h
  | x :: xs, y :: ys, 0, d, h => by
    simp [zip2D] at h
    exact ⟨x, y, h.symm, rfl, rfl⟩
  | x :: xs, y :: ys, i + 1, d, h => by
    obtain ⟨a, b, h1, h2, h3⟩ := zip2D_get (xs := xs) (ys := ys) (i := i) (by simpa [zip2D] using h)
    exact ⟨a, b, h1, by simpa using h2, by simpa using h3⟩
theorem zip3D_get : ∀ {xs ys us : List PyData} {i : Nat} {d : PyData}, (zip3D xs ys us)[i]? = some d → ∃ x y u, d = .tuple [x, y, u] ∧ xs[i]? = some x ∧ ys[i]? = some y ∧ us[i]? = some u
  | [], ys, us, i, d, h => by simp [zip3D] at h
  | x :: xs, [], us, i, d, h => by simp [zip3D] at h
  | x :: xs, y :: ys, [], i, d, h => by simp [zip3D] at h
  | x :: xs, y :: ys, u :: us, 0, d, h => by
    simp [zip3D] at h
    exact ⟨x, y, u, h.symm, rfl, rfl, rfl⟩
  | x :: xs, y :: ys, u :: us, i + 1, d, h => by
    obtain ⟨a, b, c, h1, h2, h3, h4⟩ := zip3D_get (xs := xs) (ys := ys) (us := us) (i := i) (by simpa [zip3D] using h)
    exact ⟨a, b, c, h1, by simpa using h2, by simpa using h3, by simpa using h4⟩
/-- the items of a list or a tuple -/
def seqD : PyData → Option (List PyData)
  | .list ds => some ds
  | .tuple ds => some ds
  | _ => none
section
variable {K : PySem.W.Frag} {F : Hp} {d : PyData} {ds : List PyData} {v : V}
theorem sqz_of {H : Hp} (fh : Same F H) (hd : DV K F v d) (hs : seqD d = some ds) : ∃ a xs G, v = .ref a ∧ VX.Sqz K H a xs G ∧ DVs K F xs ds ∧ ∀ H', Same F H' → G H' := by
  cases hd with
  | lst h1 h2 =>
    cases hs
    exact ⟨_, _, _, rfl, .l (SqL.of (fh _ _ h1)) rfl, h2, fun H' e => SqL.of (e _ _ h1)⟩
  | tup h1 h2 =>
    cases hs
    exact ⟨_, _, _, rfl, .t (sqT_mono fh h1) rfl, h2, fun H' e => sqT_mono e h1⟩
  | _ => cases hs
theorem itok_z2 {xs ys : List V} {es : List PyData} {G : Hp → Prop} (hx : DVs K F xs ds) (hy : DVs K F ys es) (hG : ∀ H, Same F H → G H) : ItOk K (VX.Iz2 xs ys G) F (zip2D ds es) := by
  have hl : (zip2D ds es).length = min xs.length ys.length := by rw [zip2D_length, hx.length, hy.length]
  refine ⟨_, _, by rw [hl]; exact VX.walk_z2, fun H e => hG H e, fun i H x H' F2 d e1 e2 hd y => ?_⟩
  obtain ⟨T, x1, x2, rfl, hT, rfl, g1, g2⟩ := y
  obtain ⟨a, b, rfl, ha, hb⟩ := zip2D_get hd
  obtain ⟨d1, p1, q1⟩ := hx.got g1
  obtain ⟨d2, p2, q2⟩ := hy.got g2
  rw [p1] at ha
  rw [p2] at hb
  cases ha
  cases hb
  refine ⟨upd F2 T (.tup [x1, x2]), Ext.new e2 hT, ?_⟩
  have sF := same_new (o := .tup [x1, x2]) (e2.free hT)
  exact .tup (SqT.of upd_same) (.cons ((q1.mono e1).mono sF) (.cons ((q2.mono e1).mono sF) .nil))
theorem itok_z3 {xs ys us : List V} {es fs : List PyData} {G : Hp → Prop} (hx : DVs K F xs ds) (hy : DVs K F ys es) (hu : DVs K F us fs) (hG : ∀ H, Same F H → G H) : ItOk K (VX.Iz3 xs ys us G) F (zip3D ds es fs) := by
  have hl : (zip3D ds es fs).length = min (min xs.length ys.length) us.length := by rw [zip3D_length, hx.length, hy.length, hu.length]
  refine ⟨_, _, by rw [hl]; exact VX.walk_z3, fun H e => hG H e, fun i H x H' F2 d e1 e2 hd y => ?_⟩
  obtain ⟨T, x1, x2, x3, rfl, hT, rfl, g1, g2, g3⟩ := y
  obtain ⟨a, b, c, rfl, ha, hb, hc⟩ := zip3D_get hd
  obtain ⟨d1, p1, q1⟩ := hx.got g1
  obtain ⟨d2, p2, q2⟩ := hy.got g2
  obtain ⟨d3, p3, q3⟩ := hu.got g3
  rw [p1] at ha
  rw [p2] at hb
  rw [p3] at hc
  cases ha
  cases hb
  cases hc
  refine ⟨upd F2 T (.tup [x1, x2, x3]), Ext.new e2 hT, ?_⟩
  have sF := same_new (o := .tup [x1, x2, x3]) (e2.free hT)
  exact .tup (SqT.of upd_same) (.cons ((q1.mono e1).mono sF) (.cons ((q2.mono e1).mono sF) (.cons ((q3.mono e1).mono sF) .nil)))
end
def mZip2 (ma : MA) : MI := fun S => match ma S with
  | some ([.v a, .v b], S1) => match seqD a, seqD b with
    | some xs, some ys => some (zip2D xs ys, S1)
    | _, _ => none
  | _ => none
def mZip3 (ma : MA) : MI := fun S => match ma S with
  | some ([.v a, .v b, .v c], S1) => match seqD a, seqD b, seqD c with
    | some xs, some ys, some us => some (zip3D xs ys us, S1)
    | _, _, _ => none
  | _ => none
section
variable {X : Cx} {e e2 e3 : Expr} {mas : MA} {pos p tpos : Pos} {elts : List Expr} {kk : Nat}
theorem ji_zip2 (hm : X.mg "zip" = none) (ha : JA X [e, e2] mas) (hg : Gl X "zip" := by rfl)
    (hs : starEach [e, e2] X.env = (false, eval e X.env) :: starEach [e2] X.env := by rfl) (hpl : (backTo pos (starEach [e2] X.env)).any (·.1) = false := by rfl) : JI X (.Tuple elts kk tpos) (.Call (.Name "zip" p) [e, e2] [] pos) (mZip2 mas) := by
  obtain ⟨t, pa, s⟩ := ha.ex
  refine ⟨_, VX.pi_z2 hg hm pa hs hpl, fun P F0 qc F cell S σ H R ds S' RR hm k => ?_⟩
  unfold mZip2 at hm
  split at hm
  · rename_i a b S1 e1
    split at hm
    · rename_i xs ys ea eb
      cases hm
      refine s P F0 qc F cell S σ H _ _ S' RR e1 fun vs F1 H1 f1 R1 q1 => ?_
      obtain ⟨v, ws, rfl, g1, w2, us, rfl, g2, g3⟩ := q1
      cases (show us = [] from g3)
      obtain ⟨p1, x1, G1, rfl, z1, d1, k1⟩ := sqz_of R1.fh (show DV X.K F1 v a from g1) ea
      obtain ⟨p2, x2, G2, rfl, z2, d2, k2⟩ := sqz_of R1.fh (show DV X.K F1 w2 b from g2) eb
      exact ⟨p1, p2, x1, x2, G1, G2, rfl, z1, z2, k _ F1 H1 f1 R1 (itok_z2 d1 d2 fun H e => ⟨k1 H e, k2 H e⟩)⟩
    · cases hm
  · cases hm
theorem ji_zip3 (hm : X.mg "zip" = none) (ha : JA X [e, e2, e3] mas) (hg : Gl X "zip" := by rfl)
    (hs : starEach [e, e2, e3] X.env = (false, eval e X.env) :: starEach [e2, e3] X.env := by rfl) (hpl : (backTo pos (starEach [e2, e3] X.env)).any (·.1) = false := by rfl) : JI X (.Tuple elts kk tpos) (.Call (.Name "zip" p) [e, e2, e3] [] pos) (mZip3 mas) := by
  obtain ⟨t, pa, s⟩ := ha.ex
  refine ⟨_, VX.pi_z3 hg hm pa hs hpl, fun P F0 qc F cell S σ H R ds S' RR hm k => ?_⟩
  unfold mZip3 at hm
  split at hm
  · rename_i a b c S1 e1
    split at hm
    · rename_i xs ys us ea eb ec
      cases hm
      refine s P F0 qc F cell S σ H _ _ S' RR e1 fun vs F1 H1 f1 R1 q1 => ?_
      obtain ⟨v, ws, rfl, g1, w2, us2, rfl, g2, w3, us3, rfl, g3, g4⟩ := q1
      cases (show us3 = [] from g4)
      obtain ⟨p1, x1, G1, rfl, z1, d1, k1⟩ := sqz_of R1.fh (show DV X.K F1 v a from g1) ea
      obtain ⟨p2, x2, G2, rfl, z2, d2, k2⟩ := sqz_of R1.fh (show DV X.K F1 w2 b from g2) eb
      obtain ⟨p3, x3, G3, rfl, z3, d3, k3⟩ := sqz_of R1.fh (show DV X.K F1 w3 c from g3) ec
      exact ⟨p1, p2, p3, x1, x2, x3, G1, G2, G3, rfl, z1, z2, z3, k _ F1 H1 f1 R1 (itok_z3 d1 d2 d3 fun H e => ⟨k1 H e, k2 H e, k3 H e⟩)⟩
    · cases hm
  · cases hm
end

/-! ### sum of lists and tuples; max, min of a list -/
def sumAF : List PyData → Option PyData
  | [.list ds] => (intsOf ds).map fun bs => .int bs.sum
  | [.tuple ds] => (intsOf ds).map fun bs => .int bs.sum
  | _ => none
def maxL : List Int → Int
  | [] => 0
  | [x] => x
  | x :: y :: r => if x ≤ maxL (y :: r) then maxL (y :: r) else x
def minL : List Int → Int
  | [] => 0
  | [x] => x
  | x :: y :: r => if minL (y :: r) ≤ x then minL (y :: r) else x
theorem maxL_spec : ∀ (xs : List Int), xs ≠ [] → maxL xs ∈ xs ∧ ∀ y ∈ xs, y ≤ maxL xs
  | [], h => absurd rfl h
  | [x], _ => ⟨by simp [maxL], by simp [maxL]⟩
  | x :: y :: r, _ => by
    obtain ⟨h1, h2⟩ := maxL_spec (y :: r) (by simp)
    unfold maxL
    split
    · rename_i h
      exact ⟨List.mem_cons_of_mem _ h1, fun z hz => (List.mem_cons.mp hz).elim (fun q => by rw [q]; exact h) (h2 z)⟩
    · rename_i h
      exact ⟨List.mem_cons_self, fun z hz => (List.mem_cons.mp hz).elim (fun q => by rw [q]; exact Int.le_refl _) fun q => by have := h2 z q; omega⟩
theorem minL_spec : ∀ (xs : List Int), xs ≠ [] → minL xs ∈ xs ∧ ∀ y ∈ xs, minL xs ≤ y
  | [], h => absurd rfl h
  | [x], _ => ⟨by simp [minL], by simp [minL]⟩
  | x :: y :: r, _ => by
    obtain ⟨h1, h2⟩ := minL_spec (y :: r) (by simp)
    unfold minL
    split
    · rename_i h
      exact ⟨List.mem_cons_of_mem _ h1, fun z hz => (List.mem_cons.mp hz).elim (fun q => by rw [q]; exact h) (h2 z)⟩
    · rename_i h
      exact ⟨List.mem_cons_self, fun z hz => (List.mem_cons.mp hz).elim (fun q => by rw [q]; exact Int.le_refl _) fun q => by have := h2 z q; omega⟩
def maxF : List PyData → Option PyData
  | [.list ds] => match intsOf ds with
    | some (n :: ns) => some (.int (maxL (n :: ns)))
    | _ => none
  | _ => none
def minF : List PyData → Option PyData
  | [.list ds] => match intsOf ds with
    | some (n :: ns) => some (.int (minL (n :: ns)))
    | _ => none
  | _ => none
section
variable {X : Cx} {K : PySem.W.Frag} {e : Expr} {mas : MA} {pos p : Pos}
theorem cs_sumA : CS K (fun xs H Q => rSum K xs H Q ∨ VX.rSumT K xs H Q) sumAF := by
  intro F H xs ds z Q fh hx hf k
  unfold sumAF at hf
  split at hf
  · obtain ⟨bs, hb, rfl⟩ := Option.map_eq_some_iff.mp hf
    obtain ⟨v, rfl, h1⟩ := dxs1 hx
    obtain ⟨a, vs, rfl, h2, h3⟩ := h1.list fh
    rw [intsOf_some hb] at h3
    rw [DVs.ints bs h3] at h2
    exact .inl ⟨a, bs, rfl, SqL.of h2, k _ _ _ (Ext.refl fh) (.int _)⟩
  · obtain ⟨bs, hb, rfl⟩ := Option.map_eq_some_iff.mp hf
    obtain ⟨v, rfl, h1⟩ := dxs1 hx
    obtain ⟨a, vs, rfl, h2, h3⟩ := h1.tuple
    rw [intsOf_some hb] at h3
    rw [DVs.ints bs h3] at h2
    exact .inr ⟨a, bs, rfl, sqT_mono fh h2, k _ _ _ (Ext.refl fh) (.int _)⟩
  · cases hf
theorem cs_max : CS K (rMax K) maxF := by
  intro F H xs ds z Q fh hx hf k
  unfold maxF at hf
  split at hf
  · split at hf
    · rename_i n ns hb
      cases hf
      obtain ⟨v, rfl, h1⟩ := dxs1 hx
      obtain ⟨a, vs, rfl, h2, h3⟩ := h1.list fh
      rw [intsOf_some hb] at h3
      rw [DVs.ints _ h3] at h2
      refine ⟨a, n :: ns, rfl, SqL.of h2, by simp, fun m hm hle => ?_⟩
      obtain ⟨g1, g2⟩ := maxL_spec (n :: ns) (by simp)
      have : m = maxL (n :: ns) := Int.le_antisymm (g2 m hm) (hle _ g1)
      rw [this]
      exact k _ _ _ (Ext.refl fh) (.int _)
    · cases hf
  · cases hf
theorem cs_min : CS K (rMin K) minF := by
  intro F H xs ds z Q fh hx hf k
  unfold minF at hf
  split at hf
  · split at hf
    · rename_i n ns hb
      cases hf
      obtain ⟨v, rfl, h1⟩ := dxs1 hx
      obtain ⟨a, vs, rfl, h2, h3⟩ := h1.list fh
      rw [intsOf_some hb] at h3
      rw [DVs.ints _ h3] at h2
      refine ⟨a, n :: ns, rfl, SqL.of h2, by simp, fun m hm hle => ?_⟩
      obtain ⟨g1, g2⟩ := minL_spec (n :: ns) (by simp)
      have : m = minL (n :: ns) := Int.le_antisymm (hle _ g1) (g2 m hm)
      rw [this]
      exact k _ _ _ (Ext.refl fh) (.int _)
    · cases hf
  · cases hf
theorem je_sumA (hc : X.calm = true) (hm : X.mg "sum" = none) (ha : JA X [e] mas) (hg : Gl X "sum" := by rfl) (he : starEach [e] X.env = (false, eval e X.env) :: starEach [] X.env := by rfl) (hpl : (backTo pos (starEach [] X.env)).any (·.1) = false := by rfl) : JE X (.Call (.Name "sum" p) [e] [] pos) (mCall sumAF mas) := je_callB (CallR.or (cr_sum hc) (VX.cr_sumT hc)) cs_sumA hm (by decide +kernel) ha hg (by decide) (by decide) he hpl
theorem je_max1 (hc : X.calm = true) (hm : X.mg "max" = none) (ha : JA X [e] mas) (hg : Gl X "max" := by rfl) (he : starEach [e] X.env = (false, eval e X.env) :: starEach [] X.env := by rfl) (hpl : (backTo pos (starEach [] X.env)).any (·.1) = false := by rfl) : JE X (.Call (.Name "max" p) [e] [] pos) (mCall maxF mas) := je_callB (cr_max hc) cs_max hm (by decide +kernel) ha hg (by decide) (by decide) he hpl
theorem je_min1 (hc : X.calm = true) (hm : X.mg "min" = none) (ha : JA X [e] mas) (hg : Gl X "min" := by rfl) (he : starEach [e] X.env = (false, eval e X.env) :: starEach [] X.env := by rfl) (hpl : (backTo pos (starEach [] X.env)).any (·.1) = false := by rfl) : JE X (.Call (.Name "min" p) [e] [] pos) (mCall minF mas) := je_callB (cr_min hc) cs_min hm (by decide +kernel) ha hg (by decide) (by decide) he hpl
end

/-! ### (*e, ..), [*e, ..] -/
def aStar (me : ME) (ma : MA) : MA := fun S => match me S with
  | none => none
  | some (r, S1) => match (deref S1 r).bind seqD with
    | none => none
    | some ds => match ma S1 with
      | none => none
      | some (rs, S2) => some (ds.map .v ++ rs, S2)
theorem stables_app : ∀ (ds : List PyData) (rs : List SV), stables (ds.map .v ++ rs) = (stables rs).map (ds ++ ·)
  | [], rs => by
    show stables rs = _
    cases stables rs <;> rfl
  | d :: ds, rs => by
    show (match stable (.v d), stables (ds.map .v ++ rs) with
      | some d, some ds => some (d :: ds)
      | _, _ => none) = _
    rw [stables_app ds rs]
    cases stables rs <;> rfl
section
variable {X : Cx} {e : Expr} {es : List Expr} {me : ME} {mas : MA} {p : Pos}
theorem vrs_data {K : PySem.W.Frag} {F : Hp} {cell : Nat → Addr} : ∀ {vs : List V} {ds : List PyData} {rs : List SV} {ws : List V}, DVs K F vs ds → VRs K F cell rs ws → VRs K F cell (ds.map .v ++ rs) (vs ++ ws)
  | _, _, _, _, .nil, h => h
  | _, _, _, _, .cons h t, r => ⟨_, _, rfl, h, vrs_data t r⟩
theorem ja_star (he : JE X e me) (hr : JA X es mas) (hs : starEach (.Starred e p :: es) X.env = (true, eval e X.env) :: starEach es X.env := by rfl) : JA X (.Starred e p :: es) (aStar me mas) := by
  obtain ⟨te, pe, se⟩ := he.ex
  obtain ⟨tr, pr, sr⟩ := hr.ex
  refine ⟨_, StX.pa_star pe pr hs, fun P F0 qc F cell S σ H Q rs S' R hm k => ?_⟩
  unfold aStar at hm
  split at hm
  · cases hm
  · rename_i r S1 e1
    split at hm
    · cases hm
    · rename_i ds e2
      split at hm
      · cases hm
      · rename_i rs' S2 e3
        cases hm
        obtain ⟨d, hd, hs⟩ := Option.bind_eq_some_iff.mp e2
        refine se P F0 qc F cell S σ H _ r S1 R e1 fun v F1 H1 f1 R1 q1 => ?_
        have dx := R1.deref q1 hd
        cases d with
        | list xs =>
          cases hs
          obtain ⟨a, vs, rfl, h2, h3⟩ := dx.list R1.fh
          exact ⟨a, vs, rfl, .inr (SqL.of h2), sr P F0 qc F1 cell S1 σ H1 _ rs' S' R1 e3 fun ys F2 H2 f2 R2 q2 => k _ F2 H2 (f1.trans f2) R2 (vrs_data (h3.mono f2) q2)⟩
        | tuple xs =>
          cases hs
          obtain ⟨a, vs, rfl, h2, h3⟩ := dx.tuple
          exact ⟨a, vs, rfl, .inl (sqT_mono R1.fh h2), sr P F0 qc F1 cell S1 σ H1 _ rs' S' R1 e3 fun ys F2 H2 f2 R2 q2 => k _ F2 H2 (f1.trans f2) R2 (vrs_data (h3.mono f2) q2)⟩
        | _ => cases hs
end

/-! ### upper -/
def upperF (a : Str) : Option PyData := if a.length ≤ 100000 then some (.str (Txt.upper a)) else none
section
variable {X : Cx} {K : PySem.W.Frag} {o : Expr} {mo : ME} {apos pos : Pos}
theorem ms_upper : MS0 K (fun x xs H Q => ∃ a, x = .str a ∧ xs = [] ∧ a.length ≤ 5592405 ∧ Q (.str (Txt.upper a)) H) upperF := by
  intro F H a z Q fh hz k
  unfold upperF at hz
  split at hz
  · rename_i hl
    cases hz
    exact ⟨a, rfl, rfl, Nat.le_trans hl (by decide), k _ _ _ (Ext.refl fh) (.str _)⟩
  · cases hz
theorem je_upper (ho : JE X o mo) (hbase : attributeBase o "upper" X.env (eval o X.env) = eval o X.env := by rfl) (hline : (apos.endLine == pos.line) = true := by rfl) :
    JE X (.Call (.Attribute o "upper" apos) [] [] pos) (mUn (onStr0 upperF) mo) := je_m0 PySem.F.slot_str_upper PySem.F.type_str_upper mt_upper ms_upper ho hbase hline
end

/-! ### match -/
def mPat (d : PyData) : List Str → Option Bool
  | [] => some false
  | z :: zs => match eqD d (.str z) with
    | some true => some true
    | some false => mPat d zs
    | none => none
def mCases (d : PyData) : List (Option (List Str) × MS) → MS
  | [] => fun S => some (.nx, S)
  | (none, m) :: _ => m
  | (some zs, m) :: r => fun S => match mPat d zs with
    | some true => m S
    | some false => mCases d r S
    | none => none
def mMatch (me : ME) (cs : List (Option (List Str) × MS)) : MS := fun S => match me S with
  | some (.v d, S1) => mCases d cs S1
  | _ => none
def SndPat (K : PySem.W.Frag) (t : VX.TPat) (zs : List Str) : Prop :=
  ∀ (F H : Hp) (v : V) (d : PyData) (Q : Bool → Hp → Prop) (b : Bool), Same F H → DV K F v d → mPat d zs = some b → (∀ F' H', Ext F H F' H' → Q b H') → t v H Q
structure JPs (X : Cx) (ps : List Pattern) (zs : List Str) : Prop where
  ex : ∃ t, VX.PFirst X ps t ∧ SndPat X.K t zs
structure JMC (X : Cx) (W : WX) (cs : List MatchCase) (ms : List (Option (List Str) × MS)) : Prop where
  ex : ∃ t, VX.PMC X cs t ∧ ∀ (P F0 : Hp) (qc : Nat → Addr) (F : Hp) (cell : Nat → Addr) (S : Sl) (σ : L2.St) (H : Hp) (D : Ends) (fl : Fl) (S' : Sl) (v : V) (d : PyData), RC X.K P F0 qc F cell S σ H → DV X.K F v d → mCases d ms S = some (fl, S') →
    (∀ F' cell' σ' H', Same F F' → RC X.K P F0 qc F' cell' S' σ' H' → FlK X.K W F' cell' fl D σ' H') → t v D σ H
section
variable {X : Cx} {W : WX} {k : Nat} {z : Str} {zs : List Str} {ps : List Pattern} {pos p1 p2 p3 : Pos} {cs : List MatchCase} {ms : List (Option (List Str) × MS)} {body : List Stmt} {mb : MS} {e : Expr} {me : ME}
theorem snd_patS {hu : X.A.units + 64 < cLine} {F H : Hp} {v : V} {d : PyData} {Q : Bool → Hp → Prop} {b : Bool} (fh : Same F H) (hd : DV X.K F v d) (h : eqD d (.str z) = some b) (kk : ∀ F' H', Ext F H F' H' → Q b H') : VX.tPatS (rEqA X.K) z v H Q := by
  have he : eqDD d (.str z) = some (.bool b) := by unfold eqDD; rw [h]; rfl
  refine ops_eq F H v (.str z) d (.str z) (.bool b) _ fh (.inl hd) (.inl (.str z)) he fun w F' H' ex dv => ?_
  cases dv
  exact ⟨b, rfl, kk F' H' ex⟩
theorem jps_nil : JPs X [] [] := ⟨_, VX.pfirst_nil, fun F H v d Q b fh hd h kk => by cases h; exact kk F H (Ext.refl fh)⟩
theorem jps_cons {j} (hr : Room k X.A) (h : JPs X ps zs) : JPs X (.MatchValue (.Constant (.str z) j p1) p2 :: ps) (z :: zs) := by
  obtain ⟨t, pt, st⟩ := h.ex
  refine ⟨_, VX.pfirst_cons (VX.ppat_str (op_eqA hr.units)) pt, fun F H v d Q b fh hd h kk => ?_⟩
  unfold mPat at h
  split at h
  · rename_i h1
    cases h
    refine snd_patS (hu := hr.units) fh hd h1 fun F' H' ex => ?_
    rw [if_pos rfl]
    exact kk F' H' ex
  · rename_i h1
    refine snd_patS (hu := hr.units) fh hd h1 fun F' H' ex => ?_
    rw [if_neg Bool.false_ne_true]
    exact st F' H' v d Q b ex.fh (hd.mono ex.f) h fun F2 H2 ex2 => kk F2 H2 (ex.trans ex2)
  · cases h
theorem jmc_nil : JMC X W [] [] := ⟨_, VX.pmc_nil, fun P F0 qc F cell S σ H D fl S' v d R hd hm k => by
  cases hm
  exact k F cell σ H (Same.refl _) R⟩
theorem jmc_any (hb : JB X W body mb) : JMC X W (⟨.MatchAs none none p1, none, body⟩ :: cs) ((none, mb) :: ms) := by
  obtain ⟨tb, pb, sb⟩ := hb.ex
  refine ⟨fun v D σ H => tb D σ H, ⟨fun pins s σ H v u D first I rv h => ?_⟩, fun P F0 qc F cell S σ H D fl S' v d R hd hm k => sb P F0 qc F cell S σ H D fl S' R hm k⟩
  refine wpAny_matchCases_cons (wpAny_matchPattern_Capture ?_)
  exact wpAny_assignInOrder_none (pb.run pins s σ H D I h)
theorem jmc_str {j} (hr : Room k X.A) (hb : JB X W body mb) (hc : JMC X W cs ms) : JMC X W (⟨.MatchValue (.Constant (.str z) j p1) p2, none, body⟩ :: cs) ((some [z], mb) :: ms) := by
  obtain ⟨tb, pb, sb⟩ := hb.ex
  obtain ⟨tc, pc, sc⟩ := hc.ex
  refine ⟨_, VX.pmc_cons (VX.ppat_str (op_eqA hr.units)) pb pc, fun P F0 qc F cell S σ H D fl S' v d R hd hm k => ?_⟩
  unfold mCases at hm
  split at hm
  · rename_i h1
    unfold mPat at h1
    split at h1
    · rename_i h2
      refine snd_patS (hu := hr.units) R.fh hd h2 fun F' H' ex => ?_
      rw [if_pos rfl]
      exact sb P F0 qc F' cell S σ H' D fl S' (R.ext ex) hm fun F2 c2 σ2 H2 f2 R2 => k F2 c2 σ2 H2 (ex.f.trans f2) R2
    · cases h1
    · cases h1
  · rename_i h1
    unfold mPat at h1
    split at h1
    · cases h1
    · rename_i h2
      refine snd_patS (hu := hr.units) R.fh hd h2 fun F' H' ex => ?_
      rw [if_neg Bool.false_ne_true]
      exact sc P F0 qc F' cell S σ H' D fl S' v d (R.ext ex) (hd.mono ex.f) hm fun F2 c2 σ2 H2 f2 R2 => k F2 c2 σ2 H2 (ex.f.trans f2) R2
    · cases h1
  · cases hm
theorem jmc_or (hp : JPs X ps zs) (hb : JB X W body mb) (hc : JMC X W cs ms) (hn : namesOfAll (ps.take 1) = [] := by rfl) : JMC X W (⟨.MatchOr ps p3, none, body⟩ :: cs) ((some zs, mb) :: ms) := by
  obtain ⟨tb, pb, sb⟩ := hb.ex
  obtain ⟨tc, pc, sc⟩ := hc.ex
  obtain ⟨tp, pp, sp⟩ := hp.ex
  refine ⟨_, VX.pmc_cons (VX.ppat_or pp hn) pb pc, fun P F0 qc F cell S σ H D fl S' v d R hd hm k => ?_⟩
  unfold mCases at hm
  split at hm
  · rename_i h1
    refine sp F H v d _ true R.fh hd h1 fun F' H' ex => ?_
    rw [if_pos rfl]
    exact sb P F0 qc F' cell S σ H' D fl S' (R.ext ex) hm fun F2 c2 σ2 H2 f2 R2 => k F2 c2 σ2 H2 (ex.f.trans f2) R2
  · rename_i h1
    refine sp F H v d _ false R.fh hd h1 fun F' H' ex => ?_
    rw [if_neg Bool.false_ne_true]
    exact sc P F0 qc F' cell S σ H' D fl S' v d (R.ext ex) (hd.mono ex.f) hm fun F2 c2 σ2 H2 f2 R2 => k F2 c2 σ2 H2 (ex.f.trans f2) R2
  · cases hm
theorem js_match (he : JE X e me) (hc : JMC X W cs ms) : JS X W (.Match e cs pos) (mMatch me ms) := by
  obtain ⟨te, pe, se⟩ := he.ex
  obtain ⟨tc, pc, sc⟩ := hc.ex
  refine ⟨_, VX.ps_match pe pc, fun P F0 qc F cell S σ H D fl S' R hm k => ?_⟩
  unfold mMatch at hm
  split at hm
  · rename_i d S1 e1
    refine se P F0 qc F cell S σ H _ _ S1 R e1 fun v F1 H1 f1 R1 q1 => ?_
    exact sc P F0 qc F1 cell S1 σ H1 D fl S' v d R1 q1 hm fun F2 c2 σ2 H2 f2 R2 => k F2 c2 σ2 H2 (f1.trans f2) R2
  · cases hm
end
end VL

set_option Elab.async false
set_option linter.all false
set_option maxRecDepth 100000
set_option maxHeartbeats 4000000
/-! VL24: written dicts with texts for keys; d.get(k, x). -/
namespace VL
open PySem PySem.Spec PyProof.Rows L2
def mPairs : List (Str × ME) → Sl → Option (List PyData × Sl)
  | [], S => some ([], S)
  | (_, m) :: r, S => match m S with
    | some (.v d, S1) => match mPairs r S1 with
      | some (ds, S2) => some (d :: ds, S2)
      | none => none
    | _ => none
def mDictS (ms : List (Str × ME)) : ME := fun S => match mPairs ms S with
  | some (ds, S1) => if (ms.map (·.1)).Nodup ∧ ms.length ≤ 15 then some (.v (.dict ((ms.map fun m => PyData.str m.1).zip ds)), S1) else none
  | none => none
structure JPairs (X : Cx) (pos : Pos) (ks : List (Option Expr)) (vs : List Expr) (ms : List (Str × ME)) : Prop where
  ex : ks.all (·.isSome) = true ∧ ks.length = vs.length ∧ ks.length = ms.length ∧ ∃ ts, PPs X pos ks vs ts ∧ ∀ (P F0 : Hp) (qc : Nat → Addr) (F : Hp) (cell : Nat → Addr) (S : Sl) (σ : L2.St) (H : Hp) (Q : List (V × V) → Hp → Prop) (ds : List PyData) (S' : Sl), RC X.K P F0 qc F cell S σ H → mPairs ms S = some (ds, S') →
    (∀ vs F' H', Same F F' → RC X.K P F0 qc F' cell S' σ H' → DVs X.K F' vs ds → Q ((ms.map fun m => V.str m.1).zip vs) H') → tPairs ts σ H Q
theorem mPairs_len : ∀ {ms : List (Str × ME)} {S S' : Sl} {ds : List PyData}, mPairs ms S = some (ds, S') → ds.length = ms.length
  | [], S, S', ds, h => by cases h; rfl
  | (z, m) :: r, S, S', ds, h => by
    unfold mPairs at h
    split at h
    · split at h
      · rename_i e
        cases h
        rw [List.length_cons, List.length_cons, mPairs_len e]
      · cases h
    · cases h
theorem putK_new {kvs : List (Key × V)} {k : Key} {v : V} (h : k ∉ kvs.map (·.1)) : putK kvs k v = kvs ++ [(k, v)] := by
  unfold putK
  rw [if_neg]
  intro q
  rw [List.any_eq_true] at q
  obtain ⟨p, hp, e⟩ := q
  exact h (by rw [← of_decide_eq_true e]; exact List.mem_map_of_mem hp)
theorem mergeK_nodup : ∀ (more kvs : List (Key × V)), (kvs.map (·.1) ++ more.map (·.1)).Nodup → mergeK kvs more = kvs ++ more
  | [], kvs, _ => by simp [mergeK]
  | (k, v) :: more, kvs, h => by
    have hk : k ∉ kvs.map (·.1) := fun q => by
      rw [List.nodup_append] at h
      exact h.2.2 _ q k (by simp) rfl
    show mergeK (putK kvs k v) more = _
    rw [putK_new hk, mergeK_nodup more (kvs ++ [(k, v)]) (by simpa [List.map_append, List.append_assoc] using h), List.append_assoc]
    rfl
section
variable {X : Cx} {pos p1 : Pos} {z : Str} {ks : List (Option Expr)} {vs : List Expr} {ms : List (Str × ME)} {e : Expr} {me : ME}
theorem jpr_nil : JPairs X pos [] [] [] := ⟨rfl, rfl, rfl, _, pps_nil, fun P F0 qc F cell S σ H Q ds S' R hm k => by
  cases hm
  exact k [] F H (Same.refl _) R .nil⟩
theorem jpr_cons {j} (he : JE X e me) (h : JPairs X pos ks vs ms) : JPairs X pos (some (.Constant (.str z) j p1) :: ks) (e :: vs) ((z, me) :: ms) := by
  obtain ⟨te, pe, se⟩ := he.ex
  obtain ⟨h1, h2, h3, ts, pt, st⟩ := h.ex
  refine ⟨by simpa using h1, by rw [List.length_cons, List.length_cons, h2], by rw [List.length_cons, List.length_cons, h3], _, pps_cons pe_str pe pt, fun P F0 qc F cell S σ H Q ds S' R hm k => ?_⟩
  unfold mPairs at hm
  split at hm
  · rename_i d S1 e1
    split at hm
    · rename_i ds' S2 e2
      cases hm
      show te σ H _
      refine se P F0 qc F cell S σ H _ _ S1 R e1 fun v F1 H1 f1 R1 q1 => ?_
      refine st P F0 qc F1 cell S1 σ H1 _ ds' S' R1 e2 fun vs' F2 H2 f2 R2 q2 => ?_
      exact k (v :: vs') F2 H2 (f1.trans f2) R2 (.cons (DV.mono f2 q1) q2)
    · cases hm
  · cases hm
theorem je_dictS (h : JPairs X pos ks vs ms) (h0 : ks ≠ []) : JE X (.Dict ks vs pos) (mDictS ms) := by
  obtain ⟨h1, h2, h3, ts, pt, st⟩ := h.ex
  by_cases h15 : ks.length ≤ 15
  · refine ⟨_, pe_disp pt h1 h2 h0 h15, fun P F0 qc F cell S σ H Q r S' R hm k => ?_⟩
    unfold mDictS at hm
    split at hm
    · rename_i ds S1 e1
      split at hm
      · rename_i hc
        cases hm
        intro p hp
        have hF0 : F0 p = none := (R.f0.trans R.fh).free hp
        have hP : P p = none := R.ph.free hp
        refine st (upd P p (.dK [])) F0 qc F cell S σ _ _ ds S' (R.lay hp) e1 fun vs' F1 H1 f1 R1 q1 => ?_
        have hl := mPairs_len e1
        have hl2 := q1.length
        have hk : ((ms.map fun m => V.str m.1).zip vs') = (((ms.map fun m => (Sum.inr m.1 : Key)).zip vs')).map fun kv => (kV kv.1, kv.2) := by
          have aux : ∀ (ms : List (Str × ME)) (vs' : List V), ((ms.map fun m => V.str m.1).zip vs') = (((ms.map fun m => (Sum.inr m.1 : Key)).zip vs')).map fun kv => (kV kv.1, kv.2) := by
            intro ms
            induction ms with
            | nil => intro vs'; rfl
            | cons m ms ih =>
              intro vs'
              cases vs' with
              | nil => rfl
              | cons v vs' =>
                simp only [List.map_cons, List.zip_cons_cons, ih vs']
                rfl
          exact aux ms vs'
        refine ⟨R1.laid_at, _, hk, by rw [List.length_zip, List.length_map]; omega, ?_⟩
        have hfst : (((ms.map fun m => (Sum.inr m.1 : Key)).zip vs')).map (·.1) = ms.map fun m => (Sum.inr m.1 : Key) := List.map_fst_zip (by rw [List.length_map]; omega)
        have hsnd : (((ms.map fun m => (Sum.inr m.1 : Key)).zip vs')).map (·.2) = vs' := List.map_snd_zip (by rw [List.length_map]; omega)
        have nd : (ms.map fun m => (Sum.inr m.1 : Key)).Nodup := by
          have := hc.1
          have e : (ms.map fun m => (Sum.inr m.1 : Key)) = (ms.map (·.1)).map Sum.inr := by rw [List.map_map]; rfl
          rw [e]
          exact List.Pairwise.map _ (fun a b hab q => hab (Sum.inr.inj q)) this
        rw [mergeK_nodup _ [] (by rw [List.map_nil, List.nil_append, hfst]; exact nd), List.nil_append]
        obtain ⟨R2, s2⟩ := R1.adopt (o' := .dK ((ms.map fun m => (Sum.inr m.1 : Key)).zip vs')) hF0 hP
        refine k _ _ _ (f1.trans s2) R2 ?_
        refine .dct (kvs := (ms.map fun m => (Sum.inr m.1 : Key)).zip vs') upd_same ?_ ?_
        · have e : ((ms.map fun m => (Sum.inr m.1 : Key)).zip vs').map (fun p => kV p.1) = (ms.map (·.1)).map V.str := by
            rw [show (fun p : Key × V => kV p.1) = kV ∘ (·.1) from rfl, ← List.map_map, hfst, List.map_map, List.map_map]
            rfl
          have e2 : (ms.map fun m => PyData.str m.1) = (ms.map (·.1)).map .str := by rw [List.map_map]; rfl
          rw [e, e2]
          exact DVs.ofStrs _
        · rw [hsnd]
          exact q1.mono s2
      · cases hm
    · cases hm
  · refine ⟨(fun σ H Q => False), ⟨fun pins s σ H Q I h => h.elim⟩, fun P F0 qc F cell S σ H Q r S' R hm k => ?_⟩
    exfalso
    unfold mDictS at hm
    split at hm
    · split at hm
      · rename_i hc
        omega
      · cases hm
    · cases hm
end
/-! ### d.get(k, x) -/
def keyB (z : Str) : PyData → Bool
  | .str y => decide (y = z)
  | _ => false
def dgetF (z : Str) : List (PyData × PyData) → Option PyData
  | [] => none
  | (k, v) :: r => if keyB z k = true then some v else dgetF z r
def mDGet2 (md me mx : ME) : ME := fun S => match md S with
  | some (.v (.dict es), S1) => match me S1 with
    | some (.v (.str z), S2) => match mx S2 with
      | some (.v x, S3) => some (.v ((dgetF z es).getD x), S3)
      | _ => none
    | _ => none
  | _ => none
section
variable {K : PySem.W.Frag} {F : Hp}
theorem dget_val (z : Str) : ∀ {kvs : List (Key × V)} {ks es : List PyData}, DVs K F (kvs.map fun p => kV p.1) ks → DVs K F (kvs.map fun p => p.2) es → (∃ v d, valV kvs (Sum.inr z) = some v ∧ dgetF z (ks.zip es) = some d ∧ DV K F v d) ∨ (valV kvs (Sum.inr z) = none ∧ dgetF z (ks.zip es) = none)
  | [], ks, es, h1, h2 => by
    cases h1
    cases h2
    exact .inr ⟨rfl, rfl⟩
  | (k, v) :: kvs, ks, es, h1, h2 => by
    cases h1 with
    | cons a1 b1 =>
      cases h2 with
      | cons a2 b2 =>
        rename_i k0 ks0 d0 es0
        show _ ∨ _
        have hk : keyB z k0 = decide (k = Sum.inr z) := by
          cases k with
          | inl i => cases a1; simp [keyB]
          | inr y =>
            cases a1
            show decide (y = z) = decide ((Sum.inr y : Key) = Sum.inr z)
            by_cases q : y = z
            · subst q; simp
            · rw [decide_eq_false q, decide_eq_false (fun w => q (Sum.inr.inj w))]
        by_cases q : k = Sum.inr z
        · refine .inl ⟨v, d0, valV_pos q, ?_, a2⟩
          simp only [List.zip_cons_cons, dgetF]
          rw [hk, decide_eq_true q]
          rfl
        · rw [valV_neg (p := (k, v)) q]
          simp only [List.zip_cons_cons, dgetF]
          rw [hk, decide_eq_false q, if_neg Bool.false_ne_true]
          exact dget_val z b1 b2
end
section
variable {X : Cx} {o e f : Expr} {md me mx : ME} {apos cpos : Pos} {k : Nat}
theorem je_dget2 (hr : Room k X.A) (ho : JE X o md) (he : JE X e me) (hf : JE X f mx)
    (base : attributeBase o "get" X.env (eval o X.env) = eval o X.env := by rfl)
    (few : ((backTo cpos (starEach [e, f] X.env)).all (fun x => !x.1) && (backToKw cpos (keywordEach [] X.env)).all (fun x => x.1.isSome) && decide (([e, f] : List Expr).length + ([] : List Keyword).length + (if ([] : List Keyword).isEmpty then 0 else 1) < 30)) = true := by rfl)
    (line : (apos.endLine == cpos.line) = true := by rfl) (trees : backTo cpos (starEach [e, f] X.env) = [(false, eval e X.env), (false, eval f X.env)] := by rfl) :
    JE X (.Call (.Attribute o "get" apos) [e, f] [] cpos) (mDGet2 md me mx) := by
  obtain ⟨to, po, so⟩ := ho.ex
  obtain ⟨te, pe, se⟩ := he.ex
  obtain ⟨tf, pf, sf⟩ := hf.ex
  refine ⟨_, pe_dget2 (by have := hr.units; omega) po pe pf ⟨base, few, line, trees⟩, fun P F0 qc F cell S σ H Q r S' R hm k => ?_⟩
  unfold mDGet2 at hm
  split at hm
  · rename_i es S1 e1
    split at hm
    · rename_i z S2 e2
      split at hm
      · rename_i x S3 e3
        cases hm
        refine so P F0 qc F cell S σ H _ _ S1 R e1 fun v F1 H1 f1 R1 q1 => ?_
        cases (show DV X.K F1 v (.dict es) from q1) with
        | dct h1 h2 h3 =>
          rename_i a kvs ks vs
          refine ⟨a, rfl, .inl ⟨kvs, .inl (R1.fh _ _ h1)⟩, ?_⟩
          refine se P F0 qc F1 cell S1 σ H1 _ _ S2 R1 e2 fun y F2 H2 f2 R2 q2 => ?_
          cases (show DV X.K F2 y (.str z) from q2)
          refine sf P F0 qc F2 cell S2 σ H2 _ _ S' R2 e3 fun w F3 H3 f3 R3 q3 => ?_
          have f13 := f2.trans f3
          rcases dget_val z (h2.mono f13) (h3.mono f13) with ⟨v', d', g1, g2, g3⟩ | ⟨g1, g2⟩
          · refine ⟨some v', ?_, ?_⟩
            · rw [← g1]
              exact DGet.k (k := Sum.inr z) (R3.fh _ _ (f13 _ _ h1))
            · rw [g2] at k
              exact k _ F3 H3 (f1.trans f13) R3 g3
          · refine ⟨none, ?_, ?_⟩
            · rw [← g1]
              exact DGet.k (k := Sum.inr z) (R3.fh _ _ (f13 _ _ h1))
            · rw [g2] at k
              exact k _ F3 H3 (f1.trans f13) R3 q3
      · cases hm
    · cases hm
  · cases hm
end
end VL

set_option Elab.async false
set_option linter.all false
set_option maxRecDepth 100000
set_option maxHeartbeats 4000000
/-! VM1: lists within lists that are changed: a memory of a def's own beside its slots. -/
namespace VL
open PySem PySem.Spec PyProof.Rows L2
inductive Itm where
  | d (x : PyData) | p (k : Nat)
inductive Node where
  | lst (its : List Itm)
structure Ent where
  a : Addr
  nd : Node
abbrev Mem := List Ent
def ItR (K : PySem.W.Frag) (F : Hp) (M : Mem) : Itm → V → Prop
  | .d x, v => DV K F v x
  | .p k, v => ∃ e, M[k]? = some e ∧ v = .ref e.a
def ItsR (K : PySem.W.Frag) (F : Hp) (M : Mem) : List Itm → List V → Prop
  | [], vs => vs = []
  | i :: is, vs => ∃ v ws, vs = v :: ws ∧ ItR K F M i v ∧ ItsR K F M is ws
def NodeOK (K : PySem.W.Frag) (F : Hp) (M : Mem) (P : Hp) (e : Ent) : Prop :=
  match e.nd with
  | .lst its => ∃ vs, P e.a = some (.lst vs) ∧ ItsR K F M its vs
structure MOk (K : PySem.W.Frag) (P P' F0 F : Hp) (M : Mem) : Prop where
  sub : Same P P'
  fresh : ∀ (k : Nat) (e : Ent), M[k]? = some e → P e.a = none ∧ F0 e.a = none
  inj : ∀ (j k : Nat) (e f : Ent), M[j]? = some e → M[k]? = some f → e.a = f.a → j = k
  node : ∀ (k : Nat) (e : Ent), M[k]? = some e → NodeOK K F M P' e
def RM (K : PySem.W.Frag) (P F0 : Hp) (qc : Nat → Addr) (F : Hp) (cell : Nat → Addr) (S : Sl) (M : Mem) (σ : L2.St) (H : Hp) : Prop :=
  ∃ P', MOk K P P' F0 F M ∧ RC K P' F0 qc F cell S σ H
section
variable {K : PySem.W.Frag} {P P' F0 F F' : Hp} {qc cell : Nat → Addr} {S : Sl} {M M' : Mem} {σ : L2.St} {H H' : Hp} {p : Addr} {its : List Itm} {vs : List V}
theorem ItR.mono (e : Same F F') (hM : ∀ (k : Nat) (x : Ent), M[k]? = some x → ∃ y, M'[k]? = some y ∧ y.a = x.a) : ∀ {i : Itm} {v : V}, ItR K F M i v → ItR K F' M' i v
  | .d x, v, h => DV.mono e h
  | .p k, v, ⟨x, h1, h2⟩ => by
    obtain ⟨y, h3, h4⟩ := hM k x h1
    exact ⟨y, h3, by rw [h2, h4]⟩
theorem ItsR.mono (e : Same F F') (hM : ∀ (k : Nat) (x : Ent), M[k]? = some x → ∃ y, M'[k]? = some y ∧ y.a = x.a) : ∀ {is : List Itm} {vs : List V}, ItsR K F M is vs → ItsR K F' M' is vs
  | [], vs, h => h
  | i :: is, vs, ⟨v, ws, h1, h2, h3⟩ => ⟨v, ws, h1, h2.mono e hM, ItsR.mono e hM h3⟩
theorem ItsR.length : ∀ {is : List Itm} {vs : List V}, ItsR K F M is vs → vs.length = is.length
  | [], vs, h => by rw [show vs = [] from h]; rfl
  | i :: is, vs, ⟨v, ws, h1, h2, h3⟩ => by rw [h1, List.length_cons, List.length_cons, ItsR.length h3]
theorem ItsR.append : ∀ {is js : List Itm} {vs ws : List V}, ItsR K F M is vs → ItsR K F M js ws → ItsR K F M (is ++ js) (vs ++ ws)
  | [], js, vs, ws, h, h2 => by rw [show vs = [] from h]; exact h2
  | i :: is, js, vs, ws, ⟨v, us, h1, h3, h4⟩, h2 => ⟨v, us ++ ws, by rw [h1]; rfl, h3, ItsR.append h4 h2⟩
theorem ItsR.get : ∀ {is : List Itm} {vs : List V} {j : Nat} {i : Itm}, ItsR K F M is vs → is[j]? = some i → ∃ v, vs[j]? = some v ∧ ItR K F M i v
  | [], vs, j, i, h, e => by simp at e
  | i0 :: is, vs, 0, i, ⟨v, us, h1, h3, h4⟩, e => by
    simp at e
    subst e
    exact ⟨v, by rw [h1]; rfl, h3⟩
  | i0 :: is, vs, j + 1, i, ⟨v, us, h1, h3, h4⟩, e => by
    obtain ⟨u, h5, h6⟩ := ItsR.get h4 (j := j) (i := i) (by simpa using e)
    exact ⟨u, by rw [h1]; simpa using h5, h6⟩
theorem ItsR.set {i : Itm} {v : V} (h : ItR K F M i v) : ∀ {is : List Itm} {vs : List V} (j : Nat), ItsR K F M is vs → ItsR K F M (is.set j i) (vs.set j v)
  | [], vs, j, e => by rw [show vs = [] from e]; rfl
  | i0 :: is, vs, 0, ⟨w, us, h1, h3, h4⟩ => ⟨v, us, by rw [h1]; rfl, h, h4⟩
  | i0 :: is, vs, j + 1, ⟨w, us, h1, h3, h4⟩ => ⟨w, us.set j v, by rw [h1]; rfl, h3, ItsR.set h j h4⟩
theorem ItsR.take : ∀ {is : List Itm} {vs : List V} (n : Nat), ItsR K F M is vs → ItsR K F M (is.take n) (vs.take n)
  | [], vs, n, e => by rw [show vs = [] from e]; simp; rfl
  | i0 :: is, vs, 0, h => rfl
  | i0 :: is, vs, n + 1, ⟨w, us, h1, h3, h4⟩ => ⟨w, us.take n, by rw [h1]; rfl, h3, ItsR.take n h4⟩
theorem ItsR.drop : ∀ {is : List Itm} {vs : List V} (n : Nat), ItsR K F M is vs → ItsR K F M (is.drop n) (vs.drop n)
  | [], vs, n, e => by rw [show vs = [] from e]; simp; rfl
  | i0 :: is, vs, 0, h => h
  | i0 :: is, vs, n + 1, ⟨w, us, h1, h3, h4⟩ => by rw [h1]; exact ItsR.drop n h4
theorem ItsR.data : ∀ {ds : List PyData} {vs : List V}, DVs K F vs ds → ItsR K F M (ds.map .d) vs
  | _, _, .nil => rfl
  | _, _, .cons h t => ⟨_, _, rfl, h, ItsR.data t⟩
/-- the addresses stay -/
def SameA (M M' : Mem) : Prop := ∀ (k : Nat) (x : Ent), M[k]? = some x → ∃ y, M'[k]? = some y ∧ y.a = x.a
theorem SameA.refl (M : Mem) : SameA M M := fun k x h => ⟨x, h, rfl⟩
theorem NodeOK.mono {e : Ent} (f : Same F F') (hM : SameA M M') (h : NodeOK K F M P e) (hp : ∀ o, P e.a = some o → P' e.a = some o) : NodeOK K F' M' P' e := by
  obtain ⟨a, nd⟩ := e
  cases nd with
  | lst its =>
    obtain ⟨vs, h1, h2⟩ := h
    exact ⟨vs, hp _ h1, h2.mono f hM⟩
theorem MOk.mono (m : MOk K P P' F0 F M) (f : Same F F') : MOk K P P' F0 F' M := ⟨m.sub, m.fresh, m.inj, fun k e h => (m.node k e h).mono f (SameA.refl M) fun _ x => x⟩
theorem MOk.at (m : MOk K P P' F0 F M) {k : Nat} {e : Ent} (h : M[k]? = some e) : ∃ o, P' e.a = some o := by
  have := m.node k e h
  unfold NodeOK at this
  split at this
  obtain ⟨vs, h1, _⟩ := this
  exact ⟨_, h1⟩
theorem MOk.lst (m : MOk K P P' F0 F M) {k : Nat} {e : Ent} {its : List Itm} (h : M[k]? = some e) (hn : e.nd = .lst its) : ∃ vs, P' e.a = some (.lst vs) ∧ ItsR K F M its vs := by
  have := m.node k e h
  unfold NodeOK at this
  rw [hn] at this
  exact this
theorem RM.nil (R : RC K P F0 qc F cell S σ H) : RM K P F0 qc F cell S [] σ H := ⟨P, ⟨Same.refl _, fun k e h => by simp at h, fun j k e f h => by simp at h, fun k e h => by simp at h⟩, R⟩
/-- ordinary things happened -/
theorem MOk.rm (m : MOk K P P' F0 F M) (f : Same F F') (R : RC K P' F0 qc F' cell S σ H) : RM K P F0 qc F' cell S M σ H := ⟨P', m.mono f, R⟩
theorem RC.sub (R : RC K P' F0 qc F cell S σ H) (s : Same P P') : RC K P F0 qc F cell S σ H where
  len := R.len
  f0 := R.f0
  fh := R.fh
  ph := s.trans R.ph
  fr := fun b z => by
    rcases R.fr b z with z | z
    · exact .inl z
    · exact .inr (s.free z)
  vl := R.vl
  sc := R.sc
  cl := fun i x xs h hx => by
    obtain ⟨h1, h2, h3, h4⟩ := R.cl i x xs h hx
    exact ⟨h1, h2, s.free h3, h4⟩
  qs := R.qs
  inj := R.inj
/-- a new list -/
theorem RM.alloc (m : MOk K P P' F0 F M) (R : RC K P' F0 qc F cell S σ H) (hp : H p = none) (hv : ItsR K F M its vs) : RM K P F0 qc F cell S (M ++ [⟨p, .lst its⟩]) σ (upd H p (.lst vs)) := by
  have nP' : P' p = none := R.ph.free hp
  have ne : ∀ {k : Nat} {e : Ent}, M[k]? = some e → e.a ≠ p := fun h q => by
    obtain ⟨o, ho⟩ := m.at h
    rw [q, nP'] at ho
    cases ho
  have sA : SameA M (M ++ [⟨p, .lst its⟩]) := fun k x h => ⟨x, by rw [List.getElem?_append_left (List.getElem?_eq_some_iff.mp h).1]; exact h, rfl⟩
  have look : ∀ {k : Nat} {e : Ent}, (M ++ [⟨p, .lst its⟩])[k]? = some e → M[k]? = some e ∨ (k = M.length ∧ e = ⟨p, .lst its⟩) := fun {k e} h => by
    by_cases q : k < M.length
    · rw [List.getElem?_append_left q] at h
      exact .inl h
    · rw [List.getElem?_append_right (by omega)] at h
      cases hk : k - M.length with
      | zero =>
        rw [hk] at h
        simp at h
        exact .inr ⟨by omega, h.symm⟩
      | succ j => rw [hk] at h; simp at h
  refine ⟨upd P' p (.lst vs), ⟨fun b o h => ?_, fun k e h => ?_, fun j k e f h1 h2 h3 => ?_, fun k e h => ?_⟩, R.lay hp⟩
  · have : b ≠ p := fun q => by
      have := m.sub _ _ h
      rw [q, nP'] at this
      cases this
    rw [upd_ne this]
    exact m.sub _ _ h
  · rcases look h with h | ⟨_, rfl⟩
    · exact m.fresh k e h
    · exact ⟨m.sub.free nP', (R.f0.trans R.fh).free hp⟩
  · rcases look h1 with h1 | ⟨e1, rfl⟩
    · rcases look h2 with h2 | ⟨e2, rfl⟩
      · exact m.inj j k e f h1 h2 h3
      · exact absurd h3 (ne h1)
    · rcases look h2 with h2 | ⟨e2, rfl⟩
      · exact absurd h3.symm (ne h2)
      · rw [e1, e2]
  · rcases look h with h | ⟨_, rfl⟩
    · exact (m.node k e h).mono (Same.refl _) sA fun o q => by rw [upd_ne (ne h)]; exact q
    · exact ⟨vs, upd_same, hv.mono (Same.refl _) sA⟩
theorem upd_id {P : Hp} {a : Addr} {o : HO} (h : P a = some o) : upd P a o = P := by
  funext b
  by_cases q : b = a
  · subst q
    rw [upd_same, h]
  · rw [upd_ne q]
/-- list k is changed -/
theorem RM.change (m : MOk K P P' F0 F M) (R : RC K P' F0 qc F cell S σ H) {k : Nat} {e : Ent} (hk : M[k]? = some e) (hv : ItsR K F M its vs) : RM K P F0 qc F cell S (M.set k ⟨e.a, .lst its⟩) σ (upd H e.a (.lst vs)) := by
  obtain ⟨o, ho⟩ := m.at hk
  obtain ⟨g1, g2⟩ := m.fresh k e hk
  have hlt := (List.getElem?_eq_some_iff.mp hk).1
  have sA : SameA M (M.set k ⟨e.a, .lst its⟩) := fun j x h => by
    by_cases q : k = j
    · subst q
      rw [h] at hk
      cases hk
      exact ⟨⟨e.a, .lst its⟩, by rw [List.getElem?_set_self hlt], rfl⟩
    · exact ⟨x, by rw [List.getElem?_set_ne q]; exact h, rfl⟩
  have look : ∀ {j : Nat} {f : Ent}, (M.set k ⟨e.a, .lst its⟩)[j]? = some f → (j = k ∧ f = ⟨e.a, .lst its⟩) ∨ (j ≠ k ∧ M[j]? = some f) := fun {j f} h => by
    rcases get_set h with ⟨h1, h2, _⟩ | ⟨h1, h2⟩
    · exact .inl ⟨h1.symm, h2⟩
    · exact .inr ⟨fun q => h1 q.symm, h2⟩
  have R2 : RC K (upd P' e.a (.lst vs)) F0 qc F cell S σ (upd H e.a (.lst vs)) := RC.relay (o := o) (by rw [upd_id ho]; exact R) g2
  refine ⟨upd P' e.a (.lst vs), ⟨fun b u h => ?_, fun j f h => ?_, fun i j x y h1 h2 h3 => ?_, fun j f h => ?_⟩, R2⟩
  · have : b ≠ e.a := fun q => by rw [q, g1] at h; cases h
    rw [upd_ne this]
    exact m.sub _ _ h
  · rcases look h with ⟨_, rfl⟩ | ⟨_, h⟩
    · exact ⟨g1, g2⟩
    · exact m.fresh j f h
  · rcases look h1 with ⟨q1, rfl⟩ | ⟨q1, h1⟩
    · rcases look h2 with ⟨q2, rfl⟩ | ⟨q2, h2⟩
      · rw [q1, q2]
      · exact q1.trans (m.inj k j e y hk h2 h3)
    · rcases look h2 with ⟨q2, rfl⟩ | ⟨q2, h2⟩
      · exact (m.inj i k x e h1 hk h3).trans q2.symm
      · exact m.inj i j x y h1 h2 h3
  · rcases look h with ⟨_, rfl⟩ | ⟨q, h⟩
    · exact ⟨vs, upd_same, hv.mono (Same.refl _) sA⟩
    · refine (m.node j f h).mono (Same.refl _) sA fun u hu => ?_
      have : f.a ≠ e.a := fun z => q (m.inj j k f e h hk z)
      rw [upd_ne this]
      exact hu
/-! ### all is told: what a list holds as data -/
def dataI (f : Nat → Option PyData) : Itm → Option PyData
  | .d x => some x
  | .p k => f k
def dataIs (f : Nat → Option PyData) : List Itm → Option (List PyData)
  | [] => some []
  | i :: is => match dataI f i, dataIs f is with
    | some d, some ds => some (d :: ds)
    | _, _ => none
def dataOf (M : Mem) : Nat → Nat → Option PyData
  | 0, _ => none
  | n + 1, k => match M[k]? with
    | some ⟨_, .lst its⟩ => (dataIs (dataOf M n) its).map .list
    | none => none
/-- a result as data, everything told -/
def tellR (M : Mem) : SV → Option PyData
  | .v d => some d
  | .s (.ptr k a) => match M[k]? with
    | some e => if e.a = a then dataOf M (M.length + 1) k else none
    | none => none
  | _ => none
open Classical in
theorem RM.tell (m : MOk K P P' F0 F M) (R : RC K P' F0 qc F cell S σ H) : ∃ F', Same F F' ∧ RC K P F0 qc F' cell S σ H ∧ ∀ (r : SV) (v : V) (d : PyData), VR K F cell r v → tellR M r = some d → DV K F' v d := by
  have isM : ∀ b, (∃ (k : Nat) (e : Ent), M[k]? = some e ∧ e.a = b) → ∃ o, P' b = some o ∧ H b = some o ∧ P b = none ∧ F0 b = none := fun b ⟨k, e, h1, h2⟩ => by
    obtain ⟨o, ho⟩ := m.at h1
    obtain ⟨g1, g2⟩ := m.fresh k e h1
    rw [h2] at ho g1 g2
    exact ⟨o, ho, R.ph _ _ ho, g1, g2⟩
  let F' : Hp := fun b => if ∃ (k : Nat) (e : Ent), M[k]? = some e ∧ e.a = b then H b else F b
  have atM : ∀ {k : Nat} {e : Ent}, M[k]? = some e → F' e.a = H e.a := fun {k e} h => if_pos ⟨k, e, h, rfl⟩
  have untold : ∀ {b : Addr}, (∃ (k : Nat) (e : Ent), M[k]? = some e ∧ e.a = b) → F b = none := fun {b} h => by
    obtain ⟨o, g1, g2, g3, g4⟩ := isM b h
    cases q : F b with
    | none => rfl
    | some u =>
      rcases R.fr b (by rw [q]; simp) with z | z
      · exact absurd g4 z
      · rw [g1] at z; cases z
  have sF : Same F F' := fun b o h => by
    show (if _ then _ else _) = _
    rw [if_neg]
    · exact h
    · intro q
      rw [untold q] at h
      cases h
  have R0 := R.sub m.sub
  refine ⟨F', sF, ⟨R.len, R.f0.trans sF, fun b o h => ?_, m.sub.trans R.ph, fun b z => ?_, fun i d h => ?_, fun i o h => ?_, fun i x xs h hx => ?_, R.qs, R.inj⟩, fun r v d hr hd => ?_⟩
  · by_cases q : ∃ (k : Nat) (e : Ent), M[k]? = some e ∧ e.a = b
    · replace h : (if _ then _ else _) = _ := h
      rw [if_pos q] at h
      exact h
    · replace h : (if _ then _ else _) = _ := h
      rw [if_neg q] at h
      exact R.fh _ _ h
  · by_cases q : ∃ (k : Nat) (e : Ent), M[k]? = some e ∧ e.a = b
    · obtain ⟨o, g1, g2, g3, g4⟩ := isM b q
      exact .inr g3
    · have h : F' b = F b := if_neg q
      rw [h] at z
      exact R0.fr b z
  · obtain ⟨v, h1, h2⟩ := R.vl i d h
    exact ⟨v, h1, h2.mono sF⟩
  · obtain ⟨v, h1, h2⟩ := R.sc i o h
    exact ⟨v, h1, h2.mono sF⟩
  · obtain ⟨h1, h2, h3, vs, h4, h5⟩ := R.cl i x xs h hx
    refine ⟨h1, ?_, m.sub.free h3, vs, h4, h5.mono sF⟩
    show (if _ then _ else _) = _
    rw [if_neg]
    · exact h2
    · intro q
      obtain ⟨o, g1, _⟩ := isM _ q
      rw [h3] at g1
      cases g1
  · have key : ∀ (n k : Nat) (d : PyData) (e : Ent), dataOf M n k = some d → M[k]? = some e → DV K F' (.ref e.a) d := by
      intro n
      induction n with
      | zero => intro k d e h; cases h
      | succ n ih =>
        intro k d e h hk
        unfold dataOf at h
        obtain ⟨a, nd⟩ := e
        cases nd with
        | lst its =>
          rw [hk] at h
          simp only at h
          obtain ⟨ds, h1, rfl⟩ := Option.map_eq_some_iff.mp h
          obtain ⟨vs, h2, h3⟩ := m.lst hk rfl
          have hits : ∀ (its : List Itm) (vs : List V) (ds : List PyData), ItsR K F M its vs → dataIs (dataOf M n) its = some ds → DVs K F' vs ds := by
            intro its
            induction its with
            | nil =>
              intro vs ds hv hd
              cases hd
              rw [show vs = [] from hv]
              exact .nil
            | cons i its ih2 =>
              intro vs ds hv hd
              obtain ⟨v, ws, rfl, hi, hr⟩ := hv
              unfold dataIs at hd
              split at hd
              · rename_i d0 ds0 e1 e2
                cases hd
                refine .cons ?_ (ih2 ws ds0 hr e2)
                cases i with
                | d x =>
                  cases e1
                  exact DV.mono sF hi
                | p j =>
                  obtain ⟨f, g1, rfl⟩ := hi
                  exact ih j d0 f e1 g1
              · cases hd
          refine .lst ?_ (hits its vs ds h3 h1)
          rw [atM hk]
          exact R.ph _ _ h2
    cases r with
    | v x =>
      cases hd
      exact DV.mono sF hr
    | p i => cases hd
    | s o =>
      cases o with
      | ptr k a =>
        have hd : (match M[k]? with
          | some e => if e.a = a then dataOf M (M.length + 1) k else none
          | none => none) = some d := hd
        cases he : M[k]? with
        | none => rw [he] at hd; cases hd
        | some e =>
          rw [he] at hd
          replace hd : (if e.a = a then dataOf M (M.length + 1) k else none) = some d := hd
          split at hd
          · rename_i ha
            have : v = .ref a := hr
            rw [this, ← ha]
            exact key _ k d e hd he
          · cases hd
      | ns l => cases hd
      | ex c fs => cases hd
end
end VL

set_option Elab.async false
set_option linter.all false
set_option maxRecDepth 100000
set_option maxHeartbeats 4000000
/-! VM2: mirrors over slots and a memory, as what they bring about. -/
namespace VL
open PySem PySem.Spec PyProof.Rows L2
abbrev UM (α : Type) := Sl → Mem → (α → Sl → Mem → Prop) → Prop
abbrev UE := UM SV
abbrev UT := UM Bool
abbrev UA := UM (List SV)
abbrev US := UM Fl
def UMono {α : Type} (u : UM α) : Prop := ∀ S M Q Q', (∀ a S' M', Q a S' M' → Q' a S' M') → u S M Q → u S M Q'
def SndUE (K : PySem.W.Frag) (t : TE) (u : UE) : Prop :=
  ∀ (P F0 : Hp) (qc : Nat → Addr) (F : Hp) (cell : Nat → Addr) (S : Sl) (M : Mem) (σ : L2.St) (H : Hp) (Q : VK), RM K P F0 qc F cell S M σ H →
    u S M (fun r S' M' => ∀ v F' H', Same F F' → RM K P F0 qc F' cell S' M' σ H' → VR K F' cell r v → Q v H') → t σ H Q
def SndUT (K : PySem.W.Frag) (t : TT) (u : UT) : Prop :=
  ∀ (P F0 : Hp) (qc : Nat → Addr) (F : Hp) (cell : Nat → Addr) (S : Sl) (M : Mem) (σ : L2.St) (H : Hp) (Q : Bool → Hp → Prop), RM K P F0 qc F cell S M σ H →
    u S M (fun r S' M' => ∀ F' H', Same F F' → RM K P F0 qc F' cell S' M' σ H' → Q r H') → t σ H Q
def SndUA (K : PySem.W.Frag) (t : TA) (u : UA) : Prop :=
  ∀ (P F0 : Hp) (qc : Nat → Addr) (F : Hp) (cell : Nat → Addr) (S : Sl) (M : Mem) (σ : L2.St) (H : Hp) (Q : List V → Hp → Prop), RM K P F0 qc F cell S M σ H →
    u S M (fun rs S' M' => ∀ vs F' H', Same F F' → RM K P F0 qc F' cell S' M' σ H' → VRs K F' cell rs vs → Q vs H') → t σ H Q
def SndUS (K : PySem.W.Frag) (W : WX) (t : TS) (u : US) : Prop :=
  ∀ (P F0 : Hp) (qc : Nat → Addr) (F : Hp) (cell : Nat → Addr) (S : Sl) (M : Mem) (σ : L2.St) (H : Hp) (D : Ends), RM K P F0 qc F cell S M σ H →
    u S M (fun fl S' M' => ∀ F' cell' σ' H', Same F F' → RM K P F0 qc F' cell' S' M' σ' H' → FlK K W F' cell' fl D σ' H') → t D σ H
structure UEJ (X : Cx) (e : Expr) (u : UE) : Prop where
  mono : UMono u
  ex : ∃ t, PE X e t ∧ SndUE X.K t u
structure UTJ (X : Cx) (e : Expr) (u : UT) : Prop where
  mono : UMono u
  ex : ∃ t, PT X e t ∧ SndUT X.K t u
structure UWJ (X : Cx) (e : Expr) (u : UT) : Prop where
  mono : UMono u
  ex : ∃ t, PW X e t ∧ SndUT X.K t u
structure UAJ (X : Cx) (es : List Expr) (u : UA) : Prop where
  mono : UMono u
  ex : ∃ t, PA X es t ∧ SndUA X.K t u
structure USJ (X : Cx) (W : WX) (st : Stmt) (u : US) : Prop where
  mono : UMono u
  ex : ∃ t, PS X st t ∧ SndUS X.K W t u
structure UBJ (X : Cx) (W : WX) (st : List Stmt) (u : US) : Prop where
  mono : UMono u
  ex : ∃ t, PSs X st t ∧ SndUS X.K W t u
/-- the ordinary ones -/
def uL {α : Type} (m : Sl → Option (α × Sl)) : UM α := fun S M Q => ∃ r S', m S = some (r, S') ∧ Q r S' M
theorem uL_mono {α : Type} (m : Sl → Option (α × Sl)) : UMono (uL m) := fun S M Q Q' k ⟨r, S', e, q⟩ => ⟨r, S', e, k _ _ _ q⟩
section
variable {X : Cx} {W : WX} {e a b c : Expr} {es rest : List Expr} {st : Stmt} {sts bs : List Stmt} {pos pos' : Pos}
theorem ue_l {m : ME} (h : JE X e m) : UEJ X e (uL m) := by
  obtain ⟨t, p, s⟩ := h.ex
  refine ⟨uL_mono m, t, p, fun P F0 qc F cell S M σ H Q ⟨P', mo, R⟩ ⟨r, S', e1, k⟩ => ?_⟩
  exact s P' F0 qc F cell S σ H Q r S' R e1 fun v F' H' f R' q => k v F' H' f (mo.rm f R') q
theorem ut_l {m : MT} (h : JT X e m) : UTJ X e (uL m) := by
  obtain ⟨t, p, s⟩ := h.ex
  refine ⟨uL_mono m, t, p, fun P F0 qc F cell S M σ H Q ⟨P', mo, R⟩ ⟨r, S', e1, k⟩ => ?_⟩
  exact s P' F0 qc F cell S σ H Q r S' R e1 fun F' H' f R' => k F' H' f (mo.rm f R')
theorem us_l {m : MS} (h : JS X W st m) : USJ X W st (uL m) := by
  obtain ⟨t, p, s⟩ := h.ex
  refine ⟨uL_mono m, t, p, fun P F0 qc F cell S M σ H D ⟨P', mo, R⟩ ⟨r, S', e1, k⟩ => ?_⟩
  exact s P' F0 qc F cell S σ H D r S' R e1 fun F' c' σ' H' f R' => k F' c' σ' H' f (mo.rm f R')
theorem ub_l {m : MS} (h : JB X W sts m) : UBJ X W sts (uL m) := by
  obtain ⟨t, p, s⟩ := h.ex
  refine ⟨uL_mono m, t, p, fun P F0 qc F cell S M σ H D ⟨P', mo, R⟩ ⟨r, S', e1, k⟩ => ?_⟩
  exact s P' F0 qc F cell S σ H D r S' R e1 fun F' c' σ' H' f R' => k F' c' σ' H' f (mo.rm f R')
/-! ### expressions -/
def uBin (f : PyData → PyData → Option PyData) (ua ub : UE) : UE := fun S M Q => ua S M fun r1 S1 M1 => ub S1 M1 fun r2 S2 M2 => ∃ d e z, deref S2 r1 = some d ∧ deref S2 r2 = some e ∧ f d e = some z ∧ Q (.v z) S2 M2
theorem VR.mono2 {K : PySem.W.Frag} {F F' : Hp} {cell : Nat → Addr} (e : Same F F') {r : SV} {v : V} (h : VR K F cell r v) : VR K F' cell r v := VR.mono e h
theorem ue_bin_snd {K : PySem.W.Frag} {r : R2} {f : PyData → PyData → Option PyData} {ta tb : TE} {ua ub : UE} (hs : OpS K r f) (ma : UMono ua) (mb : UMono ub) (sa : SndUE K ta ua) (sb : SndUE K tb ub) : SndUE K (tOp r ta tb) (uBin f ua ub) := by
  intro P F0 qc F cell S M σ H Q R h
  refine sa P F0 qc F cell S M σ H _ R (ma _ _ _ _ (fun r1 S1 M1 h1 v1 F1 H1 f1 R1 q1 => ?_) h)
  refine sb P F0 qc F1 cell S1 M1 σ H1 _ R1 (mb _ _ _ _ (fun r2 S2 M2 h2 v2 F2 H2 f2 R2 q2 => ?_) h1)
  obtain ⟨d, e, z, hd, he, hz, k⟩ := h2
  obtain ⟨P', mo, RR⟩ := R2
  refine hs F2 H2 v1 v2 d e z Q RR.fh (RR.deref (q1.mono f2) hd) (RR.deref q2 he) hz fun v F' H' ex dv => ?_
  exact k v F' H' ((f1.trans f2).trans ex.f) (mo.rm ex.f (RR.ext ex)) dv
theorem uBin_mono {f : PyData → PyData → Option PyData} {ua ub : UE} (ma : UMono ua) (mb : UMono ub) : UMono (uBin f ua ub) := fun S M Q Q' k h => ma _ _ _ _ (fun r1 S1 M1 h1 => mb _ _ _ _ (fun r2 S2 M2 ⟨d, e, z, h2, h3, h4, q⟩ => ⟨d, e, z, h2, h3, h4, k _ _ _ q⟩) h1) h
theorem ue_bin {r : R2} {f : PyData → PyData → Option PyData} {op : Operator} {ua ub : UE} (ho : OpR X (binaryOp op) r) (hs : OpS X.K r f) (ha : UEJ X a ua) (hb : UEJ X b ub) : UEJ X (.BinOp a op b pos) (uBin f ua ub) := by
  obtain ⟨ta, pa, sa⟩ := ha.ex
  obtain ⟨tb, pb, sb⟩ := hb.ex
  exact ⟨uBin_mono ha.mono hb.mono, _, pe_op ho pa pb, ue_bin_snd hs ha.mono hb.mono sa sb⟩
/-- a test of a truth -/
def uVal (u : UE) : UT := fun S M Q => u S M fun r S' M' => ∃ b, r = .v (.bool b) ∧ Q b S' M'
theorem uVal_mono {u : UE} (m : UMono u) : UMono (uVal u) := fun S M Q Q' k h => m _ _ _ _ (fun r S' M' ⟨b, e, q⟩ => ⟨b, e, k _ _ _ q⟩) h
theorem ut_test_snd {K : PySem.W.Frag} {t : TE} {u : UE} (m : UMono u) (s : SndUE K t u) : SndUT K (tTest t) (uVal u) := by
  intro P F0 qc F cell S M σ H Q R h
  refine s P F0 qc F cell S M σ H _ R (m _ _ _ _ (fun r S' M' h1 v F' H' f R' q => ?_) h)
  obtain ⟨b, rfl, k⟩ := h1
  cases (show DV K F' v (.bool b) from q)
  exact ⟨b, rfl, k F' H' f R'⟩
theorem ut_cmp {r : R2} {f : PyData → PyData → Option PyData} {op : CmpOp} {ua ub : UE} (ho : OpR X (compareOp op) r) (hs : OpS X.K r f) (hm : behindInMarks op b = false) (ha : UEJ X a ua) (hb : UEJ X b ub) : UTJ X (.Compare a [op] [b] pos) (uVal (uBin f ua ub)) := by
  obtain ⟨ta, pa, sa⟩ := ha.ex
  obtain ⟨tb, pb, sb⟩ := hb.ex
  exact ⟨uVal_mono (uBin_mono ha.mono hb.mono), _, pt_cmpR ho pa pb hm, ut_test_snd (uBin_mono ha.mono hb.mono) (ue_bin_snd hs ha.mono hb.mono sa sb)⟩
theorem ut_lt {ua ub : UE} (ha : UEJ X a ua) (hb : UEJ X b ub) : UTJ X (.Compare a [.Lt] [b] pos) (uVal (uBin ltD ua ub)) := ut_cmp op_ltA ops_lt (nomark _) ha hb
theorem ut_le {ua ub : UE} (ha : UEJ X a ua) (hb : UEJ X b ub) : UTJ X (.Compare a [.LtE] [b] pos) (uVal (uBin leD ua ub)) := ut_cmp op_leA ops_le (nomark _) ha hb
theorem ut_gt {ua ub : UE} (ha : UEJ X a ua) (hb : UEJ X b ub) : UTJ X (.Compare a [.Gt] [b] pos) (uVal (uBin gtD ua ub)) := ut_cmp op_gtA ops_gt (nomark _) ha hb
theorem ut_ge {ua ub : UE} (ha : UEJ X a ua) (hb : UEJ X b ub) : UTJ X (.Compare a [.GtE] [b] pos) (uVal (uBin geD ua ub)) := ut_cmp op_geA ops_ge (nomark _) ha hb
theorem ut_eq {k : Nat} {ua ub : UE} (hr : Room k X.A) (ha : UEJ X a ua) (hb : UEJ X b ub) : UTJ X (.Compare a [.Eq] [b] pos) (uVal (uBin eqDD ua ub)) := ut_cmp (op_eqA hr.units) ops_eq (nomark _) ha hb
theorem ut_ne {k : Nat} {ua ub : UE} (hr : Room k X.A) (ha : UEJ X a ua) (hb : UEJ X b ub) : UTJ X (.Compare a [.NotEq] [b] pos) (uVal (uBin neDD ua ub)) := ut_cmp (op_neA hr.units) ops_ne (nomark _) ha hb
def uAnd (ua ub : UT) : UT := fun S M Q => ua S M fun r S1 M1 => match r with
  | true => ub S1 M1 Q
  | false => Q false S1 M1
def uOr (ua ub : UT) : UT := fun S M Q => ua S M fun r S1 M1 => match r with
  | true => Q true S1 M1
  | false => ub S1 M1 Q
def uNot (ua : UT) : UT := fun S M Q => ua S M fun r S1 M1 => Q (!r) S1 M1
theorem uAnd_mono {ua ub : UT} (ma : UMono ua) (mb : UMono ub) : UMono (uAnd ua ub) := fun S M Q Q' k h => ma _ _ _ _ (fun r S1 M1 h1 => by
  cases r
  · exact k _ _ _ h1
  · exact mb _ _ _ _ k h1) h
theorem uOr_mono {ua ub : UT} (ma : UMono ua) (mb : UMono ub) : UMono (uOr ua ub) := fun S M Q Q' k h => ma _ _ _ _ (fun r S1 M1 h1 => by
  cases r
  · exact mb _ _ _ _ k h1
  · exact k _ _ _ h1) h
theorem uNot_mono {ua : UT} (ma : UMono ua) : UMono (uNot ua) := fun S M Q Q' k h => ma _ _ _ _ (fun r S1 M1 h1 => k _ _ _ h1) h
theorem ut_and_snd {K : PySem.W.Frag} {ta tb : TT} {ua ub : UT} (ma : UMono ua) (mb : UMono ub) (sa : SndUT K ta ua) (sb : SndUT K tb ub) : SndUT K (tAnd ta tb) (uAnd ua ub) := by
  intro P F0 qc F cell S M σ H Q R h
  refine sa P F0 qc F cell S M σ H _ R (ma _ _ _ _ (fun r S1 M1 h1 F1 H1 f1 R1 => ?_) h)
  cases r
  · rw [if_neg Bool.false_ne_true]
    exact h1 F1 H1 f1 R1
  · rw [if_pos rfl]
    exact sb P F0 qc F1 cell S1 M1 σ H1 _ R1 (mb _ _ _ _ (fun r S2 M2 h2 F2 H2 f2 R2 => h2 F2 H2 (f1.trans f2) R2) h1)
theorem ut_or_snd {K : PySem.W.Frag} {ta tb : TT} {ua ub : UT} (ma : UMono ua) (mb : UMono ub) (sa : SndUT K ta ua) (sb : SndUT K tb ub) : SndUT K (tOr ta tb) (uOr ua ub) := by
  intro P F0 qc F cell S M σ H Q R h
  refine sa P F0 qc F cell S M σ H _ R (ma _ _ _ _ (fun r S1 M1 h1 F1 H1 f1 R1 => ?_) h)
  cases r
  · rw [if_neg Bool.false_ne_true]
    exact sb P F0 qc F1 cell S1 M1 σ H1 _ R1 (mb _ _ _ _ (fun r S2 M2 h2 F2 H2 f2 R2 => h2 F2 H2 (f1.trans f2) R2) h1)
  · rw [if_pos rfl]
    exact h1 F1 H1 f1 R1
variable {ua ub : UE} {va vb : UT}
theorem uw_and1 (h : UTJ X a va) : UWJ X (.BoolOp .And [a] pos) va := by
  obtain ⟨t, p, s⟩ := h.ex
  exact ⟨h.mono, _, pw_and1 p, s⟩
theorem uw_or1 (h : UTJ X a va) : UWJ X (.BoolOp .Or [a] pos) va := by
  obtain ⟨t, p, s⟩ := h.ex
  exact ⟨h.mono, _, pw_or1 p, s⟩
theorem uw_and (ha : UTJ X a va) (hb : UWJ X (.BoolOp .And (b :: rest) pos) vb) : UWJ X (.BoolOp .And (a :: b :: rest) pos) (uAnd va vb) := by
  obtain ⟨ta, pa, sa⟩ := ha.ex
  obtain ⟨tb, pb, sb⟩ := hb.ex
  exact ⟨uAnd_mono ha.mono hb.mono, _, pw_and pa pb, ut_and_snd ha.mono hb.mono sa sb⟩
theorem uw_or (ha : UTJ X a va) (hb : UWJ X (.BoolOp .Or (b :: rest) pos) vb) : UWJ X (.BoolOp .Or (a :: b :: rest) pos) (uOr va vb) := by
  obtain ⟨ta, pa, sa⟩ := ha.ex
  obtain ⟨tb, pb, sb⟩ := hb.ex
  exact ⟨uOr_mono ha.mono hb.mono, _, pw_or pa pb, ut_or_snd ha.mono hb.mono sa sb⟩
theorem UWJ.ut (h : UWJ X a va) : UTJ X a va := by
  obtain ⟨t, p, s⟩ := h.ex
  exact ⟨h.mono, t, p.pt, s⟩
theorem ut_not (h : UTJ X a va) : UTJ X (.UnaryOp .Not a pos) (uNot va) := by
  obtain ⟨ta, pa, sa⟩ := h.ex
  exact ⟨uNot_mono h.mono, _, pt_not pa, fun P F0 qc F cell S M σ H Q R q => sa P F0 qc F cell S M σ H _ R q⟩
def uIf (ut : UT) (ua ub : UE) : UE := fun S M Q => ut S M fun r S1 M1 => match r with
  | true => ua S1 M1 Q
  | false => ub S1 M1 Q
theorem ue_if (hc : UTJ X c va) (ha : UEJ X a ua) (hb : UEJ X b ub) : UEJ X (.IfExp c a b pos) (uIf va ua ub) := by
  obtain ⟨tc, pc, sc⟩ := hc.ex
  obtain ⟨ta, pa, sa⟩ := ha.ex
  obtain ⟨tb, pb, sb⟩ := hb.ex
  refine ⟨fun S M Q Q' k h => hc.mono _ _ _ _ (fun r S1 M1 h1 => ?_) h, _, pe_ifExp pc pa pb, fun P F0 qc F cell S M σ H Q R h => ?_⟩
  · cases r
    · exact hb.mono _ _ _ _ k h1
    · exact ha.mono _ _ _ _ k h1
  · refine sc P F0 qc F cell S M σ H _ R (hc.mono _ _ _ _ (fun r S1 M1 h1 F1 H1 f1 R1 => ?_) h)
    cases r
    · rw [if_neg Bool.false_ne_true]
      exact sb P F0 qc F1 cell S1 M1 σ H1 _ R1 (hb.mono _ _ _ _ (fun r S2 M2 h2 v F2 H2 f2 R2 q2 => h2 v F2 H2 (f1.trans f2) R2 q2) h1)
    · rw [if_pos rfl]
      exact sa P F0 qc F1 cell S1 M1 σ H1 _ R1 (ha.mono _ _ _ _ (fun r S2 M2 h2 v F2 H2 f2 R2 q2 => h2 v F2 H2 (f1.trans f2) R2 q2) h1)
/-! ### the memory's lists -/
/-- the list that a result is -/
def IsLst (M : Mem) (r : SV) (k : Nat) (a : Addr) (its : List Itm) : Prop := r = .s (.ptr k a) ∧ M[k]? = some ⟨a, .lst its⟩
theorem RM.lst {K : PySem.W.Frag} {P P' F0 F : Hp} {qc cell : Nat → Addr} {S : Sl} {M : Mem} {σ : L2.St} {H : Hp} {r : SV} {v : V} {k : Nat} {ad : Addr} {its : List Itm} (mo : MOk K P P' F0 F M) (R : RC K P' F0 qc F cell S σ H) (q : VR K F cell r v) (h : IsLst M r k ad its) :
    v = .ref ad ∧ ∃ vs, H ad = some (.lst vs) ∧ ItsR K F M its vs := by
  obtain ⟨rfl, h2⟩ := h
  obtain ⟨vs, g1, g2⟩ := mo.lst h2 rfl
  exact ⟨q, vs, R.ph _ _ g1, g2⟩
def uLen (ua : UE) : UE := fun S M Q => ua S M fun r S1 M1 => ∃ k a its, IsLst M1 r k a its ∧ Q (.v (.int its.length)) S1 M1
theorem ue_len {p : Pos} (hm : X.mg "len" = none) (ha : UEJ X a ua) (hg : Gl X "len" := by rfl) (hs : starEach [a] X.env = (false, eval a X.env) :: starEach [] X.env := by rfl) (hpl : (backTo pos (starEach [] X.env)).any (·.1) = false := by rfl) :
    UEJ X (.Call (.Name "len" p) [a] [] pos) (uLen ua) := by
  obtain ⟨ta, pa, sa⟩ := ha.ex
  refine ⟨fun S M Q Q' k h => ha.mono _ _ _ _ (fun r S1 M1 ⟨i, x, its, h1, q⟩ => ⟨i, x, its, h1, k _ _ _ q⟩) h, _, pe_callB call_len_seq hg hm PySem.boot_len (pa_cons pa pa_nil hs) (by decide) (by decide) hs hpl, fun P F0 qc F cell S M σ H Q R h => ?_⟩
  refine sa P F0 qc F cell S M σ H _ R (ha.mono _ _ _ _ (fun r S1 M1 h1 v F1 H1 f1 R1 q1 => ?_) h)
  obtain ⟨k, x, its, hl, q⟩ := h1
  obtain ⟨P', mo, RR⟩ := R1
  obtain ⟨rfl, vs, g1, g2⟩ := RM.lst mo RR q1 hl
  refine ⟨x, vs, rfl, .inl (SqL.of g1), ?_⟩
  rw [g2.length]
  exact q _ F1 H1 f1 ⟨P', mo, RR⟩ (.int _)
/-- an item of the memory as a result -/
def itSV (M : Mem) : Itm → Option SV
  | .d x => some (.v x)
  | .p j => (M[j]?).map fun e => .s (.ptr j e.a)
def uIx (ua ub : UE) : UE := fun S M Q => ua S M fun r S1 M1 => ub S1 M1 fun r2 S2 M2 => ∃ k a its i it z, IsLst M2 r k a its ∧ r2 = .v (.int i) ∧ atI its i = some it ∧ itSV M2 it = some z ∧ Q z S2 M2
theorem itsR_at {K : PySem.W.Frag} {F : Hp} {cell : Nat → Addr} {M : Mem} {its : List Itm} {vs : List V} {i : Int} {it : Itm} {z : SV} (h : ItsR K F M its vs) (e : atI its i = some it) (hz : itSV M it = some z) : ∃ v, atI vs i = some v ∧ VR K F cell z v := by
  unfold atI at e ⊢
  rw [h.length]
  cases hx : ixN its.length i with
  | none => rw [hx] at e; cases e
  | some j =>
    rw [hx] at e
    obtain ⟨v, h1, h2⟩ := h.get (j := j) (i := it) e
    refine ⟨v, h1, ?_⟩
    cases it with
    | d x => cases hz; exact h2
    | p j =>
      obtain ⟨e, g1, rfl⟩ := h2
      replace hz : (M[j]?).map (fun e => SV.s (Opq.ptr j e.a)) = some z := hz
      rw [g1] at hz
      cases hz
      exact rfl
theorem ue_ix (ha : UEJ X a ua) (hb : UEJ X b ub) (hs : PlainIx b := by exact fun _ _ => rfl) : UEJ X (.Subscript a b pos) (uIx ua ub) := by
  obtain ⟨ta, pa, sa⟩ := ha.ex
  obtain ⟨tb, pb, sb⟩ := hb.ex
  refine ⟨fun S M Q Q' k h => ha.mono _ _ _ _ (fun r S1 M1 h1 => hb.mono _ _ _ _ (fun r2 S2 M2 ⟨i, x, its, j, it, z, g1, g2, g3, g4, q⟩ => ⟨i, x, its, j, it, z, g1, g2, g3, g4, k _ _ _ q⟩) h1) h, _, pe_ix ix_list pa pb hs, fun P F0 qc F cell S M σ H Q R h => ?_⟩
  refine sa P F0 qc F cell S M σ H _ R (ha.mono _ _ _ _ (fun r S1 M1 h1 v F1 H1 f1 R1 q1 => ?_) h)
  refine sb P F0 qc F1 cell S1 M1 σ H1 _ R1 (hb.mono _ _ _ _ (fun r2 S2 M2 h2 w F2 H2 f2 R2 q2 => ?_) h1)
  obtain ⟨k, x, its, i, it, z, hl, rfl, g3, g4, q⟩ := h2
  obtain ⟨P', mo, RR⟩ := R2
  obtain ⟨rfl, vs, y1, y2⟩ := RM.lst mo RR (q1.mono f2) hl
  cases (show DV X.K F2 w (.int i) from q2)
  obtain ⟨u, hu, vr⟩ := itsR_at (cell := cell) y2 g3 g4
  exact ⟨x, vs, i, u, rfl, rfl, SqL.of y1, hu, q u F2 H2 (f1.trans f2) ⟨P', mo, RR⟩ vr⟩
def uaNil : UA := fun S M Q => Q [] S M
def uaCons (ua : UE) (us : UA) : UA := fun S M Q => ua S M fun r S1 M1 => us S1 M1 fun rs S2 M2 => Q (r :: rs) S2 M2
theorem ua_nil : UAJ X [] uaNil := ⟨fun S M Q Q' k h => k _ _ _ h, _, pa_nil, fun P F0 qc F cell S M σ H Q R h => h [] F H (Same.refl _) R rfl⟩
theorem ua_cons {us : UA} (ha : UEJ X e ua) (hr : UAJ X es us) (hs : starEach (e :: es) X.env = (false, eval e X.env) :: starEach es X.env := by rfl) : UAJ X (e :: es) (uaCons ua us) := by
  obtain ⟨ta, pa, sa⟩ := ha.ex
  obtain ⟨tr, pr, sr⟩ := hr.ex
  refine ⟨fun S M Q Q' k h => ha.mono _ _ _ _ (fun r S1 M1 h1 => hr.mono _ _ _ _ (fun rs S2 M2 q => k _ _ _ q) h1) h, _, pa_cons pa pr hs, fun P F0 qc F cell S M σ H Q R h => ?_⟩
  refine sa P F0 qc F cell S M σ H _ R (ha.mono _ _ _ _ (fun r S1 M1 h1 v F1 H1 f1 R1 q1 => ?_) h)
  exact sr P F0 qc F1 cell S1 M1 σ H1 _ R1 (hr.mono _ _ _ _ (fun rs S2 M2 h2 vs F2 H2 f2 R2 q2 => h2 _ F2 H2 (f1.trans f2) R2 ⟨v, vs, rfl, q1.mono f2, q2⟩) h1)
/-- a result as an item -/
def itOf (M : Mem) : SV → Option Itm
  | .v d => some (.d d)
  | .s (.ptr k a) => match M[k]? with
    | some e => if e.a = a then some (.p k) else none
    | none => none
  | _ => none
def itsOf (M : Mem) : List SV → Option (List Itm)
  | [] => some []
  | r :: rs => match itOf M r, itsOf M rs with
    | some i, some is => some (i :: is)
    | _, _ => none
theorem itOf_ok {K : PySem.W.Frag} {F : Hp} {cell : Nat → Addr} {M : Mem} {r : SV} {v : V} {i : Itm} (h : VR K F cell r v) (e : itOf M r = some i) : ItR K F M i v := by
  cases r with
  | v d => cases e; exact h
  | p j => cases e
  | s o =>
    cases o with
    | ptr k a =>
      have e : (match M[k]? with
        | some e => if e.a = a then some (Itm.p k) else none
        | none => none) = some i := e
      cases hk : M[k]? with
      | none => rw [hk] at e; cases e
      | some f =>
        rw [hk] at e
        replace e : (if f.a = a then some (Itm.p k) else none) = some i := e
        split at e
        · rename_i ha
          cases e
          exact ⟨f, hk, by rw [ha]; exact h⟩
        · cases e
    | ns l => cases e
    | ex c fs => cases e
theorem itsOf_ok {K : PySem.W.Frag} {F : Hp} {cell : Nat → Addr} {M : Mem} : ∀ {rs : List SV} {vs : List V} {is : List Itm}, VRs K F cell rs vs → itsOf M rs = some is → ItsR K F M is vs
  | [], vs, is, h, e => by cases e; exact h
  | r :: rs, vs, is, ⟨v, ws, h1, h2, h3⟩, e => by
    unfold itsOf at e
    split at e
    · rename_i i js e1 e2
      cases e
      exact ⟨v, ws, h1, itOf_ok h2 e1, itsOf_ok h3 e2⟩
    · cases e
def uLst (us : UA) : UE := fun S M Q => us S M fun rs S1 M1 => ∃ its, itsOf M1 rs = some its ∧ its.length ≤ 100000 ∧ ∀ a, Q (.s (.ptr M1.length a)) S1 (M1 ++ [⟨a, .lst its⟩])
theorem ue_lst {us : UA} (h : UAJ X es us) : UEJ X (.List es pos) (uLst us) := by
  obtain ⟨ta, pa, sa⟩ := h.ex
  refine ⟨fun S M Q Q' k q => h.mono _ _ _ _ (fun rs S1 M1 ⟨its, g1, g2, g3⟩ => ⟨its, g1, g2, fun a => k _ _ _ (g3 a)⟩) q, _, pe_lst pa, fun P F0 qc F cell S M σ H Q R q => ?_⟩
  refine sa P F0 qc F cell S M σ H _ R (h.mono _ _ _ _ (fun rs S1 M1 h1 vs F1 H1 f1 R1 q1 => ?_) q)
  obtain ⟨its, g1, g2, g3⟩ := h1
  obtain ⟨P', mo, RR⟩ := R1
  have hi := itsOf_ok q1 g1
  refine ⟨by rw [hi.length]; exact small5 g2, fun p hp => ?_⟩
  exact g3 p _ F1 _ f1 (RM.alloc mo RR hp hi) rfl
/-! ### statements -/
def uNil : US := fun S M Q => Q .nx S M
def uSeq (u v : US) : US := fun S M Q => u S M fun fl S1 M1 => match fl with
  | .nx => v S1 M1 Q
  | fl => Q fl S1 M1
theorem uSeq_mono {u v : US} (mu : UMono u) (mv : UMono v) : UMono (uSeq u v) := fun S M Q Q' k h => mu _ _ _ _ (fun fl S1 M1 h1 => by
  cases fl with
  | nx => exact mv _ _ _ _ k h1
  | bk => exact k _ _ _ h1
  | ct => exact k _ _ _ h1
  | rt r => exact k _ _ _ h1
  | rz c fs => exact k _ _ _ h1) h
theorem ub_nil : UBJ X W [] uNil := ⟨fun S M Q Q' k h => k _ _ _ h, _, pss_nil, fun P F0 qc F cell S M σ H D R h => h F cell σ H (Same.refl _) R⟩
theorem ub_cons {u v : US} (h1 : USJ X W st u) (h2 : UBJ X W sts v) : UBJ X W (st :: sts) (uSeq u v) := by
  obtain ⟨t, p1, s1⟩ := h1.ex
  obtain ⟨t2, p2, s2⟩ := h2.ex
  refine ⟨uSeq_mono h1.mono h2.mono, _, pss_cons p1 p2, fun P F0 qc F cell S M σ H D R h => ?_⟩
  refine s1 P F0 qc F cell S M σ H { D with nx := t2 D } R (h1.mono _ _ _ _ (fun fl S1 M1 q F1 c1 σ1 H1 f1 R1 => ?_) h)
  cases fl with
  | nx => exact s2 P F0 qc F1 c1 S1 M1 σ1 H1 D R1 (h2.mono _ _ _ _ (fun fl S2 M2 q2 F2 c2 σ2 H2 f2 R2 => q2 F2 c2 σ2 H2 (f1.trans f2) R2) q)
  | bk => exact q F1 c1 σ1 H1 f1 R1
  | ct => exact q F1 c1 σ1 H1 f1 R1
  | rt r => exact q F1 c1 σ1 H1 f1 R1
  | rz c fs => exact q F1 c1 σ1 H1 f1 R1
def uIfS (ut : UT) (u v : US) : US := fun S M Q => ut S M fun r S1 M1 => match r with
  | true => u S1 M1 Q
  | false => v S1 M1 Q
theorem us_if {u v : US} (hc : UTJ X c va) (ha : UBJ X W sts u) (hb : UBJ X W bs v) : USJ X W (.If c sts bs pos) (uIfS va u v) := by
  obtain ⟨tc, pc, sc⟩ := hc.ex
  obtain ⟨ta, pa, sa⟩ := ha.ex
  obtain ⟨tb, pb, sb⟩ := hb.ex
  refine ⟨fun S M Q Q' k h => hc.mono _ _ _ _ (fun r S1 M1 h1 => ?_) h, _, ps_if pc pa pb, fun P F0 qc F cell S M σ H D R h => ?_⟩
  · cases r
    · exact hb.mono _ _ _ _ k h1
    · exact ha.mono _ _ _ _ k h1
  · refine sc P F0 qc F cell S M σ H _ R (hc.mono _ _ _ _ (fun r S1 M1 h1 F1 H1 f1 R1 => ?_) h)
    cases r
    · rw [if_neg Bool.false_ne_true]
      exact sb P F0 qc F1 cell S1 M1 σ H1 D R1 (hb.mono _ _ _ _ (fun r S2 M2 h2 F2 c2 σ2 H2 f2 R2 => h2 F2 c2 σ2 H2 (f1.trans f2) R2) h1)
    · rw [if_pos rfl]
      exact sa P F0 qc F1 cell S1 M1 σ H1 D R1 (ha.mono _ _ _ _ (fun r S2 M2 h2 F2 c2 σ2 H2 f2 R2 => h2 F2 c2 σ2 H2 (f1.trans f2) R2) h1)
/-- a result into a slot -/
def slOf : SV → Option SL
  | .v d => some (.v d)
  | .s (.ptr k a) => some (.s (.ptr k a))
  | _ => none
theorem RC.setR {K : PySem.W.Frag} {P F0 F : Hp} {qc cell : Nat → Addr} {S : Sl} {σ : L2.St} {H : Hp} (R : RC K P F0 qc F cell S σ H) {i : Nat} {v : V} {r : SV} {x : SL} (h : VR K F cell r v) (e : slOf r = some x) : RC K P F0 qc F cell (S.set i (some x)) (σ.set i (some v)) H := by
  cases r with
  | v d => cases e; exact R.setV h
  | p j => cases e
  | s o =>
    cases o with
    | ptr k a => cases e; exact R.setO h
    | ns l => cases e
    | ex c fs => cases e
def uSet (i : Nat) (u : UE) : US := fun S M Q => u S M fun r S1 M1 => ∃ x, slOf r = some x ∧ Q .nx (S1.set i (some x)) M1
theorem us_set (i : Nat) {x : Str} (hN : X.N.Nodup) (he : UEJ X e ua) (hi : X.N[i]? = some x := by rfl) (hx : Loc X.env.scope x := by first | exact Or.inl rfl | exact Or.inr rfl) (hs : swapsWith e (some (.Name x pos')) pos.line X.env = pure false := by rfl)
    (hf : X.fn x = true ∨ X.env.scope.names.lookup x = some .local := by first | exact .inl rfl | exact .inr rfl) : USJ X W (.Assign [.Name x pos'] e pos) (uSet i ua) := by
  obtain ⟨t, p, s⟩ := he.ex
  refine ⟨fun S M Q Q' k h => he.mono _ _ _ _ (fun r S1 M1 ⟨x, h1, q⟩ => ⟨x, h1, k _ _ _ q⟩) h, _, ps_set hN hi hx p hs hf, fun P F0 qc F cell S M σ H D R h => ?_⟩
  refine s P F0 qc F cell S M σ H _ R (he.mono _ _ _ _ (fun r S1 M1 h1 v F1 H1 f1 R1 q1 => ?_) h)
  obtain ⟨y, hy, k⟩ := h1
  obtain ⟨P', mo, RR⟩ := R1
  exact k F1 cell _ H1 f1 ⟨P', mo, RR.setR q1 hy⟩
def uPar2 (i j : Nat) (us : UA) : US := fun S M Q => us S M fun rs S1 M1 => ∃ r1 r2 x y, rs = [r1, r2] ∧ slOf r1 = some x ∧ slOf r2 = some y ∧ Q .nx ((S1.set i (some x)).set j (some y)) M1
theorem us_par2 {us : UA} {i j : Nat} {x y : Str} {px py pt : Pos} {kt k2 pt2} (hc : X.calm = true) (hN : X.N.Nodup) (ha : UAJ X [a, b] us) (hi : X.N[i]? = some x := by rfl) (hj : X.N[j]? = some y := by rfl) (hij : i ≠ j := by decide)
    (hx : X.env.scope.names.lookup x = some .local := by rfl) (hy : X.env.scope.names.lookup y = some .local := by rfl)
    (hw : swappedStores [.Tuple [.Name x px, .Name y py] kt pt] (.Tuple [a, b] k2 pt2) X.env = pure (some [x, y]) := by rfl)
    (hs : swapsWithSole [.Tuple [.Name x px, .Name y py] kt pt] (.Tuple [a, b] k2 pt2) pos.line X.env = pure false := by rfl) :
    USJ X W (.Assign [.Tuple [.Name x px, .Name y py] kt pt] (.Tuple [a, b] k2 pt2) pos) (uPar2 i j us) := by
  obtain ⟨t, p, s⟩ := ha.ex
  refine ⟨fun S M Q Q' k h => ha.mono _ _ _ _ (fun rs S1 M1 ⟨r1, r2, x, y, h1, h2, h3, q⟩ => ⟨r1, r2, x, y, h1, h2, h3, k _ _ _ q⟩) h, _, ps_par hc hN hi hj hij hx hy p hw hs, fun P F0 qc F cell S M σ H D R h => ?_⟩
  refine s P F0 qc F cell S M σ H _ R (ha.mono _ _ _ _ (fun rs S1 M1 h1 vs F1 H1 f1 R1 q1 => ?_) h)
  obtain ⟨r1, r2, x1, y1, rfl, g1, g2, k⟩ := h1
  obtain ⟨v, ws, rfl, a1, w, us', rfl, a2, a3⟩ := q1
  cases (show us' = [] from a3)
  obtain ⟨P', mo, RR⟩ := R1
  exact ⟨v, w, rfl, k F1 cell _ H1 f1 ⟨P', mo, (RR.setR a1 g1).setR a2 g2⟩⟩
/-- E.append(e) -/
def uApp (ua ub : UE) : US := fun S M Q => ua S M fun r S1 M1 => (∃ k a its, IsLst M1 r k a its) ∧ ub S1 M1 fun r2 S2 M2 => ∃ k a its it, IsLst M2 r k a its ∧ itOf M2 r2 = some it ∧ its.length < 100000 ∧ Q .nx S2 (M2.set k ⟨a, .lst (its ++ [it])⟩)
theorem us_app {apos cpos : Pos} (ho : UEJ X a ua) (he : UEJ X e ub)
    (hbase : attributeBase a "append" X.env (eval a X.env) = eval a X.env := by rfl)
    (hfew : ((backTo cpos (starEach [e] X.env)).all (fun x => !x.1) && (backToKw cpos (keywordEach [] X.env)).all (fun x => x.1.isSome)
      && decide ([e].length + ([] : List Keyword).length + (if ([] : List Keyword).isEmpty then 0 else 1) < 30)) = true := by rfl)
    (hline : (apos.endLine == cpos.line) = true := by rfl) (hst : starEach [e] X.env = (false, eval e X.env) :: starEach [] X.env := by rfl) (hplain : (backTo cpos (starEach [] X.env)).any (·.1) = false := by rfl)
    (hs : swapsWith (.Call (.Attribute a "append" apos) [e] [] cpos) none pos.line X.env = pure false := by rfl) :
    USJ X W (.Expr (.Call (.Attribute a "append" apos) [e] [] cpos) pos) (uApp ua ub) := by
  obtain ⟨ta, pa, sa⟩ := ho.ex
  obtain ⟨te, pe, se⟩ := he.ex
  refine ⟨fun S M Q Q' k h => ho.mono _ _ _ _ (fun r S1 M1 ⟨g0, h1⟩ => ⟨g0, he.mono _ _ _ _ (fun r2 S2 M2 ⟨i, x, its, it, g1, g2, g3, q⟩ => ⟨i, x, its, it, g1, g2, g3, k _ _ _ q⟩) h1⟩) h,
    _, ps_expr (pe_bm PySem.F.plainAttrs_list PySem.F.slot_list_append PySem.F.type_list_append mt_append pa (pa_cons pe pa_nil hst) hbase hfew hline hst hplain) hs, fun P F0 qc F cell S M σ H D R h => ?_⟩
  refine sa P F0 qc F cell S M σ H _ R (ho.mono _ _ _ _ (fun r S1 M1 h1 v F1 H1 f1 R1 q1 => ?_) h)
  obtain ⟨⟨k0, a0, its0, hl0⟩, h1⟩ := h1
  obtain ⟨P1', mo1, RR1⟩ := R1
  obtain ⟨rfl, vs0, g1, g2⟩ := RM.lst mo1 RR1 q1 hl0
  refine ⟨.inl ⟨rfl, vs0, SqL.of g1⟩, ?_⟩
  refine se P F0 qc F1 cell S1 M1 σ H1 _ ⟨P1', mo1, RR1⟩ (he.mono _ _ _ _ (fun r2 S2 M2 h2 w F2 H2 f2 R2 q2 => ?_) h1)
  obtain ⟨k, x, its, it, hl, hi, hlen, q⟩ := h2
  obtain ⟨P', mo, RR⟩ := R2
  obtain ⟨ex, vs, y1, y2⟩ := RM.lst mo RR (q1.mono f2) hl
  cases ex
  refine ⟨_, vs, w, rfl, rfl, y1, by rw [y2.length]; exact Nat.lt_of_lt_of_le hlen (by decide), ?_⟩
  exact q F2 cell σ _ (f1.trans f2) (RM.change mo RR hl.2 (y2.append ⟨w, [], rfl, itOf_ok q2 hi, rfl⟩))
/-! ### return, for -/
def uRet (ua : UE) : US := fun S M Q => ua S M fun r S1 M1 => Q (.rt r) S1 M1
theorem us_ret (he : UEJ X e ua) : USJ X W (.Return (some e) pos) (uRet ua) := by
  obtain ⟨t, p, s⟩ := he.ex
  refine ⟨fun S M Q Q' k h => he.mono _ _ _ _ (fun r S1 M1 q => k _ _ _ q) h, _, ps_ret p, fun P F0 qc F cell S M σ H D R h => ?_⟩
  exact s P F0 qc F cell S M σ H _ R (he.mono _ _ _ _ (fun r S1 M1 h1 v F1 H1 f1 R1 q1 => h1 F1 cell σ H1 f1 R1 v q1) h)
def uForM (g : MG) (ub : US) : List PyData → US
  | [] => uNil
  | d :: ds => fun S M Q => ∃ S1, g d S = some S1 ∧ ub S1 M fun fl S2 M2 => match fl with
    | .nx => uForM g ub ds S2 M2 Q
    | .ct => uForM g ub ds S2 M2 Q
    | .bk => Q .nx S2 M2
    | .rt r => Q (.rt r) S2 M2
    | .rz c fs => Q (.rz c fs) S2 M2
def uFor (mi : MI) (g : MG) (ub : US) : US := fun S M Q => ∃ ds S1, mi S = some (ds, S1) ∧ uForM g ub ds S1 M Q
theorem uForM_mono {g : MG} {ub : US} (m : UMono ub) : ∀ (ds : List PyData), UMono (uForM g ub ds)
  | [], S, M, Q, Q', k, h => k _ _ _ h
  | d :: ds, S, M, Q, Q', k, ⟨S1, h1, h2⟩ => ⟨S1, h1, m _ _ _ _ (fun fl S2 M2 h3 => by
    cases fl with
    | nx => exact uForM_mono m ds _ _ _ _ k h3
    | ct => exact uForM_mono m ds _ _ _ _ k h3
    | bk => exact k _ _ _ h3
    | rt r => exact k _ _ _ h3
    | rz c fs => exact k _ _ _ h3) h2⟩
theorem us_for {tg iter : Expr} {body : List Stmt} {mi : MI} {g : MG} {w : US} {ts : List Nat} (hc : X.calm = true) (hi : JI X tg iter mi) (hg : JG X tg g ts) (hb : UBJ X W body w) (hp : PassesOwn (model X.prog X.w) X.A X.env X.xe := by exact PassesOwn.never) (hs : ∀ x, foldedSetIterable iter X.env x = pure x := by intro _; rfl) : USJ X W (.For tg iter body [] pos) (uFor mi g w) := by
  obtain ⟨wi, pi, si⟩ := hi.ex
  obtain ⟨gg, pg, sg⟩ := hg.ex
  obtain ⟨tb, pb, sb⟩ := hb.ex
  refine ⟨fun S M Q Q' k ⟨ds, S1, h1, h2⟩ => ⟨ds, S1, h1, uForM_mono hb.mono ds _ _ _ _ k h2⟩, _, ps_for hp hc pi pg pb hs, fun P F0 qc F cell S M σ H D R hm => ?_⟩
  obtain ⟨ds, S1, e1, k⟩ := hm
  obtain ⟨P', mo, RR⟩ := R
  refine si P' F0 qc F cell S σ H _ ds S1 RR e1 fun J F1 H1 f1 R1 ok => ?_
  obtain ⟨G, Y, wk, hG, hY⟩ := ok.ex
  refine for_it wk (fun i σ' H' => ∃ F2 c2 S2 M2, Same F1 F2 ∧ RM X.K P F0 qc F2 c2 S2 M2 σ' H' ∧ uForM g w (ds.drop i) S2 M2 (fun fl S' M' => ∀ F' cell' σ' H', Same F F' → RM X.K P F0 qc F' cell' S' M' σ' H' → FlK X.K W F' cell' fl D σ' H')) ⟨F1, cell, S1, M, Same.refl _, mo.rm f1 R1, k⟩ (fun i σ' H' _ ⟨F2, c2, S2, M2, f2, ⟨P2, mo2, R2⟩, _⟩ => hG H' (f2.trans R2.fh)) (fun i x σ' H' H'' hlt ⟨F2, c2, S2, M2, f2, ⟨P2, mo2, R2⟩, e2⟩ y => ?_) fun σ' H' ⟨F2, c2, S2, M2, f2, R2, e2⟩ => ?_
  · obtain ⟨d, hd, hdr⟩ := drop_cons hlt
    rw [hdr] at e2
    obtain ⟨S3, e3, e4⟩ := e2
    obtain ⟨F3, ex, dv⟩ := hY i H' x H'' F2 d f2 R2.fh hd y
    have R3 := R2.ext ex
    refine sg P2 F0 qc F3 c2 S2 σ' H'' _ x d S3 R3 dv e3 fun σ3 R4 _ => ?_
    refine sb P F0 qc F3 c2 S3 M2 σ3 H'' _ (mo2.rm ex.f R4) (hb.mono _ _ _ _ (fun fl S5 M5 e5 F5 c5 σ5 H5 f5 R5 => ?_) e4)
    cases fl with
    | nx => exact ⟨F5, c5, S5, M5, (f2.trans ex.f).trans f5, R5, e5⟩
    | ct => exact ⟨F5, c5, S5, M5, (f2.trans ex.f).trans f5, R5, e5⟩
    | bk => exact e5 F5 c5 σ5 H5 (f1.trans ((f2.trans ex.f).trans f5)) R5
    | rt r => exact e5 F5 c5 σ5 H5 (f1.trans ((f2.trans ex.f).trans f5)) R5
    | rz c fs => exact e5 F5 c5 σ5 H5 (f1.trans ((f2.trans ex.f).trans f5)) R5
  · rw [List.drop_length] at e2
    exact e2 F2 c2 σ' H' (f1.trans f2) R2
end
/-! ### a def -/
def UEnd (as : List SL) (d : PyData) (as' : List SL) : Fl → Sl → Mem → Prop := fun fl S M => ((∃ r, fl = .rt r ∧ tellR M r = some d) ∨ (fl = .nx ∧ d = .none)) ∧ asOut as S = some as'
section
variable {P : Program} {w : World} {K : PySem.W.Frag} {mg : Str → Option Value} {base : Heap}
theorem jfW {x qual : Str} {st : Stmt} {f : Addr} {fd : FuncData} {N ps : List Str} {k : Nat} {u : US} {m : MF} (F : Fun K x qual st f fd) (S : FnScope N ps (defScope st)) (hl : ps.length ≤ N.length)
    (hb : ∀ cdv A outer s H (E : _), A.guards = some [] → Room k (cxOf CX0 P w K mg base N qual (defScope st) f cdv A outer s H E).nox.A → UBJ (cxOf CX0 P w K mg base N qual (defScope st) f cdv A outer s H E).nox W0 (defBody st) u)
    (hm : ∀ as d as', m as = some (d, as') → u (startS N.length as) [] (UEnd as d as')) :
    FnG P w K mg base CX0 (k + 1) f fd ps (spM K ps.length m) := by
  refine okG F S (fun vs H Q E h => h.1) fun cdv A outer s H vs Q E hg hr h => ?_
  obtain ⟨hv, F1, as, d, as', fh, ft, hm1, kk⟩ := h
  have ub := hb cdv A outer s H E hg hr
  obtain ⟨t, pt, stt⟩ := ub.ex
  refine ⟨t, pt, ?_⟩
  obtain ⟨P1, hP1, hP2, R⟩ := rc_start (N := N) fh ft (by rw [← ft.len, hv]; exact hl)
  refine stt P1 F1 (adr vs) F1 (adr vs) _ _ _ H _ (RM.nil R) (ub.mono _ _ _ _ (fun fl S' M' he F' c' σ' H' f1 R1 => ?_) (hm as d as' hm1))
  obtain ⟨P', mo, RR⟩ := R1
  obtain ⟨F2, f2, R2, tell⟩ := RM.tell mo RR
  obtain ⟨hr, ho⟩ := he
  rcases hr with ⟨r, rfl, ht⟩ | ⟨rfl, rfl⟩
  · exact fun v q => kk v F2 H' (back_end ft hP1 hP2 (f1.trans f2) R2 (tell r v d q ht) ho)
  · exact kk .non F2 H' (back_end ft hP1 hP2 (f1.trans f2) R2 .non ho)
end
end VL

set_option Elab.async false
set_option linter.all false
set_option maxRecDepth 100000
set_option maxHeartbeats 4000000
/-! VX7: max, min of a tuple of ints. -/
namespace VX
open PySem PySem.Spec PyProof.Rows L2
section
variable {prog : Program} {w : World} {A : Around} {E : Value → Shared → Prop} {s : Shared} {l : Addr} {its : List Value} {ns : List Int} {Q : Value → Shared → Prop}
theorem maxT_raw (hh : A.handled = none) (hl : s.heap.IsTuple l its.toArray) (hi : IntsAre its ns) (hne : 0 < ns.length)
    (h : ∀ h' tk M t', (∀ b o, s.heap.get? b = some o → h'.get? b = some o) → M ∈ ns → (∀ a, a ∈ ns → a ≤ M) → Q (.int M t') { s with heap := h', toks := tk }) : wpAny (model prog w) A (call (.builtin "max") [.ref l]) Q E s := by
  obtain ⟨xs, e⟩ := hi.allInts.items
  have hn : numsOf (intItems xs).toList = ns := by rw [← e]; exact hi.numsOf
  rw [nums_intItems] at hn
  subst hn
  rw [e] at hl
  have hsz : 0 < xs.size := by simpa using hne
  have hlt : l < s.heap.objs.size := by obtain ⟨o, q, _⟩ := hl; exact Heap.lt_size q
  refine call_max_walk (wpAny_pyIter_tuple hl ?_)
  have k1 : ∀ b o, s.heap.get? b = some o → (s.heap.push { cls := .type "tuple_iterator", data := .fields #[.ref l, .int 0 0] }).get? b = some o := fun b o q => Heap.get?_push_of_some _ q
  refine ⟨s.heap.objs.size, _, _, _, _, _, _, rfl, Walks.tuple (A := A.in1) hh s.heap.objs.size l (Nat.ne_of_lt hlt) (intItems xs), ⟨⟨_, Heap.get?_push_size _ rfl, rfl, rfl⟩, hl.at fun o q => k1 l o q⟩, fun b hb => ?_, by simpa [intItems] using hsz, CmpOf.ints_gt (numAt xs) (fun _ _ => intItems_at), fun v h' tk hv hk => ?_⟩
  · show b < (s.heap.push _).objs.size
    rw [Heap.size_push]
    have e' : b = s.heap.objs.size ∨ b = l := by simpa using hb
    rcases e' with z | z
    · rw [z]; exact Nat.lt_succ_self _
    · rw [z]; exact Nat.lt_succ_of_lt hlt
  · have hv : (intItems xs)[argBest (fun i j => decide (numAt xs i > numAt xs j)) (xs.size - 1)]? = some v := by simpa [intItems] using hv
    obtain ⟨t, rfl⟩ := intItems_at hv
    obtain ⟨h1, h2⟩ := argBest_gt (numAt xs) (xs.size - 1)
    refine h h' tk _ t (fun b o q => hk b o (fun z => by
      have : b = s.heap.objs.size := by simpa using z
      rw [this] at q
      exact Nat.lt_irrefl _ (Heap.lt_size q)) (k1 b o q)) ?_ fun a ha => ?_
    · rw [numAt_eq]; exact PySem.getD_mem (by rw [List.length_map, Array.length_toList]; omega)
    · obtain ⟨j, hj, rfl⟩ := mem_getD ha
      rw [List.length_map, Array.length_toList] at hj
      rw [← numAt_eq]; exact h2 j (by omega)
theorem minT_raw (hh : A.handled = none) (hl : s.heap.IsTuple l its.toArray) (hi : IntsAre its ns) (hne : 0 < ns.length)
    (h : ∀ h' tk M t', (∀ b o, s.heap.get? b = some o → h'.get? b = some o) → M ∈ ns → (∀ a, a ∈ ns → M ≤ a) → Q (.int M t') { s with heap := h', toks := tk }) : wpAny (model prog w) A (call (.builtin "min") [.ref l]) Q E s := by
  obtain ⟨xs, e⟩ := hi.allInts.items
  have hn : numsOf (intItems xs).toList = ns := by rw [← e]; exact hi.numsOf
  rw [nums_intItems] at hn
  subst hn
  rw [e] at hl
  have hsz : 0 < xs.size := by simpa using hne
  have hlt : l < s.heap.objs.size := by obtain ⟨o, q, _⟩ := hl; exact Heap.lt_size q
  refine call_min_walk (wpAny_pyIter_tuple hl ?_)
  have k1 : ∀ b o, s.heap.get? b = some o → (s.heap.push { cls := .type "tuple_iterator", data := .fields #[.ref l, .int 0 0] }).get? b = some o := fun b o q => Heap.get?_push_of_some _ q
  refine ⟨s.heap.objs.size, _, _, _, _, _, _, rfl, Walks.tuple (A := A.in1) hh s.heap.objs.size l (Nat.ne_of_lt hlt) (intItems xs), ⟨⟨_, Heap.get?_push_size _ rfl, rfl, rfl⟩, hl.at fun o q => k1 l o q⟩, fun b hb => ?_, by simpa [intItems] using hsz, CmpOf.ints_lt (numAt xs) (fun _ _ => intItems_at), fun v h' tk hv hk => ?_⟩
  · show b < (s.heap.push _).objs.size
    rw [Heap.size_push]
    have e' : b = s.heap.objs.size ∨ b = l := by simpa using hb
    rcases e' with z | z
    · rw [z]; exact Nat.lt_succ_self _
    · rw [z]; exact Nat.lt_succ_of_lt hlt
  · have hv : (intItems xs)[argBest (fun i j => decide (numAt xs i < numAt xs j)) (xs.size - 1)]? = some v := by simpa [intItems] using hv
    obtain ⟨t, rfl⟩ := intItems_at hv
    obtain ⟨h1, h2⟩ := argBest_lt (numAt xs) (xs.size - 1)
    refine h h' tk _ t (fun b o q => hk b o (fun z => by
      have : b = s.heap.objs.size := by simpa using z
      rw [this] at q
      exact Nat.lt_irrefl _ (Heap.lt_size q)) (k1 b o q)) ?_ fun a ha => ?_
    · rw [numAt_eq]; exact PySem.getD_mem (by rw [List.length_map, Array.length_toList]; omega)
    · obtain ⟨j, hj, rfl⟩ := mem_getD ha
      rw [List.length_map, Array.length_toList] at hj
      rw [← numAt_eq]; exact h2 j (by omega)
end
section
variable {X : Cx}
def rMaxT (K : PySem.W.Frag) : List V → Hp → VK → Prop := fun vs H Q => ∃ (a : Addr) (ns : List Int), vs = [V.ref a] ∧ SqT K H a (ns.map V.int) ∧ 0 < ns.length ∧ ∀ m, m ∈ ns → (∀ y, y ∈ ns → y ≤ m) → Q (.int m) H
def rMinT (K : PySem.W.Frag) : List V → Hp → VK → Prop := fun vs H Q => ∃ (a : Addr) (ns : List Int), vs = [V.ref a] ∧ SqT K H a (ns.map V.int) ∧ 0 < ns.length ∧ ∀ m, m ∈ ns → (∀ y, y ∈ ns → m ≤ y) → Q (.int m) H
theorem cr_maxT (hc : X.calm = true) : CallR X (.builtin "max") (rMaxT X.K) := by
  intro pins s σ H vs us Q I r h
  obtain ⟨a, ns, rfl, hs, hne, q⟩ := h
  obtain ⟨its, rv, hl, _⟩ := I.tuple hs
  rw [Vals.ref1 r]
  exact maxT_raw (I.ok.hd hc) hl rv.ints hne fun h' tk m t' hk h1 h2 => ⟨.int _, H, I.kept hk, ⟨_, rfl⟩, q m h1 h2⟩
theorem cr_minT (hc : X.calm = true) : CallR X (.builtin "min") (rMinT X.K) := by
  intro pins s σ H vs us Q I r h
  obtain ⟨a, ns, rfl, hs, hne, q⟩ := h
  obtain ⟨its, rv, hl, _⟩ := I.tuple hs
  rw [Vals.ref1 r]
  exact minT_raw (I.ok.hd hc) hl rv.ints hne fun h' tk m t' hk h1 h2 => ⟨.int _, H, I.kept hk, ⟨_, rfl⟩, q m h1 h2⟩
end
end VX

set_option Elab.async false
set_option linter.all false
set_option maxRecDepth 100000
set_option maxHeartbeats 4000000
/-! VL25: max, min of a list or tuple; an ordinary thing's part by a number of the memory. -/
namespace VL
open PySem PySem.Spec PyProof.Rows L2
def maxAF : List PyData → Option PyData
  | [.list ds] => maxF [.list ds]
  | [.tuple ds] => maxF [.list ds]
  | _ => none
def minAF : List PyData → Option PyData
  | [.list ds] => minF [.list ds]
  | [.tuple ds] => minF [.list ds]
  | _ => none
section
variable {X : Cx} {K : PySem.W.Frag} {e a b : Expr} {mas : MA} {pos p : Pos} {ua ub : UE}
theorem cs_maxA : CS K (fun xs H Q => rMax K xs H Q ∨ VX.rMaxT K xs H Q) maxAF := by
  intro F H xs ds z Q fh hx hf k
  unfold maxAF at hf
  split at hf
  · exact .inl (cs_max F H xs _ z Q fh hx hf k)
  · unfold maxF at hf
    simp only at hf
    · split at hf
      · rename_i n ns hb
        cases hf
        obtain ⟨v, rfl, h1⟩ := dxs1 hx
        obtain ⟨a, vs, rfl, h2, h3⟩ := h1.tuple
        rw [intsOf_some hb] at h3
        rw [DVs.ints _ h3] at h2
        refine .inr ⟨a, n :: ns, rfl, sqT_mono fh h2, by simp, fun m hm hle => ?_⟩
        obtain ⟨g1, g2⟩ := maxL_spec (n :: ns) (by simp)
        have : m = maxL (n :: ns) := Int.le_antisymm (g2 m hm) (hle _ g1)
        rw [this]
        exact k _ _ _ (Ext.refl fh) (.int _)
      · cases hf
  · cases hf
theorem cs_minA : CS K (fun xs H Q => rMin K xs H Q ∨ VX.rMinT K xs H Q) minAF := by
  intro F H xs ds z Q fh hx hf k
  unfold minAF at hf
  split at hf
  · exact .inl (cs_min F H xs _ z Q fh hx hf k)
  · unfold minF at hf
    simp only at hf
    · split at hf
      · rename_i n ns hb
        cases hf
        obtain ⟨v, rfl, h1⟩ := dxs1 hx
        obtain ⟨a, vs, rfl, h2, h3⟩ := h1.tuple
        rw [intsOf_some hb] at h3
        rw [DVs.ints _ h3] at h2
        refine .inr ⟨a, n :: ns, rfl, sqT_mono fh h2, by simp, fun m hm hle => ?_⟩
        obtain ⟨g1, g2⟩ := minL_spec (n :: ns) (by simp)
        have : m = minL (n :: ns) := Int.le_antisymm (hle _ g1) (g2 m hm)
        rw [this]
        exact k _ _ _ (Ext.refl fh) (.int _)
      · cases hf
  · cases hf
theorem je_maxA (hc : X.calm = true) (hm : X.mg "max" = none) (ha : JA X [e] mas) (hg : Gl X "max" := by rfl) (he : starEach [e] X.env = (false, eval e X.env) :: starEach [] X.env := by rfl) (hpl : (backTo pos (starEach [] X.env)).any (·.1) = false := by rfl) : JE X (.Call (.Name "max" p) [e] [] pos) (mCall maxAF mas) := je_callB (CallR.or (cr_max hc) (VX.cr_maxT hc)) cs_maxA hm (by decide +kernel) ha hg (by decide) (by decide) he hpl
theorem je_minA (hc : X.calm = true) (hm : X.mg "min" = none) (ha : JA X [e] mas) (hg : Gl X "min" := by rfl) (he : starEach [e] X.env = (false, eval e X.env) :: starEach [] X.env := by rfl) (hpl : (backTo pos (starEach [] X.env)).any (·.1) = false := by rfl) : JE X (.Call (.Name "min" p) [e] [] pos) (mCall minAF mas) := je_callB (CallR.or (cr_min hc) (VX.cr_minT hc)) cs_minA hm (by decide +kernel) ha hg (by decide) (by decide) he hpl
theorem js_parC2 {W : WX} {ms : MXs} {i j : Nat} {x y : Str} {px py pt : Pos} {kt k2 pt2} (hc : X.calm = true) (hN : X.N.Nodup) (ha : JXs X [a, b] ms) (hi : X.N[i]? = some x := by rfl) (hj : X.N[j]? = some y := by rfl) (hij : i ≠ j := by decide)
    (hx : Loc X.env.scope x := by first | exact Or.inl rfl | exact Or.inr rfl) (hy : Loc X.env.scope y := by first | exact Or.inl rfl | exact Or.inr rfl)
    (hfx : X.fn x = true ∨ X.env.scope.names.lookup x = some .local := by first | exact .inl rfl | exact .inr rfl) (hfy : X.fn y = true ∨ X.env.scope.names.lookup y = some .local := by first | exact .inl rfl | exact .inr rfl)
    (hw : swappedStores [.Tuple [.Name x px, .Name y py] kt pt] (.Tuple [a, b] k2 pt2) X.env = pure none := by rfl)
    (hs : swapsWithSole [.Tuple [.Name x px, .Name y py] kt pt] (.Tuple [a, b] k2 pt2) pos.line X.env = pure false := by rfl)
    (h1 : (assignEach [.Tuple [.Name x px, .Name y py] kt pt] X.env).map (·.2) = [assign (.Tuple [.Name x px, .Name y py] kt pt) X.env] := by rfl)
    (e1 : (assignEach [.Name x px, .Name y py] X.env).map (·.2) = assign (.Name x px) X.env :: (assignEach [.Name y py] X.env).map (·.2) := by rfl) (e2 : (assignEach [.Name y py] X.env).map (·.2) = assign (.Name y py) X.env :: (assignEach [] X.env).map (·.2) := by rfl)
    (hn : (assignEach [.Name x px, .Name y py] X.env).length = 2 := by rfl) (hst : (assignEach [.Name x px, .Name y py] X.env).findIdx? (·.1) = none := by rfl) :
    JS X W (.Assign [.Tuple [.Name x px, .Name y py] kt pt] (.Tuple [a, b] k2 pt2) pos) (mPar [i, j] ms) := by
  obtain ⟨t, p, s⟩ := ha.ex
  refine ⟨_, ps_asg (pe_tup p) (pg_tup (n := 2) hc (pgs_cons (pg_name hN hi hx hfx) (pgs_cons (pg_name hN hj hy hfy) pgs_nil e2) e1) hn hst) hs hw h1, fun P F0 qc F cell S σ H D fl S' R hm k => ?_⟩
  unfold mPar at hm
  split at hm
  · rename_i rs S1 e1
    split at hm
    · rename_i hl
      cases hm
      refine s P F0 qc F cell S σ H _ rs S1 R e1 fun vs P' F' H' f1 R1 l => ?_
      have hv : vs.length = 2 := l.length.trans hl
      match vs, hv with
      | [v, w], _ =>
        refine ⟨by show 2 ≤ sizeLine; decide, fun q hq => ?_⟩
        have ex : Ext F' H' (upd F' q (.tup [v, w])) (upd H' q (.tup [v, w])) := Ext.new R1.fh hq
        have hF : F' q = none := R1.fh.free hq
        obtain ⟨c', R2⟩ := (l.mono (same_new (o := .tup [v, w]) hF)).all hl (R1.ext ex)
        refine ⟨q, [v, w], rfl, SqT.of upd_same, rfl, v, [w], rfl, w, [], rfl, rfl, ?_⟩
        rw [List.set_comm _ _ hij]
        exact k _ c' _ _ (f1.trans ex.f) R2
    · cases hm
  · cases hm
theorem ue_ixD (ha : UEJ X a ua) (hb : UEJ X b ub) (hs : PlainIx b := by exact fun _ _ => rfl) : UEJ X (.Subscript a b pos) (uBin ixD ua ub) := by
  obtain ⟨ta, pa, sa⟩ := ha.ex
  obtain ⟨tb, pb, sb⟩ := hb.ex
  exact ⟨uBin_mono ha.mono hb.mono, _, pe_ix ix_seq pa pb hs, ue_bin_snd ops_ix ha.mono hb.mono sa sb⟩
end
end VL

set_option Elab.async false
set_option linter.all false
set_option maxRecDepth 100000
set_option maxHeartbeats 4000000
/-! VL12: mirrors evaluated. -/
namespace VL
open PySem PySem.Spec PyProof.Rows L2
theorem ix_0 (n : Nat) : ixN (n + 1) 0 = some 0 := by unfold ixN; rw [if_pos (by omega), if_pos (by omega)]; rfl
theorem ix_nat {n k : Nat} (h : k < n) : ixN n (k : Int) = some k := by unfold ixN; rw [if_pos (by omega), if_pos (by omega)]; rfl
theorem ix_last (n : Nat) : ixN (n + 1) (-1) = some n := by unfold ixN; rw [if_neg (by omega), if_pos (by omega)]; congr 1; omega
theorem ix_int {n : Nat} {i : Int} (h0 : 0 ≤ i) (h : i < n) : ixN n i = some i.toNat := by unfold ixN; rw [if_pos h0, if_pos h]
theorem ltD_int (i j : Int) : ltD (.int i) (.int j) = some (.bool (decide (i < j))) := rfl
theorem leD_int (i j : Int) : leD (.int i) (.int j) = some (.bool (decide (i ≤ j))) := rfl
theorem gtD_int (i j : Int) : gtD (.int i) (.int j) = some (.bool (decide (j < i))) := rfl
theorem geD_int (i j : Int) : geD (.int i) (.int j) = some (.bool (decide (j ≤ i))) := rfl
theorem addD_int (i j : Int) : addD (.int i) (.int j) = some (.int (i + j)) := rfl
theorem addD_str {a b : Str} (h : a.length + b.length ≤ 100000) : addD (.str a) (.str b) = some (.str (a ++ b)) := if_pos h
theorem addD_list {a b : List PyData} (h : a.length + b.length ≤ 100000) : addD (.list a) (.list b) = some (.list (a ++ b)) := if_pos h
theorem addD_tuple {a b : List PyData} (h : a.length + b.length ≤ 100000) : addD (.tuple a) (.tuple b) = some (.tuple (a ++ b)) := if_pos h
theorem mulD_l {i j : Int} (h1 : -18446744073709551616 < i) (h2 : i < 18446744073709551616) : mulD (.int i) (.int j) = some (.int (i * j)) := if_pos (.inl ⟨h1, h2⟩)
theorem mulD_r {i j : Int} (h1 : -18446744073709551616 < j) (h2 : j < 18446744073709551616) : mulD (.int i) (.int j) = some (.int (i * j)) := if_pos (.inr ⟨h1, h2⟩)
theorem modD_pos {i j : Int} (h : 0 < j) : modD (.int i) (.int j) = some (.int (i % j)) := if_pos h
theorem fdivD_pos {i j : Int} (h : 0 < j) (h2 : j < 1073741824) : fdivD (.int i) (.int j) = some (.int (i / j)) := if_pos ⟨h, h2⟩
theorem powD_ok {i j : Int} (h : 0 ≤ j ∧ (Builtin.Int.intBits i : Int) * j ≤ 2 ^ 27) : powD (.int i) (.int j) = some (.int (i ^ j.toNat)) := if_pos h
end VL

set_option Elab.async false
set_option linter.all false
set_option maxRecDepth 100000
set_option maxHeartbeats 4000000
/-! VL13: plain facts: how long values are shown; loops of mirrors. -/
namespace VL
open PySem PySem.Spec PyProof.Rows L2

/-! ### a bound of what is shown -/
mutual
def big : PyData → Nat
  | .none => 5
  | .bool _ => 5
  | .int i => (toString i : Str).length
  | .str x => 10 * x.length + 2
  | .list xs => bigAll xs + 2
  | .tuple xs => bigAll xs + 3
  | .dict kvs => bigKv kvs + 2
def bigAll : List PyData → Nat
  | [] => 0
  | x :: xs => big x + 2 + bigAll xs
def bigKv : List (PyData × PyData) → Nat
  | [] => 0
  | (k, v) :: r => big k + big v + 4 + bigKv r
end
mutual
def okc : PyData → Bool
  | .str x => PyData.strOk x
  | .list xs | .tuple xs => okcAll xs
  | .dict kvs => okcKv kvs
  | .none | .bool _ | .int _ => true
def okcAll : List PyData → Bool
  | [] => true
  | x :: xs => okc x && okcAll xs
def okcKv : List (PyData × PyData) → Bool
  | [] => true
  | (k, v) :: r => okc k && okc v && okcKv r
end
theorem piled_listText : ∀ ts : List Str, (listText ts).length ≤ piled ts + 2
  | [] => by decide
  | t :: r => by
    have h := textFrom_length_pos r 1 (("[" : Str) ++ (if (0 : Nat) > 0 then ", " else "" : String) ++ t) (Nat.succ_pos 0)
    have e : ((("[" : Str) ++ (if (0 : Nat) > 0 then ", " else "" : String) ++ t)).length = 1 + t.length := by
      rw [strLen_append, strLen_append]
      rfl
    have hX : (listText (t :: r)).length = (textFrom 0 "[" (t :: r)).length + 1 := by
      show (textFrom 0 "[" (t :: r) ++ "]").length = _
      rw [strLen_append]
      rfl
    have hY : (textFrom 0 "[" (t :: r)).length = (textFrom 1 (("[" : Str) ++ (if (0 : Nat) > 0 then ", " else "" : String) ++ t) r).length := rfl
    rw [hX, hY, h, e, piled_cons]
    omega
theorem join_le (ts : List Str) : (Str.join ", " ts).length ≤ piled ts := by
  by_cases h : ts = []
  · subst h
    decide
  · have := join_length_add ts h
    omega
theorem piled_tupleText (ts : List Str) : (tupleText ts).length ≤ piled ts + 3 := by
  unfold tupleText
  rw [strLen_append, strLen_append]
  have e1 : ((("(" : String) : Str)).length = 1 := rfl
  have e3 : (((if ts.length == 1 then ",)" else ")" : String) : Str)).length ≤ 2 := by split <;> decide
  have := join_le ts
  omega
theorem piled_dictText (ts : List Str) : (dictText ts).length ≤ piled ts + 2 := by
  unfold dictText
  rw [strLen_append, strLen_append]
  have e1 : ((("{" : String) : Str)).length = 1 := rfl
  have e2 : ((("}" : String) : Str)).length = 1 := rfl
  have := join_le ts
  omega
theorem strOk_lt {x : Str} (h : PyData.strOk x = true) : ∀ c ∈ x.cps.toList, c < 0x110000 := by
  unfold PyData.strOk at h
  intro c hc
  rw [Array.all_eq_true'] at h
  have := h c (by simpa using hc)
  simpa using this
mutual
theorem shown_big : ∀ d : PyData, okc d = true → d.shown.length ≤ big d
  | .none, _ => by simp only [PyData.shown, big]; decide
  | .bool b, _ => by simp only [PyData.shown, big]; cases b <;> decide
  | .int i, _ => by simp only [PyData.shown, big]; exact Nat.le_refl _
  | .str x, h => by
    simp only [PyData.shown, big]
    exact StrLaws.reprText_len x fun c hc => Nat.lt_trans (strOk_lt (by simpa [okc] using h) c hc) (by decide)
  | .list xs, h => by
    simp only [PyData.shown, big]
    have := shown_bigAll xs (by simpa [okc] using h)
    have := piled_listText (PyData.shownAll xs)
    omega
  | .tuple xs, h => by
    simp only [PyData.shown, big]
    have := shown_bigAll xs (by simpa [okc] using h)
    have := piled_tupleText (PyData.shownAll xs)
    omega
  | .dict kvs, h => by
    simp only [PyData.shown, big]
    have := shown_bigKv kvs (by simpa [okc] using h)
    have := piled_dictText (PyData.shownKv kvs)
    omega
theorem shown_bigAll : ∀ xs : List PyData, okcAll xs = true → piled (PyData.shownAll xs) ≤ bigAll xs
  | [], _ => by simp only [PyData.shownAll, bigAll]; decide
  | x :: xs, h => by
    have h' : okc x = true ∧ okcAll xs = true := by simpa [okcAll] using h
    simp only [PyData.shownAll, bigAll, piled_cons]
    have := shown_big x h'.1
    have := shown_bigAll xs h'.2
    omega
theorem shown_bigKv : ∀ xs : List (PyData × PyData), okcKv xs = true → piled (PyData.shownKv xs) ≤ bigKv xs
  | [], _ => by simp only [PyData.shownKv, bigKv]; decide
  | (k, v) :: r, h => by
    have h' : (okc k = true ∧ okc v = true) ∧ okcKv r = true := by simpa [okcKv] using h
    simp only [PyData.shownKv, bigKv, piled_cons, strLen_append]
    have := shown_big k h'.1.1
    have := shown_big v h'.1.2
    have := shown_bigKv r h'.2
    have e2 : (((": " : String) : Str)).length = 2 := rfl
    omega
end
/-- a value that may be shown: not deeper than D, not longer than B -/
structure Fin (D B : Nat) (d : PyData) : Prop where
  s : d.showable = true
  o : okc d = true
  dp : d.depth ≤ D
  b : big d ≤ B
theorem Fin.mono {D B D' B' : Nat} {d : PyData} (h : Fin D B d) (h1 : D ≤ D') (h2 : B ≤ B') : Fin D' B' d := ⟨h.s, h.o, Nat.le_trans h.dp h1, Nat.le_trans h.b h2⟩
theorem Fin.repr {D B : Nat} {d : PyData} (h : Fin D B d) (h1 : D ≤ 60) (h2 : B ≤ 1000000) : reprF [d] = some (.str d.shown) := if_pos ⟨h.s, Nat.le_trans (shown_big d h.o) (Nat.le_trans h.b h2), Nat.le_trans h.dp h1⟩
/-- many values -/
structure FinA (D B : Nat) (ds : List PyData) : Prop where
  s : PyData.showableAll ds = true
  o : okcAll ds = true
  dp : PyData.depthAll ds ≤ D
  b : bigAll ds ≤ B
theorem FinA.nil {D B : Nat} : FinA D B [] := ⟨rfl, rfl, Nat.zero_le _, Nat.zero_le _⟩
theorem FinA.cons {D B C : Nat} {x : PyData} {xs : List PyData} (h : Fin D B x) (t : FinA D C xs) : FinA D (B + 2 + C) (x :: xs) :=
  ⟨by simp [PyData.showableAll, h.s, t.s], by simp [okcAll, h.o, t.o], by simp only [PyData.depthAll]; exact Nat.max_le.mpr ⟨h.dp, t.dp⟩, by simp only [bigAll]; have := h.b; have := t.b; omega⟩
theorem FinA.mono {D B D' B' : Nat} {d : List PyData} (h : FinA D B d) (h1 : D ≤ D') (h2 : B ≤ B') : FinA D' B' d := ⟨h.s, h.o, Nat.le_trans h.dp h1, Nat.le_trans h.b h2⟩
theorem FinA.append {D B C : Nat} : ∀ {xs ys : List PyData}, FinA D B xs → FinA D C ys → FinA D (B + C) (xs ++ ys)
  | [], ys, _, t => t.mono (Nat.le_refl _) (by omega)
  | x :: xs, ys, h, t => by
    have h1 : x.showable = true ∧ PyData.showableAll xs = true := by simpa [PyData.showableAll] using h.s
    have h2 : okc x = true ∧ okcAll xs = true := by simpa [okcAll] using h.o
    have h3 := h.dp
    simp only [PyData.depthAll] at h3
    have h4 := h.b
    simp only [bigAll] at h4
    have r := FinA.append (B := bigAll xs) (xs := xs) ⟨h1.2, h2.2, by omega, Nat.le_refl _⟩ t
    exact (FinA.cons (B := big x) ⟨h1.1, h2.1, by omega, Nat.le_refl _⟩ r).mono (Nat.le_refl _) (by omega)
theorem FinA.all {D B : Nat} (n : Nat) : ∀ {xs : List PyData}, xs.length ≤ n → (∀ x ∈ xs, Fin D B x) → FinA D (n * (B + 2)) xs
  | [], _, _ => .nil
  | x :: xs, hl, h => by
    cases n with
    | zero => simp at hl
    | succ n =>
      refine (FinA.cons (h x List.mem_cons_self) (FinA.all n (by simpa using hl) fun y hy => h y (List.mem_cons_of_mem _ hy))).mono (Nat.le_refl _) ?_
      rw [Nat.succ_mul]
      omega
theorem FinA.mem {D B : Nat} : ∀ {xs : List PyData}, FinA D B xs → ∀ x ∈ xs, Fin D B x
  | y :: xs, h, x, hx => by
    have h1 : y.showable = true ∧ PyData.showableAll xs = true := by simpa [PyData.showableAll] using h.s
    have h2 : okc y = true ∧ okcAll xs = true := by simpa [okcAll] using h.o
    have h3 := h.dp
    simp only [PyData.depthAll] at h3
    have h4 := h.b
    simp only [bigAll] at h4
    rcases List.mem_cons.mp hx with rfl | hx
    · exact ⟨h1.1, h2.1, by omega, by omega⟩
    · exact FinA.mem (xs := xs) ⟨h1.2, h2.2, by omega, by omega⟩ x hx
theorem FinA.len {D B : Nat} : ∀ {xs : List PyData}, FinA D B xs → 2 * xs.length ≤ B
  | [], h => Nat.zero_le _
  | y :: xs, h => by
    have h1 : y.showable = true ∧ PyData.showableAll xs = true := by simpa [PyData.showableAll] using h.s
    have h2 : okc y = true ∧ okcAll xs = true := by simpa [okcAll] using h.o
    have h3 := h.dp
    simp only [PyData.depthAll] at h3
    have h4 := h.b
    simp only [bigAll] at h4
    have := FinA.len (D := D) (B := bigAll xs) (xs := xs) ⟨h1.2, h2.2, by omega, Nat.le_refl _⟩
    rw [List.length_cons]
    omega
theorem FinA.sub {D B : Nat} {xs ys : List PyData} (h : FinA D B xs) (hs : ys.Sublist xs) : FinA D B ys := by
  induction hs generalizing B with
  | slnil => exact h
  | @cons l1 l2 a _ ih =>
    have h1 : a.showable = true ∧ PyData.showableAll l2 = true := by simpa [PyData.showableAll] using h.s
    have h2 : okc a = true ∧ okcAll l2 = true := by simpa [okcAll] using h.o
    have h3 := h.dp
    simp only [PyData.depthAll] at h3
    have h4 := h.b
    simp only [bigAll] at h4
    exact ih ⟨h1.2, h2.2, by omega, by omega⟩
  | @cons_cons l1 l2 a _ ih =>
    have h1 : a.showable = true ∧ PyData.showableAll l2 = true := by simpa [PyData.showableAll] using h.s
    have h2 : okc a = true ∧ okcAll l2 = true := by simpa [okcAll] using h.o
    have h3 := h.dp
    simp only [PyData.depthAll] at h3
    have h4 := h.b
    simp only [bigAll] at h4
    have r := ih (B := bigAll l2) ⟨h1.2, h2.2, by omega, Nat.le_refl _⟩
    exact (FinA.cons (B := big a) ⟨h1.1, h2.1, by omega, Nat.le_refl _⟩ r).mono (Nat.le_refl _) (by omega)
theorem FinA.list {D B : Nat} {xs : List PyData} (h : FinA D B xs) : Fin (D + 1) (B + 2) (.list xs) := ⟨by simpa [PyData.showable] using h.s, by simpa [okc] using h.o, by simp only [PyData.depth]; have := h.dp; omega, by simp only [big]; have := h.b; omega⟩
theorem FinA.tuple {D B : Nat} {xs : List PyData} (h : FinA D B xs) : Fin (D + 1) (B + 3) (.tuple xs) := ⟨by simpa [PyData.showable] using h.s, by simpa [okc] using h.o, by simp only [PyData.depth]; have := h.dp; omega, by simp only [big]; have := h.b; omega⟩
theorem FinA.of_list {D B : Nat} {xs : List PyData} (h : Fin D B (.list xs)) : FinA D B xs := ⟨by simpa [PyData.showable] using h.s, by simpa [okc] using h.o, by have := h.dp; simp only [PyData.depth] at this; omega, by have := h.b; simp only [big] at this; omega⟩
theorem FinA.of_tuple {D B : Nat} {xs : List PyData} (h : Fin D B (.tuple xs)) : FinA D B xs := ⟨by simpa [PyData.showable] using h.s, by simpa [okc] using h.o, by have := h.dp; simp only [PyData.depth] at this; omega, by have := h.b; simp only [big] at this; omega⟩
theorem Fin.dict1 {D B : Nat} {x : PyData} {z : Str} (hz : PyData.strOk z = true) (h : Fin D B x) : Fin (D + 1) (B + (10 * z.length + 8)) (.dict [(.str z, x)]) :=
  ⟨by simp [PyData.showable, PyData.showableKv, h.s], by simp [okc, okcKv, h.o, hz], by simp only [PyData.depth, PyData.depthKv]; have := h.dp; omega, by simp only [big, bigKv]; have := h.b; omega⟩
theorem Fin.str {D B : Nat} {z : Str} (hz : PyData.strOk z = true) (h : 10 * z.length + 2 ≤ B) : Fin D B (.str z) := ⟨rfl, by simpa [okc] using hz, by simp only [PyData.depth]; exact Nat.zero_le _, by simpa [big] using h⟩
theorem Fin.of_str {D B : Nat} {z : Str} (h : Fin D B (.str z)) : PyData.strOk z = true ∧ 10 * z.length + 2 ≤ B := ⟨by simpa [okc] using h.o, by simpa [big] using h.b⟩
theorem Fin.bool {D B : Nat} {b : Bool} (h : 5 ≤ B) : Fin D B (.bool b) := ⟨rfl, rfl, by simp only [PyData.depth]; exact Nat.zero_le _, by simpa [big] using h⟩
theorem Fin.none {D B : Nat} (h : 5 ≤ B) : Fin D B .none := ⟨rfl, rfl, by simp only [PyData.depth]; exact Nat.zero_le _, by simpa [big] using h⟩
/-- a look at a written value -/
def finC (D B : Nat) (d : PyData) : Bool := d.showable && okc d && decide (d.depth ≤ D) && decide (big d ≤ B)
theorem Fin.by {D B : Nat} {d : PyData} (h : finC D B d = true) : Fin D B d := by
  unfold finC at h
  simp only [Bool.and_eq_true, decide_eq_true_eq] at h
  exact ⟨h.1.1.1, h.1.1.2, h.1.2, h.2⟩

/-! ### loops -/
theorem forM_all {g : MG} {mb : MS} (I : Nat → Sl → Prop) : ∀ (ds : List PyData) (i : Nat) (S : Sl), I i S →
    (∀ (j : Nat) (d : PyData) (S : Sl), ds[j]? = some d → I (i + j) S → ∃ S1 S2, g d S = some S1 ∧ (mb S1 = some (.nx, S2) ∨ mb S1 = some (.ct, S2)) ∧ I (i + j + 1) S2) → ∃ S', forM g mb ds S = some (.nx, S') ∧ I (i + ds.length) S'
  | [], i, S, h, _ => ⟨S, rfl, h⟩
  | d :: ds, i, S, h, hs => by
    obtain ⟨S1, S2, e1, e2, h2⟩ := hs 0 d S rfl h
    obtain ⟨S', e3, h3⟩ := forM_all I ds (i + 1) S2 h2 fun j x S hx hI => by
      obtain ⟨T1, T2, q1, q2, q3⟩ := hs (j + 1) x S (by simpa using hx) (by rw [show i + (j + 1) = i + 1 + j by omega]; exact hI)
      exact ⟨T1, T2, q1, q2, by rw [show i + 1 + j + 1 = i + (j + 1) + 1 by omega]; exact q3⟩
    refine ⟨S', ?_, by rw [List.length_cons, show i + (ds.length + 1) = i + 1 + ds.length by omega]; exact h3⟩
    unfold forM
    rw [e1]
    rcases e2 with e2 | e2
    · simp only [e2]
      exact e3
    · simp only [e2]
      exact e3
/-- every turn ends as wanted, or the walk is left with r -/
theorem lcGo_all {g : MG} {mt : MT} {me : ME} {vs : List Nat} (I : Nat → Sl → List PyData → Prop) : ∀ (ds : List PyData) (i : Nat) (T : Sl) (acc : List PyData), I i T acc →
    (∀ (j : Nat) (d : PyData) (T : Sl) (acc : List PyData), ds[j]? = some d → I (i + j) T acc → ∃ T1 T2 T3 z, g d T = some T1 ∧ mt T1 = some (true, T2) ∧ me T2 = some (.v z, T3) ∧ acc.length < 100000 ∧ I (i + j + 1) (wp T3 vs) (acc ++ [z])) →
    ∃ acc' T', lcGo g mt me vs ds T acc = some (acc', T') ∧ I (i + ds.length) T' acc'
  | [], i, T, acc, h, _ => ⟨acc, T, rfl, h⟩
  | d :: ds, i, T, acc, h, hs => by
    obtain ⟨T1, T2, T3, z, e1, e2, e3, e4, h2⟩ := hs 0 d T acc rfl h
    obtain ⟨acc', T', e5, h3⟩ := lcGo_all I ds (i + 1) (wp T3 vs) (acc ++ [z]) h2 fun j x S ac hx hI => by
      obtain ⟨U1, U2, U3, y, q1, q2, q3, q4, q5⟩ := hs (j + 1) x S ac (by simpa using hx) (by rw [show i + (j + 1) = i + 1 + j by omega]; exact hI)
      exact ⟨U1, U2, U3, y, q1, q2, q3, q4, by rw [show i + 1 + j + 1 = i + (j + 1) + 1 by omega]; exact q5⟩
    refine ⟨acc', T', ?_, by rw [List.length_cons, show i + (ds.length + 1) = i + 1 + ds.length by omega]; exact h3⟩
    unfold lcGo
    rw [e1]
    simp only [e2, e3]
    rw [if_pos e4]
    exact e5
/-- a block whose slots stay -/
theorem lcGo_map {g : MG} {mt : MT} {me : ME} {vs : List Nat} {T : Sl} (f : PyData → PyData) : ∀ (ds : List PyData) (acc : List PyData), acc.length + ds.length ≤ 100000 →
    (∀ d ∈ ds, ∃ T1 T2 T3, g d T = some T1 ∧ mt T1 = some (true, T2) ∧ me T2 = some (.v (f d), T3) ∧ wp T3 vs = T) → lcGo g mt me vs ds T acc = some (acc ++ ds.map f, T)
  | [], acc, _, _ => by simp [lcGo]
  | d :: ds, acc, hl, hs => by
    obtain ⟨T1, T2, T3, e1, e2, e3, e4⟩ := hs d List.mem_cons_self
    rw [List.length_cons] at hl
    unfold lcGo
    rw [e1]
    simp only [e2, e3]
    rw [if_pos (by omega), e4, lcGo_map f ds (acc ++ [f d]) (by rw [List.length_append, List.length_singleton]; omega) fun x hx => hs x (List.mem_cons_of_mem _ hx)]
    simp

/-! ### single operations -/
theorem isi_str (d : PyData) : isiF "str" d = some (.bool (match d with | .str _ => true | _ => false)) := by
  cases d <;> (show (kitB _ "str").map PyData.bool = _; rfl)
end VL

set_option Elab.async false
set_option linter.all false
set_option maxRecDepth 100000
set_option maxHeartbeats 4000000
/-! VL14: what a mirror comes to. -/
namespace VL
open PySem PySem.Spec PyProof.Rows L2
def Run {α : Type} (r : Option (α × Sl)) (Q : α → Sl → Prop) : Prop := ∃ a S, r = some (a, S) ∧ Q a S
theorem run_eq {α : Type} {r : Option (α × Sl)} {a : α} {S : Sl} {Q : α → Sl → Prop} (h : r = some (a, S)) (q : Q a S) : Run r Q := ⟨a, S, h, q⟩
theorem Run.mono {α : Type} {r : Option (α × Sl)} {Q Q' : α → Sl → Prop} (h : Run r Q) (k : ∀ a S, Q a S → Q' a S) : Run r Q' := by
  obtain ⟨a, S, e, q⟩ := h
  exact ⟨a, S, e, k a S q⟩
section
variable {S S1 : Sl} {m n mb : MS} {me ma mc : ME} {mx : MX} {mt : MT} {mi : MI} {g : MG} {Q : Fl → Sl → Prop} {as : List SL} {k : Nat}
theorem run_def {P : PyData → List SL → Prop} (h : Run (m (startS k as)) fun fl S => ∃ d as', fl = .rt (.v d) ∧ asOut as S = some as' ∧ P d as') : ∃ d as', defM k m as = some (d, as') ∧ P d as' := by
  obtain ⟨fl, S, e, d, as', rfl, ho, p⟩ := h
  refine ⟨d, as', ?_, p⟩
  unfold defM
  rw [e]
  simp only [ho]
theorem run_seq (h : Run (m S) fun fl S1 => match fl with
    | .nx => Run (n S1) Q
    | fl => Q fl S1) : Run (mSeq m n S) Q := by
  obtain ⟨fl, S1, e, q⟩ := h
  unfold mSeq
  rw [e]
  cases fl with
  | nx => exact q
  | bk => exact ⟨_, _, rfl, q⟩
  | ct => exact ⟨_, _, rfl, q⟩
  | rt r => exact ⟨_, _, rfl, q⟩
  | rz c fs => exact ⟨_, _, rfl, q⟩
theorem run_seq_nx (h : m S = some (.nx, S1)) (q : Run (n S1) Q) : Run (mSeq m n S) Q := run_seq ⟨_, _, h, q⟩
theorem run_one (h : Run (m S) Q) : Run (mSeq m mNil S) Q := by
  obtain ⟨fl, S1, e, q⟩ := h
  unfold mSeq
  rw [e]
  cases fl with
  | nx => exact ⟨_, _, rfl, q⟩
  | bk => exact ⟨_, _, rfl, q⟩
  | ct => exact ⟨_, _, rfl, q⟩
  | rt r => exact ⟨_, _, rfl, q⟩
  | rz c fs => exact ⟨_, _, rfl, q⟩
theorem run_nil (q : Q .nx S) : Run (mNil S) Q := ⟨_, _, rfl, q⟩
theorem run_if {b : Bool} (h : mt S = some (b, S1)) (q : Run ((if b = true then m else n) S1) Q) : Run (mIfS mt m n S) Q := by
  unfold mIfS
  rw [h]
  cases b
  · exact q
  · exact q
theorem run_ifE (h : Run (mt S) fun b S1 => Run ((if b = true then m else n) S1) Q) : Run (mIfS mt m n S) Q := by
  obtain ⟨b, S1, e, q⟩ := h
  exact run_if e q
theorem run_for {ds : List PyData} (I : Nat → Sl → Prop) (hi : mi S = some (ds, S1)) (h0 : I 0 S1)
    (hs : ∀ (j : Nat) (d : PyData) (S : Sl), ds[j]? = some d → I j S → ∃ S2, g d S = some S2 ∧ Run (mb S2) fun fl S3 => (fl = .nx ∨ fl = .ct) ∧ I (j + 1) S3) (q : ∀ S', I ds.length S' → Q .nx S') : Run (mFor mi g mb S) Q := by
  obtain ⟨S', e, h⟩ := forM_all (g := g) (mb := mb) I ds 0 S1 h0 fun j d S hd hI => by
    rw [Nat.zero_add] at hI
    obtain ⟨S2, e1, fl, S3, e2, hfl, hI'⟩ := hs j d S hd hI
    refine ⟨S2, S3, e1, ?_, by rw [Nat.zero_add]; exact hI'⟩
    rcases hfl with rfl | rfl
    · exact .inl e2
    · exact .inr e2
  rw [Nat.zero_add] at h
  refine ⟨.nx, S', ?_, q S' h⟩
  unfold mFor
  rw [hi]
  exact e
/-- a walk that may be left by a return (or a break): I while it goes on, Q where it is left -/
theorem forM_some {g : MG} {mb : MS} (I : Nat → Sl → Prop) {Q : Fl → Sl → Prop} : ∀ (ds : List PyData) (i : Nat) (S : Sl), I i S →
    (∀ (j : Nat) (d : PyData) (S : Sl), ds[j]? = some d → I (i + j) S → ∃ S2, g d S = some S2 ∧ Run (mb S2) fun fl S3 => match fl with
      | .nx => I (i + j + 1) S3
      | .ct => I (i + j + 1) S3
      | .bk => Q .nx S3
      | .rt r => Q (.rt r) S3
      | .rz c fs => Q (.rz c fs) S3) → (∀ S', I (i + ds.length) S' → Q .nx S') → Run (forM g mb ds S) Q
  | [], i, S, h, _, k => ⟨_, _, rfl, k S h⟩
  | d :: ds, i, S, h, hs, k => by
    obtain ⟨S2, e1, fl, S3, e2, h2⟩ := hs 0 d S rfl h
    have rest : I (i + 1) S3 → Run (forM g mb ds S3) Q := fun hI => forM_some I ds (i + 1) S3 hI (fun j x S hx hI => by
      have q := hs (j + 1) x S (by simpa using hx) (by rw [show i + (j + 1) = i + 1 + j by omega]; exact hI)
      rw [show i + 1 + j + 1 = i + (j + 1) + 1 by omega]
      exact q) fun S' hI => k S' (by rw [List.length_cons, show i + (ds.length + 1) = i + 1 + ds.length by omega]; exact hI)
    unfold forM
    rw [e1]
    cases fl with
    | nx =>
      simp only [e2]
      exact rest h2
    | ct =>
      simp only [e2]
      exact rest h2
    | bk =>
      simp only [e2]
      exact ⟨_, _, rfl, h2⟩
    | rt r =>
      simp only [e2]
      exact ⟨_, _, rfl, h2⟩
    | rz c fs =>
      simp only [e2]
      exact ⟨_, _, rfl, h2⟩
theorem run_for_some {ds : List PyData} (I : Nat → Sl → Prop) (hi : mi S = some (ds, S1)) (h0 : I 0 S1)
    (hs : ∀ (j : Nat) (d : PyData) (S : Sl), ds[j]? = some d → I j S → ∃ S2, g d S = some S2 ∧ Run (mb S2) fun fl S3 => match fl with
      | .nx => I (j + 1) S3
      | .ct => I (j + 1) S3
      | .bk => Q .nx S3
      | .rt r => Q (.rt r) S3
      | .rz c fs => Q (.rz c fs) S3) (q : ∀ S', I ds.length S' → Q .nx S') : Run (mFor mi g mb S) Q := by
  unfold mFor
  rw [hi]
  refine forM_some (g := g) (mb := mb) I ds 0 S1 h0 (fun j d S hd hI => ?_) fun S' hI => q S' (by rw [Nat.zero_add] at hI; exact hI)
  rw [Nat.zero_add] at hI ⊢
  exact hs j d S hd hI
theorem run_forI (h : Run (mi S) fun ds S1 => Run (forM g mb ds S1) Q) : Run (mFor mi g mb S) Q := by
  obtain ⟨ds, S1, e, q⟩ := h
  unfold mFor
  rw [e]
  exact q
theorem run_forM {ds : List PyData} (I : Nat → Sl → Prop) (h0 : I 0 S)
    (hs : ∀ (j : Nat) (d : PyData) (S : Sl), ds[j]? = some d → I j S → ∃ S2, g d S = some S2 ∧ Run (mb S2) fun fl S3 => (fl = .nx ∨ fl = .ct) ∧ I (j + 1) S3) (q : ∀ S', I ds.length S' → Q .nx S') : Run (forM g mb ds S) Q := by
  obtain ⟨S', e, h⟩ := forM_all (g := g) (mb := mb) I ds 0 S h0 fun j d S hd hI => by
    rw [Nat.zero_add] at hI
    obtain ⟨S2, e1, fl, S3, e2, hfl, hI'⟩ := hs j d S hd hI
    refine ⟨S2, S3, e1, ?_, by rw [Nat.zero_add]; exact hI'⟩
    rcases hfl with rfl | rfl
    · exact .inl e2
    · exact .inr e2
  rw [Nat.zero_add] at h
  exact ⟨.nx, S', e, q S' h⟩
theorem run_rng1 {me : ME} {QI : List PyData → Sl → Prop} (h : Run (me S) fun r S1 => ∃ j, r = .v (.int j) ∧ -4611686018427387904 ≤ j ∧ j < 4611686018427387904 ∧ QI (rngD 0 j.toNat) S1) : Run (mRng1 (aCons me aNil) S) QI := by
  obtain ⟨r, S1, e, j, rfl, h1, h2, q⟩ := h
  refine ⟨_, _, ?_, q⟩
  simp only [mRng1, aCons, aNil, e]
  exact if_pos ⟨h1, h2⟩
theorem run_lcI {vs : List Nat} {me : ME} {QX : SL → Sl → Prop} (h : Run (mi S) fun ds S1 => ownOk S1 vs = true ∧ Run (lcGo g mt me vs ds (wp S1 vs) []) fun acc T => QX (.c acc) (unwp S1 T vs)) : Run (xLc mi g mt me vs S) QX := by
  obtain ⟨ds, S1, e, ho, acc, T, e2, q⟩ := h
  refine ⟨.c acc, _, ?_, q⟩
  simp only [xLc, e, ho, if_true, e2]
theorem run_lcGo {vs : List Nat} {me : ME} {ds : List PyData} {QL : List PyData → Sl → Prop} (I : Nat → Sl → List PyData → Prop) (h0 : I 0 S [])
    (hs : ∀ (j : Nat) (d : PyData) (T : Sl) (acc : List PyData), ds[j]? = some d → I j T acc → acc.length < 100000 ∧ ∃ T1, g d T = some T1 ∧ Run (mt T1) fun b T2 => b = true ∧ Run (me T2) fun r T3 => ∃ z, r = .v z ∧ I (j + 1) (wp T3 vs) (acc ++ [z]))
    (q : ∀ T acc, I ds.length T acc → QL acc T) : Run (lcGo g mt me vs ds S []) QL := by
  obtain ⟨acc', T', e, h⟩ := lcGo_all (g := g) (mt := mt) (me := me) (vs := vs) I ds 0 S [] h0 fun j d T acc hd hI => by
    rw [Nat.zero_add] at hI
    obtain ⟨hl, T1, e1, b, T2, e2, rfl, r, T3, e3, z, rfl, hI'⟩ := hs j d T acc hd hI
    exact ⟨T1, T2, T3, z, e1, e2, e3, hl, by rw [Nat.zero_add]; exact hI'⟩
  rw [Nat.zero_add] at h
  exact ⟨acc', T', e, q T' acc' h⟩
theorem rngD_len (lo : Int) (n : Nat) : (rngD lo n).length = n := by unfold rngD; rw [List.length_map, List.length_range]
theorem run_ret (h : Run (me S) fun r S1 => ∃ d, r = .v d ∧ Q (.rt (.v d)) S1) : Run (mRet me S) Q := by
  obtain ⟨r, S1, e, d, rfl, q⟩ := h
  unfold mRet
  rw [e]
  exact ⟨_, _, rfl, q⟩
theorem run_set {i : Nat} (h : Run (me S) fun r S1 => ∃ d, r = .v d ∧ Q .nx (S1.set i (some (.v d)))) : Run (mSet i me S) Q := by
  obtain ⟨r, S1, e, d, rfl, q⟩ := h
  unfold mSet
  rw [e]
  exact ⟨_, _, rfl, q⟩
theorem run_setX {i : Nat} (h : Run (mx S) fun r S1 => (∃ d, r = .v d ∧ Q .nx (S1.set i (some (.v d)))) ∨ ∃ ds, r = .c ds ∧ Q .nx (S1.set i (some (.c ds)))) : Run (mSetX i mx S) Q := by
  obtain ⟨r, S1, e, h⟩ := h
  unfold mSetX
  rw [e]
  rcases h with ⟨d, rfl, q⟩ | ⟨d, rfl, q⟩
  · exact ⟨_, _, rfl, q⟩
  · exact ⟨_, _, rfl, q⟩
variable {QE : SV → Sl → Prop} {QX : SL → Sl → Prop} {QB : Bool → Sl → Prop} {f : List PyData → Option PyData} {h2 : PyData → PyData → Option PyData}
theorem run_call1 (h : Run (me S) fun r S1 => ∃ d z, deref S1 r = some d ∧ f [d] = some z ∧ QE (.v z) S1) : Run (mCall f (aCons me aNil) S) QE := by
  obtain ⟨r, S1, e, d, z, hd, hf, q⟩ := h
  refine ⟨.v z, S1, ?_, q⟩
  simp only [mCall, aCons, aNil, e, derefs, hd, hf]
theorem run_bin (h : Run (ma S) fun r1 S1 => Run (mc S1) fun r2 S2 => ∃ d e z, deref S2 r1 = some d ∧ deref S2 r2 = some e ∧ h2 d e = some z ∧ QE (.v z) S2) : Run (mBin h2 ma mc S) QE := by
  obtain ⟨r1, S1, e1, r2, S2, e2, d, e, z, hd, he, hz, q⟩ := h
  refine ⟨.v z, S2, ?_, q⟩
  simp only [mBin, e1, e2, hd, he, hz]
theorem run_tell (h : Run (mx S) fun r S1 => (∃ d, r = .v d ∧ QE (.v d) S1) ∨ ∃ ds, r = .c ds ∧ QE (.v (.list ds)) S1) : Run (mTell mx S) QE := by
  obtain ⟨r, S1, e, h⟩ := h
  unfold mTell
  rw [e]
  rcases h with ⟨d, rfl, q⟩ | ⟨d, rfl, q⟩
  · exact ⟨_, _, rfl, q⟩
  · exact ⟨_, _, rfl, q⟩
theorem run_tval (h : Run (me S) fun r S1 => ∃ b, r = .v (.bool b) ∧ QB b S1) : Run (tVal me S) QB := by
  obtain ⟨r, S1, e, b, rfl, q⟩ := h
  unfold tVal
  rw [e]
  exact ⟨_, _, rfl, q⟩
theorem run_tnot (h : Run (mt S) fun b S1 => QB (!b) S1) : Run (tNotM mt S) QB := by
  obtain ⟨r, S1, e, q⟩ := h
  unfold tNotM
  rw [e]
  exact ⟨_, _, rfl, q⟩
/-- every turn gives one -/
theorem run_lc {vs : List Nat} {ds : List PyData} (I : Nat → Sl → List PyData → Prop) (hi : mi S = some (ds, S1)) (ho : ownOk S1 vs = true) (h0 : I 0 (wp S1 vs) [])
    (hs : ∀ (j : Nat) (d : PyData) (T : Sl) (acc : List PyData), ds[j]? = some d → I j T acc → acc.length < 100000 ∧ ∃ T1, g d T = some T1 ∧ Run (mt T1) fun b T2 => b = true ∧ Run (me T2) fun r T3 => ∃ z, r = .v z ∧ I (j + 1) (wp T3 vs) (acc ++ [z]))
    (q : ∀ T acc, I ds.length T acc → QX (.c acc) (unwp S1 T vs)) : Run (xLc mi g mt me vs S) QX := by
  obtain ⟨acc', T', e, h⟩ := lcGo_all (g := g) (mt := mt) (me := me) (vs := vs) I ds 0 (wp S1 vs) [] h0 fun j d T acc hd hI => by
    rw [Nat.zero_add] at hI
    obtain ⟨hl, T1, e1, b, T2, e2, rfl, r, T3, e3, z, rfl, hI'⟩ := hs j d T acc hd hI
    exact ⟨T1, T2, T3, z, e1, e2, e3, hl, by rw [Nat.zero_add]; exact hI'⟩
  rw [Nat.zero_add] at h
  refine ⟨.c acc', _, ?_, q T' acc' h⟩
  simp only [xLc, hi, ho, if_true, e]
/-- a block whose slots stay -/
theorem run_lc_map {vs : List Nat} {ds : List PyData} (F : PyData → PyData) (hi : mi S = some (ds, S1)) (ho : ownOk S1 vs = true) (hl : ds.length ≤ 100000)
    (hs : ∀ d ∈ ds, ∃ T1 T2 T3, g d (wp S1 vs) = some T1 ∧ mt T1 = some (true, T2) ∧ me T2 = some (.v (F d), T3) ∧ wp T3 vs = wp S1 vs) (q : QX (.c (ds.map F)) (unwp S1 (wp S1 vs) vs)) : Run (xLc mi g mt me vs S) QX := by
  refine ⟨.c (ds.map F), _, ?_, q⟩
  simp only [xLc, hi, ho, if_true, lcGo_map F ds [] (by simpa using hl) hs, List.nil_append]
end
end VL

set_option Elab.async false
set_option linter.all false
set_option maxRecDepth 100000
set_option maxHeartbeats 4000000
/-! VL15: texts by their signs; more of what a mirror comes to. -/
namespace VL
open PySem PySem.Spec PyProof.Rows L2
/-- the signs of a text -/
abbrev sg (z : Str) : List Nat := z.cps.toList
theorem len_sg (z : Str) : z.length = (sg z).length := by
  show z.cps.size = z.cps.toList.length
  rw [Array.length_toList]
theorem okS_iff {z : Str} : PyData.strOk z = true ↔ ∀ c ∈ sg z, c < 1114112 := by
  unfold PyData.strOk
  rw [Array.all_eq_true']
  constructor
  · intro h c hc
    have := h c (by simpa using hc)
    simpa using this
  · intro h c hc
    have := h c (by simpa using hc)
    simpa using this
theorem sg_ext {a b : Str} (h : sg a = sg b) : a = b := by
  cases a
  cases b
  congr 1
  exact Array.toList_inj.mp h
theorem sg_append (a b : Str) : sg (a ++ b) = sg a ++ sg b := TL.tl_append a b
theorem sg_mk (l : List Nat) : sg ⟨l.toArray⟩ = l := rfl
theorem len_append (a b : Str) : (a ++ b).length = a.length + b.length := by rw [len_sg, sg_append, List.length_append, ← len_sg, ← len_sg]
theorem ok_append {a b : Str} (h : PyData.strOk a = true) (h' : PyData.strOk b = true) : PyData.strOk (a ++ b) = true := by
  rw [okS_iff] at h h' ⊢
  intro c hc
  rw [sg_append] at hc
  rcases List.mem_append.mp hc with q | q
  · exact h c q
  · exact h' c q
theorem cut_sub (z : Str) (lo hi : Option Int) : (sg (cutS z lo hi)).Sublist (sg z) := by
  unfold cutS
  rw [sg_mk]
  exact (List.take_sublist _ _).trans (List.drop_sublist _ _)
theorem cut_len (z : Str) (lo hi : Option Int) : (cutS z lo hi).length ≤ z.length := by
  rw [len_sg, len_sg z]
  exact (cut_sub z lo hi).length_le
theorem ok_sub {a b : Str} (h : (sg a).Sublist (sg b)) (hb : PyData.strOk b = true) : PyData.strOk a = true := by
  rw [okS_iff] at hb ⊢
  exact fun c hc => hb c (h.subset hc)
theorem sg_rev (z : Str) : sg (revS z) = (sg z).reverse := rfl
theorem rev_len (z : Str) : (revS z).length = z.length := by rw [len_sg, sg_rev, List.length_reverse, ← len_sg]
theorem ok_rev {z : Str} (h : PyData.strOk z = true) : PyData.strOk (revS z) = true := by
  rw [okS_iff] at h ⊢
  intro c hc
  rw [sg_rev] at hc
  exact h c (List.mem_reverse.mp hc)
theorem sg_sign (c : Nat) : sg (⟨#[c]⟩ : Str) = [c] := rfl
theorem ok_sign {z : Str} {c : Nat} (h : PyData.strOk z = true) (hc : c ∈ sg z) : PyData.strOk (⟨#[c]⟩ : Str) = true := by
  rw [okS_iff] at h ⊢
  intro d hd
  rw [sg_sign] at hd
  rw [List.mem_singleton.mp hd]
  exact h c hc
theorem sg_join : ∀ (y : Str) (zs : List Str), sg (Str.join y zs) = (List.intercalate (sg y) (zs.map sg))
  | y, [] => rfl
  | y, [x] => by simp [Str.join, List.intercalate]
  | y, x :: z :: r => by
    show sg (x ++ y ++ Str.join y (z :: r)) = _
    rw [sg_append, sg_append, sg_join y (z :: r)]
    simp [List.intercalate, List.intersperse]
theorem join_len (y : Str) : ∀ zs : List Str, (Txt.join y zs).length ≤ (zs.map (·.length)).sum + zs.length * y.length := by
  intro zs
  rw [TL.join_eq]
  induction zs with
  | nil =>
    rw [len_sg]
    exact Nat.zero_le _
  | cons x r ih =>
    cases r with
    | nil =>
      show x.length ≤ _
      simp
    | cons z r =>
      show (x ++ y ++ Str.join y (z :: r)).length ≤ _
      rw [len_append, len_append]
      simp only [List.map_cons, List.sum_cons, List.length_cons] at ih ⊢
      have : (r.length + 1 + 1) * y.length = (r.length + 1) * y.length + y.length := by rw [Nat.add_mul (r.length + 1) 1]; omega
      omega
theorem join_mem (y : Str) : ∀ (zs : List Str) (c : Nat), c ∈ sg (Txt.join y zs) → c ∈ sg y ∨ ∃ z ∈ zs, c ∈ sg z := by
  intro zs c
  rw [TL.join_eq]
  induction zs with
  | nil => intro h; exact absurd (show c ∈ ([] : List Nat) from h) (by simp)
  | cons x r ih =>
    cases r with
    | nil => exact fun h => .inr ⟨x, by simp, h⟩
    | cons z r =>
      intro h
      have h : c ∈ sg (x ++ y ++ Str.join y (z :: r)) := h
      rw [sg_append, sg_append] at h
      rcases List.mem_append.mp h with h | h
      · rcases List.mem_append.mp h with h | h
        · exact .inr ⟨x, by simp, h⟩
        · exact .inl h
      · rcases ih h with q | ⟨u, hu, q⟩
        · exact .inl q
        · exact .inr ⟨u, List.mem_cons_of_mem _ hu, q⟩
theorem ok_join {y : Str} {zs : List Str} (hy : PyData.strOk y = true) (hz : ∀ z ∈ zs, PyData.strOk z = true) : PyData.strOk (Txt.join y zs) = true := by
  rw [okS_iff] at hy ⊢
  intro c hc
  rcases join_mem y zs c hc with q | ⟨z, h1, h2⟩
  · exact hy c q
  · exact okS_iff.mp (hz z h1) c h2
/-- signs, joined by nothing -/
theorem join_signs (cs : List Nat) : Txt.join "" (cs.map fun c => (⟨#[c]⟩ : Str)) = ⟨cs.toArray⟩ := by
  rw [TL.join_eq]
  refine sg_ext ?_
  rw [sg_mk]
  induction cs with
  | nil => rfl
  | cons c r ih =>
    cases r with
    | nil => rfl
    | cons d r =>
      show sg ((⟨#[c]⟩ : Str) ++ "" ++ Str.join "" ((d :: r).map fun c => (⟨#[c]⟩ : Str))) = _
      have ih' : sg (Str.join "" ((d :: r).map fun c => (⟨#[c]⟩ : Str))) = sg ⟨(d :: r).toArray⟩ := ih
      rw [sg_append, sg_append, ih']
      rfl
theorem foldl_rep (x : List Nat) : ∀ (n : Nat) (a : Array Nat), ((List.replicate n x.toArray).foldl (· ++ ·) a).toList = a.toList ++ (List.replicate n x).flatten
  | 0, a => by simp
  | n + 1, a => by
    rw [List.replicate_succ, List.foldl_cons, foldl_rep x n]
    simp [List.replicate_succ]
theorem sg_mul (x : Str) {n : Int} (h : 0 ≤ n) : sg (Txt.mul x n) = (List.replicate n.toNat (sg x)).flatten := by
  unfold Txt.mul
  by_cases h1 : n < 1
  · rw [if_pos h1]
    have : n = 0 := by omega
    subst this
    rfl
  · rw [if_neg h1]
    by_cases h2 : (n == 1 || x.length == 0) = true
    · rw [if_pos h2]
      simp only [Bool.or_eq_true, beq_iff_eq] at h2
      rcases h2 with h2 | h2
      · subst h2
        simp
      · have : sg x = [] := by
          rw [len_sg] at h2
          exact List.eq_nil_of_length_eq_zero h2
        rw [this]
        simp
    · rw [if_neg h2]
      have := foldl_rep (sg x) n.toNat #[]
      simpa using this
theorem mul_len (x : Str) {n : Int} (h : 0 ≤ n) : (Txt.mul x n).length = n.toNat * x.length := by
  rw [len_sg, sg_mul x h, List.length_flatten, List.map_replicate, List.sum_replicate_nat, ← len_sg]
theorem ok_mul {x : Str} {n : Int} (h : 0 ≤ n) (hx : PyData.strOk x = true) : PyData.strOk (Txt.mul x n) = true := by
  rw [okS_iff] at hx ⊢
  intro c hc
  rw [sg_mul x h] at hc
  obtain ⟨l, hl, hc⟩ := List.mem_flatten.mp hc
  rw [(List.mem_replicate.mp hl).2] at hc
  exact hx c hc

/-! ### rules -/
section
variable {S S1 : Sl} {m n mb : MS} {me ma mc : ME} {mx my : MX} {mas : MA} {ms : MXs} {mt : MT} {mi : MI} {g : MG} {Q : Fl → Sl → Prop} {QE : SV → Sl → Prop} {QA : List SV → Sl → Prop} {QX : SL → Sl → Prop} {QXs : List SL → Sl → Prop} {QB : Bool → Sl → Prop} {f : List PyData → Option PyData}
theorem run_anil (q : QA [] S) : Run (aNil S) QA := ⟨_, _, rfl, q⟩
theorem run_acons (h : Run (me S) fun r S1 => Run (mas S1) fun rs S2 => QA (r :: rs) S2) : Run (aCons me mas S) QA := by
  obtain ⟨r, S1, e, rs, S2, e2, q⟩ := h
  refine ⟨_, _, ?_, q⟩
  simp only [aCons, e, e2]
theorem run_tup (h : Run (mas S) fun rs S1 => ∃ ds, stables rs = some ds ∧ ds.length ≤ 100000 ∧ QE (.v (.tuple ds)) S1) : Run (mTup mas S) QE := by
  obtain ⟨rs, S1, e, ds, h1, h2, q⟩ := h
  refine ⟨_, _, ?_, q⟩
  simp only [mTup, e, h1]
  exact if_pos h2
theorem run_lst (h : Run (mas S) fun rs S1 => ∃ ds, stables rs = some ds ∧ ds.length ≤ 100000 ∧ QE (.v (.list ds)) S1) : Run (mLst mas S) QE := by
  obtain ⟨rs, S1, e, ds, h1, h2, q⟩ := h
  refine ⟨_, _, ?_, q⟩
  simp only [mLst, e, h1]
  exact if_pos h2
theorem run_xlst (h : Run (mas S) fun rs S1 => ∃ ds, stables rs = some ds ∧ ds.length ≤ 100000 ∧ QX (.c ds) S1) : Run (xLst mas S) QX := by
  obtain ⟨rs, S1, e, ds, h1, h2, q⟩ := h
  refine ⟨_, _, ?_, q⟩
  simp only [xLst, e, h1]
  exact if_pos h2
theorem run_call (h : Run (mas S) fun rs S1 => ∃ ds z, derefs S1 rs = some ds ∧ f ds = some z ∧ QE (.v z) S1) : Run (mCall f mas S) QE := by
  obtain ⟨rs, S1, e, ds, z, h1, h2, q⟩ := h
  refine ⟨_, _, ?_, q⟩
  simp only [mCall, e, h1, h2]
theorem run_unp (h : Run (me S) fun r S1 => ∃ d S2, r = .v d ∧ g d S1 = some S2 ∧ Q .nx S2) : Run (mUnp me g S) Q := by
  obtain ⟨r, S1, e, d, S2, rfl, h1, q⟩ := h
  refine ⟨_, _, ?_, q⟩
  simp only [mUnp, e, h1]
theorem run_par {is : List Nat} (h : Run (ms S) fun rs S1 => rs.length = is.length ∧ Q .nx (setAll is rs S1)) : Run (mPar is ms S) Q := by
  obtain ⟨rs, S1, e, h1, q⟩ := h
  refine ⟨_, _, ?_, q⟩
  simp only [mPar, e]
  exact if_pos h1
theorem run_xsnil (q : QXs [] S) : Run (xsNil S) QXs := ⟨_, _, rfl, q⟩
theorem run_xscons (h : Run (mx S) fun r S1 => ((∃ d, r = .v d) ∨ ∃ d, r = .c d) ∧ Run (ms S1) fun rs S2 => QXs (r :: rs) S2) : Run (xsCons mx ms S) QXs := by
  obtain ⟨r, S1, e, h1, rs, S2, e2, q⟩ := h
  refine ⟨r :: rs, S2, ?_, q⟩
  rcases h1 with ⟨d, rfl⟩ | ⟨d, rfl⟩ <;> simp only [xsCons, e, e2]
theorem run_mV (h : Run (me S) fun r S1 => ∃ d, r = .v d ∧ QX (.v d) S1) : Run (mV me S) QX := by
  obtain ⟨r, S1, e, d, rfl, q⟩ := h
  refine ⟨_, _, ?_, q⟩
  simp only [mV, e]
theorem run_put {j : Nat} (h : Run (me S) fun r S1 => ∃ d, r = .v d ∧ Run (ma S1) fun r2 S2 => ∃ (k : Int) (ys xs : List PyData) (i : Nat), r2 = .v (.int k) ∧ heldAt S1 j = some ys ∧ heldAt S2 j = some xs ∧ ixN xs.length k = some i ∧ Q .nx (putAt S2 j (xs.set i d))) : Run (mPut j ma me S) Q := by
  obtain ⟨r, S1, e, d, rfl, r2, S2, e2, k, ys, xs, i, rfl, h1, h2, h3, q⟩ := h
  refine ⟨_, _, ?_, q⟩
  simp only [mPut, e, e2, h1, h2, h3]
theorem run_app {j : Nat} {ys : List PyData} (h0 : heldAt S j = some ys) (h : Run (me S) fun r S1 => ∃ d xs, r = .v d ∧ heldAt S1 j = some xs ∧ xs.length < 100000 ∧ Q .nx (putAt S1 j (xs ++ [d]))) : Run (mApp j me S) Q := by
  obtain ⟨r, S1, e, d, xs, rfl, h1, h2, q⟩ := h
  refine ⟨_, _, ?_, q⟩
  simp only [mApp, h0, e, h1]
  exact if_pos h2
theorem run_ins {j : Nat} {ys : List PyData} (h0 : heldAt S j = some ys) (h : Run (ma S) fun r0 S0 => ∃ k : Int, r0 = .v (.int k) ∧ Run (me S0) fun r S1 => ∃ d xs, r = .v d ∧ heldAt S1 j = some xs ∧ xs.length < 100000 ∧ 0 ≤ k ∧ k ≤ 100000 ∧ Q .nx (putAt S1 j (xs.take k.toNat ++ [d] ++ xs.drop k.toNat))) : Run (mIns j ma me S) Q := by
  obtain ⟨r0, S0, e0, k, rfl, r, S1, e, d, xs, rfl, h1, h2, h3, h4, q⟩ := h
  refine ⟨_, _, ?_, q⟩
  simp only [mIns, h0, e0, e, h1]
  exact if_pos ⟨h2, h3, h4⟩
theorem run_tand {mu : MT} (h : Run (mt S) fun b S1 => match b with
    | true => Run (mu S1) QB
    | false => QB false S1) : Run (tAndM mt mu S) QB := by
  obtain ⟨b, S1, e, q⟩ := h
  unfold tAndM
  rw [e]
  cases b
  · exact ⟨_, _, rfl, q⟩
  · exact q
theorem run_tor {mu : MT} (h : Run (mt S) fun b S1 => match b with
    | true => QB true S1
    | false => Run (mu S1) QB) : Run (tOrM mt mu S) QB := by
  obtain ⟨b, S1, e, q⟩ := h
  unfold tOrM
  rw [e]
  cases b
  · exact q
  · exact ⟨_, _, rfl, q⟩
theorem run_mand (h : Run (ma S) fun r S1 => ∃ b, r = .v (.bool b) ∧ match b with
    | true => Run (mc S1) QE
    | false => QE (.v (.bool false)) S1) : Run (mAnd ma mc S) QE := by
  obtain ⟨r, S1, e, b, rfl, q⟩ := h
  unfold mAnd
  rw [e]
  cases b
  · exact ⟨_, _, rfl, q⟩
  · exact q
theorem run_mor (h : Run (ma S) fun r S1 => ∃ b, r = .v (.bool b) ∧ match b with
    | true => QE (.v (.bool true)) S1
    | false => Run (mc S1) QE) : Run (mOr ma mc S) QE := by
  obtain ⟨r, S1, e, b, rfl, q⟩ := h
  unfold mOr
  rw [e]
  cases b
  · exact q
  · exact ⟨_, _, rfl, q⟩
theorem run_callF {nn : Nat} {mf : MF} {rs : List SV} {as as' : List SL} {d : PyData} {S2 : Sl} (h : mas S = some (rs, S1)) (hn : rs.length = nn) (nd : (ptrs rs).Nodup) (ha : argsOf S1 rs = some as) (hm : mf as = some (d, as')) (hp : putBack S1 rs as' = some S2) (q : QE (.v d) S2) : Run (mCallF nn mf mas S) QE := by
  refine ⟨_, _, ?_, q⟩
  simp only [mCallF, h]
  rw [if_pos ⟨hn, nd⟩]
  simp only [ha, hm, hp]
theorem run_popAt {j : Nat} {ys : List PyData} (h0 : heldAt S j = some ys) (h : Run (me S) fun r S1 => ∃ (k : Int) (xs : List PyData) (i : Nat), r = .v (.int k) ∧ heldAt S1 j = some xs ∧ ixN xs.length k = some i ∧ xs.length ≤ 100000 ∧ Q .nx (putAt S1 j (xs.eraseIdx i))) : Run (mPopAt j me S) Q := by
  obtain ⟨r, S1, e, k, xs, i, rfl, h1, h2, h3, q⟩ := h
  refine ⟨_, _, ?_, q⟩
  simp only [mPopAt, h0, e, h1, h2]
  exact if_pos h3
theorem run_frz {i : Nat} {xs : List PyData} (h0 : S[i]? = some (some (.c xs))) (h : Run (m (S.set i (some (.v (.list xs))))) Q) : Run (mFrz i m S) Q := by
  unfold mFrz
  simp only [h0]
  exact h
end
theorem joinD {y : Str} {zs : List Str} (h : (zs.map (·.length)).sum + zs.length * y.length ≤ 100000) : joinF y (.list (zs.map .str)) = some (.str (Txt.join y zs)) := by
  unfold joinF
  simp only [strsOf_map]
  exact if_pos h
theorem eqD_int (i j : Int) : eqDD (.int i) (.int j) = some (.bool (decide (i = j))) := rfl
theorem neD_int (i j : Int) : neDD (.int i) (.int j) = some (.bool (!decide (i = j))) := rfl
theorem shp_str {a : Str} (h : PyData.strOk a = true) : SeqAt.shaped (.str a) = true := by
  unfold SeqAt.shaped
  simp [PyData.canLay0, PyData.depth, h]
theorem eqD_strs (a b : Str) : eqDD (.str a) (.str b) = some (.bool (decide (a = b))) := rfl
theorem neD_strs (a b : Str) : neDD (.str a) (.str b) = some (.bool (!decide (a = b))) := rfl
theorem eqD_str {a b : Str} (h : PyData.strOk a = true) (h' : PyData.strOk b = true) : eqDD (.str a) (.str b) = some (.bool (decide (a = b))) := rfl
theorem neD_str {a b : Str} (h : PyData.strOk a = true) (h' : PyData.strOk b = true) : neDD (.str a) (.str b) = some (.bool (!decide (a = b))) := rfl
theorem eqD_tupE (xs : List PyData) : eqDD (.tuple xs) (.tuple []) = some (.bool xs.isEmpty) := by
  unfold eqDD eqD
  rfl
theorem FinA.set {D B C : Nat} {d : PyData} (h : Fin D C d) : ∀ {xs : List PyData} (i : Nat), FinA D B xs → FinA D (B + C + 2) (xs.set i d)
  | [], _, t => t.mono (Nat.le_refl _) (by omega)
  | x :: xs, i, t => by
    have h1 : x.showable = true ∧ PyData.showableAll xs = true := by simpa [PyData.showableAll] using t.s
    have h2 : okc x = true ∧ okcAll xs = true := by simpa [okcAll] using t.o
    have h3 := t.dp
    simp only [PyData.depthAll] at h3
    have h4 := t.b
    simp only [bigAll] at h4
    have tl : FinA D (bigAll xs) xs := ⟨h1.2, h2.2, by omega, Nat.le_refl _⟩
    cases i with
    | zero => exact (FinA.cons h tl).mono (Nat.le_refl _) (by omega)
    | succ i => exact (FinA.cons (B := big x) ⟨h1.1, h2.1, by omega, Nat.le_refl _⟩ (FinA.set h i tl)).mono (Nat.le_refl _) (by omega)
theorem FinA.strs {B D : Nat} {rs : List Str} (h : FinA D B (rs.map .str)) : FinA 0 B (rs.map .str) := ⟨h.s, h.o, by
  clear h
  induction rs with
  | nil => exact Nat.le_refl _
  | cons x r ih =>
    simp only [List.map_cons, PyData.depthAll, PyData.depth]
    omega, h.b⟩
theorem FinA.lens {D B : Nat} : ∀ {rs : List Str}, FinA D B (rs.map .str) → 10 * (rs.map (·.length)).sum + 4 * rs.length ≤ B
  | [], _ => Nat.zero_le _
  | x :: r, h => by
    have h1 : (PyData.str x).showable = true ∧ PyData.showableAll (r.map .str) = true := by simpa [PyData.showableAll] using h.s
    have h2 : okc (.str x) = true ∧ okcAll (r.map .str) = true := by simpa [okcAll] using h.o
    have h3 := h.dp
    simp only [List.map_cons, PyData.depthAll] at h3
    have h4 := h.b
    simp only [List.map_cons, bigAll, big] at h4
    have := FinA.lens (D := D) (B := bigAll (r.map .str)) (rs := r) ⟨h1.2, h2.2, by omega, Nat.le_refl _⟩
    simp only [List.map_cons, List.sum_cons, List.length_cons]
    omega
theorem sum_mem {x : Str} : ∀ {rs : List Str}, x ∈ rs → x.length ≤ (rs.map (·.length)).sum
  | y :: r, h => by
    simp only [List.map_cons, List.sum_cons]
    rcases List.mem_cons.mp h with rfl | h
    · omega
    · have := sum_mem h
      omega
end VL

set_option Elab.async false
set_option linter.all false
set_option maxRecDepth 100000
set_option maxHeartbeats 4000000
/-! VL21: comprehensions and loops of mirrors as equations; slices of texts. -/
namespace VL
open PySem PySem.Spec PyProof.Rows L2
theorem fng_noneM {P : Program} {w : World} {K : PySem.W.Frag} {mg : Str → Option Value} {base : Heap} {CX : CXT} {k n : Nat} {f : Addr} {fd : FuncData} {ps : List Str} : FnG P w K mg base CX k f fd ps (spM K n fun _ => none) :=
  ⟨fun vs H Q E h => h.1.trans (by obtain ⟨_, F, as, d, as', _, _, h, _⟩ := h; cases h), fun A outer s H args us vs Q E _ _ _ _ _ h => (by obtain ⟨_, F, as, d, as', _, _, h, _⟩ := h; cases h)⟩
theorem fng_noneX {P : Program} {w : World} {K : PySem.W.Frag} {mg : Str → Option Value} {base : Heap} {CX : CXT} {k n : Nat} {f : Addr} {fd : FuncData} {ps : List Str} : FnG P w K mg base CX k f fd ps (spX K n fun _ => none) :=
  ⟨fun vs H Q E h => h.1.trans (by obtain ⟨_, F, as, d, as', _, _, h, _⟩ := h; cases h), fun A outer s H args us vs Q E _ _ _ _ _ h => (by obtain ⟨_, F, as, d, as', _, _, h, _⟩ := h; cases h)⟩
theorem unwp_wp (S : Sl) : ∀ vs : List Nat, unwp S (wp S vs) vs = S := by
  intro vs
  have key : ∀ (vs : List Nat) (T : Sl), T.length = S.length → (∀ i, i ∉ vs → T[i]? = S[i]?) → unwp S T vs = S := by
    intro vs
    induction vs with
    | nil =>
      intro T hl h
      exact List.ext_getElem? fun i => h i (by simp)
    | cons v vs ih =>
      intro T hl h
      refine List.ext_getElem? fun i => ?_
      unfold unwp
      by_cases q : v = i
      · subst q
        by_cases hv : v < S.length
        · rw [List.getElem?_set_self (by rw [unwp_length, hl]; exact hv)]
          rw [List.getElem?_eq_getElem hv]
          rfl
        · rw [List.getElem?_eq_none (by rw [List.length_set, unwp_length, hl]; omega), List.getElem?_eq_none (by omega)]
      · rw [List.getElem?_set_ne q]
        by_cases hi : i ∈ vs
        · by_cases hv : i < S.length
          · have aux : ∀ (us : List Nat), i ∈ us → (unwp S T us)[i]? = S[i]? := by
              intro us
              induction us with
              | nil => intro z; cases z
              | cons u us ih2 =>
                intro z
                unfold unwp
                by_cases e : u = i
                · subst e
                  rw [List.getElem?_set_self (by rw [unwp_length, hl]; exact hv), List.getElem?_eq_getElem hv]
                  rfl
                · rw [List.getElem?_set_ne e]
                  exact ih2 ((List.mem_cons.mp z).elim (fun y => absurd y.symm e) id)
            exact aux vs hi
          · rw [List.getElem?_eq_none (by rw [unwp_length, hl]; omega), List.getElem?_eq_none (by omega)]
        · have aux : ∀ (us : List Nat), i ∉ us → (unwp S T us)[i]? = T[i]? := by
            intro us
            induction us with
            | nil => intro _; rfl
            | cons u us ih2 =>
              intro z
              unfold unwp
              rw [List.getElem?_set_ne (show ¬ u = i from fun e => z (by rw [e]; exact List.mem_cons_self))]
              exact ih2 fun y => z (List.mem_cons_of_mem _ y)
          rw [aux vs hi]
          exact h i fun z => (List.mem_cons.mp z).elim (fun y => q y.symm) hi
  refine key vs _ (wp_length S vs) fun i hi => ?_
  have aux : ∀ (us : List Nat), i ∉ us → (wp S us)[i]? = S[i]? := by
    intro us
    induction us with
    | nil => intro _; rfl
    | cons u us ih2 =>
      intro z
      unfold wp
      rw [List.getElem?_set_ne (show ¬ u = i from fun e => z (by rw [e]; exact List.mem_cons_self))]
      exact ih2 fun y => z (List.mem_cons_of_mem _ y)
  exact aux vs hi
section
variable {S S1 : Sl} {mi : MI} {g : MG} {mt : MT} {me : ME} {mb : MS} {vs : List Nat} {ds : List PyData} {i : Nat}
theorem xlc_map (F : PyData → PyData) (hi : mi S = some (ds, S1)) (ho : ownOk S1 vs = true) (hl : ds.length ≤ 100000)
    (hs : ∀ d ∈ ds, ∃ T1, g d (wp S1 vs) = some T1 ∧ mt T1 = some (true, T1) ∧ me T1 = some (.v (F d), T1) ∧ wp T1 vs = wp S1 vs) : xLc mi g mt me vs S = some (.c (ds.map F), S1) := by
  simp only [xLc, hi, ho, if_true, lcGo_map F ds [] (by simpa using hl) (fun d hd => by
    obtain ⟨T1, h1, h2, h3, h4⟩ := hs d hd
    exact ⟨T1, T1, T1, h1, h2, h3, h4⟩), List.nil_append, unwp_wp]
/-- [e for x in ..], slots stay -/
theorem lc1 (F : PyData → PyData) (hi : mi S = some (ds, S1)) (ho : ownOk S1 [i] = true) (hl : ds.length ≤ 100000)
    (hs : ∀ d ∈ ds, me (S1.set i (some (.v d))) = some (.v (F d), S1.set i (some (.v d)))) : xLc mi (gSet i) tYesM me [i] S = some (.c (ds.map F), S1) :=
  xlc_map F hi ho hl fun d hd => ⟨S1.set i (some (.v d)), by show some ((S1.set i none).set i _) = _; rw [List.set_set], rfl, hs d hd, by show (S1.set i _).set i none = S1.set i none; rw [List.set_set]⟩
theorem lcGo_flt {T : Sl} (p : PyData → Bool) (F : PyData → PyData) : ∀ (ds acc : List PyData), acc.length + ds.length ≤ 100000 →
    (∀ d ∈ ds, ∃ T1, g d T = some T1 ∧ mt T1 = some (p d, T1) ∧ (p d = true → me T1 = some (.v (F d), T1)) ∧ wp T1 vs = T) → lcGo g mt me vs ds T acc = some (acc ++ (ds.filter p).map F, T)
  | [], acc, _, _ => by simp [lcGo]
  | d :: ds, acc, hl, hs => by
    obtain ⟨T1, e1, e2, e3, e4⟩ := hs d List.mem_cons_self
    rw [List.length_cons] at hl
    unfold lcGo
    rw [e1]
    cases hp : p d with
    | false =>
      rw [hp] at e2
      simp only [e2, e4]
      rw [lcGo_flt p F ds acc (by omega) fun x hx => hs x (List.mem_cons_of_mem _ hx), List.filter_cons_of_neg (by rw [hp]; exact Bool.false_ne_true)]
    | true =>
      rw [hp] at e2
      simp only [e2, e3 hp]
      rw [if_pos (by omega), e4, lcGo_flt p F ds (acc ++ [F d]) (by rw [List.length_append, List.length_singleton]; omega) fun x hx => hs x (List.mem_cons_of_mem _ hx), List.filter_cons_of_pos hp, List.map_cons, List.append_assoc]
      rfl
/-- [e for x in .. if t], slots stay -/
theorem lcf1 (p : PyData → Bool) (F : PyData → PyData) (hi : mi S = some (ds, S1)) (ho : ownOk S1 [i] = true) (hl : ds.length ≤ 100000)
    (ht : ∀ d ∈ ds, mt (S1.set i (some (.v d))) = some (p d, S1.set i (some (.v d)))) (hs : ∀ d ∈ ds, p d = true → me (S1.set i (some (.v d))) = some (.v (F d), S1.set i (some (.v d)))) : xLc mi (gSet i) mt me [i] S = some (.c ((ds.filter p).map F), S1) := by
  have e := lcGo_flt (g := gSet i) (mt := mt) (me := me) (vs := [i]) (T := wp S1 [i]) p F ds [] (by simpa using hl) fun d hd => ⟨S1.set i (some (.v d)), by show some ((S1.set i none).set i _) = _; rw [List.set_set], ht d hd, hs d hd, by show (S1.set i _).set i none = S1.set i none; rw [List.set_set]⟩
  simp only [xLc, hi, ho, if_true, e, List.nil_append, unwp_wp]
/-- a walk that ends at the first that isn't as it should be -/
theorem forM_find (ok : PyData → Bool) (fl : PyData → Fl) (hfl : ∀ d, (∃ r, fl d = .rt r) ∨ ∃ c fs, fl d = .rz c fs) (Z : Sl → Prop) : ∀ (ds : List PyData) (S : Sl), (∀ d ∈ ds, ∀ S, Z S → ∃ S1 S2, g d S = some S1 ∧ Z S2 ∧ mb S1 = some (if ok d = true then .nx else fl d, S2)) → Z S →
    ∃ S', Z S' ∧ forM g mb ds S = some (match ds.find? (fun d => !ok d) with
      | none => .nx
      | some d => fl d, S')
  | [], S, _, h => ⟨S, h, rfl⟩
  | d :: ds, S, hs, h => by
    obtain ⟨S1, S2, e1, h2, e2⟩ := hs d List.mem_cons_self S h
    unfold forM
    rw [e1]
    cases ho : ok d with
    | true =>
      rw [ho, if_pos rfl] at e2
      obtain ⟨S', h3, e3⟩ := forM_find ok fl hfl Z ds S2 (fun x hx => hs x (List.mem_cons_of_mem _ hx)) h2
      refine ⟨S', h3, ?_⟩
      simp only [e2]
      rw [e3, List.find?_cons_of_neg (by rw [ho]; exact Bool.false_ne_true)]
    | false =>
      rw [ho, if_neg Bool.false_ne_true] at e2
      refine ⟨S2, h2, ?_⟩
      rw [List.find?_cons_of_pos (by rw [ho]; rfl)]
      rcases hfl d with ⟨r, hr⟩ | ⟨c, fs, hr⟩
      · rw [hr] at e2
        simp only [e2, hr]
      · rw [hr] at e2
        simp only [e2, hr]
theorem for_find (ok : PyData → Bool) (fl : PyData → Fl) (hfl : ∀ d, (∃ r, fl d = .rt r) ∨ ∃ c fs, fl d = .rz c fs) (Z : Sl → Prop) (hi : mi S = some (ds, S1)) (hs : ∀ d ∈ ds, ∀ S, Z S → ∃ S1 S2, g d S = some S1 ∧ Z S2 ∧ mb S1 = some (if ok d = true then .nx else fl d, S2)) (h : Z S1) :
    ∃ S', Z S' ∧ mFor mi g mb S = some (match ds.find? (fun d => !ok d) with
      | none => .nx
      | some d => fl d, S') := by
  obtain ⟨S', h1, h2⟩ := forM_find ok fl hfl Z ds S1 hs h
  exact ⟨S', h1, by unfold mFor; rw [hi]; exact h2⟩
/-- a walk through all, by an invariant -/
theorem for_all (I : Nat → Sl → Prop) (hi : mi S = some (ds, S1)) (h0 : I 0 S1) (hs : ∀ (j : Nat) (d : PyData) (S : Sl), ds[j]? = some d → I j S → ∃ S1 S2, g d S = some S1 ∧ (mb S1 = some (.nx, S2) ∨ mb S1 = some (.ct, S2)) ∧ I (j + 1) S2) :
    ∃ S', mFor mi g mb S = some (.nx, S') ∧ I ds.length S' := by
  obtain ⟨S', e, h⟩ := forM_all (g := g) (mb := mb) I ds 0 S1 h0 fun j d S hd hI => by
    rw [Nat.zero_add] at hI ⊢
    exact hs j d S hd hI
  rw [Nat.zero_add] at h
  refine ⟨S', ?_, h⟩
  unfold mFor
  rw [hi]
  exact e
/-- [e for x in ..], by an invariant of the slots -/
theorem lc_all (I : Nat → Sl → List PyData → Prop) (hi : mi S = some (ds, S1)) (ho : ownOk S1 vs = true) (hl : ds.length ≤ 100000) (h0 : I 0 (wp S1 vs) [])
    (hs : ∀ (j : Nat) (d : PyData) (T : Sl) (acc : List PyData), ds[j]? = some d → I j T acc → ∃ T1 T2 z, g d T = some T1 ∧ mt T1 = some (true, T1) ∧ me T1 = some (.v z, T2) ∧ I (j + 1) (wp T2 vs) (acc ++ [z])) :
    ∃ acc T, xLc mi g mt me vs S = some (.c acc, unwp S1 T vs) ∧ acc.length = ds.length ∧ I ds.length T acc := by
  obtain ⟨acc, T, e, h⟩ := lcGo_all (g := g) (mt := mt) (me := me) (vs := vs) (fun j T acc => I j T acc ∧ acc.length = j) ds 0 (wp S1 vs) [] ⟨h0, rfl⟩ fun j d T acc hd hI => by
    rw [Nat.zero_add] at hI ⊢
    obtain ⟨T1, T2, z, e1, e2, e3, h3⟩ := hs j d T acc hd hI.1
    have := (List.getElem?_eq_some_iff.mp hd).1
    exact ⟨T1, T1, T2, z, e1, e2, e3, by rw [hI.2]; omega, h3, by rw [List.length_append, List.length_singleton, hI.2]⟩
  rw [Nat.zero_add] at h
  refine ⟨acc, T, ?_, h.2, h.1⟩
  simp only [xLc, hi, ho, if_true, e]
end
theorem map_bool (f : PyData → Bool) (xs : List PyData) : (xs.map fun d => PyData.bool (f d)) = (xs.map f).map .bool := by rw [List.map_map]; rfl
theorem all_id {α : Type} (f : α → Bool) (l : List α) : (l.map f).all id = l.all f := by
  rw [List.all_map]
  rfl
theorem any_id {α : Type} (f : α → Bool) (l : List α) : (l.map f).any id = l.any f := by
  rw [List.any_map]
  rfl
theorem allF_map (f : PyData → Bool) (xs : List PyData) : allF [.list (xs.map fun d => PyData.bool (f d))] = some (.bool (xs.all f)) := by
  rw [map_bool]
  show (boolsOf _).map _ = _
  rw [boolsOf_map, ← all_id]
  rfl
theorem anyF_map (f : PyData → Bool) (xs : List PyData) : anyF [.list (xs.map fun d => PyData.bool (f d))] = some (.bool (xs.any f)) := by
  rw [map_bool]
  show (boolsOf _).map _ = _
  rw [boolsOf_map, ← any_id]
  rfl
/-- truths of data, not to be written out -/
def blist (f : PyData → Bool) (xs : List PyData) : List PyData := xs.map fun d => .bool (f d)
theorem allF_blist (f : PyData → Bool) (xs : List PyData) : allF [.list (blist f xs)] = some (.bool (xs.all f)) := allF_map f xs
theorem anyF_blist (f : PyData → Bool) (xs : List PyData) : anyF [.list (blist f xs)] = some (.bool (xs.any f)) := anyF_map f xs
theorem lcb {S S1 : Sl} {mi : MI} {me : ME} {ds : List PyData} {i : Nat} (f : PyData → Bool) (hi : mi S = some (ds, S1)) (ho : ownOk S1 [i] = true) (hl : ds.length ≤ 100000)
    (hs : ∀ d ∈ ds, me (S1.set i (some (.v d))) = some (.v (.bool (f d)), S1.set i (some (.v d)))) : xLc mi (gSet i) tYesM me [i] S = some (.c (blist f ds), S1) := lc1 (fun d => .bool (f d)) hi ho hl hs
/-- data by a function, not to be written out -/
def mapD (F : PyData → PyData) (xs : List PyData) : List PyData := xs.map F
theorem lcm {S S1 : Sl} {mi : MI} {me : ME} {ds : List PyData} {i : Nat} (F : PyData → PyData) (hi : mi S = some (ds, S1)) (ho : ownOk S1 [i] = true) (hl : ds.length ≤ 100000)
    (hs : ∀ d ∈ ds, me (S1.set i (some (.v d))) = some (.v (F d), S1.set i (some (.v d)))) : xLc mi (gSet i) tYesM me [i] S = some (.c (mapD F ds), S1) := lc1 F hi ho hl hs
theorem mapD_length (F : PyData → PyData) (xs : List PyData) : (mapD F xs).length = xs.length := List.length_map ..
theorem tupleF_list (xs : List PyData) : tupleF [.list xs] = some (.tuple xs) := rfl
theorem tupleF_tuple (xs : List PyData) : tupleF [.tuple xs] = some (.tuple xs) := rfl
theorem listF_tuple (xs : List PyData) : listF [.tuple xs] = some (.list xs) := rfl
theorem listF_list (xs : List PyData) : listF [.list xs] = some (.list xs) := rfl
theorem lenF_str {z : Str} (h : z.length ≤ 100000) : lenF [.str z] = some (.int z.length) := if_pos h
theorem rngD_length (lo : Int) (n : Nat) : (rngD lo n).length = n := by unfold rngD; rw [List.length_map, List.length_range]
theorem rngD_get {lo : Int} {n j : Nat} {d : PyData} (h : (rngD lo n)[j]? = some d) : j < n ∧ d = .int (lo + j) := by
  unfold rngD at h
  rw [List.getElem?_map] at h
  obtain ⟨k, hk, rfl⟩ := Option.map_eq_some_iff.mp h
  obtain ⟨h1, h2⟩ := List.getElem?_eq_some_iff.mp hk
  rw [List.length_range] at h1
  rw [List.getElem_range] at h2
  subst h2
  exact ⟨h1, rfl⟩
theorem rngD_mem {lo : Int} {n : Nat} {d : PyData} (h : d ∈ rngD lo n) : ∃ j : Nat, j < n ∧ d = .int (lo + j) := by
  obtain ⟨j, hj⟩ := List.mem_iff_getElem?.mp h
  exact ⟨j, rngD_get hj⟩
theorem signsD_length (z : Str) : (signsD z).length = z.length := by unfold signsD; rw [List.length_map, len_sg]
theorem signsD_all (z : Str) (f : Nat → Bool) (F : PyData → Bool) (h : ∀ c, F (.str ⟨#[c]⟩) = f c) : (signsD z).all F = (sg z).all f := by
  unfold signsD
  rw [List.all_map]
  congr 1
  funext c
  exact h c
theorem enumD_length (ds : List PyData) : (enumD ds).length = ds.length := by unfold enumD; rw [List.length_mapIdx]
theorem enumD_mem {ds : List PyData} {d : PyData} (h : d ∈ enumD ds) : ∃ (i : Nat) (x : PyData), d = .tuple [.int (i : Nat), x] ∧ ds[i]? = some x := by
  obtain ⟨j, hj⟩ := List.mem_iff_getElem?.mp h
  unfold enumD at hj
  rw [List.getElem?_mapIdx] at hj
  obtain ⟨x, hx, rfl⟩ := Option.map_eq_some_iff.mp hj
  exact ⟨j, x, rfl, hx⟩
theorem enumD_get {ds : List PyData} {j : Nat} {d : PyData} (h : (enumD ds)[j]? = some d) : ∃ x, d = .tuple [.int (j : Nat), x] ∧ ds[j]? = some x := by
  unfold enumD at h
  rw [List.getElem?_mapIdx] at h
  obtain ⟨x, hx, rfl⟩ := Option.map_eq_some_iff.mp h
  exact ⟨x, rfl, hx⟩
/-! ### texts -/
def txt (l : List Nat) : Str := ⟨l.toArray⟩
theorem sg_txt (l : List Nat) : sg (txt l) = l := rfl
theorem txt_len (l : List Nat) : (txt l).length = l.length := by rw [len_sg]; rfl
theorem txt_sg (z : Str) : txt (sg z) = z := sg_ext rfl
theorem txt_nil (l : List Nat) : ((txt l) = "") ↔ l = [] := by
  constructor
  · intro h
    have : sg (txt l) = sg "" := by rw [h]
    exact this.trans (by decide +kernel)
  · rintro rfl
    exact sg_ext (by decide +kernel)
theorem txt_append (a b : List Nat) : txt a ++ txt b = txt (a ++ b) := sg_ext (by rw [sg_append]; rfl)
theorem txt_inj {a b : List Nat} (h : txt a = txt b) : a = b := by
  have : sg (txt a) = sg (txt b) := by rw [h]
  exact this
theorem cutS_txt (l : List Nat) (lo hi : Option Int) : cutS (txt l) lo hi = txt (cutL l lo hi) := by
  unfold cutS cutL
  rw [txt_len]
  rfl
theorem cutL_take {α : Type} (l : List α) (k : Nat) : cutL l none (some (k : Int)) = l.take k := by
  unfold cutL
  rw [HT.sIx_nat, HT.sIx_none, List.drop_zero, Nat.sub_zero]
  exact (List.take_eq_take_min).symm
theorem cutL_drop {α : Type} (l : List α) (k : Nat) : cutL l (some (k : Int)) none = l.drop k := by
  unfold cutL
  rw [HT.sIx_nat, HT.sIx_none]
  by_cases h : k ≤ l.length
  · rw [Nat.min_eq_left h, List.take_of_length_le (by rw [List.length_drop]; exact Nat.le_refl _)]
  · rw [Nat.min_eq_right (by omega), Nat.sub_self, List.take_zero, List.drop_eq_nil_of_le (by omega)]
theorem cutL_from {α : Type} (l : List α) (a b : Nat) : cutL l (some (a : Int)) (some (b : Int)) = (l.drop a).take (b - a) := by
  unfold cutL
  rw [HT.sIx_nat, HT.sIx_nat]
  by_cases h : a ≤ l.length
  · rw [Nat.min_eq_left h]
    by_cases h2 : b ≤ l.length
    · rw [Nat.min_eq_left h2]
    · rw [Nat.min_eq_right (by omega), List.take_of_length_le (by rw [List.length_drop]; exact Nat.le_refl _), List.take_of_length_le (by rw [List.length_drop]; omega)]
  · rw [Nat.min_eq_right (show l.length ≤ a by omega), List.drop_eq_nil_of_le (Nat.le_refl _), List.drop_eq_nil_of_le (by omega), List.take_nil, List.take_nil]
theorem sIx_m1 (n d : Nat) : HT.sIx n d (some (-1)) = n - 1 := by
  show (if (-1 : Int) < 0 then ((-1 : Int) + (n : Int)).toNat else min (-1 : Int).toNat n) = _
  rw [if_pos (by decide)]
  omega
theorem sIx_1 (n d : Nat) : HT.sIx n d (some 1) = min 1 n := HT.sIx_nat n d 1
theorem cutL_inner {α : Type} (l : List α) : cutL l (some 1) (some (-1)) = l.tail.dropLast := by
  unfold cutL
  rw [sIx_m1, sIx_1, List.dropLast_eq_take, List.length_tail, ← List.drop_one]
  by_cases h : 1 ≤ l.length
  · rw [Nat.min_eq_left h]
  · have : l = [] := List.eq_nil_of_length_eq_zero (by omega)
    subst this
    rfl
theorem cutL_init {α : Type} (l : List α) : cutL l none (some (-1)) = l.dropLast := by
  unfold cutL
  rw [sIx_m1, HT.sIx_none, List.drop_zero, List.dropLast_eq_take, Nat.sub_zero]
theorem atI_nat {α : Type} (l : List α) (k : Nat) : atI l (k : Int) = l[k]? := by
  unfold atI ixN
  rw [if_pos (by omega)]
  by_cases h : k < l.length
  · rw [if_pos (by omega)]
    rfl
  · rw [if_neg (by omega), List.getElem?_eq_none (by omega)]
    rfl
theorem atI_last {α : Type} (l : List α) : atI l (-1) = l.getLast? := by
  cases l with
  | nil => rfl
  | cons a l =>
    unfold atI
    rw [List.length_cons, ix_last, List.getLast?_eq_getElem?]
    rfl
end VL

set_option Elab.async false
set_option linter.all false
set_option maxRecDepth 100000
set_option maxHeartbeats 4000000
/-! VL22: texts taken apart at one sign. -/
namespace VL
open PySem PySem.Spec PyProof.Rows L2
theorem pre1 (k c : Nat) (r : List Nat) : TL.pre [k] (c :: r) = decide (c = k) := by
  unfold TL.pre
  simp only [List.length_cons, List.length_nil, List.take_succ_cons, List.take_zero]
  by_cases h : c = k
  · subst h; simp
  · rw [decide_eq_false h]
    simp [h]
theorem spl_len (k : Nat) : ∀ (cs cur : List Nat), (TL.spl [k] 0 cur cs).length ≤ cs.length + 1
  | [], cur => by rw [TL.spl_nil]; exact Nat.le_refl _
  | c :: cs, cur => by
    by_cases h : c = k
    · rw [TL.spl_hit (by rw [pre1, decide_eq_true h]), List.length_cons, List.length_cons]
      exact Nat.succ_le_succ (spl_len k cs [])
    · rw [TL.spl_miss (by rw [pre1, decide_eq_false h]), List.length_cons]
      exact Nat.le_succ_of_le (spl_len k cs _)
theorem spl_ne (k : Nat) : ∀ (cs cur : List Nat), TL.spl [k] 0 cur cs ≠ []
  | [], cur => by rw [TL.spl_nil]; simp
  | c :: cs, cur => by
    by_cases h : c = k
    · rw [TL.spl_hit (by rw [pre1, decide_eq_true h])]; simp
    · rw [TL.spl_miss (by rw [pre1, decide_eq_false h])]
      exact spl_ne k cs _
theorem spl_mem (k : Nat) : ∀ (cs cur : List Nat) (l : List Nat), l ∈ TL.spl [k] 0 cur cs → l.length ≤ cur.length + cs.length ∧ ∀ c ∈ l, c ∈ cur ∨ c ∈ cs
  | [], cur, l, h => by
    rw [TL.spl_nil, List.mem_singleton] at h
    subst h
    exact ⟨Nat.le_refl _, fun c hc => .inl hc⟩
  | c :: cs, cur, l, h => by
    by_cases q : c = k
    · rw [TL.spl_hit (by rw [pre1, decide_eq_true q])] at h
      rcases List.mem_cons.mp h with rfl | h
      · exact ⟨Nat.le_add_right _ _, fun c hc => .inl hc⟩
      · obtain ⟨h1, h2⟩ := spl_mem k cs [] l h
        exact ⟨by rw [List.length_cons]; rw [List.length_nil] at h1; omega, fun d hd => .inr (List.mem_cons_of_mem _ ((h2 d hd).resolve_left (by simp)))⟩
    · rw [TL.spl_miss (by rw [pre1, decide_eq_false q])] at h
      obtain ⟨h1, h2⟩ := spl_mem k cs (cur ++ [c]) l h
      refine ⟨by rw [List.length_append, List.length_singleton] at h1; rw [List.length_cons]; omega, fun d hd => ?_⟩
      rcases h2 d hd with z | z
      · rcases List.mem_append.mp z with z | z
        · exact .inl z
        · rw [List.mem_singleton.mp z]
          exact .inr List.mem_cons_self
      · exact .inr (List.mem_cons_of_mem _ z)
/-- all parts together, and one for each sign that parts them -/
theorem spl_sum (k : Nat) : ∀ (cs cur : List Nat), ((TL.spl [k] 0 cur cs).map (·.length)).sum + (TL.spl [k] 0 cur cs).length = cur.length + cs.length + 1
  | [], cur => by rw [TL.spl_nil]; simp
  | c :: cs, cur => by
    by_cases q : c = k
    · rw [TL.spl_hit (by rw [pre1, decide_eq_true q])]
      have := spl_sum k cs []
      rw [show [k].length - 1 = 0 from rfl]
      simp only [List.map_cons, List.sum_cons, List.length_cons, List.length_nil] at this ⊢
      omega
    · rw [TL.spl_miss (by rw [pre1, decide_eq_false q])]
      have := spl_sum k cs (cur ++ [c])
      rw [List.length_append, List.length_singleton] at this
      rw [List.length_cons]
      omega
theorem split_one {y : Str} {k : Nat} (z : Str) (hy : sg y = [k]) (hk : y.cps.all (· < 256) = true) : Txt.split z y = (TL.spl [k] 0 [] (sg z)).map txt := by
  refine TL.map_tl_inj ?_
  have e : ((TL.spl [k] 0 [] (sg z)).map txt).map TL.tl = TL.spl [k] 0 [] (sg z) := by
    rw [List.map_map]
    exact List.map_id _
  rw [e]
  have hb : TL.tl y = [k] := hy
  have := TL.split_spl z y (by rw [hb]; simp) (TL.kind_ok hk)
  rw [hb] at this
  exact this
/-! slices by natural numbers -/
theorem slL_take (xs : List PyData) (k : Nat) : slD (.list xs) none (some (k : Int)) = some (.list (xs.take k)) := by rw [← cutL_take]; rfl
theorem slL_drop (xs : List PyData) (k : Nat) : slD (.list xs) (some (k : Int)) none = some (.list (xs.drop k)) := by rw [← cutL_drop]; rfl
theorem slT_take (xs : List PyData) (k : Nat) : slD (.tuple xs) none (some (k : Int)) = some (.tuple (xs.take k)) := by rw [← cutL_take]; rfl
theorem slT_drop (xs : List PyData) (k : Nat) : slD (.tuple xs) (some (k : Int)) none = some (.tuple (xs.drop k)) := by rw [← cutL_drop]; rfl
theorem slS {z : Str} (h : z.length ≤ 100000) (lo hi : Option Int) : slD (.str z) lo hi = some (.str (txt (cutL (sg z) lo hi))) := by
  have e : cutS z lo hi = txt (cutL (sg z) lo hi) := by
    conv => lhs; rw [← txt_sg z]
    exact cutS_txt _ _ _
  show (if z.length ≤ 100000 then some (PyData.str (cutS z lo hi)) else none) = _
  rw [if_pos h, e]
theorem slS_take {z : Str} (h : z.length ≤ 100000) (k : Nat) : slD (.str z) none (some (k : Int)) = some (.str (txt ((sg z).take k))) := by rw [slS h, cutL_take]
theorem slS_drop {z : Str} (h : z.length ≤ 100000) (k : Nat) : slD (.str z) (some (k : Int)) none = some (.str (txt ((sg z).drop k))) := by rw [slS h, cutL_drop]
theorem ok_txt {l : List Nat} : PyData.strOk (txt l) = true ↔ ∀ c ∈ l, c < 1114112 := okS_iff
/-- texts of N signs at the most -/
structure TxN (N : Nat) (z : Str) : Prop where
  l : z.length ≤ N
  o : PyData.strOk z = true
theorem TxN.mono {N M : Nat} {z : Str} (h : TxN N z) (hm : N ≤ M) : TxN M z := ⟨Nat.le_trans h.l hm, h.o⟩
theorem TxN.append {N M : Nat} {z y : Str} (h : TxN N z) (h2 : TxN M y) : TxN (N + M) (z ++ y) := ⟨by rw [len_append]; have := h.l; have := h2.l; omega, ok_append h.o h2.o⟩
theorem TxN.sub {N : Nat} {z : Str} {l : List Nat} (h : TxN N z) (hs : l.Sublist (sg z)) : TxN N (txt l) := ⟨by rw [txt_len]; have := hs.length_le; rw [← len_sg] at this; exact Nat.le_trans this h.l, ok_txt.mpr fun c hc => okS_iff.mp h.o c (hs.subset hc)⟩
theorem TxN.take {N : Nat} {z : Str} (h : TxN N z) (k : Nat) : TxN N (txt ((sg z).take k)) := h.sub (List.take_sublist _ _)
theorem TxN.drop {N : Nat} {z : Str} (h : TxN N z) (k : Nat) : TxN N (txt ((sg z).drop k)) := h.sub (List.drop_sublist _ _)
theorem TxN.fin {N D B : Nat} {z : Str} (h : TxN N z) (hb : 10 * N + 2 ≤ B) : Fin D B (.str z) := Fin.str h.o (by have := h.l; omega)
theorem TxN.by {N : Nat} {z : Str} (h : (decide (z.length ≤ N) && PyData.strOk z) = true) : TxN N z := by
  simp only [Bool.and_eq_true, decide_eq_true_eq] at h
  exact ⟨h.1, h.2⟩
theorem big_int {i : Int} (h0 : -1000000000000000000 < i) (h : i < 1000000000000000000) : big (.int i) ≤ 19 := by
  show (Str.ofString (toString i)).length ≤ 19
  rw [PySem.ofString_length]
  exact PySem.int_text_length_le10 (k := 18) (by decide) (by omega)
theorem log2_small {n : Nat} (h : n < 1000000000000000000) : n.log2 < 1920 := by
  by_cases q : n = 0
  · subst q; decide
  · refine (Nat.log2_lt q).mpr (Nat.lt_of_lt_of_le h ?_)
    exact Nat.le_trans (show 1000000000000000000 ≤ 2 ^ 60 by decide) (Nat.pow_le_pow_right (by decide) (by decide))
theorem log_int {i : Int} (h0 : -1000000000000000000 < i) (h : i < 1000000000000000000) : (PyData.int i).showable = true := by
  show decide (i.natAbs.log2 < 1920) = true
  exact decide_eq_true (log2_small (by omega))
theorem Fin.int {D B : Nat} {i : Int} (h0 : -1000000000000000000 < i) (h : i < 1000000000000000000) (hB : 19 ≤ B) : Fin D B (.int i) := ⟨log_int h0 h, rfl, by simp only [PyData.depth]; exact Nat.zero_le _, Nat.le_trans (big_int h0 h) hB⟩
theorem joinS {y : Str} {zs : List Str} {N : Nat} (h : (zs.map (·.length)).sum + zs.length * y.length ≤ N) (hN : N ≤ 100000) (hy : PyData.strOk y = true) (hz : ∀ z ∈ zs, PyData.strOk z = true) :
    joinF y (.list (zs.map .str)) = some (.str (Txt.join y zs)) ∧ TxN N (Txt.join y zs) := ⟨joinD (Nat.le_trans h hN), ⟨Nat.le_trans (join_len y zs) h, ok_join hy hz⟩⟩
theorem sg_joinL (y : Str) (zs : List Str) : sg (Txt.join y zs) = TL.joinL (sg y) (zs.map sg) := by
  rw [TL.join_eq]
  exact TL.tl_join y zs
/-- what was put together is taken apart again -/
theorem split_join {y : Str} {k : Nat} {zs : List Str} (hy : sg y = [k]) (hk : y.cps.all (· < 256) = true) (hne : zs ≠ []) (h : ∀ z ∈ zs, k ∉ sg z) : Txt.split (Txt.join y zs) y = zs := by
  rw [split_one _ hy hk, sg_joinL, hy, TL.spl_join (by simpa using hne) (fun p hp => by
    obtain ⟨z, hz, rfl⟩ := List.mem_map.mp hp
    exact h z hz), List.map_map]
  exact (List.map_congr_left fun z _ => txt_sg z).trans (List.map_id _)
end VL

set_option Elab.async false
set_option linter.all false
set_option maxRecDepth 100000
set_option maxHeartbeats 4000000
/-! VL26: words that run on through columns: the memory of «found», and what is told. -/
namespace VL
open PySem PySem.Spec PyProof.Rows L2
/-- (the columns behind, the column that is filled, the line) -/
abbrev RunSt := List (List PyData) × List PyData × Str
def runStep (sz : List Int) (many : Int) (st : RunSt) (w : Str) : Option RunSt :=
  if st.2.2 ≠ "" ∧ ((st.2.2.length : Int) + 1 + (w.length : Int) ≤ sz.getD st.1.length 0) then some (st.1, st.2.1, st.2.2 ++ " " ++ w)
  else
    let cur : List PyData := if st.2.2 ≠ "" then st.2.1 ++ [PyData.str st.2.2] else st.2.1
    let dn := if (cur.length : Int) = many then st.1 ++ [cur] else st.1
    let c2 := if (cur.length : Int) = many then [] else cur
    if (sz.length : Int) < (dn.length : Int) + 1 ∨ sz.getD dn.length 0 < (w.length : Int) then none else some (dn, c2, w)
def runs (sz : List Int) (many : Int) : List Str → RunSt → Option RunSt
  | [], st => some st
  | w :: ws, st => match runStep sz many st w with
    | some st => runs sz many ws st
    | none => none
theorem runStep_len {sz : List Int} {many : Int} {st st' : RunSt} {w : Str} (e : runStep sz many st w = some st') : st'.2.1.length ≤ st.2.1.length + 1 ∧ st'.1.length ≤ st.1.length + 1 ∧ st'.2.2.length ≤ st.2.2.length + 1 + w.length := by
  unfold runStep at e
  by_cases q : st.2.2 ≠ "" ∧ ((st.2.2.length : Int) + 1 + (w.length : Int) ≤ sz.getD st.1.length 0)
  · rw [if_pos q] at e
    cases e
    have l1 : (" " : Str).length = 1 := by decide
    refine ⟨by simp, by simp, ?_⟩
    simp only [len_append, l1]
    omega
  · rw [if_neg q] at e
    obtain ⟨cur, hcur⟩ : ∃ cur : List PyData, cur = if st.2.2 ≠ "" then st.2.1 ++ [PyData.str st.2.2] else st.2.1 := ⟨_, rfl⟩
    have hl : cur.length ≤ st.2.1.length + 1 := by
      rw [hcur]
      split <;> simp
    simp only [← hcur] at e
    obtain ⟨dn, hdn⟩ : ∃ dn, dn = if (cur.length : Int) = many then st.1 ++ [cur] else st.1 := ⟨_, rfl⟩
    obtain ⟨c2, hc2⟩ : ∃ c2, c2 = if (cur.length : Int) = many then [] else cur := ⟨_, rfl⟩
    have hd : dn.length ≤ st.1.length + 1 := by
      rw [hdn]
      split <;> simp
    have hc : c2.length ≤ st.2.1.length + 1 := by
      rw [hc2]
      split
      · simp
      · exact hl
    simp only [← hdn, ← hc2] at e
    by_cases q2 : (sz.length : Int) < (dn.length : Int) + 1 ∨ sz.getD dn.length 0 < (w.length : Int)
    · rw [if_pos q2] at e
      cases e
    · rw [if_neg q2] at e
      cases e
      exact ⟨hc, hd, by simp only; omega⟩
/-- None, or the columns' lines -/
def runD (ws : List Str) (sz : List Int) (many : Int) : PyData := match runs sz many ws ([], [], "") with
  | none => .none
  | some st => if st.1.length + 1 = sz.length then .list ((st.1 ++ [st.2.1 ++ [PyData.str st.2.2]]).map PyData.list) else .none
inductive DnM (M : Mem) (k : Nat) : List Nat → List (List PyData) → Prop
  | nil : DnM M k [] []
  | cons {i : Nat} {l : List PyData} {is : List Nat} {ls : List (List PyData)} {a : Addr} : i ≠ 1 → i ≠ k → M[i]? = some ⟨a, .lst (l.map .d)⟩ → DnM M k is ls → DnM M k (i :: is) (l :: ls)
structure RunM (M : Mem) (b : Addr) (ids : List Nat) (dn : List (List PyData)) (k : Nat) (a : Addr) (cur : List PyData) : Prop where
  out : M[1]? = some ⟨b, .lst ((ids ++ [k]).map .p)⟩
  at_ : M[k]? = some ⟨a, .lst (cur.map .d)⟩
  ne : k ≠ 1
  dn : DnM M k ids dn
section
variable {M M' : Mem} {k k' : Nat} {ids : List Nat} {dn : List (List PyData)} {b a a' : Addr} {cur : List PyData} {S : Sl} {Q : SV → Sl → Mem → Prop}
theorem DnM.length (h : DnM M k ids dn) : ids.length = dn.length := by
  induction h with
  | nil => rfl
  | cons _ _ _ _ ih => rw [List.length_cons, List.length_cons, ih]
theorem DnM.imp (h : DnM M k ids dn) (hM : ∀ (i : Nat) (e : Ent), i ≠ 1 → i ≠ k → M[i]? = some e → M'[i]? = some e ∧ i ≠ k') : DnM M' k' ids dn := by
  induction h with
  | nil => exact .nil
  | cons h1 h2 h3 _ ih => exact .cons h1 (hM _ _ h1 h2 h3).2 (hM _ _ h1 h2 h3).1 ih
theorem DnM.snoc {i : Nat} {l : List PyData} {a : Addr} (h : DnM M k ids dn) (h1 : i ≠ 1) (h2 : i ≠ k) (h3 : M[i]? = some ⟨a, .lst (l.map .d)⟩) : DnM M k (ids ++ [i]) (dn ++ [l]) := by
  induction h with
  | nil => exact .cons h1 h2 h3 .nil
  | cons g1 g2 g3 _ ih => exact .cons g1 g2 g3 ih
theorem RunM.len (h : RunM M b ids dn k a cur) : ((ids ++ [k]).map Itm.p).length = dn.length + 1 := by
  rw [List.length_map, List.length_append, h.dn.length]; rfl
theorem RunM.isl (h : RunM M b ids dn k a cur) : IsLst M (.s (.ptr 1 b)) 1 b ((ids ++ [k]).map .p) := ⟨rfl, h.out⟩
theorem RunM.isc (h : RunM M b ids dn k a cur) : IsLst M (.s (.ptr k a)) k a (cur.map .d) := ⟨rfl, h.at_⟩
/-- a line goes into the column -/
theorem RunM.add (h : RunM M b ids dn k a cur) (z : PyData) : RunM (M.set k ⟨a, .lst (cur.map .d ++ [.d z])⟩) b ids dn k a (cur ++ [z]) where
  out := by rw [List.getElem?_set_ne h.ne]; exact h.out
  at_ := by
    rw [List.getElem?_set_self (List.getElem?_eq_some_iff.mp h.at_).1, List.map_append]
    rfl
  ne := h.ne
  dn := h.dn.imp fun i e _ h2 h3 => ⟨by rw [List.getElem?_set_ne (fun q => h2 q.symm)]; exact h3, h2⟩
/-- a new column -/
theorem RunM.new (h : RunM M b ids dn k a cur) (a' : Addr) : RunM ((M ++ [(⟨a', .lst []⟩ : Ent)]).set 1 ⟨b, .lst ((ids ++ [k]).map Itm.p ++ [Itm.p M.length])⟩) b (ids ++ [k]) (dn ++ [cur]) M.length a' [] := by
  have l1 : 1 < M.length := (List.getElem?_eq_some_iff.mp h.out).1
  have lk : k < M.length := (List.getElem?_eq_some_iff.mp h.at_).1
  have key : ∀ (i : Nat) (e : Ent), i ≠ 1 → M[i]? = some e → ((M ++ [(⟨a', .lst []⟩ : Ent)]).set 1 ⟨b, .lst ((ids ++ [k]).map Itm.p ++ [Itm.p M.length])⟩)[i]? = some e ∧ i ≠ M.length := fun i e g1 g2 => by
    have li : i < M.length := (List.getElem?_eq_some_iff.mp g2).1
    refine ⟨?_, by omega⟩
    rw [List.getElem?_set_ne (fun q => g1 q.symm), List.getElem?_append_left li]
    exact g2
  refine ⟨?_, ?_, by omega, ?_⟩
  · rw [List.getElem?_set_self (by rw [List.length_append]; omega), List.map_append (l₁ := ids ++ [k])]
    rfl
  · rw [List.getElem?_set_ne (by omega), List.getElem?_append_right (Nat.le_refl _), Nat.sub_self]
    rfl
  · exact (h.dn.imp (k' := M.length) fun i e g1 _ g3 => key i e g1 g3).snoc h.ne (by omega) (key k _ h.ne h.at_).1
theorem dataIs_d (f : Nat → Option PyData) : ∀ (l : List PyData), dataIs f (l.map .d) = some l
  | [] => rfl
  | d :: l => by
    show (match dataI f (.d d), dataIs f (l.map .d) with
      | some d, some ds => some (d :: ds)
      | _, _ => none) = some (d :: l)
    rw [dataIs_d f l]
    rfl
theorem dataOf_col {i : Nat} {a : Addr} {l : List PyData} (h : M[i]? = some ⟨a, .lst (l.map .d)⟩) (n : Nat) : dataOf M (n + 1) i = some (.list l) := by
  unfold dataOf
  rw [h]
  simp only [dataIs_d]
  rfl
theorem RunM.tell (h : RunM M b ids dn k a cur) : tellR M (.s (.ptr 1 b)) = some (.list ((dn ++ [cur]).map .list)) := by
  have l1 : 1 < M.length := (List.getElem?_eq_some_iff.mp h.out).1
  have all : dataIs (dataOf M M.length) ((ids ++ [k]).map .p) = some ((dn ++ [cur]).map .list) := by
    obtain ⟨n, hn⟩ : ∃ n, M.length = n + 1 := ⟨M.length - 1, by omega⟩
    rw [hn]
    have hk := dataOf_col h.at_ n
    have : ∀ {is : List Nat} {ls : List (List PyData)}, DnM M k is ls → dataIs (dataOf M (n + 1)) ((is ++ [k]).map .p) = some ((ls ++ [cur]).map .list) := by
      intro is ls hd
      induction hd with
      | nil =>
        show (match dataI (dataOf M (n + 1)) (.p k), dataIs (dataOf M (n + 1)) [] with
          | some d, some ds => some (d :: ds)
          | _, _ => none) = _
        show (match dataOf M (n + 1) k, (some [] : Option (List PyData)) with
          | some d, some ds => some (d :: ds)
          | _, _ => none) = _
        rw [hk]
        rfl
      | cons g1 g2 g3 _ ih =>
        rename_i i l is ls a0 _
        show (match dataOf M (n + 1) i, dataIs (dataOf M (n + 1)) ((is ++ [k]).map .p) with
          | some d, some ds => some (d :: ds)
          | _, _ => none) = _
        rw [dataOf_col g3 n, ih]
        rfl
    exact this h.dn
  show (match M[1]? with
    | some e => if e.a = b then dataOf M (M.length + 1) 1 else none
    | none => none) = _
  rw [h.out]
  simp only [if_true]
  unfold dataOf
  rw [h.out]
  simp only [all]
  rfl
theorem atI_end {α : Type} (xs : List α) (x : α) : atI (xs ++ [x]) ((((xs ++ [x]).length : Nat) : Int) - 1) = some x := by
  unfold atI ixN
  rw [List.length_append, List.length_singleton]
  have h1 : ¬ ((xs.length + 1 : Nat) : Int) - 1 < 0 := by omega
  have h2 : (((xs.length + 1 : Nat) : Int) - 1).toNat = xs.length := by omega
  have h3 : (xs.length : Int) < (xs.length : Int) + 1 := by omega
  simp [h1, h2, h3]
theorem uIfS_i {ut : UT} {u v : US} {S : Sl} {M : Mem} {Q : Fl → Sl → Mem → Prop} (h : ut S M fun r S1 M1 => match r with
  | true => u S1 M1 Q
  | false => v S1 M1 Q) : uIfS ut u v S M Q := h
theorem uOr_i {ua ub : UT} {S : Sl} {M : Mem} {Q : Bool → Sl → Mem → Prop} (h : ua S M fun r S1 M1 => match r with
  | true => Q true S1 M1
  | false => ub S1 M1 Q) : uOr ua ub S M Q := h
theorem uVal_i {u : UE} {S : Sl} {M : Mem} {Q : Bool → Sl → Mem → Prop} (h : u S M fun r S' M' => ∃ b, r = .v (.bool b) ∧ Q b S' M') : uVal u S M Q := h
theorem uBin_i {f : PyData → PyData → Option PyData} {ua ub : UE} {S : Sl} {M : Mem} {Q : SV → Sl → Mem → Prop} (h : ua S M fun r1 S1 M1 => ub S1 M1 fun r2 S2 M2 => ∃ d e z, deref S2 r1 = some d ∧ deref S2 r2 = some e ∧ f d e = some z ∧ Q (.v z) S2 M2) : uBin f ua ub S M Q := h
theorem uIf_i {ut : UT} {ua ub : UE} {S : Sl} {M : Mem} {Q : SV → Sl → Mem → Prop} (h : ut S M fun r S1 M1 => match r with
  | true => ua S1 M1 Q
  | false => ub S1 M1 Q) : uIf ut ua ub S M Q := h
theorem uSeq_i {u v : US} {S : Sl} {M : Mem} {Q : Fl → Sl → Mem → Prop} (h : u S M fun fl S1 M1 => match fl with
  | .nx => v S1 M1 Q
  | fl => Q fl S1 M1) : uSeq u v S M Q := h
theorem uRet_i {u : UE} {S : Sl} {M : Mem} {Q : Fl → Sl → Mem → Prop} (h : u S M fun r S1 M1 => Q (.rt r) S1 M1) : uRet u S M Q := h
theorem len_found (h : RunM M b ids dn k a cur) (h3 : S[3]? = some (some (.s (.ptr 1 b)))) (q : Q (.v (.int ((dn.length : Int) + 1))) S M) : uLen (uL (mVar 3)) S M Q := by
  refine ⟨_, S, by unfold mVar; rw [h3], 1, b, _, h.isl, ?_⟩
  rw [h.len]
  exact q
theorem ix_found (h : RunM M b ids dn k a cur) (h3 : S[3]? = some (some (.s (.ptr 1 b)))) (q : Q (.v (.int (dn.length : Int))) S M) : uBin subD (uLen (uL (mVar 3))) (uL (mC (.int 1))) S M Q := by
  refine len_found h h3 ⟨_, S, rfl, _, _, _, rfl, rfl, rfl, ?_⟩
  rw [show (dn.length : Int) + 1 - 1 = (dn.length : Int) by omega]
  exact q
theorem last_found (h : RunM M b ids dn k a cur) (h3 : S[3]? = some (some (.s (.ptr 1 b)))) (q : Q (.s (.ptr k a)) S M) : uIx (uL (mVar 3)) (uBin subD (uLen (uL (mVar 3))) (uL (mC (.int 1)))) S M Q := by
  refine ⟨_, S, by unfold mVar; rw [h3], ix_found h h3 ⟨1, b, _, _, .p k, _, h.isl, rfl, ?_, ?_, q⟩⟩
  · rw [List.map_append]
    have := atI_end (ids.map Itm.p) (.p k)
    rw [List.length_append, List.length_map, h.dn.length] at this
    rw [show ((dn.length : Nat) : Int) = ((dn.length + [Itm.p k].length : Nat) : Int) - 1 by simp]
    exact this
  · show (M[k]?).map (fun e => SV.s (Opq.ptr k e.a)) = _
    rw [h.at_]
    rfl
theorem size_found {d : PyData} {sz : List PyData} {z : Int} (h : RunM M b ids dn k a cur) (h3 : S[3]? = some (some (.s (.ptr 1 b)))) (h1 : S[1]? = some (some (.v d))) (hd : seqD d = some sz) (hz : sz[dn.length]? = some (.int z)) (q : Q (.v (.int z)) S M) : uBin ixD (uL (mVar 1)) (uBin subD (uLen (uL (mVar 3))) (uL (mC (.int 1)))) S M Q := by
  refine ⟨_, S, by unfold mVar; rw [h1], ix_found h h3 ⟨_, _, _, rfl, rfl, ?_, q⟩⟩
  have e : atI sz (dn.length : Int) = some (.int z) := by
    have hl := (List.getElem?_eq_some_iff.mp hz).1
    unfold atI ixN
    have g1 : ¬ ((dn.length : Nat) : Int) < 0 := by omega
    have g2 := (List.getElem?_eq_some_iff.mp hz).2
    simp [g1, hl, g2]
  cases d with
  | list xs => cases hd; exact e
  | tuple xs => cases hd; exact e
  | _ => cases hd
end
end VL

set_option Elab.async false
set_option linter.all false
set_option maxRecDepth 100000
set_option maxHeartbeats 4000000
/-! VL27: in a list or tuple of flat things. -/
namespace VL
open PySem PySem.Spec PyProof.Rows L2
def flatD : PyData → Bool
  | .none => true
  | .bool _ => true
  | .int _ => true
  | .str _ => true
  | _ => false
def eqF : PyData → PyData → Bool
  | .none, .none => true
  | .bool a, .bool b => a == b
  | .bool a, .int b => (if a then 1 else 0) == b
  | .int a, .bool b => a == (if b then 1 else 0)
  | .int a, .int b => a == b
  | .str a, .str b => a == b
  | _, _ => false
def memF (d : PyData) (ds : List PyData) : Bool := ds.any fun e => eqF e d
def inAD : PyData → PyData → Option PyData
  | .str a, .str b => inD (.str a) (.str b)
  | d, .list ds => if flatD d && ds.all flatD then some (.bool (memF d ds)) else none
  | d, .tuple ds => if flatD d && ds.all flatD then some (.bool (memF d ds)) else none
  | _, _ => none
def notInAD : PyData → PyData → Option PyData
  | .str a, .str b => notInD (.str a) (.str b)
  | d, .list ds => if flatD d && ds.all flatD then some (.bool (!memF d ds)) else none
  | d, .tuple ds => if flatD d && ds.all flatD then some (.bool (!memF d ds)) else none
  | _, _ => none
section
variable {X : Cx} {K : PySem.W.Frag} {F H : Hp} {e a b : Expr} {ma mb : ME} {pos : Pos}
theorem flat_dv {v : V} {d : PyData} (h : DV K F v d) (hd : flatD d = true) : flatV v = true := by
  cases h <;> first | rfl | cases hd
theorem flat_dvs : ∀ {vs : List V} {ds : List PyData}, DVs K F vs ds → ds.all flatD = true → vs.all flatV = true
  | _, _, .nil, _ => rfl
  | _, _, .cons h t, hd => by
    rw [List.all_cons, Bool.and_eq_true] at hd
    rw [List.all_cons, flat_dv h hd.1, flat_dvs t hd.2]
    rfl
theorem eqF_dv {v u : V} {d e : PyData} (h : DV K F v d) (h2 : DV K F u e) (hd : flatD d = true) (he : flatD e = true) : eqV v u = eqF d e := by
  cases h <;> first | (cases hd; done) | (cases h2 <;> first | (cases he; done) | rfl)
theorem memF_dvs {u : V} {e : PyData} (h2 : DV K F u e) (he : flatD e = true) : ∀ {vs : List V} {ds : List PyData}, DVs K F vs ds → ds.all flatD = true → inV u vs = memF e ds
  | _, _, .nil, _ => rfl
  | _, _, .cons h t, hd => by
    rw [List.all_cons, Bool.and_eq_true] at hd
    unfold inV memF
    rw [List.any_cons, List.any_cons, eqF_dv h h2 hd.1 he]
    congr 1
    exact memF_dvs h2 he t hd.2
theorem flat_dx {v : V} {d : PyData} (h : DX K F H v d) (hd : flatD d = true) : DV K F v d := by
  rcases h with h | ⟨a, vs, xs, rfl, rfl, h3, h4⟩
  · exact h
  · cases hd
theorem ops_inA : OpS K (fun x y H Q => rInS x y H Q ∨ rIn K false x y H Q) inAD := by
  intro F H x y d e z Q fh hx hy hf k
  unfold inAD at hf
  split at hf
  · exact .inl (ops_in F H x y _ _ z Q fh hx hy hf k)
  · split at hf
    · rename_i hc
      rw [Bool.and_eq_true] at hc
      cases hf
      obtain ⟨p, vs, rfl, h2, h3⟩ := hy.list fh
      have dx := flat_dx hx hc.1
      refine .inr ⟨p, vs, rfl, .inl (SqL.of h2), flat_dv dx hc.1, flat_dvs h3 hc.2, ?_⟩
      rw [if_neg Bool.false_ne_true, memF_dvs dx hc.1 h3 hc.2]
      exact k _ _ _ (Ext.refl fh) (.bl _)
    · cases hf
  · split at hf
    · rename_i hc
      rw [Bool.and_eq_true] at hc
      cases hf
      obtain ⟨p, vs, rfl, h2, h3⟩ := hy.tuple
      have dx := flat_dx hx hc.1
      refine .inr ⟨p, vs, rfl, .inr (sqT_mono fh h2), flat_dv dx hc.1, flat_dvs h3 hc.2, ?_⟩
      rw [if_neg Bool.false_ne_true, memF_dvs dx hc.1 h3 hc.2]
      exact k _ _ _ (Ext.refl fh) (.bl _)
    · cases hf
  · cases hf
theorem ops_notInA : OpS K (fun x y H Q => rNotInS x y H Q ∨ rIn K true x y H Q) notInAD := by
  intro F H x y d e z Q fh hx hy hf k
  unfold notInAD at hf
  split at hf
  · exact .inl (ops_notIn F H x y _ _ z Q fh hx hy hf k)
  · split at hf
    · rename_i hc
      rw [Bool.and_eq_true] at hc
      cases hf
      obtain ⟨p, vs, rfl, h2, h3⟩ := hy.list fh
      have dx := flat_dx hx hc.1
      refine .inr ⟨p, vs, rfl, .inl (SqL.of h2), flat_dv dx hc.1, flat_dvs h3 hc.2, ?_⟩
      rw [if_pos rfl, memF_dvs dx hc.1 h3 hc.2]
      exact k _ _ _ (Ext.refl fh) (.bl _)
    · cases hf
  · split at hf
    · rename_i hc
      rw [Bool.and_eq_true] at hc
      cases hf
      obtain ⟨p, vs, rfl, h2, h3⟩ := hy.tuple
      have dx := flat_dx hx hc.1
      refine .inr ⟨p, vs, rfl, .inr (sqT_mono fh h2), flat_dv dx hc.1, flat_dvs h3 hc.2, ?_⟩
      rw [if_pos rfl, memF_dvs dx hc.1 h3 hc.2]
      exact k _ _ _ (Ext.refl fh) (.bl _)
    · cases hf
  · cases hf
theorem je_inA (ha : JE X a ma) (hb : JE X b mb) (hm : behindInMarks .In b = false := by rfl) : JE X (.Compare a [.In] [b] pos) (mBin inAD ma mb) := je_cmp (op_inS.or op_in_seq) ops_inA hm ha hb
theorem je_notInA (ha : JE X a ma) (hb : JE X b mb) (hm : behindInMarks .NotIn b = false := by rfl) : JE X (.Compare a [.NotIn] [b] pos) (mBin notInAD ma mb) := je_cmp (op_notInS.or op_notIn_seq) ops_notInA hm ha hb
theorem jt_inA (ha : JE X a ma) (hb : JE X b mb) (hm : behindInMarks .In b = false := by rfl) : JT X (.Compare a [.In] [b] pos) (tVal (mBin inAD ma mb)) := jt_cmp (op_inS.or op_in_seq) ops_inA hm ha hb
theorem jt_notInA (ha : JE X a ma) (hb : JE X b mb) (hm : behindInMarks .NotIn b = false := by rfl) : JT X (.Compare a [.NotIn] [b] pos) (tVal (mBin notInAD ma mb)) := jt_cmp (op_notInS.or op_notIn_seq) ops_notInA hm ha hb
end
end VL

set_option Elab.async false
set_option linter.all false
set_option maxRecDepth 100000
set_option maxHeartbeats 4000000
/-! VX8: z[::-1] of a text, a list, a tuple. -/
namespace VL
open PySem PySem.Spec PyProof.Rows L2 HT
section
variable {prog : Program} {w : World} {A : Around} {E : Value → Shared → Prop} {s : Shared}
theorem places_rev (n : Nat) : Builtin.Slice.slicePlaces ((n : Int) - 1) (-1) (-1) = n := by
  unfold Builtin.Slice.slicePlaces
  have h1 : ¬ ((-1 : Int) > 0) := by omega
  simp only [h1, if_false]
  have h2 : (-(-1) : Int) = 1 := by omega
  rw [h2, Int.ediv_one]
  split <;> omega
theorem applied_rev {sl : Addr} {vs : Value} {n : Nat} {Q : Int × Int × Nat → Shared → Prop} (hs : s.heap.IsSliceOf sl .none .none vs) (ps : IsPart vs (some (-1)))
    (h : Q (((n : Int) - 1), -1, n) s) : wpAny (model prog w) A (Builtin.Slice.sliceApplied (.ref sl) (pure (n : Int))) Q E s := by
  obtain ⟨os, hos, hcs, hds⟩ := id hs
  unfold Builtin.Slice.sliceApplied Builtin.Slice.sliceFields
  refine wpAny_bind (wpAny_bind (wpAny_field hos hds (x := .none) rfl (wpAny_bind (wpAny_field hos hds (x := .none) rfl (wpAny_bind (wpAny_field hos hds (x := vs) rfl (wpAny_pure ?_)))))))
  refine wpAny_bind (slicePart_ ps ?_)
  show wpAny _ _ (if ((-1 : Int) == 0) = true then _ else _) _ _ s
  rw [if_neg (by decide)]
  refine wpAny_bind (slicePart_none (wpAny_bind (slicePart_none (wpAny_bind (wpAny_pure ?_)))))
  have e : Builtin.Slice.sliceAdjust none none (-1) (n : Int) = ((n : Int) - 1, -1) := rfl
  show wpAny _ _ (match Builtin.Slice.sliceAdjust none none (-1) (n : Int) with | (lo, hi) => pure (lo, (-1 : Int), Builtin.Slice.slicePlaces lo hi (-1))) _ _ s
  rw [e]
  show wpAny _ _ (pure ((n : Int) - 1, (-1 : Int), Builtin.Slice.slicePlaces ((n : Int) - 1) (-1) (-1))) _ _ s
  rw [places_rev]
  exact wpAny_pure h
theorem fm_congr {α β : Type} {f g : α → Option β} : ∀ {l : List α}, (∀ x ∈ l, f x = g x) → l.filterMap f = l.filterMap g
  | [], _ => rfl
  | x :: l, h => by
    rw [List.filterMap_cons, List.filterMap_cons, h x List.mem_cons_self, fm_congr fun y hy => h y (List.mem_cons_of_mem _ hy)]
theorem pick_rev (xs : Array Value) : ((List.range xs.size).filterMap fun (k : Nat) => xs[(((xs.size : Int) - 1) + (k : Int) * (-1)).toNat]?).toArray = xs.toList.reverse.toArray := by
  congr 1
  have e : (List.range xs.size).filterMap (fun (k : Nat) => xs[(((xs.size : Int) - 1) + (k : Int) * (-1)).toNat]?) = ((List.range xs.size).map (fun k => xs.size - 1 - k)).filterMap (xs[·]?) := by
    rw [List.filterMap_map]
    refine fm_congr fun k hk => ?_
    have := List.mem_range.mp hk
    show xs[(((xs.size : Int) - 1) + (k : Int) * (-1)).toNat]? = xs[xs.size - 1 - k]?
    congr 1
    omega
  rw [e, PySem.W.krv_range, List.filterMap_reverse, PySem.W.krv_all]
theorem getItem_tuple_rev {t sl : Addr} {items : Array Value} {vs : Value} {Q : Value → Shared → Prop} (ht : IsTup s.heap t items) (hs : s.heap.IsSliceOf sl .none .none vs) (ps : IsPart vs (some (-1)))
    (h : Q (.ref s.heap.objs.size) { s with heap := s.heap.push { cls := .type "tuple", data := .seq items.toList.reverse.toArray } })
    (hsz : items.size ≤ sizeLine) : wpAny (model prog w) A (getItem (.ref t) (.ref sl)) Q E s := by
  have htake : sizeOk (.seq items.toList.reverse.toArray) := by
    show items.toList.reverse.toArray.size ≤ sizeLine
    rw [List.size_toArray, List.length_reverse, Array.length_toList]
    exact hsz
  obtain ⟨os, hos, hcs, hds⟩ := id hs
  have hTs : s.TypeIs (.ref sl) "slice" := ⟨os, hos, hcs⟩
  unfold getItem
  try with_reducible refine wpAny_holding ?_
  first | refine wpAny_bind (wpAny_pure ?_) | skip
  refine wpAny_bind (wpAny_sequenceKey ht.typeIs (by decide) ?_)
  refine wpAny_bind (wpAny_callSpecial?_slot (name := Str.ofString "__getitem__") ht.typeIs PyProof.Rows.slot_tuple_getitem
    (wpAny_call_entry PyProof.Rows.slot_tuple_getitem ht.typeIs entry_tuple_getitem ?_ (args_tuple_getitem _ _)))
  show wpAny _ _ (Builtin.Tuple.tupleItemsOf (.ref t) >>= _) _ _ s
  refine wpAny_bind (tupleItemsOf_ ht ?_)
  refine wpAny_bind (wpAny_typeOf hTs ?_)
  rw [if_pos (by decide)]
  refine wpAny_bind (applied_rev hs ps ?_)
  have hno : ¬ ((((items.size : Int) - 1) == 0 && (-1 : Int) == 1 && items.size == items.size) = true) := by
    rw [show ((-1 : Int) == 1) = false from rfl, Bool.and_false, Bool.false_and]
    exact Bool.false_ne_true
  show wpAny _ _ (if ((((items.size : Int) - 1) == 0 && (-1 : Int) == 1 && items.size == items.size)) = true then _ else _) _ _ s
  rw [if_neg hno, pick_rev]
  first
    | exact wpAny_bind (m := Builtin.Tuple.tupleExact _) (wpAny_newObj_type (wpAny_pure ⟨_, rfl, wpAny_pure h⟩) htake)
    | exact wpAny_bind (m := Builtin.Tuple.tupleExact _) (wpAny_newObj_type (wpAny_bind (wpAny_pure (wpAny_pure ⟨_, rfl, wpAny_pure h⟩))) htake)
    | exact wpAny_bind (wpAny_bind (m := Builtin.Tuple.tupleExact _) (wpAny_newObj_type (wpAny_pure (wpAny_pure ⟨_, rfl, wpAny_pure h⟩)) htake))
    | exact wpAny_bind (wpAny_bind (m := Builtin.Tuple.tupleExact _) (wpAny_newObj_type (wpAny_pure ⟨_, rfl, wpAny_pure h⟩) htake))
end
def revAD : PyData → Option PyData
  | .str z => if z.length ≤ 100000 then some (.str (revS z)) else none
  | .list xs => some (.list xs.reverse)
  | .tuple xs => some (.tuple xs.reverse)
  | _ => none
def tRevA (K : PySem.W.Frag) (te : TE) : TE := fun σ H Q => te σ H fun x H1 => (∃ z, x = .str z ∧ z.length ≤ sizeLine ∧ Q (.str (revS z)) H1) ∨
  (∃ a xs, x = .ref a ∧ SqL K H1 a xs ∧ ∀ p, H1 p = none → Q (.ref p) (upd H1 p (.lst xs.reverse))) ∨ (∃ a xs, x = .ref a ∧ SqT K H1 a xs ∧ ∀ p, H1 p = none → Q (.ref p) (upd H1 p (.tup xs.reverse)))
theorem pe_revA {X : Cx} {e : Expr} {te : TE} {k : Nat} {p1 p2 p3 pos : Pos} (he : PE X e te) : PE X (.Subscript e (.Slice none none (some (.UnaryOp .USub (.Constant (.int 1) k p1) p2)) p3) pos) (tRevA X.K te) := by
  refine ⟨fun pins s σ H Q I h => ?_⟩
  refine Subscript_ (thn (he.run pins s σ H _ I h) fun v s1 ⟨x, H1, I1, r1, q1⟩ => ?_)
  have hst : PO X (some (.UnaryOp .USub (.Constant (.int 1) k p1) p2)) (tPart (tUn (rU fun i => .int (-i)) (tC (.int 1)))) := po_some (pe_un un_neg pe_int)
  refine wpAny_Slice (thn (po_none.run pins s1 σ H1 (fun o H2 => o = none ∧ H2 = H1) I1 ⟨rfl, rfl⟩) fun vl s2 ⟨l, H2, I2, pl, el, e2⟩ => ?_)
  subst el e2
  refine thn (po_none.run pins s2 σ H2 (fun o H3 => o = none ∧ H3 = H2) I2 ⟨rfl, rfl⟩) fun vu s3 ⟨u, H3, I3, pu, eu, e3⟩ => ?_
  subst eu e3
  refine thn (hst.run pins s3 σ H3 (fun o H4 => o = some (-1) ∧ H4 = H3) I3 ⟨1, rfl, -1, rfl, rfl, rfl⟩) fun vs s4 ⟨o, H4, I4, ps, eo, e4⟩ => ?_
  subst eo e4
  have I5 : Inv X pins σ H4 { s4 with heap := s4.heap.push { cls := .type "slice", data := .fields #[vl, vu, vs] } } := I4.kept (t' := s4.toks) fun b ob q => Heap.get?_push_of_some _ q
  rcases q1 with ⟨z, rfl, hz, q⟩ | ⟨a, xs, rfl, hx, q⟩ | ⟨a, xs, rfl, hx, q⟩
  · obtain ⟨t, rfl⟩ := r1
    obtain ⟨l, rfl, hl⟩ := IsPart.raw pl
    obtain ⟨u, rfl, hu⟩ := IsPart.raw pu
    obtain ⟨st, rfl, hst'⟩ := IsPart.raw ps
    show wpAny (model X.prog X.w) X.A (subscriptTail e (.Slice none none (some (.UnaryOp .USub (.Constant (.int 1) k p1) p2)) p3) (.str z t) (.ref s4.heap.objs.size)) (EP X pins σ Q) X.xe { s4 with heap := s4.heap.push { cls := .type "slice", data := .fields #[partValue l, partValue u, partValue st] } }
    refine tail_any (ops := [.str z t, .ref s4.heap.objs.size]) (typeIs_str _ _ _) F.slot_str_getitem.lookup ?_ (by with_unfolding_all rfl)
    refine wpAny_getItem_str_slice (l := l) (u := u) (st := st) ⟨_, Heap.get?_push_size _ rfl, rfl, rfl⟩ (by rw [hst']; rfl) ?_
    unfold sliceMade slicePicked
    rw [hl, hu, hst']
    show Made.post (if ((-1 : Int) == 1 && _) = true then Made.val (.str z t) else Made.str ⟨((Builtin.Str.strSliceIndices none none (-1) z.length).filterMap (z.cps[·]?)).toArray⟩) (EP X pins σ Q) _
    rw [if_neg (by simp), strSlice_rev]
    have hlen : (revS z).length ≤ sizeLine := by
      show z.cps.toList.reverse.toArray.size ≤ sizeLine
      have : z.cps.toList.reverse.toArray.size = z.length := by simp; rfl
      omega
    exact ⟨hlen, .str _, H4, I5.tok _, ⟨_, rfl⟩, q⟩
  · cases r1
    obtain ⟨its, r, ht, hz⟩ := I5.list hx
    have hlen := r.length
    show wpAny (model X.prog X.w) X.A (subscriptTail e (.Slice none none (some (.UnaryOp .USub (.Constant (.int 1) k p1) p2)) p3) (.ref a) (.ref s4.heap.objs.size)) (EP X pins σ Q) X.xe { s4 with heap := s4.heap.push { cls := .type "slice", data := .fields #[vl, vu, vs] } }
    refine tail_any (ops := [.ref a, .ref s4.heap.objs.size]) ht.isList.typeIs (PySem.slot_list_getitem.lookup) ?_ (by with_unfolding_all rfl)
    refine wpAny_getItem_list_slice ht.isList (Heap.IsSliceOf.new _ vl vu vs) pl pu ps (by decide) ?_ (by rw [List.size_toArray]; omega)
    rw [PySem.W.krv_pick]
    refine ⟨.ref _, _, I5.laid (t' := s4.toks) (o := .lst xs.reverse) (fun b ob q => Heap.get?_push_of_some _ q) (Nat.le_refl _) ?_, rfl, q _ (I5.hok.fresh (Nat.le_refl _))⟩
    exact ⟨by rw [List.length_reverse]; exact hz, _, 0, r.reverse, Heap.get?_push_size _ rfl⟩
  · cases r1
    cases pl
    cases pu
    obtain ⟨its, r, ht, hz⟩ := I5.tuple hx
    have hlen : its.toArray.size = xs.length := by rw [List.size_toArray]; exact r.length.symm
    show wpAny (model X.prog X.w) X.A (subscriptTail e (.Slice none none (some (.UnaryOp .USub (.Constant (.int 1) k p1) p2)) p3) (.ref a) (.ref s4.heap.objs.size)) (EP X pins σ Q) X.xe { s4 with heap := s4.heap.push { cls := .type "slice", data := .fields #[.none, .none, vs] } }
    refine tail_any (ops := [.ref a, .ref s4.heap.objs.size]) ht.typeIs PyProof.Rows.slot_tuple_getitem.lookup ?_ (by with_unfolding_all rfl)
    refine getItem_tuple_rev ht (Heap.IsSliceOf.new _ .none .none vs) ps ?_ (by rw [hlen]; exact hz)
    refine ⟨.ref _, _, I5.laid (t' := s4.toks) (o := .tup xs.reverse) (fun b ob q => Heap.get?_push_of_some _ q) (Nat.le_refl _) ?_, rfl, q _ (I5.hok.fresh (Nat.le_refl _))⟩
    exact ⟨by rw [List.length_reverse]; exact hz, _, r.reverse, IsTup.new _ _⟩
section
variable {X : Cx} {e : Expr} {me : ME}
theorem DVs.reverse {K : PySem.W.Frag} {F : Hp} : ∀ {vs : List V} {ds : List PyData}, DVs K F vs ds → DVs K F vs.reverse ds.reverse
  | _, _, .nil => .nil
  | _, _, .cons h t => by
    rw [List.reverse_cons, List.reverse_cons]
    exact DVs.append (DVs.reverse t) (.cons h .nil)
theorem je_revA {k : Nat} {p1 p2 p3 pos : Pos} (he : JE X e me) : JE X (.Subscript e (.Slice none none (some (.UnaryOp .USub (.Constant (.int 1) k p1) p2)) p3) pos) (mUn revAD me) := by
  obtain ⟨te, pe, se⟩ := he.ex
  refine ⟨_, pe_revA pe, fun P F0 qc F cell S σ H Q z S' R hm k => ?_⟩
  unfold mUn at hm
  split at hm
  · cases hm
  · rename_i r1 S1 e1
    split at hm
    · rename_i d hd
      split at hm
      · rename_i z' hz
        cases hm
        unfold revAD at hz
        refine se P F0 qc F cell S σ H _ r1 S' R e1 fun v1 F1 H1 s1 R1 q1 => ?_
        have dx := R1.deref q1 hd
        have k' : ∀ (v : V) (F' H' : Hp), Ext F1 H1 F' H' → DV X.K F' v z' → Q v H' := fun v F' H' ex dv => k v F' H' (s1.trans ex.f) (R1.ext ex) dv
        split at hz
        · split at hz
          · rename_i zz hl
            cases hz
            exact .inl ⟨_, dx.str, small5 hl, k' _ _ _ (Ext.refl R1.fh) (.str _)⟩
          · cases hz
        · cases hz
          obtain ⟨a, vs, rfl, h1, h2⟩ := dx.list R1.fh
          refine .inr (.inl ⟨a, vs, rfl, SqL.of h1, fun p hp => ?_⟩)
          have ex : Ext F1 H1 (upd F1 p (.lst vs.reverse)) (upd H1 p (.lst vs.reverse)) := Ext.new R1.fh hp
          exact k' _ _ _ ex (.lst upd_same (h2.reverse.mono ex.f))
        · cases hz
          obtain ⟨a, vs, rfl, h1, h2⟩ := dx.tuple
          refine .inr (.inr ⟨a, vs, rfl, sqT_mono R1.fh h1, fun p hp => ?_⟩)
          have ex : Ext F1 H1 (upd F1 p (.tup vs.reverse)) (upd H1 p (.tup vs.reverse)) := Ext.new R1.fh hp
          exact k' _ _ _ ex (.tup (SqT.of upd_same) (h2.reverse.mono ex.f))
        · cases hz
      · cases hm
    · cases hm
end
end VL

set_option Elab.async false
set_option linter.all false
set_option maxRecDepth 100000
set_option maxHeartbeats 4000000
/-! VX9: t * 1 is t itself. -/
namespace VL
open PySem PySem.Spec PyProof.Rows L2
theorem tuple_mulW1 (l : Addr) (items : Array Value) (n : Nat) (dd : Option Addr) (sl : Array (Option Value)) (u : Tok) :
    Meets (Builtin.«tuple.__mul__» ⟨[.ref l, .int 1 u], []⟩) (fun _ R s => s.heap.get? l = some { cls := .type "tuple", dict := dd, data := .seq items n, slots := sl } ∧
      R (.ok (.ret (Value.ref l))) s) :=
  .of_wp fun prog w A R s h => by
    obtain ⟨hp, g, d, tk, os⟩ := s
    obtain ⟨hl, h⟩ := h
    have f1 := AutoSeq1.idx_int
    have c1 : (items.isEmpty || (1 : Int) == 1) = true := by simp
    wp_walk using wpAny_loadPart' hl
    exact ⟨_, rfl, h⟩
def rRepT1 (K : PySem.W.Frag) : R2 := fun x y H Q => ∃ l xs, x = .ref l ∧ y = .int 1 ∧ SqT K H l xs ∧ Q (.ref l) H
section
variable {X : Cx}
theorem op_repT1 : OpR X (binaryOp .Mult) (rRepT1 X.K) := by
  intro pins s σ H x y v u Q I rx ry h
  obtain ⟨l, xs, rfl, rfl, hT, q⟩ := h
  cases rx
  obtain ⟨t, rfl⟩ := ry
  obtain ⟨its, r, ⟨⟨cls, dd, data, sl⟩, ho, hc, n, hd⟩, hs⟩ := I.tuple hT
  simp only at hc hd
  subst hc hd
  refine wpAny_binaryOp_repeat_ref (T := "tuple") (U := "int") (by decide) ⟨_, ho, rfl⟩ (fun s' => typeIs_int s' 1 t) noFill_tuple_mul F.fills_int_mul F.slot_int_rmul repeat_tuple F.slot_int_index.lookup
    (call_meets F.slot_int_rmul (typeIs_int s 1 t) F.entry_int_rmul (F.args_int_rmul_2 _ _) (int_rmul_tuple 1 t l its.toArray n dd sl)
      ⟨ho, rfl, ⟨_, ho, rfl⟩, call_meets F.slot_tuple_mul ⟨_, ho, rfl⟩ F.entry_tuple_mul (F.args_tuple_mul_2 _ _) (tuple_mulW1 l its.toArray n dd sl t) ⟨ho, ?_⟩⟩)
  exact ⟨.ref l, H, I, rfl, q⟩
def mulAD (x y : PyData) : Option PyData := match x, y with
  | .tuple a, .int 1 => some (.tuple a)
  | x, y => mulD x y
abbrev rMulB (K : PySem.W.Frag) : R2 := fun x y H Q => rMulA K x y H Q ∨ rRepT1 K x y H Q
theorem op_mulB : OpR X (binaryOp .Mult) (rMulB X.K) := OpR.or op_mulA op_repT1
theorem ops_mulA {K : PySem.W.Frag} : OpS K (rMulB K) mulAD := by
  intro F H x y d e z Q fh hx hy hf k
  unfold mulAD at hf
  split at hf
  · cases hf
    obtain ⟨a, vs, rfl, h1, h2⟩ := hx.tuple
    exact .inr ⟨a, vs, rfl, hy.int, sqT_mono fh h1, k _ _ _ (Ext.refl fh) (.tup h1 h2)⟩
  · exact .inl (ops_mul F H x y _ _ z Q fh hx hy hf k)
theorem je_mulA {a b : Expr} {ma mb : ME} {pos : Pos} (ha : JE X a ma) (hb : JE X b mb) : JE X (.BinOp a .Mult b pos) (mBin mulAD ma mb) := je_bin op_mulB ops_mulA ha hb
end
theorem mulAD_tuple {a : List PyData} {n : Int} (h0 : a ≠ []) (h1 : 1 ≤ n) (h2 : n ≤ 1000) (h3 : a.length ≤ 1000) : mulAD (.tuple a) (.int n) = some (.tuple (List.replicate n.toNat a).flatten) := by
  by_cases h : n = 1
  · subst h
    show some (PyData.tuple a) = _
    simp [show (1 : Int).toNat = 1 from rfl, List.replicate]
  · unfold mulAD
    split
    · rename_i a' ex ey
      injection ey with ey
      exact absurd ey h
    · exact if_pos ⟨h0, by omega, h2, h3⟩
end VL

set_option Elab.async false
set_option linter.all false
set_option maxRecDepth 100000
set_option maxHeartbeats 4000000
/-! VX10: grids: [[c] * n for ..] in the memory, E[a:b] = e, all told. -/
namespace VL
open PySem PySem.Spec PyProof.Rows L2
def denU (K : PySem.W.Frag) (u : UE) : TE := fun σ H Q => ∃ P F0 qc F cell S M, RM K P F0 qc F cell S M σ H ∧ u S M (fun r S' M' => ∀ v F' H', Same F F' → RM K P F0 qc F' cell S' M' σ H' → VR K F' cell r v → Q v H')
theorem UEJ.den {X : Cx} {e : Expr} {u : UE} (h : UEJ X e u) : PE X e (denU X.K u) := by
  obtain ⟨t, p, s⟩ := h.ex
  exact ⟨fun pins s0 σ H Q I ⟨P, F0, qc, F, cell, S, M, R, hu⟩ => p.run pins s0 σ H Q I (s P F0 qc F cell S M σ H Q R hu)⟩
section
variable {X : Cx} {W : WX} {a b e elt tg iter : Expr} {ma mb me : ME} {ua ue : UE} {pos pos' : Pos} {sts : List Stmt} {mi : MI} {g : MG} {scope : Scope} {own : List (Str × Nat)} {ts : List Nat} {ml mh : MO} {lo hi : Option Expr}
/-- ds * n, a new list of the memory -/
def uRep (ma mb : ME) : UE := fun S M Q => ∃ ds S1 n S2, ma S = some (.v (.list ds), S1) ∧ mb S1 = some (.v (.int n), S2) ∧ 0 ≤ n ∧ n ≤ 100000 ∧ ds.length * n.toNat ≤ 100000 ∧ ∀ a, Q (.s (.ptr M.length a)) S2 (M ++ [⟨a, .lst ((List.replicate n.toNat ds).flatten.map .d)⟩])
theorem ue_rep (ha : JE X a ma) (hb : JE X b mb) : UEJ X (.BinOp a .Mult b pos) (uRep ma mb) := by
  obtain ⟨ta, pa, sa⟩ := ha.ex
  obtain ⟨tb, pb, sb⟩ := hb.ex
  refine ⟨fun S M Q Q' k ⟨ds, S1, n, S2, h1, h2, h3, h4, h5, h6⟩ => ⟨ds, S1, n, S2, h1, h2, h3, h4, h5, fun a => k _ _ _ (h6 a)⟩, _, pe_op op_rep pa pb, fun P F0 qc F cell S M σ H Q ⟨P', mo, R⟩ ⟨ds, S1, n, S2, e1, e2, h0, h1, h2, k⟩ => ?_⟩
  refine sa P' F0 qc F cell S σ H _ _ S1 R e1 fun v1 F1 H1 f1 R1 q1 => ?_
  refine sb P' F0 qc F1 cell S1 σ H1 _ _ S2 R1 e2 fun v2 F2 H2 f2 R2 q2 => ?_
  have d1 : DV X.K F2 v1 (.list ds) := DV.mono f2 q1
  cases (show DV X.K F2 v2 (.int n) from q2)
  cases d1 with
  | @lst p vs _ g3 g4 =>
    refine ⟨_, n, _, rfl, rfl, R2.fh _ _ g3, by omega, by omega, by rw [g4.length]; exact small5 h2, fun p hp => ?_⟩
    exact k p _ F2 _ (f1.trans f2) (RM.alloc (mo.mono (f1.trans f2)) R2 hp (ItsR.data (g4.rep _))) rfl
theorem uRep_mono (ma mb : ME) : UMono (uRep ma mb) := fun S M Q Q' k ⟨ds, S1, n, S2, h1, h2, h3, h4, h5, h6⟩ => ⟨ds, S1, n, S2, h1, h2, h3, h4, h5, fun a => k _ _ _ (h6 a)⟩
/-- [elt for tg in iter], each elt a new thing of the memory -/
def uLcGo (g : MG) (ue : UE) (vs : List Nat) (k : Nat) (a : Addr) : List PyData → List Itm → UM (List Itm)
  | [], its => fun S M Q => Q its S M
  | d :: ds, its => fun S M Q => ∃ S1, g d S = some S1 ∧ ue S1 M fun r S2 M2 => ∃ it, itOf M2 r = some it ∧ its.length < 100000 ∧ M2[k]? = some ⟨a, .lst its⟩ ∧ uLcGo g ue vs k a ds (its ++ [it]) (wp S2 vs) (M2.set k ⟨a, .lst (its ++ [it])⟩) Q
theorem uLcGo_mono {g : MG} {ue : UE} {vs : List Nat} {k : Nat} {a : Addr} (m : UMono ue) : ∀ (ds : List PyData) (its : List Itm), UMono (uLcGo g ue vs k a ds its)
  | [], its, S, M, Q, Q', kk, h => kk _ _ _ h
  | d :: ds, its, S, M, Q, Q', kk, ⟨S1, h1, h2⟩ => ⟨S1, h1, m _ _ _ _ (fun r S2 M2 ⟨it, g1, g2, g3, g4⟩ => ⟨it, g1, g2, g3, uLcGo_mono m ds _ _ _ _ _ kk g4⟩) h2⟩
def uSetLc (i : Nat) (mi : MI) (g : MG) (ue : UE) (vs : List Nat) : US := fun S M Q => ∃ ds S1, mi S = some (ds, S1) ∧ ownOk S1 vs = true ∧ ∀ a, uLcGo g ue vs M.length a ds [] (wp S1 vs) (M ++ [⟨a, .lst []⟩]) (fun its T M' => Q .nx ((unwp S1 T vs).set i (some (.s (.ptr M.length a)))) M')
theorem us_setLc (i : Nat) {y : Str} {py spos : Pos} (hc : X.calm = true) (hN : X.N.Nodup) (hi : JI X tg iter mi) (ok : BlkOk X.N X.env.scope scope own)
    (hg : ∀ (s : Shared) (H : Hp) (C : Addr) (cl : List (Str × Addr)) (fp : List Addr), JG (X.blk s H scope (compEnvC scope cl C X.env) fp) tg g ts)
    (he : ∀ (s : Shared) (H : Hp) (C : Addr) (cl : List (Str × Addr)) (fp : List Addr), UEJ (X.blk s H scope (compEnvC scope cl C X.env) fp) elt ue) (hm : UMono ue) (hy : X.N[i]? = some y := by rfl) (hyl : X.env.scope.names.lookup y = some .local := by rfl)
    (hsw : swapsWith (.ListComp elt [⟨tg, iter, [], 0⟩] scope pos) (some (.Name y py)) spos.line X.env = pure true := by rfl) (hv : ∀ i ∈ ts, i ∈ own.map (·.2) := by decide) (hs : ∀ x, foldedSetIterable iter X.env x = pure x := by intro _; rfl) :
    USJ X W (.Assign [.Name y py] (.ListComp elt [⟨tg, iter, [], 0⟩] scope pos) spos) (uSetLc i mi g ue (own.map (·.2))) := by
  obtain ⟨wi, pi, si⟩ := hi.ex
  refine ⟨fun S M Q Q' k ⟨ds, S1, h1, h2, h3⟩ => ⟨ds, S1, h1, h2, fun a => uLcGo_mono hm _ _ _ _ _ _ (fun its T M' q => k _ _ _ q) (h3 a)⟩,
    _, ps_setLc (te := denU X.K ue) (tt := denT X.K tYesM) (g := denG X.K g ts) hc hN hy hyl hsw pi ok (fun s H C cl fp => (hg s H C cl fp).den) (fun s H C cl fp => (jts_nil (X := X.blk s H scope (compEnvC scope cl C X.env) fp)).den) (fun s H C cl fp => (he s H C cl fp).den) hs, fun P F0 qc F cell S M σ H D ⟨P', mo, R⟩ ⟨ds, S1, e1, ho, hk⟩ => ?_⟩
  refine si P' F0 qc F cell S σ H _ ds S1 R e1 fun J F1 H1 f1 R1 okk => ?_
  intro A hA
  obtain ⟨G, Y, w, hG, hY⟩ := okk.ex
  obtain ⟨P0, mo0, R0⟩ : RM X.K P F0 qc F1 cell S1 (M ++ [⟨A, .lst []⟩]) σ (upd H1 A (.lst [])) := RM.alloc (its := []) (vs := []) (mo.mono f1) R1 hA rfl
  have hk := hk A
  obtain ⟨vs, hvs⟩ : ∃ vs, vs = own.map (·.2) := ⟨_, rfl⟩
  rw [← hvs] at hk ho hv ⊢
  obtain ⟨FIN, hFIN⟩ : ∃ FIN : List Itm → Sl → Mem → Prop, FIN = (fun its T M' => ∀ F' cell' σ' H', Same F F' → RM X.K P F0 qc F' cell' ((unwp S1 T vs).set i (some (.s (.ptr M.length A)))) M' σ' H' → FlK X.K W F' cell' .nx D σ' H') := ⟨_, rfl⟩
  have hk' : uLcGo g ue vs M.length A ds [] (wp S1 vs) (M ++ [⟨A, .lst []⟩]) FIN := by rw [hFIN]; exact hk
  refine ⟨fun i m H => m = ds.length - i ∧ i ≤ ds.length ∧ ∃ F2 T2 M2 its, Same F1 F2 ∧ RM X.K P F0 qc F2 cell T2 M2 (L2.wipe σ vs) H ∧ (∃ ad, M2[M.length]? = some ⟨A, ad⟩) ∧ uLcGo g ue vs M.length A (ds.drop i) its T2 M2 FIN,
    ⟨ds.length, by simp, Nat.zero_le _, F1, wp S1 vs, M ++ [⟨A, .lst []⟩], [], Same.refl _, ⟨P0, mo0, R0.wipe vs⟩, (⟨.lst [], by simp⟩ : ∃ ad, (M ++ [⟨A, .lst []⟩])[M.length]? = some ⟨A, ad⟩), by rw [List.drop_zero]; exact hk'⟩, ?_⟩
  rintro j m H2 ⟨rfl, hj, F2, T2, M2, its, f2, ⟨P2, mo2, R2⟩, hA2, e3⟩
  by_cases hlt : j < ds.length
  · refine .inr ⟨w.1 j H2 hlt (hG H2 (f2.trans R2.fh)), fun H' => j + 1 ≤ ds.length ∧ ∃ F2 T2 M2 its, Same F1 F2 ∧ RM X.K P F0 qc F2 cell T2 M2 (L2.wipe σ vs) H' ∧ (∃ ad, M2[M.length]? = some ⟨A, ad⟩) ∧ uLcGo g ue vs M.length A (ds.drop (j + 1)) its T2 M2 FIN, fun H' q => ⟨ds.length - (j + 1), by omega, rfl, q⟩, fun x H' y => ?_⟩
    obtain ⟨d, hd, hdr⟩ := drop_cons hlt
    rw [hdr] at e3
    obtain ⟨T3, e4, e5⟩ := e3
    obtain ⟨F3, ex, dv⟩ := hY j H2 x H' F2 d f2 R2.fh hd (w.yields j H2 x H' hlt (hG H2 (f2.trans R2.fh)) y)
    have R3 := R2.ext ex
    refine ⟨_, F0, qc, F3, cell, T2, d, T3, R3, dv, e4, fun σ4 R4 w4 => ⟨(w4 vs hv).trans (wipe_idem σ vs), ?_⟩⟩
    refine ⟨_, F0, qc, F3, cell, T3, true, T3, R4, rfl, fun F5 H5 f5 R5 => ?_⟩
    show ite (true = true) _ _
    rw [if_pos rfl]
    refine ⟨P, F0, qc, F5, cell, T3, M2, ⟨P2, (mo2.mono ex.f).mono f5, R5⟩, hm _ _ _ _ (fun r S6 M6 h6 v F6 H6 f6 R6 q6 => ?_) e5⟩
    obtain ⟨it, g1, g2, g3, g4⟩ := h6
    obtain ⟨P6, mo6, RR6⟩ := R6
    obtain ⟨ws, y1, y2⟩ := mo6.lst g3 rfl
    refine ⟨ws, RR6.ph _ _ y1, by rw [y2.length]; exact Nat.lt_of_lt_of_le g2 (by decide), hlt, F6, _, _, its ++ [it], ((f2.trans ex.f).trans f5).trans f6, ?_, ⟨.lst (its ++ [it]), by rw [List.getElem?_set_self (List.getElem?_eq_some_iff.mp g3).1]⟩, g4⟩
    obtain ⟨P7, mo7, R7⟩ := RM.change mo6 RR6 g3 (y2.append (show ItsR X.K F6 M6 [it] [v] from ⟨v, [], rfl, itOf_ok q6 g1, rfl⟩))
    refine ⟨P7, mo7, ?_⟩
    rw [← (w4 vs hv).trans (wipe_idem σ vs)]
    exact R7.wipe vs
  · have e : j = ds.length := by omega
    rw [e, List.drop_length] at e3
    rw [e]
    refine .inl ⟨w.2 H2 (hG H2 (f2.trans R2.fh)), ?_⟩
    have e3 : FIN its T2 M2 := e3
    rw [hFIN] at e3
    have R8 := R1.unwipe ho f2 R2
    exact e3 F2 cell _ H2 (f1.trans f2) ⟨P2, mo2, R8.setR (r := .s (.ptr M.length A)) (v := .ref A) rfl rfl⟩
/-- o[lo:hi] = v, v another list -/
def gSubS (to : TE) (tl th : TO) : TG := fun v σ H Q => to σ H fun o H1 => tl σ H1 fun l H2 => th σ H2 fun h H3 => ∃ p b xs ys a c, o = .ref p ∧ v = .ref b ∧ H3 p = some (.lst xs) ∧ H3 b = some (.lst ys) ∧ p ≠ b ∧ l = some a ∧ h = some c ∧ 0 ≤ a ∧ a ≤ c ∧ c ≤ (xs.length : Int) ∧ xs.length + ys.length ≤ sizeLine ∧ Q σ (upd H3 p (.lst (xs.take a.toNat ++ ys ++ xs.drop c.toNat)))
theorem relv_part {v : Value} {i : Int} (h : IsPart v (some i)) : RelV (.int i) v := by
  cases h with
  | int i t => exact ⟨t, rfl⟩
theorem pg_subS {o : Expr} {to : TE} {tl th : TO} {p2 : Pos} (ho : PE X o to) (hl : PO X lo tl) (hh : PO X hi th)
    (ha : ∀ v, assign (.Subscript o (.Slice lo hi none p2) pos) X.env v = (do
      let ov ← holding [v] (eval o X.env)
      let iv ← holding [v, ov] (eval (.Slice lo hi none p2) X.env)
      standAt pos
      holding [v, ov, iv] (setItem ov iv v)
      release [iv, v, ov] []) := by intro _; rfl) : PG X (.Subscript o (.Slice lo hi none p2) pos) (gSubS to tl th) := by
  refine ⟨fun pins s σ H v u Q I r h => ?_⟩
  rw [ha]
  refine wpAny_bind (wpAny_holding (thn (ho.run pins s σ H _ I h) fun ov s1 ⟨x, H1, I1, r1, q1⟩ => ?_))
  refine wpAny_bind (wpAny_holding ?_)
  refine wpAny_Slice (thn (hl.run pins s1 σ H1 _ I1 q1) fun vl s2 ⟨l, H2, I2, pl, q2⟩ => thn (hh.run pins s2 σ H2 _ I2 q2) fun vu s3 ⟨hh, H3, I3, pu, q3⟩ => ?_)
  rw [evalPart_none]
  refine wpAny_pure ?_
  have I4 : Inv X pins σ H3 { s3 with heap := s3.heap.push { cls := .type "slice", data := .fields #[vl, vu, .none] } } := I3.kept (t' := s3.toks) fun b ob q => Heap.get?_push_of_some _ q
  obtain ⟨p, b, xs, ys, a, c, rfl, rfl, hp, hb, hne, rfl, rfl, h0, h1, h2, hz, q4⟩ := q3
  cases r1
  cases r
  refine wpAny_bind (wpAny_standAt (wpAny_bind (wpAny_holding ?_)))
  refine set_slice I4 hp hb hne (Heap.IsSliceOf.new ..) (relv_part pl) (relv_part pu) h0 h1 h2 hz fun s4 I5 => ?_
  exact wpAny_release ⟨σ, _, I5, q4⟩
def uSlst (me : ME) (ua : UE) (ml mh : MO) : US := fun S M Q => ∃ ys S1, me S = some (.v (.list ys), S1) ∧ ua S1 M fun r S2 M2 => ∃ l S3 h S4 k a its, ml S2 = some (some l, S3) ∧ mh S3 = some (some h, S4) ∧ IsLst M2 r k a its ∧ 0 ≤ l ∧ l ≤ h ∧ h ≤ (its.length : Int) ∧ its.length + ys.length ≤ 100000 ∧
  Q .nx S4 (M2.set k ⟨a, .lst (its.take l.toNat ++ ys.map .d ++ its.drop h.toNat)⟩)
theorem RM.apart {K : PySem.W.Frag} {P P' F0 F : Hp} {qc cell : Nat → Addr} {S : Sl} {M : Mem} {σ : L2.St} {H : Hp} (mo : MOk K P P' F0 F M) (R : RC K P' F0 qc F cell S σ H) {k : Nat} {e : Ent} (h : M[k]? = some e) : F e.a = none := by
  obtain ⟨o, ho⟩ := mo.at h
  cases q : F e.a with
  | none => rfl
  | some u =>
    rcases R.fr e.a (by rw [q]; simp) with z | z
    · exact absurd (mo.fresh k e h).2 z
    · rw [ho] at z; cases z
theorem us_slst {p2 : Pos} (he : JE X e me) (ha : UEJ X a ua) (hl : JO X lo ml) (hh : JO X hi mh) (hs : swapsWithSole [.Subscript a (.Slice lo hi none p2) pos'] e pos.line X.env = pure false := by rfl) (hw : swappedStores [.Subscript a (.Slice lo hi none p2) pos'] e X.env = pure none := by rfl)
    (h1 : (assignEach [.Subscript a (.Slice lo hi none p2) pos'] X.env).map (·.2) = [assign (.Subscript a (.Slice lo hi none p2) pos') X.env] := by rfl)
    (hst : ∀ v, assign (.Subscript a (.Slice lo hi none p2) pos') X.env v = (do
      let ov ← holding [v] (eval a X.env)
      let iv ← holding [v, ov] (eval (.Slice lo hi none p2) X.env)
      standAt pos'
      holding [v, ov, iv] (setItem ov iv v)
      release [iv, v, ov] []) := by intro _; rfl) : USJ X W (.Assign [.Subscript a (.Slice lo hi none p2) pos'] e pos) (uSlst me ua ml mh) := by
  obtain ⟨te, pe, se⟩ := he.ex
  obtain ⟨ta, pa, sa⟩ := ha.ex
  obtain ⟨tl, pl, sl⟩ := hl.ex
  obtain ⟨th, ph, sh⟩ := hh.ex
  refine ⟨fun S M Q Q' k ⟨ys, S1, g1, g2⟩ => ⟨ys, S1, g1, ha.mono _ _ _ _ (fun r S2 M2 ⟨l, S3, h, S4, i, x, its, y1, y2, y3, y4, y5, y6, y7, q⟩ => ⟨l, S3, h, S4, i, x, its, y1, y2, y3, y4, y5, y6, y7, k _ _ _ q⟩) g2⟩,
    _, ps_asg pe (pg_subS pa pl ph hst) hs hw h1, fun P F0 qc F cell S M σ H D ⟨P', mo, R⟩ ⟨ys, S1, e1, hu⟩ => ?_⟩
  refine se P' F0 qc F cell S σ H _ _ S1 R e1 fun v F1 H1 f1 R1 q1 => ?_
  refine sa P F0 qc F1 cell S1 M σ H1 _ ⟨P', mo.mono f1, R1⟩ (ha.mono _ _ _ _ (fun r S2 M2 h2 o F2 H2 f2 R2 q2 => ?_) hu)
  obtain ⟨l, S3, h, S4, k, x, its, y1, y2, y3, y4, y5, y6, y7, q⟩ := h2
  obtain ⟨P2, mo2, RR2⟩ := R2
  refine sl P2 F0 qc F2 cell S2 σ H2 _ _ S3 RR2 y1 fun F3 H3 f3 R3 => ?_
  refine sh P2 F0 qc F3 cell S3 σ H3 _ _ S4 R3 y2 fun F4 H4 f4 R4 => ?_
  have mo4 := (mo2.mono f3).mono f4
  obtain ⟨eo, vs, z1, z2⟩ := RM.lst mo4 R4 ((q2.mono f3).mono f4) y3
  subst eo
  have dv : DV X.K F4 v (.list ys) := DV.mono ((f2.trans f3).trans f4) q1
  have ap := RM.apart mo4 R4 y3.2
  cases dv with
  | @lst b us _ g3 g4 =>
    have hne : x ≠ b := fun z => by
      have ap : F4 x = none := ap
      rw [z, g3] at ap
      cases ap
    refine ⟨x, b, vs, us, l, h, rfl, rfl, z1, R4.fh _ _ g3, hne, rfl, rfl, y4, y5, by rw [z2.length]; exact y6, by rw [z2.length, g4.length]; exact small5 y7, ?_⟩
    exact q F4 cell σ _ (((f1.trans f2).trans f3).trans f4) (RM.change mo4 R4 y3.2 (((z2.take _).append (ItsR.data g4)).append (z2.drop _)))
/-- the memory is told: what slot i holds is data from here on -/
def uTell (i : Nat) (u : US) : US := fun S M Q => ∃ k a d, S[i]? = some (some (.s (.ptr k a))) ∧ tellR M (.s (.ptr k a)) = some d ∧ u (S.set i (some (.v d))) [] Q
theorem ub_tell (i : Nat) {u : US} (h : UBJ X W sts u) : UBJ X W sts (uTell i u) := by
  obtain ⟨t, p, s⟩ := h.ex
  refine ⟨fun S M Q Q' k ⟨j, a, d, h1, h2, h3⟩ => ⟨j, a, d, h1, h2, h.mono _ _ _ _ k h3⟩, t, p, fun P F0 qc F cell S M σ H D ⟨P', mo, R⟩ ⟨k, a, d, h1, h2, h3⟩ => ?_⟩
  obtain ⟨F2, f2, R2, tell⟩ := RM.tell mo R
  obtain ⟨v, g1, g2⟩ := R2.sc i _ h1
  have dv := tell (.s (.ptr k a)) v d (VR.mono (Same.refl _) (show VR X.K F cell (.s (.ptr k a)) v from g2)) h2
  have R3 : RC X.K P F0 qc F2 cell (S.set i (some (.v d))) (σ.set i (some v)) H := R2.setV dv
  have es : σ.set i (some v) = σ := by
    refine List.ext_getElem? fun j => ?_
    by_cases q : i = j
    · subst q
      rw [List.getElem?_set_self (List.getElem?_eq_some_iff.mp g1).1, g1]
    · rw [List.getElem?_set_ne q]
  rw [es] at R3
  exact s P F0 qc F2 cell _ [] σ H D (RM.nil R3) (h.mono _ _ _ _ (fun fl S' M' kk F' c' σ' H' f R' => kk F' c' σ' H' (f2.trans f) R') h3)
end
end VL

set_option Elab.async false
set_option linter.all false
set_option maxRecDepth 100000
set_option maxHeartbeats 4000000
/-! VX11: a, b = f(..) of a raising def. -/
namespace VL
open PySem PySem.Spec PyProof.Rows L2
def mUnpX2 (m : MO2) (g : MG) : MS := fun S => match m S with
  | some (.val d, S1) => match g d S1 with
    | some S2 => some (.nx, S2)
    | none => none
  | some (.exc c fs, S1) => some (.rz c fs, S1)
  | _ => none
section
variable {X : Cx} {W : WX} {e tg : Expr} {mo : MO2} {g : MG} {ts : List Nat} {pos : Pos}
theorem js_unpX2 (he : JO2 X W e mo) (hg : JG X tg g ts) (hs : swapsWithSole [tg] e pos.line X.env = pure false := by rfl) (hw : swappedStores [tg] e X.env = pure none := by rfl)
    (h1 : (assignEach [tg] X.env).map (·.2) = [assign tg X.env] := by rfl) : JS X W (.Assign [tg] e pos) (mUnpX2 mo g) := by
  obtain ⟨t, p, s⟩ := he.ex
  obtain ⟨gg, pg, sg⟩ := hg.ex
  refine ⟨_, ps_asg p pg hs hw h1, fun P F0 qc F cell S σ H D fl S' R hm k => ?_⟩
  unfold mUnpX2 at hm
  split at hm
  · rename_i d S1 e1
    split at hm
    · rename_i S2 e2
      cases hm
      refine s P F0 qc F cell S σ H _ _ S1 R e1 fun v F1 H1 f1 R1 q1 => ?_
      exact sg P F0 qc F1 cell S1 σ H1 _ v d S' R1 q1 e2 fun σ' R2 _ => k F1 cell σ' H1 f1 R2
    · cases hm
  · rename_i c fs S1 e1
    cases hm
    exact s P F0 qc F cell S σ H _ _ S' R e1 fun C dd us F' H' f1 R1 h1 h2 h3 => k F' cell σ H' f1 R1 C dd us h1 h2 h3
  · cases hm
end
end VL

set_option Elab.async false
set_option linter.all false
set_option maxRecDepth 100000
set_option maxHeartbeats 4000000
/-! VX12: list(z) of a text. -/
namespace VL
open PySem PySem.Spec PyProof.Rows L2
theorem vals_signs : ∀ (l : List Nat) (us : List Value), us.length = l.length → (∀ (j : Nat) (v : Value), us[j]? = some v → ∃ c u, l[j]? = some c ∧ v = .str ⟨#[c]⟩ u) → Vals (l.map fun c => V.str ⟨#[c]⟩) us
  | [], [], _, _ => Paired.nil
  | c :: l, v :: us, h, hs => by
    obtain ⟨c', u, h1, rfl⟩ := hs 0 v rfl
    cases h1
    exact Paired.cons (show RelV (V.str ⟨#[c]⟩) _ from ⟨u, rfl⟩) (vals_signs l us (by simpa using h) fun j w hw => hs (j + 1) w (by simpa using hw))
  | [], _ :: _, h, _ => by simp at h
  | _ :: _, [], h, _ => by simp at h
theorem call_list_txt {X : Cx} (hc : X.calm = true) : CallR X (.type "list") (fun xs H Q => ∃ z : Str, xs = [.str z] ∧ z.length ≤ sizeLine ∧ ∀ l, H l = none → Q (.ref l) (upd H l (.lst (z.cps.toList.map fun c => V.str ⟨#[c]⟩)))) := by
  intro pins s σ H xs us Q I r h
  obtain ⟨z, rfl, hz, q⟩ := h
  obtain ⟨u, rfl, rx⟩ := vals1 r
  obtain ⟨t, rfl⟩ := rx
  refine call_list_str (I.ok.hd hc) z t (hn := hz) fun h' tk acc' c' hk hS' hacc => ?_
  have hv : Vals (z.cps.toList.map fun c => V.str ⟨#[c]⟩) acc'.toList := vals_signs _ _ (by rw [Array.length_toList, Array.length_toList]; exact hacc.1) fun j v hv => by
    obtain ⟨c, u, e1, e2⟩ := hacc.2 j v (by simpa using hv)
    exact ⟨c, u, by simpa using e1, e2⟩
  refine ⟨.ref s.heap.objs.size, _, I.laid (t' := tk) (o := .lst (z.cps.toList.map fun c => V.str ⟨#[c]⟩)) hk (Nat.le_refl _) ?_, rfl, q _ (I.hok.fresh (Nat.le_refl _))⟩
  exact ⟨by rw [List.length_map, Array.length_toList]; exact hz, acc'.toList, c', hv, by simpa using hS'⟩
def listAF : List PyData → Option PyData
  | [.str z] => if z.length ≤ 100000 then some (.list (signsD z)) else none
  | ds => listF ds
theorem cs_listA {K : PySem.W.Frag} : CS K (fun xs H Q => (∃ p ys, xs = [.ref p] ∧ (SqL K H p ys ∨ SqT K H p ys) ∧ ∀ l, H l = none → Q (.ref l) (upd H l (.lst ys))) ∨
    ∃ z : Str, xs = [.str z] ∧ z.length ≤ sizeLine ∧ ∀ l, H l = none → Q (.ref l) (upd H l (.lst (z.cps.toList.map fun c => V.str ⟨#[c]⟩)))) listAF := by
  intro F H xs ds z Q fh hx hf k
  unfold listAF at hf
  split at hf
  · split at hf
    · rename_i xx z hl
      cases hf
      obtain ⟨v, rfl, h1⟩ := dxs1 hx
      refine .inr ⟨z, by rw [h1.str], small5 hl, fun l hl => ?_⟩
      have ex : Ext F H (upd F l (.lst (z.cps.toList.map fun c => V.str ⟨#[c]⟩))) (upd H l (.lst (z.cps.toList.map fun c => V.str ⟨#[c]⟩))) := Ext.new fh hl
      exact k _ _ _ ex (.lst upd_same (dvs_signs z))
    · cases hf
  · exact .inl (cs_list F H xs ds z Q fh hx hf k)
section
variable {X : Cx} {e : Expr} {mas : MA} {p pos : Pos}
theorem je_tolistA (hc : X.calm = true) (hm : X.mg "list" = none) (ha : JA X [e] mas) (hg : Gl X "list" := by rfl) (he : starEach [e] X.env = (false, eval e X.env) :: starEach [] X.env := by rfl) (hpl : (backTo pos (starEach [] X.env)).any (·.1) = false := by rfl) : JE X (.Call (.Name "list" p) [e] [] pos) (mCall listAF mas) := je_callT (CallR.or call_list_of (call_list_txt hc)) cs_listA hm (by decide +kernel) ha hg (by decide) (by decide) he hpl
end
end VL

set_option Elab.async false
set_option linter.all false
set_option maxRecDepth 100000
set_option maxHeartbeats 4000000
/-! VX13: "c".join(e).replace(y, z) of written texts: the receiver's own text gives the token. -/
namespace VL
open PySem PySem.Spec PyProof.Rows L2
def mReplC (m : ME) (y z : Str) : ME := fun S => match m S with
  | some (.v (.str x), S1) => if x.length + (x.length + 1) * z.length ≤ 16777216 then some (.v (.str (Txt.replace x y z)), S1) else none
  | _ => none
section
variable {X : Cx} {e : Expr} {me : ME} {te : TE} {c y z : Str} {j k l : Nat} {p0 c0 c1 ap1 pos1 apos pos : Pos} {r : V → List V → Hp → VK → Prop}
def tJR (r : V → List V → Hp → VK → Prop) (c : Str) (te : TE) (y z : Str) : TE := fun σ H Q => te σ H fun u H2 => r (.str c) [u] H2 fun v H3 => ∃ x, v = .str x ∧ x.length + (x.length + 1) * z.length ≤ 16777216 ∧ Q (.str (Txt.replace x y z)) H3
theorem pe_joinRepl (rule : MtR X "str.join" r) (he : PE X e te) (hyz : (y == z) = false)
    (hs1 : starEach [e] X.env = [(false, eval e X.env)]) (hb1 : attributeBase (.Constant (.str c) j p0) "join" X.env (eval (.Constant (.str c) j p0) X.env) = eval (.Constant (.str c) j p0) X.env) (hl1 : (ap1.endLine == pos1.line) = true)
    (hst : starEach [.Constant (.str y) k c0, .Constant (.str z) l c1] X.env = [(false, eval (.Constant (.str y) k c0) X.env), (false, eval (.Constant (.str z) l c1) X.env)])
    (hbase : attributeBase (.Call (.Attribute (.Constant (.str c) j p0) "join" ap1) [e] [] pos1) "replace" X.env (eval (.Call (.Attribute (.Constant (.str c) j p0) "join" ap1) [e] [] pos1) X.env) = eval (.Call (.Attribute (.Constant (.str c) j p0) "join" ap1) [e] [] pos1) X.env) (hline : (apos.endLine == pos.line) = true) :
    PE X (.Call (.Attribute (.Call (.Attribute (.Constant (.str c) j p0) "join" ap1) [e] [] pos1) "replace" apos) [.Constant (.str y) k c0, .Constant (.str z) l c1] [] pos) (tJR r c te y z) := by
  refine ⟨fun pins s σ H Q I h => ?_⟩
  refine PySem.Call_method2 hbase hst hline ?_
  refine PySem.Call_method1 hb1 hs1 hl1 (Calls.Constant_str ?_)
  refine ⟨"str", _, F.plainAttrs_str, F.slot_str_join, F.type_str_join, typeIs_str _ _ _, (fun _ e => nomatch e), Calls.callWith_builtin rfl (Calls.evalArgs_plain (Calls.spliced_cons ?_))⟩
  refine wpAny_with_toks (n := s.toks + 1) (Nat.le_refl _) (wpAny_mono (he.run pins _ σ H _ (I.tok _) h) (fun u s2 q hk => ?_) fun _ _ x _ => x)
  obtain ⟨yv, H2, I2, r2, q2⟩ := q
  refine Calls.spliced_nil ?_
  refine wpAny_with_toks hk (wpAny_mono (rule pins s2 σ H2 (.str c) [yv] (.str c s.toks) [u] _ I2 ⟨s.toks, rfl⟩ (.cons r2 .nil) q2) (fun v s3 q hk3 => ?_) fun _ _ x _ => x)
  obtain ⟨v', H3, I3, r3, x, e1, hb, q⟩ := q
  subst e1
  obtain ⟨tx, e2⟩ := r3
  subst e2
  refine ⟨"str", _, PySem.F.plainAttrs_str, PySem.F.slot_str_replace, PySem.F.type_str_replace, typeIs_str _ _ _, (fun _ e => nomatch e), Calls.callWith_builtin rfl (Calls.evalArgs_plain (Calls.spliced_cons ?_))⟩
  refine Calls.Constant_str (Calls.spliced_cons (Calls.Constant_str (Calls.spliced_nil ?_)))
  exact PySem.SC.replace (by show s3.toks ≠ 0; omega) (by show s3.toks + 1 ≠ 0; omega) (by show s3.toks ≠ s3.toks + 1; omega) hyz hb fun t' k => ⟨.str (Txt.replace x y z), H3, I3.tok k, ⟨t', rfl⟩, q⟩
theorem je_joinReplR (rule : MtR X "str.join" r) (hs : MS1 X.K r joinF) (he : JE X e me) (hyz : (y == z) = false)
    (hs1 : starEach [e] X.env = [(false, eval e X.env)]) (hb1 : attributeBase (.Constant (.str c) j p0) "join" X.env (eval (.Constant (.str c) j p0) X.env) = eval (.Constant (.str c) j p0) X.env) (hl1 : (ap1.endLine == pos1.line) = true)
    (hst : starEach [.Constant (.str y) k c0, .Constant (.str z) l c1] X.env = [(false, eval (.Constant (.str y) k c0) X.env), (false, eval (.Constant (.str z) l c1) X.env)])
    (hbase : attributeBase (.Call (.Attribute (.Constant (.str c) j p0) "join" ap1) [e] [] pos1) "replace" X.env (eval (.Call (.Attribute (.Constant (.str c) j p0) "join" ap1) [e] [] pos1) X.env) = eval (.Call (.Attribute (.Constant (.str c) j p0) "join" ap1) [e] [] pos1) X.env) (hline : (apos.endLine == pos.line) = true) :
    JE X (.Call (.Attribute (.Call (.Attribute (.Constant (.str c) j p0) "join" ap1) [e] [] pos1) "replace" apos) [.Constant (.str y) k c0, .Constant (.str z) l c1] [] pos) (mReplC (mBin (onStr joinF) (mC (.str c)) me) y z) := by
  obtain ⟨te, pe, se⟩ := he.ex
  refine ⟨_, pe_joinRepl rule pe hyz hs1 hb1 hl1 hst hbase hline, fun P F0 qc F cell S σ H Q v0 S' R hm kk => ?_⟩
  unfold mReplC mBin mC at hm
  simp only at hm
  split at hm
  · rename_i x S1 e1
    split at hm
    · rename_i hb
      cases hm
      split at e1
      · cases e1
      · rename_i r2 S2 e2
        split at e1
        · rename_i d e hd he
          split at e1
          · rename_i z' hz
            cases e1
            cases hd
            have hz : joinF c e = some (.str x) := hz
            refine se P F0 qc F cell S σ H _ r2 S' R e2 fun v2 F2 H2 s2 R2 q2 => ?_
            refine hs F2 H2 c v2 _ _ _ R2.fh (R2.deref q2 he) hz fun v F' H' ex dv => ?_
            cases (show DV X.K F' v (.str x) from dv)
            exact ⟨x, rfl, hb, kk (.str (Txt.replace x y z)) F' H' (s2.trans ex.f) (R2.ext ex) (DV.str _)⟩
          · cases e1
        · cases e1
    · cases hm
  · cases hm
theorem je_joinRepl (he : JE X e me) (hyz : (y == z) = false := by decide)
    (hs1 : starEach [e] X.env = [(false, eval e X.env)] := by rfl) (hb1 : attributeBase (.Constant (.str c) j p0) "join" X.env (eval (.Constant (.str c) j p0) X.env) = eval (.Constant (.str c) j p0) X.env := by rfl) (hl1 : (ap1.endLine == pos1.line) = true := by rfl)
    (hst : starEach [.Constant (.str y) k c0, .Constant (.str z) l c1] X.env = [(false, eval (.Constant (.str y) k c0) X.env), (false, eval (.Constant (.str z) l c1) X.env)] := by rfl)
    (hbase : attributeBase (.Call (.Attribute (.Constant (.str c) j p0) "join" ap1) [e] [] pos1) "replace" X.env (eval (.Call (.Attribute (.Constant (.str c) j p0) "join" ap1) [e] [] pos1) X.env) = eval (.Call (.Attribute (.Constant (.str c) j p0) "join" ap1) [e] [] pos1) X.env := by rfl) (hline : (apos.endLine == pos.line) = true := by rfl) :
    JE X (.Call (.Attribute (.Call (.Attribute (.Constant (.str c) j p0) "join" ap1) [e] [] pos1) "replace" apos) [.Constant (.str y) k c0, .Constant (.str z) l c1] [] pos) (mReplC (mBin (onStr joinF) (mC (.str c)) me) y z) :=
  je_joinReplR mt_join ms_join he hyz hs1 hb1 hl1 hst hbase hline
end
end VL

set_option Elab.async false
set_option linter.all false
set_option maxRecDepth 100000
set_option maxHeartbeats 4000000
/-! VX14: a + b and x[a:b] of lists as one's own list; try .. except X as n: y = n.f; f(k = v, ..) in another order. -/
namespace VL
open PySem PySem.Spec PyProof.Rows L2
def xAddL (ma mb : ME) : MX := fun S => match ma S with
  | none => none
  | some (r1, S1) => match mb S1 with
    | none => none
    | some (r2, S2) => match deref S2 r1, deref S2 r2 with
      | some (.list xs), some (.list ys) => if xs.length + ys.length ≤ 100000 then some (.c (xs ++ ys), S2) else none
      | _, _ => none
section
variable {X : Cx} {W : WX} {a b e : Expr} {ma mb me : ME} {pos : Pos}
theorem jx_add (ha : JE X a ma) (hb : JE X b mb) : JX X (.BinOp a .Add b pos) (xAddL ma mb) := by
  obtain ⟨ta, pa, sa⟩ := ha.ex
  obtain ⟨tb, pb, sb⟩ := hb.ex
  refine ⟨_, pe_op op_addA pa pb, fun P F0 qc F cell S σ H Q z S' R hm k => ?_⟩
  unfold xAddL at hm
  split at hm
  · cases hm
  · rename_i r1 S1 e1
    split at hm
    · cases hm
    · rename_i r2 S2 e2
      split at hm
      · rename_i xs ys hd he
        split at hm
        · rename_i hl
          cases hm
          refine sa P F0 qc F cell S σ H _ r1 S1 R e1 fun v1 F1 H1 s1 R1 q1 => ?_
          refine sb P F0 qc F1 cell S1 σ H1 _ r2 S' R1 e2 fun v2 F2 H2 s2 R2 q2 => ?_
          obtain ⟨p1, vs, rfl, h1, h2⟩ := (R2.deref (q1.mono s2) hd).list R2.fh
          obtain ⟨p2, ws, rfl, h3, h4⟩ := (R2.deref q2 he).list R2.fh
          refine .inr (.inr (.inl ⟨p1, p2, vs, ws, rfl, rfl, h1, h3, by rw [h2.length, h4.length]; exact small5 hl, fun p hp => ?_⟩))
          exact k p (vs ++ ws) F2 _ (s1.trans s2) (R2.ph.free hp) ((R2.f0.trans R2.fh).free hp) (R2.lay hp) (h2.append h4)
        · cases hm
      · cases hm
end
/-! ### a call that may raise, within a choice -/
def mOkX (me : ME) : MO2 := fun S => match me S with
  | some (.v d, S1) => some (.val d, S1)
  | _ => none
def mIfX (mt : MT) (ma mb : MO2) : MO2 := fun S =>
  match mt S with
  | some (true, S1) => ma S1
  | some (false, S1) => mb S1
  | none => none
section
variable {X : Cx} {W : WX} {c a b : Expr} {pos : Pos} {mt : MT} {me : ME} {ma mb : MO2}
theorem jo_val (ha : JE X a me) : JO2 X W a (mOkX me) := by
  obtain ⟨ta, pa, sa⟩ := ha.ex
  refine ⟨_, pa, fun P F0 qc F cell S σ H Q o S' R hm k => ?_⟩
  unfold mOkX at hm
  split at hm
  · rename_i d S1 e1
    cases hm
    exact sa P F0 qc F cell S σ H Q _ S' R e1 fun v F' H' s2 R2 q2 => k v F' H' s2 R2 q2
  · cases hm
theorem jo_if (hc : JT X c mt) (ha : JO2 X W a ma) (hb : JO2 X W b mb) : JO2 X W (.IfExp c a b pos) (mIfX mt ma mb) := by
  obtain ⟨tc, pc, sc⟩ := hc.ex
  obtain ⟨ta, pa, sa⟩ := ha.ex
  obtain ⟨tb, pb, sb⟩ := hb.ex
  refine ⟨_, pe_ifExp pc pa pb, fun P F0 qc F cell S σ H Q o S' R hm k => ?_⟩
  unfold mIfX at hm
  split at hm
  · rename_i S1 e1
    refine sc P F0 qc F cell S σ H _ _ S1 R e1 fun F1 H1 s1 R1 => ?_
    rw [if_pos rfl]
    refine sa P F0 qc F1 cell S1 σ H1 Q o S' R1 hm ?_
    cases o with
    | val d => exact fun v F' H' s2 R2 q2 => k v F' H' (s1.trans s2) R2 q2
    | exc cc fs => exact fun C dd us F' H' s2 R2 h1 h2 h3 => k C dd us F' H' (s1.trans s2) R2 h1 h2 h3
  · rename_i S1 e1
    refine sc P F0 qc F cell S σ H _ _ S1 R e1 fun F1 H1 s1 R1 => ?_
    rw [if_neg Bool.false_ne_true]
    refine sb P F0 qc F1 cell S1 σ H1 Q o S' R1 hm ?_
    cases o with
    | val d => exact fun v F' H' s2 R2 q2 => k v F' H' (s1.trans s2) R2 q2
    | exc cc fs => exact fun C dd us F' H' s2 R2 h1 h2 h3 => k C dd us F' H' (s1.trans s2) R2 h1 h2 h3
  · cases hm
end
/-! ### try: .. except X as n: y = n.f -/
def mTryF (sub : Str → Option Bool) (y i : Nat) (f : Str) (mb : MS) : MS := fun S => match mb S with
  | some (.nx, S1) => some (.nx, S1)
  | some (.bk, S1) => some (.bk, S1)
  | some (.ct, S1) => some (.ct, S1)
  | some (.rt r, S1) => some (.rt r, S1)
  | some (.rz c fs, S1) => match sub c with
    | some true => match fs.lookup f with
      | some d => if i < S1.length then some (.nx, (S1.set y (some (.v d))).set i none) else none
      | none => none
    | some false => some (.rz c fs, S1)
    | none => none
  | none => none
theorem fld_aux {K : PySem.W.Frag} {F1 : Hp} {f : Str} {d : PyData} : ∀ (fs : List (Str × PyData)) (vs : List V), DVs K F1 vs (fs.map (·.2)) → fs.lookup f = some d → ∃ v, ((fs.map (·.1)).zip vs).lookup f = some v ∧ DV K F1 v d := by
  intro fs
  induction fs with
  | nil => intro vs _ h; cases h
  | cons g fs ih =>
    intro vs hv h
    obtain ⟨g1, g2⟩ := g
    cases hv with
    | cons q qs =>
      rename_i v vs
      simp only [List.map_cons, List.zip_cons_cons, List.lookup_cons] at h ⊢
      cases t : f == g1 with
      | true =>
        simp only [t] at h ⊢
        cases h
        exact ⟨v, rfl, q⟩
      | false =>
        simp only [t] at h ⊢
        exact ih vs qs h
section
variable {X : Cx} {W : WX} {x n yn f : Str} {c : Value} {body : List Stmt} {np pos pos' yp yp2 sp ap : Pos} {mb : MS} {sub : Str → Option Bool}
theorem js_try_fld (y i : Nat) {c0 : Str} {C0 : Addr} (hN : X.N.Nodup) (hyi : i ≠ y) (tk : Takes X W) (hex : X.ex = []) (hs : X.stack = X.env :: X.outer) (hf : X.env.frame = some X.env.locals) (hc : Names X x c)
    (hsub : ∀ (k : Str) (C : Addr) (b : Bool), PySem.W.nsIn X.K mainGlobals k = some (some (.ref C)) → sub k = some b → PySem.W.exmOne X.K (.ref C) c = some b)
    (hC : PySem.W.nsIn X.K mainGlobals c0 = some (some (.ref C0))) (h1s : ∀ k, sub k = some true → k = c0) (T : XfC X.K C0 ∧ PySem.W.findIn X.K (.ref C0) f = some none)
    (hb : ∀ (W' : WX) (pn : List (Addr × Obj)) (xe : Value → Shared → Prop), Takes (X.tr pn xe) W' → PassesOwn (model X.prog X.w) X.A X.env xe → JB (X.tr pn xe) W' body mb)
    (hi : X.N[i]? = some n := by rfl) (hln : X.env.kindOf n = some .local := by rfl) (hy : X.N[y]? = some yn := by rfl) (hyl : X.env.scope.names.lookup yn = some .local := by rfl)
    (hv : Vis X.env.scope n := by first | exact Or.inl rfl | exact Or.inr (Or.inl rfl) | exact Or.inr (Or.inr rfl)) (hd : (n == ("__debug__" : Str)) = false := by decide) (hcd : (n == ("__classdict__" : Str)) = false := by decide)
    (hab : attributeBase (.Name n yp2) f X.env (eval (.Name n yp2) X.env) = eval (.Name n yp2) X.env := by rfl)
    (hsw : swapsWith (.Attribute (.Name n yp2) f ap) (some (.Name yn yp)) sp.line X.env = pure false := by rfl) :
    JS X W (.Try body [.ExceptHandler (some (.Name x np)) (some n) [.Assign [.Name yn yp] (.Attribute (.Name n yp2) f ap) sp] pos'] [] [] pos) (mTryF sub y i f mb) := by
  refine ⟨_, VX.ps_try_keep (i := i) (tb := fun W' => denS X.K W' mb) (ts := fun a cls d => fun D σ H => tAsg (tXf a cls d C0 f (tVar i)) (gName y) D σ H) hs hf hN hi hln hc tk hex (fun W' pn xe tk' po => (hb W' pn xe tk' po).den) (fun a oe cls d pn hz hfl => ?_), fun P F0 qc F cell S σ H D fl S' R hm k => ?_⟩
  · refine pss_one (t := fun D σ H => tAsg (tXf a cls d C0 f (tVar i)) (gName y) D σ H) ?_
    exact ps_set (X := X.suite a ((a, oe) :: pn)) hN hy (.inl hyl) (pe_xf T.1 T.2 hz hfl (pe_var hi hv hd hcd) hab) hsw (.inr hyl)
  · have go : ∀ (fl : Fl) (S1 : Sl), mb S = some (fl, S1) → (∀ F' cell' σ' H', Same F F' → RC X.K P F0 qc F' cell' S1 σ' H' → FlK X.K (VX.wKeep X.K c i (fun a cls d => fun D σ H => tAsg (tXf a cls d C0 f (tVar i)) (gName y) D σ H) W D) F' cell' fl D σ' H') →
        denS X.K (VX.wKeep X.K c i (fun a cls d => fun D σ H => tAsg (tXf a cls d C0 f (tVar i)) (gName y) D σ H) W D) mb D σ H := fun fl S1 e kk => ⟨P, F0, qc, F, cell, S, fl, S1, R, e, kk⟩
    unfold mTryF at hm
    split at hm
    · rename_i S1 e1
      cases hm
      exact go _ _ e1 fun F' c' σ' H' f1 R1 => k F' c' σ' H' f1 R1
    · rename_i S1 e1
      cases hm
      exact go _ _ e1 fun F' c' σ' H' f1 R1 => k F' c' σ' H' f1 R1
    · rename_i S1 e1
      cases hm
      exact go _ _ e1 fun F' c' σ' H' f1 R1 => k F' c' σ' H' f1 R1
    · rename_i r S1 e1
      cases hm
      exact go _ _ e1 fun F' c' σ' H' f1 R1 => k F' c' σ' H' f1 R1
    · rename_i cn fs S1 e1
      split at hm
      · rename_i hsc
        split at hm
        case h_2 => cases hm
        rename_i dd0 hlk
        split at hm
        case isFalse => cases hm
        rename_i hlen
        cases hm
        refine go _ _ e1 fun F' c' σ' H' f1 R1 C dd vs h1 h2 h3 => ⟨true, hsub cn C true h1 hsc, fun _ a ha => ?_, fun z => by cases z⟩
        have li : i < σ'.length := by
          rw [← R1.len]
          exact hlen
        obtain rfl := h1s cn hsc
        rw [hC] at h1
        cases h1
        obtain ⟨v, hl, dv⟩ := fld_aux fs vs h3 hlk
        refine ⟨.ref a, List.getElem?_set_self li, rfl, rfl, dd, _, v, rfl, R1.fh _ _ h2, hl, ?_⟩
        show D.nx (((σ'.set i (some (V.ref a))).set y (some v)).set i none) (upd H' a (VX.ExF (.ref C0) (some dd) a))
        have ex : Ext F' H' (upd F' a (VX.ExF (.ref C0) (some dd) a)) (upd H' a (VX.ExF (.ref C0) (some dd) a)) := Ext.new R1.fh ha
        have R2 := ((R1.ext ex).setV (i := y) (dv.mono ex.f)).setN i
        rw [List.set_comm _ _ hyi, List.set_set]
        exact k _ c' _ _ (f1.trans ex.f) R2
      · rename_i hsc
        cases hm
        exact go _ _ e1 fun F' c' σ' H' f1 R1 C dd vs h1 h2 h3 => ⟨false, hsub cn C false h1 hsc, (fun z => by cases z), fun _ => k F' c' σ' H' f1 R1 C dd vs h1 h2 h3⟩
      · cases hm
    · cases hm
end
/-! ### f(k = v, ..), the names in any order -/
def prm {α : Type} (π : List Nat) (ws : List α) : List α := if ws.length = π.length then π.filterMap (ws[·]?) else []
structure KP (K : PySem.W.Frag) (fd : FuncData) (ps ks : List Str) (π : List Nat) : Prop where
  to : ∀ (s : Shared) (ws : List Value), K.In s.heap → ws.length = π.length → BindsTo s fd ⟨[], ks.zip ws⟩ (ps.zip (prm π ws))
theorem KP.of {K : PySem.W.Frag} {x qual : Str} {st : Stmt} {f : Addr} {fd : FuncData} (F : Fun K x qual st f fd) {ps ks : List Str} {π : List Nat}
    (h : ∀ (kV doc pm : Value) (an : Option Addr) (cdv ct : Value) (ws : List Value), ws.length = π.length → bindArgs (PySem.W.fnOf x qual (defArgs st) (defBody st) (defScope st) .none kV doc pm an cdv ct) ⟨[], ks.zip ws⟩ = pure (ps.zip (prm π ws))) : KP K fd ps ks π := by
  obtain ⟨oc, od, kV, doc, pm, an, cdv, ct, osl, rfl, lk, hcd⟩ := F.ex
  exact ⟨fun s ws _ hl => .of_eq (h kV doc pm an cdv ct ws hl)⟩
def gP {α : Type} (π : List Nat) (us ws : List α) : List α := match us with
  | [] => prm π ws
  | _ :: _ => []
theorem vals_get {vs : List V} {us : List Value} (h : Vals vs us) (i : Nat) : (∃ v u, vs[i]? = some v ∧ us[i]? = some u ∧ RelV v u) ∨ (vs[i]? = none ∧ us[i]? = none) := by
  induction h generalizing i with
  | nil => exact .inr ⟨rfl, rfl⟩
  | cons a b ih =>
    cases i with
    | zero => exact .inl ⟨_, _, rfl, rfl, a⟩
    | succ i => exact ih i
theorem prm_rel {π : List Nat} {vs : List V} {us : List Value} (h : Vals vs us) : Vals (prm π vs) (prm π us) := by
  unfold prm
  rw [h.length]
  split
  · rename_i hl
    clear hl
    induction π with
    | nil => exact .nil
    | cons i π ih =>
      rcases vals_get h i with ⟨v, u, e1, e2, r⟩ | ⟨e1, e2⟩
      · rw [List.filterMap_cons_some e1, List.filterMap_cons_some e2]
        exact .cons r ih
      · rw [List.filterMap_cons_none e1, List.filterMap_cons_none e2]
        exact ih
  · exact .nil
theorem KP.kb {K : PySem.W.Frag} {fd : FuncData} {p0 : Str} {ps ks : List Str} {π : List Nat} (b : KP K fd (p0 :: ps) ks π) : KBinds K fd (p0 :: ps) ks (gP π) (gP π) :=
  ⟨fun s us ws h hl => by
    cases us with
    | nil =>
      refine b.to s ws h ?_
      by_cases q : ws.length = π.length
      · exact q
      · exfalso
        unfold gP prm at hl
        rw [if_neg q] at hl
        simp at hl
    | cons u us => simp [gP] at hl, fun {vs us zs ws} r rz => by
    cases r with
    | nil => exact prm_rel rz
    | cons _ _ => exact .nil⟩
/-- the arguments in the parameters' order -/
def mPerm (π : List Nat) (mas : MA) : MA := fun S => match mas S with
  | some (rs, S1) => some (prm π rs, S1)
  | none => none
def tPerm (π : List Nat) (ta : TA) : TA := fun σ H Q => ta σ H fun zs H2 => Q (prm π zs) H2
theorem vrs_get {K : PySem.W.Frag} {F : Hp} {cell : Nat → Addr} : ∀ {rs : List SV} {vs : List V}, VRs K F cell rs vs → ∀ i : Nat, (∃ r v, rs[i]? = some r ∧ vs[i]? = some v ∧ VR K F cell r v) ∨ (rs[i]? = none ∧ vs[i]? = none)
  | [], _, h, i => by rw [show _ = [] from h]; exact .inr ⟨rfl, rfl⟩
  | r :: rs, _, ⟨v, ws, h1, h2, h3⟩, i => by
    subst h1
    cases i with
    | zero => exact .inl ⟨_, _, rfl, rfl, h2⟩
    | succ i => exact vrs_get h3 i
theorem vrs_prm {K : PySem.W.Frag} {F : Hp} {cell : Nat → Addr} {π : List Nat} {rs : List SV} {vs : List V} (h : VRs K F cell rs vs) : VRs K F cell (prm π rs) (prm π vs) := by
  unfold prm
  rw [h.length]
  split
  · rename_i hl
    clear hl
    induction π with
    | nil => rfl
    | cons i π ih =>
      rcases vrs_get h i with ⟨v, u, e1, e2, r⟩ | ⟨e1, e2⟩
      · rw [List.filterMap_cons_some e1, List.filterMap_cons_some e2]
        exact ⟨_, _, rfl, r, ih⟩
      · rw [List.filterMap_cons_none e1, List.filterMap_cons_none e2]
        exact ih
  · rfl
theorem snd_perm {K : PySem.W.Frag} {π : List Nat} {ta : TA} {mas : MA} (sa : SndA K ta mas) : SndA K (tPerm π ta) (mPerm π mas) := by
  intro P F0 qc F cell S σ H Q rs S' R hm k
  unfold mPerm at hm
  split at hm
  · rename_i rs1 S1 e1
    cases hm
    exact sa P F0 qc F cell S σ H _ rs1 S' R e1 fun vs F1 H1 s1 R1 q1 => k _ F1 H1 s1 R1 (vrs_prm q1)
  · cases hm
section
variable {X : Cx} {W : WX} {CX : CXT} {k n : Nat} {f : Addr} {fd : FuncData} {p0 : Str} {ps ks : List Str} {π : List Nat} {x : Str} {p pos : Pos} {kws : List Keyword} {m : MFX} {mf : MF} {mas : MA} {E : L2.St → XK}
theorem pe_callGKS (G : FnG X.prog X.w X.K X.mg X.base CX k f fd ps (spX X.K n m)) (gd : X.A.guards = some []) (hr : Room k X.A) (hg : Gl X x) (hm : X.mg x = some (.ref f)) (hk : PySem.W.keepIn X.K (.ref f) = true) {g : List Value → List Value → List Value} {gV : List V → List V → List V} (hb : KBinds X.K fd ps ks g gV) (hx : ∀ σ, PassesAt CX X σ (E σ)) {tk : TA}
    (hkw : PK X kws tk) (hall : (backToKw pos (keywordEach kws X.env)).all (·.1.isSome) = true := by rfl) (hks : (backToKw pos (keywordEach kws X.env)).filterMap (·.1) = ks := by rfl)
    (hdb : (x == ("__debug__" : Str)) = false := by decide)
    (hpl : ((backTo pos (starEach [] X.env)).any (·.1) || (backToKw pos (keywordEach kws X.env)).any (·.1.isNone)) = false := by rfl) :
    PE X (.Call (.Name x p) [] kws pos) (fun σ H Q => tk σ H fun zs H2 => spX X.K n m (gV [] zs) H2 Q (E σ)) := by
  refine ⟨fun pins s σ H Q I h => ?_⟩
  refine wpAny_Call_Name_kw (ld_glob I hg hm ?_ hdb)
  refine PySem.W.callWith_KW0 (h₀ := X.base) I.ok.mod.kin hk hall ?_ hpl
  refine thn (hkw.run pos pins s σ H _ I h) fun ws s2 ⟨zs, H2, I2, rz, q2⟩ => ⟨I2.kIn, ?_⟩
  rw [hks]
  have r2 := hb.rel (vs := []) (us := []) .nil rz
  have hl : (g [] ws).length = ps.length := by rw [← r2.length]; exact G.len _ _ _ _ q2
  refine wpAny_call (codeAny_mono (G.run X.A X.stack s2 H2 ⟨[], ks.zip ws⟩ (g [] ws) (gV [] zs) Q (E σ) gd hr I2.env0 (hb.to s2 [] ws I2.kIn hl) r2 q2) fun r s' hq => ?_)
  cases r with
  | error u => exact hx σ pins H2 s2 u s' I2 hq
  | ok fl =>
    cases fl with
    | ret u => exact I2.after hq
    | next => exact False.elim hq
    | brk => exact False.elim hq
    | cont => exact False.elim hq
theorem jo_callKP (tk : Takes X W) (G : FnG X.prog X.w X.K X.mg X.base (L2.CX X.prog X.w) k f fd (p0 :: ps) (spX X.K n m)) (gd : X.A.guards = some []) (hr : Room k X.A) (hm : X.mg x = some (.ref f)) (hk : PySem.W.keepIn X.K (.ref f) = true) (hb : KP X.K fd (p0 :: ps) ks π) (ha : JK X kws mas)
    (hg : Gl X x := by rfl) (hall : (backToKw pos (keywordEach kws X.env)).all (·.1.isSome) = true := by rfl) (hks : (backToKw pos (keywordEach kws X.env)).filterMap (·.1) = ks := by rfl) (hdb : (x == ("__debug__" : Str)) = false := by decide)
    (hpl : ((backTo pos (starEach [] X.env)).any (·.1) || (backToKw pos (keywordEach kws X.env)).any (·.1.isNone)) = false := by rfl) :
    JO2 X W (.Call (.Name x p) [] kws pos) (mCallX n m (mPerm π mas)) := by
  obtain ⟨ta, pa, sa⟩ := ha.ex
  refine ⟨_, pe_callGKS G gd hr hg hm hk hb.kb (fun σ => passAt tk σ) pa hall hks hdb hpl, fun P F0 qc F cell S σ H Q o S' R hm k => ?_⟩
  exact snd_callX (snd_perm (π := π) sa) P F0 qc F cell S σ H Q o S' R hm k
theorem je_callFKPX (G : FnG X.prog X.w X.K X.mg X.base (L2.CX X.prog X.w) k f fd (p0 :: ps) (spX X.K n m)) (gd : X.A.guards = some []) (hr : Room k X.A) (hm : X.mg x = some (.ref f)) (hk : PySem.W.keepIn X.K (.ref f) = true) (hb : KP X.K fd (p0 :: ps) ks π) (ha : JK X kws mas)
    (hg : Gl X x := by rfl) (hall : (backToKw pos (keywordEach kws X.env)).all (·.1.isSome) = true := by rfl) (hks : (backToKw pos (keywordEach kws X.env)).filterMap (·.1) = ks := by rfl) (hdb : (x == ("__debug__" : Str)) = false := by decide)
    (hpl : ((backTo pos (starEach [] X.env)).any (·.1) || (backToKw pos (keywordEach kws X.env)).any (·.1.isNone)) = false := by rfl) :
    JE X (.Call (.Name x p) [] kws pos) (mValX (mCallX n m (mPerm π mas))) := by
  obtain ⟨ta, pa, sa⟩ := ha.ex
  have none_ : ∀ σ : L2.St, PassesAt (L2.CX X.prog X.w) X σ (WE W0 σ) := fun σ pins H s e s' I c => by
    obtain ⟨_, _, _, _, _, _, _, _, _, _, _, _, z⟩ := c
    exact z.elim
  refine ⟨_, pe_callGKS G gd hr hg hm hk hb.kb none_ pa hall hks hdb hpl, fun P F0 qc F cell S σ H Q r S' R hz kk => ?_⟩
  unfold mValX at hz
  split at hz
  · rename_i d S1 e1
    cases hz
    exact snd_callX (W := W0) (snd_perm (π := π) sa) P F0 qc F cell S σ H Q _ S' R e1 fun v F' H' f1 R1 q => kk v F' H' f1 R1 q
  · cases hz
end
end VL
namespace VL
theorem kx_only {c0 : PySem.Str} : ∀ {l : List (PySem.Str × Bool)}, (l.all fun p => !p.2 || p.1 == c0) = true → ∀ k, kx l k = some true → k = c0
  | [], _, k, e => by cases e
  | (c, b) :: l, h, k, e => by
    rw [List.all_cons, Bool.and_eq_true] at h
    unfold kx at e
    rw [List.lookup_cons] at e
    cases q : k == c with
    | true =>
      rw [q] at e
      have := beq_iff_eq.mp q
      subst this
      cases e
      have h1 := h.1
      simpa using h1
    | false =>
      rw [q] at e
      exact kx_only h.2 k e
end VL

set_option Elab.async false
set_option linter.all false
set_option maxRecDepth 100000
set_option maxHeartbeats 4000000
/-! VL28: grids of signs in the memory. -/
namespace VL
open PySem PySem.Spec PyProof.Rows L2
abbrev Grd := List (List Nat)
def sgsD (row : List Nat) : List PyData := row.map fun c => .str ⟨#[c]⟩
structure GrM (M : Mem) (a : Addr) (ids : List Nat) (g : Grd) : Prop where
  out : M[0]? = some ⟨a, .lst (ids.map .p)⟩
  len : ids.length = g.length
  inn : ∀ (j i : Nat) (row : List Nat), ids[j]? = some i → g[j]? = some row → ∃ b, M[i]? = some ⟨b, .lst ((sgsD row).map .d)⟩
  ne : ∀ i ∈ ids, 0 < i ∧ i < M.length
  nd : ids.Nodup
theorem grid_go {g : MG} {ue : UE} {vs : List Nat} {T : Sl} {a : Addr} {row : List Nat} {Q : List Itm → Sl → Mem → Prop} : ∀ (ds : List PyData) (M : Mem) (ids : List Nat), GrM M a ids (List.replicate ids.length row) → ids.length + ds.length ≤ 1000 →
    (∀ d ∈ ds, ∃ S1, g d T = some S1 ∧ ∀ (M : Mem) (Q : SV → Sl → Mem → Prop), (∀ b S2, wp S2 vs = T → Q (.s (.ptr M.length b)) S2 (M ++ [⟨b, .lst ((sgsD row).map .d)⟩])) → ue S1 M Q) →
    (∀ M' ids', GrM M' a ids' (List.replicate (ids.length + ds.length) row) → Q (ids'.map .p) T M') → uLcGo g ue vs 0 a ds (ids.map .p) T M Q
  | [], M, ids, h, _, _, q => q M ids (by simpa using h)
  | d :: ds, M, ids, h, hl, hs, q => by
    obtain ⟨S1, e1, hu⟩ := hs d List.mem_cons_self
    rw [List.length_cons] at hl
    refine ⟨S1, e1, hu M _ fun b S2 hw => ⟨.p M.length, ?_, by rw [List.length_map]; omega, ?_, ?_⟩⟩
    · show (match (M ++ [(⟨b, .lst ((sgsD row).map .d)⟩ : Ent)])[M.length]? with
        | some e => if e.a = b then some (Itm.p M.length) else none
        | none => none) = _
      rw [List.getElem?_append_right (Nat.le_refl _), Nat.sub_self]
      simp
    · rw [List.getElem?_append_left (List.getElem?_eq_some_iff.mp h.out).1]
      exact h.out
    · have m0 := (List.getElem?_eq_some_iff.mp h.out).1
      have em : ids.map Itm.p ++ [Itm.p M.length] = (ids ++ [M.length]).map Itm.p := by simp
      rw [hw, em]
      refine grid_go ds _ (ids ++ [M.length]) ⟨?_, ?_, ?_, ?_, ?_⟩ (by rw [List.length_append, List.length_singleton]; omega) (fun x hx => hs x (List.mem_cons_of_mem _ hx)) fun M' ids' hh => q M' ids' (by
        rw [List.length_append, List.length_singleton] at hh
        rw [List.length_cons, show ids.length + (ds.length + 1) = ids.length + 1 + ds.length by omega]
        exact hh)
      · rw [List.getElem?_set_self (by rw [List.length_append]; omega)]
      · rw [List.length_replicate]
      · intro j i r hj hr
        rw [List.getElem?_replicate] at hr
        split at hr
        · cases hr
          by_cases hjl : j < ids.length
          · rw [List.getElem?_append_left hjl] at hj
            obtain ⟨c, hc⟩ := h.inn j i row hj (by rw [List.getElem?_replicate, if_pos hjl])
            have hi := h.ne i (List.mem_of_getElem? hj)
            refine ⟨c, ?_⟩
            rw [List.getElem?_set_ne (by omega), List.getElem?_append_left hi.2]
            exact hc
          · rw [List.getElem?_append_right (by omega)] at hj
            have hj0 : j - ids.length = 0 := by
              have := (List.getElem?_eq_some_iff.mp hj).1
              simpa using this
            rw [hj0] at hj
            simp at hj
            subst hj
            refine ⟨b, ?_⟩
            rw [List.getElem?_set_ne (by omega), List.getElem?_append_right (Nat.le_refl _), Nat.sub_self]
            rfl
        · cases hr
      · intro i hi
        rw [List.length_set, List.length_append, List.length_singleton]
        rcases List.mem_append.mp hi with z | z
        · have := h.ne i z
          omega
        · rw [List.mem_singleton.mp z]
          omega
      · rw [List.nodup_append]
        refine ⟨h.nd, by simp, fun x hx y hy => ?_⟩
        rw [List.mem_singleton.mp hy]
        have := h.ne x hx
        omega
theorem grid_new {mi : MI} {g : MG} {ue : UE} {vs : List Nat} {S S1 : Sl} {ds : List PyData} {i : Nat} {row : List Nat} {Q : Fl → Sl → Mem → Prop} (hi : mi S = some (ds, S1)) (ho : ownOk S1 vs = true) (hl : ds.length ≤ 1000)
    (hs : ∀ d ∈ ds, ∃ S2, g d (wp S1 vs) = some S2 ∧ ∀ (M : Mem) (Q : SV → Sl → Mem → Prop), (∀ b S3, wp S3 vs = wp S1 vs → Q (.s (.ptr M.length b)) S3 (M ++ [⟨b, .lst ((sgsD row).map .d)⟩])) → ue S2 M Q)
    (q : ∀ a M' ids, GrM M' a ids (List.replicate ds.length row) → Q .nx ((unwp S1 (wp S1 vs) vs).set i (some (.s (.ptr 0 a)))) M') : uSetLc i mi g ue vs S [] Q := by
  refine ⟨ds, S1, hi, ho, fun a => ?_⟩
  have h0 : GrM ([⟨a, .lst []⟩] : Mem) a [] (List.replicate ([] : List Nat).length row) := ⟨rfl, rfl, fun j i r h => by simp at h, fun i h => by simp at h, List.nodup_nil⟩
  have := grid_go (g := g) (ue := ue) (vs := vs) (T := wp S1 vs) (a := a) (row := row) (Q := fun its T M' => Q .nx ((unwp S1 T vs).set i (some (.s (.ptr 0 a)))) M') ds _ [] h0 (by simpa using hl) hs fun M' ids' hh => q a M' ids' (by simpa using hh)
  exact this
/-- a word is put -/
def putG (g : Grd) (r p : Nat) (z : List Nat) : Grd := g.set r ((g.getD r []).take p ++ z ++ (g.getD r []).drop (p + z.length))
theorem grid_put {me ma mb : ME} {ml mh : MO} {S : Sl} {M : Mem} {a : Addr} {ids : List Nat} {g : Grd} {z : Str} {r p : Nat} {Q : Fl → Sl → Mem → Prop} (h : GrM M a ids g) (e1 : me S = some (.v (.list (signsD z)), S)) (e2 : ma S = some (.s (.ptr 0 a), S)) (e3 : mb S = some (.v (.int (r : Int)), S))
    (e4 : ml S = some (some (p : Int), S)) (e5 : mh S = some (some ((p : Int) + (z.length : Int)), S)) (hr : r < g.length) (hp : p + z.length ≤ (g.getD r []).length) (hw : (g.getD r []).length ≤ 1000)
    (q : ∀ M', GrM M' a ids (putG g r p (sg z)) → Q .nx S M') : uSlst me (uIx (uL ma) (uL mb)) ml mh S M Q := by
  obtain ⟨i, hi⟩ : ∃ i, ids[r]? = some i := ⟨ids[r]'(by rw [h.len]; exact hr), List.getElem?_eq_getElem _⟩
  have hg : g[r]? = some (g.getD r []) := by rw [List.getD_eq_getElem?_getD, List.getElem?_eq_getElem hr]; rfl
  obtain ⟨b, hb⟩ := h.inn r i _ hi hg
  have hil := h.ne i (List.mem_of_getElem? hi)
  have hlen : ((sgsD (g.getD r [])).map Itm.d).length = (g.getD r []).length := by unfold sgsD; rw [List.length_map, List.length_map]
  refine ⟨_, S, e1, _, S, e2, _, S, e3, 0, a, ids.map .p, r, .p i, .s (.ptr i b), ⟨rfl, h.out⟩, rfl, ?_, ?_, p, S, (p : Int) + (z.length : Int), S, i, b, _, e4, e5, ⟨rfl, hb⟩, by omega, by omega, by rw [hlen]; omega, by rw [hlen, signsD_length]; omega, ?_⟩
  · unfold atI ixN
    rw [List.length_map, if_pos (by omega), if_pos (by rw [h.len]; omega)]
    show (ids.map Itm.p)[(r : Int).toNat]? = _
    rw [Int.toNat_natCast, List.getElem?_map, hi]
    rfl
  · show (M[i]?).map (fun e => SV.s (Opq.ptr i e.a)) = _
    rw [hb]
    rfl
  · refine q _ ⟨?_, ?_, ?_, ?_, h.nd⟩
    · rw [List.getElem?_set_ne (by omega)]
      exact h.out
    · unfold putG
      rw [List.length_set]
      exact h.len
    · intro j k row hj hrow
      have et : ((p : Int) + (z.length : Int)).toNat = p + z.length := by omega
      unfold putG at hrow
      by_cases hjr : r = j
      · subst hjr
        rw [hi] at hj
        cases hj
        rw [List.getElem?_set_self hr] at hrow
        cases hrow
        refine ⟨b, ?_⟩
        rw [List.getElem?_set_self hil.2]
        congr 3
        rw [et, Int.toNat_natCast, len_sg]
        unfold sgsD signsD
        simp only [List.map_append, List.map_take, List.map_drop, List.map_map]
      · rw [List.getElem?_set_ne hjr] at hrow
        obtain ⟨c, hc⟩ := h.inn j k row hj hrow
        refine ⟨c, ?_⟩
        have : i ≠ k := fun e => by
          subst e
          have h1 := List.getElem?_eq_some_iff.mp hi
          have h2 := List.getElem?_eq_some_iff.mp hj
          obtain ⟨a1, a2⟩ := h1
          obtain ⟨b1, b2⟩ := h2
          rcases Nat.lt_or_gt_of_ne hjr with z | z
          · exact List.pairwise_iff_getElem.mp h.nd r j a1 b1 z (a2.trans b2.symm)
          · exact List.pairwise_iff_getElem.mp h.nd j r b1 a1 z (b2.trans a2.symm)
        rw [List.getElem?_set_ne this]
        exact hc
    · intro k hk
      rw [List.length_set]
      exact h.ne k hk
theorem dataIs_p {f : Nat → Option PyData} : ∀ {ids : List Nat} {ds : List PyData}, ids.length = ds.length → (∀ (j i : Nat) (d : PyData), ids[j]? = some i → ds[j]? = some d → f i = some d) → dataIs f (ids.map .p) = some ds
  | [], [], _, _ => rfl
  | i :: ids, d :: ds, hl, h => by
    rw [List.map_cons]
    unfold dataIs
    rw [dataIs_p (ids := ids) (ds := ds) (by simpa using hl) fun j i d a b => h (j + 1) i d (by simpa using a) (by simpa using b)]
    rw [show dataI f (.p i) = f i from rfl, h 0 i d rfl rfl]
  | [], _ :: _, h, _ => by simp at h
  | _ :: _, [], h, _ => by simp at h
theorem grid_tell {M : Mem} {a : Addr} {ids : List Nat} {g : Grd} (h : GrM M a ids g) : tellR M (.s (.ptr 0 a)) = some (.list (g.map fun row => .list (sgsD row))) := by
  have m0 := (List.getElem?_eq_some_iff.mp h.out).1
  obtain ⟨n, hn⟩ : ∃ n, M.length = n + 1 := ⟨M.length - 1, by omega⟩
  have e1 : tellR M (.s (.ptr 0 a)) = dataOf M (M.length + 1) 0 := by
    show (match M[0]? with
      | some e => if e.a = a then dataOf M (M.length + 1) 0 else none
      | none => none) = _
    rw [h.out]
    exact if_pos rfl
  rw [e1]
  unfold dataOf
  rw [h.out]
  show (dataIs (dataOf M M.length) (ids.map .p)).map PyData.list = _
  rw [dataIs_p (ds := g.map fun row => .list (sgsD row)) (by rw [List.length_map]; exact h.len) fun j i d hj hd => by
    rw [List.getElem?_map] at hd
    obtain ⟨row, hrow, rfl⟩ := Option.map_eq_some_iff.mp hd
    obtain ⟨b, hb⟩ := h.inn j i row hj hrow
    rw [hn]
    unfold dataOf
    rw [hb]
    show (dataIs (dataOf M n) ((sgsD row).map .d)).map PyData.list = _
    rw [dataIs_d]
    rfl]
  rfl
/-- rows of signs as texts -/
def pageG (g : Grd) : List PyData := g.map fun row => .str (txt row)
theorem join_row {row : List Nat} (h : row.length ≤ 100000) : joinF "" (.list (sgsD row)) = some (.str (txt row)) := by
  have e : sgsD row = (row.map fun c => (⟨#[c]⟩ : Str)).map .str := by unfold sgsD; rw [List.map_map]; rfl
  have l0 : ("" : Str).length = 0 := by decide
  have hsum : ∀ l : List Nat, ((l.map fun c => (⟨#[c]⟩ : Str)).map (·.length)).sum = l.length := fun l => by
    induction l with
    | nil => rfl
    | cons c l ih =>
      rw [List.map_cons, List.map_cons, List.sum_cons, ih, List.length_cons]
      have : (⟨#[c]⟩ : Str).length = 1 := rfl
      omega
  rw [e, joinD (by rw [hsum, l0]; omega), join_signs]
  rfl
theorem blank_sgn : (PyData.str " ") = .str ⟨#[32]⟩ := congrArg PyData.str (sg_ext (by decide +kernel))
theorem rep_blank (n : Nat) : (List.replicate n [PyData.str " "]).flatten = sgsD (List.replicate n 32) := by
  unfold sgsD
  induction n with
  | zero => rfl
  | succ n ih =>
    rw [List.replicate_succ, List.flatten_cons, ih, List.replicate_succ, List.map_cons, blank_sgn]
    rfl
/-! spots painted -/
structure Spot where
  z : Str
  r : Nat
  p : Nat
def Spot.d (s : Spot) : PyData := .tuple [.str s.z, .int s.r, .int s.p]
def paintG : List Spot → Grd → Grd
  | [], g => g
  | s :: ss, g => paintG ss (putG g s.r s.p (sg s.z))
/-- so many rows of so many signs -/
structure GrS (h w : Nat) (g : Grd) : Prop where
  len : g.length = h
  row : ∀ x ∈ g, x.length = w
theorem putG_ok {h w r p : Nat} {g : Grd} {z : List Nat} (H : GrS h w g) (hp : p + z.length ≤ w) : GrS h w (putG g r p z) := by
  unfold putG
  by_cases hr : r < g.length
  · have hg : (g.getD r []).length = w := H.row _ (by rw [List.getD_eq_getElem?_getD, List.getElem?_eq_getElem hr]; exact List.getElem_mem _)
    refine ⟨by rw [List.length_set]; exact H.len, fun x hx => ?_⟩
    rcases List.mem_or_eq_of_mem_set hx with hx | hx
    · exact H.row x hx
    · rw [hx, List.length_append, List.length_append, List.length_take, List.length_drop, hg]
      omega
  · rw [List.set_eq_of_length_le (by omega)]
    exact H
theorem paintG_ok {h w : Nat} : ∀ {ss : List Spot} {g : Grd}, GrS h w g → (∀ s ∈ ss, s.p + s.z.length ≤ w) → GrS h w (paintG ss g)
  | [], g, H, _ => H
  | s :: ss, g, H, hs => by
    show GrS h w (paintG ss (putG g s.r s.p (sg s.z)))
    exact paintG_ok (putG_ok H (by rw [← len_sg]; exact hs s List.mem_cons_self)) fun x hx => hs x (List.mem_cons_of_mem _ hx)
def blankG (h w : Nat) : Grd := List.replicate h (List.replicate w 32)
theorem blankG_ok (h w : Nat) : GrS h w (blankG h w) := ⟨List.length_replicate, fun x hx => by rw [(List.mem_replicate.mp hx).2, List.length_replicate]⟩

theorem rng1V {me : ME} {S S1 : Sl} {j : Int} (h : me S = some (.v (.int j), S1)) (h0 : 0 ≤ j) (h1 : j ≤ 1000) : mRng1 (aCons me aNil) S = some (rngD 0 j.toNat, S1) := by
  simp only [mRng1, aCons, aNil, h]
  exact if_pos ⟨by omega, by omega⟩
def spotOf : PyData → Option Spot
  | .tuple [.str z, .int r, .int p] => if 0 ≤ r ∧ 0 ≤ p then some ⟨z, r.toNat, p.toNat⟩ else none
  | _ => none
def spotsOf : List PyData → Option (List Spot)
  | [] => some []
  | d :: ds => match spotOf d, spotsOf ds with
    | some s, some ss => some (s :: ss)
    | _, _ => none
theorem spotOf_d (s : Spot) : spotOf s.d = some s := by
  unfold spotOf Spot.d
  simp only
  rw [if_pos ⟨by omega, by omega⟩]
  simp
theorem spotsOf_map : ∀ ss : List Spot, spotsOf (ss.map Spot.d) = some ss
  | [] => rfl
  | s :: ss => by
    rw [List.map_cons]
    unfold spotsOf
    rw [spotOf_d, spotsOf_map ss]
theorem spotOf_eq {d : PyData} {s : Spot} (h : spotOf d = some s) : d = s.d := by
  unfold spotOf at h
  split at h
  · split at h
    · rename_i z r p hh
      cases h
      unfold Spot.d
      simp only
      rw [Int.toNat_of_nonneg hh.1, Int.toNat_of_nonneg hh.2]
    · cases h
  · cases h
theorem spotsOf_eq : ∀ {ds : List PyData} {ss : List Spot}, spotsOf ds = some ss → ds = ss.map Spot.d
  | [], ss, h => by cases h; rfl
  | d :: ds, ss, h => by
    unfold spotsOf at h
    split at h
    · rename_i s ss' e1 e2
      cases h
      rw [List.map_cons, ← spotOf_eq e1, ← spotsOf_eq e2]
    · cases h
def fitsB (h w : Nat) (ss : List Spot) : Bool := ss.all fun s => decide (s.r < h) && decide (s.p + s.z.length ≤ w)
theorem fitsB_iff {h w : Nat} {ss : List Spot} : fitsB h w ss = true ↔ ∀ s ∈ ss, s.r < h ∧ s.p + s.z.length ≤ w := by
  unfold fitsB
  rw [List.all_eq_true]
  constructor
  · intro H s hs
    have := H s hs
    rw [Bool.and_eq_true, decide_eq_true_eq, decide_eq_true_eq] at this
    exact this
  · intro H s hs
    rw [Bool.and_eq_true, decide_eq_true_eq, decide_eq_true_eq]
    exact H s hs
/-- what is drawn of spots -/
def drawnF (ds : List PyData) (rows width : Int) : Option PyData := match spotsOf ds with
  | some ss => if (0 ≤ rows ∧ rows ≤ 1000 ∧ 0 ≤ width ∧ width ≤ 1000) ∧ fitsB rows.toNat width.toNat ss = true then some (.list (pageG (paintG ss (blankG rows.toNat width.toNat)))) else none
  | none => none
def joinR (d : PyData) : PyData := match joinF "" d with
  | some z => z
  | none => .none
theorem mapD_join {g : Grd} {w : Nat} (h : ∀ x ∈ g, x.length = w) (hw : w ≤ 1000) : mapD joinR (g.map fun row => .list (sgsD row)) = pageG g := by
  unfold mapD pageG
  rw [List.map_map]
  refine List.map_congr_left fun row hr => ?_
  show joinR (.list (sgsD row)) = _
  unfold joinR
  rw [join_row (by rw [h row hr]; omega)]
theorem join_each {g : Grd} {w : Nat} (h : ∀ x ∈ g, x.length = w) (hw : w ≤ 1000) {d : PyData} (hd : d ∈ g.map fun row => PyData.list (sgsD row)) : joinF "" d = some (joinR d) := by
  obtain ⟨row, hr, rfl⟩ := List.mem_map.mp hd
  unfold joinR
  rw [join_row (by rw [h row hr]; omega)]
end VL

set_option Elab.async false
set_option linter.all false
set_option maxRecDepth 100000
set_option maxHeartbeats 4000000
namespace VL
open PySem PySem.Spec PyProof.Rows L2
def topS (i : Nat) : Stmt := PySem.Challenge.pw_setback_k11_settings_known_by_hand.main.body.getD i (.Pass ⟨0, 0, 0, 0⟩)
abbrev s__law_pot : Stmt := topS 55
abbrev s__law_take : Stmt := topS 56
abbrev s__law_of : Stmt := topS 57
abbrev s_is_integer : Stmt := topS 20
abbrev s_is_size : Stmt := topS 21
abbrev s_is_word : Stmt := topS 22
abbrev s_are_words : Stmt := topS 23
abbrev s_is_text : Stmt := topS 28
abbrev s_are_sizes : Stmt := topS 24
abbrev s_are_strips : Stmt := topS 25
abbrev s_is_running : Stmt := topS 29
abbrev s_are_cells : Stmt := topS 27
abbrev s_is_table : Stmt := topS 32
abbrev s_is_box : Stmt := topS 33
abbrev s_is_stack : Stmt := topS 30
abbrev s_are_parts : Stmt := topS 26
abbrev s_are_columns : Stmt := topS 31
abbrev s_is_document : Stmt := topS 34
abbrev s_check_document : Stmt := topS 35
abbrev s_row_width : Stmt := topS 40
abbrev s_filled : Stmt := topS 41
abbrev s_filled_in : Stmt := topS 42
abbrev s_check_strips : Stmt := topS 44
abbrev s_places_of : Stmt := topS 45
abbrev s_running_spots : Stmt := topS 46
abbrev s_moved : Stmt := topS 43
abbrev s_table_spots : Stmt := topS 49
abbrev s_spots_of : Stmt := topS 50
abbrev s_stack_spots : Stmt := topS 47
abbrev s_column_spots : Stmt := topS 48
abbrev s_drawn : Stmt := topS 51
abbrev s_set_on : Stmt := topS 52
abbrev s__law_path : Stmt := topS 58
abbrev s__law_texts_right : Stmt := topS 59
abbrev s__law_runs_right : Stmt := topS 60
abbrev s_placed : Stmt := topS 53
abbrev s_words_of : Stmt := topS 36
abbrev s_reading : Stmt := topS 37
abbrev s__law_parts_right : Stmt := topS 61
abbrev s__law_tables_right : Stmt := topS 62
abbrev s_law : Stmt := topS 63
abbrev N__law_pot : List Str := ["_law_script", "_law_k", "_law_cell", "_law_own"]
def m__law_pot : MC := mSeqC (mSet 2 (mIf (tVal (mBin ltD (mVar 1) (mLenS (mVar 0)))) (mIxS (mVar 0) (mVar 1)) (mBin addD (mBin mulD (mC (.int 37)) (mVar 1)) (mC (.int 11))))) (mSeqC (mSet 3 (mBin mulD (mBin modD (mCall intF (aCons (mCall absF (aCons (mVar 2) (aNil))) (aNil))) (mBin powD (mBin powD (mC (.int 10)) (mC (.int 60))) (mC (.int 5)))) (mCall intF (aCons (mBin geD (mCall absF (aCons (mVar 2) (aNil))) (mBin powD (mC (.int 10)) (mC (.int 18)))) (aNil))))) (mRetC (xLst (aCons (mVar 3) (aCons (mBin modD (mCall intF (aCons (mBin addD (mBin addD (mBin mulD (mBin modD (mCall intF (aCons (mVar 2) (aNil))) (mC (.int 2305843009213693951))) (mC (.int 70441))) (mBin mulD (mBin mulD (mC (.int 6337)) (mVar 1)) (mVar 1))) (mC (.int 71))) (aNil))) (mC (.int 2305843009213693921))) (aCons (mC (.int 0)) (aNil)))))))
def F__law_pot : MFc := defMc 4 m__law_pot
abbrev N__law_take : List Str := ["_law_pot_here", "_law_upto", "_law_digit", "_law_prime", "_law_mixed"]
def m__law_take : MS := mSeq (mIfS (tVal (mBin gtD (mBin ixD (mVar 0) (mC (.int 0))) (mC (.int 0)))) (mSeq (mSet 2 (mBin modD (mCall intF (aCons (mBin ixD (mVar 0) (mC (.int 0))) (aNil))) (mVar 1))) (mSeq (mPut 0 (mC (.int 0)) (mBin fdivD (mBin ixD (mVar 0) (mC (.int 0))) (mVar 1))) (mSeq (mRet (mVar 2)) (mNil)))) (mNil)) (mSeq (mPut 0 (mC (.int 2)) (mBin addD (mBin ixD (mVar 0) (mC (.int 2))) (mC (.int 1)))) (mSeq (mSet 3 (mBin ixD (mLst (aCons (mC (.int 2147483647)) (aCons (mC (.int 2147483629)) (aCons (mC (.int 2147483587)) (aCons (mC (.int 2147483579)) (aCons (mC (.int 2147483563)) (aNil))))))) (mBin modD (mCall intF (aCons (mBin ixD (mVar 0) (mC (.int 2))) (aNil))) (mC (.int 5))))) (mSeq (mSet 4 (mBin modD (mCall intF (aCons (mBin powD (mCall intF (aCons (mBin addD (mBin addD (mBin ixD (mVar 0) (mC (.int 1))) (mBin mulD (mBin mulD (mC (.int 99907)) (mBin ixD (mVar 0) (mC (.int 2)))) (mBin ixD (mVar 0) (mC (.int 2))))) (mC (.int 53))) (aNil))) (mC (.int 3))) (aNil))) (mVar 3))) (mSeq (mSet 4 (mBin modD (mCall intF (aCons (mBin mulD (mVar 4) (mBin addD (mBin modD (mCall intF (aCons (mVar 4) (aNil))) (mC (.int 10007))) (mBin mulD (mC (.int 89)) (mBin ixD (mVar 0) (mC (.int 2)))))) (aNil))) (mC (.int 2305843009213693907)))) (mSeq (mRet (mBin modD (mCall intF (aCons (mBin fdivD (mVar 4) (mC (.int 103))) (aNil))) (mVar 1))) (mNil))))))
def F__law_take : MF := defM 5 m__law_take
abbrev N__law_of : List Str := ["_law_pot_here", "_law_some"]
def m__law_of : MS := mSeq (mRet (mBin ixD (mVar 1) (mCallF 2 F__law_take (aCons (mVar 0) (aCons (mCall lenF (aCons (mVar 1) (aNil))) (aNil)))))) (mNil)
def F__law_of : MF := defM 2 m__law_of
abbrev N_is_integer : List Str := ["value"]
def m_is_integer : MS := mSeq (mRet (mAnd (mUn (isiF "int") (mVar 0)) (mNot (mUn (isiF "bool") (mVar 0))))) (mNil)
def F_is_integer : MF := defM 1 m_is_integer
abbrev N_is_size : List Str := ["value"]
def m_is_size : MS := mSeq (mRet (mAnd (mCallF 1 F_is_integer (aCons (mVar 0) (aNil))) (mBin geD (mVar 0) (mC (.int 1))))) (mNil)
def F_is_size : MF := defM 1 m_is_size
abbrev N_is_word : List Str := ["value", "sign"]
def E1_is_word : ME := mBin inAD (mVar 1) (mC (.str "abcdefghijklmnopqrstuvwxyz"))
def C2_is_word : MX := xLc (mIt (mVar 0)) (gSet 1) (tYesM) (E1_is_word) [1]
def m_is_word : MS := mSeq (mRet (mAnd (mUn (isiF "str") (mVar 0)) (mAnd (mBin neDD (mVar 0) (mC (.str ""))) (mCall allF (aCons (mTell (C2_is_word)) (aNil)))))) (mNil)
def F_is_word : MF := defM 2 m_is_word
abbrev N_are_words : List Str := ["value", "least", "one"]
def E1_are_words : ME := mCallF 1 F_is_word (aCons (mVar 2) (aNil))
def C2_are_words : MX := xLc (mIt (mVar 0)) (gSet 2) (tYesM) (E1_are_words) [2]
def m_are_words : MS := mSeq (mRet (mAnd (mUn (isiF "tuple") (mVar 0)) (mAnd (mBin geD (mCall lenF (aCons (mVar 0) (aNil))) (mVar 1)) (mCall allF (aCons (mTell (C2_are_words)) (aNil)))))) (mNil)
def F_are_words : MF := defM 3 m_are_words
abbrev N_is_text : List Str := ["value"]
def m_is_text : MS := mSeq (mRet (mAnd (mBin eqDD (mCall lenF (aCons (mVar 0) (aNil))) (mC (.int 2))) (mCallF 2 F_are_words (aCons (mBin ixD (mVar 0) (mC (.int 1))) (aCons (mC (.int 1)) (aNil)))))) (mNil)
def F_is_text : MF := defM 1 m_is_text
abbrev N_are_sizes : List Str := ["value", "many", "one"]
def E1_are_sizes : ME := mCallF 1 F_is_size (aCons (mVar 2) (aNil))
def C2_are_sizes : MX := xLc (mIt (mVar 0)) (gSet 2) (tYesM) (E1_are_sizes) [2]
def m_are_sizes : MS := mSeq (mRet (mAnd (mUn (isiF "tuple") (mVar 0)) (mAnd (mBin eqDD (mCall lenF (aCons (mVar 0) (aNil))) (mVar 1)) (mCall allF (aCons (mTell (C2_are_sizes)) (aNil)))))) (mNil)
def F_are_sizes : MF := defM 3 m_are_sizes
abbrev N_are_strips : List Str := ["widths", "gaps"]
def m_are_strips : MS := mSeq (mIfS (tOrM (tNotM (tVal (mUn (isiF "tuple") (mVar 0)))) (tNotM (tVal (mChain leD leD (mC (.int 2)) (mCall lenF (aCons (mVar 0) (aNil))) (mC (.int 4)))))) (mSeq (mRet (mC (.bool false))) (mNil)) (mNil)) (mSeq (mRet (mAnd (mCallF 2 F_are_sizes (aCons (mVar 0) (aCons (mCall lenF (aCons (mVar 0) (aNil))) (aNil)))) (mCallF 2 F_are_sizes (aCons (mVar 1) (aCons (mBin subD (mCall lenF (aCons (mVar 0) (aNil))) (mC (.int 1))) (aNil)))))) (mNil))
def F_are_strips : MF := defM 2 m_are_strips
abbrev N_is_running : List Str := ["value"]
def m_is_running : MS := mSeq (mIfS (tOrM (tVal (mBin neDD (mCall lenF (aCons (mVar 0) (aNil))) (mC (.int 5)))) (tOrM (tNotM (tVal (mCallF 2 F_are_words (aCons (mBin ixD (mVar 0) (mC (.int 1))) (aCons (mC (.int 1)) (aNil)))))) (tNotM (tVal (mCallF 2 F_are_strips (aCons (mBin ixD (mVar 0) (mC (.int 2))) (aCons (mBin ixD (mVar 0) (mC (.int 3))) (aNil)))))))) (mSeq (mRet (mC (.bool false))) (mNil)) (mNil)) (mSeq (mRet (mAnd (mCallF 1 F_is_integer (aCons (mBin ixD (mVar 0) (mC (.int 4))) (aNil))) (mBin geD (mBin ixD (mVar 0) (mC (.int 4))) (mC (.int 2))))) (mNil))
def F_is_running : MF := defM 1 m_is_running
abbrev N_are_cells : List Str := ["value", "many", "cell"]
def E1_are_cells : ME := mCallF 2 F_are_words (aCons (mVar 2) (aCons (mC (.int 0)) (aNil)))
def C2_are_cells : MX := xLc (mIt (mVar 0)) (gSet 2) (tYesM) (E1_are_cells) [2]
def m_are_cells : MS := mSeq (mIfS (tOrM (tNotM (tVal (mUn (isiF "tuple") (mVar 0)))) (tVal (mBin neDD (mCall lenF (aCons (mVar 0) (aNil))) (mVar 1)))) (mSeq (mRet (mC (.bool false))) (mNil)) (mNil)) (mSeq (mRet (mAnd (mCall allF (aCons (mTell (C2_are_cells)) (aNil))) (mBin neDD (mBin ixD (mVar 0) (mC (.int 0))) (mTup (aNil))))) (mNil))
def F_are_cells : MF := defM 3 m_are_cells
abbrev N_is_table : List Str := ["value", "rows", "many", "row", "at"]
def E1_is_table : ME := mBin neDD (mBin ixD (mVar 3) (mVar 4)) (mTup (aNil))
def C2_is_table : MX := xLc (mIt (mVar 1)) (gSet 3) (tYesM) (E1_is_table) [3]
def E3_is_table : ME := mCall anyF (aCons (mTell (C2_is_table)) (aNil))
def C4_is_table : MX := xLc (mRng1 (aCons (mVar 2) (aNil))) (gSet 4) (tYesM) (E3_is_table) [4]
def E5_is_table : ME := mCallF 2 F_are_cells (aCons (mVar 3) (aCons (mVar 2) (aNil)))
def C6_is_table : MX := xLc (mIt (mVar 1)) (gSet 3) (tYesM) (E5_is_table) [3]
def m_is_table : MS := mSeq (mIfS (tOrM (tVal (mBin neDD (mCall lenF (aCons (mVar 0) (aNil))) (mC (.int 4)))) (tNotM (tVal (mCallF 2 F_are_strips (aCons (mBin ixD (mVar 0) (mC (.int 2))) (aCons (mBin ixD (mVar 0) (mC (.int 3))) (aNil))))))) (mSeq (mRet (mC (.bool false))) (mNil)) (mNil)) (mSeq (mUnp (mTup (aCons (mBin ixD (mVar 0) (mC (.int 1))) (aCons (mCall lenF (aCons (mBin ixD (mVar 0) (mC (.int 2))) (aNil))) (aNil)))) (gTupM 2 (gsCons (gSet 1) (gsCons (gSet 2) (gsNil))))) (mSeq (mIfS (tOrM (tNotM (tVal (mUn (isiF "tuple") (mVar 1)))) (tOrM (tVal (mBin ltD (mCall lenF (aCons (mVar 1) (aNil))) (mC (.int 2)))) (tNotM (tVal (mCall allF (aCons (mTell (C6_is_table)) (aNil))))))) (mSeq (mRet (mC (.bool false))) (mNil)) (mNil)) (mSeq (mRet (mCall allF (aCons (mTell (C4_is_table)) (aNil)))) (mNil))))
def F_is_table : MF := defM 5 m_is_table
abbrev N_is_box : List Str := ["value"]
def m_is_box (r_is_box : MF) (r_is_stack : MF) (r_are_parts : MF) (r_are_columns : MF) : MS := mSeq (mIfS (tOrM (tNotM (tVal (mUn (isiF "tuple") (mVar 0)))) (tOrM (tVal (mBin eqDD (mVar 0) (mTup (aNil)))) (tNotM (tVal (mUn (isiF "str") (mBin ixD (mVar 0) (mC (.int 0)))))))) (mSeq (mRet (mC (.bool false))) (mNil)) (mNil)) (mSeq (mMatch (mBin ixD (mVar 0) (mC (.int 0))) [(some ["text"], mSeq (mRet (mCallF 1 F_is_text (aCons (mVar 0) (aNil)))) (mNil)), (some ["running"], mSeq (mRet (mCallF 1 F_is_running (aCons (mVar 0) (aNil)))) (mNil)), (some ["stack"], mSeq (mRet (mCallF 1 r_is_stack (aCons (mVar 0) (aNil)))) (mNil)), (some ["columns"], mSeq (mRet (mCallF 1 r_are_columns (aCons (mVar 0) (aNil)))) (mNil)), (some ["table"], mSeq (mRet (mCallF 1 F_is_table (aCons (mVar 0) (aNil)))) (mNil))]) (mSeq (mRet (mC (.bool false))) (mNil)))
abbrev N_is_stack : List Str := ["value"]
def m_is_stack (r_is_box : MF) (r_is_stack : MF) (r_are_parts : MF) (r_are_columns : MF) : MS := mSeq (mRet (mAnd (mBin eqDD (mCall lenF (aCons (mVar 0) (aNil))) (mC (.int 3))) (mAnd (mCallF 2 r_are_parts (aCons (mBin ixD (mVar 0) (mC (.int 1))) (aCons (mC (.str "stack")) (aNil)))) (mCallF 2 F_are_sizes (aCons (mBin ixD (mVar 0) (mC (.int 2))) (aCons (mBin subD (mCall lenF (aCons (mBin ixD (mVar 0) (mC (.int 1))) (aNil))) (mC (.int 1))) (aNil))))))) (mNil)
abbrev N_are_parts : List Str := ["value", "kind", "part"]
def E1_are_parts (r_is_box : MF) (r_is_stack : MF) (r_are_parts : MF) (r_are_columns : MF) : ME := mAnd (mCallF 1 r_is_box (aCons (mVar 2) (aNil))) (mBin neDD (mBin ixD (mVar 2) (mC (.int 0))) (mVar 1))
def C2_are_parts (r_is_box : MF) (r_is_stack : MF) (r_are_parts : MF) (r_are_columns : MF) : MX := xLc (mIt (mVar 0)) (gSet 2) (tYesM) (E1_are_parts r_is_box r_is_stack r_are_parts r_are_columns) [2]
def m_are_parts (r_is_box : MF) (r_is_stack : MF) (r_are_parts : MF) (r_are_columns : MF) : MS := mSeq (mIfS (tOrM (tNotM (tVal (mUn (isiF "tuple") (mVar 0)))) (tVal (mBin ltD (mCall lenF (aCons (mVar 0) (aNil))) (mC (.int 2))))) (mSeq (mRet (mC (.bool false))) (mNil)) (mNil)) (mSeq (mRet (mCall allF (aCons (mTell (C2_are_parts r_is_box r_is_stack r_are_parts r_are_columns)) (aNil)))) (mNil))
abbrev N_are_columns : List Str := ["value"]
def m_are_columns (r_is_box : MF) (r_is_stack : MF) (r_are_parts : MF) (r_are_columns : MF) : MS := mSeq (mIfS (tOrM (tVal (mBin neDD (mCall lenF (aCons (mVar 0) (aNil))) (mC (.int 4)))) (tNotM (tVal (mCallF 2 r_are_parts (aCons (mBin ixD (mVar 0) (mC (.int 1))) (aCons (mC (.str "columns")) (aNil))))))) (mSeq (mRet (mC (.bool false))) (mNil)) (mNil)) (mSeq (mRet (mAnd (mCallF 2 F_are_sizes (aCons (mBin ixD (mVar 0) (mC (.int 2))) (aCons (mCall lenF (aCons (mBin ixD (mVar 0) (mC (.int 1))) (aNil))) (aNil)))) (mCallF 2 F_are_sizes (aCons (mBin ixD (mVar 0) (mC (.int 3))) (aCons (mBin subD (mCall lenF (aCons (mBin ixD (mVar 0) (mC (.int 1))) (aNil))) (mC (.int 1))) (aNil)))))) (mNil))
def R_is_box : Nat → MF × MF × MF × MF
  | 0 => (fun _ => none, fun _ => none, fun _ => none, fun _ => none)
  | n + 1 => (defM 1 (m_is_box ((R_is_box n).1) ((R_is_box n).2.1) ((R_is_box n).2.2.1) ((R_is_box n).2.2.2)), defM 1 (m_is_stack ((R_is_box n).1) ((R_is_box n).2.1) ((R_is_box n).2.2.1) ((R_is_box n).2.2.2)), defM 3 (m_are_parts ((R_is_box n).1) ((R_is_box n).2.1) ((R_is_box n).2.2.1) ((R_is_box n).2.2.2)), defM 1 (m_are_columns ((R_is_box n).1) ((R_is_box n).2.1) ((R_is_box n).2.2.1) ((R_is_box n).2.2.2)))
def Fr_is_box (n : Nat) : MF := (R_is_box n).1
def Fr_is_stack (n : Nat) : MF := (R_is_box n).2.1
def Fr_are_parts (n : Nat) : MF := (R_is_box n).2.2.1
def Fr_are_columns (n : Nat) : MF := (R_is_box n).2.2.2
theorem Fr_is_box_succ (n : Nat) : Fr_is_box (n + 1) = defM 1 (m_is_box (Fr_is_box n) (Fr_is_stack n) (Fr_are_parts n) (Fr_are_columns n)) := rfl
def F_is_box : MF := Fr_is_box 60
theorem Fr_is_stack_succ (n : Nat) : Fr_is_stack (n + 1) = defM 1 (m_is_stack (Fr_is_box n) (Fr_is_stack n) (Fr_are_parts n) (Fr_are_columns n)) := rfl
def F_is_stack : MF := Fr_is_stack 60
theorem Fr_are_parts_succ (n : Nat) : Fr_are_parts (n + 1) = defM 3 (m_are_parts (Fr_is_box n) (Fr_is_stack n) (Fr_are_parts n) (Fr_are_columns n)) := rfl
def F_are_parts : MF := Fr_are_parts 60
theorem Fr_are_columns_succ (n : Nat) : Fr_are_columns (n + 1) = defM 1 (m_are_columns (Fr_is_box n) (Fr_is_stack n) (Fr_are_parts n) (Fr_are_columns n)) := rfl
def F_are_columns : MF := Fr_are_columns 60
abbrev N_is_document : List Str := ["value"]
def m_is_document : MS := mSeq (mRet (mAnd (mUn (isiF "tuple") (mVar 0)) (mAnd (mBin eqDD (mCall lenF (aCons (mVar 0) (aNil))) (mC (.int 2))) (mAnd (mCallF 1 F_is_size (aCons (mBin ixD (mVar 0) (mC (.int 0))) (aNil))) (mCallF 1 F_is_box (aCons (mBin ixD (mVar 0) (mC (.int 1))) (aNil))))))) (mNil)
def F_is_document : MF := defM 1 m_is_document
abbrev N_check_document : List Str := ["value"]
def m_check_document : MS := mSeq (mIfS (tNotM (tVal (mCallF 1 F_is_document (aCons (mVar 0) (aNil))))) (mSeq (mRaise "BadDocument" "value" (mVar 0)) (mNil)) (mNil)) (mNil)
def F_check_document : MFX := defMX 1 m_check_document
abbrev N_row_width : List Str := ["widths", "rows", "number", "column"]
def m_row_width : MS := mSeq (mSet 3 (mIf (tVal (mBin isND (mVar 1) (mC .none))) (mC (.int 0)) (mBin fdivD (mVar 2) (mVar 1)))) (mSeq (mRet (mIf (tVal (mBin ltD (mVar 3) (mCall lenF (aCons (mVar 0) (aNil))))) (mBin ixD (mVar 0) (mVar 3)) (mC (.int 0)))) (mNil))
def F_row_width : MF := defM 4 m_row_width
abbrev N_filled : List Str := ["words", "widths", "rows", "found", "row", "ended", "word", "place"]
def B1_filled : MS := mSeq (mSet 7 (mBin addD (mVar 5) (mCall intF (aCons (mBin gtD (mVar 5) (mC (.int 0))) (aNil))))) (mSeq (mIfS (tAndM (tVal (mBin gtD (mVar 5) (mC (.int 0)))) (tVal (mBin gtD (mBin addD (mVar 7) (mCall lenF (aCons (mVar 6) (aNil)))) (mCallF 3 F_row_width (aCons (mVar 1) (aCons (mVar 2) (aCons (mVar 4) (aNil)))))))) (mSeq (mPar [4, 7] (xsCons (mV (mBin addD (mVar 4) (mC (.int 1)))) (xsCons (mV (mC (.int 0))) (xsNil)))) (mNil)) (mNil)) (mSeq (mIfS (tVal (mBin gtD (mBin addD (mVar 7) (mCall lenF (aCons (mVar 6) (aNil)))) (mCallF 3 F_row_width (aCons (mVar 1) (aCons (mVar 2) (aCons (mVar 4) (aNil))))))) (mSeq (mRet (mC .none)) (mNil)) (mNil)) (mSeq (mApp 3 (mTup (aCons (mVar 6) (aCons (mVar 4) (aCons (mVar 7) (aNil)))))) (mSeq (mSet 5 (mBin addD (mVar 7) (mCall lenF (aCons (mVar 6) (aNil))))) (mNil)))))
def L2_filled : MS := mFor (mIt (mVar 0)) (gSet 6) (B1_filled)
def m_filled : MS := mSeq (mPar [3, 4, 5] (xsCons (xLst (aNil)) (xsCons (mV (mC (.int 0))) (xsCons (mV (mC (.int 0))) (xsNil))))) (mSeq (L2_filled) (mSeq (mRet (mVar 3)) (mNil)))
def F_filled : MF := defM 8 m_filled
abbrev N_filled_in : List Str := ["words", "width", "path", "found"]
def m_filled_in : MS := mSeq (mSet 3 (mCallF 3 F_filled (aCons (mVar 0) (aCons (mTup (aCons (mVar 1) (aNil))) (aCons (mC .none) (aNil)))))) (mSeq (mIfS (tVal (mBin isND (mVar 3) (mC .none))) (mSeq (mRaise "CannotSet" "path" (mVar 2)) (mNil)) (mNil)) (mSeq (mRet (mTup (aCons (mVar 3) (aCons (mIf (tVal (mBin neDD (mVar 3) (mLst (aNil)))) (mBin addD (mBin ixD (mBin ixD (mVar 3) (mUn negD (mC (.int 1)))) (mC (.int 1))) (mC (.int 1))) (mC (.int 0))) (aNil))))) (mNil)))
def F_filled_in : MFX := defMX 4 m_filled_in
abbrev N_check_strips : List Str := ["widths", "gaps", "width", "path"]
def m_check_strips : MS := mSeq (mIfS (tVal (mBin neDD (mBin addD (mCall sumAF (aCons (mVar 0) (aNil))) (mCall sumAF (aCons (mVar 1) (aNil)))) (mVar 2))) (mSeq (mRaise "CannotSet" "path" (mVar 3)) (mNil)) (mNil)) (mNil)
def F_check_strips : MFX := defMX 4 m_check_strips
abbrev N_places_of : List Str := ["widths", "gaps", "found", "width", "gap"]
def B1_places_of : MS := mSeq (mApp 2 (mBin addD (mBin addD (mBin ixD (mVar 2) (mUn negD (mC (.int 1)))) (mVar 3)) (mVar 4))) (mNil)
def L2_places_of : MS := mFor (mZip2 (aCons (mVar 0) (aCons (mVar 1) (aNil)))) (gTupM 2 (gsCons (gSet 3) (gsCons (gSet 4) (gsNil)))) (B1_places_of)
def m_places_of : MS := mSeq (mSetX 2 (xLst (aCons (mC (.int 0)) (aNil)))) (mSeq (L2_places_of) (mSeq (mRet (mVar 2)) (mNil)))
def F_places_of : MF := defM 5 m_places_of
abbrev N_running_spots : List Str := ["box", "width", "path", "word", "words", "widths", "gaps", "rows", "spots", "starts", "one", "row", "place"]
def E1_running_spots : ME := mTup (aCons (mVar 10) (aCons (mBin modD (mVar 11) (mVar 7)) (aCons (mBin addD (mVar 12) (mBin ixD (mVar 9) (mBin fdivD (mVar 11) (mVar 7)))) (aNil))))
def C2_running_spots : MX := xLc (mIt (mVar 8)) (gTupM 3 (gsCons (gSet 10) (gsCons (gSet 11) (gsCons (gSet 12) (gsNil))))) (tYesM) (E1_running_spots) [10, 11, 12]
def m_running_spots : MS := mSeq (mUnp (mVar 0) (gTupM 5 (gsCons (gSet 3) (gsCons (gSet 4) (gsCons (gSet 5) (gsCons (gSet 6) (gsCons (gSet 7) (gsNil)))))))) (mSeq (mExprX (mCallX 4 F_check_strips (aCons (mVar 5) (aCons (mVar 6) (aCons (mVar 1) (aCons (mVar 2) (aNil))))))) (mSeq (mSet 8 (mCallF 3 F_filled (aCons (mVar 4) (aCons (mVar 5) (aCons (mVar 7) (aNil)))))) (mSeq (mIfS (tOrM (tVal (mBin isND (mVar 8) (mC .none))) (tVal (mBin neDD (mBin fdivD (mBin ixD (mBin ixD (mVar 8) (mUn negD (mC (.int 1)))) (mC (.int 1))) (mVar 7)) (mBin subD (mCall lenF (aCons (mVar 5) (aNil))) (mC (.int 1)))))) (mSeq (mRaise "CannotSet" "path" (mVar 2)) (mNil)) (mNil)) (mSeq (mSet 9 (mCallF 2 F_places_of (aCons (mVar 5) (aCons (mVar 6) (aNil))))) (mSeq (mRet (mTup (aCons (mTell (C2_running_spots)) (aCons (mVar 7) (aNil))))) (mNil))))))
def F_running_spots : MFX := defMX 13 m_running_spots
abbrev N_moved : List Str := ["spots", "rows", "places", "word", "row", "place"]
def E1_moved : ME := mTup (aCons (mVar 3) (aCons (mBin addD (mVar 4) (mVar 1)) (aCons (mBin addD (mVar 5) (mVar 2)) (aNil))))
def C2_moved : MX := xLc (mIt (mVar 0)) (gTupM 3 (gsCons (gSet 3) (gsCons (gSet 4) (gsCons (gSet 5) (gsNil))))) (tYesM) (E1_moved) [3, 4, 5]
def m_moved : MS := mSeq (mRet (mTell (C2_moved))) (mNil)
def F_moved : MF := defM 6 m_moved
abbrev N_table_spots : List Str := ["box", "width", "path", "word", "cell_rows", "widths", "gaps", "found", "rows", "starts", "cells", "highest", "at", "cell", "spots", "many"]
def B1_table_spots : MS := mSeq (mUnpX2 (mCallX 3 F_filled_in (aCons (mVar 13) (aCons (mBin ixD (mVar 5) (mVar 12)) (aCons (mVar 2) (aNil))))) (gTupM 2 (gsCons (gSet 14) (gsCons (gSet 15) (gsNil))))) (mSeq (mExt 7 (mCallF 3 F_moved (aCons (mVar 14) (aCons (mVar 8) (aCons (mBin ixD (mVar 9) (mVar 12)) (aNil)))))) (mSeq (mSet 11 (mCall max2F (aCons (mVar 11) (aCons (mVar 15) (aNil))))) (mNil)))
def L2_table_spots : MS := mFor (mEnumA (aCons (mVar 10) (aNil))) (gTupM 2 (gsCons (gSet 12) (gsCons (gSet 13) (gsNil)))) (B1_table_spots)
def B3_table_spots : MS := mSeq (mSet 11 (mC (.int 0))) (mSeq (L2_table_spots) (mSeq (mAug 8 iaddD (mVar 11)) (mNil)))
def L4_table_spots : MS := mFor (mIt (mVar 4)) (gSet 10) (B3_table_spots)
def m_table_spots : MS := mSeq (mUnp (mVar 0) (gTupM 4 (gsCons (gSet 3) (gsCons (gSet 4) (gsCons (gSet 5) (gsCons (gSet 6) (gsNil))))))) (mSeq (mExprX (mCallX 4 F_check_strips (aCons (mVar 5) (aCons (mVar 6) (aCons (mVar 1) (aCons (mVar 2) (aNil))))))) (mSeq (mPar [7, 8, 9] (xsCons (xLst (aNil)) (xsCons (mV (mC (.int 0))) (xsCons (mV (mCallF 2 F_places_of (aCons (mVar 5) (aCons (mVar 6) (aNil))))) (xsNil))))) (mSeq (L4_table_spots) (mFrz 7 (mSeq (mRet (mTup (aCons (mVar 7) (aCons (mVar 8) (aNil))))) (mNil))))))
def F_table_spots : MFX := defMX 16 m_table_spots
abbrev N_spots_of : List Str := ["box", "width", "path"]
def m_spots_of (r_spots_of : MFX) (r_stack_spots : MFX) (r_column_spots : MFX) : MS := mSeq (mIfS (tVal (mBin eqDD (mBin ixD (mVar 0) (mC (.int 0))) (mC (.str "text")))) (mSeq (mRetX2 (mCallX 3 F_filled_in (aCons (mBin ixD (mVar 0) (mC (.int 1))) (aCons (mVar 1) (aCons (mVar 2) (aNil)))))) (mNil)) (mNil)) (mSeq (mIfS (tVal (mBin eqDD (mBin ixD (mVar 0) (mC (.int 0))) (mC (.str "running")))) (mSeq (mRetX2 (mCallX 3 F_running_spots (aCons (mVar 0) (aCons (mVar 1) (aCons (mVar 2) (aNil)))))) (mNil)) (mNil)) (mSeq (mIfS (tVal (mBin eqDD (mBin ixD (mVar 0) (mC (.int 0))) (mC (.str "stack")))) (mSeq (mRetX2 (mCallX 3 r_stack_spots (aCons (mVar 0) (aCons (mVar 1) (aCons (mVar 2) (aNil)))))) (mNil)) (mNil)) (mSeq (mRetX2 (mIfX (tVal (mBin eqDD (mBin ixD (mVar 0) (mC (.int 0))) (mC (.str "columns")))) (mCallX 3 r_column_spots (aCons (mVar 0) (aCons (mVar 1) (aCons (mVar 2) (aNil))))) (mCallX 3 F_table_spots (aCons (mVar 0) (aCons (mVar 1) (aCons (mVar 2) (aNil))))))) (mNil))))
abbrev N_stack_spots : List Str := ["box", "width", "path", "found", "rows", "at", "part", "spots", "many"]
def B1_stack_spots (r_spots_of : MFX) (r_stack_spots : MFX) (r_column_spots : MFX) : MS := mSeq (mAug 4 iaddD (mIf (tVal (mBin gtD (mVar 5) (mC (.int 0)))) (mBin ixD (mBin ixD (mVar 0) (mC (.int 2))) (mBin subD (mVar 5) (mC (.int 1)))) (mC (.int 0)))) (mSeq (mUnpX2 (mCallX 3 r_spots_of (aCons (mVar 6) (aCons (mVar 1) (aCons (mTup (aStar (mVar 2) (aCons (mVar 5) (aNil)))) (aNil))))) (gTupM 2 (gsCons (gSet 7) (gsCons (gSet 8) (gsNil))))) (mSeq (mExt 3 (mCallF 3 F_moved (aCons (mVar 7) (aCons (mVar 4) (aCons (mC (.int 0)) (aNil)))))) (mSeq (mAug 4 iaddD (mVar 8)) (mNil))))
def L2_stack_spots (r_spots_of : MFX) (r_stack_spots : MFX) (r_column_spots : MFX) : MS := mFor (mEnumA (aCons (mBin ixD (mVar 0) (mC (.int 1))) (aNil))) (gTupM 2 (gsCons (gSet 5) (gsCons (gSet 6) (gsNil)))) (B1_stack_spots r_spots_of r_stack_spots r_column_spots)
def m_stack_spots (r_spots_of : MFX) (r_stack_spots : MFX) (r_column_spots : MFX) : MS := mSeq (mPar [3, 4] (xsCons (xLst (aNil)) (xsCons (mV (mC (.int 0))) (xsNil)))) (mSeq (L2_stack_spots r_spots_of r_stack_spots r_column_spots) (mFrz 3 (mSeq (mRet (mTup (aCons (mVar 3) (aCons (mVar 4) (aNil))))) (mNil))))
abbrev N_column_spots : List Str := ["box", "width", "path", "word", "parts", "widths", "gaps", "found", "rows", "starts", "at", "part", "spots", "many"]
def B1_column_spots (r_spots_of : MFX) (r_stack_spots : MFX) (r_column_spots : MFX) : MS := mSeq (mUnpX2 (mCallX 3 r_spots_of (aCons (mVar 11) (aCons (mBin ixD (mVar 5) (mVar 10)) (aCons (mTup (aStar (mVar 2) (aCons (mVar 10) (aNil)))) (aNil))))) (gTupM 2 (gsCons (gSet 12) (gsCons (gSet 13) (gsNil))))) (mSeq (mExt 7 (mCallF 3 F_moved (aCons (mVar 12) (aCons (mC (.int 0)) (aCons (mBin ixD (mVar 9) (mVar 10)) (aNil)))))) (mSeq (mSet 8 (mCall max2F (aCons (mVar 8) (aCons (mVar 13) (aNil))))) (mNil)))
def L2_column_spots (r_spots_of : MFX) (r_stack_spots : MFX) (r_column_spots : MFX) : MS := mFor (mEnumA (aCons (mVar 4) (aNil))) (gTupM 2 (gsCons (gSet 10) (gsCons (gSet 11) (gsNil)))) (B1_column_spots r_spots_of r_stack_spots r_column_spots)
def m_column_spots (r_spots_of : MFX) (r_stack_spots : MFX) (r_column_spots : MFX) : MS := mSeq (mUnp (mVar 0) (gTupM 4 (gsCons (gSet 3) (gsCons (gSet 4) (gsCons (gSet 5) (gsCons (gSet 6) (gsNil))))))) (mSeq (mExprX (mCallX 4 F_check_strips (aCons (mVar 5) (aCons (mVar 6) (aCons (mVar 1) (aCons (mVar 2) (aNil))))))) (mSeq (mPar [7, 8, 9] (xsCons (xLst (aNil)) (xsCons (mV (mC (.int 0))) (xsCons (mV (mCallF 2 F_places_of (aCons (mVar 5) (aCons (mVar 6) (aNil))))) (xsNil))))) (mSeq (L2_column_spots r_spots_of r_stack_spots r_column_spots) (mFrz 7 (mSeq (mRet (mTup (aCons (mVar 7) (aCons (mVar 8) (aNil))))) (mNil))))))
def R_spots_of : Nat → MFX × MFX × MFX
  | 0 => (fun _ => none, fun _ => none, fun _ => none)
  | n + 1 => (defMX 3 (m_spots_of ((R_spots_of n).1) ((R_spots_of n).2.1) ((R_spots_of n).2.2)), defMX 9 (m_stack_spots ((R_spots_of n).1) ((R_spots_of n).2.1) ((R_spots_of n).2.2)), defMX 14 (m_column_spots ((R_spots_of n).1) ((R_spots_of n).2.1) ((R_spots_of n).2.2)))
def Fr_spots_of (n : Nat) : MFX := (R_spots_of n).1
def Fr_stack_spots (n : Nat) : MFX := (R_spots_of n).2.1
def Fr_column_spots (n : Nat) : MFX := (R_spots_of n).2.2
theorem Fr_spots_of_succ (n : Nat) : Fr_spots_of (n + 1) = defMX 3 (m_spots_of (Fr_spots_of n) (Fr_stack_spots n) (Fr_column_spots n)) := rfl
def F_spots_of : MFX := Fr_spots_of 60
theorem Fr_stack_spots_succ (n : Nat) : Fr_stack_spots (n + 1) = defMX 9 (m_stack_spots (Fr_spots_of n) (Fr_stack_spots n) (Fr_column_spots n)) := rfl
def F_stack_spots : MFX := Fr_stack_spots 60
theorem Fr_column_spots_succ (n : Nat) : Fr_column_spots (n + 1) = defMX 14 (m_column_spots (Fr_spots_of n) (Fr_stack_spots n) (Fr_column_spots n)) := rfl
def F_column_spots : MFX := Fr_column_spots 60
abbrev N_drawn : List Str := ["spots", "rows", "width", "lines", "number", "word", "row", "place", "line"]
def E1_drawn : ME := mBin (onStr joinF) (mC (.str "")) (mVar 8)
def C2_drawn : MX := xLc (mIt (mVar 3)) (gSet 8) (tYesM) (E1_drawn) [8]
def B3_drawn : US := uSeq (uSlst (mCall listAF (aCons (mVar 5) (aNil))) (uIx (uL (mVar 3)) (uL (mVar 6))) (oSome (mVar 7)) (oSome (mBin addD (mVar 7) (mCall lenF (aCons (mVar 5) (aNil)))))) (uNil)
def L4_drawn : US := uFor (mIt (mVar 0)) (gTupM 3 (gsCons (gSet 5) (gsCons (gSet 6) (gsCons (gSet 7) (gsNil))))) (B3_drawn)
def w_drawn : US := uSeq (uSetLc 3 (mRng1 (aCons (mVar 1) (aNil))) (gSet 4) (uRep (mLst (aCons (mC (.str " ")) (aNil))) (mVar 2)) [4]) (uSeq (L4_drawn) (uTell 3 (uL (mSeq (mRet (mTell (C2_drawn))) (mNil)))))
def F_drawn : MF := fun as => match as with
  | [.v (.list ds), .v (.int rows), .v (.int width)] => (drawnF ds rows width).map fun d => (d, as)
  | _ => none
section
def drS0 (ds : List PyData) (rows width : Int) (a : Addr) (x5 x6 x7 : Option SL) : Sl := [some (.v (.list ds)), some (.v (.int rows)), some (.v (.int width)), some (.s (.ptr 0 a)), none, x5, x6, x7, none]
theorem drawn_go {ds : List PyData} {rows width : Int} {a : Addr} {ids : List Nat} {h w : Nat} {Q : Fl → Sl → Mem → Prop} (hw : w ≤ 1000) : ∀ (ss : List Spot) (x5 x6 x7 : Option SL) (M : Mem) (g : Grd), GrM M a ids g → GrS h w g → (∀ s ∈ ss, s.r < h ∧ s.p + s.z.length ≤ w) →
    (∀ M' x5 x6 x7, GrM M' a ids (paintG ss g) → Q .nx (drS0 ds rows width a x5 x6 x7) M') → uForM (gTupM 3 (gsCons (gSet 5) (gsCons (gSet 6) (gsCons (gSet 7) (gsNil))))) B3_drawn (ss.map Spot.d) (drS0 ds rows width a x5 x6 x7) M Q
  | [], x5, x6, x7, M, g, hM, hS, hs, q => q M x5 x6 x7 hM
  | s :: ss, x5, x6, x7, M, g, hM, hS, hs, q => by
    obtain ⟨hr, hp⟩ := hs s List.mem_cons_self
    have hg : (g.getD s.r []).length = w := hS.row _ (by rw [List.getD_eq_getElem?_getD, List.getElem?_eq_getElem (by rw [hS.len]; exact hr)]; exact List.getElem_mem _)
    refine ⟨drS0 ds rows width a (some (.v (.str s.z))) (some (.v (.int s.r))) (some (.v (.int s.p))), rfl, ?_⟩
    unfold B3_drawn
    show uSlst _ (uIx (uL _) (uL _)) _ _ _ _ _
    refine grid_put hM (z := s.z) (r := s.r) (p := s.p) ?_ ?_ ?_ ?_ ?_ (by rw [hS.len]; exact hr) (by rw [hg]; exact hp) (by rw [hg]; exact hw) fun M' hM' => ?_
    · have e : listAF [.str s.z] = some (.list (signsD s.z)) := if_pos (by omega)
      simp only [defM, defMc, defMX, mExprX, mSetX2, mRetX2, mUnpX2, mCallX, mValX, mRaise, mTryK, mIsE, mFld, mIsN, mIsNN, mIsE2, mFStr, mJoin, mEnumA, mNil, mSeq, mSeqC, mRetC, mIfS, mRet, mRetN, mBk, mCt, mSet, mSetX, mPut, mApp, mFrz, mAug, mDrop, mIns, mPopAt, mPar, setAll, mUnp, gSet, gTupM, gsCons, gsNil, tVal, tAndM, tOrM, tNotM, tYesM, mBin, mUn, mAnd, mOr, mNot, mIf, mChain, mVar, mC, mCall, mCallF, mCallC, argsOf, argOf, ptrs, putBack, aNil, aCons, mTup, mLst, mV, mTell, xLst, xToList, xsNil, xsCons, mLenS, mIxS, mDict1, mSl, oNone, oSome, mFor, mIt, mRng1, mRng2, mEnum, xLc, ownOk, wp, unwp, startS, ixD, atI, addD_int, addD_str, addD_list, addD_tuple, subD, mulD_l, mulD_r, fdivD_pos, modD_pos, ltD_int, leD_int, gtD_int, geD_int, eqD_int, neD_int, eqD_tupE, eqD_strs, neD_strs, isND, isNotND, intF, absF, lenF, joinF, negD, List.map, List.length_cons, List.length_nil, List.cons_append, List.nil_append, List.append_nil, List.replicate, List.getElem?_cons_zero, List.getElem?_cons_succ, List.set_cons_zero, List.set_cons_succ, putAt, SL.put, stables, derefs, stable, deref, heldAt, SL.held, Int.reduceLT, Int.reduceLE, Int.reduceNeg, Nat.reduceAdd, Nat.reduceLeDiff, and_self, true_and, and_true, ite_true, if_true, List.nodup_cons, List.nodup_nil, List.not_mem_nil, not_false_eq_true, Nat.succ_ne_zero, eq_self, Option.bind_some, Option.bind, Option.map, id, asOut, drS0, ↓e]
    · rfl
    · rfl
    · rfl
    · have e : lenF [.str s.z] = some (.int s.z.length) := if_pos (by omega)
      simp only [defM, defMc, defMX, mExprX, mSetX2, mRetX2, mUnpX2, mCallX, mValX, mRaise, mTryK, mIsE, mFld, mIsN, mIsNN, mIsE2, mFStr, mJoin, mEnumA, mNil, mSeq, mSeqC, mRetC, mIfS, mRet, mRetN, mBk, mCt, mSet, mSetX, mPut, mApp, mFrz, mAug, mDrop, mIns, mPopAt, mPar, setAll, mUnp, gSet, gTupM, gsCons, gsNil, tVal, tAndM, tOrM, tNotM, tYesM, mBin, mUn, mAnd, mOr, mNot, mIf, mChain, mVar, mC, mCall, mCallF, mCallC, argsOf, argOf, ptrs, putBack, aNil, aCons, mTup, mLst, mV, mTell, xLst, xToList, xsNil, xsCons, mLenS, mIxS, mDict1, mSl, oNone, oSome, mFor, mIt, mRng1, mRng2, mEnum, xLc, ownOk, wp, unwp, startS, ixD, atI, addD_int, addD_str, addD_list, addD_tuple, subD, mulD_l, mulD_r, fdivD_pos, modD_pos, ltD_int, leD_int, gtD_int, geD_int, eqD_int, neD_int, eqD_tupE, eqD_strs, neD_strs, isND, isNotND, intF, absF, lenF, joinF, negD, List.map, List.length_cons, List.length_nil, List.cons_append, List.nil_append, List.append_nil, List.replicate, List.getElem?_cons_zero, List.getElem?_cons_succ, List.set_cons_zero, List.set_cons_succ, putAt, SL.put, stables, derefs, stable, deref, heldAt, SL.held, Int.reduceLT, Int.reduceLE, Int.reduceNeg, Nat.reduceAdd, Nat.reduceLeDiff, and_self, true_and, and_true, ite_true, if_true, List.nodup_cons, List.nodup_nil, List.not_mem_nil, not_false_eq_true, Nat.succ_ne_zero, eq_self, Option.bind_some, Option.bind, Option.map, id, asOut, drS0, ↓e]
    · exact drawn_go hw ss _ _ _ M' _ hM' (putG_ok hS (by rw [← len_sg]; exact hp)) (fun x hx => hs x (List.mem_cons_of_mem _ hx)) q
theorem r_drawn : ∀ (as : List SL) (d : PyData) (as' : List SL), F_drawn as = some (d, as') → w_drawn (startS 9 as) [] (UEnd as d as') := by
  intro as d as' h
  unfold F_drawn at h
  split at h
  · rename_i ds rows width
    obtain ⟨d', hd, hh⟩ := Option.map_eq_some_iff.mp h
    cases hh
    unfold drawnF at hd
    split at hd
    · rename_i ss ess
      split at hd
      · rename_i hc
        cases hd
        obtain ⟨⟨h0, h1, w0, w1⟩, hf⟩ := hc
        have hf := fitsB_iff.mp hf
        obtain ⟨hn, ehn⟩ : ∃ n : Nat, n = rows.toNat := ⟨_, rfl⟩
        obtain ⟨wn, ewn⟩ : ∃ n : Nat, n = width.toNat := ⟨_, rfl⟩
        rw [← ehn, ← ewn] at hf ⊢
        unfold w_drawn
        show uSetLc _ _ _ _ _ _ _ _
        refine grid_new (ds := rngD 0 hn) (row := List.replicate wn 32) (S1 := startS 9 [.v (.list ds), .v (.int rows), .v (.int width)]) ?_ rfl (by rw [rngD_length]; omega) (fun x hx => ⟨_, rfl, fun M Q q => ?_⟩) fun a M' ids hM => ?_
        · rw [ehn]
          exact rng1V (me := mVar 1) rfl h0 h1
        · refine ⟨[.str " "], _, width, _, rfl, rfl, w0, by omega, by rw [← ewn]; simp; omega, fun b => ?_⟩
          rw [← ewn, rep_blank]
          exact q b _ rfl
        · rw [rngD_length] at hM
          have e0 := spotsOf_eq ess
          show uSeq (L4_drawn) _ (drS0 ds rows width a none none none) M' _
          refine ⟨ss.map Spot.d, drS0 ds rows width a none none none, ?_, ?_⟩
          · rw [← e0]
            rfl
          refine drawn_go (by omega) ss none none none M' _ hM (blankG_ok hn wn) hf fun M2 x5 x6 x7 hM2 => ?_
          have hP := paintG_ok (blankG_ok hn wn) fun s hs => (hf s hs).2
          refine ⟨0, a, _, rfl, grid_tell hM2, ?_⟩
          obtain ⟨G, hG⟩ : ∃ G, G = paintG ss (blankG hn wn) := ⟨_, rfl⟩
          have eG : paintG ss (List.replicate hn (List.replicate wn 32)) = G := by rw [hG]; rfl
          rw [eG]
          rw [← hG] at hP ⊢
          have eC : C2_drawn [some (.v (.list ds)), some (.v (.int rows)), some (.v (.int width)), some (.v (.list (G.map fun row => .list (sgsD row)))), none, x5, x6, x7, none] = some (.c (mapD joinR (G.map fun row => .list (sgsD row))), [some (.v (.list ds)), some (.v (.int rows)), some (.v (.int width)), some (.v (.list (G.map fun row => .list (sgsD row)))), none, x5, x6, x7, none]) :=
            lcm (i := 8) joinR rfl rfl (by rw [List.length_map, hP.len]; omega) fun y hy => by
              have ej := join_each hP.row (by omega) hy
              show E1_drawn [some (.v (.list ds)), some (.v (.int rows)), some (.v (.int width)), some (.v (.list (G.map fun row => .list (sgsD row)))), none, x5, x6, x7, some (.v y)] = _
              simp only [defM, defMc, defMX, mExprX, mSetX2, mRetX2, mUnpX2, mCallX, mValX, mRaise, mTryK, mIsE, mFld, mIsN, mIsNN, mIsE2, mFStr, mJoin, mEnumA, mNil, mSeq, mSeqC, mRetC, mIfS, mRet, mRetN, mBk, mCt, mSet, mSetX, mPut, mApp, mFrz, mAug, mDrop, mIns, mPopAt, mPar, setAll, mUnp, gSet, gTupM, gsCons, gsNil, tVal, tAndM, tOrM, tNotM, tYesM, mBin, mUn, mAnd, mOr, mNot, mIf, mChain, mVar, mC, mCall, mCallF, mCallC, argsOf, argOf, ptrs, putBack, aNil, aCons, mTup, mLst, mV, mTell, xLst, xToList, xsNil, xsCons, mLenS, mIxS, mDict1, mSl, oNone, oSome, mFor, mIt, mRng1, mRng2, mEnum, xLc, ownOk, wp, unwp, startS, ixD, atI, addD_int, addD_str, addD_list, addD_tuple, subD, mulD_l, mulD_r, fdivD_pos, modD_pos, ltD_int, leD_int, gtD_int, geD_int, eqD_int, neD_int, eqD_tupE, eqD_strs, neD_strs, isND, isNotND, intF, absF, lenF, joinF, negD, List.map, List.length_cons, List.length_nil, List.cons_append, List.nil_append, List.append_nil, List.replicate, List.getElem?_cons_zero, List.getElem?_cons_succ, List.set_cons_zero, List.set_cons_succ, putAt, SL.put, stables, derefs, stable, deref, heldAt, SL.held, Int.reduceLT, Int.reduceLE, Int.reduceNeg, Nat.reduceAdd, Nat.reduceLeDiff, and_self, true_and, and_true, ite_true, if_true, List.nodup_cons, List.nodup_nil, List.not_mem_nil, not_false_eq_true, Nat.succ_ne_zero, eq_self, Option.bind_some, Option.bind, Option.map, id, asOut, E1_drawn, onStr, ↓ej]
          rw [mapD_join hP.row (by omega)] at eC
          refine ⟨.rt (.v (.list (pageG G))), [some (.v (.list ds)), some (.v (.int rows)), some (.v (.int width)), some (.v (.list (G.map fun row => .list (sgsD row)))), none, x5, x6, x7, none], ?_, .inl ⟨_, rfl, rfl⟩, rfl⟩
          · show mSeq (mRet (mTell C2_drawn)) mNil [some (.v (.list ds)), some (.v (.int rows)), some (.v (.int width)), some (.v (.list (G.map fun row => .list (sgsD row)))), none, x5, x6, x7, none] = _
            simp only [defM, defMc, defMX, mExprX, mSetX2, mRetX2, mUnpX2, mCallX, mValX, mRaise, mTryK, mIsE, mFld, mIsN, mIsNN, mIsE2, mFStr, mJoin, mEnumA, mNil, mSeq, mSeqC, mRetC, mIfS, mRet, mRetN, mBk, mCt, mSet, mSetX, mPut, mApp, mFrz, mAug, mDrop, mIns, mPopAt, mPar, setAll, mUnp, gSet, gTupM, gsCons, gsNil, tVal, tAndM, tOrM, tNotM, tYesM, mBin, mUn, mAnd, mOr, mNot, mIf, mChain, mVar, mC, mCall, mCallF, mCallC, argsOf, argOf, ptrs, putBack, aNil, aCons, mTup, mLst, mV, mTell, xLst, xToList, xsNil, xsCons, mLenS, mIxS, mDict1, mSl, oNone, oSome, mFor, mIt, mRng1, mRng2, mEnum, xLc, ownOk, wp, unwp, startS, ixD, atI, addD_int, addD_str, addD_list, addD_tuple, subD, mulD_l, mulD_r, fdivD_pos, modD_pos, ltD_int, leD_int, gtD_int, geD_int, eqD_int, neD_int, eqD_tupE, eqD_strs, neD_strs, isND, isNotND, intF, absF, lenF, joinF, negD, List.map, List.length_cons, List.length_nil, List.cons_append, List.nil_append, List.append_nil, List.replicate, List.getElem?_cons_zero, List.getElem?_cons_succ, List.set_cons_zero, List.set_cons_succ, putAt, SL.put, stables, derefs, stable, deref, heldAt, SL.held, Int.reduceLT, Int.reduceLE, Int.reduceNeg, Nat.reduceAdd, Nat.reduceLeDiff, and_self, true_and, and_true, ite_true, if_true, List.nodup_cons, List.nodup_nil, List.not_mem_nil, not_false_eq_true, Nat.succ_ne_zero, eq_self, Option.bind_some, Option.bind, Option.map, id, asOut, eC]
      · cases hd
    · cases hd
  · cases h
end

abbrev N_set_on : List Str := ["document", "rows", "places", "size", "width", "box", "spots", "many"]
def B1_set_on : MS := mSeq (mIfS (tNotM (tVal (mCallF 1 F_is_size (aCons (mVar 3) (aNil))))) (mSeq (mRaise "BadSize" "value" (mVar 3)) (mNil)) (mNil)) (mNil)
def L2_set_on : MS := mFor (mIt (mTup (aCons (mVar 1) (aCons (mVar 2) (aNil))))) (gSet 3) (B1_set_on)
def m_set_on : MS := mSeq (mExprX (mCallX 1 F_check_document (aCons (mVar 0) (aNil)))) (mSeq (L2_set_on) (mSeq (mUnp (mVar 0) (gTupM 2 (gsCons (gSet 4) (gsCons (gSet 5) (gsNil))))) (mSeq (mIfS (tVal (mBin gtD (mVar 4) (mVar 2))) (mSeq (mRaise "CannotSet" "path" (mTup (aNil))) (mNil)) (mNil)) (mSeq (mUnpX2 (mCallX 3 F_spots_of (aCons (mVar 5) (aCons (mVar 4) (aCons (mTup (aNil)) (aNil))))) (gTupM 2 (gsCons (gSet 6) (gsCons (gSet 7) (gsNil))))) (mSeq (mIfS (tVal (mBin gtD (mVar 7) (mVar 1))) (mSeq (mRaise "CannotSet" "path" (mTup (aNil))) (mNil)) (mNil)) (mSeq (mRet (mCall tupleF (aCons (mCallF 3 F_drawn (aCons (mVar 6) (aCons (mVar 1) (aCons (mVar 2) (aNil))))) (aNil)))) (mNil)))))))
def F_set_on : MFX := defMX 8 m_set_on
abbrev N__law_path : List Str := ["_law_paper", "_law_high", "_law_wide", "_law_path_here", "error"]
def m__law_path : MS := mSeq (mSet 3 (mC .none)) (mSeq (mTryF (kx [("BadDocument", false), ("CannotSet", true), ("BadSize", false)]) 3 4 "path" (mSeq (mRetX2 (mCallX 3 F_set_on (mPerm [1, 2, 0] (aCons (mVar 2) (aCons (mVar 0) (aCons (mVar 1) (aNil))))))) (mNil))) (mSeq (mRet (mVar 3)) (mNil)))
def F__law_path : MF := defM 5 m__law_path
abbrev N__law_texts_right : List Str := ["_law_a", "_law_b", "_law_some", "_law_wide"]
def m__law_texts_right : MS := mSeq (mSet 2 (mTup (aCons (mBin mulD (mVar 0) (mC (.int 2))) (aCons (mVar 1) (aCons (mVar 0) (aCons (mBin mulD (mVar 1) (mC (.int 3))) (aNil))))))) (mSeq (mIfS (tVal (mBin neDD (mCallF 3 F__law_path (aCons (mTup (aCons (mC (.int 3)) (aCons (mTup (aCons (mC (.str "text")) (aCons (mVar 2) (aNil)))) (aNil)))) (aCons (mC (.int 4)) (aCons (mC (.int 3)) (aNil))))) (mTup (aCons (mBin addD (mBin mulD (mVar 0) (mC (.int 2))) (mC (.str " "))) (aCons (mBin addD (mBin addD (mVar 1) (mC (.str " "))) (mVar 0)) (aCons (mBin mulD (mVar 1) (mC (.int 3))) (aCons (mC (.str "   ")) (aNil)))))))) (mSeq (mRet (mC (.bool false))) (mNil)) (mNil)) (mSeq (mIfS (tVal (mBin neDD (mCallF 3 F__law_path (aCons (mTup (aCons (mC (.int 4)) (aCons (mTup (aCons (mC (.str "text")) (aCons (mVar 2) (aNil)))) (aNil)))) (aCons (mC (.int 3)) (aCons (mC (.int 5)) (aNil))))) (mTup (aCons (mBin addD (mBin addD (mBin addD (mBin mulD (mVar 0) (mC (.int 2))) (mC (.str " "))) (mVar 1)) (mC (.str " "))) (aCons (mBin addD (mVar 0) (mC (.str "    "))) (aCons (mBin addD (mBin mulD (mVar 1) (mC (.int 3))) (mC (.str "  "))) (aNil))))))) (mSeq (mRet (mC (.bool false))) (mNil)) (mNil)) (mSeq (mSet 3 (mBin addD (mBin addD (mBin addD (mBin addD (mBin addD (mBin addD (mBin mulD (mVar 0) (mC (.int 2))) (mC (.str " "))) (mVar 1)) (mC (.str " "))) (mVar 0)) (mC (.str " "))) (mBin mulD (mVar 1) (mC (.int 3))))) (mSeq (mRet (mAnd (mBin eqDD (mCallF 3 F__law_path (aCons (mTup (aCons (mC (.int 10)) (aCons (mTup (aCons (mC (.str "text")) (aCons (mVar 2) (aNil)))) (aNil)))) (aCons (mC (.int 1)) (aCons (mC (.int 10)) (aNil))))) (mTup (aCons (mVar 3) (aNil)))) (mBin eqDD (mCallF 3 F__law_path (aCons (mTup (aCons (mC (.int 2)) (aCons (mTup (aCons (mC (.str "text")) (aCons (mVar 2) (aNil)))) (aNil)))) (aCons (mC (.int 9)) (aCons (mC (.int 9)) (aNil))))) (mTup (aNil))))) (mNil)))))
def F__law_texts_right : MF := defM 4 m__law_texts_right
abbrev N__law_runs_right : List Str := ["_law_a", "_law_b", "_law_some", "_law_plan", "_law_page"]
def m__law_runs_right : MS := mSeq (mSet 2 (mTup (aCons (mVar 0) (aCons (mBin mulD (mVar 0) (mC (.int 3))) (aCons (mVar 1) (aCons (mVar 1) (aCons (mBin mulD (mVar 0) (mC (.int 2))) (aCons (mVar 1) (aNil))))))))) (mSeq (mSet 3 (mTup (aCons (mC (.str "running")) (aCons (mVar 2) (aCons (mTup (aCons (mC (.int 3)) (aCons (mC (.int 2)) (aNil)))) (aCons (mTup (aCons (mC (.int 2)) (aNil))) (aCons (mC (.int 3)) (aNil)))))))) (mSeq (mIfS (tVal (mBin neDD (mCallF 3 F__law_path (aCons (mTup (aCons (mC (.int 7)) (aCons (mVar 3) (aNil)))) (aCons (mC (.int 3)) (aCons (mC (.int 7)) (aNil))))) (mTup (aCons (mBin addD (mBin addD (mVar 0) (mC (.str "    "))) (mBin mulD (mVar 0) (mC (.int 2)))) (aCons (mBin addD (mBin addD (mBin addD (mBin mulD (mVar 0) (mC (.int 3))) (mC (.str "  "))) (mVar 1)) (mC (.str " "))) (aCons (mBin addD (mBin addD (mBin addD (mVar 1) (mC (.str " "))) (mVar 1)) (mC (.str "    "))) (aNil))))))) (mSeq (mRet (mC (.bool false))) (mNil)) (mNil)) (mSeq (mIfS (tVal (mBin neDD (mCallF 3 F__law_path (aCons (mTup (aCons (mC (.int 7)) (aCons (mTup (aCons (mC (.str "running")) (aCons (mSl (mVar 2) (oNone) (oSome (mC (.int 4)))) (aCons (mTup (aCons (mC (.int 3)) (aCons (mC (.int 2)) (aNil)))) (aCons (mTup (aCons (mC (.int 2)) (aNil))) (aCons (mC (.int 3)) (aNil))))))) (aNil)))) (aCons (mC (.int 3)) (aCons (mC (.int 7)) (aNil))))) (mTup (aNil)))) (mSeq (mRet (mC (.bool false))) (mNil)) (mNil)) (mSeq (mIfS (tVal (mBin neDD (mCallF 3 F__law_path (aCons (mTup (aCons (mC (.int 7)) (aCons (mTup (aCons (mC (.str "running")) (aCons (mBin addD (mVar 2) (mTup (aCons (mBin mulD (mVar 0) (mC (.int 2))) (aCons (mVar 1) (aCons (mVar 1) (aNil)))))) (aCons (mTup (aCons (mC (.int 3)) (aCons (mC (.int 2)) (aNil)))) (aCons (mTup (aCons (mC (.int 2)) (aNil))) (aCons (mC (.int 2)) (aNil))))))) (aNil)))) (aCons (mC (.int 9)) (aCons (mC (.int 9)) (aNil))))) (mTup (aNil)))) (mSeq (mRet (mC (.bool false))) (mNil)) (mNil)) (mSeq (mSet 4 (mTup (aCons (mBin addD (mBin addD (mBin addD (mVar 0) (mC (.str "    "))) (mVar 1)) (mC (.str " "))) (aCons (mBin addD (mBin addD (mBin mulD (mVar 0) (mC (.int 3))) (mC (.str "  "))) (mBin mulD (mVar 0) (mC (.int 2)))) (aNil))))) (mSeq (mRet (mBin eqDD (mCallF 3 F__law_path (aCons (mTup (aCons (mC (.int 7)) (aCons (mTup (aCons (mC (.str "running")) (aCons (mTup (aCons (mVar 0) (aCons (mBin mulD (mVar 0) (mC (.int 3))) (aCons (mVar 1) (aCons (mBin mulD (mVar 0) (mC (.int 2))) (aNil)))))) (aCons (mTup (aCons (mC (.int 3)) (aCons (mC (.int 2)) (aNil)))) (aCons (mTup (aCons (mC (.int 2)) (aNil))) (aCons (mC (.int 2)) (aNil))))))) (aNil)))) (aCons (mC (.int 2)) (aCons (mC (.int 7)) (aNil))))) (mVar 4))) (mNil)))))))
def F__law_runs_right : MF := defM 5 m__law_runs_right
abbrev N_placed : List Str := ["document"]
def m_placed : MS := mSeq (mExprX (mCallX 1 F_check_document (aCons (mVar 0) (aNil)))) (mSeq (mRet (mCall tupleF (aCons (mBin ixD (mValX (mCallX 3 F_spots_of (aCons (mBin ixD (mVar 0) (mC (.int 1))) (aCons (mBin ixD (mVar 0) (mC (.int 0))) (aCons (mTup (aNil)) (aNil)))))) (mC (.int 0))) (aNil)))) (mNil))
def F_placed : MFX := defMX 1 m_placed
abbrev N_words_of : List Str := ["box", "found", "part", "cell", "word"]
def C1_words_of (r_words_of : MF) : MX := xLc2 (mIt (mVar 2)) (gSet 3) (tYesM) (mIt (mVar 3)) (gSet 4) (tYesM) (mVar 4) [3, 4] [4]
def B2_words_of (r_words_of : MF) : MS := mSeq (mIfS (tVal (mBin eqDD (mBin ixD (mVar 0) (mC (.int 0))) (mC (.str "table")))) (mSeq (mExt 1 (mTell (C1_words_of r_words_of))) (mNil)) (mSeq (mExt 1 (mCallF 1 r_words_of (aCons (mVar 2) (aNil)))) (mNil))) (mNil)
def L3_words_of (r_words_of : MF) : MS := mFor (mIt (mBin ixD (mVar 0) (mC (.int 1)))) (gSet 2) (B2_words_of r_words_of)
def m_words_of (r_words_of : MF) : MS := mSeq (mIfS (tVal (mBin inAD (mBin ixD (mVar 0) (mC (.int 0))) (mTup (aCons (mC (.str "text")) (aCons (mC (.str "running")) (aNil)))))) (mSeq (mRet (mCall listF (aCons (mBin ixD (mVar 0) (mC (.int 1))) (aNil)))) (mNil)) (mNil)) (mSeq (mSetX 1 (xLst (aNil))) (mSeq (L3_words_of r_words_of) (mSeq (mRet (mVar 1)) (mNil))))
def R_words_of : Nat → MF
  | 0 => (fun _ => none)
  | n + 1 => (defM 5 (m_words_of ((R_words_of n))))
def Fr_words_of (n : Nat) : MF := (R_words_of n)
theorem Fr_words_of_succ (n : Nat) : Fr_words_of (n + 1) = defM 5 (m_words_of (Fr_words_of n)) := rfl
def F_words_of : MF := Fr_words_of 60
abbrev N_reading : List Str := ["document"]
def m_reading : MS := mSeq (mExprX (mCallX 1 F_check_document (aCons (mVar 0) (aNil)))) (mSeq (mRet (mCall tupleF (aCons (mCallF 1 F_words_of (aCons (mBin ixD (mVar 0) (mC (.int 1))) (aNil))) (aNil)))) (mNil))
def F_reading : MFX := defMX 1 m_reading
abbrev N__law_parts_right : List Str := ["_law_a", "_law_b", "_law_heap", "_law_beside", "_law_page", "_law_long", "_law_deep"]
def m__law_parts_right : MS := mSeq (mSet 2 (mTup (aCons (mC (.str "stack")) (aCons (mTup (aCons (mTup (aCons (mC (.str "text")) (aCons (mTup (aCons (mVar 0) (aCons (mVar 1) (aNil)))) (aNil)))) (aCons (mTup (aCons (mC (.str "text")) (aCons (mTup (aCons (mBin mulD (mVar 1) (mC (.int 2))) (aNil))) (aNil)))) (aNil)))) (aCons (mTup (aCons (mC (.int 2)) (aNil))) (aNil)))))) (mSeq (mSet 3 (mTup (aCons (mC (.str "columns")) (aCons (mTup (aCons (mVar 2) (aCons (mTup (aCons (mC (.str "text")) (aCons (mTup (aCons (mBin mulD (mVar 0) (mC (.int 3))) (aCons (mVar 1) (aNil)))) (aNil)))) (aNil)))) (aCons (mTup (aCons (mC (.int 3)) (aCons (mC (.int 4)) (aNil)))) (aCons (mTup (aCons (mC (.int 1)) (aNil))) (aNil))))))) (mSeq (mSet 4 (mTup (aCons (mBin addD (mBin addD (mBin addD (mBin addD (mBin addD (mVar 0) (mC (.str " "))) (mVar 1)) (mC (.str " "))) (mBin mulD (mVar 0) (mC (.int 3)))) (mC (.str " "))) (aCons (mBin addD (mBin addD (mC (.str "    ")) (mVar 1)) (mC (.str "   "))) (aCons (mBin mulD (mC (.str " ")) (mC (.int 8))) (aCons (mBin addD (mBin mulD (mVar 1) (mC (.int 2))) (mBin mulD (mC (.str " ")) (mC (.int 6)))) (aNil))))))) (mSeq (mIfS (tOrM (tVal (mBin neDD (mCallF 3 F__law_path (aCons (mTup (aCons (mC (.int 8)) (aCons (mVar 3) (aNil)))) (aCons (mC (.int 4)) (aCons (mC (.int 8)) (aNil))))) (mVar 4))) (tOrM (tVal (mBin neDD (mCallF 3 F__law_path (aCons (mTup (aCons (mC (.int 8)) (aCons (mVar 3) (aNil)))) (aCons (mC (.int 3)) (aCons (mC (.int 8)) (aNil))))) (mTup (aNil)))) (tVal (mBin neDD (mCallF 3 F__law_path (aCons (mTup (aCons (mC (.int 9)) (aCons (mVar 3) (aNil)))) (aCons (mC (.int 4)) (aCons (mC (.int 9)) (aNil))))) (mTup (aNil)))))) (mSeq (mRet (mC (.bool false))) (mNil)) (mNil)) (mSeq (mSet 5 (mTup (aCons (mC (.str "columns")) (aCons (mTup (aCons (mVar 2) (aCons (mTup (aCons (mC (.str "text")) (aCons (mTup (aCons (mBin mulD (mVar 0) (mC (.int 5))) (aCons (mVar 1) (aNil)))) (aNil)))) (aNil)))) (aCons (mTup (aCons (mC (.int 3)) (aCons (mC (.int 4)) (aNil)))) (aCons (mTup (aCons (mC (.int 1)) (aNil))) (aNil))))))) (mSeq (mIfS (tOrM (tVal (mBin neDD (mCallF 3 F__law_path (aCons (mTup (aCons (mC (.int 8)) (aCons (mVar 5) (aNil)))) (aCons (mC (.int 4)) (aCons (mC (.int 8)) (aNil))))) (mTup (aCons (mC (.int 1)) (aNil))))) (tVal (mBin neDD (mCallF 3 F__law_path (aCons (mTup (aCons (mC (.int 8)) (aCons (mVar 5) (aNil)))) (aCons (mC (.int 1)) (aCons (mC (.int 7)) (aNil))))) (mTup (aNil))))) (mSeq (mRet (mC (.bool false))) (mNil)) (mNil)) (mSeq (mSet 6 (mTup (aCons (mC (.str "columns")) (aCons (mTup (aCons (mTup (aCons (mC (.str "stack")) (aCons (mTup (aCons (mTup (aCons (mC (.str "text")) (aCons (mTup (aCons (mVar 0) (aNil))) (aNil)))) (aCons (mTup (aCons (mC (.str "text")) (aCons (mTup (aCons (mBin mulD (mVar 1) (mC (.int 4))) (aNil))) (aNil)))) (aNil)))) (aCons (mTup (aCons (mC (.int 1)) (aNil))) (aNil))))) (aCons (mTup (aCons (mC (.str "text")) (aCons (mTup (aCons (mBin mulD (mVar 0) (mC (.int 5))) (aNil))) (aNil)))) (aNil)))) (aCons (mTup (aCons (mC (.int 3)) (aCons (mC (.int 4)) (aNil)))) (aCons (mTup (aCons (mC (.int 1)) (aNil))) (aNil))))))) (mSeq (mIfS (tOrM (tVal (mBin neDD (mCallF 3 F__law_path (aCons (mTup (aCons (mC (.int 8)) (aCons (mVar 6) (aNil)))) (aCons (mC (.int 1)) (aCons (mC (.int 8)) (aNil))))) (mTup (aCons (mC (.int 0)) (aCons (mC (.int 1)) (aNil)))))) (tVal (mBin neDD (mValX (mCallX 1 F_reading (aCons (mTup (aCons (mC (.int 8)) (aCons (mVar 3) (aNil)))) (aNil)))) (mTup (aCons (mVar 0) (aCons (mVar 1) (aCons (mBin mulD (mVar 1) (mC (.int 2))) (aCons (mBin mulD (mVar 0) (mC (.int 3))) (aCons (mVar 1) (aNil)))))))))) (mSeq (mRet (mC (.bool false))) (mNil)) (mNil)) (mSeq (mRet (mBin eqDD (mValX (mCallX 1 F_placed (aCons (mTup (aCons (mC (.int 8)) (aCons (mVar 3) (aNil)))) (aNil)))) (mTup (aCons (mTup (aCons (mVar 0) (aCons (mC (.int 0)) (aCons (mC (.int 0)) (aNil))))) (aCons (mTup (aCons (mVar 1) (aCons (mC (.int 0)) (aCons (mC (.int 2)) (aNil))))) (aCons (mTup (aCons (mBin mulD (mVar 1) (mC (.int 2))) (aCons (mC (.int 3)) (aCons (mC (.int 0)) (aNil))))) (aCons (mTup (aCons (mBin mulD (mVar 0) (mC (.int 3))) (aCons (mC (.int 0)) (aCons (mC (.int 4)) (aNil))))) (aCons (mTup (aCons (mVar 1) (aCons (mC (.int 1)) (aCons (mC (.int 4)) (aNil))))) (aNil))))))))) (mNil)))))))))
def F__law_parts_right : MF := defM 7 m__law_parts_right
abbrev N__law_tables_right : List Str := ["_law_a", "_law_b", "_law_cells", "_law_table", "_law_page", "_law_told"]
def m__law_tables_right : MS := mSeq (mSet 2 (mTup (aCons (mTup (aCons (mTup (aCons (mVar 0) (aCons (mVar 1) (aNil)))) (aCons (mTup (aCons (mBin mulD (mVar 1) (mC (.int 2))) (aNil))) (aNil)))) (aCons (mTup (aCons (mTup (aCons (mVar 1) (aNil))) (aCons (mTup (aNil)) (aNil)))) (aCons (mTup (aCons (mTup (aCons (mBin mulD (mVar 0) (mC (.int 2))) (aNil))) (aCons (mTup (aCons (mVar 0) (aCons (mVar 0) (aCons (mVar 1) (aNil))))) (aNil)))) (aNil)))))) (mSeq (mSet 3 (mTup (aCons (mC (.str "table")) (aCons (mVar 2) (aCons (mTup (aCons (mC (.int 2)) (aCons (mC (.int 3)) (aNil)))) (aCons (mTup (aCons (mC (.int 2)) (aNil))) (aNil))))))) (mSeq (mSet 4 (mTup (aCons (mBin addD (mBin addD (mBin addD (mVar 0) (mC (.str "   "))) (mBin mulD (mVar 1) (mC (.int 2)))) (mC (.str " "))) (aCons (mBin addD (mVar 1) (mBin mulD (mC (.str " ")) (mC (.int 6)))) (aCons (mBin addD (mVar 1) (mBin mulD (mC (.str " ")) (mC (.int 6)))) (aCons (mBin addD (mBin addD (mBin addD (mBin addD (mBin mulD (mVar 0) (mC (.int 2))) (mC (.str "  "))) (mVar 0)) (mC (.str " "))) (mVar 0)) (aCons (mBin addD (mBin addD (mC (.str "    ")) (mVar 1)) (mC (.str "  "))) (aNil)))))))) (mSeq (mIfS (tOrM (tVal (mBin neDD (mCallF 3 F__law_path (aCons (mTup (aCons (mC (.int 7)) (aCons (mVar 3) (aNil)))) (aCons (mC (.int 5)) (aCons (mC (.int 7)) (aNil))))) (mVar 4))) (tVal (mBin neDD (mCallF 3 F__law_path (aCons (mTup (aCons (mC (.int 7)) (aCons (mVar 3) (aNil)))) (aCons (mC (.int 4)) (aCons (mC (.int 7)) (aNil))))) (mTup (aNil))))) (mSeq (mRet (mC (.bool false))) (mNil)) (mNil)) (mSeq (mIfS (tVal (mBin neDD (mCallF 3 F__law_path (aCons (mTup (aCons (mC (.int 7)) (aCons (mTup (aCons (mC (.str "stack")) (aCons (mTup (aCons (mTup (aCons (mC (.str "text")) (aCons (mTup (aCons (mVar 0) (aNil))) (aNil)))) (aCons (mTup (aCons (mC (.str "table")) (aCons (mVar 2) (aCons (mTup (aCons (mC (.int 1)) (aCons (mC (.int 3)) (aNil)))) (aCons (mTup (aCons (mC (.int 3)) (aNil))) (aNil)))))) (aNil)))) (aCons (mTup (aCons (mC (.int 1)) (aNil))) (aNil))))) (aNil)))) (aCons (mC (.int 9)) (aCons (mC (.int 9)) (aNil))))) (mTup (aCons (mC (.int 1)) (aNil))))) (mSeq (mRet (mC (.bool false))) (mNil)) (mNil)) (mSeq (mSet 5 (mLst (aCons (mCallF 1 F_is_box (aCons (mVar 3) (aNil))) (aCons (mCallF 1 F_is_document (aCons (mTup (aCons (mC (.int 7)) (aCons (mVar 3) (aNil)))) (aNil))) (aCons (mCallF 1 F_is_box (aCons (mTup (aCons (mC (.int 7)) (aCons (mVar 3) (aNil)))) (aNil))) (aCons (mCallF 1 F_is_document (aCons (mVar 3) (aNil))) (aNil))))))) (mSeq (mIfS (tVal (mBin neDD (mVar 5) (mLst (aCons (mC (.bool true)) (aCons (mC (.bool true)) (aCons (mC (.bool false)) (aCons (mC (.bool false)) (aNil)))))))) (mSeq (mRet (mC (.bool false))) (mNil)) (mNil)) (mSeq (mRet (mBin eqDD (mValX (mCallX 1 F_reading (aCons (mTup (aCons (mC (.int 7)) (aCons (mVar 3) (aNil)))) (aNil)))) (mTup (aCons (mVar 0) (aCons (mVar 1) (aCons (mBin mulD (mVar 1) (mC (.int 2))) (aCons (mVar 1) (aCons (mBin mulD (mVar 0) (mC (.int 2))) (aCons (mVar 0) (aCons (mVar 0) (aCons (mVar 1) (aNil)))))))))))) (mNil))))))))
def F__law_tables_right : MF := defM 6 m__law_tables_right
abbrev N_law : List Str := ["_law_script", "_law_k", "_law_pot_here", "_law_turn", "_law_a", "_law_b"]
def B1_law : MS := mSeq (mPar [4, 5] (xsCons (mV (mCallF 2 F__law_of (aCons (mVar 2) (aCons (mC (.str "abcxyz")) (aNil))))) (xsCons (mV (mCallF 2 F__law_of (aCons (mVar 2) (aCons (mC (.str "abcxyz")) (aNil))))) (xsNil)))) (mSeq (mIfS (tOrM (tNotM (tVal (mCallF 2 F__law_texts_right (aCons (mVar 4) (aCons (mVar 5) (aNil)))))) (tNotM (tVal (mCallF 2 F__law_runs_right (aCons (mVar 4) (aCons (mVar 5) (aNil))))))) (mSeq (mRet (mC (.bool false))) (mNil)) (mNil)) (mSeq (mIfS (tOrM (tNotM (tVal (mCallF 2 F__law_parts_right (aCons (mVar 4) (aCons (mVar 5) (aNil)))))) (tNotM (tVal (mCallF 2 F__law_tables_right (aCons (mVar 4) (aCons (mVar 5) (aNil))))))) (mSeq (mRet (mC (.bool false))) (mNil)) (mNil)) (mNil)))
def L2_law : MS := mFor (mRng1 (aCons (mC (.int 6)) (aNil))) (gSet 3) (B1_law)
def B3_law : MS := mSeq (mSetX 2 (mCallC 2 F__law_pot (aCons (mVar 0) (aCons (mVar 1) (aNil))))) (mSeq (L2_law) (mNil))
def L4_law : MS := mFor (mRng1 (aCons (mCall max2F (aCons (mC (.int 1)) (aCons (mCall min2F (aCons (mC (.int 3)) (aCons (mLenS (mVar 0)) (aNil)))) (aNil)))) (aNil))) (gSet 1) (B3_law)
def m_law : MS := mSeq (L4_law) (mSeq (mRet (mC (.bool true))) (mNil))
def F_law : MF := defM 6 m_law
structure DefR (K : PySem.W.Frag) (mg : Str → Option Value) (x : Str) (st : Stmt) (f : Addr) (fd : FuncData) (ps : List Str) : Prop where
  fn : Fun K x x st f fd
  mgf : mg x = some (.ref f)
  b : Binds K fd ps []
  kb : KB K fd ps
structure AllD (P : Program) (K : PySem.W.Frag) (mg : Str → Option Value) (f__law_pot f__law_take f__law_of f_is_integer f_is_size f_is_word f_are_words f_is_text f_are_sizes f_are_strips f_is_running f_are_cells f_is_table f_is_box f_is_stack f_are_parts f_are_columns f_is_document f_check_document f_row_width f_filled f_filled_in f_check_strips f_places_of f_running_spots f_moved f_table_spots f_spots_of f_stack_spots f_column_spots f_drawn f_set_on f__law_path f__law_texts_right f__law_runs_right f_placed f_words_of f_reading f__law_parts_right f__law_tables_right f_law : Addr) (fd__law_pot fd__law_take fd__law_of fd_is_integer fd_is_size fd_is_word fd_are_words fd_is_text fd_are_sizes fd_are_strips fd_is_running fd_are_cells fd_is_table fd_is_box fd_is_stack fd_are_parts fd_are_columns fd_is_document fd_check_document fd_row_width fd_filled fd_filled_in fd_check_strips fd_places_of fd_running_spots fd_moved fd_table_spots fd_spots_of fd_stack_spots fd_column_spots fd_drawn fd_set_on fd__law_path fd__law_texts_right fd__law_runs_right fd_placed fd_words_of fd_reading fd__law_parts_right fd__law_tables_right fd_law : FuncData) (C_BadDocument C_CannotSet C_BadSize I_BadDocument I_CannotSet I_BadSize : Addr) (t_BLANK t_COLUMNS t_LEAST_PARTS t_LEAST_ROWS t_LEAST_WIDTHS t_LETTERS t_MOST_WIDTHS t_PAIR t_QUADRUPLE t_QUINTUPLE t_RUNNING t_STACK t_TABLE t_TEXT t_TRIPLE : Tok) : Prop where
  d__law_pot : DefR K mg "_law_pot" s__law_pot f__law_pot fd__law_pot ["_law_script", "_law_k"]
  d__law_take : DefR K mg "_law_take" s__law_take f__law_take fd__law_take ["_law_pot_here", "_law_upto"]
  d__law_of : DefR K mg "_law_of" s__law_of f__law_of fd__law_of ["_law_pot_here", "_law_some"]
  d_is_integer : DefR K mg "is_integer" s_is_integer f_is_integer fd_is_integer ["value"]
  d_is_size : DefR K mg "is_size" s_is_size f_is_size fd_is_size ["value"]
  d_is_word : DefR K mg "is_word" s_is_word f_is_word fd_is_word ["value"]
  d_are_words : DefR K mg "are_words" s_are_words f_are_words fd_are_words ["value", "least"]
  d_is_text : DefR K mg "is_text" s_is_text f_is_text fd_is_text ["value"]
  d_are_sizes : DefR K mg "are_sizes" s_are_sizes f_are_sizes fd_are_sizes ["value", "many"]
  d_are_strips : DefR K mg "are_strips" s_are_strips f_are_strips fd_are_strips ["widths", "gaps"]
  d_is_running : DefR K mg "is_running" s_is_running f_is_running fd_is_running ["value"]
  d_are_cells : DefR K mg "are_cells" s_are_cells f_are_cells fd_are_cells ["value", "many"]
  d_is_table : DefR K mg "is_table" s_is_table f_is_table fd_is_table ["value"]
  d_is_box : DefR K mg "is_box" s_is_box f_is_box fd_is_box ["value"]
  d_is_stack : DefR K mg "is_stack" s_is_stack f_is_stack fd_is_stack ["value"]
  d_are_parts : DefR K mg "are_parts" s_are_parts f_are_parts fd_are_parts ["value", "kind"]
  d_are_columns : DefR K mg "are_columns" s_are_columns f_are_columns fd_are_columns ["value"]
  d_is_document : DefR K mg "is_document" s_is_document f_is_document fd_is_document ["value"]
  d_check_document : DefR K mg "check_document" s_check_document f_check_document fd_check_document ["value"]
  d_row_width : DefR K mg "row_width" s_row_width f_row_width fd_row_width ["widths", "rows", "number"]
  d_filled : DefR K mg "filled" s_filled f_filled fd_filled ["words", "widths", "rows"]
  d_filled_in : DefR K mg "filled_in" s_filled_in f_filled_in fd_filled_in ["words", "width", "path"]
  d_check_strips : DefR K mg "check_strips" s_check_strips f_check_strips fd_check_strips ["widths", "gaps", "width", "path"]
  d_places_of : DefR K mg "places_of" s_places_of f_places_of fd_places_of ["widths", "gaps"]
  d_running_spots : DefR K mg "running_spots" s_running_spots f_running_spots fd_running_spots ["box", "width", "path"]
  d_moved : DefR K mg "moved" s_moved f_moved fd_moved ["spots", "rows", "places"]
  d_table_spots : DefR K mg "table_spots" s_table_spots f_table_spots fd_table_spots ["box", "width", "path"]
  d_spots_of : DefR K mg "spots_of" s_spots_of f_spots_of fd_spots_of ["box", "width", "path"]
  d_stack_spots : DefR K mg "stack_spots" s_stack_spots f_stack_spots fd_stack_spots ["box", "width", "path"]
  d_column_spots : DefR K mg "column_spots" s_column_spots f_column_spots fd_column_spots ["box", "width", "path"]
  d_drawn : DefR K mg "drawn" s_drawn f_drawn fd_drawn ["spots", "rows", "width"]
  d_set_on : DefR K mg "set_on" s_set_on f_set_on fd_set_on ["document", "rows", "places"]
  d__law_path : DefR K mg "_law_path" s__law_path f__law_path fd__law_path ["_law_paper", "_law_high", "_law_wide"]
  d__law_texts_right : DefR K mg "_law_texts_right" s__law_texts_right f__law_texts_right fd__law_texts_right ["_law_a", "_law_b"]
  d__law_runs_right : DefR K mg "_law_runs_right" s__law_runs_right f__law_runs_right fd__law_runs_right ["_law_a", "_law_b"]
  d_placed : DefR K mg "placed" s_placed f_placed fd_placed ["document"]
  d_words_of : DefR K mg "words_of" s_words_of f_words_of fd_words_of ["box"]
  d_reading : DefR K mg "reading" s_reading f_reading fd_reading ["document"]
  d__law_parts_right : DefR K mg "_law_parts_right" s__law_parts_right f__law_parts_right fd__law_parts_right ["_law_a", "_law_b"]
  d__law_tables_right : DefR K mg "_law_tables_right" s__law_tables_right f__law_tables_right fd__law_tables_right ["_law_a", "_law_b"]
  d_law : DefR K mg "law" s_law f_law fd_law ["_law_script"]
  b_abs : mg "abs" = none
  b_all : mg "all" = none
  b_any : mg "any" = none
  b_bool : mg "bool" = none
  b_enumerate : mg "enumerate" = none
  b_int : mg "int" = none
  b_isinstance : mg "isinstance" = none
  b_len : mg "len" = none
  b_list : mg "list" = none
  b_max : mg "max" = none
  b_min : mg "min" = none
  b_range : mg "range" = none
  b_str : mg "str" = none
  b_sum : mg "sum" = none
  b_super : mg "super" = none
  b_tuple : mg "tuple" = none
  b_zip : mg "zip" = none
  c_BLANK : mg "BLANK" = some (.str " " t_BLANK)
  c_COLUMNS : mg "COLUMNS" = some (.str "columns" t_COLUMNS)
  c_LEAST_PARTS : mg "LEAST_PARTS" = some (.int 2 t_LEAST_PARTS)
  c_LEAST_ROWS : mg "LEAST_ROWS" = some (.int 2 t_LEAST_ROWS)
  c_LEAST_WIDTHS : mg "LEAST_WIDTHS" = some (.int 2 t_LEAST_WIDTHS)
  c_LETTERS : mg "LETTERS" = some (.str "abcdefghijklmnopqrstuvwxyz" t_LETTERS)
  c_MOST_WIDTHS : mg "MOST_WIDTHS" = some (.int 4 t_MOST_WIDTHS)
  c_PAIR : mg "PAIR" = some (.int 2 t_PAIR)
  c_QUADRUPLE : mg "QUADRUPLE" = some (.int 4 t_QUADRUPLE)
  c_QUINTUPLE : mg "QUINTUPLE" = some (.int 5 t_QUINTUPLE)
  c_RUNNING : mg "RUNNING" = some (.str "running" t_RUNNING)
  c_STACK : mg "STACK" = some (.str "stack" t_STACK)
  c_TABLE : mg "TABLE" = some (.str "table" t_TABLE)
  c_TEXT : mg "TEXT" = some (.str "text" t_TEXT)
  c_TRIPLE : mg "TRIPLE" = some (.int 3 t_TRIPLE)
  h_BadDocument : mg "BadDocument" = some (.ref C_BadDocument)
  h_CannotSet : mg "CannotSet" = some (.ref C_CannotSet)
  h_BadSize : mg "BadSize" = some (.ref C_BadSize)
  x_BadDocument : VX.XTxt P K mg "BadDocument" "value" C_BadDocument I_BadDocument
  x_CannotSet : VX.XTxt P K mg "CannotSet" "path" C_CannotSet I_CannotSet
  x_BadSize : VX.XTxt P K mg "BadSize" "value" C_BadSize I_BadSize
  hs_CannotSet : KX K (fun C b => PySem.W.exmOne K (.ref C) (.ref C_CannotSet) = some b) [("BadDocument", false), ("CannotSet", true), ("BadSize", false)]
  fld_path : KX K (fun C b => XfC K C ∧ PySem.W.findIn K (.ref C) "path" = some none) [("BadDocument", false), ("CannotSet", true), ("BadSize", false)]
section
variable {P : Program} {w : World} {K : PySem.W.Frag} {mg : Str → Option Value} {base : Heap} {f__law_pot f__law_take f__law_of f_is_integer f_is_size f_is_word f_are_words f_is_text f_are_sizes f_are_strips f_is_running f_are_cells f_is_table f_is_box f_is_stack f_are_parts f_are_columns f_is_document f_check_document f_row_width f_filled f_filled_in f_check_strips f_places_of f_running_spots f_moved f_table_spots f_spots_of f_stack_spots f_column_spots f_drawn f_set_on f__law_path f__law_texts_right f__law_runs_right f_placed f_words_of f_reading f__law_parts_right f__law_tables_right f_law : Addr} {fd__law_pot fd__law_take fd__law_of fd_is_integer fd_is_size fd_is_word fd_are_words fd_is_text fd_are_sizes fd_are_strips fd_is_running fd_are_cells fd_is_table fd_is_box fd_is_stack fd_are_parts fd_are_columns fd_is_document fd_check_document fd_row_width fd_filled fd_filled_in fd_check_strips fd_places_of fd_running_spots fd_moved fd_table_spots fd_spots_of fd_stack_spots fd_column_spots fd_drawn fd_set_on fd__law_path fd__law_texts_right fd__law_runs_right fd_placed fd_words_of fd_reading fd__law_parts_right fd__law_tables_right fd_law : FuncData} {C_BadDocument C_CannotSet C_BadSize I_BadDocument I_CannotSet I_BadSize : Addr} {t_BLANK t_COLUMNS t_LEAST_PARTS t_LEAST_ROWS t_LEAST_WIDTHS t_LETTERS t_MOST_WIDTHS t_PAIR t_QUADRUPLE t_QUINTUPLE t_RUNNING t_STACK t_TABLE t_TEXT t_TRIPLE : Tok}
variable (T : AllD P K mg f__law_pot f__law_take f__law_of f_is_integer f_is_size f_is_word f_are_words f_is_text f_are_sizes f_are_strips f_is_running f_are_cells f_is_table f_is_box f_is_stack f_are_parts f_are_columns f_is_document f_check_document f_row_width f_filled f_filled_in f_check_strips f_places_of f_running_spots f_moved f_table_spots f_spots_of f_stack_spots f_column_spots f_drawn f_set_on f__law_path f__law_texts_right f__law_runs_right f_placed f_words_of f_reading f__law_parts_right f__law_tables_right f_law fd__law_pot fd__law_take fd__law_of fd_is_integer fd_is_size fd_is_word fd_are_words fd_is_text fd_are_sizes fd_are_strips fd_is_running fd_are_cells fd_is_table fd_is_box fd_is_stack fd_are_parts fd_are_columns fd_is_document fd_check_document fd_row_width fd_filled fd_filled_in fd_check_strips fd_places_of fd_running_spots fd_moved fd_table_spots fd_spots_of fd_stack_spots fd_column_spots fd_drawn fd_set_on fd__law_path fd__law_texts_right fd__law_runs_right fd_placed fd_words_of fd_reading fd__law_parts_right fd__law_tables_right fd_law C_BadDocument C_CannotSet C_BadSize I_BadDocument I_CannotSet I_BadSize t_BLANK t_COLUMNS t_LEAST_PARTS t_LEAST_ROWS t_LEAST_WIDTHS t_LETTERS t_MOST_WIDTHS t_PAIR t_QUADRUPLE t_QUINTUPLE t_RUNNING t_STACK t_TABLE t_TEXT t_TRIPLE)
theorem sc__law_pot : FnScope N__law_pot ["_law_script", "_law_k"] (defScope s__law_pot) := ⟨rfl, rfl, rfl, by decide +kernel, rfl, by decide +kernel, by decide +kernel⟩
include T in
theorem g__law_pot : FnG P w K mg base CX0 1 f__law_pot fd__law_pot ["_law_script", "_law_k"] (spC K 2 F__law_pot) :=
  have nd : N__law_pot.Nodup := sc__law_pot.nd
  jfC T.d__law_pot.fn sc__law_pot (by decide) fun cdv A outer s H E gd hr =>
    jc_cons (js_set 2 nd (je_if (jt_lt (je_var 1) (je_lenS T.b_len (je_var 0))) (je_ixS (je_var 0) (je_var 1)) (je_add (je_mul (je_int) (je_var 1)) (je_int)))) (jc_cons (js_set 3 nd (je_mul (je_mod (je_toint T.b_int (ja_cons (je_abs T.b_abs (ja_cons (je_var 2) (ja_nil))) (ja_nil))) (je_pow (je_pow (je_int) (je_int)) (je_int))) (je_toint T.b_int (ja_cons (je_ge (je_abs T.b_abs (ja_cons (je_var 2) (ja_nil))) (je_pow (je_int) (je_int))) (ja_nil))))) (jc_ret (jx_lst (ja_cons (je_var 3) (ja_cons (je_mod (je_toint T.b_int (ja_cons (je_add (je_add (je_mul (je_mod (je_toint T.b_int (ja_cons (je_var 2) (ja_nil))) (je_int)) (je_int)) (je_mul (je_mul (je_int) (je_var 1)) (je_var 1))) (je_int)) (ja_nil))) (je_int)) (ja_cons (je_int) (ja_nil)))))))
theorem sc__law_take : FnScope N__law_take ["_law_pot_here", "_law_upto"] (defScope s__law_take) := ⟨rfl, rfl, rfl, by decide +kernel, rfl, by decide +kernel, by decide +kernel⟩
include T in
theorem g__law_take : FnG P w K mg base CX0 1 f__law_take fd__law_take ["_law_pot_here", "_law_upto"] (spM K 2 F__law_take) :=
  have nd : N__law_take.Nodup := sc__law_take.nd
  jf T.d__law_take.fn sc__law_take (by decide) fun cdv A outer s H E gd hr =>
    jb_cons (js_if (jt_gt (je_ix (je_var 0) (je_int)) (je_int)) (jb_cons (js_set 2 nd (je_mod (je_toint T.b_int (ja_cons (je_ix (je_var 0) (je_int)) (ja_nil))) (je_var 1))) (jb_cons (js_put 0 (je_fdiv (je_ix (je_var 0) (je_int)) (je_var 1)) (je_int)) (jb_cons (js_ret (je_var 2)) (jb_nil)))) (jb_nil)) (jb_cons (js_put 0 (je_add (je_ix (je_var 0) (je_int)) (je_int)) (je_int)) (jb_cons (js_set 3 nd (je_ix (je_lst (ja_cons (je_int) (ja_cons (je_int) (ja_cons (je_int) (ja_cons (je_int) (ja_cons (je_int) (ja_nil))))))) (je_mod (je_toint T.b_int (ja_cons (je_ix (je_var 0) (je_int)) (ja_nil))) (je_int)))) (jb_cons (js_set 4 nd (je_mod (je_toint T.b_int (ja_cons (je_pow (je_toint T.b_int (ja_cons (je_add (je_add (je_ix (je_var 0) (je_int)) (je_mul (je_mul (je_int) (je_ix (je_var 0) (je_int))) (je_ix (je_var 0) (je_int)))) (je_int)) (ja_nil))) (je_int)) (ja_nil))) (je_var 3))) (jb_cons (js_set 4 nd (je_mod (je_toint T.b_int (ja_cons (je_mul (je_var 4) (je_add (je_mod (je_toint T.b_int (ja_cons (je_var 4) (ja_nil))) (je_int)) (je_mul (je_int) (je_ix (je_var 0) (je_int))))) (ja_nil))) (je_int))) (jb_cons (js_ret (je_mod (je_toint T.b_int (ja_cons (je_fdiv (je_var 4) (je_int)) (ja_nil))) (je_var 1))) (jb_nil))))))
theorem sc__law_of : FnScope N__law_of ["_law_pot_here", "_law_some"] (defScope s__law_of) := ⟨rfl, rfl, rfl, by decide +kernel, rfl, by decide +kernel, by decide +kernel⟩
include T in
theorem g__law_of : FnG P w K mg base CX0 2 f__law_of fd__law_of ["_law_pot_here", "_law_some"] (spM K 2 F__law_of) :=
  have nd : N__law_of.Nodup := sc__law_of.nd
  jf T.d__law_of.fn sc__law_of (by decide) fun cdv A outer s H E gd hr =>
    jb_cons (js_ret (je_ix (je_var 1) (je_callF (g__law_take T) gd (hr.mono (by decide)) T.d__law_take.mgf T.d__law_take.fn.kp T.d__law_take.b (ja_cons (je_var 0) (ja_cons (je_len T.b_len (ja_cons (je_var 1) (ja_nil))) (ja_nil)))))) (jb_nil)
theorem sc_is_integer : FnScope N_is_integer ["value"] (defScope s_is_integer) := ⟨rfl, rfl, rfl, by decide +kernel, rfl, by decide +kernel, by decide +kernel⟩
include T in
theorem g_is_integer : FnG P w K mg base CX0 1 f_is_integer fd_is_integer ["value"] (spM K 1 F_is_integer) :=
  have nd : N_is_integer.Nodup := sc_is_integer.nd
  jf T.d_is_integer.fn sc_is_integer (by decide) fun cdv A outer s H E gd hr =>
    jb_cons (js_ret (je_and (je_isi "int" T.b_isinstance T.b_int (by decide +kernel) (je_var 0)) (je_one (je_not (je_isi "bool" T.b_isinstance T.b_bool (by decide +kernel) (je_var 0)))))) (jb_nil)
theorem sc_is_size : FnScope N_is_size ["value"] (defScope s_is_size) := ⟨rfl, rfl, rfl, by decide +kernel, rfl, by decide +kernel, by decide +kernel⟩
include T in
theorem g_is_size : FnG P w K mg base CX0 2 f_is_size fd_is_size ["value"] (spM K 1 F_is_size) :=
  have nd : N_is_size.Nodup := sc_is_size.nd
  jf T.d_is_size.fn sc_is_size (by decide) fun cdv A outer s H E gd hr =>
    jb_cons (js_ret (je_and (je_callF (g_is_integer T) gd (hr.mono (by decide)) T.d_is_integer.mgf T.d_is_integer.fn.kp T.d_is_integer.b (ja_cons (je_var 0) (ja_nil))) (je_one (je_ge (je_var 0) (je_int))))) (jb_nil)
theorem sc_is_word : FnScope N_is_word ["value"] (defScope s_is_word) := ⟨rfl, rfl, rfl, by decide +kernel, rfl, by decide +kernel, by decide +kernel⟩
include T in
theorem g_is_word : FnG P w K mg base CX0 1 f_is_word fd_is_word ["value"] (spM K 1 F_is_word) :=
  have nd : N_is_word.Nodup := sc_is_word.nd
  jf T.d_is_word.fn sc_is_word (by decide) fun cdv A outer s H E gd hr =>
    jb_cons (js_ret (je_and (je_isi "str" T.b_isinstance T.b_str (by decide +kernel) (je_var 0)) (je_and (je_ne hr (je_var 0) (je_str)) (je_one (je_all rfl T.b_all (ja_cons (je_tell (jx_lc rfl nd (ji_any (je_var 0)) (own := [("sign", 1)]) (blkOk_by (by kernel_rfl)) (fun _ _ _ _ _ => jg_name 1 nd) (fun _ _ _ _ _ => jts_nil) (fun _ _ _ _ _ => je_inA (je_var 1) (je_gstr T.c_LETTERS)))) (ja_nil))))))) (jb_nil)
theorem sc_are_words : FnScope N_are_words ["value", "least"] (defScope s_are_words) := ⟨rfl, rfl, rfl, by decide +kernel, rfl, by decide +kernel, by decide +kernel⟩
include T in
theorem g_are_words : FnG P w K mg base CX0 2 f_are_words fd_are_words ["value", "least"] (spM K 2 F_are_words) :=
  have nd : N_are_words.Nodup := sc_are_words.nd
  jf T.d_are_words.fn sc_are_words (by decide) fun cdv A outer s H E gd hr =>
    jb_cons (js_ret (je_and (je_isi "tuple" T.b_isinstance T.b_tuple (by decide +kernel) (je_var 0)) (je_and (je_ge (je_len T.b_len (ja_cons (je_var 0) (ja_nil))) (je_var 1)) (je_one (je_all rfl T.b_all (ja_cons (je_tell (jx_lc rfl nd (ji_any (je_var 0)) (own := [("one", 2)]) (blkOk_by (by kernel_rfl)) (fun _ _ _ _ _ => jg_name 2 nd) (fun _ _ _ _ _ => jts_nil) (fun _ _ _ _ _ => je_callF (g_is_word T) gd (hr.mono (by decide)) T.d_is_word.mgf T.d_is_word.fn.kp T.d_is_word.b (ja_cons (je_var 2) (ja_nil))))) (ja_nil))))))) (jb_nil)
theorem sc_is_text : FnScope N_is_text ["value"] (defScope s_is_text) := ⟨rfl, rfl, rfl, by decide +kernel, rfl, by decide +kernel, by decide +kernel⟩
include T in
theorem g_is_text : FnG P w K mg base CX0 3 f_is_text fd_is_text ["value"] (spM K 1 F_is_text) :=
  have nd : N_is_text.Nodup := sc_is_text.nd
  jf T.d_is_text.fn sc_is_text (by decide) fun cdv A outer s H E gd hr =>
    jb_cons (js_ret (je_and (je_eq hr (je_len T.b_len (ja_cons (je_var 0) (ja_nil))) (je_gint T.c_PAIR)) (je_one (je_callF (g_are_words T) gd (hr.mono (by decide)) T.d_are_words.mgf T.d_are_words.fn.kp T.d_are_words.b (ja_cons (je_ix (je_var 0) (je_int)) (ja_cons (je_int) (ja_nil))))))) (jb_nil)
theorem sc_are_sizes : FnScope N_are_sizes ["value", "many"] (defScope s_are_sizes) := ⟨rfl, rfl, rfl, by decide +kernel, rfl, by decide +kernel, by decide +kernel⟩
include T in
theorem g_are_sizes : FnG P w K mg base CX0 3 f_are_sizes fd_are_sizes ["value", "many"] (spM K 2 F_are_sizes) :=
  have nd : N_are_sizes.Nodup := sc_are_sizes.nd
  jf T.d_are_sizes.fn sc_are_sizes (by decide) fun cdv A outer s H E gd hr =>
    jb_cons (js_ret (je_and (je_isi "tuple" T.b_isinstance T.b_tuple (by decide +kernel) (je_var 0)) (je_and (je_eq hr (je_len T.b_len (ja_cons (je_var 0) (ja_nil))) (je_var 1)) (je_one (je_all rfl T.b_all (ja_cons (je_tell (jx_lc rfl nd (ji_any (je_var 0)) (own := [("one", 2)]) (blkOk_by (by kernel_rfl)) (fun _ _ _ _ _ => jg_name 2 nd) (fun _ _ _ _ _ => jts_nil) (fun _ _ _ _ _ => je_callF (g_is_size T) gd (hr.mono (by decide)) T.d_is_size.mgf T.d_is_size.fn.kp T.d_is_size.b (ja_cons (je_var 2) (ja_nil))))) (ja_nil))))))) (jb_nil)
theorem sc_are_strips : FnScope N_are_strips ["widths", "gaps"] (defScope s_are_strips) := ⟨rfl, rfl, rfl, by decide +kernel, rfl, by decide +kernel, by decide +kernel⟩
include T in
theorem g_are_strips : FnG P w K mg base CX0 4 f_are_strips fd_are_strips ["widths", "gaps"] (spM K 2 F_are_strips) :=
  have nd : N_are_strips.Nodup := sc_are_strips.nd
  jf T.d_are_strips.fn sc_are_strips (by decide) fun cdv A outer s H E gd hr =>
    jb_cons (js_if (JW.jt (jw_or (jt_not (jt_val (je_isi "tuple" T.b_isinstance T.b_tuple (by decide +kernel) (je_var 0)))) (jw_or1 (jt_not (jt_chain op_leA ops_le op_leA ops_le (je_gint T.c_LEAST_WIDTHS) (je_len T.b_len (ja_cons (je_var 0) (ja_nil))) (je_gint T.c_MOST_WIDTHS)))))) (jb_cons (js_ret (je_bl)) (jb_nil)) (jb_nil)) (jb_cons (js_ret (je_and (je_callF (g_are_sizes T) gd (hr.mono (by decide)) T.d_are_sizes.mgf T.d_are_sizes.fn.kp T.d_are_sizes.b (ja_cons (je_var 0) (ja_cons (je_len T.b_len (ja_cons (je_var 0) (ja_nil))) (ja_nil)))) (je_one (je_callF (g_are_sizes T) gd (hr.mono (by decide)) T.d_are_sizes.mgf T.d_are_sizes.fn.kp T.d_are_sizes.b (ja_cons (je_var 1) (ja_cons (je_sub (je_len T.b_len (ja_cons (je_var 0) (ja_nil))) (je_int)) (ja_nil))))))) (jb_nil))
theorem sc_is_running : FnScope N_is_running ["value"] (defScope s_is_running) := ⟨rfl, rfl, rfl, by decide +kernel, rfl, by decide +kernel, by decide +kernel⟩
include T in
theorem g_is_running : FnG P w K mg base CX0 5 f_is_running fd_is_running ["value"] (spM K 1 F_is_running) :=
  have nd : N_is_running.Nodup := sc_is_running.nd
  jf T.d_is_running.fn sc_is_running (by decide) fun cdv A outer s H E gd hr =>
    jb_cons (js_if (JW.jt (jw_or (jt_ne hr (je_len T.b_len (ja_cons (je_var 0) (ja_nil))) (je_gint T.c_QUINTUPLE)) (jw_or (jt_not (jt_val (je_callF (g_are_words T) gd (hr.mono (by decide)) T.d_are_words.mgf T.d_are_words.fn.kp T.d_are_words.b (ja_cons (je_ix (je_var 0) (je_int)) (ja_cons (je_int) (ja_nil)))))) (jw_or1 (jt_not (jt_val (je_callF (g_are_strips T) gd (hr.mono (by decide)) T.d_are_strips.mgf T.d_are_strips.fn.kp T.d_are_strips.b (ja_cons (je_ix (je_var 0) (je_int)) (ja_cons (je_ix (je_var 0) (je_int)) (ja_nil)))))))))) (jb_cons (js_ret (je_bl)) (jb_nil)) (jb_nil)) (jb_cons (js_ret (je_and (je_callF (g_is_integer T) gd (hr.mono (by decide)) T.d_is_integer.mgf T.d_is_integer.fn.kp T.d_is_integer.b (ja_cons (je_ix (je_var 0) (je_int)) (ja_nil))) (je_one (je_ge (je_ix (je_var 0) (je_int)) (je_gint T.c_LEAST_ROWS))))) (jb_nil))
theorem sc_are_cells : FnScope N_are_cells ["value", "many"] (defScope s_are_cells) := ⟨rfl, rfl, rfl, by decide +kernel, rfl, by decide +kernel, by decide +kernel⟩
include T in
theorem g_are_cells : FnG P w K mg base CX0 3 f_are_cells fd_are_cells ["value", "many"] (spM K 2 F_are_cells) :=
  have nd : N_are_cells.Nodup := sc_are_cells.nd
  jf T.d_are_cells.fn sc_are_cells (by decide) fun cdv A outer s H E gd hr =>
    jb_cons (js_if (JW.jt (jw_or (jt_not (jt_val (je_isi "tuple" T.b_isinstance T.b_tuple (by decide +kernel) (je_var 0)))) (jw_or1 (jt_ne hr (je_len T.b_len (ja_cons (je_var 0) (ja_nil))) (je_var 1))))) (jb_cons (js_ret (je_bl)) (jb_nil)) (jb_nil)) (jb_cons (js_ret (je_and (je_all rfl T.b_all (ja_cons (je_tell (jx_lc rfl nd (ji_any (je_var 0)) (own := [("cell", 2)]) (blkOk_by (by kernel_rfl)) (fun _ _ _ _ _ => jg_name 2 nd) (fun _ _ _ _ _ => jts_nil) (fun _ _ _ _ _ => je_callF (g_are_words T) gd (hr.mono (by decide)) T.d_are_words.mgf T.d_are_words.fn.kp T.d_are_words.b (ja_cons (je_var 2) (ja_cons (je_int) (ja_nil)))))) (ja_nil))) (je_one (je_ne hr (je_ix (je_var 0) (je_int)) (je_tup (ja_nil)))))) (jb_nil))
theorem sc_is_table : FnScope N_is_table ["value"] (defScope s_is_table) := ⟨rfl, rfl, rfl, by decide +kernel, rfl, by decide +kernel, by decide +kernel⟩
include T in
theorem g_is_table : FnG P w K mg base CX0 5 f_is_table fd_is_table ["value"] (spM K 1 F_is_table) :=
  have nd : N_is_table.Nodup := sc_is_table.nd
  jf T.d_is_table.fn sc_is_table (by decide) fun cdv A outer s H E gd hr =>
    jb_cons (js_if (JW.jt (jw_or (jt_ne hr (je_len T.b_len (ja_cons (je_var 0) (ja_nil))) (je_gint T.c_QUADRUPLE)) (jw_or1 (jt_not (jt_val (je_callF (g_are_strips T) gd (hr.mono (by decide)) T.d_are_strips.mgf T.d_are_strips.fn.kp T.d_are_strips.b (ja_cons (je_ix (je_var 0) (je_int)) (ja_cons (je_ix (je_var 0) (je_int)) (ja_nil))))))))) (jb_cons (js_ret (je_bl)) (jb_nil)) (jb_nil)) (jb_cons (js_unp (je_tup (ja_cons (je_ix (je_var 0) (je_int)) (ja_cons (je_len T.b_len (ja_cons (je_ix (je_var 0) (je_int)) (ja_nil))) (ja_nil)))) (jg_tup rfl (jgs_cons (jg_name 1 nd) (jgs_cons (jg_name 2 nd) (jgs_nil))))) (jb_cons (js_if (JW.jt (jw_or (jt_not (jt_val (je_isi "tuple" T.b_isinstance T.b_tuple (by decide +kernel) (je_var 1)))) (jw_or (jt_lt (je_len T.b_len (ja_cons (je_var 1) (ja_nil))) (je_gint T.c_LEAST_ROWS)) (jw_or1 (jt_not (jt_val (je_all rfl T.b_all (ja_cons (je_tell (jx_lc rfl nd (ji_any (je_var 1)) (own := [("row", 3)]) (blkOk_by (by kernel_rfl)) (fun _ _ _ _ _ => jg_name 3 nd) (fun _ _ _ _ _ => jts_nil) (fun _ _ _ _ _ => je_callF (g_are_cells T) gd (hr.mono (by decide)) T.d_are_cells.mgf T.d_are_cells.fn.kp T.d_are_cells.b (ja_cons (je_var 3) (ja_cons (je_var 2) (ja_nil)))))) (ja_nil))))))))) (jb_cons (js_ret (je_bl)) (jb_nil)) (jb_nil)) (jb_cons (js_ret (je_all rfl T.b_all (ja_cons (je_tell (jx_lc rfl nd (ji_rng1 T.b_range (ja_cons (je_var 2) (ja_nil))) (own := [("at", 4)]) (blkOk_by (by kernel_rfl)) (fun _ _ _ _ _ => jg_name 4 nd) (fun _ _ _ _ _ => jts_nil) (fun _ _ _ _ _ => je_any rfl T.b_any (ja_cons (je_tell (jx_lc rfl nd (ji_any (je_var 1)) (own := [("row", 3)]) (blkOk_by (by kernel_rfl)) (fun _ _ _ _ _ => jg_name 3 nd) (fun _ _ _ _ _ => jts_nil) (fun _ _ _ _ _ => je_ne hr (je_ix (je_var 3) (je_var 4)) (je_tup (ja_nil))))) (ja_nil))))) (ja_nil)))) (jb_nil))))
theorem sc_is_box : FnScope N_is_box ["value"] (defScope s_is_box) := ⟨rfl, rfl, rfl, by decide +kernel, rfl, by decide +kernel, by decide +kernel⟩
theorem sc_is_stack : FnScope N_is_stack ["value"] (defScope s_is_stack) := ⟨rfl, rfl, rfl, by decide +kernel, rfl, by decide +kernel, by decide +kernel⟩
theorem sc_are_parts : FnScope N_are_parts ["value", "kind"] (defScope s_are_parts) := ⟨rfl, rfl, rfl, by decide +kernel, rfl, by decide +kernel, by decide +kernel⟩
theorem sc_are_columns : FnScope N_are_columns ["value"] (defScope s_are_columns) := ⟨rfl, rfl, rfl, by decide +kernel, rfl, by decide +kernel, by decide +kernel⟩
include T in
theorem gg_is_box : ∀ n : Nat, FnG P w K mg base CX0 (6 + n) f_is_box fd_is_box ["value"] (spM K 1 (Fr_is_box n)) ∧ FnG P w K mg base CX0 (6 + n) f_is_stack fd_is_stack ["value"] (spM K 1 (Fr_is_stack n)) ∧ FnG P w K mg base CX0 (6 + n) f_are_parts fd_are_parts ["value", "kind"] (spM K 2 (Fr_are_parts n)) ∧ FnG P w K mg base CX0 (6 + n) f_are_columns fd_are_columns ["value"] (spM K 1 (Fr_are_columns n))
  | 0 => ⟨fng_noneM, fng_noneM, fng_noneM, fng_noneM⟩
  | n + 1 => by
    obtain ⟨i_is_box, i_is_stack, i_are_parts, i_are_columns⟩ := gg_is_box n
    refine ⟨?_, ?_, ?_, ?_⟩
    · have nd : N_is_box.Nodup := sc_is_box.nd
      rw [Fr_is_box_succ]
      exact jf T.d_is_box.fn sc_is_box (by decide) fun cdv A outer s H E gd hr => jb_cons (js_if (JW.jt (jw_or (jt_not (jt_val (je_isi "tuple" T.b_isinstance T.b_tuple (by decide +kernel) (je_var 0)))) (jw_or (jt_eq hr (je_var 0) (je_tup (ja_nil))) (jw_or1 (jt_not (jt_val (je_isi "str" T.b_isinstance T.b_str (by decide +kernel) (je_ix (je_var 0) (je_int))))))))) (jb_cons (js_ret (je_bl)) (jb_nil)) (jb_nil)) (jb_cons (js_match (je_ix (je_var 0) (je_int)) (jmc_str hr (jb_cons (js_ret (je_callF (g_is_text T) gd (hr.mono (by try simp only [Nat.add_eq]; omega)) T.d_is_text.mgf T.d_is_text.fn.kp T.d_is_text.b (ja_cons (je_var 0) (ja_nil)))) (jb_nil)) (jmc_str hr (jb_cons (js_ret (je_callF (g_is_running T) gd (hr.mono (by try simp only [Nat.add_eq]; omega)) T.d_is_running.mgf T.d_is_running.fn.kp T.d_is_running.b (ja_cons (je_var 0) (ja_nil)))) (jb_nil)) (jmc_str hr (jb_cons (js_ret (je_callF (i_is_stack) gd (hr.mono (by try simp only [Nat.add_eq]; omega)) T.d_is_stack.mgf T.d_is_stack.fn.kp T.d_is_stack.b (ja_cons (je_var 0) (ja_nil)))) (jb_nil)) (jmc_str hr (jb_cons (js_ret (je_callF (i_are_columns) gd (hr.mono (by try simp only [Nat.add_eq]; omega)) T.d_are_columns.mgf T.d_are_columns.fn.kp T.d_are_columns.b (ja_cons (je_var 0) (ja_nil)))) (jb_nil)) (jmc_str hr (jb_cons (js_ret (je_callF (g_is_table T) gd (hr.mono (by try simp only [Nat.add_eq]; omega)) T.d_is_table.mgf T.d_is_table.fn.kp T.d_is_table.b (ja_cons (je_var 0) (ja_nil)))) (jb_nil)) (jmc_nil))))))) (jb_cons (js_ret (je_bl)) (jb_nil)))
    · have nd : N_is_stack.Nodup := sc_is_stack.nd
      rw [Fr_is_stack_succ]
      exact jf T.d_is_stack.fn sc_is_stack (by decide) fun cdv A outer s H E gd hr => jb_cons (js_ret (je_and (je_eq hr (je_len T.b_len (ja_cons (je_var 0) (ja_nil))) (je_gint T.c_TRIPLE)) (je_and (je_callF (i_are_parts) gd (hr.mono (by try simp only [Nat.add_eq]; omega)) T.d_are_parts.mgf T.d_are_parts.fn.kp T.d_are_parts.b (ja_cons (je_ix (je_var 0) (je_int)) (ja_cons (je_gstr T.c_STACK) (ja_nil)))) (je_one (je_callF (g_are_sizes T) gd (hr.mono (by try simp only [Nat.add_eq]; omega)) T.d_are_sizes.mgf T.d_are_sizes.fn.kp T.d_are_sizes.b (ja_cons (je_ix (je_var 0) (je_int)) (ja_cons (je_sub (je_len T.b_len (ja_cons (je_ix (je_var 0) (je_int)) (ja_nil))) (je_int)) (ja_nil)))))))) (jb_nil)
    · have nd : N_are_parts.Nodup := sc_are_parts.nd
      rw [Fr_are_parts_succ]
      exact jf T.d_are_parts.fn sc_are_parts (by decide) fun cdv A outer s H E gd hr => jb_cons (js_if (JW.jt (jw_or (jt_not (jt_val (je_isi "tuple" T.b_isinstance T.b_tuple (by decide +kernel) (je_var 0)))) (jw_or1 (jt_lt (je_len T.b_len (ja_cons (je_var 0) (ja_nil))) (je_gint T.c_LEAST_PARTS))))) (jb_cons (js_ret (je_bl)) (jb_nil)) (jb_nil)) (jb_cons (js_ret (je_all rfl T.b_all (ja_cons (je_tell (jx_lc rfl nd (ji_any (je_var 0)) (own := [("part", 2)]) (blkOk_by (by kernel_rfl)) (fun _ _ _ _ _ => jg_name 2 nd) (fun _ _ _ _ _ => jts_nil) (fun _ _ _ _ _ => je_and (je_callF (i_is_box) gd (hr.mono (by try simp only [Nat.add_eq]; omega)) T.d_is_box.mgf T.d_is_box.fn.kp T.d_is_box.b (ja_cons (je_var 2) (ja_nil))) (je_one (je_ne hr (je_ix (je_var 2) (je_int)) (je_var 1)))))) (ja_nil)))) (jb_nil))
    · have nd : N_are_columns.Nodup := sc_are_columns.nd
      rw [Fr_are_columns_succ]
      exact jf T.d_are_columns.fn sc_are_columns (by decide) fun cdv A outer s H E gd hr => jb_cons (js_if (JW.jt (jw_or (jt_ne hr (je_len T.b_len (ja_cons (je_var 0) (ja_nil))) (je_gint T.c_QUADRUPLE)) (jw_or1 (jt_not (jt_val (je_callF (i_are_parts) gd (hr.mono (by try simp only [Nat.add_eq]; omega)) T.d_are_parts.mgf T.d_are_parts.fn.kp T.d_are_parts.b (ja_cons (je_ix (je_var 0) (je_int)) (ja_cons (je_gstr T.c_COLUMNS) (ja_nil))))))))) (jb_cons (js_ret (je_bl)) (jb_nil)) (jb_nil)) (jb_cons (js_ret (je_and (je_callF (g_are_sizes T) gd (hr.mono (by try simp only [Nat.add_eq]; omega)) T.d_are_sizes.mgf T.d_are_sizes.fn.kp T.d_are_sizes.b (ja_cons (je_ix (je_var 0) (je_int)) (ja_cons (je_len T.b_len (ja_cons (je_ix (je_var 0) (je_int)) (ja_nil))) (ja_nil)))) (je_one (je_callF (g_are_sizes T) gd (hr.mono (by try simp only [Nat.add_eq]; omega)) T.d_are_sizes.mgf T.d_are_sizes.fn.kp T.d_are_sizes.b (ja_cons (je_ix (je_var 0) (je_int)) (ja_cons (je_sub (je_len T.b_len (ja_cons (je_ix (je_var 0) (je_int)) (ja_nil))) (je_int)) (ja_nil))))))) (jb_nil))
include T in
theorem g_is_box : FnG P w K mg base CX0 (66) f_is_box fd_is_box ["value"] (spM K 1 (F_is_box)) := (gg_is_box T 60).1
include T in
theorem g_is_stack : FnG P w K mg base CX0 (66) f_is_stack fd_is_stack ["value"] (spM K 1 (F_is_stack)) := (gg_is_box T 60).2.1
include T in
theorem g_are_parts : FnG P w K mg base CX0 (66) f_are_parts fd_are_parts ["value", "kind"] (spM K 2 (F_are_parts)) := (gg_is_box T 60).2.2.1
include T in
theorem g_are_columns : FnG P w K mg base CX0 (66) f_are_columns fd_are_columns ["value"] (spM K 1 (F_are_columns)) := (gg_is_box T 60).2.2.2
theorem sc_is_document : FnScope N_is_document ["value"] (defScope s_is_document) := ⟨rfl, rfl, rfl, by decide +kernel, rfl, by decide +kernel, by decide +kernel⟩
include T in
theorem g_is_document : FnG P w K mg base CX0 67 f_is_document fd_is_document ["value"] (spM K 1 F_is_document) :=
  have nd : N_is_document.Nodup := sc_is_document.nd
  jf T.d_is_document.fn sc_is_document (by decide) fun cdv A outer s H E gd hr =>
    jb_cons (js_ret (je_and (je_isi "tuple" T.b_isinstance T.b_tuple (by decide +kernel) (je_var 0)) (je_and (je_eq hr (je_len T.b_len (ja_cons (je_var 0) (ja_nil))) (je_gint T.c_PAIR)) (je_and (je_callF (g_is_size T) gd (hr.mono (by decide)) T.d_is_size.mgf T.d_is_size.fn.kp T.d_is_size.b (ja_cons (je_ix (je_var 0) (je_int)) (ja_nil))) (je_one (je_callF (g_is_box T) gd (hr.mono (by decide)) T.d_is_box.mgf T.d_is_box.fn.kp T.d_is_box.b (ja_cons (je_ix (je_var 0) (je_int)) (ja_nil)))))))) (jb_nil)
theorem sc_check_document : FnScope N_check_document ["value"] (defScope s_check_document) := ⟨rfl, rfl, rfl, by decide +kernel, rfl, by decide +kernel, by decide +kernel⟩
include T in
theorem g_check_document : FnG P w K mg base (L2.CX P w) 68 f_check_document fd_check_document ["value"] (spX K 1 F_check_document) :=
  have nd : N_check_document.Nodup := sc_check_document.nd
  jfX T.d_check_document.fn sc_check_document (by decide) fun cdv A outer s H E gd hr =>
    jb_cons (js_if (jt_not (jt_val (je_callF (g_is_document T) gd (hr.mono (by decide)) T.d_is_document.mgf T.d_is_document.fn.kp T.d_is_document.b (ja_cons (je_var 0) (ja_nil))))) (jb_cons (js_raise (takes_of rfl rfl rfl rfl) T.x_BadDocument T.b_super hr rfl (je_var 0)) (jb_nil)) (jb_nil)) (jb_nil)
theorem sc_row_width : FnScope N_row_width ["widths", "rows", "number"] (defScope s_row_width) := ⟨rfl, rfl, rfl, by decide +kernel, rfl, by decide +kernel, by decide +kernel⟩
include T in
theorem g_row_width : FnG P w K mg base CX0 1 f_row_width fd_row_width ["widths", "rows", "number"] (spM K 3 F_row_width) :=
  have nd : N_row_width.Nodup := sc_row_width.nd
  jf T.d_row_width.fn sc_row_width (by decide) fun cdv A outer s H E gd hr =>
    jb_cons (js_set 3 nd (je_if (jt_isN (je_var 1) (je_non)) (je_int) (je_fdiv (je_var 2) (je_var 1)))) (jb_cons (js_ret (je_if (jt_lt (je_var 3) (je_len T.b_len (ja_cons (je_var 0) (ja_nil)))) (je_ix (je_var 0) (je_var 3)) (je_int))) (jb_nil))
theorem sc_filled : FnScope N_filled ["words", "widths", "rows"] (defScope s_filled) := ⟨rfl, rfl, rfl, by decide +kernel, rfl, by decide +kernel, by decide +kernel⟩
include T in
theorem g_filled : FnG P w K mg base CX0 2 f_filled fd_filled ["words", "widths", "rows"] (spM K 3 F_filled) :=
  have nd : N_filled.Nodup := sc_filled.nd
  jf T.d_filled.fn sc_filled (by decide) fun cdv A outer s H E gd hr =>
    jb_cons (js_par3 rfl nd (jxs_cons (jx_lst (ja_nil)) (jxs_cons (jx_je (je_int)) (jxs_cons (jx_je (je_int)) (jxs_nil))))) (jb_cons (js_for rfl (ji_any (je_var 0)) (jg_name 6 nd) (jb_cons (js_set 7 nd (je_add (je_var 5) (je_toint T.b_int (ja_cons (je_gt (je_var 5) (je_int)) (ja_nil))))) (jb_cons (js_if (JW.jt (jw_and (jt_gt (je_var 5) (je_int)) (jw_and1 (jt_gt (je_add (je_var 7) (je_len T.b_len (ja_cons (je_var 6) (ja_nil)))) (je_callF (g_row_width T) gd (hr.mono (by decide)) T.d_row_width.mgf T.d_row_width.fn.kp T.d_row_width.b (ja_cons (je_var 1) (ja_cons (je_var 2) (ja_cons (je_var 4) (ja_nil))))))))) (jb_cons (js_par2 rfl nd (jxs_cons (jx_je (je_add (je_var 4) (je_int))) (jxs_cons (jx_je (je_int)) (jxs_nil)))) (jb_nil)) (jb_nil)) (jb_cons (js_if (jt_gt (je_add (je_var 7) (je_len T.b_len (ja_cons (je_var 6) (ja_nil)))) (je_callF (g_row_width T) gd (hr.mono (by decide)) T.d_row_width.mgf T.d_row_width.fn.kp T.d_row_width.b (ja_cons (je_var 1) (ja_cons (je_var 2) (ja_cons (je_var 4) (ja_nil)))))) (jb_cons (js_ret (je_non)) (jb_nil)) (jb_nil)) (jb_cons (js_app 3 (je_tup (ja_cons (je_var 6) (ja_cons (je_var 4) (ja_cons (je_var 7) (ja_nil)))))) (jb_cons (js_set 5 nd (je_add (je_var 7) (je_len T.b_len (ja_cons (je_var 6) (ja_nil))))) (jb_nil))))))) (jb_cons (js_ret (je_var 3)) (jb_nil)))
theorem sc_filled_in : FnScope N_filled_in ["words", "width", "path"] (defScope s_filled_in) := ⟨rfl, rfl, rfl, by decide +kernel, rfl, by decide +kernel, by decide +kernel⟩
include T in
theorem g_filled_in : FnG P w K mg base (L2.CX P w) 3 f_filled_in fd_filled_in ["words", "width", "path"] (spX K 3 F_filled_in) :=
  have nd : N_filled_in.Nodup := sc_filled_in.nd
  jfX T.d_filled_in.fn sc_filled_in (by decide) fun cdv A outer s H E gd hr =>
    jb_cons (js_set 3 nd (je_callF (g_filled T) gd (hr.mono (by decide)) T.d_filled.mgf T.d_filled.fn.kp T.d_filled.b (ja_cons (je_var 0) (ja_cons (je_tup (ja_cons (je_var 1) (ja_nil))) (ja_cons (je_non) (ja_nil)))))) (jb_cons (js_if (jt_isN (je_var 3) (je_non)) (jb_cons (js_raise (takes_of rfl rfl rfl rfl) T.x_CannotSet T.b_super hr rfl (je_var 2)) (jb_nil)) (jb_nil)) (jb_cons (js_ret (je_tup (ja_cons (je_var 3) (ja_cons (je_if (jt_ne hr (je_var 3) (je_lst (ja_nil))) (je_add (je_ix (je_ix (je_var 3) (je_neg (je_int))) (je_int)) (je_int)) (je_int)) (ja_nil))))) (jb_nil)))
theorem sc_check_strips : FnScope N_check_strips ["widths", "gaps", "width", "path"] (defScope s_check_strips) := ⟨rfl, rfl, rfl, by decide +kernel, rfl, by decide +kernel, by decide +kernel⟩
include T in
theorem g_check_strips : FnG P w K mg base (L2.CX P w) 1 f_check_strips fd_check_strips ["widths", "gaps", "width", "path"] (spX K 4 F_check_strips) :=
  have nd : N_check_strips.Nodup := sc_check_strips.nd
  jfX T.d_check_strips.fn sc_check_strips (by decide) fun cdv A outer s H E gd hr =>
    jb_cons (js_if (jt_ne hr (je_add (je_sumA rfl T.b_sum (ja_cons (je_var 0) (ja_nil))) (je_sumA rfl T.b_sum (ja_cons (je_var 1) (ja_nil)))) (je_var 2)) (jb_cons (js_raise (takes_of rfl rfl rfl rfl) T.x_CannotSet T.b_super hr rfl (je_var 3)) (jb_nil)) (jb_nil)) (jb_nil)
theorem sc_places_of : FnScope N_places_of ["widths", "gaps"] (defScope s_places_of) := ⟨rfl, rfl, rfl, by decide +kernel, rfl, by decide +kernel, by decide +kernel⟩
include T in
theorem g_places_of : FnG P w K mg base CX0 1 f_places_of fd_places_of ["widths", "gaps"] (spM K 2 F_places_of) :=
  have nd : N_places_of.Nodup := sc_places_of.nd
  jf T.d_places_of.fn sc_places_of (by decide) fun cdv A outer s H E gd hr =>
    jb_cons (js_setX 2 nd (jx_lst (ja_cons (je_int) (ja_nil)))) (jb_cons (js_for rfl (ji_zip2 T.b_zip (ja_cons (je_var 0) (ja_cons (je_var 1) (ja_nil)))) (jg_tup rfl (jgs_cons (jg_name 3 nd) (jgs_cons (jg_name 4 nd) (jgs_nil)))) (jb_cons (js_app 2 (je_add (je_add (je_ix (je_var 2) (je_neg (je_int))) (je_var 3)) (je_var 4))) (jb_nil))) (jb_cons (js_ret (je_var 2)) (jb_nil)))
theorem sc_running_spots : FnScope N_running_spots ["box", "width", "path"] (defScope s_running_spots) := ⟨rfl, rfl, rfl, by decide +kernel, rfl, by decide +kernel, by decide +kernel⟩
include T in
theorem g_running_spots : FnG P w K mg base (L2.CX P w) 3 f_running_spots fd_running_spots ["box", "width", "path"] (spX K 3 F_running_spots) :=
  have nd : N_running_spots.Nodup := sc_running_spots.nd
  jfX T.d_running_spots.fn sc_running_spots (by decide) fun cdv A outer s H E gd hr =>
    jb_cons (js_unp (je_var 0) (jg_tup rfl (jgs_cons (jg_name 3 nd) (jgs_cons (jg_name 4 nd) (jgs_cons (jg_name 5 nd) (jgs_cons (jg_name 6 nd) (jgs_cons (jg_name 7 nd) (jgs_nil)))))))) (jb_cons (js_exprX (jo_callX (takes_of rfl rfl rfl rfl) (g_check_strips T) gd (hr.mono (by decide)) T.d_check_strips.mgf T.d_check_strips.fn.kp T.d_check_strips.b (ja_cons (je_var 5) (ja_cons (je_var 6) (ja_cons (je_var 1) (ja_cons (je_var 2) (ja_nil))))))) (jb_cons (js_set 8 nd (je_callF (g_filled T) gd (hr.mono (by decide)) T.d_filled.mgf T.d_filled.fn.kp T.d_filled.b (ja_cons (je_var 4) (ja_cons (je_var 5) (ja_cons (je_var 7) (ja_nil)))))) (jb_cons (js_if (JW.jt (jw_or (jt_isN (je_var 8) (je_non)) (jw_or1 (jt_ne hr (je_fdiv (je_ix (je_ix (je_var 8) (je_neg (je_int))) (je_int)) (je_var 7)) (je_sub (je_len T.b_len (ja_cons (je_var 5) (ja_nil))) (je_int)))))) (jb_cons (js_raise (takes_of rfl rfl rfl rfl) T.x_CannotSet T.b_super hr rfl (je_var 2)) (jb_nil)) (jb_nil)) (jb_cons (js_set 9 nd (je_callF (g_places_of T) gd (hr.mono (by decide)) T.d_places_of.mgf T.d_places_of.fn.kp T.d_places_of.b (ja_cons (je_var 5) (ja_cons (je_var 6) (ja_nil))))) (jb_cons (js_ret (je_tup (ja_cons (je_tell (jx_lc rfl nd (ji_any (je_var 8)) (own := [("one", 10), ("row", 11), ("place", 12)]) (blkOk_by (by kernel_rfl)) (fun _ _ _ _ _ => jg_tup rfl (jgs_cons (jg_name 10 nd) (jgs_cons (jg_name 11 nd) (jgs_cons (jg_name 12 nd) (jgs_nil))))) (fun _ _ _ _ _ => jts_nil) (fun _ _ _ _ _ => je_tup (ja_cons (je_var 10) (ja_cons (je_mod (je_var 11) (je_var 7)) (ja_cons (je_add (je_var 12) (je_ix (je_var 9) (je_fdiv (je_var 11) (je_var 7)))) (ja_nil))))))) (ja_cons (je_var 7) (ja_nil))))) (jb_nil))))))
theorem sc_moved : FnScope N_moved ["spots", "rows", "places"] (defScope s_moved) := ⟨rfl, rfl, rfl, by decide +kernel, rfl, by decide +kernel, by decide +kernel⟩
include T in
theorem g_moved : FnG P w K mg base CX0 1 f_moved fd_moved ["spots", "rows", "places"] (spM K 3 F_moved) :=
  have nd : N_moved.Nodup := sc_moved.nd
  jf T.d_moved.fn sc_moved (by decide) fun cdv A outer s H E gd hr =>
    jb_cons (js_ret (je_tell (jx_lc rfl nd (ji_any (je_var 0)) (own := [("word", 3), ("row", 4), ("place", 5)]) (blkOk_by (by kernel_rfl)) (fun _ _ _ _ _ => jg_tup rfl (jgs_cons (jg_name 3 nd) (jgs_cons (jg_name 4 nd) (jgs_cons (jg_name 5 nd) (jgs_nil))))) (fun _ _ _ _ _ => jts_nil) (fun _ _ _ _ _ => je_tup (ja_cons (je_var 3) (ja_cons (je_add (je_var 4) (je_var 1)) (ja_cons (je_add (je_var 5) (je_var 2)) (ja_nil)))))))) (jb_nil)
theorem sc_table_spots : FnScope N_table_spots ["box", "width", "path"] (defScope s_table_spots) := ⟨rfl, rfl, rfl, by decide +kernel, rfl, by decide +kernel, by decide +kernel⟩
include T in
theorem g_table_spots : FnG P w K mg base (L2.CX P w) 4 f_table_spots fd_table_spots ["box", "width", "path"] (spX K 3 F_table_spots) :=
  have nd : N_table_spots.Nodup := sc_table_spots.nd
  jfX T.d_table_spots.fn sc_table_spots (by decide) fun cdv A outer s H E gd hr =>
    jb_cons (js_unp (je_var 0) (jg_tup rfl (jgs_cons (jg_name 3 nd) (jgs_cons (jg_name 4 nd) (jgs_cons (jg_name 5 nd) (jgs_cons (jg_name 6 nd) (jgs_nil))))))) (jb_cons (js_exprX (jo_callX (takes_of rfl rfl rfl rfl) (g_check_strips T) gd (hr.mono (by decide)) T.d_check_strips.mgf T.d_check_strips.fn.kp T.d_check_strips.b (ja_cons (je_var 5) (ja_cons (je_var 6) (ja_cons (je_var 1) (ja_cons (je_var 2) (ja_nil))))))) (jb_cons (js_par3 rfl nd (jxs_cons (jx_lst (ja_nil)) (jxs_cons (jx_je (je_int)) (jxs_cons (jx_je (je_callF (g_places_of T) gd (hr.mono (by decide)) T.d_places_of.mgf T.d_places_of.fn.kp T.d_places_of.b (ja_cons (je_var 5) (ja_cons (je_var 6) (ja_nil))))) (jxs_nil))))) (jb_cons (js_for rfl (ji_any (je_var 4)) (jg_name 10 nd) (jb_cons (js_set 11 nd (je_int)) (jb_cons (js_for rfl (ji_enumA T.b_enumerate (ja_cons (je_var 10) (ja_nil))) (jg_tup rfl (jgs_cons (jg_name 12 nd) (jgs_cons (jg_name 13 nd) (jgs_nil)))) (jb_cons (js_unpX2 (jo_callX (takes_of rfl rfl rfl rfl) (g_filled_in T) gd (hr.mono (by decide)) T.d_filled_in.mgf T.d_filled_in.fn.kp T.d_filled_in.b (ja_cons (je_var 13) (ja_cons (je_ix (je_var 5) (je_var 12)) (ja_cons (je_var 2) (ja_nil))))) (jg_tup rfl (jgs_cons (jg_name 14 nd) (jgs_cons (jg_name 15 nd) (jgs_nil))))) (jb_cons (js_ext 7 (je_callF (g_moved T) gd (hr.mono (by decide)) T.d_moved.mgf T.d_moved.fn.kp T.d_moved.b (ja_cons (je_var 14) (ja_cons (je_var 8) (ja_cons (je_ix (je_var 9) (je_var 12)) (ja_nil)))))) (jb_cons (js_set 11 nd (je_max2 rfl T.b_max (ja_cons (je_var 11) (ja_cons (je_var 15) (ja_nil))))) (jb_nil)))) (hp := passes_of rfl)) (jb_cons (js_iadd 8 nd (je_var 11)) (jb_nil)))) (hp := passes_of rfl)) (jb_frz 7 (jb_cons (js_ret (je_tup (ja_cons (je_var 7) (ja_cons (je_var 8) (ja_nil))))) (jb_nil))))))
theorem sc_spots_of : FnScope N_spots_of ["box", "width", "path"] (defScope s_spots_of) := ⟨rfl, rfl, rfl, by decide +kernel, rfl, by decide +kernel, by decide +kernel⟩
theorem sc_stack_spots : FnScope N_stack_spots ["box", "width", "path"] (defScope s_stack_spots) := ⟨rfl, rfl, rfl, by decide +kernel, rfl, by decide +kernel, by decide +kernel⟩
theorem sc_column_spots : FnScope N_column_spots ["box", "width", "path"] (defScope s_column_spots) := ⟨rfl, rfl, rfl, by decide +kernel, rfl, by decide +kernel, by decide +kernel⟩
include T in
theorem gg_spots_of : ∀ n : Nat, FnG P w K mg base (L2.CX P w) (5 + n) f_spots_of fd_spots_of ["box", "width", "path"] (spX K 3 (Fr_spots_of n)) ∧ FnG P w K mg base (L2.CX P w) (5 + n) f_stack_spots fd_stack_spots ["box", "width", "path"] (spX K 3 (Fr_stack_spots n)) ∧ FnG P w K mg base (L2.CX P w) (5 + n) f_column_spots fd_column_spots ["box", "width", "path"] (spX K 3 (Fr_column_spots n))
  | 0 => ⟨fng_noneX, fng_noneX, fng_noneX⟩
  | n + 1 => by
    obtain ⟨i_spots_of, i_stack_spots, i_column_spots⟩ := gg_spots_of n
    refine ⟨?_, ?_, ?_⟩
    · have nd : N_spots_of.Nodup := sc_spots_of.nd
      rw [Fr_spots_of_succ]
      exact jfX T.d_spots_of.fn sc_spots_of (by decide) fun cdv A outer s H E gd hr => jb_cons (js_if (jt_eq hr (je_ix (je_var 0) (je_int)) (je_gstr T.c_TEXT)) (jb_cons (js_retX2 (jo_callX (takes_of rfl rfl rfl rfl) (g_filled_in T) gd (hr.mono (by try simp only [Nat.add_eq]; omega)) T.d_filled_in.mgf T.d_filled_in.fn.kp T.d_filled_in.b (ja_cons (je_ix (je_var 0) (je_int)) (ja_cons (je_var 1) (ja_cons (je_var 2) (ja_nil)))))) (jb_nil)) (jb_nil)) (jb_cons (js_if (jt_eq hr (je_ix (je_var 0) (je_int)) (je_gstr T.c_RUNNING)) (jb_cons (js_retX2 (jo_callX (takes_of rfl rfl rfl rfl) (g_running_spots T) gd (hr.mono (by try simp only [Nat.add_eq]; omega)) T.d_running_spots.mgf T.d_running_spots.fn.kp T.d_running_spots.b (ja_cons (je_var 0) (ja_cons (je_var 1) (ja_cons (je_var 2) (ja_nil)))))) (jb_nil)) (jb_nil)) (jb_cons (js_if (jt_eq hr (je_ix (je_var 0) (je_int)) (je_gstr T.c_STACK)) (jb_cons (js_retX2 (jo_callX (takes_of rfl rfl rfl rfl) (i_stack_spots) gd (hr.mono (by try simp only [Nat.add_eq]; omega)) T.d_stack_spots.mgf T.d_stack_spots.fn.kp T.d_stack_spots.b (ja_cons (je_var 0) (ja_cons (je_var 1) (ja_cons (je_var 2) (ja_nil)))))) (jb_nil)) (jb_nil)) (jb_cons (js_retX2 (jo_if (jt_eq hr (je_ix (je_var 0) (je_int)) (je_gstr T.c_COLUMNS)) (jo_callX (takes_of rfl rfl rfl rfl) (i_column_spots) gd (hr.mono (by try simp only [Nat.add_eq]; omega)) T.d_column_spots.mgf T.d_column_spots.fn.kp T.d_column_spots.b (ja_cons (je_var 0) (ja_cons (je_var 1) (ja_cons (je_var 2) (ja_nil))))) (jo_callX (takes_of rfl rfl rfl rfl) (g_table_spots T) gd (hr.mono (by try simp only [Nat.add_eq]; omega)) T.d_table_spots.mgf T.d_table_spots.fn.kp T.d_table_spots.b (ja_cons (je_var 0) (ja_cons (je_var 1) (ja_cons (je_var 2) (ja_nil))))))) (jb_nil))))
    · have nd : N_stack_spots.Nodup := sc_stack_spots.nd
      rw [Fr_stack_spots_succ]
      exact jfX T.d_stack_spots.fn sc_stack_spots (by decide) fun cdv A outer s H E gd hr => jb_cons (js_par2 rfl nd (jxs_cons (jx_lst (ja_nil)) (jxs_cons (jx_je (je_int)) (jxs_nil)))) (jb_cons (js_for rfl (ji_enumA T.b_enumerate (ja_cons (je_ix (je_var 0) (je_int)) (ja_nil))) (jg_tup rfl (jgs_cons (jg_name 5 nd) (jgs_cons (jg_name 6 nd) (jgs_nil)))) (jb_cons (js_iadd 4 nd (je_if (jt_gt (je_var 5) (je_int)) (je_ix (je_ix (je_var 0) (je_int)) (je_sub (je_var 5) (je_int))) (je_int))) (jb_cons (js_unpX2 (jo_callX (takes_of rfl rfl rfl rfl) (i_spots_of) gd (hr.mono (by try simp only [Nat.add_eq]; omega)) T.d_spots_of.mgf T.d_spots_of.fn.kp T.d_spots_of.b (ja_cons (je_var 6) (ja_cons (je_var 1) (ja_cons (je_tup (ja_star (je_var 2) (ja_cons (je_var 5) (ja_nil)))) (ja_nil))))) (jg_tup rfl (jgs_cons (jg_name 7 nd) (jgs_cons (jg_name 8 nd) (jgs_nil))))) (jb_cons (js_ext 3 (je_callF (g_moved T) gd (hr.mono (by try simp only [Nat.add_eq]; omega)) T.d_moved.mgf T.d_moved.fn.kp T.d_moved.b (ja_cons (je_var 7) (ja_cons (je_var 4) (ja_cons (je_int) (ja_nil)))))) (jb_cons (js_iadd 4 nd (je_var 8)) (jb_nil))))) (hp := passes_of rfl)) (jb_frz 3 (jb_cons (js_ret (je_tup (ja_cons (je_var 3) (ja_cons (je_var 4) (ja_nil))))) (jb_nil))))
    · have nd : N_column_spots.Nodup := sc_column_spots.nd
      rw [Fr_column_spots_succ]
      exact jfX T.d_column_spots.fn sc_column_spots (by decide) fun cdv A outer s H E gd hr => jb_cons (js_unp (je_var 0) (jg_tup rfl (jgs_cons (jg_name 3 nd) (jgs_cons (jg_name 4 nd) (jgs_cons (jg_name 5 nd) (jgs_cons (jg_name 6 nd) (jgs_nil))))))) (jb_cons (js_exprX (jo_callX (takes_of rfl rfl rfl rfl) (g_check_strips T) gd (hr.mono (by try simp only [Nat.add_eq]; omega)) T.d_check_strips.mgf T.d_check_strips.fn.kp T.d_check_strips.b (ja_cons (je_var 5) (ja_cons (je_var 6) (ja_cons (je_var 1) (ja_cons (je_var 2) (ja_nil))))))) (jb_cons (js_par3 rfl nd (jxs_cons (jx_lst (ja_nil)) (jxs_cons (jx_je (je_int)) (jxs_cons (jx_je (je_callF (g_places_of T) gd (hr.mono (by try simp only [Nat.add_eq]; omega)) T.d_places_of.mgf T.d_places_of.fn.kp T.d_places_of.b (ja_cons (je_var 5) (ja_cons (je_var 6) (ja_nil))))) (jxs_nil))))) (jb_cons (js_for rfl (ji_enumA T.b_enumerate (ja_cons (je_var 4) (ja_nil))) (jg_tup rfl (jgs_cons (jg_name 10 nd) (jgs_cons (jg_name 11 nd) (jgs_nil)))) (jb_cons (js_unpX2 (jo_callX (takes_of rfl rfl rfl rfl) (i_spots_of) gd (hr.mono (by try simp only [Nat.add_eq]; omega)) T.d_spots_of.mgf T.d_spots_of.fn.kp T.d_spots_of.b (ja_cons (je_var 11) (ja_cons (je_ix (je_var 5) (je_var 10)) (ja_cons (je_tup (ja_star (je_var 2) (ja_cons (je_var 10) (ja_nil)))) (ja_nil))))) (jg_tup rfl (jgs_cons (jg_name 12 nd) (jgs_cons (jg_name 13 nd) (jgs_nil))))) (jb_cons (js_ext 7 (je_callF (g_moved T) gd (hr.mono (by try simp only [Nat.add_eq]; omega)) T.d_moved.mgf T.d_moved.fn.kp T.d_moved.b (ja_cons (je_var 12) (ja_cons (je_int) (ja_cons (je_ix (je_var 9) (je_var 10)) (ja_nil)))))) (jb_cons (js_set 8 nd (je_max2 rfl T.b_max (ja_cons (je_var 8) (ja_cons (je_var 13) (ja_nil))))) (jb_nil)))) (hp := passes_of rfl)) (jb_frz 7 (jb_cons (js_ret (je_tup (ja_cons (je_var 7) (ja_cons (je_var 8) (ja_nil))))) (jb_nil))))))
include T in
theorem g_spots_of : FnG P w K mg base (L2.CX P w) (65) f_spots_of fd_spots_of ["box", "width", "path"] (spX K 3 (F_spots_of)) := (gg_spots_of T 60).1
include T in
theorem g_stack_spots : FnG P w K mg base (L2.CX P w) (65) f_stack_spots fd_stack_spots ["box", "width", "path"] (spX K 3 (F_stack_spots)) := (gg_spots_of T 60).2.1
include T in
theorem g_column_spots : FnG P w K mg base (L2.CX P w) (65) f_column_spots fd_column_spots ["box", "width", "path"] (spX K 3 (F_column_spots)) := (gg_spots_of T 60).2.2
theorem sc_drawn : FnScope N_drawn ["spots", "rows", "width"] (defScope s_drawn) := ⟨rfl, rfl, rfl, by decide +kernel, rfl, by decide +kernel, by decide +kernel⟩
include T in
theorem g_drawn : FnG P w K mg base CX0 1 f_drawn fd_drawn ["spots", "rows", "width"] (spM K 3 F_drawn) :=
  have nd : N_drawn.Nodup := sc_drawn.nd
  jfW T.d_drawn.fn sc_drawn (by decide) (fun cdv A outer s H E gd hr =>
    ub_cons (us_setLc 3 rfl nd (ji_rng1 T.b_range (ja_cons (je_var 1) (ja_nil))) (own := [("number", 4)]) (blkOk_by (by kernel_rfl)) (fun _ _ _ _ _ => jg_name 4 nd) (fun _ _ _ _ _ => ue_rep (je_lst (ja_cons (je_gstr T.c_BLANK) (ja_nil))) (je_var 2)) (uRep_mono _ _)) (ub_cons (us_for rfl (ji_any (je_var 0)) (jg_tup rfl (jgs_cons (jg_name 5 nd) (jgs_cons (jg_name 6 nd) (jgs_cons (jg_name 7 nd) (jgs_nil))))) (ub_cons (us_slst (je_tolistA rfl T.b_list (ja_cons (je_var 5) (ja_nil))) (ue_ix (ue_l (je_var 3)) (ue_l (je_var 6))) (jo_some (je_var 7)) (jo_some (je_add (je_var 7) (je_len T.b_len (ja_cons (je_var 5) (ja_nil)))))) (ub_nil))) (ub_tell 3 (ub_l (jb_cons (js_ret (je_tell (jx_lc rfl nd (ji_any (je_var 3)) (own := [("line", 8)]) (blkOk_by (by kernel_rfl)) (fun _ _ _ _ _ => jg_name 8 nd) (fun _ _ _ _ _ => jts_nil) (fun _ _ _ _ _ => je_join (je_str) (je_var 8))))) (jb_nil)))))) r_drawn
theorem sc_set_on : FnScope N_set_on ["document", "rows", "places"] (defScope s_set_on) := ⟨rfl, rfl, rfl, by decide +kernel, rfl, by decide +kernel, by decide +kernel⟩
include T in
theorem g_set_on : FnG P w K mg base (L2.CX P w) 69 f_set_on fd_set_on ["document", "rows", "places"] (spX K 3 F_set_on) :=
  have nd : N_set_on.Nodup := sc_set_on.nd
  jfX T.d_set_on.fn sc_set_on (by decide) fun cdv A outer s H E gd hr =>
    jb_cons (js_exprX (jo_callX (takes_of rfl rfl rfl rfl) (g_check_document T) gd (hr.mono (by decide)) T.d_check_document.mgf T.d_check_document.fn.kp T.d_check_document.b (ja_cons (je_var 0) (ja_nil)))) (jb_cons (js_for rfl (ji_any (je_tup (ja_cons (je_var 1) (ja_cons (je_var 2) (ja_nil))))) (jg_name 3 nd) (jb_cons (js_if (jt_not (jt_val (je_callF (g_is_size T) gd (hr.mono (by decide)) T.d_is_size.mgf T.d_is_size.fn.kp T.d_is_size.b (ja_cons (je_var 3) (ja_nil))))) (jb_cons (js_raise (takes_of rfl rfl rfl rfl) T.x_BadSize T.b_super hr rfl (je_var 3)) (jb_nil)) (jb_nil)) (jb_nil)) (hp := passes_of rfl)) (jb_cons (js_unp (je_var 0) (jg_tup rfl (jgs_cons (jg_name 4 nd) (jgs_cons (jg_name 5 nd) (jgs_nil))))) (jb_cons (js_if (jt_gt (je_var 4) (je_var 2)) (jb_cons (js_raise (takes_of rfl rfl rfl rfl) T.x_CannotSet T.b_super hr rfl (je_tup (ja_nil))) (jb_nil)) (jb_nil)) (jb_cons (js_unpX2 (jo_callX (takes_of rfl rfl rfl rfl) (g_spots_of T) gd (hr.mono (by decide)) T.d_spots_of.mgf T.d_spots_of.fn.kp T.d_spots_of.b (ja_cons (je_var 5) (ja_cons (je_var 4) (ja_cons (je_tup (ja_nil)) (ja_nil))))) (jg_tup rfl (jgs_cons (jg_name 6 nd) (jgs_cons (jg_name 7 nd) (jgs_nil))))) (jb_cons (js_if (jt_gt (je_var 7) (je_var 1)) (jb_cons (js_raise (takes_of rfl rfl rfl rfl) T.x_CannotSet T.b_super hr rfl (je_tup (ja_nil))) (jb_nil)) (jb_nil)) (jb_cons (js_ret (je_totuple T.b_tuple (ja_cons (je_callF (g_drawn T) gd (hr.mono (by decide)) T.d_drawn.mgf T.d_drawn.fn.kp T.d_drawn.b (ja_cons (je_var 6) (ja_cons (je_var 1) (ja_cons (je_var 2) (ja_nil))))) (ja_nil)))) (jb_nil)))))))
theorem sc__law_path : FnScope N__law_path ["_law_paper", "_law_high", "_law_wide"] (defScope s__law_path) := ⟨rfl, rfl, rfl, by decide +kernel, rfl, by decide +kernel, by decide +kernel⟩
include T in
theorem g__law_path : FnG P w K mg base CX0 70 f__law_path fd__law_path ["_law_paper", "_law_high", "_law_wide"] (spM K 3 F__law_path) :=
  have nd : N__law_path.Nodup := sc__law_path.nd
  jf T.d__law_path.fn sc__law_path (by decide) fun cdv A outer s H E gd hr =>
    jb_cons (js_set 3 nd (je_non)) (jb_cons (js_try_fld 3 4 (c0 := "CannotSet") (sub := kx [("BadDocument", false), ("CannotSet", true), ("BadSize", false)]) nd (by decide) (takes0) rfl rfl rfl ⟨rfl, by decide, Or.inl T.h_CannotSet⟩ (fun c C b h1 h2 => T.hs_CannotSet.hx c C b h1 h2) T.x_CannotSet.nC (kx_only (by decide +kernel)) (T.fld_path.hx "CannotSet" _ true T.x_CannotSet.nC (by decide +kernel)) (fun W1 pn xe tk1 po1 => jb_cons (js_retX2 (jo_callKP (tk1) (g_set_on T) gd (hr.mono (by decide)) T.d_set_on.mgf T.d_set_on.fn.kp (KP.of (ks := ["places", "document", "rows"]) (π := [1, 2, 0]) T.d_set_on.fn fun _ _ _ _ _ _ ws hl => (match ws, hl with | [_, _, _], _ => rfl)) (jk_cons (je_var 2) (jk_cons (je_var 0) (jk_cons (je_var 1) (jk_nil)))))) (jb_nil))) (jb_cons (js_ret (je_var 3)) (jb_nil)))
theorem sc__law_texts_right : FnScope N__law_texts_right ["_law_a", "_law_b"] (defScope s__law_texts_right) := ⟨rfl, rfl, rfl, by decide +kernel, rfl, by decide +kernel, by decide +kernel⟩
include T in
theorem g__law_texts_right : FnG P w K mg base CX0 71 f__law_texts_right fd__law_texts_right ["_law_a", "_law_b"] (spM K 2 F__law_texts_right) :=
  have nd : N__law_texts_right.Nodup := sc__law_texts_right.nd
  jf T.d__law_texts_right.fn sc__law_texts_right (by decide) fun cdv A outer s H E gd hr =>
    jb_cons (js_set 2 nd (je_tup (ja_cons (je_mul (je_var 0) (je_int)) (ja_cons (je_var 1) (ja_cons (je_var 0) (ja_cons (je_mul (je_var 1) (je_int)) (ja_nil))))))) (jb_cons (js_if (jt_ne hr (je_callF (g__law_path T) gd (hr.mono (by decide)) T.d__law_path.mgf T.d__law_path.fn.kp T.d__law_path.b (ja_cons (je_tup (ja_cons (je_int) (ja_cons (je_tup (ja_cons (je_str) (ja_cons (je_var 2) (ja_nil)))) (ja_nil)))) (ja_cons (je_int) (ja_cons (je_int) (ja_nil))))) (je_tup (ja_cons (je_add (je_mul (je_var 0) (je_int)) (je_str)) (ja_cons (je_add (je_add (je_var 1) (je_str)) (je_var 0)) (ja_cons (je_mul (je_var 1) (je_int)) (ja_cons (je_str) (ja_nil))))))) (jb_cons (js_ret (je_bl)) (jb_nil)) (jb_nil)) (jb_cons (js_if (jt_ne hr (je_callF (g__law_path T) gd (hr.mono (by decide)) T.d__law_path.mgf T.d__law_path.fn.kp T.d__law_path.b (ja_cons (je_tup (ja_cons (je_int) (ja_cons (je_tup (ja_cons (je_str) (ja_cons (je_var 2) (ja_nil)))) (ja_nil)))) (ja_cons (je_int) (ja_cons (je_int) (ja_nil))))) (je_tup (ja_cons (je_add (je_add (je_add (je_mul (je_var 0) (je_int)) (je_str)) (je_var 1)) (je_str)) (ja_cons (je_add (je_var 0) (je_str)) (ja_cons (je_add (je_mul (je_var 1) (je_int)) (je_str)) (ja_nil)))))) (jb_cons (js_ret (je_bl)) (jb_nil)) (jb_nil)) (jb_cons (js_set 3 nd (je_add (je_add (je_add (je_add (je_add (je_add (je_mul (je_var 0) (je_int)) (je_str)) (je_var 1)) (je_str)) (je_var 0)) (je_str)) (je_mul (je_var 1) (je_int)))) (jb_cons (js_ret (je_and (je_eq hr (je_callF (g__law_path T) gd (hr.mono (by decide)) T.d__law_path.mgf T.d__law_path.fn.kp T.d__law_path.b (ja_cons (je_tup (ja_cons (je_int) (ja_cons (je_tup (ja_cons (je_str) (ja_cons (je_var 2) (ja_nil)))) (ja_nil)))) (ja_cons (je_int) (ja_cons (je_int) (ja_nil))))) (je_tup (ja_cons (je_var 3) (ja_nil)))) (je_one (je_eq hr (je_callF (g__law_path T) gd (hr.mono (by decide)) T.d__law_path.mgf T.d__law_path.fn.kp T.d__law_path.b (ja_cons (je_tup (ja_cons (je_int) (ja_cons (je_tup (ja_cons (je_str) (ja_cons (je_var 2) (ja_nil)))) (ja_nil)))) (ja_cons (je_int) (ja_cons (je_int) (ja_nil))))) (je_tup (ja_nil)))))) (jb_nil)))))
theorem sc__law_runs_right : FnScope N__law_runs_right ["_law_a", "_law_b"] (defScope s__law_runs_right) := ⟨rfl, rfl, rfl, by decide +kernel, rfl, by decide +kernel, by decide +kernel⟩
include T in
theorem g__law_runs_right : FnG P w K mg base CX0 71 f__law_runs_right fd__law_runs_right ["_law_a", "_law_b"] (spM K 2 F__law_runs_right) :=
  have nd : N__law_runs_right.Nodup := sc__law_runs_right.nd
  jf T.d__law_runs_right.fn sc__law_runs_right (by decide) fun cdv A outer s H E gd hr =>
    jb_cons (js_set 2 nd (je_tup (ja_cons (je_var 0) (ja_cons (je_mul (je_var 0) (je_int)) (ja_cons (je_var 1) (ja_cons (je_var 1) (ja_cons (je_mul (je_var 0) (je_int)) (ja_cons (je_var 1) (ja_nil))))))))) (jb_cons (js_set 3 nd (je_tup (ja_cons (je_str) (ja_cons (je_var 2) (ja_cons (je_tup (ja_cons (je_int) (ja_cons (je_int) (ja_nil)))) (ja_cons (je_tup (ja_cons (je_int) (ja_nil))) (ja_cons (je_int) (ja_nil)))))))) (jb_cons (js_if (jt_ne hr (je_callF (g__law_path T) gd (hr.mono (by decide)) T.d__law_path.mgf T.d__law_path.fn.kp T.d__law_path.b (ja_cons (je_tup (ja_cons (je_int) (ja_cons (je_var 3) (ja_nil)))) (ja_cons (je_int) (ja_cons (je_int) (ja_nil))))) (je_tup (ja_cons (je_add (je_add (je_var 0) (je_str)) (je_mul (je_var 0) (je_int))) (ja_cons (je_add (je_add (je_add (je_mul (je_var 0) (je_int)) (je_str)) (je_var 1)) (je_str)) (ja_cons (je_add (je_add (je_add (je_var 1) (je_str)) (je_var 1)) (je_str)) (ja_nil)))))) (jb_cons (js_ret (je_bl)) (jb_nil)) (jb_nil)) (jb_cons (js_if (jt_ne hr (je_callF (g__law_path T) gd (hr.mono (by decide)) T.d__law_path.mgf T.d__law_path.fn.kp T.d__law_path.b (ja_cons (je_tup (ja_cons (je_int) (ja_cons (je_tup (ja_cons (je_str) (ja_cons (je_slice (je_var 2) (jo_none) (jo_some (je_int))) (ja_cons (je_tup (ja_cons (je_int) (ja_cons (je_int) (ja_nil)))) (ja_cons (je_tup (ja_cons (je_int) (ja_nil))) (ja_cons (je_int) (ja_nil))))))) (ja_nil)))) (ja_cons (je_int) (ja_cons (je_int) (ja_nil))))) (je_tup (ja_nil))) (jb_cons (js_ret (je_bl)) (jb_nil)) (jb_nil)) (jb_cons (js_if (jt_ne hr (je_callF (g__law_path T) gd (hr.mono (by decide)) T.d__law_path.mgf T.d__law_path.fn.kp T.d__law_path.b (ja_cons (je_tup (ja_cons (je_int) (ja_cons (je_tup (ja_cons (je_str) (ja_cons (je_add (je_var 2) (je_tup (ja_cons (je_mul (je_var 0) (je_int)) (ja_cons (je_var 1) (ja_cons (je_var 1) (ja_nil)))))) (ja_cons (je_tup (ja_cons (je_int) (ja_cons (je_int) (ja_nil)))) (ja_cons (je_tup (ja_cons (je_int) (ja_nil))) (ja_cons (je_int) (ja_nil))))))) (ja_nil)))) (ja_cons (je_int) (ja_cons (je_int) (ja_nil))))) (je_tup (ja_nil))) (jb_cons (js_ret (je_bl)) (jb_nil)) (jb_nil)) (jb_cons (js_set 4 nd (je_tup (ja_cons (je_add (je_add (je_add (je_var 0) (je_str)) (je_var 1)) (je_str)) (ja_cons (je_add (je_add (je_mul (je_var 0) (je_int)) (je_str)) (je_mul (je_var 0) (je_int))) (ja_nil))))) (jb_cons (js_ret (je_eq hr (je_callF (g__law_path T) gd (hr.mono (by decide)) T.d__law_path.mgf T.d__law_path.fn.kp T.d__law_path.b (ja_cons (je_tup (ja_cons (je_int) (ja_cons (je_tup (ja_cons (je_str) (ja_cons (je_tup (ja_cons (je_var 0) (ja_cons (je_mul (je_var 0) (je_int)) (ja_cons (je_var 1) (ja_cons (je_mul (je_var 0) (je_int)) (ja_nil)))))) (ja_cons (je_tup (ja_cons (je_int) (ja_cons (je_int) (ja_nil)))) (ja_cons (je_tup (ja_cons (je_int) (ja_nil))) (ja_cons (je_int) (ja_nil))))))) (ja_nil)))) (ja_cons (je_int) (ja_cons (je_int) (ja_nil))))) (je_var 4))) (jb_nil)))))))
theorem sc_placed : FnScope N_placed ["document"] (defScope s_placed) := ⟨rfl, rfl, rfl, by decide +kernel, rfl, by decide +kernel, by decide +kernel⟩
include T in
theorem g_placed : FnG P w K mg base (L2.CX P w) 69 f_placed fd_placed ["document"] (spX K 1 F_placed) :=
  have nd : N_placed.Nodup := sc_placed.nd
  jfX T.d_placed.fn sc_placed (by decide) fun cdv A outer s H E gd hr =>
    jb_cons (js_exprX (jo_callX (takes_of rfl rfl rfl rfl) (g_check_document T) gd (hr.mono (by decide)) T.d_check_document.mgf T.d_check_document.fn.kp T.d_check_document.b (ja_cons (je_var 0) (ja_nil)))) (jb_cons (js_ret (je_totuple T.b_tuple (ja_cons (je_ix (je_callFX (g_spots_of T) gd (hr.mono (by decide)) T.d_spots_of.mgf T.d_spots_of.fn.kp T.d_spots_of.b (ja_cons (je_ix (je_var 0) (je_int)) (ja_cons (je_ix (je_var 0) (je_int)) (ja_cons (je_tup (ja_nil)) (ja_nil))))) (je_int)) (ja_nil)))) (jb_nil))
theorem sc_words_of : FnScope N_words_of ["box"] (defScope s_words_of) := ⟨rfl, rfl, rfl, by decide +kernel, rfl, by decide +kernel, by decide +kernel⟩
include T in
theorem gg_words_of : ∀ n : Nat, FnG P w K mg base CX0 (1 + n) f_words_of fd_words_of ["box"] (spM K 1 (Fr_words_of n))
  | 0 => fng_noneM
  | n + 1 => by
    have i_words_of := gg_words_of n
    · have nd : N_words_of.Nodup := sc_words_of.nd
      rw [Fr_words_of_succ]
      exact jf T.d_words_of.fn sc_words_of (by decide) fun cdv A outer s H E gd hr => jb_cons (js_if (jt_inA (je_ix (je_var 0) (je_int)) (je_tup (ja_cons (je_gstr T.c_TEXT) (ja_cons (je_gstr T.c_RUNNING) (ja_nil))))) (jb_cons (js_ret (je_tolist T.b_list (ja_cons (je_ix (je_var 0) (je_int)) (ja_nil)))) (jb_nil)) (jb_nil)) (jb_cons (js_setX 1 nd (jx_lst (ja_nil))) (jb_cons (js_for rfl (ji_any (je_ix (je_var 0) (je_int))) (jg_name 2 nd) (jb_cons (js_if (jt_eq hr (je_ix (je_var 0) (je_int)) (je_gstr T.c_TABLE)) (jb_cons (js_ext 1 (je_tell (jx_lc2 [4] rfl nd (ji_any (je_var 2)) (own := [("cell", 3), ("word", 4)]) (blkOk_by (by kernel_rfl)) (fun _ _ _ _ _ => jg_name 3 nd) (fun _ _ _ _ _ => jts_nil) (fun _ _ _ _ _ => ji_any (je_var 3)) (fun _ _ _ _ _ => jg_name 4 nd) (fun _ _ _ _ _ => jts_nil) (fun _ _ _ _ _ => je_var 4)))) (jb_nil)) (jb_cons (js_ext 1 (je_callF (i_words_of) gd (hr.mono (by try simp only [Nat.add_eq]; omega)) T.d_words_of.mgf T.d_words_of.fn.kp T.d_words_of.b (ja_cons (je_var 2) (ja_nil)))) (jb_nil))) (jb_nil))) (jb_cons (js_ret (je_var 1)) (jb_nil))))
include T in
theorem g_words_of : FnG P w K mg base CX0 (61) f_words_of fd_words_of ["box"] (spM K 1 (F_words_of)) := (gg_words_of T 60)
theorem sc_reading : FnScope N_reading ["document"] (defScope s_reading) := ⟨rfl, rfl, rfl, by decide +kernel, rfl, by decide +kernel, by decide +kernel⟩
include T in
theorem g_reading : FnG P w K mg base (L2.CX P w) 69 f_reading fd_reading ["document"] (spX K 1 F_reading) :=
  have nd : N_reading.Nodup := sc_reading.nd
  jfX T.d_reading.fn sc_reading (by decide) fun cdv A outer s H E gd hr =>
    jb_cons (js_exprX (jo_callX (takes_of rfl rfl rfl rfl) (g_check_document T) gd (hr.mono (by decide)) T.d_check_document.mgf T.d_check_document.fn.kp T.d_check_document.b (ja_cons (je_var 0) (ja_nil)))) (jb_cons (js_ret (je_totuple T.b_tuple (ja_cons (je_callF (g_words_of T) gd (hr.mono (by decide)) T.d_words_of.mgf T.d_words_of.fn.kp T.d_words_of.b (ja_cons (je_ix (je_var 0) (je_int)) (ja_nil))) (ja_nil)))) (jb_nil))
theorem sc__law_parts_right : FnScope N__law_parts_right ["_law_a", "_law_b"] (defScope s__law_parts_right) := ⟨rfl, rfl, rfl, by decide +kernel, rfl, by decide +kernel, by decide +kernel⟩
include T in
theorem g__law_parts_right : FnG P w K mg base CX0 71 f__law_parts_right fd__law_parts_right ["_law_a", "_law_b"] (spM K 2 F__law_parts_right) :=
  have nd : N__law_parts_right.Nodup := sc__law_parts_right.nd
  jf T.d__law_parts_right.fn sc__law_parts_right (by decide) fun cdv A outer s H E gd hr =>
    jb_cons (js_set 2 nd (je_tup (ja_cons (je_str) (ja_cons (je_tup (ja_cons (je_tup (ja_cons (je_str) (ja_cons (je_tup (ja_cons (je_var 0) (ja_cons (je_var 1) (ja_nil)))) (ja_nil)))) (ja_cons (je_tup (ja_cons (je_str) (ja_cons (je_tup (ja_cons (je_mul (je_var 1) (je_int)) (ja_nil))) (ja_nil)))) (ja_nil)))) (ja_cons (je_tup (ja_cons (je_int) (ja_nil))) (ja_nil)))))) (jb_cons (js_set 3 nd (je_tup (ja_cons (je_str) (ja_cons (je_tup (ja_cons (je_var 2) (ja_cons (je_tup (ja_cons (je_str) (ja_cons (je_tup (ja_cons (je_mul (je_var 0) (je_int)) (ja_cons (je_var 1) (ja_nil)))) (ja_nil)))) (ja_nil)))) (ja_cons (je_tup (ja_cons (je_int) (ja_cons (je_int) (ja_nil)))) (ja_cons (je_tup (ja_cons (je_int) (ja_nil))) (ja_nil))))))) (jb_cons (js_set 4 nd (je_tup (ja_cons (je_add (je_add (je_add (je_add (je_add (je_var 0) (je_str)) (je_var 1)) (je_str)) (je_mul (je_var 0) (je_int))) (je_str)) (ja_cons (je_add (je_add (je_str) (je_var 1)) (je_str)) (ja_cons (je_mul (je_str) (je_int)) (ja_cons (je_add (je_mul (je_var 1) (je_int)) (je_mul (je_str) (je_int))) (ja_nil))))))) (jb_cons (js_if (JW.jt (jw_or (jt_ne hr (je_callF (g__law_path T) gd (hr.mono (by decide)) T.d__law_path.mgf T.d__law_path.fn.kp T.d__law_path.b (ja_cons (je_tup (ja_cons (je_int) (ja_cons (je_var 3) (ja_nil)))) (ja_cons (je_int) (ja_cons (je_int) (ja_nil))))) (je_var 4)) (jw_or (jt_ne hr (je_callF (g__law_path T) gd (hr.mono (by decide)) T.d__law_path.mgf T.d__law_path.fn.kp T.d__law_path.b (ja_cons (je_tup (ja_cons (je_int) (ja_cons (je_var 3) (ja_nil)))) (ja_cons (je_int) (ja_cons (je_int) (ja_nil))))) (je_tup (ja_nil))) (jw_or1 (jt_ne hr (je_callF (g__law_path T) gd (hr.mono (by decide)) T.d__law_path.mgf T.d__law_path.fn.kp T.d__law_path.b (ja_cons (je_tup (ja_cons (je_int) (ja_cons (je_var 3) (ja_nil)))) (ja_cons (je_int) (ja_cons (je_int) (ja_nil))))) (je_tup (ja_nil))))))) (jb_cons (js_ret (je_bl)) (jb_nil)) (jb_nil)) (jb_cons (js_set 5 nd (je_tup (ja_cons (je_str) (ja_cons (je_tup (ja_cons (je_var 2) (ja_cons (je_tup (ja_cons (je_str) (ja_cons (je_tup (ja_cons (je_mul (je_var 0) (je_int)) (ja_cons (je_var 1) (ja_nil)))) (ja_nil)))) (ja_nil)))) (ja_cons (je_tup (ja_cons (je_int) (ja_cons (je_int) (ja_nil)))) (ja_cons (je_tup (ja_cons (je_int) (ja_nil))) (ja_nil))))))) (jb_cons (js_if (JW.jt (jw_or (jt_ne hr (je_callF (g__law_path T) gd (hr.mono (by decide)) T.d__law_path.mgf T.d__law_path.fn.kp T.d__law_path.b (ja_cons (je_tup (ja_cons (je_int) (ja_cons (je_var 5) (ja_nil)))) (ja_cons (je_int) (ja_cons (je_int) (ja_nil))))) (je_tup (ja_cons (je_int) (ja_nil)))) (jw_or1 (jt_ne hr (je_callF (g__law_path T) gd (hr.mono (by decide)) T.d__law_path.mgf T.d__law_path.fn.kp T.d__law_path.b (ja_cons (je_tup (ja_cons (je_int) (ja_cons (je_var 5) (ja_nil)))) (ja_cons (je_int) (ja_cons (je_int) (ja_nil))))) (je_tup (ja_nil)))))) (jb_cons (js_ret (je_bl)) (jb_nil)) (jb_nil)) (jb_cons (js_set 6 nd (je_tup (ja_cons (je_str) (ja_cons (je_tup (ja_cons (je_tup (ja_cons (je_str) (ja_cons (je_tup (ja_cons (je_tup (ja_cons (je_str) (ja_cons (je_tup (ja_cons (je_var 0) (ja_nil))) (ja_nil)))) (ja_cons (je_tup (ja_cons (je_str) (ja_cons (je_tup (ja_cons (je_mul (je_var 1) (je_int)) (ja_nil))) (ja_nil)))) (ja_nil)))) (ja_cons (je_tup (ja_cons (je_int) (ja_nil))) (ja_nil))))) (ja_cons (je_tup (ja_cons (je_str) (ja_cons (je_tup (ja_cons (je_mul (je_var 0) (je_int)) (ja_nil))) (ja_nil)))) (ja_nil)))) (ja_cons (je_tup (ja_cons (je_int) (ja_cons (je_int) (ja_nil)))) (ja_cons (je_tup (ja_cons (je_int) (ja_nil))) (ja_nil))))))) (jb_cons (js_if (JW.jt (jw_or (jt_ne hr (je_callF (g__law_path T) gd (hr.mono (by decide)) T.d__law_path.mgf T.d__law_path.fn.kp T.d__law_path.b (ja_cons (je_tup (ja_cons (je_int) (ja_cons (je_var 6) (ja_nil)))) (ja_cons (je_int) (ja_cons (je_int) (ja_nil))))) (je_tup (ja_cons (je_int) (ja_cons (je_int) (ja_nil))))) (jw_or1 (jt_ne hr (je_callFKX (g_reading T) gd (hr.mono (by decide)) T.d_reading.mgf T.d_reading.fn.kp T.d_reading.kb (jk_cons (je_tup (ja_cons (je_int) (ja_cons (je_var 3) (ja_nil)))) (jk_nil))) (je_tup (ja_cons (je_var 0) (ja_cons (je_var 1) (ja_cons (je_mul (je_var 1) (je_int)) (ja_cons (je_mul (je_var 0) (je_int)) (ja_cons (je_var 1) (ja_nil))))))))))) (jb_cons (js_ret (je_bl)) (jb_nil)) (jb_nil)) (jb_cons (js_ret (je_eq hr (je_callFKX (g_placed T) gd (hr.mono (by decide)) T.d_placed.mgf T.d_placed.fn.kp T.d_placed.kb (jk_cons (je_tup (ja_cons (je_int) (ja_cons (je_var 3) (ja_nil)))) (jk_nil))) (je_tup (ja_cons (je_tup (ja_cons (je_var 0) (ja_cons (je_int) (ja_cons (je_int) (ja_nil))))) (ja_cons (je_tup (ja_cons (je_var 1) (ja_cons (je_int) (ja_cons (je_int) (ja_nil))))) (ja_cons (je_tup (ja_cons (je_mul (je_var 1) (je_int)) (ja_cons (je_int) (ja_cons (je_int) (ja_nil))))) (ja_cons (je_tup (ja_cons (je_mul (je_var 0) (je_int)) (ja_cons (je_int) (ja_cons (je_int) (ja_nil))))) (ja_cons (je_tup (ja_cons (je_var 1) (ja_cons (je_int) (ja_cons (je_int) (ja_nil))))) (ja_nil))))))))) (jb_nil)))))))))
theorem sc__law_tables_right : FnScope N__law_tables_right ["_law_a", "_law_b"] (defScope s__law_tables_right) := ⟨rfl, rfl, rfl, by decide +kernel, rfl, by decide +kernel, by decide +kernel⟩
include T in
theorem g__law_tables_right : FnG P w K mg base CX0 71 f__law_tables_right fd__law_tables_right ["_law_a", "_law_b"] (spM K 2 F__law_tables_right) :=
  have nd : N__law_tables_right.Nodup := sc__law_tables_right.nd
  jf T.d__law_tables_right.fn sc__law_tables_right (by decide) fun cdv A outer s H E gd hr =>
    jb_cons (js_set 2 nd (je_tup (ja_cons (je_tup (ja_cons (je_tup (ja_cons (je_var 0) (ja_cons (je_var 1) (ja_nil)))) (ja_cons (je_tup (ja_cons (je_mul (je_var 1) (je_int)) (ja_nil))) (ja_nil)))) (ja_cons (je_tup (ja_cons (je_tup (ja_cons (je_var 1) (ja_nil))) (ja_cons (je_tup (ja_nil)) (ja_nil)))) (ja_cons (je_tup (ja_cons (je_tup (ja_cons (je_mul (je_var 0) (je_int)) (ja_nil))) (ja_cons (je_tup (ja_cons (je_var 0) (ja_cons (je_var 0) (ja_cons (je_var 1) (ja_nil))))) (ja_nil)))) (ja_nil)))))) (jb_cons (js_set 3 nd (je_tup (ja_cons (je_str) (ja_cons (je_var 2) (ja_cons (je_tup (ja_cons (je_int) (ja_cons (je_int) (ja_nil)))) (ja_cons (je_tup (ja_cons (je_int) (ja_nil))) (ja_nil))))))) (jb_cons (js_set 4 nd (je_tup (ja_cons (je_add (je_add (je_add (je_var 0) (je_str)) (je_mul (je_var 1) (je_int))) (je_str)) (ja_cons (je_add (je_var 1) (je_mul (je_str) (je_int))) (ja_cons (je_add (je_var 1) (je_mul (je_str) (je_int))) (ja_cons (je_add (je_add (je_add (je_add (je_mul (je_var 0) (je_int)) (je_str)) (je_var 0)) (je_str)) (je_var 0)) (ja_cons (je_add (je_add (je_str) (je_var 1)) (je_str)) (ja_nil)))))))) (jb_cons (js_if (JW.jt (jw_or (jt_ne hr (je_callF (g__law_path T) gd (hr.mono (by decide)) T.d__law_path.mgf T.d__law_path.fn.kp T.d__law_path.b (ja_cons (je_tup (ja_cons (je_int) (ja_cons (je_var 3) (ja_nil)))) (ja_cons (je_int) (ja_cons (je_int) (ja_nil))))) (je_var 4)) (jw_or1 (jt_ne hr (je_callF (g__law_path T) gd (hr.mono (by decide)) T.d__law_path.mgf T.d__law_path.fn.kp T.d__law_path.b (ja_cons (je_tup (ja_cons (je_int) (ja_cons (je_var 3) (ja_nil)))) (ja_cons (je_int) (ja_cons (je_int) (ja_nil))))) (je_tup (ja_nil)))))) (jb_cons (js_ret (je_bl)) (jb_nil)) (jb_nil)) (jb_cons (js_if (jt_ne hr (je_callF (g__law_path T) gd (hr.mono (by decide)) T.d__law_path.mgf T.d__law_path.fn.kp T.d__law_path.b (ja_cons (je_tup (ja_cons (je_int) (ja_cons (je_tup (ja_cons (je_str) (ja_cons (je_tup (ja_cons (je_tup (ja_cons (je_str) (ja_cons (je_tup (ja_cons (je_var 0) (ja_nil))) (ja_nil)))) (ja_cons (je_tup (ja_cons (je_str) (ja_cons (je_var 2) (ja_cons (je_tup (ja_cons (je_int) (ja_cons (je_int) (ja_nil)))) (ja_cons (je_tup (ja_cons (je_int) (ja_nil))) (ja_nil)))))) (ja_nil)))) (ja_cons (je_tup (ja_cons (je_int) (ja_nil))) (ja_nil))))) (ja_nil)))) (ja_cons (je_int) (ja_cons (je_int) (ja_nil))))) (je_tup (ja_cons (je_int) (ja_nil)))) (jb_cons (js_ret (je_bl)) (jb_nil)) (jb_nil)) (jb_cons (js_set 5 nd (je_lst (ja_cons (je_callFK (g_is_box T) gd (hr.mono (by decide)) T.d_is_box.mgf T.d_is_box.fn.kp T.d_is_box.kb (jk_cons (je_var 3) (jk_nil))) (ja_cons (je_callFK (g_is_document T) gd (hr.mono (by decide)) T.d_is_document.mgf T.d_is_document.fn.kp T.d_is_document.kb (jk_cons (je_tup (ja_cons (je_int) (ja_cons (je_var 3) (ja_nil)))) (jk_nil))) (ja_cons (je_callFK (g_is_box T) gd (hr.mono (by decide)) T.d_is_box.mgf T.d_is_box.fn.kp T.d_is_box.kb (jk_cons (je_tup (ja_cons (je_int) (ja_cons (je_var 3) (ja_nil)))) (jk_nil))) (ja_cons (je_callFK (g_is_document T) gd (hr.mono (by decide)) T.d_is_document.mgf T.d_is_document.fn.kp T.d_is_document.kb (jk_cons (je_var 3) (jk_nil))) (ja_nil))))))) (jb_cons (js_if (jt_ne hr (je_var 5) (je_lst (ja_cons (je_bl) (ja_cons (je_bl) (ja_cons (je_bl) (ja_cons (je_bl) (ja_nil))))))) (jb_cons (js_ret (je_bl)) (jb_nil)) (jb_nil)) (jb_cons (js_ret (je_eq hr (je_callFX (g_reading T) gd (hr.mono (by decide)) T.d_reading.mgf T.d_reading.fn.kp T.d_reading.b (ja_cons (je_tup (ja_cons (je_int) (ja_cons (je_var 3) (ja_nil)))) (ja_nil))) (je_tup (ja_cons (je_var 0) (ja_cons (je_var 1) (ja_cons (je_mul (je_var 1) (je_int)) (ja_cons (je_var 1) (ja_cons (je_mul (je_var 0) (je_int)) (ja_cons (je_var 0) (ja_cons (je_var 0) (ja_cons (je_var 1) (ja_nil)))))))))))) (jb_nil))))))))
theorem sc_law : FnScope N_law ["_law_script"] (defScope s_law) := ⟨rfl, rfl, rfl, by decide +kernel, rfl, by decide +kernel, by decide +kernel⟩
include T in
theorem g_law : FnG P w K mg base CX0 72 f_law fd_law ["_law_script"] (spM K 1 F_law) :=
  have nd : N_law.Nodup := sc_law.nd
  jf T.d_law.fn sc_law (by decide) fun cdv A outer s H E gd hr =>
    jb_cons (js_for rfl (ji_rng1 T.b_range (ja_cons (je_max2 rfl T.b_max (ja_cons (je_int) (ja_cons (je_min2 rfl T.b_min (ja_cons (je_int) (ja_cons (je_lenS T.b_len (je_var 0)) (ja_nil)))) (ja_nil)))) (ja_nil))) (jg_name 1 nd) (jb_cons (js_setX 2 nd (jx_callC (g__law_pot T) gd (hr.mono (by decide)) T.d__law_pot.mgf T.d__law_pot.fn.kp T.d__law_pot.b (ja_cons (je_var 0) (ja_cons (je_var 1) (ja_nil))))) (jb_cons (js_for rfl (ji_rng1 T.b_range (ja_cons (je_int) (ja_nil))) (jg_name 3 nd) (jb_cons (js_par2 rfl nd (jxs_cons (jx_je (je_callF (g__law_of T) gd (hr.mono (by decide)) T.d__law_of.mgf T.d__law_of.fn.kp T.d__law_of.b (ja_cons (je_var 2) (ja_cons (je_str) (ja_nil))))) (jxs_cons (jx_je (je_callF (g__law_of T) gd (hr.mono (by decide)) T.d__law_of.mgf T.d__law_of.fn.kp T.d__law_of.b (ja_cons (je_var 2) (ja_cons (je_str) (ja_nil))))) (jxs_nil)))) (jb_cons (js_if (JW.jt (jw_or (jt_not (jt_val (je_callF (g__law_texts_right T) gd (hr.mono (by decide)) T.d__law_texts_right.mgf T.d__law_texts_right.fn.kp T.d__law_texts_right.b (ja_cons (je_var 4) (ja_cons (je_var 5) (ja_nil)))))) (jw_or1 (jt_not (jt_val (je_callF (g__law_runs_right T) gd (hr.mono (by decide)) T.d__law_runs_right.mgf T.d__law_runs_right.fn.kp T.d__law_runs_right.b (ja_cons (je_var 4) (ja_cons (je_var 5) (ja_nil))))))))) (jb_cons (js_ret (je_bl)) (jb_nil)) (jb_nil)) (jb_cons (js_if (JW.jt (jw_or (jt_not (jt_val (je_callF (g__law_parts_right T) gd (hr.mono (by decide)) T.d__law_parts_right.mgf T.d__law_parts_right.fn.kp T.d__law_parts_right.b (ja_cons (je_var 4) (ja_cons (je_var 5) (ja_nil)))))) (jw_or1 (jt_not (jt_val (je_callF (g__law_tables_right T) gd (hr.mono (by decide)) T.d__law_tables_right.mgf T.d__law_tables_right.fn.kp T.d__law_tables_right.b (ja_cons (je_var 4) (ja_cons (je_var 5) (ja_nil))))))))) (jb_cons (js_ret (je_bl)) (jb_nil)) (jb_nil)) (jb_nil))))) (jb_nil)))) (jb_cons (js_ret (je_bl)) (jb_nil))
end
end VL

set_option Elab.async false
set_option linter.all false
set_option maxRecDepth 100000
set_option maxHeartbeats 4000000
namespace VL
open PySem PySem.Spec PyProof.Rows L2
/-! the pot that most laws draw from -/
structure Pot where
  a : Int
  b : Int
  c : Int
def potD (p : Pot) : List PyData := [.int p.a, .int p.b, .int p.c]
structure Bud (n : Nat) (p : Pot) : Prop where
  c0 : 0 ≤ p.c
  c1 : p.c + n ≤ 1099511627776
  b0 : 0 ≤ p.b
  b1 : p.b < 2305843009213693951
theorem Bud.le {m n : Nat} {p : Pot} (h : Bud n p) (hm : m ≤ n) : Bud m p := ⟨h.c0, by have := h.c1; omega, h.b0, h.b1⟩
theorem ix30 : ixN 3 0 = some 0 := rfl
theorem ix31 : ixN 3 1 = some 1 := rfl
theorem ix32 : ixN 3 2 = some 2 := rfl
theorem ix50 : ixN 5 0 = some 0 := rfl
theorem ix51 : ixN 5 1 = some 1 := rfl
theorem ix52 : ixN 5 2 = some 2 := rfl
theorem ix53 : ixN 5 3 = some 3 := rfl
theorem ix54 : ixN 5 4 = some 4 := rfl
theorem pow3 {x : Int} (h0 : 0 ≤ x) (h : x < 2 ^ 200) : powD (.int x) (.int 3) = some (.int (x ^ 3)) := by
  have hb : Builtin.Int.intBits x ≤ 200 := by
    rw [PySem.intBits_le_iff]
    have : ((x.natAbs : Nat) : Int) < ((2 ^ 200 : Nat) : Int) := by
      rw [Int.natAbs_of_nonneg h0]
      exact h
    exact Int.ofNat_lt.mp this
  exact powD_ok ⟨by decide, by
    have : (Builtin.Int.intBits x : Int) ≤ 200 := by exact_mod_cast hb
    have h2 : ((2 : Int) ^ 27) = 134217728 := by decide
    rw [h2]
    omega⟩
theorem mul_lt {a b A B : Int} (ha : 0 ≤ a) (hb : 0 ≤ b) (hA : a ≤ A) (hB : b ≤ B) : a * b ≤ A * B := Int.mul_le_mul hA hB hb (Int.le_trans ha hA)
theorem take_ok {p : Pot} {many : Int} {n : Nat} (h : Bud (n + 1) p) (hm : 0 < many) (hs : many < 1073741824) :
    ∃ r p', F__law_take [.q (potD p), .v (.int many)] = some (.int r, [.q (potD p'), .v (.int many)]) ∧ 0 ≤ r ∧ r < many ∧ Bud n p' := by
  have hc0 := h.c0
  have hc1 := h.c1
  by_cases h0 : 0 < p.a
  · refine ⟨p.a % many, ⟨p.a / many, p.b, p.c⟩, ?_, Int.emod_nonneg _ (by omega), Int.emod_lt_of_pos _ hm, h.c0, by show p.c + _ ≤ (1099511627776 : Int); omega, h.b0, h.b1⟩
    simp only [mIfX, mOkX, mTryF, xAddL, defM, defMc, defMX, mExprX, mSetX2, mRetX2, mUnpX2, mCallX, mValX, mRaise, mTryK, mIsE, mFld, mIsN, mIsNN, mIsE2, mFStr, mJoin, mEnumA, mNil, mSeq, mSeqC, mRetC, mIfS, mRet, mRetN, mBk, mCt, mSet, mSetX, mPut, mApp, mFrz, mAug, mDrop, mIns, mPopAt, mPar, setAll, mUnp, gSet, gTupM, gsCons, gsNil, tVal, tAndM, tOrM, tNotM, tYesM, mBin, mUn, mAnd, mOr, mNot, mIf, mChain, mVar, mC, mCall, mCallF, mCallC, argsOf, argOf, ptrs, putBack, aNil, aCons, mTup, mLst, mV, mTell, xLst, xToList, xsNil, xsCons, mLenS, mIxS, mDict1, mSl, oNone, oSome, mFor, mIt, mRng1, mRng2, mEnum, xLc, ownOk, wp, unwp, startS, ixD, atI, addD_int, addD_str, addD_list, addD_tuple, subD, mulD_l, mulD_r, fdivD_pos, modD_pos, ltD_int, leD_int, gtD_int, geD_int, eqD_int, neD_int, eqD_tupE, eqD_strs, neD_strs, isND, isNotND, intF, absF, lenF, joinF, negD, List.map, List.length_cons, List.length_nil, List.cons_append, List.nil_append, List.append_nil, List.replicate, List.getElem?_cons_zero, List.getElem?_cons_succ, List.set_cons_zero, List.set_cons_succ, putAt, SL.put, stables, derefs, stable, deref, heldAt, SL.held, Int.reduceLT, Int.reduceLE, Int.reduceNeg, Nat.reduceAdd, Nat.reduceLeDiff, and_self, true_and, and_true, ite_true, if_true, List.nodup_cons, List.nodup_nil, List.not_mem_nil, not_false_eq_true, Nat.succ_ne_zero, eq_self, Option.bind_some, Option.bind, Option.map, id, asOut, F__law_take, m__law_take, potD, ix30, decide_eq_true h0, hm, hs]
  · have c1 : -18446744073709551616 < p.c + 1 := by omega
    have c2 : p.c + 1 < 18446744073709551616 := by omega
    obtain ⟨q, eq⟩ : ∃ q : Int, q = p.b + 99907 * (p.c + 1) * (p.c + 1) + 53 := ⟨_, rfl⟩
    have q0 : 0 ≤ q := by
      have : 0 ≤ 99907 * (p.c + 1) * (p.c + 1) := Int.mul_nonneg (Int.mul_nonneg (by decide) (by omega)) (by omega)
      have := h.b0
      omega
    have q1 : q < 2 ^ 200 := by
      have e1 : 99907 * (p.c + 1) * (p.c + 1) ≤ 99907 * 1099511627777 * 1099511627777 := mul_lt (Int.mul_nonneg (by decide) (by omega)) (by omega) (mul_lt (by decide) (by omega) (by decide) (by omega)) (by omega)
      have := h.b1
      have e2 : (2 : Int) ^ 200 = 1606938044258990275541962092341162602522202993782792835301376 := by decide
      rw [e2]
      omega
    have pw := pow3 q0 q1
    have fin : Bud n ⟨p.a, p.b, p.c + 1⟩ := ⟨by show 0 ≤ p.c + 1; omega, by show p.c + 1 + _ ≤ (1099511627776 : Int); omega, h.b0, h.b1⟩
    have go : ∀ (k : Int) (j : Nat) (pr : Int), (p.c + 1) % 5 = k → ixN 5 k = some j → ([.int 2147483647, .int 2147483629, .int 2147483587, .int 2147483579, .int 2147483563] : List PyData)[j]? = some (.int pr) → 0 < pr → pr < 2147483648 →
        ∃ r p', F__law_take [.q (potD p), .v (.int many)] = some (.int r, [.q (potD p'), .v (.int many)]) ∧ 0 ≤ r ∧ r < many ∧ Bud n p' := by
      intro k j pr ek ej ep pr0 pr1
      obtain ⟨m1, e1⟩ : ∃ m : Int, m = (q ^ 3) % pr := ⟨_, rfl⟩
      have m10 : -18446744073709551616 < m1 := e1 ▸ Int.lt_of_lt_of_le (by decide) (Int.emod_nonneg _ (by omega))
      have m11 : m1 < 18446744073709551616 := e1 ▸ Int.lt_trans (Int.emod_lt_of_pos _ pr0) (by omega)
      obtain ⟨m2, e2⟩ : ∃ m : Int, m = (m1 * (m1 % 10007 + 89 * (p.c + 1))) % 2305843009213693907 := ⟨_, rfl⟩
      refine ⟨(m2 / 103) % many, ⟨p.a, p.b, p.c + 1⟩, ?_, Int.emod_nonneg _ (by omega), Int.emod_lt_of_pos _ hm, fin⟩
      simp only [mIfX, mOkX, mTryF, xAddL, defM, defMc, defMX, mExprX, mSetX2, mRetX2, mUnpX2, mCallX, mValX, mRaise, mTryK, mIsE, mFld, mIsN, mIsNN, mIsE2, mFStr, mJoin, mEnumA, mNil, mSeq, mSeqC, mRetC, mIfS, mRet, mRetN, mBk, mCt, mSet, mSetX, mPut, mApp, mFrz, mAug, mDrop, mIns, mPopAt, mPar, setAll, mUnp, gSet, gTupM, gsCons, gsNil, tVal, tAndM, tOrM, tNotM, tYesM, mBin, mUn, mAnd, mOr, mNot, mIf, mChain, mVar, mC, mCall, mCallF, mCallC, argsOf, argOf, ptrs, putBack, aNil, aCons, mTup, mLst, mV, mTell, xLst, xToList, xsNil, xsCons, mLenS, mIxS, mDict1, mSl, oNone, oSome, mFor, mIt, mRng1, mRng2, mEnum, xLc, ownOk, wp, unwp, startS, ixD, atI, addD_int, addD_str, addD_list, addD_tuple, subD, mulD_l, mulD_r, fdivD_pos, modD_pos, ltD_int, leD_int, gtD_int, geD_int, eqD_int, neD_int, eqD_tupE, eqD_strs, neD_strs, isND, isNotND, intF, absF, lenF, joinF, negD, List.map, List.length_cons, List.length_nil, List.cons_append, List.nil_append, List.append_nil, List.replicate, List.getElem?_cons_zero, List.getElem?_cons_succ, List.set_cons_zero, List.set_cons_succ, putAt, SL.put, stables, derefs, stable, deref, heldAt, SL.held, Int.reduceLT, Int.reduceLE, Int.reduceNeg, Nat.reduceAdd, Nat.reduceLeDiff, and_self, true_and, and_true, ite_true, if_true, List.nodup_cons, List.nodup_nil, List.not_mem_nil, not_false_eq_true, Nat.succ_ne_zero, eq_self, Option.bind_some, Option.bind, Option.map, id, asOut, F__law_take, m__law_take, potD, ix30, ix31, ix32, decide_eq_false h0, hm, mulD_r c1 c2, mulD_l m10 m11, ek, ej, ep, ← eq, pw, pr0, ← e1, ← e2]
    have hk : (p.c + 1) % 5 = 0 ∨ (p.c + 1) % 5 = 1 ∨ (p.c + 1) % 5 = 2 ∨ (p.c + 1) % 5 = 3 ∨ (p.c + 1) % 5 = 4 := by omega
    rcases hk with e | e | e | e | e
    · exact go _ _ _ e ix50 rfl (by decide) (by decide)
    · exact go _ _ _ e ix51 rfl (by decide) (by decide)
    · exact go _ _ _ e ix52 rfl (by decide) (by decide)
    · exact go _ _ _ e ix53 rfl (by decide) (by decide)
    · exact go _ _ _ e ix54 rfl (by decide) (by decide)
theorem nd1 (i : Nat) : (ptrs [.p i, .v x]).Nodup := by simp [ptrs]
theorem atI_0 {α : Type} (a : α) (l : List α) : atI (a :: l) 0 = some a := by
  unfold atI
  rw [List.length_cons, ix_0]
  rfl
theorem pot_ok {ns : List Int} {k : Int} (h0 : 0 ≤ k) (hk : k ≤ 100) : ∃ p, F__law_pot [.s (.ns ns), .v (.int k)] = some (potD p, [.s (.ns ns), .v (.int k)]) ∧ Bud 1000000000 p := by
  have k1 : -18446744073709551616 < k := by omega
  have k2 : k < 18446744073709551616 := by omega
  obtain ⟨B, e1, hB⟩ : ∃ B : Int, powD (.int (10 ^ 60)) (.int 5) = some (.int B) ∧ 0 < B := ⟨(10 ^ 60) ^ 5, powD_ok (by decide +kernel), by decide⟩
  obtain ⟨U, e0⟩ : ∃ U : Int, powD (.int 10) (.int 60) = some (.int U) ∧ U = 10 ^ 60 := ⟨_, powD_ok (by decide +kernel), rfl⟩
  obtain ⟨W, e2⟩ : ∃ W : Int, powD (.int 10) (.int 18) = some (.int W) := ⟨10 ^ 18, powD_ok (by decide +kernel)⟩
  obtain ⟨e0, rfl⟩ := e0
  have fin : ∀ (a b : Int), Bud 1000000000 ⟨a, b % 2305843009213693921, 0⟩ := fun a b => ⟨Int.le_refl _, by show (0 : Int) + ((1000000000 : Nat) : Int) ≤ 1099511627776; omega, Int.emod_nonneg _ (by decide), Int.lt_trans (Int.emod_lt_of_pos _ (by decide)) (by decide)⟩
  by_cases h : k < ns.length
  · have hk : k.toNat < ns.length := by omega
    by_cases h2 : W ≤ (if ns[k.toNat] < 0 then -ns[k.toNat] else ns[k.toNat])
    · refine ⟨⟨?a1, ?b1 % 2305843009213693921, 0⟩, ?g1, fin ?a1 ?b1⟩
      case g1 =>
        simp only [mIfX, mOkX, mTryF, xAddL, defM, defMc, defMX, mExprX, mSetX2, mRetX2, mUnpX2, mCallX, mValX, mRaise, mTryK, mIsE, mFld, mIsN, mIsNN, mIsE2, mFStr, mJoin, mEnumA, mNil, mSeq, mSeqC, mRetC, mIfS, mRet, mRetN, mBk, mCt, mSet, mSetX, mPut, mApp, mFrz, mAug, mDrop, mIns, mPopAt, mPar, setAll, mUnp, gSet, gTupM, gsCons, gsNil, tVal, tAndM, tOrM, tNotM, tYesM, mBin, mUn, mAnd, mOr, mNot, mIf, mChain, mVar, mC, mCall, mCallF, mCallC, argsOf, argOf, ptrs, putBack, aNil, aCons, mTup, mLst, mV, mTell, xLst, xToList, xsNil, xsCons, mLenS, mIxS, mDict1, mSl, oNone, oSome, mFor, mIt, mRng1, mRng2, mEnum, xLc, ownOk, wp, unwp, startS, ixD, atI, addD_int, addD_str, addD_list, addD_tuple, subD, mulD_l, mulD_r, fdivD_pos, modD_pos, ltD_int, leD_int, gtD_int, geD_int, eqD_int, neD_int, eqD_tupE, eqD_strs, neD_strs, isND, isNotND, intF, absF, lenF, joinF, negD, List.map, List.length_cons, List.length_nil, List.cons_append, List.nil_append, List.append_nil, List.replicate, List.getElem?_cons_zero, List.getElem?_cons_succ, List.set_cons_zero, List.set_cons_succ, putAt, SL.put, stables, derefs, stable, deref, heldAt, SL.held, Int.reduceLT, Int.reduceLE, Int.reduceNeg, Nat.reduceAdd, Nat.reduceLeDiff, and_self, true_and, and_true, ite_true, if_true, List.nodup_cons, List.nodup_nil, List.not_mem_nil, not_false_eq_true, Nat.succ_ne_zero, eq_self, Option.bind_some, Option.bind, Option.map, id, asOut, F__law_pot, m__law_pot, decide_eq_true h, ix_int h0 h, List.getElem?_eq_getElem hk, e0, e1, e2, hB, k1, k2, decide_eq_true h2]
        exact rfl
    · refine ⟨⟨?a2, ?b2 % 2305843009213693921, 0⟩, ?g2, fin ?a2 ?b2⟩
      case g2 =>
        simp only [mIfX, mOkX, mTryF, xAddL, defM, defMc, defMX, mExprX, mSetX2, mRetX2, mUnpX2, mCallX, mValX, mRaise, mTryK, mIsE, mFld, mIsN, mIsNN, mIsE2, mFStr, mJoin, mEnumA, mNil, mSeq, mSeqC, mRetC, mIfS, mRet, mRetN, mBk, mCt, mSet, mSetX, mPut, mApp, mFrz, mAug, mDrop, mIns, mPopAt, mPar, setAll, mUnp, gSet, gTupM, gsCons, gsNil, tVal, tAndM, tOrM, tNotM, tYesM, mBin, mUn, mAnd, mOr, mNot, mIf, mChain, mVar, mC, mCall, mCallF, mCallC, argsOf, argOf, ptrs, putBack, aNil, aCons, mTup, mLst, mV, mTell, xLst, xToList, xsNil, xsCons, mLenS, mIxS, mDict1, mSl, oNone, oSome, mFor, mIt, mRng1, mRng2, mEnum, xLc, ownOk, wp, unwp, startS, ixD, atI, addD_int, addD_str, addD_list, addD_tuple, subD, mulD_l, mulD_r, fdivD_pos, modD_pos, ltD_int, leD_int, gtD_int, geD_int, eqD_int, neD_int, eqD_tupE, eqD_strs, neD_strs, isND, isNotND, intF, absF, lenF, joinF, negD, List.map, List.length_cons, List.length_nil, List.cons_append, List.nil_append, List.append_nil, List.replicate, List.getElem?_cons_zero, List.getElem?_cons_succ, List.set_cons_zero, List.set_cons_succ, putAt, SL.put, stables, derefs, stable, deref, heldAt, SL.held, Int.reduceLT, Int.reduceLE, Int.reduceNeg, Nat.reduceAdd, Nat.reduceLeDiff, and_self, true_and, and_true, ite_true, if_true, List.nodup_cons, List.nodup_nil, List.not_mem_nil, not_false_eq_true, Nat.succ_ne_zero, eq_self, Option.bind_some, Option.bind, Option.map, id, asOut, F__law_pot, m__law_pot, decide_eq_true h, ix_int h0 h, List.getElem?_eq_getElem hk, e0, e1, e2, hB, k1, k2, decide_eq_false h2, Bool.false_eq_true, if_false]
        exact rfl
  · by_cases h2 : W ≤ (if 37 * k + 11 < 0 then -(37 * k + 11) else 37 * k + 11)
    · refine ⟨⟨?a3, ?b3 % 2305843009213693921, 0⟩, ?g3, fin ?a3 ?b3⟩
      case g3 =>
        simp only [mIfX, mOkX, mTryF, xAddL, defM, defMc, defMX, mExprX, mSetX2, mRetX2, mUnpX2, mCallX, mValX, mRaise, mTryK, mIsE, mFld, mIsN, mIsNN, mIsE2, mFStr, mJoin, mEnumA, mNil, mSeq, mSeqC, mRetC, mIfS, mRet, mRetN, mBk, mCt, mSet, mSetX, mPut, mApp, mFrz, mAug, mDrop, mIns, mPopAt, mPar, setAll, mUnp, gSet, gTupM, gsCons, gsNil, tVal, tAndM, tOrM, tNotM, tYesM, mBin, mUn, mAnd, mOr, mNot, mIf, mChain, mVar, mC, mCall, mCallF, mCallC, argsOf, argOf, ptrs, putBack, aNil, aCons, mTup, mLst, mV, mTell, xLst, xToList, xsNil, xsCons, mLenS, mIxS, mDict1, mSl, oNone, oSome, mFor, mIt, mRng1, mRng2, mEnum, xLc, ownOk, wp, unwp, startS, ixD, atI, addD_int, addD_str, addD_list, addD_tuple, subD, mulD_l, mulD_r, fdivD_pos, modD_pos, ltD_int, leD_int, gtD_int, geD_int, eqD_int, neD_int, eqD_tupE, eqD_strs, neD_strs, isND, isNotND, intF, absF, lenF, joinF, negD, List.map, List.length_cons, List.length_nil, List.cons_append, List.nil_append, List.append_nil, List.replicate, List.getElem?_cons_zero, List.getElem?_cons_succ, List.set_cons_zero, List.set_cons_succ, putAt, SL.put, stables, derefs, stable, deref, heldAt, SL.held, Int.reduceLT, Int.reduceLE, Int.reduceNeg, Nat.reduceAdd, Nat.reduceLeDiff, and_self, true_and, and_true, ite_true, if_true, List.nodup_cons, List.nodup_nil, List.not_mem_nil, not_false_eq_true, Nat.succ_ne_zero, eq_self, Option.bind_some, Option.bind, Option.map, id, asOut, F__law_pot, m__law_pot, decide_eq_false h, e0, e1, e2, hB, k1, k2, decide_eq_true h2]
        exact rfl
    · refine ⟨⟨?a4, ?b4 % 2305843009213693921, 0⟩, ?g4, fin ?a4 ?b4⟩
      case g4 =>
        simp only [mIfX, mOkX, mTryF, xAddL, defM, defMc, defMX, mExprX, mSetX2, mRetX2, mUnpX2, mCallX, mValX, mRaise, mTryK, mIsE, mFld, mIsN, mIsNN, mIsE2, mFStr, mJoin, mEnumA, mNil, mSeq, mSeqC, mRetC, mIfS, mRet, mRetN, mBk, mCt, mSet, mSetX, mPut, mApp, mFrz, mAug, mDrop, mIns, mPopAt, mPar, setAll, mUnp, gSet, gTupM, gsCons, gsNil, tVal, tAndM, tOrM, tNotM, tYesM, mBin, mUn, mAnd, mOr, mNot, mIf, mChain, mVar, mC, mCall, mCallF, mCallC, argsOf, argOf, ptrs, putBack, aNil, aCons, mTup, mLst, mV, mTell, xLst, xToList, xsNil, xsCons, mLenS, mIxS, mDict1, mSl, oNone, oSome, mFor, mIt, mRng1, mRng2, mEnum, xLc, ownOk, wp, unwp, startS, ixD, atI, addD_int, addD_str, addD_list, addD_tuple, subD, mulD_l, mulD_r, fdivD_pos, modD_pos, ltD_int, leD_int, gtD_int, geD_int, eqD_int, neD_int, eqD_tupE, eqD_strs, neD_strs, isND, isNotND, intF, absF, lenF, joinF, negD, List.map, List.length_cons, List.length_nil, List.cons_append, List.nil_append, List.append_nil, List.replicate, List.getElem?_cons_zero, List.getElem?_cons_succ, List.set_cons_zero, List.set_cons_succ, putAt, SL.put, stables, derefs, stable, deref, heldAt, SL.held, Int.reduceLT, Int.reduceLE, Int.reduceNeg, Nat.reduceAdd, Nat.reduceLeDiff, and_self, true_and, and_true, ite_true, if_true, List.nodup_cons, List.nodup_nil, List.not_mem_nil, not_false_eq_true, Nat.succ_ne_zero, eq_self, Option.bind_some, Option.bind, Option.map, id, asOut, F__law_pot, m__law_pot, decide_eq_false h, e0, e1, e2, hB, k1, k2, decide_eq_false h2, Bool.false_eq_true, if_false]
        exact rfl
theorem of_ok {p : Pot} {ds : List PyData} {n : Nat} (h : Bud (n + 1) p) (hd : 0 < ds.length) (hl : ds.length < 1073741824) :
    ∃ d p', F__law_of [.q (potD p), .v (.list ds)] = some (d, [.q (potD p'), .v (.list ds)]) ∧ d ∈ ds ∧ Bud n p' := by
  obtain ⟨r, p', e, h1, h2, h3⟩ := take_ok (many := ds.length) h (by omega) (by omega)
  have hi : r.toNat < ds.length := by omega
  refine ⟨ds[r.toNat], p', ?_, List.getElem_mem _, h3⟩
  simp only [mIfX, mOkX, mTryF, xAddL, defM, defMc, defMX, mExprX, mSetX2, mRetX2, mUnpX2, mCallX, mValX, mRaise, mTryK, mIsE, mFld, mIsN, mIsNN, mIsE2, mFStr, mJoin, mEnumA, mNil, mSeq, mSeqC, mRetC, mIfS, mRet, mRetN, mBk, mCt, mSet, mSetX, mPut, mApp, mFrz, mAug, mDrop, mIns, mPopAt, mPar, setAll, mUnp, gSet, gTupM, gsCons, gsNil, tVal, tAndM, tOrM, tNotM, tYesM, mBin, mUn, mAnd, mOr, mNot, mIf, mChain, mVar, mC, mCall, mCallF, mCallC, argsOf, argOf, ptrs, putBack, aNil, aCons, mTup, mLst, mV, mTell, xLst, xToList, xsNil, xsCons, mLenS, mIxS, mDict1, mSl, oNone, oSome, mFor, mIt, mRng1, mRng2, mEnum, xLc, ownOk, wp, unwp, startS, ixD, atI, addD_int, addD_str, addD_list, addD_tuple, subD, mulD_l, mulD_r, fdivD_pos, modD_pos, ltD_int, leD_int, gtD_int, geD_int, eqD_int, neD_int, eqD_tupE, eqD_strs, neD_strs, isND, isNotND, intF, absF, lenF, joinF, negD, List.map, List.length_cons, List.length_nil, List.cons_append, List.nil_append, List.append_nil, List.replicate, List.getElem?_cons_zero, List.getElem?_cons_succ, List.set_cons_zero, List.set_cons_succ, putAt, SL.put, stables, derefs, stable, deref, heldAt, SL.held, Int.reduceLT, Int.reduceLE, Int.reduceNeg, Nat.reduceAdd, Nat.reduceLeDiff, and_self, true_and, and_true, ite_true, if_true, List.nodup_cons, List.nodup_nil, List.not_mem_nil, not_false_eq_true, Nat.succ_ne_zero, eq_self, Option.bind_some, Option.bind, Option.map, id, asOut, F__law_of, m__law_of, e, ix_int h1 h2, List.getElem?_eq_getElem hi]
theorem of_text {p : Pot} {z : Str} {n : Nat} (h : Bud (n + 1) p) (hd : 0 < z.length) (hl : z.length ≤ 100000) :
    ∃ c p', F__law_of [.q (potD p), .v (.str z)] = some (.str ⟨#[c]⟩, [.q (potD p'), .v (.str z)]) ∧ c ∈ z.cps.toList ∧ Bud n p' := by
  obtain ⟨r, p', e, h1, h2, h3⟩ := take_ok (many := z.length) h (by omega) (by omega)
  have hz : z.cps.toList.length = z.length := by rw [Array.length_toList]; rfl
  have hi : r.toNat < z.cps.toList.length := by omega
  refine ⟨z.cps.toList[r.toNat], p', ?_, List.getElem_mem _, h3⟩
  simp only [mIfX, mOkX, mTryF, xAddL, defM, defMc, defMX, mExprX, mSetX2, mRetX2, mUnpX2, mCallX, mValX, mRaise, mTryK, mIsE, mFld, mIsN, mIsNN, mIsE2, mFStr, mJoin, mEnumA, mNil, mSeq, mSeqC, mRetC, mIfS, mRet, mRetN, mBk, mCt, mSet, mSetX, mPut, mApp, mFrz, mAug, mDrop, mIns, mPopAt, mPar, setAll, mUnp, gSet, gTupM, gsCons, gsNil, tVal, tAndM, tOrM, tNotM, tYesM, mBin, mUn, mAnd, mOr, mNot, mIf, mChain, mVar, mC, mCall, mCallF, mCallC, argsOf, argOf, ptrs, putBack, aNil, aCons, mTup, mLst, mV, mTell, xLst, xToList, xsNil, xsCons, mLenS, mIxS, mDict1, mSl, oNone, oSome, mFor, mIt, mRng1, mRng2, mEnum, xLc, ownOk, wp, unwp, startS, ixD, atI, addD_int, addD_str, addD_list, addD_tuple, subD, mulD_l, mulD_r, fdivD_pos, modD_pos, ltD_int, leD_int, gtD_int, geD_int, eqD_int, neD_int, eqD_tupE, eqD_strs, neD_strs, isND, isNotND, intF, absF, lenF, joinF, negD, List.map, List.length_cons, List.length_nil, List.cons_append, List.nil_append, List.append_nil, List.replicate, List.getElem?_cons_zero, List.getElem?_cons_succ, List.set_cons_zero, List.set_cons_succ, putAt, SL.put, stables, derefs, stable, deref, heldAt, SL.held, Int.reduceLT, Int.reduceLE, Int.reduceNeg, Nat.reduceAdd, Nat.reduceLeDiff, and_self, true_and, and_true, ite_true, if_true, List.nodup_cons, List.nodup_nil, List.not_mem_nil, not_false_eq_true, Nat.succ_ne_zero, eq_self, Option.bind_some, Option.bind, Option.map, id, asOut, F__law_of, m__law_of, e, hl, hz, ix_int h1 h2, List.getElem?_eq_getElem hi]
/-! the four parts, by the kernel, for each two letters -/
def okT (F : MF) (a b : Str) : Bool := match F [.v (.str a), .v (.str b)] with
  | some (.bool true, [.v (.str x), .v (.str y)]) => decide (x = a) && decide (y = b)
  | _ => false
theorem okT_eq {F : MF} {a b : Str} (h : okT F a b = true) : F [.v (.str a), .v (.str b)] = some (.bool true, [.v (.str a), .v (.str b)]) := by
  unfold okT at h
  split at h
  · rename_i x y e
    simp only [Bool.and_eq_true, decide_eq_true_eq] at h
    rw [e, h.1, h.2]
  · cases h
def sixC : List Nat := [97, 98, 99, 120, 121, 122]
def okC (F : MF) : Bool := sixC.all fun c => sixC.all fun e => okT F ⟨#[c]⟩ ⟨#[e]⟩
theorem okC_eq {F : MF} (h : okC F = true) {c e : Nat} (hc : c ∈ sixC) (he : e ∈ sixC) : F [.v (.str ⟨#[c]⟩), .v (.str ⟨#[e]⟩)] = some (.bool true, [.v (.str ⟨#[c]⟩), .v (.str ⟨#[e]⟩)]) := by
  unfold okC at h
  exact okT_eq (List.all_eq_true.mp (List.all_eq_true.mp h c hc) e he)
theorem texts_c : okC F__law_texts_right = true := by decide +kernel
theorem runs_c : okC F__law_runs_right = true := by decide +kernel
end VL

set_option Elab.async false
set_option linter.all false
set_option maxRecDepth 100000
set_option maxHeartbeats 4000000
namespace VL
open PySem PySem.Spec PyProof.Rows L2
theorem parts_c : okC F__law_parts_right = true := by decide +kernel
theorem tables_c : okC F__law_tables_right = true := by decide +kernel
end VL

set_option Elab.async false
set_option linter.all false
set_option maxRecDepth 100000
set_option maxHeartbeats 4000000
namespace VL
open PySem PySem.Spec PyProof.Rows L2
theorem six_text : (("abcxyz" : Str)).cps.toList = sixC := by decide +kernel
theorem turn_ok {s i t x4 x5 : Option SL} {p : Pot} {n : Nat} (hb : Bud (n + 2) p) : ∃ p' y4 y5, B1_law [s, i, some (.c (potD p)), t, x4, x5] = some (.nx, [s, i, some (.c (potD p')), t, y4, y5]) ∧ Bud n p' := by
  obtain ⟨c, p1, e1, h1, b1⟩ := of_text (p := p) (z := "abcxyz") (n := n + 1) hb (by decide) (by decide)
  obtain ⟨e, p2, e2, h2, b2⟩ := of_text (p := p1) (z := "abcxyz") (n := n) b1 (by decide) (by decide)
  rw [six_text] at h1 h2
  have g1 := okC_eq texts_c h1 h2
  have g2 := okC_eq runs_c h1 h2
  have g3 := okC_eq parts_c h1 h2
  have g4 := okC_eq tables_c h1 h2
  refine ⟨p2, some (.v (.str ⟨#[c]⟩)), some (.v (.str ⟨#[e]⟩)), ?_, b2⟩
  obtain ⟨A, hA⟩ : ∃ A : Str, A = ⟨#[c]⟩ := ⟨_, rfl⟩
  obtain ⟨B, hB⟩ : ∃ B : Str, B = ⟨#[e]⟩ := ⟨_, rfl⟩
  rw [← hA] at e1 g1 g2 g3 g4 ⊢
  rw [← hB] at e2 g1 g2 g3 g4 ⊢
  simp only [mIfX, mOkX, mTryF, xAddL, defM, defMc, defMX, mExprX, mSetX2, mRetX2, mUnpX2, mCallX, mValX, mRaise, mTryK, mIsE, mFld, mIsN, mIsNN, mIsE2, mFStr, mJoin, mEnumA, mNil, mSeq, mSeqC, mRetC, mIfS, mRet, mRetN, mBk, mCt, mSet, mSetX, mPut, mApp, mFrz, mAug, mDrop, mIns, mPopAt, mPar, setAll, mUnp, gSet, gTupM, gsCons, gsNil, tVal, tAndM, tOrM, tNotM, tYesM, mBin, mUn, mAnd, mOr, mNot, mIf, mChain, mVar, mC, mCall, mCallF, mCallC, argsOf, argOf, ptrs, putBack, aNil, aCons, mTup, mLst, mV, mTell, xLst, xToList, xsNil, xsCons, mLenS, mIxS, mDict1, mSl, oNone, oSome, mFor, mIt, mRng1, mRng2, mEnum, xLc, ownOk, wp, unwp, startS, ixD, atI, addD_int, addD_str, addD_list, addD_tuple, subD, mulD_l, mulD_r, fdivD_pos, modD_pos, ltD_int, leD_int, gtD_int, geD_int, eqD_int, neD_int, eqD_tupE, eqD_strs, neD_strs, isND, isNotND, intF, absF, lenF, joinF, negD, List.map, List.length_cons, List.length_nil, List.cons_append, List.nil_append, List.append_nil, List.replicate, List.getElem?_cons_zero, List.getElem?_cons_succ, List.set_cons_zero, List.set_cons_succ, putAt, SL.put, stables, derefs, stable, deref, heldAt, SL.held, Int.reduceLT, Int.reduceLE, Int.reduceNeg, Nat.reduceAdd, Nat.reduceLeDiff, and_self, true_and, and_true, ite_true, if_true, List.nodup_cons, List.nodup_nil, List.not_mem_nil, not_false_eq_true, Nat.succ_ne_zero, eq_self, Option.bind_some, Option.bind, Option.map, id, asOut, B1_law, e1, e2, g1, g2, g3, g4, Bool.not_true]
theorem turns_ok {s i t x4 x5 : Option SL} {p : Pot} {n : Nat} (hb : Bud (n + 12) p) : ∃ p' y3 y4 y5, L2_law [s, i, some (.c (potD p)), t, x4, x5] = some (.nx, [s, i, some (.c (potD p')), y3, y4, y5]) ∧ Bud n p' := by
  have eM : mRng1 (aCons (mC (.int 6)) (aNil)) [s, i, some (.c (potD p)), t, x4, x5] = some (rngD 0 6, [s, i, some (.c (potD p)), t, x4, x5]) := rfl
  obtain ⟨S', e4, p', y3, y4, y5, rfl, b⟩ := for_all (mi := mRng1 (aCons (mC (.int 6)) (aNil))) (g := gSet 3) (mb := B1_law)
    (fun j S => ∃ (p' : Pot) (y3 y4 y5 : Option SL), S = [s, i, some (.c (potD p')), y3, y4, y5] ∧ Bud (n + 2 * (6 - j)) p') eM ⟨p, t, x4, x5, rfl, hb⟩ fun j x S hd => by
      rintro ⟨p', y3, y4, y5, rfl, b⟩
      obtain ⟨hj, rfl⟩ := rngD_get hd
      obtain ⟨p2, z4, z5, e, b2⟩ := turn_ok (s := s) (i := i) (t := some (.v (.int (0 + (j : Nat))))) (x4 := y4) (x5 := y5) (n := n + 2 * (6 - (j + 1))) (b.le (by omega))
      exact ⟨_, _, rfl, .inl e, p2, _, z4, z5, rfl, b2⟩
  exact ⟨p', y3, y4, y5, e4, b.le (Nat.le_add_right _ _)⟩
theorem run_callC {nn : Nat} {mf : MFc} {mas : MA} {S S1 S2 : Sl} {rs : List SV} {as as' : List SL} {ds : List PyData} {QX : SL → Sl → Prop} (h : mas S = some (rs, S1)) (hn : rs.length = nn) (nd : (ptrs rs).Nodup) (ha : argsOf S1 rs = some as) (hm : mf as = some (ds, as')) (hp : putBack S1 rs as' = some S2) (q : QX (.c ds) S2) : Run (mCallC nn mf mas S) QX := by
  refine ⟨_, _, ?_, q⟩
  simp only [mCallC, h]
  rw [if_pos ⟨hn, nd⟩]
  simp only [ha, hm, hp]
theorem law_true {ns : List Int} (hns : ns.length ≤ 63) : F_law [.s (.ns ns)] = some (.bool true, [.s (.ns ns)]) := by
  have key : ∃ d as', F_law [.s (.ns ns)] = some (d, as') ∧ d = .bool true ∧ as' = [.s (.ns ns)] := by
    refine run_def (P := fun d as' => d = .bool true ∧ as' = [.s (.ns ns)]) ?_
    obtain ⟨m, hm, hm3⟩ : ∃ m : Int, (if (if (ns.length : Int) < 3 then (ns.length : Int) else 3) > 1 then (if (ns.length : Int) < 3 then (ns.length : Int) else 3) else 1) = m ∧ 0 ≤ m ∧ m ≤ 3 := ⟨_, rfl, by split <;> split <;> omega, by split <;> split <;> omega⟩
    apply run_seq
    refine run_for (ds := rngD 0 m.toNat) (S1 := [some (.s (.ns ns)), none, none, none, none, none]) (fun j S => ∃ (t1 t2 t3 t4 t5 : Option SL), S = [some (.s (.ns ns)), t1, t2, t3, t4, t5]) ?_ ⟨_, _, _, _, _, rfl⟩ ?_ ?_
    · simp only [mIfX, mOkX, mTryF, xAddL, defM, defMc, defMX, mExprX, mSetX2, mRetX2, mUnpX2, mCallX, mValX, mRaise, mTryK, mIsE, mFld, mIsN, mIsNN, mIsE2, mFStr, mJoin, mEnumA, mNil, mSeq, mSeqC, mRetC, mIfS, mRet, mRetN, mBk, mCt, mSet, mSetX, mPut, mApp, mFrz, mAug, mDrop, mIns, mPopAt, mPar, setAll, mUnp, gSet, gTupM, gsCons, gsNil, tVal, tAndM, tOrM, tNotM, tYesM, mBin, mUn, mAnd, mOr, mNot, mIf, mChain, mVar, mC, mCall, mCallF, mCallC, argsOf, argOf, ptrs, putBack, aNil, aCons, mTup, mLst, mV, mTell, xLst, xToList, xsNil, xsCons, mLenS, mIxS, mDict1, mSl, oNone, oSome, mFor, mIt, mRng1, mRng2, mEnum, xLc, ownOk, wp, unwp, startS, ixD, atI, addD_int, addD_str, addD_list, addD_tuple, subD, mulD_l, mulD_r, fdivD_pos, modD_pos, ltD_int, leD_int, gtD_int, geD_int, eqD_int, neD_int, eqD_tupE, eqD_strs, neD_strs, isND, isNotND, intF, absF, lenF, joinF, negD, List.map, List.length_cons, List.length_nil, List.cons_append, List.nil_append, List.append_nil, List.replicate, List.getElem?_cons_zero, List.getElem?_cons_succ, List.set_cons_zero, List.set_cons_succ, putAt, SL.put, stables, derefs, stable, deref, heldAt, SL.held, Int.reduceLT, Int.reduceLE, Int.reduceNeg, Nat.reduceAdd, Nat.reduceLeDiff, and_self, true_and, and_true, ite_true, if_true, List.nodup_cons, List.nodup_nil, List.not_mem_nil, not_false_eq_true, Nat.succ_ne_zero, eq_self, Option.bind_some, Option.bind, Option.map, id, asOut, max2F, min2F, hm]
      exact if_pos ⟨by omega, by omega⟩
    · rintro j d S hd ⟨t1, t2, t3, t4, t5, rfl⟩
      obtain ⟨i, rfl, i0, i3⟩ : ∃ i : Int, d = .int i ∧ 0 ≤ i ∧ i ≤ 100 := by
        unfold rngD at hd
        rw [List.getElem?_map] at hd
        obtain ⟨k, hk, rfl⟩ := Option.map_eq_some_iff.mp hd
        have := (List.getElem?_eq_some_iff.mp hk)
        obtain ⟨h1, h2⟩ := this
        rw [List.length_range] at h1
        rw [List.getElem_range] at h2
        exact ⟨_, rfl, by omega, by omega⟩
      refine ⟨_, rfl, ?_⟩
      obtain ⟨p, ep, bp⟩ := pot_ok (ns := ns) (k := i) i0 i3
      obtain ⟨p', y3, y4, y5, el, bl⟩ := turns_ok (s := some (.s (.ns ns))) (i := some (.v (.int i))) (t := t3) (x4 := t4) (x5 := t5) (p := p) (n := 0) (bp.le (by decide))
      apply run_seq
      apply run_setX
      apply run_callC (rs := [.s (.ns ns), .v (.int i)]) (S1 := [some (.s (.ns ns)), some (.v (.int i)), t2, t3, t4, t5]) ?_ rfl (by simp [ptrs]) rfl ep rfl
      · exact .inr ⟨_, rfl, by
          show Run _ _
          apply run_one
          refine run_eq el ?_
          exact ⟨.inl rfl, _, _, _, _, _, rfl⟩⟩
      · simp only [mIfX, mOkX, mTryF, xAddL, defM, defMc, defMX, mExprX, mSetX2, mRetX2, mUnpX2, mCallX, mValX, mRaise, mTryK, mIsE, mFld, mIsN, mIsNN, mIsE2, mFStr, mJoin, mEnumA, mNil, mSeq, mSeqC, mRetC, mIfS, mRet, mRetN, mBk, mCt, mSet, mSetX, mPut, mApp, mFrz, mAug, mDrop, mIns, mPopAt, mPar, setAll, mUnp, gSet, gTupM, gsCons, gsNil, tVal, tAndM, tOrM, tNotM, tYesM, mBin, mUn, mAnd, mOr, mNot, mIf, mChain, mVar, mC, mCall, mCallF, mCallC, argsOf, argOf, ptrs, putBack, aNil, aCons, mTup, mLst, mV, mTell, xLst, xToList, xsNil, xsCons, mLenS, mIxS, mDict1, mSl, oNone, oSome, mFor, mIt, mRng1, mRng2, mEnum, xLc, ownOk, wp, unwp, startS, ixD, atI, addD_int, addD_str, addD_list, addD_tuple, subD, mulD_l, mulD_r, fdivD_pos, modD_pos, ltD_int, leD_int, gtD_int, geD_int, eqD_int, neD_int, eqD_tupE, eqD_strs, neD_strs, isND, isNotND, intF, absF, lenF, joinF, negD, List.map, List.length_cons, List.length_nil, List.cons_append, List.nil_append, List.append_nil, List.replicate, List.getElem?_cons_zero, List.getElem?_cons_succ, List.set_cons_zero, List.set_cons_succ, putAt, SL.put, stables, derefs, stable, deref, heldAt, SL.held, Int.reduceLT, Int.reduceLE, Int.reduceNeg, Nat.reduceAdd, Nat.reduceLeDiff, and_self, true_and, and_true, ite_true, if_true, List.nodup_cons, List.nodup_nil, List.not_mem_nil, not_false_eq_true, Nat.succ_ne_zero, eq_self, Option.bind_some, Option.bind, Option.map, id, asOut]
    · rintro S ⟨t1, t2, t3, t4, t5, rfl⟩
      show Run _ _
      apply run_eq
      · simp only [mIfX, mOkX, mTryF, xAddL, defM, defMc, defMX, mExprX, mSetX2, mRetX2, mUnpX2, mCallX, mValX, mRaise, mTryK, mIsE, mFld, mIsN, mIsNN, mIsE2, mFStr, mJoin, mEnumA, mNil, mSeq, mSeqC, mRetC, mIfS, mRet, mRetN, mBk, mCt, mSet, mSetX, mPut, mApp, mFrz, mAug, mDrop, mIns, mPopAt, mPar, setAll, mUnp, gSet, gTupM, gsCons, gsNil, tVal, tAndM, tOrM, tNotM, tYesM, mBin, mUn, mAnd, mOr, mNot, mIf, mChain, mVar, mC, mCall, mCallF, mCallC, argsOf, argOf, ptrs, putBack, aNil, aCons, mTup, mLst, mV, mTell, xLst, xToList, xsNil, xsCons, mLenS, mIxS, mDict1, mSl, oNone, oSome, mFor, mIt, mRng1, mRng2, mEnum, xLc, ownOk, wp, unwp, startS, ixD, atI, addD_int, addD_str, addD_list, addD_tuple, subD, mulD_l, mulD_r, fdivD_pos, modD_pos, ltD_int, leD_int, gtD_int, geD_int, eqD_int, neD_int, eqD_tupE, eqD_strs, neD_strs, isND, isNotND, intF, absF, lenF, joinF, negD, List.map, List.length_cons, List.length_nil, List.cons_append, List.nil_append, List.append_nil, List.replicate, List.getElem?_cons_zero, List.getElem?_cons_succ, List.set_cons_zero, List.set_cons_succ, putAt, SL.put, stables, derefs, stable, deref, heldAt, SL.held, Int.reduceLT, Int.reduceLE, Int.reduceNeg, Nat.reduceAdd, Nat.reduceLeDiff, and_self, true_and, and_true, ite_true, if_true, List.nodup_cons, List.nodup_nil, List.not_mem_nil, not_false_eq_true, Nat.succ_ne_zero, eq_self, Option.bind_some, Option.bind, Option.map, id, asOut]
        exact rfl
      exact ⟨_, _, rfl, rfl, rfl, rfl⟩
  obtain ⟨x, as', e, rfl, rfl⟩ := key
  exact e
end VL

set_option Elab.async false
set_option linter.all false
set_option maxRecDepth 100000
set_option maxHeartbeats 4000000
namespace VL
open PySem PySem.Spec PyProof.Rows L2
theorem all_mk {l : PySem.W.OpenLaw} {w : World} {K : PySem.W.Frag} {h : Heap} {mg : Str → Option Value} {fa f__law_pot f__law_take f__law_of f_is_integer f_is_size f_is_word f_are_words f_is_text f_are_sizes f_are_strips f_is_running f_are_cells f_is_table f_is_box f_is_stack f_are_parts f_are_columns f_is_document f_check_document f_row_width f_filled f_filled_in f_check_strips f_places_of f_running_spots f_moved f_table_spots f_spots_of f_stack_spots f_column_spots f_drawn f_set_on f__law_path f__law_texts_right f__law_runs_right f_placed f_words_of f_reading f__law_parts_right f__law_tables_right f_law C_BadDocument C_CannotSet C_BadSize I_BadDocument I_CannotSet I_BadSize : Addr} {t_BLANK t_COLUMNS t_LEAST_PARTS t_LEAST_ROWS t_LEAST_WIDTHS t_LETTERS t_MOST_WIDTHS t_PAIR t_QUADRUPLE t_QUINTUPLE t_RUNNING t_STACK t_TABLE t_TEXT t_TRIPLE : Tok} (X : K.In h) (G : h.Ns mainGlobals mg) (hfa : mg "law" = some (.ref fa))
    {od0 an0 od1 an1 od2 an2 od3 an3 od4 an4 od5 an5 od6 an6 od7 an7 od8 an8 od9 an9 od10 an10 od11 an11 od12 an12 od13 an13 od14 an14 od15 an15 od16 an16 od17 an17 od18 an18 od19 an19 od20 an20 od21 an21 od22 an22 od23 an23 od24 an24 od25 an25 od26 an26 od27 an27 od28 an28 od29 an29 od30 an30 od31 an31 od32 an32 od33 an33 od34 an34 od35 an35 od36 an36 od37 an37 od38 an38 od39 an39 od40 an40 : Option Addr} {sl0 sl1 sl2 sl3 sl4 sl5 sl6 sl7 sl8 sl9 sl10 sl11 sl12 sl13 sl14 sl15 sl16 sl17 sl18 sl19 sl20 sl21 sl22 sl23 sl24 sl25 sl26 sl27 sl28 sl29 sl30 sl31 sl32 sl33 sl34 sl35 sl36 sl37 sl38 sl39 sl40 : Array (Option Value)} {oc0 kV0 dc0 pm0 cd0 ct0 oc1 kV1 dc1 pm1 cd1 ct1 oc2 kV2 dc2 pm2 cd2 ct2 oc3 kV3 dc3 pm3 cd3 ct3 oc4 kV4 dc4 pm4 cd4 ct4 oc5 kV5 dc5 pm5 cd5 ct5 oc6 kV6 dc6 pm6 cd6 ct6 oc7 kV7 dc7 pm7 cd7 ct7 oc8 kV8 dc8 pm8 cd8 ct8 oc9 kV9 dc9 pm9 cd9 ct9 oc10 kV10 dc10 pm10 cd10 ct10 oc11 kV11 dc11 pm11 cd11 ct11 oc12 kV12 dc12 pm12 cd12 ct12 oc13 kV13 dc13 pm13 cd13 ct13 oc14 kV14 dc14 pm14 cd14 ct14 oc15 kV15 dc15 pm15 cd15 ct15 oc16 kV16 dc16 pm16 cd16 ct16 oc17 kV17 dc17 pm17 cd17 ct17 oc18 kV18 dc18 pm18 cd18 ct18 oc19 kV19 dc19 pm19 cd19 ct19 oc20 kV20 dc20 pm20 cd20 ct20 oc21 kV21 dc21 pm21 cd21 ct21 oc22 kV22 dc22 pm22 cd22 ct22 oc23 kV23 dc23 pm23 cd23 ct23 oc24 kV24 dc24 pm24 cd24 ct24 oc25 kV25 dc25 pm25 cd25 ct25 oc26 kV26 dc26 pm26 cd26 ct26 oc27 kV27 dc27 pm27 cd27 ct27 oc28 kV28 dc28 pm28 cd28 ct28 oc29 kV29 dc29 pm29 cd29 ct29 oc30 kV30 dc30 pm30 cd30 ct30 oc31 kV31 dc31 pm31 cd31 ct31 oc32 kV32 dc32 pm32 cd32 ct32 oc33 kV33 dc33 pm33 cd33 ct33 oc34 kV34 dc34 pm34 cd34 ct34 oc35 kV35 dc35 pm35 cd35 ct35 oc36 kV36 dc36 pm36 cd36 ct36 oc37 kV37 dc37 pm37 cd37 ct37 oc38 kV38 dc38 pm38 cd38 ct38 oc39 kV39 dc39 pm39 cd39 ct39 oc40 kV40 dc40 pm40 cd40 ct40 : Value}
    {cnm_BadDocument : Str} {cq_BadDocument : Str} {cN_BadDocument : Addr} {cbs_BadDocument cbm_BadDocument : List Value} {csn_BadDocument : List Str} {csub_BadDocument : List Value} {cab_BadDocument : Bool} {ccol_BadDocument : Option Bool} {cdd_BadDocument : Option Addr} {ck0_BadDocument ck1_BadDocument ck2_BadDocument ck3_BadDocument ck5_BadDocument : Option Value}
    {ioc_BadDocument idoc_BadDocument ipm_BadDocument ict_BadDocument iccl_BadDocument icl_BadDocument : Value} {iod_BadDocument ian_BadDocument icdd_BadDocument icld_BadDocument : Option Addr} {iosl_BadDocument iccs_BadDocument icsl_BadDocument : Array (Option Value)} {a1_BadDocument a2_BadDocument p0_BadDocument p1_BadDocument p2_BadDocument p3_BadDocument p4_BadDocument p5_BadDocument q1_BadDocument q2_BadDocument q3_BadDocument q4_BadDocument : Pos} {iq_BadDocument ifile_BadDocument : Str} {icc_BadDocument icda_BadDocument : Addr} {ivs_BadDocument : Array Value} {itf_BadDocument : Tok}
    {cnm_CannotSet : Str} {cq_CannotSet : Str} {cN_CannotSet : Addr} {cbs_CannotSet cbm_CannotSet : List Value} {csn_CannotSet : List Str} {csub_CannotSet : List Value} {cab_CannotSet : Bool} {ccol_CannotSet : Option Bool} {cdd_CannotSet : Option Addr} {ck0_CannotSet ck1_CannotSet ck2_CannotSet ck3_CannotSet ck5_CannotSet : Option Value}
    {ioc_CannotSet idoc_CannotSet ipm_CannotSet ict_CannotSet iccl_CannotSet icl_CannotSet : Value} {iod_CannotSet ian_CannotSet icdd_CannotSet icld_CannotSet : Option Addr} {iosl_CannotSet iccs_CannotSet icsl_CannotSet : Array (Option Value)} {a1_CannotSet a2_CannotSet p0_CannotSet p1_CannotSet p2_CannotSet p3_CannotSet p4_CannotSet p5_CannotSet q1_CannotSet q2_CannotSet q3_CannotSet q4_CannotSet : Pos} {iq_CannotSet ifile_CannotSet : Str} {icc_CannotSet icda_CannotSet : Addr} {ivs_CannotSet : Array Value} {itf_CannotSet : Tok}
    {cnm_BadSize : Str} {cq_BadSize : Str} {cN_BadSize : Addr} {cbs_BadSize cbm_BadSize : List Value} {csn_BadSize : List Str} {csub_BadSize : List Value} {cab_BadSize : Bool} {ccol_BadSize : Option Bool} {cdd_BadSize : Option Addr} {ck0_BadSize ck1_BadSize ck2_BadSize ck3_BadSize ck5_BadSize : Option Value}
    {ioc_BadSize idoc_BadSize ipm_BadSize ict_BadSize iccl_BadSize icl_BadSize : Value} {iod_BadSize ian_BadSize icdd_BadSize icld_BadSize : Option Addr} {iosl_BadSize iccs_BadSize icsl_BadSize : Array (Option Value)} {a1_BadSize a2_BadSize p0_BadSize p1_BadSize p2_BadSize p3_BadSize p4_BadSize p5_BadSize q1_BadSize q2_BadSize q3_BadSize q4_BadSize : Pos} {iq_BadSize ifile_BadSize : Str} {icc_BadSize icda_BadSize : Addr} {ivs_BadSize : Array Value} {itf_BadSize : Tok}
    (a0 : PySem.W.nsIn K mainGlobals "_law_pot" = some (some (.ref f__law_pot)))
    (l0 : K.lookup f__law_pot = some ⟨oc0, od0, .func (PySem.W.fnOf "_law_pot" "_law_pot" (defArgs s__law_pot) (defBody s__law_pot) (defScope s__law_pot) .none kV0 dc0 pm0 an0 cd0 ct0), sl0⟩)
    (c0 : PySem.W.codeIn K cd0 "_law_pot" = true)
    (k0 : PySem.W.keepIn K (.ref f__law_pot) = true)
    (a1 : PySem.W.nsIn K mainGlobals "_law_take" = some (some (.ref f__law_take)))
    (l1 : K.lookup f__law_take = some ⟨oc1, od1, .func (PySem.W.fnOf "_law_take" "_law_take" (defArgs s__law_take) (defBody s__law_take) (defScope s__law_take) .none kV1 dc1 pm1 an1 cd1 ct1), sl1⟩)
    (c1 : PySem.W.codeIn K cd1 "_law_take" = true)
    (k1 : PySem.W.keepIn K (.ref f__law_take) = true)
    (a2 : PySem.W.nsIn K mainGlobals "_law_of" = some (some (.ref f__law_of)))
    (l2 : K.lookup f__law_of = some ⟨oc2, od2, .func (PySem.W.fnOf "_law_of" "_law_of" (defArgs s__law_of) (defBody s__law_of) (defScope s__law_of) .none kV2 dc2 pm2 an2 cd2 ct2), sl2⟩)
    (c2 : PySem.W.codeIn K cd2 "_law_of" = true)
    (k2 : PySem.W.keepIn K (.ref f__law_of) = true)
    (a3 : PySem.W.nsIn K mainGlobals "is_integer" = some (some (.ref f_is_integer)))
    (l3 : K.lookup f_is_integer = some ⟨oc3, od3, .func (PySem.W.fnOf "is_integer" "is_integer" (defArgs s_is_integer) (defBody s_is_integer) (defScope s_is_integer) .none kV3 dc3 pm3 an3 cd3 ct3), sl3⟩)
    (c3 : PySem.W.codeIn K cd3 "is_integer" = true)
    (k3 : PySem.W.keepIn K (.ref f_is_integer) = true)
    (a4 : PySem.W.nsIn K mainGlobals "is_size" = some (some (.ref f_is_size)))
    (l4 : K.lookup f_is_size = some ⟨oc4, od4, .func (PySem.W.fnOf "is_size" "is_size" (defArgs s_is_size) (defBody s_is_size) (defScope s_is_size) .none kV4 dc4 pm4 an4 cd4 ct4), sl4⟩)
    (c4 : PySem.W.codeIn K cd4 "is_size" = true)
    (k4 : PySem.W.keepIn K (.ref f_is_size) = true)
    (a5 : PySem.W.nsIn K mainGlobals "is_word" = some (some (.ref f_is_word)))
    (l5 : K.lookup f_is_word = some ⟨oc5, od5, .func (PySem.W.fnOf "is_word" "is_word" (defArgs s_is_word) (defBody s_is_word) (defScope s_is_word) .none kV5 dc5 pm5 an5 cd5 ct5), sl5⟩)
    (c5 : PySem.W.codeIn K cd5 "is_word" = true)
    (k5 : PySem.W.keepIn K (.ref f_is_word) = true)
    (a6 : PySem.W.nsIn K mainGlobals "are_words" = some (some (.ref f_are_words)))
    (l6 : K.lookup f_are_words = some ⟨oc6, od6, .func (PySem.W.fnOf "are_words" "are_words" (defArgs s_are_words) (defBody s_are_words) (defScope s_are_words) .none kV6 dc6 pm6 an6 cd6 ct6), sl6⟩)
    (c6 : PySem.W.codeIn K cd6 "are_words" = true)
    (k6 : PySem.W.keepIn K (.ref f_are_words) = true)
    (a7 : PySem.W.nsIn K mainGlobals "is_text" = some (some (.ref f_is_text)))
    (l7 : K.lookup f_is_text = some ⟨oc7, od7, .func (PySem.W.fnOf "is_text" "is_text" (defArgs s_is_text) (defBody s_is_text) (defScope s_is_text) .none kV7 dc7 pm7 an7 cd7 ct7), sl7⟩)
    (c7 : PySem.W.codeIn K cd7 "is_text" = true)
    (k7 : PySem.W.keepIn K (.ref f_is_text) = true)
    (a8 : PySem.W.nsIn K mainGlobals "are_sizes" = some (some (.ref f_are_sizes)))
    (l8 : K.lookup f_are_sizes = some ⟨oc8, od8, .func (PySem.W.fnOf "are_sizes" "are_sizes" (defArgs s_are_sizes) (defBody s_are_sizes) (defScope s_are_sizes) .none kV8 dc8 pm8 an8 cd8 ct8), sl8⟩)
    (c8 : PySem.W.codeIn K cd8 "are_sizes" = true)
    (k8 : PySem.W.keepIn K (.ref f_are_sizes) = true)
    (a9 : PySem.W.nsIn K mainGlobals "are_strips" = some (some (.ref f_are_strips)))
    (l9 : K.lookup f_are_strips = some ⟨oc9, od9, .func (PySem.W.fnOf "are_strips" "are_strips" (defArgs s_are_strips) (defBody s_are_strips) (defScope s_are_strips) .none kV9 dc9 pm9 an9 cd9 ct9), sl9⟩)
    (c9 : PySem.W.codeIn K cd9 "are_strips" = true)
    (k9 : PySem.W.keepIn K (.ref f_are_strips) = true)
    (a10 : PySem.W.nsIn K mainGlobals "is_running" = some (some (.ref f_is_running)))
    (l10 : K.lookup f_is_running = some ⟨oc10, od10, .func (PySem.W.fnOf "is_running" "is_running" (defArgs s_is_running) (defBody s_is_running) (defScope s_is_running) .none kV10 dc10 pm10 an10 cd10 ct10), sl10⟩)
    (c10 : PySem.W.codeIn K cd10 "is_running" = true)
    (k10 : PySem.W.keepIn K (.ref f_is_running) = true)
    (a11 : PySem.W.nsIn K mainGlobals "are_cells" = some (some (.ref f_are_cells)))
    (l11 : K.lookup f_are_cells = some ⟨oc11, od11, .func (PySem.W.fnOf "are_cells" "are_cells" (defArgs s_are_cells) (defBody s_are_cells) (defScope s_are_cells) .none kV11 dc11 pm11 an11 cd11 ct11), sl11⟩)
    (c11 : PySem.W.codeIn K cd11 "are_cells" = true)
    (k11 : PySem.W.keepIn K (.ref f_are_cells) = true)
    (a12 : PySem.W.nsIn K mainGlobals "is_table" = some (some (.ref f_is_table)))
    (l12 : K.lookup f_is_table = some ⟨oc12, od12, .func (PySem.W.fnOf "is_table" "is_table" (defArgs s_is_table) (defBody s_is_table) (defScope s_is_table) .none kV12 dc12 pm12 an12 cd12 ct12), sl12⟩)
    (c12 : PySem.W.codeIn K cd12 "is_table" = true)
    (k12 : PySem.W.keepIn K (.ref f_is_table) = true)
    (a13 : PySem.W.nsIn K mainGlobals "is_box" = some (some (.ref f_is_box)))
    (l13 : K.lookup f_is_box = some ⟨oc13, od13, .func (PySem.W.fnOf "is_box" "is_box" (defArgs s_is_box) (defBody s_is_box) (defScope s_is_box) .none kV13 dc13 pm13 an13 cd13 ct13), sl13⟩)
    (c13 : PySem.W.codeIn K cd13 "is_box" = true)
    (k13 : PySem.W.keepIn K (.ref f_is_box) = true)
    (a14 : PySem.W.nsIn K mainGlobals "is_stack" = some (some (.ref f_is_stack)))
    (l14 : K.lookup f_is_stack = some ⟨oc14, od14, .func (PySem.W.fnOf "is_stack" "is_stack" (defArgs s_is_stack) (defBody s_is_stack) (defScope s_is_stack) .none kV14 dc14 pm14 an14 cd14 ct14), sl14⟩)
    (c14 : PySem.W.codeIn K cd14 "is_stack" = true)
    (k14 : PySem.W.keepIn K (.ref f_is_stack) = true)
    (a15 : PySem.W.nsIn K mainGlobals "are_parts" = some (some (.ref f_are_parts)))
    (l15 : K.lookup f_are_parts = some ⟨oc15, od15, .func (PySem.W.fnOf "are_parts" "are_parts" (defArgs s_are_parts) (defBody s_are_parts) (defScope s_are_parts) .none kV15 dc15 pm15 an15 cd15 ct15), sl15⟩)
    (c15 : PySem.W.codeIn K cd15 "are_parts" = true)
    (k15 : PySem.W.keepIn K (.ref f_are_parts) = true)
    (a16 : PySem.W.nsIn K mainGlobals "are_columns" = some (some (.ref f_are_columns)))
    (l16 : K.lookup f_are_columns = some ⟨oc16, od16, .func (PySem.W.fnOf "are_columns" "are_columns" (defArgs s_are_columns) (defBody s_are_columns) (defScope s_are_columns) .none kV16 dc16 pm16 an16 cd16 ct16), sl16⟩)
    (c16 : PySem.W.codeIn K cd16 "are_columns" = true)
    (k16 : PySem.W.keepIn K (.ref f_are_columns) = true)
    (a17 : PySem.W.nsIn K mainGlobals "is_document" = some (some (.ref f_is_document)))
    (l17 : K.lookup f_is_document = some ⟨oc17, od17, .func (PySem.W.fnOf "is_document" "is_document" (defArgs s_is_document) (defBody s_is_document) (defScope s_is_document) .none kV17 dc17 pm17 an17 cd17 ct17), sl17⟩)
    (c17 : PySem.W.codeIn K cd17 "is_document" = true)
    (k17 : PySem.W.keepIn K (.ref f_is_document) = true)
    (a18 : PySem.W.nsIn K mainGlobals "check_document" = some (some (.ref f_check_document)))
    (l18 : K.lookup f_check_document = some ⟨oc18, od18, .func (PySem.W.fnOf "check_document" "check_document" (defArgs s_check_document) (defBody s_check_document) (defScope s_check_document) .none kV18 dc18 pm18 an18 cd18 ct18), sl18⟩)
    (c18 : PySem.W.codeIn K cd18 "check_document" = true)
    (k18 : PySem.W.keepIn K (.ref f_check_document) = true)
    (a19 : PySem.W.nsIn K mainGlobals "row_width" = some (some (.ref f_row_width)))
    (l19 : K.lookup f_row_width = some ⟨oc19, od19, .func (PySem.W.fnOf "row_width" "row_width" (defArgs s_row_width) (defBody s_row_width) (defScope s_row_width) .none kV19 dc19 pm19 an19 cd19 ct19), sl19⟩)
    (c19 : PySem.W.codeIn K cd19 "row_width" = true)
    (k19 : PySem.W.keepIn K (.ref f_row_width) = true)
    (a20 : PySem.W.nsIn K mainGlobals "filled" = some (some (.ref f_filled)))
    (l20 : K.lookup f_filled = some ⟨oc20, od20, .func (PySem.W.fnOf "filled" "filled" (defArgs s_filled) (defBody s_filled) (defScope s_filled) .none kV20 dc20 pm20 an20 cd20 ct20), sl20⟩)
    (c20 : PySem.W.codeIn K cd20 "filled" = true)
    (k20 : PySem.W.keepIn K (.ref f_filled) = true)
    (a21 : PySem.W.nsIn K mainGlobals "filled_in" = some (some (.ref f_filled_in)))
    (l21 : K.lookup f_filled_in = some ⟨oc21, od21, .func (PySem.W.fnOf "filled_in" "filled_in" (defArgs s_filled_in) (defBody s_filled_in) (defScope s_filled_in) .none kV21 dc21 pm21 an21 cd21 ct21), sl21⟩)
    (c21 : PySem.W.codeIn K cd21 "filled_in" = true)
    (k21 : PySem.W.keepIn K (.ref f_filled_in) = true)
    (a22 : PySem.W.nsIn K mainGlobals "check_strips" = some (some (.ref f_check_strips)))
    (l22 : K.lookup f_check_strips = some ⟨oc22, od22, .func (PySem.W.fnOf "check_strips" "check_strips" (defArgs s_check_strips) (defBody s_check_strips) (defScope s_check_strips) .none kV22 dc22 pm22 an22 cd22 ct22), sl22⟩)
    (c22 : PySem.W.codeIn K cd22 "check_strips" = true)
    (k22 : PySem.W.keepIn K (.ref f_check_strips) = true)
    (a23 : PySem.W.nsIn K mainGlobals "places_of" = some (some (.ref f_places_of)))
    (l23 : K.lookup f_places_of = some ⟨oc23, od23, .func (PySem.W.fnOf "places_of" "places_of" (defArgs s_places_of) (defBody s_places_of) (defScope s_places_of) .none kV23 dc23 pm23 an23 cd23 ct23), sl23⟩)
    (c23 : PySem.W.codeIn K cd23 "places_of" = true)
    (k23 : PySem.W.keepIn K (.ref f_places_of) = true)
    (a24 : PySem.W.nsIn K mainGlobals "running_spots" = some (some (.ref f_running_spots)))
    (l24 : K.lookup f_running_spots = some ⟨oc24, od24, .func (PySem.W.fnOf "running_spots" "running_spots" (defArgs s_running_spots) (defBody s_running_spots) (defScope s_running_spots) .none kV24 dc24 pm24 an24 cd24 ct24), sl24⟩)
    (c24 : PySem.W.codeIn K cd24 "running_spots" = true)
    (k24 : PySem.W.keepIn K (.ref f_running_spots) = true)
    (a25 : PySem.W.nsIn K mainGlobals "moved" = some (some (.ref f_moved)))
    (l25 : K.lookup f_moved = some ⟨oc25, od25, .func (PySem.W.fnOf "moved" "moved" (defArgs s_moved) (defBody s_moved) (defScope s_moved) .none kV25 dc25 pm25 an25 cd25 ct25), sl25⟩)
    (c25 : PySem.W.codeIn K cd25 "moved" = true)
    (k25 : PySem.W.keepIn K (.ref f_moved) = true)
    (a26 : PySem.W.nsIn K mainGlobals "table_spots" = some (some (.ref f_table_spots)))
    (l26 : K.lookup f_table_spots = some ⟨oc26, od26, .func (PySem.W.fnOf "table_spots" "table_spots" (defArgs s_table_spots) (defBody s_table_spots) (defScope s_table_spots) .none kV26 dc26 pm26 an26 cd26 ct26), sl26⟩)
    (c26 : PySem.W.codeIn K cd26 "table_spots" = true)
    (k26 : PySem.W.keepIn K (.ref f_table_spots) = true)
    (a27 : PySem.W.nsIn K mainGlobals "spots_of" = some (some (.ref f_spots_of)))
    (l27 : K.lookup f_spots_of = some ⟨oc27, od27, .func (PySem.W.fnOf "spots_of" "spots_of" (defArgs s_spots_of) (defBody s_spots_of) (defScope s_spots_of) .none kV27 dc27 pm27 an27 cd27 ct27), sl27⟩)
    (c27 : PySem.W.codeIn K cd27 "spots_of" = true)
    (k27 : PySem.W.keepIn K (.ref f_spots_of) = true)
    (a28 : PySem.W.nsIn K mainGlobals "stack_spots" = some (some (.ref f_stack_spots)))
    (l28 : K.lookup f_stack_spots = some ⟨oc28, od28, .func (PySem.W.fnOf "stack_spots" "stack_spots" (defArgs s_stack_spots) (defBody s_stack_spots) (defScope s_stack_spots) .none kV28 dc28 pm28 an28 cd28 ct28), sl28⟩)
    (c28 : PySem.W.codeIn K cd28 "stack_spots" = true)
    (k28 : PySem.W.keepIn K (.ref f_stack_spots) = true)
    (a29 : PySem.W.nsIn K mainGlobals "column_spots" = some (some (.ref f_column_spots)))
    (l29 : K.lookup f_column_spots = some ⟨oc29, od29, .func (PySem.W.fnOf "column_spots" "column_spots" (defArgs s_column_spots) (defBody s_column_spots) (defScope s_column_spots) .none kV29 dc29 pm29 an29 cd29 ct29), sl29⟩)
    (c29 : PySem.W.codeIn K cd29 "column_spots" = true)
    (k29 : PySem.W.keepIn K (.ref f_column_spots) = true)
    (a30 : PySem.W.nsIn K mainGlobals "drawn" = some (some (.ref f_drawn)))
    (l30 : K.lookup f_drawn = some ⟨oc30, od30, .func (PySem.W.fnOf "drawn" "drawn" (defArgs s_drawn) (defBody s_drawn) (defScope s_drawn) .none kV30 dc30 pm30 an30 cd30 ct30), sl30⟩)
    (c30 : PySem.W.codeIn K cd30 "drawn" = true)
    (k30 : PySem.W.keepIn K (.ref f_drawn) = true)
    (a31 : PySem.W.nsIn K mainGlobals "set_on" = some (some (.ref f_set_on)))
    (l31 : K.lookup f_set_on = some ⟨oc31, od31, .func (PySem.W.fnOf "set_on" "set_on" (defArgs s_set_on) (defBody s_set_on) (defScope s_set_on) .none kV31 dc31 pm31 an31 cd31 ct31), sl31⟩)
    (c31 : PySem.W.codeIn K cd31 "set_on" = true)
    (k31 : PySem.W.keepIn K (.ref f_set_on) = true)
    (a32 : PySem.W.nsIn K mainGlobals "_law_path" = some (some (.ref f__law_path)))
    (l32 : K.lookup f__law_path = some ⟨oc32, od32, .func (PySem.W.fnOf "_law_path" "_law_path" (defArgs s__law_path) (defBody s__law_path) (defScope s__law_path) .none kV32 dc32 pm32 an32 cd32 ct32), sl32⟩)
    (c32 : PySem.W.codeIn K cd32 "_law_path" = true)
    (k32 : PySem.W.keepIn K (.ref f__law_path) = true)
    (a33 : PySem.W.nsIn K mainGlobals "_law_texts_right" = some (some (.ref f__law_texts_right)))
    (l33 : K.lookup f__law_texts_right = some ⟨oc33, od33, .func (PySem.W.fnOf "_law_texts_right" "_law_texts_right" (defArgs s__law_texts_right) (defBody s__law_texts_right) (defScope s__law_texts_right) .none kV33 dc33 pm33 an33 cd33 ct33), sl33⟩)
    (c33 : PySem.W.codeIn K cd33 "_law_texts_right" = true)
    (k33 : PySem.W.keepIn K (.ref f__law_texts_right) = true)
    (a34 : PySem.W.nsIn K mainGlobals "_law_runs_right" = some (some (.ref f__law_runs_right)))
    (l34 : K.lookup f__law_runs_right = some ⟨oc34, od34, .func (PySem.W.fnOf "_law_runs_right" "_law_runs_right" (defArgs s__law_runs_right) (defBody s__law_runs_right) (defScope s__law_runs_right) .none kV34 dc34 pm34 an34 cd34 ct34), sl34⟩)
    (c34 : PySem.W.codeIn K cd34 "_law_runs_right" = true)
    (k34 : PySem.W.keepIn K (.ref f__law_runs_right) = true)
    (a35 : PySem.W.nsIn K mainGlobals "placed" = some (some (.ref f_placed)))
    (l35 : K.lookup f_placed = some ⟨oc35, od35, .func (PySem.W.fnOf "placed" "placed" (defArgs s_placed) (defBody s_placed) (defScope s_placed) .none kV35 dc35 pm35 an35 cd35 ct35), sl35⟩)
    (c35 : PySem.W.codeIn K cd35 "placed" = true)
    (k35 : PySem.W.keepIn K (.ref f_placed) = true)
    (a36 : PySem.W.nsIn K mainGlobals "words_of" = some (some (.ref f_words_of)))
    (l36 : K.lookup f_words_of = some ⟨oc36, od36, .func (PySem.W.fnOf "words_of" "words_of" (defArgs s_words_of) (defBody s_words_of) (defScope s_words_of) .none kV36 dc36 pm36 an36 cd36 ct36), sl36⟩)
    (c36 : PySem.W.codeIn K cd36 "words_of" = true)
    (k36 : PySem.W.keepIn K (.ref f_words_of) = true)
    (a37 : PySem.W.nsIn K mainGlobals "reading" = some (some (.ref f_reading)))
    (l37 : K.lookup f_reading = some ⟨oc37, od37, .func (PySem.W.fnOf "reading" "reading" (defArgs s_reading) (defBody s_reading) (defScope s_reading) .none kV37 dc37 pm37 an37 cd37 ct37), sl37⟩)
    (c37 : PySem.W.codeIn K cd37 "reading" = true)
    (k37 : PySem.W.keepIn K (.ref f_reading) = true)
    (a38 : PySem.W.nsIn K mainGlobals "_law_parts_right" = some (some (.ref f__law_parts_right)))
    (l38 : K.lookup f__law_parts_right = some ⟨oc38, od38, .func (PySem.W.fnOf "_law_parts_right" "_law_parts_right" (defArgs s__law_parts_right) (defBody s__law_parts_right) (defScope s__law_parts_right) .none kV38 dc38 pm38 an38 cd38 ct38), sl38⟩)
    (c38 : PySem.W.codeIn K cd38 "_law_parts_right" = true)
    (k38 : PySem.W.keepIn K (.ref f__law_parts_right) = true)
    (a39 : PySem.W.nsIn K mainGlobals "_law_tables_right" = some (some (.ref f__law_tables_right)))
    (l39 : K.lookup f__law_tables_right = some ⟨oc39, od39, .func (PySem.W.fnOf "_law_tables_right" "_law_tables_right" (defArgs s__law_tables_right) (defBody s__law_tables_right) (defScope s__law_tables_right) .none kV39 dc39 pm39 an39 cd39 ct39), sl39⟩)
    (c39 : PySem.W.codeIn K cd39 "_law_tables_right" = true)
    (k39 : PySem.W.keepIn K (.ref f__law_tables_right) = true)
    (a40 : PySem.W.nsIn K mainGlobals "law" = some (some (.ref f_law)))
    (l40 : K.lookup f_law = some ⟨oc40, od40, .func (PySem.W.fnOf "law" "law" (defArgs s_law) (defBody s_law) (defScope s_law) .none kV40 dc40 pm40 an40 cd40 ct40), sl40⟩)
    (c40 : PySem.W.codeIn K cd40 "law" = true)
    (k40 : PySem.W.keepIn K (.ref f_law) = true)
    (b_abs : PySem.W.nsIn K mainGlobals "abs" = some none)
    (b_all : PySem.W.nsIn K mainGlobals "all" = some none)
    (b_any : PySem.W.nsIn K mainGlobals "any" = some none)
    (b_bool : PySem.W.nsIn K mainGlobals "bool" = some none)
    (b_enumerate : PySem.W.nsIn K mainGlobals "enumerate" = some none)
    (b_int : PySem.W.nsIn K mainGlobals "int" = some none)
    (b_isinstance : PySem.W.nsIn K mainGlobals "isinstance" = some none)
    (b_len : PySem.W.nsIn K mainGlobals "len" = some none)
    (b_list : PySem.W.nsIn K mainGlobals "list" = some none)
    (b_max : PySem.W.nsIn K mainGlobals "max" = some none)
    (b_min : PySem.W.nsIn K mainGlobals "min" = some none)
    (b_range : PySem.W.nsIn K mainGlobals "range" = some none)
    (b_str : PySem.W.nsIn K mainGlobals "str" = some none)
    (b_sum : PySem.W.nsIn K mainGlobals "sum" = some none)
    (b_super : PySem.W.nsIn K mainGlobals "super" = some none)
    (b_tuple : PySem.W.nsIn K mainGlobals "tuple" = some none)
    (b_zip : PySem.W.nsIn K mainGlobals "zip" = some none)
    (g_BLANK : PySem.W.nsIn K mainGlobals "BLANK" = some (some (.str " " t_BLANK)))
    (g_COLUMNS : PySem.W.nsIn K mainGlobals "COLUMNS" = some (some (.str "columns" t_COLUMNS)))
    (g_LEAST_PARTS : PySem.W.nsIn K mainGlobals "LEAST_PARTS" = some (some (.int 2 t_LEAST_PARTS)))
    (g_LEAST_ROWS : PySem.W.nsIn K mainGlobals "LEAST_ROWS" = some (some (.int 2 t_LEAST_ROWS)))
    (g_LEAST_WIDTHS : PySem.W.nsIn K mainGlobals "LEAST_WIDTHS" = some (some (.int 2 t_LEAST_WIDTHS)))
    (g_LETTERS : PySem.W.nsIn K mainGlobals "LETTERS" = some (some (.str "abcdefghijklmnopqrstuvwxyz" t_LETTERS)))
    (g_MOST_WIDTHS : PySem.W.nsIn K mainGlobals "MOST_WIDTHS" = some (some (.int 4 t_MOST_WIDTHS)))
    (g_PAIR : PySem.W.nsIn K mainGlobals "PAIR" = some (some (.int 2 t_PAIR)))
    (g_QUADRUPLE : PySem.W.nsIn K mainGlobals "QUADRUPLE" = some (some (.int 4 t_QUADRUPLE)))
    (g_QUINTUPLE : PySem.W.nsIn K mainGlobals "QUINTUPLE" = some (some (.int 5 t_QUINTUPLE)))
    (g_RUNNING : PySem.W.nsIn K mainGlobals "RUNNING" = some (some (.str "running" t_RUNNING)))
    (g_STACK : PySem.W.nsIn K mainGlobals "STACK" = some (some (.str "stack" t_STACK)))
    (g_TABLE : PySem.W.nsIn K mainGlobals "TABLE" = some (some (.str "table" t_TABLE)))
    (g_TEXT : PySem.W.nsIn K mainGlobals "TEXT" = some (some (.str "text" t_TEXT)))
    (g_TRIPLE : PySem.W.nsIn K mainGlobals "TRIPLE" = some (some (.int 3 t_TRIPLE)))
    (nC_BadDocument : PySem.W.nsIn K mainGlobals "BadDocument" = some (some (.ref C_BadDocument)))
    (nC_CannotSet : PySem.W.nsIn K mainGlobals "CannotSet" = some (some (.ref C_CannotSet)))
    (nC_BadSize : PySem.W.nsIn K mainGlobals "BadSize" = some (some (.ref C_BadSize)))
    (th : PySem.W.nsIn K PySem.cStatics "thirdparty.any" = some none)
    (cl_BadDocument : K.lookup C_BadDocument = some (excClassObj cnm_BadDocument cq_BadDocument C_BadDocument cN_BadDocument cbs_BadDocument cbm_BadDocument true csn_BadDocument csub_BadDocument cab_BadDocument ccol_BadDocument cdd_BadDocument ck0_BadDocument ck1_BadDocument ck2_BadDocument ck3_BadDocument ck5_BadDocument "ValueError.__new__"))
    (rv_BadDocument : PySem.HandSPX.refsVE cbm_BadDocument = true)
    (sa_BadDocument : PySem.W.findIn K (.ref C_BadDocument) "__setattr__" = some (some (.builtin "object.__setattr__")))
    (ga_BadDocument : PySem.W.findIn K (.ref C_BadDocument) "__getattribute__" = some (some (.builtin "BaseException.__getattribute__")))
    (gg_BadDocument : PySem.W.findIn K (.ref C_BadDocument) "__getattr__" = some none)
    (no_BadDocument : PySem.W.findIn K (.ref C_BadDocument) "value" = some none)
    (ic_BadDocument : PySem.W.findIn K (.ref C_BadDocument) "__init__" = some (some (.ref I_BadDocument)))
    (ti_BadDocument : PySem.W.typeIn K (.ref I_BadDocument) = some (.type "function"))
    (kc_BadDocument : PySem.W.keepIn K (.ref C_BadDocument) = true)
    (ex_BadDocument : PySem.W.subIn K (.ref C_BadDocument) (.type "BaseException") = some true)
    (ve_BadDocument : PySem.W.subIn K (.ref C_BadDocument) (.type "ValueError") = some true)
    (ty_BadDocument : PySem.W.typeIn K (.ref C_BadDocument) = some (.type "type"))
    (hd_BadDocument : PySem.W.hasDictIn K C_BadDocument = true)
    (su_BadDocument : PySem.W.ks_superIn K C_BadDocument C_BadDocument "__init__" = some (some (.builtin "ValueError.__init__")))
    (mc_BadDocument : PySem.W.mroIn K C_BadDocument (.ref C_BadDocument) = some true)
    (fi_BadDocument : K.lookup I_BadDocument = some ⟨ioc_BadDocument, iod_BadDocument, .func (PySem.W.ksFn "__init__" iq_BadDocument (VX.xA "value" a1_BadDocument a2_BadDocument) (VX.xB "value" p0_BadDocument p1_BadDocument p2_BadDocument p3_BadDocument p4_BadDocument p5_BadDocument q1_BadDocument q2_BadDocument q3_BadDocument q4_BadDocument) (VX.xS "value") .none .none idoc_BadDocument ipm_BadDocument ian_BadDocument (.ref icda_BadDocument) ict_BadDocument icc_BadDocument), iosl_BadDocument⟩)
    (co_BadDocument : PySem.W.codeIn K (.ref icda_BadDocument) iq_BadDocument = true)
    (lc_BadDocument : K.lookup icda_BadDocument = some ⟨iccl_BadDocument, icdd_BadDocument, .fields ivs_BadDocument, iccs_BadDocument⟩)
    (vf_BadDocument : ivs_BadDocument[2]? = some (.str ifile_BadDocument itf_BadDocument))
    (fl_BadDocument : ((l.prog.main.file : Str) == ifile_BadDocument) = true)
    (tp_BadDocument : (l.prog.main.scope.names.lookup ("super" : Str)).isSome = false)
    (cc_BadDocument : K.lookup icc_BadDocument = some ⟨icl_BadDocument, icld_BadDocument, .cell (some (.ref C_BadDocument)), icsl_BadDocument⟩)
    (lt_BadDocument : VX.Late "value" p0_BadDocument p1_BadDocument p2_BadDocument p3_BadDocument p4_BadDocument)
    (xa_BadDocument : PySem.W.findIn K (.ref C_BadDocument) "__class__" = some (some (.builtin "object.__class__")))
    (xo_BadDocument : PySem.W.mroIn K C_BadDocument (.type "object") = some true)
    (xn : PySem.W.specialIn K (.builtin "object.__class__") "__get__" = some (some (.builtin "getset_descriptor.__get__")))
    (xt : PySem.W.takesIn K (.builtin "object.__class__") = some true)
    (cl_CannotSet : K.lookup C_CannotSet = some (excClassObj cnm_CannotSet cq_CannotSet C_CannotSet cN_CannotSet cbs_CannotSet cbm_CannotSet true csn_CannotSet csub_CannotSet cab_CannotSet ccol_CannotSet cdd_CannotSet ck0_CannotSet ck1_CannotSet ck2_CannotSet ck3_CannotSet ck5_CannotSet "ValueError.__new__"))
    (rv_CannotSet : PySem.HandSPX.refsVE cbm_CannotSet = true)
    (sa_CannotSet : PySem.W.findIn K (.ref C_CannotSet) "__setattr__" = some (some (.builtin "object.__setattr__")))
    (ga_CannotSet : PySem.W.findIn K (.ref C_CannotSet) "__getattribute__" = some (some (.builtin "BaseException.__getattribute__")))
    (gg_CannotSet : PySem.W.findIn K (.ref C_CannotSet) "__getattr__" = some none)
    (no_CannotSet : PySem.W.findIn K (.ref C_CannotSet) "path" = some none)
    (ic_CannotSet : PySem.W.findIn K (.ref C_CannotSet) "__init__" = some (some (.ref I_CannotSet)))
    (ti_CannotSet : PySem.W.typeIn K (.ref I_CannotSet) = some (.type "function"))
    (kc_CannotSet : PySem.W.keepIn K (.ref C_CannotSet) = true)
    (ex_CannotSet : PySem.W.subIn K (.ref C_CannotSet) (.type "BaseException") = some true)
    (ve_CannotSet : PySem.W.subIn K (.ref C_CannotSet) (.type "ValueError") = some true)
    (ty_CannotSet : PySem.W.typeIn K (.ref C_CannotSet) = some (.type "type"))
    (hd_CannotSet : PySem.W.hasDictIn K C_CannotSet = true)
    (su_CannotSet : PySem.W.ks_superIn K C_CannotSet C_CannotSet "__init__" = some (some (.builtin "ValueError.__init__")))
    (mc_CannotSet : PySem.W.mroIn K C_CannotSet (.ref C_CannotSet) = some true)
    (fi_CannotSet : K.lookup I_CannotSet = some ⟨ioc_CannotSet, iod_CannotSet, .func (PySem.W.ksFn "__init__" iq_CannotSet (VX.xA "path" a1_CannotSet a2_CannotSet) (VX.xB "path" p0_CannotSet p1_CannotSet p2_CannotSet p3_CannotSet p4_CannotSet p5_CannotSet q1_CannotSet q2_CannotSet q3_CannotSet q4_CannotSet) (VX.xS "path") .none .none idoc_CannotSet ipm_CannotSet ian_CannotSet (.ref icda_CannotSet) ict_CannotSet icc_CannotSet), iosl_CannotSet⟩)
    (co_CannotSet : PySem.W.codeIn K (.ref icda_CannotSet) iq_CannotSet = true)
    (lc_CannotSet : K.lookup icda_CannotSet = some ⟨iccl_CannotSet, icdd_CannotSet, .fields ivs_CannotSet, iccs_CannotSet⟩)
    (vf_CannotSet : ivs_CannotSet[2]? = some (.str ifile_CannotSet itf_CannotSet))
    (fl_CannotSet : ((l.prog.main.file : Str) == ifile_CannotSet) = true)
    (tp_CannotSet : (l.prog.main.scope.names.lookup ("super" : Str)).isSome = false)
    (cc_CannotSet : K.lookup icc_CannotSet = some ⟨icl_CannotSet, icld_CannotSet, .cell (some (.ref C_CannotSet)), icsl_CannotSet⟩)
    (lt_CannotSet : VX.Late "path" p0_CannotSet p1_CannotSet p2_CannotSet p3_CannotSet p4_CannotSet)
    (xa_CannotSet : PySem.W.findIn K (.ref C_CannotSet) "__class__" = some (some (.builtin "object.__class__")))
    (xo_CannotSet : PySem.W.mroIn K C_CannotSet (.type "object") = some true)
    (cl_BadSize : K.lookup C_BadSize = some (excClassObj cnm_BadSize cq_BadSize C_BadSize cN_BadSize cbs_BadSize cbm_BadSize true csn_BadSize csub_BadSize cab_BadSize ccol_BadSize cdd_BadSize ck0_BadSize ck1_BadSize ck2_BadSize ck3_BadSize ck5_BadSize "ValueError.__new__"))
    (rv_BadSize : PySem.HandSPX.refsVE cbm_BadSize = true)
    (sa_BadSize : PySem.W.findIn K (.ref C_BadSize) "__setattr__" = some (some (.builtin "object.__setattr__")))
    (ga_BadSize : PySem.W.findIn K (.ref C_BadSize) "__getattribute__" = some (some (.builtin "BaseException.__getattribute__")))
    (gg_BadSize : PySem.W.findIn K (.ref C_BadSize) "__getattr__" = some none)
    (no_BadSize : PySem.W.findIn K (.ref C_BadSize) "value" = some none)
    (ic_BadSize : PySem.W.findIn K (.ref C_BadSize) "__init__" = some (some (.ref I_BadSize)))
    (ti_BadSize : PySem.W.typeIn K (.ref I_BadSize) = some (.type "function"))
    (kc_BadSize : PySem.W.keepIn K (.ref C_BadSize) = true)
    (ex_BadSize : PySem.W.subIn K (.ref C_BadSize) (.type "BaseException") = some true)
    (ve_BadSize : PySem.W.subIn K (.ref C_BadSize) (.type "ValueError") = some true)
    (ty_BadSize : PySem.W.typeIn K (.ref C_BadSize) = some (.type "type"))
    (hd_BadSize : PySem.W.hasDictIn K C_BadSize = true)
    (su_BadSize : PySem.W.ks_superIn K C_BadSize C_BadSize "__init__" = some (some (.builtin "ValueError.__init__")))
    (mc_BadSize : PySem.W.mroIn K C_BadSize (.ref C_BadSize) = some true)
    (fi_BadSize : K.lookup I_BadSize = some ⟨ioc_BadSize, iod_BadSize, .func (PySem.W.ksFn "__init__" iq_BadSize (VX.xA "value" a1_BadSize a2_BadSize) (VX.xB "value" p0_BadSize p1_BadSize p2_BadSize p3_BadSize p4_BadSize p5_BadSize q1_BadSize q2_BadSize q3_BadSize q4_BadSize) (VX.xS "value") .none .none idoc_BadSize ipm_BadSize ian_BadSize (.ref icda_BadSize) ict_BadSize icc_BadSize), iosl_BadSize⟩)
    (co_BadSize : PySem.W.codeIn K (.ref icda_BadSize) iq_BadSize = true)
    (lc_BadSize : K.lookup icda_BadSize = some ⟨iccl_BadSize, icdd_BadSize, .fields ivs_BadSize, iccs_BadSize⟩)
    (vf_BadSize : ivs_BadSize[2]? = some (.str ifile_BadSize itf_BadSize))
    (fl_BadSize : ((l.prog.main.file : Str) == ifile_BadSize) = true)
    (tp_BadSize : (l.prog.main.scope.names.lookup ("super" : Str)).isSome = false)
    (cc_BadSize : K.lookup icc_BadSize = some ⟨icl_BadSize, icld_BadSize, .cell (some (.ref C_BadSize)), icsl_BadSize⟩)
    (lt_BadSize : VX.Late "value" p0_BadSize p1_BadSize p2_BadSize p3_BadSize p4_BadSize)
    (xa_BadSize : PySem.W.findIn K (.ref C_BadSize) "__class__" = some (some (.builtin "object.__class__")))
    (xo_BadSize : PySem.W.mroIn K C_BadSize (.type "object") = some true)
    (ik_CannotSet : PySem.W.isClsIn K C_CannotSet = true)
    (tk_CannotSet : PySem.W.typeIn K (.ref C_CannotSet) = some (.type "type"))
    (bx_CannotSet : PySem.W.subIn K (.ref C_CannotSet) (.type "BaseException") = some true)
    (sub_BadSize_CannotSet : PySem.W.subIn K (.ref C_BadSize) (.ref C_CannotSet) = some false)
    (sub_CannotSet_CannotSet : PySem.W.subIn K (.ref C_CannotSet) (.ref C_CannotSet) = some true)
    (sub_BadDocument_CannotSet : PySem.W.subIn K (.ref C_BadDocument) (.ref C_CannotSet) = some false)
    (nf_BadSize_path : PySem.W.findIn K (.ref C_BadSize) "path" = some none)
    (nf_BadDocument_path : PySem.W.findIn K (.ref C_BadDocument) "path" = some none)
    : ∃ fd : FuncData, (∀ (s : Shared) (v : Value), BindsTo s fd ⟨[v], []⟩ [("_law_script", v)]) ∧ ∀ base : Heap, K.In base → base.Ns mainGlobals mg → FnG l.prog w K mg base CX0 72 fa fd ["_law_script"] (spM K 1 F_law) := by
  have q := hfa.symm.trans (PySem.W.mg_of X G a40)
  cases q
  have d0 : DefR K mg "_law_pot" s__law_pot f__law_pot _ ["_law_script", "_law_k"] :=
    have F := fun_mk (st := s__law_pot) l0 c0 k0
    ⟨F, PySem.W.mg_of X G a0, F.binds fun _ _ _ _ _ _ us hl => (match us, hl with | [_, _], _ => rfl), KB.of F fun _ _ _ _ _ _ us hl => (match us, hl with | [_, _], _ => rfl)⟩
  have d1 : DefR K mg "_law_take" s__law_take f__law_take _ ["_law_pot_here", "_law_upto"] :=
    have F := fun_mk (st := s__law_take) l1 c1 k1
    ⟨F, PySem.W.mg_of X G a1, F.binds fun _ _ _ _ _ _ us hl => (match us, hl with | [_, _], _ => rfl), KB.of F fun _ _ _ _ _ _ us hl => (match us, hl with | [_, _], _ => rfl)⟩
  have d2 : DefR K mg "_law_of" s__law_of f__law_of _ ["_law_pot_here", "_law_some"] :=
    have F := fun_mk (st := s__law_of) l2 c2 k2
    ⟨F, PySem.W.mg_of X G a2, F.binds fun _ _ _ _ _ _ us hl => (match us, hl with | [_, _], _ => rfl), KB.of F fun _ _ _ _ _ _ us hl => (match us, hl with | [_, _], _ => rfl)⟩
  have d3 : DefR K mg "is_integer" s_is_integer f_is_integer _ ["value"] :=
    have F := fun_mk (st := s_is_integer) l3 c3 k3
    ⟨F, PySem.W.mg_of X G a3, F.binds fun _ _ _ _ _ _ us hl => (match us, hl with | [_], _ => rfl), KB.of F fun _ _ _ _ _ _ us hl => (match us, hl with | [_], _ => rfl)⟩
  have d4 : DefR K mg "is_size" s_is_size f_is_size _ ["value"] :=
    have F := fun_mk (st := s_is_size) l4 c4 k4
    ⟨F, PySem.W.mg_of X G a4, F.binds fun _ _ _ _ _ _ us hl => (match us, hl with | [_], _ => rfl), KB.of F fun _ _ _ _ _ _ us hl => (match us, hl with | [_], _ => rfl)⟩
  have d5 : DefR K mg "is_word" s_is_word f_is_word _ ["value"] :=
    have F := fun_mk (st := s_is_word) l5 c5 k5
    ⟨F, PySem.W.mg_of X G a5, F.binds fun _ _ _ _ _ _ us hl => (match us, hl with | [_], _ => rfl), KB.of F fun _ _ _ _ _ _ us hl => (match us, hl with | [_], _ => rfl)⟩
  have d6 : DefR K mg "are_words" s_are_words f_are_words _ ["value", "least"] :=
    have F := fun_mk (st := s_are_words) l6 c6 k6
    ⟨F, PySem.W.mg_of X G a6, F.binds fun _ _ _ _ _ _ us hl => (match us, hl with | [_, _], _ => rfl), KB.of F fun _ _ _ _ _ _ us hl => (match us, hl with | [_, _], _ => rfl)⟩
  have d7 : DefR K mg "is_text" s_is_text f_is_text _ ["value"] :=
    have F := fun_mk (st := s_is_text) l7 c7 k7
    ⟨F, PySem.W.mg_of X G a7, F.binds fun _ _ _ _ _ _ us hl => (match us, hl with | [_], _ => rfl), KB.of F fun _ _ _ _ _ _ us hl => (match us, hl with | [_], _ => rfl)⟩
  have d8 : DefR K mg "are_sizes" s_are_sizes f_are_sizes _ ["value", "many"] :=
    have F := fun_mk (st := s_are_sizes) l8 c8 k8
    ⟨F, PySem.W.mg_of X G a8, F.binds fun _ _ _ _ _ _ us hl => (match us, hl with | [_, _], _ => rfl), KB.of F fun _ _ _ _ _ _ us hl => (match us, hl with | [_, _], _ => rfl)⟩
  have d9 : DefR K mg "are_strips" s_are_strips f_are_strips _ ["widths", "gaps"] :=
    have F := fun_mk (st := s_are_strips) l9 c9 k9
    ⟨F, PySem.W.mg_of X G a9, F.binds fun _ _ _ _ _ _ us hl => (match us, hl with | [_, _], _ => rfl), KB.of F fun _ _ _ _ _ _ us hl => (match us, hl with | [_, _], _ => rfl)⟩
  have d10 : DefR K mg "is_running" s_is_running f_is_running _ ["value"] :=
    have F := fun_mk (st := s_is_running) l10 c10 k10
    ⟨F, PySem.W.mg_of X G a10, F.binds fun _ _ _ _ _ _ us hl => (match us, hl with | [_], _ => rfl), KB.of F fun _ _ _ _ _ _ us hl => (match us, hl with | [_], _ => rfl)⟩
  have d11 : DefR K mg "are_cells" s_are_cells f_are_cells _ ["value", "many"] :=
    have F := fun_mk (st := s_are_cells) l11 c11 k11
    ⟨F, PySem.W.mg_of X G a11, F.binds fun _ _ _ _ _ _ us hl => (match us, hl with | [_, _], _ => rfl), KB.of F fun _ _ _ _ _ _ us hl => (match us, hl with | [_, _], _ => rfl)⟩
  have d12 : DefR K mg "is_table" s_is_table f_is_table _ ["value"] :=
    have F := fun_mk (st := s_is_table) l12 c12 k12
    ⟨F, PySem.W.mg_of X G a12, F.binds fun _ _ _ _ _ _ us hl => (match us, hl with | [_], _ => rfl), KB.of F fun _ _ _ _ _ _ us hl => (match us, hl with | [_], _ => rfl)⟩
  have d13 : DefR K mg "is_box" s_is_box f_is_box _ ["value"] :=
    have F := fun_mk (st := s_is_box) l13 c13 k13
    ⟨F, PySem.W.mg_of X G a13, F.binds fun _ _ _ _ _ _ us hl => (match us, hl with | [_], _ => rfl), KB.of F fun _ _ _ _ _ _ us hl => (match us, hl with | [_], _ => rfl)⟩
  have d14 : DefR K mg "is_stack" s_is_stack f_is_stack _ ["value"] :=
    have F := fun_mk (st := s_is_stack) l14 c14 k14
    ⟨F, PySem.W.mg_of X G a14, F.binds fun _ _ _ _ _ _ us hl => (match us, hl with | [_], _ => rfl), KB.of F fun _ _ _ _ _ _ us hl => (match us, hl with | [_], _ => rfl)⟩
  have d15 : DefR K mg "are_parts" s_are_parts f_are_parts _ ["value", "kind"] :=
    have F := fun_mk (st := s_are_parts) l15 c15 k15
    ⟨F, PySem.W.mg_of X G a15, F.binds fun _ _ _ _ _ _ us hl => (match us, hl with | [_, _], _ => rfl), KB.of F fun _ _ _ _ _ _ us hl => (match us, hl with | [_, _], _ => rfl)⟩
  have d16 : DefR K mg "are_columns" s_are_columns f_are_columns _ ["value"] :=
    have F := fun_mk (st := s_are_columns) l16 c16 k16
    ⟨F, PySem.W.mg_of X G a16, F.binds fun _ _ _ _ _ _ us hl => (match us, hl with | [_], _ => rfl), KB.of F fun _ _ _ _ _ _ us hl => (match us, hl with | [_], _ => rfl)⟩
  have d17 : DefR K mg "is_document" s_is_document f_is_document _ ["value"] :=
    have F := fun_mk (st := s_is_document) l17 c17 k17
    ⟨F, PySem.W.mg_of X G a17, F.binds fun _ _ _ _ _ _ us hl => (match us, hl with | [_], _ => rfl), KB.of F fun _ _ _ _ _ _ us hl => (match us, hl with | [_], _ => rfl)⟩
  have d18 : DefR K mg "check_document" s_check_document f_check_document _ ["value"] :=
    have F := fun_mk (st := s_check_document) l18 c18 k18
    ⟨F, PySem.W.mg_of X G a18, F.binds fun _ _ _ _ _ _ us hl => (match us, hl with | [_], _ => rfl), KB.of F fun _ _ _ _ _ _ us hl => (match us, hl with | [_], _ => rfl)⟩
  have d19 : DefR K mg "row_width" s_row_width f_row_width _ ["widths", "rows", "number"] :=
    have F := fun_mk (st := s_row_width) l19 c19 k19
    ⟨F, PySem.W.mg_of X G a19, F.binds fun _ _ _ _ _ _ us hl => (match us, hl with | [_, _, _], _ => rfl), KB.of F fun _ _ _ _ _ _ us hl => (match us, hl with | [_, _, _], _ => rfl)⟩
  have d20 : DefR K mg "filled" s_filled f_filled _ ["words", "widths", "rows"] :=
    have F := fun_mk (st := s_filled) l20 c20 k20
    ⟨F, PySem.W.mg_of X G a20, F.binds fun _ _ _ _ _ _ us hl => (match us, hl with | [_, _, _], _ => rfl), KB.of F fun _ _ _ _ _ _ us hl => (match us, hl with | [_, _, _], _ => rfl)⟩
  have d21 : DefR K mg "filled_in" s_filled_in f_filled_in _ ["words", "width", "path"] :=
    have F := fun_mk (st := s_filled_in) l21 c21 k21
    ⟨F, PySem.W.mg_of X G a21, F.binds fun _ _ _ _ _ _ us hl => (match us, hl with | [_, _, _], _ => rfl), KB.of F fun _ _ _ _ _ _ us hl => (match us, hl with | [_, _, _], _ => rfl)⟩
  have d22 : DefR K mg "check_strips" s_check_strips f_check_strips _ ["widths", "gaps", "width", "path"] :=
    have F := fun_mk (st := s_check_strips) l22 c22 k22
    ⟨F, PySem.W.mg_of X G a22, F.binds fun _ _ _ _ _ _ us hl => (match us, hl with | [_, _, _, _], _ => rfl), KB.of F fun _ _ _ _ _ _ us hl => (match us, hl with | [_, _, _, _], _ => rfl)⟩
  have d23 : DefR K mg "places_of" s_places_of f_places_of _ ["widths", "gaps"] :=
    have F := fun_mk (st := s_places_of) l23 c23 k23
    ⟨F, PySem.W.mg_of X G a23, F.binds fun _ _ _ _ _ _ us hl => (match us, hl with | [_, _], _ => rfl), KB.of F fun _ _ _ _ _ _ us hl => (match us, hl with | [_, _], _ => rfl)⟩
  have d24 : DefR K mg "running_spots" s_running_spots f_running_spots _ ["box", "width", "path"] :=
    have F := fun_mk (st := s_running_spots) l24 c24 k24
    ⟨F, PySem.W.mg_of X G a24, F.binds fun _ _ _ _ _ _ us hl => (match us, hl with | [_, _, _], _ => rfl), KB.of F fun _ _ _ _ _ _ us hl => (match us, hl with | [_, _, _], _ => rfl)⟩
  have d25 : DefR K mg "moved" s_moved f_moved _ ["spots", "rows", "places"] :=
    have F := fun_mk (st := s_moved) l25 c25 k25
    ⟨F, PySem.W.mg_of X G a25, F.binds fun _ _ _ _ _ _ us hl => (match us, hl with | [_, _, _], _ => rfl), KB.of F fun _ _ _ _ _ _ us hl => (match us, hl with | [_, _, _], _ => rfl)⟩
  have d26 : DefR K mg "table_spots" s_table_spots f_table_spots _ ["box", "width", "path"] :=
    have F := fun_mk (st := s_table_spots) l26 c26 k26
    ⟨F, PySem.W.mg_of X G a26, F.binds fun _ _ _ _ _ _ us hl => (match us, hl with | [_, _, _], _ => rfl), KB.of F fun _ _ _ _ _ _ us hl => (match us, hl with | [_, _, _], _ => rfl)⟩
  have d27 : DefR K mg "spots_of" s_spots_of f_spots_of _ ["box", "width", "path"] :=
    have F := fun_mk (st := s_spots_of) l27 c27 k27
    ⟨F, PySem.W.mg_of X G a27, F.binds fun _ _ _ _ _ _ us hl => (match us, hl with | [_, _, _], _ => rfl), KB.of F fun _ _ _ _ _ _ us hl => (match us, hl with | [_, _, _], _ => rfl)⟩
  have d28 : DefR K mg "stack_spots" s_stack_spots f_stack_spots _ ["box", "width", "path"] :=
    have F := fun_mk (st := s_stack_spots) l28 c28 k28
    ⟨F, PySem.W.mg_of X G a28, F.binds fun _ _ _ _ _ _ us hl => (match us, hl with | [_, _, _], _ => rfl), KB.of F fun _ _ _ _ _ _ us hl => (match us, hl with | [_, _, _], _ => rfl)⟩
  have d29 : DefR K mg "column_spots" s_column_spots f_column_spots _ ["box", "width", "path"] :=
    have F := fun_mk (st := s_column_spots) l29 c29 k29
    ⟨F, PySem.W.mg_of X G a29, F.binds fun _ _ _ _ _ _ us hl => (match us, hl with | [_, _, _], _ => rfl), KB.of F fun _ _ _ _ _ _ us hl => (match us, hl with | [_, _, _], _ => rfl)⟩
  have d30 : DefR K mg "drawn" s_drawn f_drawn _ ["spots", "rows", "width"] :=
    have F := fun_mk (st := s_drawn) l30 c30 k30
    ⟨F, PySem.W.mg_of X G a30, F.binds fun _ _ _ _ _ _ us hl => (match us, hl with | [_, _, _], _ => rfl), KB.of F fun _ _ _ _ _ _ us hl => (match us, hl with | [_, _, _], _ => rfl)⟩
  have d31 : DefR K mg "set_on" s_set_on f_set_on _ ["document", "rows", "places"] :=
    have F := fun_mk (st := s_set_on) l31 c31 k31
    ⟨F, PySem.W.mg_of X G a31, F.binds fun _ _ _ _ _ _ us hl => (match us, hl with | [_, _, _], _ => rfl), KB.of F fun _ _ _ _ _ _ us hl => (match us, hl with | [_, _, _], _ => rfl)⟩
  have d32 : DefR K mg "_law_path" s__law_path f__law_path _ ["_law_paper", "_law_high", "_law_wide"] :=
    have F := fun_mk (st := s__law_path) l32 c32 k32
    ⟨F, PySem.W.mg_of X G a32, F.binds fun _ _ _ _ _ _ us hl => (match us, hl with | [_, _, _], _ => rfl), KB.of F fun _ _ _ _ _ _ us hl => (match us, hl with | [_, _, _], _ => rfl)⟩
  have d33 : DefR K mg "_law_texts_right" s__law_texts_right f__law_texts_right _ ["_law_a", "_law_b"] :=
    have F := fun_mk (st := s__law_texts_right) l33 c33 k33
    ⟨F, PySem.W.mg_of X G a33, F.binds fun _ _ _ _ _ _ us hl => (match us, hl with | [_, _], _ => rfl), KB.of F fun _ _ _ _ _ _ us hl => (match us, hl with | [_, _], _ => rfl)⟩
  have d34 : DefR K mg "_law_runs_right" s__law_runs_right f__law_runs_right _ ["_law_a", "_law_b"] :=
    have F := fun_mk (st := s__law_runs_right) l34 c34 k34
    ⟨F, PySem.W.mg_of X G a34, F.binds fun _ _ _ _ _ _ us hl => (match us, hl with | [_, _], _ => rfl), KB.of F fun _ _ _ _ _ _ us hl => (match us, hl with | [_, _], _ => rfl)⟩
  have d35 : DefR K mg "placed" s_placed f_placed _ ["document"] :=
    have F := fun_mk (st := s_placed) l35 c35 k35
    ⟨F, PySem.W.mg_of X G a35, F.binds fun _ _ _ _ _ _ us hl => (match us, hl with | [_], _ => rfl), KB.of F fun _ _ _ _ _ _ us hl => (match us, hl with | [_], _ => rfl)⟩
  have d36 : DefR K mg "words_of" s_words_of f_words_of _ ["box"] :=
    have F := fun_mk (st := s_words_of) l36 c36 k36
    ⟨F, PySem.W.mg_of X G a36, F.binds fun _ _ _ _ _ _ us hl => (match us, hl with | [_], _ => rfl), KB.of F fun _ _ _ _ _ _ us hl => (match us, hl with | [_], _ => rfl)⟩
  have d37 : DefR K mg "reading" s_reading f_reading _ ["document"] :=
    have F := fun_mk (st := s_reading) l37 c37 k37
    ⟨F, PySem.W.mg_of X G a37, F.binds fun _ _ _ _ _ _ us hl => (match us, hl with | [_], _ => rfl), KB.of F fun _ _ _ _ _ _ us hl => (match us, hl with | [_], _ => rfl)⟩
  have d38 : DefR K mg "_law_parts_right" s__law_parts_right f__law_parts_right _ ["_law_a", "_law_b"] :=
    have F := fun_mk (st := s__law_parts_right) l38 c38 k38
    ⟨F, PySem.W.mg_of X G a38, F.binds fun _ _ _ _ _ _ us hl => (match us, hl with | [_, _], _ => rfl), KB.of F fun _ _ _ _ _ _ us hl => (match us, hl with | [_, _], _ => rfl)⟩
  have d39 : DefR K mg "_law_tables_right" s__law_tables_right f__law_tables_right _ ["_law_a", "_law_b"] :=
    have F := fun_mk (st := s__law_tables_right) l39 c39 k39
    ⟨F, PySem.W.mg_of X G a39, F.binds fun _ _ _ _ _ _ us hl => (match us, hl with | [_, _], _ => rfl), KB.of F fun _ _ _ _ _ _ us hl => (match us, hl with | [_, _], _ => rfl)⟩
  have d40 : DefR K mg "law" s_law fa _ ["_law_script"] :=
    have F := fun_mk (st := s_law) l40 c40 k40
    ⟨F, PySem.W.mg_of X G a40, F.binds fun _ _ _ _ _ _ us hl => (match us, hl with | [_], _ => rfl), KB.of F fun _ _ _ _ _ _ us hl => (match us, hl with | [_], _ => rfl)⟩
  have T : AllD l.prog K mg f__law_pot f__law_take f__law_of f_is_integer f_is_size f_is_word f_are_words f_is_text f_are_sizes f_are_strips f_is_running f_are_cells f_is_table f_is_box f_is_stack f_are_parts f_are_columns f_is_document f_check_document f_row_width f_filled f_filled_in f_check_strips f_places_of f_running_spots f_moved f_table_spots f_spots_of f_stack_spots f_column_spots f_drawn f_set_on f__law_path f__law_texts_right f__law_runs_right f_placed f_words_of f_reading f__law_parts_right f__law_tables_right fa _ _ _ _ _ _ _ _ _ _ _ _ _ _ _ _ _ _ _ _ _ _ _ _ _ _ _ _ _ _ _ _ _ _ _ _ _ _ _ _ _ C_BadDocument C_CannotSet C_BadSize I_BadDocument I_CannotSet I_BadSize t_BLANK t_COLUMNS t_LEAST_PARTS t_LEAST_ROWS t_LEAST_WIDTHS t_LETTERS t_MOST_WIDTHS t_PAIR t_QUADRUPLE t_QUINTUPLE t_RUNNING t_STACK t_TABLE t_TEXT t_TRIPLE := ⟨d0, d1, d2, d3, d4, d5, d6, d7, d8, d9, d10, d11, d12, d13, d14, d15, d16, d17, d18, d19, d20, d21, d22, d23, d24, d25, d26, d27, d28, d29, d30, d31, d32, d33, d34, d35, d36, d37, d38, d39, d40, PySem.W.mg_none_of X G b_abs, PySem.W.mg_none_of X G b_all, PySem.W.mg_none_of X G b_any, PySem.W.mg_none_of X G b_bool, PySem.W.mg_none_of X G b_enumerate, PySem.W.mg_none_of X G b_int, PySem.W.mg_none_of X G b_isinstance, PySem.W.mg_none_of X G b_len, PySem.W.mg_none_of X G b_list, PySem.W.mg_none_of X G b_max, PySem.W.mg_none_of X G b_min, PySem.W.mg_none_of X G b_range, PySem.W.mg_none_of X G b_str, PySem.W.mg_none_of X G b_sum, PySem.W.mg_none_of X G b_super, PySem.W.mg_none_of X G b_tuple, PySem.W.mg_none_of X G b_zip, PySem.W.mg_of X G g_BLANK, PySem.W.mg_of X G g_COLUMNS, PySem.W.mg_of X G g_LEAST_PARTS, PySem.W.mg_of X G g_LEAST_ROWS, PySem.W.mg_of X G g_LEAST_WIDTHS, PySem.W.mg_of X G g_LETTERS, PySem.W.mg_of X G g_MOST_WIDTHS, PySem.W.mg_of X G g_PAIR, PySem.W.mg_of X G g_QUADRUPLE, PySem.W.mg_of X G g_QUINTUPLE, PySem.W.mg_of X G g_RUNNING, PySem.W.mg_of X G g_STACK, PySem.W.mg_of X G g_TABLE, PySem.W.mg_of X G g_TEXT, PySem.W.mg_of X G g_TRIPLE, PySem.W.mg_of X G nC_BadDocument, PySem.W.mg_of X G nC_CannotSet, PySem.W.mg_of X G nC_BadSize, { gC := PySem.W.mg_of X G nC_BadDocument, nC := nC_BadDocument, cls := ⟨_, _, _, _, _, _, _, _, _, _, _, _, _, _, _, cl_BadDocument, rv_BadDocument⟩, sa := sa_BadDocument, ga := ga_BadDocument, gg := gg_BadDocument, noN := no_BadDocument, iC := ic_BadDocument, tC := ti_BadDocument, kC := kc_BadDocument, exC := ex_BadDocument, veC := ve_BadDocument, tyC := ty_BadDocument, hdC := hd_BadDocument, su := su_BadDocument, mC := mc_BadDocument, no := th, sup := b_super, pl := ⟨by decide, by decide, by decide, by decide, by decide, by decide, by decide⟩, bd := (fun _ _ _ _ _ _ _ _ _ _ _ _ _ _ _ _ _ _ _ _ _ => rfl), fn := ⟨_, _, _, _, _, _, _, _, _, _, _, _, _, _, _, _, _, _, _, _, _, _, _, _, _, _, _, _, _, _, _, fi_BadDocument, co_BadDocument, lc_BadDocument, vf_BadDocument, fl_BadDocument, tp_BadDocument, cc_BadDocument, lt_BadDocument⟩ }, { gC := PySem.W.mg_of X G nC_CannotSet, nC := nC_CannotSet, cls := ⟨_, _, _, _, _, _, _, _, _, _, _, _, _, _, _, cl_CannotSet, rv_CannotSet⟩, sa := sa_CannotSet, ga := ga_CannotSet, gg := gg_CannotSet, noN := no_CannotSet, iC := ic_CannotSet, tC := ti_CannotSet, kC := kc_CannotSet, exC := ex_CannotSet, veC := ve_CannotSet, tyC := ty_CannotSet, hdC := hd_CannotSet, su := su_CannotSet, mC := mc_CannotSet, no := th, sup := b_super, pl := ⟨by decide, by decide, by decide, by decide, by decide, by decide, by decide⟩, bd := (fun _ _ _ _ _ _ _ _ _ _ _ _ _ _ _ _ _ _ _ _ _ => rfl), fn := ⟨_, _, _, _, _, _, _, _, _, _, _, _, _, _, _, _, _, _, _, _, _, _, _, _, _, _, _, _, _, _, _, fi_CannotSet, co_CannotSet, lc_CannotSet, vf_CannotSet, fl_CannotSet, tp_CannotSet, cc_CannotSet, lt_CannotSet⟩ }, { gC := PySem.W.mg_of X G nC_BadSize, nC := nC_BadSize, cls := ⟨_, _, _, _, _, _, _, _, _, _, _, _, _, _, _, cl_BadSize, rv_BadSize⟩, sa := sa_BadSize, ga := ga_BadSize, gg := gg_BadSize, noN := no_BadSize, iC := ic_BadSize, tC := ti_BadSize, kC := kc_BadSize, exC := ex_BadSize, veC := ve_BadSize, tyC := ty_BadSize, hdC := hd_BadSize, su := su_BadSize, mC := mc_BadSize, no := th, sup := b_super, pl := ⟨by decide, by decide, by decide, by decide, by decide, by decide, by decide⟩, bd := (fun _ _ _ _ _ _ _ _ _ _ _ _ _ _ _ _ _ _ _ _ _ => rfl), fn := ⟨_, _, _, _, _, _, _, _, _, _, _, _, _, _, _, _, _, _, _, _, _, _, _, _, _, _, _, _, _, _, _, fi_BadSize, co_BadSize, lc_BadSize, vf_BadSize, fl_BadSize, tp_BadSize, cc_BadSize, lt_BadSize⟩ }, .cons nC_BadDocument (exm_own bx_CannotSet ik_CannotSet tk_CannotSet sub_BadDocument_CannotSet) (.cons nC_CannotSet (exm_own bx_CannotSet ik_CannotSet tk_CannotSet sub_CannotSet_CannotSet) (.cons nC_BadSize (exm_own bx_CannotSet ik_CannotSet tk_CannotSet sub_BadSize_CannotSet) (.nil))), .cons nC_BadDocument (⟨⟨ga_BadDocument, gg_BadDocument, ex_BadDocument, hd_BadDocument⟩, nf_BadDocument_path⟩) (.cons nC_CannotSet (⟨⟨ga_CannotSet, gg_CannotSet, ex_CannotSet, hd_CannotSet⟩, no_CannotSet⟩) (.cons nC_BadSize (⟨⟨ga_BadSize, gg_BadSize, ex_BadSize, hd_BadSize⟩, nf_BadSize_path⟩) (.nil)))⟩
  exact ⟨_, fun s v => .of_eq rfl, fun base _ _ => g_law T⟩
theorem walk {l : PySem.W.OpenLaw} {q : Program} {loose : List Str} {XP : (Str → Option Value) → Heap → Prop} {YP : World → Heap → Prop} {d : DefRec} {K : Params → PySem.W.Frag} (hn : l.most = some 63) (hdf : d.params.defaults = [])
    (hY : ∀ (w : World) (h : Heap), YP w h → (K w.params).In h)
    (F : ∀ (w : World) (mg : Str → Option Value) (fa : Addr) (h : Heap), (K w.params).In h → h.Ns mainGlobals mg → mg d.name = some (.ref fa) →
      ∃ fd : FuncData, (∀ (s : Shared) (u : Value), BindsTo s fd ⟨[u], []⟩ [("_law_script", u)]) ∧ ∀ base : Heap, (K w.params).In base → base.Ns mainGlobals mg → FnG l.prog w (K w.params) mg base CX0 72 fa fd ["_law_script"] (spM (K w.params) 1 F_law)) :
    PySem.W.WalkO q loose XP YP l.row.toRowW d [] (fun f vs => PySem.call f vs) :=
  walk_ofG (n := 63) (k := 72) (x := "_law_script") (CX := fun _ => CX0) (sp := fun w => spM (K w.params) 1 F_law) hn (by decide) hdf ⟨rfl, by decide, by decide⟩ hY F (fun w H a ns hl _ hS =>
    ⟨rfl, H, [.s (.ns ns)], .bool true, [.s (.ns ns)], Same.refl _, ⟨rfl, fun j x e => by
      cases j with
      | zero =>
        cases e
        exact ⟨_, rfl, a, rfl, hS⟩
      | succ j => simp at e, fun i j x y c h1 h2 h3 h4 => by
      cases i with
      | zero => cases h1
      | succ i => simp at h1⟩, law_true hl, fun v F' H' B => by
      cases B.dv
      rfl⟩) fun _ _ _ _ _ z => z
end VL

open PySem PySem.W PyProof.Rows in
set_option maxRecDepth 100000 in
set_option maxHeartbeats 0 in
theorem PySem.Challenge.cw_setback_k11_settings_known_by_hand_holds : PySem.Challenge.rw_setback_k11_settings_known_by_hand.Holds := by
  w_on; o_law; k_head; (case hw => w_witness2)
  k_fill
  refine VL.walk (l := PySem.Challenge.rw_setback_k11_settings_known_by_hand) rfl rfl (fun w h Y => PySem.W.kIn_of Y) ?F
  case F =>
    intro w mg fa h KX G hmg
    refine' VL.all_mk KX G hmg ?a0 ?l0 ?c0 ?k0 ?a1 ?l1 ?c1 ?k1 ?a2 ?l2 ?c2 ?k2 ?a3 ?l3 ?c3 ?k3 ?a4 ?l4 ?c4 ?k4 ?a5 ?l5 ?c5 ?k5 ?a6 ?l6 ?c6 ?k6 ?a7 ?l7 ?c7 ?k7 ?a8 ?l8 ?c8 ?k8 ?a9 ?l9 ?c9 ?k9 ?a10 ?l10 ?c10 ?k10 ?a11 ?l11 ?c11 ?k11 ?a12 ?l12 ?c12 ?k12 ?a13 ?l13 ?c13 ?k13 ?a14 ?l14 ?c14 ?k14 ?a15 ?l15 ?c15 ?k15 ?a16 ?l16 ?c16 ?k16 ?a17 ?l17 ?c17 ?k17 ?a18 ?l18 ?c18 ?k18 ?a19 ?l19 ?c19 ?k19 ?a20 ?l20 ?c20 ?k20 ?a21 ?l21 ?c21 ?k21 ?a22 ?l22 ?c22 ?k22 ?a23 ?l23 ?c23 ?k23 ?a24 ?l24 ?c24 ?k24 ?a25 ?l25 ?c25 ?k25 ?a26 ?l26 ?c26 ?k26 ?a27 ?l27 ?c27 ?k27 ?a28 ?l28 ?c28 ?k28 ?a29 ?l29 ?c29 ?k29 ?a30 ?l30 ?c30 ?k30 ?a31 ?l31 ?c31 ?k31 ?a32 ?l32 ?c32 ?k32 ?a33 ?l33 ?c33 ?k33 ?a34 ?l34 ?c34 ?k34 ?a35 ?l35 ?c35 ?k35 ?a36 ?l36 ?c36 ?k36 ?a37 ?l37 ?c37 ?k37 ?a38 ?l38 ?c38 ?k38 ?a39 ?l39 ?c39 ?k39 ?a40 ?l40 ?c40 ?k40 ?b_abs ?b_all ?b_any ?b_bool ?b_enumerate ?b_int ?b_isinstance ?b_len ?b_list ?b_max ?b_min ?b_range ?b_str ?b_sum ?b_super ?b_tuple ?b_zip ?g_BLANK ?g_COLUMNS ?g_LEAST_PARTS ?g_LEAST_ROWS ?g_LEAST_WIDTHS ?g_LETTERS ?g_MOST_WIDTHS ?g_PAIR ?g_QUADRUPLE ?g_QUINTUPLE ?g_RUNNING ?g_STACK ?g_TABLE ?g_TEXT ?g_TRIPLE ?nC_BadDocument ?nC_CannotSet ?nC_BadSize ?th ?cl_BadDocument ?rv_BadDocument ?sa_BadDocument ?ga_BadDocument ?gg_BadDocument ?no_BadDocument ?ic_BadDocument ?ti_BadDocument ?kc_BadDocument ?ex_BadDocument ?ve_BadDocument ?ty_BadDocument ?hd_BadDocument ?su_BadDocument ?mc_BadDocument ?fi_BadDocument ?co_BadDocument ?lc_BadDocument ?vf_BadDocument ?fl_BadDocument ?tp_BadDocument ?cc_BadDocument ?lt_BadDocument ?xa_BadDocument ?xo_BadDocument ?xn ?xt ?cl_CannotSet ?rv_CannotSet ?sa_CannotSet ?ga_CannotSet ?gg_CannotSet ?no_CannotSet ?ic_CannotSet ?ti_CannotSet ?kc_CannotSet ?ex_CannotSet ?ve_CannotSet ?ty_CannotSet ?hd_CannotSet ?su_CannotSet ?mc_CannotSet ?fi_CannotSet ?co_CannotSet ?lc_CannotSet ?vf_CannotSet ?fl_CannotSet ?tp_CannotSet ?cc_CannotSet ?lt_CannotSet ?xa_CannotSet ?xo_CannotSet ?cl_BadSize ?rv_BadSize ?sa_BadSize ?ga_BadSize ?gg_BadSize ?no_BadSize ?ic_BadSize ?ti_BadSize ?kc_BadSize ?ex_BadSize ?ve_BadSize ?ty_BadSize ?hd_BadSize ?su_BadSize ?mc_BadSize ?fi_BadSize ?co_BadSize ?lc_BadSize ?vf_BadSize ?fl_BadSize ?tp_BadSize ?cc_BadSize ?lt_BadSize ?xa_BadSize ?xo_BadSize ?ik_CannotSet ?tk_CannotSet ?bx_CannotSet ?sub_BadSize_CannotSet ?sub_CannotSet_CannotSet ?sub_BadDocument_CannotSet ?nf_BadSize_path ?nf_BadDocument_path
    (case a0 => k_is)
    (case l0 => k_is)
    (case c0 => k_is)
    (case k0 => k_is)
    (case a1 => k_is)
    (case l1 => k_is)
    (case c1 => k_is)
    (case k1 => k_is)
    (case a2 => k_is)
    (case l2 => k_is)
    (case c2 => k_is)
    (case k2 => k_is)
    (case a3 => k_is)
    (case l3 => k_is)
    (case c3 => k_is)
    (case k3 => k_is)
    (case a4 => k_is)
    (case l4 => k_is)
    (case c4 => k_is)
    (case k4 => k_is)
    (case a5 => k_is)
    (case l5 => k_is)
    (case c5 => k_is)
    (case k5 => k_is)
    (case a6 => k_is)
    (case l6 => k_is)
    (case c6 => k_is)
    (case k6 => k_is)
    (case a7 => k_is)
    (case l7 => k_is)
    (case c7 => k_is)
    (case k7 => k_is)
    (case a8 => k_is)
    (case l8 => k_is)
    (case c8 => k_is)
    (case k8 => k_is)
    (case a9 => k_is)
    (case l9 => k_is)
    (case c9 => k_is)
    (case k9 => k_is)
    (case a10 => k_is)
    (case l10 => k_is)
    (case c10 => k_is)
    (case k10 => k_is)
    (case a11 => k_is)
    (case l11 => k_is)
    (case c11 => k_is)
    (case k11 => k_is)
    (case a12 => k_is)
    (case l12 => k_is)
    (case c12 => k_is)
    (case k12 => k_is)
    (case a13 => k_is)
    (case l13 => k_is)
    (case c13 => k_is)
    (case k13 => k_is)
    (case a14 => k_is)
    (case l14 => k_is)
    (case c14 => k_is)
    (case k14 => k_is)
    (case a15 => k_is)
    (case l15 => k_is)
    (case c15 => k_is)
    (case k15 => k_is)
    (case a16 => k_is)
    (case l16 => k_is)
    (case c16 => k_is)
    (case k16 => k_is)
    (case a17 => k_is)
    (case l17 => k_is)
    (case c17 => k_is)
    (case k17 => k_is)
    (case a18 => k_is)
    (case l18 => k_is)
    (case c18 => k_is)
    (case k18 => k_is)
    (case a19 => k_is)
    (case l19 => k_is)
    (case c19 => k_is)
    (case k19 => k_is)
    (case a20 => k_is)
    (case l20 => k_is)
    (case c20 => k_is)
    (case k20 => k_is)
    (case a21 => k_is)
    (case l21 => k_is)
    (case c21 => k_is)
    (case k21 => k_is)
    (case a22 => k_is)
    (case l22 => k_is)
    (case c22 => k_is)
    (case k22 => k_is)
    (case a23 => k_is)
    (case l23 => k_is)
    (case c23 => k_is)
    (case k23 => k_is)
    (case a24 => k_is)
    (case l24 => k_is)
    (case c24 => k_is)
    (case k24 => k_is)
    (case a25 => k_is)
    (case l25 => k_is)
    (case c25 => k_is)
    (case k25 => k_is)
    (case a26 => k_is)
    (case l26 => k_is)
    (case c26 => k_is)
    (case k26 => k_is)
    (case a27 => k_is)
    (case l27 => k_is)
    (case c27 => k_is)
    (case k27 => k_is)
    (case a28 => k_is)
    (case l28 => k_is)
    (case c28 => k_is)
    (case k28 => k_is)
    (case a29 => k_is)
    (case l29 => k_is)
    (case c29 => k_is)
    (case k29 => k_is)
    (case a30 => k_is)
    (case l30 => k_is)
    (case c30 => k_is)
    (case k30 => k_is)
    (case a31 => k_is)
    (case l31 => k_is)
    (case c31 => k_is)
    (case k31 => k_is)
    (case a32 => k_is)
    (case l32 => k_is)
    (case c32 => k_is)
    (case k32 => k_is)
    (case a33 => k_is)
    (case l33 => k_is)
    (case c33 => k_is)
    (case k33 => k_is)
    (case a34 => k_is)
    (case l34 => k_is)
    (case c34 => k_is)
    (case k34 => k_is)
    (case a35 => k_is)
    (case l35 => k_is)
    (case c35 => k_is)
    (case k35 => k_is)
    (case a36 => k_is)
    (case l36 => k_is)
    (case c36 => k_is)
    (case k36 => k_is)
    (case a37 => k_is)
    (case l37 => k_is)
    (case c37 => k_is)
    (case k37 => k_is)
    (case a38 => k_is)
    (case l38 => k_is)
    (case c38 => k_is)
    (case k38 => k_is)
    (case a39 => k_is)
    (case l39 => k_is)
    (case c39 => k_is)
    (case k39 => k_is)
    (case a40 => k_is)
    (case l40 => k_is)
    (case c40 => k_is)
    (case k40 => k_is)
    (case b_abs => k_is)
    (case b_all => k_is)
    (case b_any => k_is)
    (case b_bool => k_is)
    (case b_enumerate => k_is)
    (case b_int => k_is)
    (case b_isinstance => k_is)
    (case b_len => k_is)
    (case b_list => k_is)
    (case b_max => k_is)
    (case b_min => k_is)
    (case b_range => k_is)
    (case b_str => k_is)
    (case b_sum => k_is)
    (case b_super => k_is)
    (case b_tuple => k_is)
    (case b_zip => k_is)
    (case g_BLANK => k_is)
    (case g_COLUMNS => k_is)
    (case g_LEAST_PARTS => k_is)
    (case g_LEAST_ROWS => k_is)
    (case g_LEAST_WIDTHS => k_is)
    (case g_LETTERS => k_is)
    (case g_MOST_WIDTHS => k_is)
    (case g_PAIR => k_is)
    (case g_QUADRUPLE => k_is)
    (case g_QUINTUPLE => k_is)
    (case g_RUNNING => k_is)
    (case g_STACK => k_is)
    (case g_TABLE => k_is)
    (case g_TEXT => k_is)
    (case g_TRIPLE => k_is)
    (case nC_BadDocument => k_is)
    (case nC_CannotSet => k_is)
    (case nC_BadSize => k_is)
    (case th => k_is)
    (case cl_BadDocument => k_is)
    (case rv_BadDocument => decide +kernel)
    (case sa_BadDocument => k_is)
    (case ga_BadDocument => k_is)
    (case gg_BadDocument => k_is)
    (case no_BadDocument => k_is)
    (case ic_BadDocument => k_is)
    (case ti_BadDocument => k_is)
    (case kc_BadDocument => k_is)
    (case ex_BadDocument => k_is)
    (case ve_BadDocument => k_is)
    (case ty_BadDocument => k_is)
    (case hd_BadDocument => k_is)
    (case su_BadDocument => ks_is)
    (case mc_BadDocument => k_is)
    (case fi_BadDocument => k_is)
    (case co_BadDocument => k_is)
    (case lc_BadDocument => k_is)
    (case vf_BadDocument => rfl)
    (case fl_BadDocument => decide +kernel)
    (case tp_BadDocument => decide +kernel)
    (case cc_BadDocument => k_is)
    (case lt_BadDocument => exact ⟨_, fun _ => rfl⟩)
    (case xa_BadDocument => k_is)
    (case xo_BadDocument => k_is)
    (case xn => k_is)
    (case xt => k_is)
    (case cl_CannotSet => k_is)
    (case rv_CannotSet => decide +kernel)
    (case sa_CannotSet => k_is)
    (case ga_CannotSet => k_is)
    (case gg_CannotSet => k_is)
    (case no_CannotSet => k_is)
    (case ic_CannotSet => k_is)
    (case ti_CannotSet => k_is)
    (case kc_CannotSet => k_is)
    (case ex_CannotSet => k_is)
    (case ve_CannotSet => k_is)
    (case ty_CannotSet => k_is)
    (case hd_CannotSet => k_is)
    (case su_CannotSet => ks_is)
    (case mc_CannotSet => k_is)
    (case fi_CannotSet => k_is)
    (case co_CannotSet => k_is)
    (case lc_CannotSet => k_is)
    (case vf_CannotSet => rfl)
    (case fl_CannotSet => decide +kernel)
    (case tp_CannotSet => decide +kernel)
    (case cc_CannotSet => k_is)
    (case lt_CannotSet => exact ⟨_, fun _ => rfl⟩)
    (case xa_CannotSet => k_is)
    (case xo_CannotSet => k_is)
    (case cl_BadSize => k_is)
    (case rv_BadSize => decide +kernel)
    (case sa_BadSize => k_is)
    (case ga_BadSize => k_is)
    (case gg_BadSize => k_is)
    (case no_BadSize => k_is)
    (case ic_BadSize => k_is)
    (case ti_BadSize => k_is)
    (case kc_BadSize => k_is)
    (case ex_BadSize => k_is)
    (case ve_BadSize => k_is)
    (case ty_BadSize => k_is)
    (case hd_BadSize => k_is)
    (case su_BadSize => ks_is)
    (case mc_BadSize => k_is)
    (case fi_BadSize => k_is)
    (case co_BadSize => k_is)
    (case lc_BadSize => k_is)
    (case vf_BadSize => rfl)
    (case fl_BadSize => decide +kernel)
    (case tp_BadSize => decide +kernel)
    (case cc_BadSize => k_is)
    (case lt_BadSize => exact ⟨_, fun _ => rfl⟩)
    (case xa_BadSize => k_is)
    (case xo_BadSize => k_is)
    (case ik_CannotSet => k_is)
    (case tk_CannotSet => k_is)
    (case bx_CannotSet => k_is)
    (case sub_BadSize_CannotSet => k_is)
    (case sub_CannotSet_CannotSet => k_is)
    (case sub_BadDocument_CannotSet => k_is)
    (case nf_BadSize_path => k_is)
    (case nf_BadDocument_path => k_is)

