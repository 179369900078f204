import PyProof.Rows.All
import Wide.All
import OpenK.AllK
import Wide.FinOn
import HandS.ForMost
import HandS.Walk
import HandS.IsInst
import HandS.Wide
import HandS.TupAny
import HandS.StrMore
import HandS.Zip
import HandS.Style
import HandS.Flow
import HandS.FStr
import HandS.Exc
import KE.KExcSuper
import KE.KExcStr
import HandS.ExcOwn
import HandS.ExcValue
import HandS.ExcIs
import HandS.ExcField
import HandS.Steps
import HandS.TupMul
import HandS.Text
import HandS.WideBits
import KE.KRevSl
import HandS.More
import KE.GoesEnum
import PySem.Challenge.RW_setback_k74_pages_written
set_option Elab.async false
set_option linter.all false
set_option maxRecDepth 100000
set_option maxHeartbeats 4000000
/-! VL0: the layer's calls once more, with the word that nothing is being shown (guards): a def that shows values wants it. -/
namespace VL
open PySem PySem.Spec PyProof.Rows L2

/-- as FnOk, called where no guard stands -/
structure FnG (P : Program) (w : World) (K : PySem.W.Frag) (mg : Str → Option Value) (base : Heap) (CX : CXT) (k : Nat) (f : Addr) (fd : FuncData) (ps : List Str) (sp : Sp) : Prop where
  len : ∀ vs H Q E, sp vs H Q E → vs.length = ps.length
  run : ∀ (A : Around) (outer : List Env) (s : Shared) (H : Hp) (args : Args) (us : List Value) (vs : List V) (Q : VK) (E : XK), A.guards = some [] → Room k A → Env0 P w K mg base A outer s H → BindsTo s fd args (ps.zip us) → Vals vs us → sp vs H Q E →
    codeAny (model P w) A (.call (.ref f) args) (CR CX outer P w H s Q E) s
theorem FnG.mono {P : Program} {w : World} {K : PySem.W.Frag} {mg : Str → Option Value} {base : Heap} {CX : CXT} {j k : Nat} {f : Addr} {fd : FuncData} {ps : List Str} {sp : Sp} (F : FnG P w K mg base CX j f fd ps sp) (h : j ≤ k) :
    FnG P w K mg base CX k f fd ps sp := ⟨F.len, fun A outer s H args us vs Q E hg hr => F.run A outer s H args us vs Q E hg (hr.mono h)⟩
theorem FnG.imp {P : Program} {w : World} {K : PySem.W.Frag} {mg : Str → Option Value} {base : Heap} {CX : CXT} {k : Nat} {f : Addr} {fd : FuncData} {ps : List Str} {sp sp' : Sp} (F : FnG P w K mg base CX k f fd ps sp)
    (h : ∀ vs H Q E, sp' vs H Q E → sp vs H Q E) : FnG P w K mg base CX k f fd ps sp' :=
  ⟨fun vs H Q E q => F.len vs H Q E (h _ _ _ _ q), fun A outer s H args us vs Q E hg hr he hb hv hs => F.run A outer s H args us vs Q E hg hr he hb hv (h _ _ _ _ hs)⟩
theorem FnG.of {P : Program} {w : World} {K : PySem.W.Frag} {mg : Str → Option Value} {base : Heap} {CX : CXT} {k : Nat} {f : Addr} {fd : FuncData} {ps : List Str} {sp : Sp} (F : FnOk P w K mg base CX k f fd ps sp) : FnG P w K mg base CX k f fd ps sp :=
  ⟨F.len, fun A outer s H args us vs Q E _ => F.run A outer s H args us vs Q E⟩

section
variable {X : Cx} {CX : CXT} {k : Nat} {f C : Addr} {fd : FuncData} {ps ks : List Str} {sp : Sp} {dvs : List V} {ds : List Value} {E : XK} {x m : Str} {p pos apos : Pos} {e o : Expr} {es : List Expr} {kws : List Keyword} {ta : TE} {t tk : TA}
theorem run_fg {pins : List (Addr × Obj)} {σ : L2.St} {H : Hp} {s : Shared} {Q : VK} {us : List Value} {vs : List V} (F : FnG X.prog X.w X.K X.mg X.base CX k f fd ps sp) (gd : X.A.guards = some []) (hr : Room k X.A) (hb : Binds X.K fd ps ds) (hd : Vals dvs ds) (hx : Passes CX X E)
    (I : Inv X pins σ H s) (r : Vals vs us) (h : sp (vs ++ dvs) H Q E) : wpAny (model X.prog X.w) X.A (call (.ref f) us) (EP X pins σ Q) X.xe s := by
  have r2 : Vals (vs ++ dvs) (us ++ ds) := r.append hd
  have hl : (us ++ ds).length = ps.length := by rw [← r2.length]; exact F.len _ _ _ _ h
  refine wpAny_call (codeAny_mono (F.run X.A X.stack s H ⟨us, []⟩ (us ++ ds) (vs ++ dvs) Q E gd hr I.env0 (hb s us I.kIn hl) r2 h) fun r s' hq => ?_)
  cases r with
  | error e => exact hx pins σ H s e s' I hq
  | ok fl =>
    cases fl with
    | ret u => exact I.after hq
    | next => exact False.elim hq
    | brk => exact False.elim hq
    | cont => exact False.elim hq
theorem pe_callG (F : FnG X.prog X.w X.K X.mg X.base CX k f fd ps sp) (gd : X.A.guards = some []) (hr : Room k X.A) (hg : Gl X x) (hm : X.mg x = some (.ref f)) (hk : PySem.W.keepIn X.K (.ref f) = true) (hb : Binds X.K fd ps ds) (hd : Vals dvs ds) (hx : Passes CX X E)
    (ha : PA X (e :: es) t) (hdb : (x == ("__debug__" : Str)) = false := by decide) (he : starEach (e :: es) X.env = (false, eval e X.env) :: starEach es X.env := by rfl) (hpl : (backTo pos (starEach es X.env)).any (·.1) = false := by rfl) :
    PE X (.Call (.Name x p) (e :: es) [] pos) (tCall sp dvs E t) := by
  refine ⟨fun pins s σ H Q I h => ?_⟩
  refine wpAny_Call_Name_kw (ld_glob I hg hm ?_ hdb)
  refine PySem.W.callWith_K (h₀ := X.base) I.ok.mod.kin hk (thn (ha.run pos pins s σ H _ I h) fun us s1 ⟨vs, H1, I1, r, q⟩ => ⟨I1.kIn, ?_⟩) he hpl
  exact run_fg F gd hr hb hd hx I1 r q
theorem pe_callG0 (F : FnG X.prog X.w X.K X.mg X.base CX k f fd ps sp) (gd : X.A.guards = some []) (hr : Room k X.A) (hg : Gl X x) (hm : X.mg x = some (.ref f)) (hk : PySem.W.keepIn X.K (.ref f) = true) (hb : Binds X.K fd ps ds) (hd : Vals dvs ds) (hx : Passes CX X E)
    (hdb : (x == ("__debug__" : Str)) = false := by decide) : PE X (.Call (.Name x p) [] [] pos) (tCall sp dvs E tNil) := by
  refine ⟨fun pins s σ H Q I h => ?_⟩
  refine wpAny_Call_Name_kw (ld_glob I hg hm ?_ hdb)
  exact PySem.W.callWith_K0 I.kIn hk (run_fg (us := []) F gd hr hb hd hx I .nil h)
variable {g : List Value → List Value → List Value} {gV : List V → List V → List V}
theorem run_fgk {pins : List (Addr × Obj)} {σ : L2.St} {H : Hp} {s : Shared} {Q : VK} {us ws : List Value} {vs zs : List V} (F : FnG X.prog X.w X.K X.mg X.base CX k f fd ps sp) (gd : X.A.guards = some []) (hr : Room k X.A) (hb : KBinds X.K fd ps ks g gV) (hx : Passes CX X E)
    (I : Inv X pins σ H s) (r : Vals vs us) (rz : Vals zs ws) (h : sp (gV vs zs) H Q E) : wpAny (model X.prog X.w) X.A (call (.ref f) us (ks.zip ws)) (EP X pins σ Q) X.xe s := by
  have r2 := hb.rel r rz
  have hl : (g us ws).length = ps.length := by rw [← r2.length]; exact F.len _ _ _ _ h
  refine wpAny_call (codeAny_mono (F.run X.A X.stack s H ⟨us, ks.zip ws⟩ (g us ws) (gV vs zs) Q E gd hr I.env0 (hb.to s us ws I.kIn hl) r2 h) fun r s' hq => ?_)
  cases r with
  | error e => exact hx pins σ H s e s' I hq
  | ok fl =>
    cases fl with
    | ret u => exact I.after hq
    | next => exact False.elim hq
    | brk => exact False.elim hq
    | cont => exact False.elim hq
/-- f(k = v, ..): keywords alone -/
theorem pe_callGK0 (F : FnG X.prog X.w X.K X.mg X.base CX k f fd ps sp) (gd : X.A.guards = some []) (hr : Room k X.A) (hg : Gl X x) (hm : X.mg x = some (.ref f)) (hk : PySem.W.keepIn X.K (.ref f) = true) (hb : KBinds X.K fd ps ks g gV) (hx : Passes CX X E)
    (hkw : PK X kws tk) (hall : (backToKw pos (keywordEach kws X.env)).all (·.1.isSome) = true := by rfl) (hks : (backToKw pos (keywordEach kws X.env)).filterMap (·.1) = ks := by rfl)
    (hdb : (x == ("__debug__" : Str)) = false := by decide)
    (hpl : ((backTo pos (starEach [] X.env)).any (·.1) || (backToKw pos (keywordEach kws X.env)).any (·.1.isNone)) = false := by rfl) :
    PE X (.Call (.Name x p) [] kws pos) (tCallK sp gV E tNil tk) := by
  refine ⟨fun pins s σ H Q I h => ?_⟩
  refine wpAny_Call_Name_kw (ld_glob I hg hm ?_ hdb)
  refine PySem.W.callWith_KW0 (h₀ := X.base) I.ok.mod.kin hk hall ?_ hpl
  refine thn (hkw.run pos pins s σ H _ I h) fun ws s2 ⟨zs, H2, I2, rz, q2⟩ => ⟨I2.kIn, ?_⟩
  rw [hks]
  exact run_fgk (us := []) (vs := []) F gd hr hb hx I2 .nil rz q2
/-- f(e, .., k = v, ..) -/
theorem pe_callGK (F : FnG X.prog X.w X.K X.mg X.base CX k f fd ps sp) (gd : X.A.guards = some []) (hr : Room k X.A) (hg : Gl X x) (hm : X.mg x = some (.ref f)) (hk : PySem.W.keepIn X.K (.ref f) = true) (hb : KBinds X.K fd ps ks g gV) (hx : Passes CX X E)
    (ha : PA X (e :: es) t) (hkw : PK X kws tk) (hall : (backToKw pos (keywordEach kws X.env)).all (·.1.isSome) = true := by rfl) (hks : (backToKw pos (keywordEach kws X.env)).filterMap (·.1) = ks := by rfl)
    (hdb : (x == ("__debug__" : Str)) = false := by decide) (he : starEach (e :: es) X.env = (false, eval e X.env) :: starEach es X.env := by rfl)
    (hpl : ((backTo pos (starEach (e :: es) X.env)).any (·.1) || (backToKw pos (keywordEach kws X.env)).any (·.1.isNone)) = false := by rfl) :
    PE X (.Call (.Name x p) (e :: es) kws pos) (tCallK sp gV E t tk) := by
  refine ⟨fun pins s σ H Q I h => ?_⟩
  refine wpAny_Call_Name_kw (ld_glob I hg hm ?_ hdb)
  refine PySem.W.callWith_KW (h₀ := X.base) I.ok.mod.kin hk hall (thn (ha.run pos pins s σ H _ I h) fun us s1 ⟨vs, H1, I1, r, q⟩ => ?_) hpl he
  refine thn (hkw.run pos pins s1 σ H1 _ I1 q) fun ws s2 ⟨zs, H2, I2, rz, q2⟩ => ⟨I2.kIn, ?_⟩
  rw [hks]
  exact run_fgk F gd hr hb hx I2 r rz q2
end

theorem fn_ofG {CX : CXT} {P : Program} {w : World} {K : PySem.W.Frag} {mg : Str → Option Value} {base : Heap} {k : Nat} {f : Addr} {name qual : Str} {params : Arguments} {body : List Stmt} {scope : Scope} {dV kV doc pm cdv ct oc : Value} {an od : Option Addr}
    {osl : Array (Option Value)} {N ps : List Str} {sp : Sp} (lk : K.lookup f = some ⟨oc, od, .func (PySem.W.fnOf name qual params body scope dV kV doc pm an cdv ct), osl⟩) (hcd : PySem.W.codeIn K cdv qual = true) (S : FnScope N ps scope)
    (len : ∀ vs H Q E, sp vs H Q E → vs.length = ps.length)
    (hbody : ∀ (A : Around) (outer : List Env) (s : Shared) (H : Hp) (vs : List V) (Q : VK) (E : XK), A.guards = some [] → Room k (A.deeper (envOfC qual scope s.heap.objs.size f cdv)) → sp vs H Q E →
      ∃ t, PSs (cxOf CX P w K mg base N qual scope f cdv A outer s H E) body t ∧ t { nx := fun _ H' => Q .non H', rt := Q } (start N vs) H) :
    FnG P w K mg base CX (k + 1) f (PySem.W.fnOf name qual params body scope dV kV doc pm an cdv ct) ps sp := by
  refine ⟨len, fun A outer s H args us vs Q E hgd hr e0 hb r hsp => ?_⟩
  have hl := len _ _ _ _ hsp
  have KX : K.In s.heap := e0.mod.kin.keeps fun b o e => (e0.bs b o e).1
  have lim : s.heap.NoLimit := e0.mod.nolimit.keeps fun b o e => (e0.bs b o e).1
  have hkind : ∀ y ∈ ps.zip us, scope.names.lookup y.1 = some .local ∨ (scope.names.lookup y.1 = some .cell ∧ ((cellsFrom (s.heap.objs.size + 1) scope.names []).lookup y.1).isSome = true) := fun ⟨n, v⟩ hy => by
    rcases S.par n (List.of_mem_zip hy).1 with q | q
    · exact .inl q
    · exact .inr ⟨q, PySem.W.cellsFrom_some _ _ _ (.inl q)⟩
  refine codeAny_call_function hr.depth (KX _ _ lk) rfl S.co S.gen rfl (PySem.W.codeRec_of KX hcd) (hb _ _ _ _ ?_)
  refine wpAny_newFunctionEnv_cells S.kind hkind fun env he s1 x => ?_
  subst he
  refine ⟨lim.keeps x.toInCall.keep, codeAny_func ?_⟩
  obtain ⟨t, ht, hq⟩ := hbody A outer s H vs Q E hgd (hr.deeper _) hsp
  have I : Inv (cxOf CX P w K mg base N qual scope f cdv A outer s H E) [] (start N vs) H s1 := inv_start S hr.hd e0 hl r x
  refine wpAny_mono (ht.run [] s1 (start N vs) H _ I hq) (fun fl s' hs => ?_) fun e s' hs => hs
  have fin : ∀ {σ' : L2.St} {H' : Hp} {v : V} {u : Value}, Inv (cxOf CX P w K mg base N qual scope f cdv A outer s H E) [] σ' H' s' → RelV v u → Q v H' → CE outer P w H s Q u s' :=
    fun {σ' H' v u} J rv q => ⟨v, H', J.os, J.bare, J.base, J.hok, rv, q⟩
  cases fl with
  | ret u =>
    obtain ⟨v, σ', H', J, rv, q⟩ := hs
    exact fin J rv q
  | next =>
    obtain ⟨σ', H', J, q⟩ := hs
    exact fin (v := V.non) (u := Value.none) J rfl q
  | brk =>
    obtain ⟨_, _, _, q⟩ := hs
    exact False.elim q
  | cont =>
    obtain ⟨_, _, _, q⟩ := hs
    exact False.elim q
section
variable {P : Program} {w : World} {K : PySem.W.Frag} {mg : Str → Option Value} {base : Heap}
/-- a def whose body lets no exception out -/
theorem okG {x qual : Str} {st : Stmt} {f : Addr} {fd : FuncData} {N ps : List Str} {k : Nat} {sp : Sp} (F : Fun K x qual st f fd) (S : FnScope N ps (defScope st)) (len : ∀ vs H Q E, sp vs H Q E → vs.length = ps.length)
    (hbody : ∀ (cdv : Value) (A : Around) (outer : List Env) (s : Shared) (H : Hp) (vs : List V) (Q : VK) (E : XK), A.guards = some [] → Room k (A.deeper (envOfC qual (defScope st) s.heap.objs.size f cdv)) → sp vs H Q E →
      ∃ t, PSs (cxOf CX0 P w K mg base N qual (defScope st) f cdv A outer s H E).nox (defBody st) t ∧ t { nx := fun _ H' => Q .non H', rt := Q } (start N vs) H) : FnG P w K mg base CX0 (k + 1) f fd ps sp := by
  obtain ⟨oc, od, kV, doc, pm, an, cdv, ct, osl, rfl, lk, hcd⟩ := F.ex
  refine fn_ofG lk hcd S len fun A outer s H vs Q E hgd hr hsp => ?_
  obtain ⟨t, h, q⟩ := hbody cdv A outer s H vs Q E hgd hr hsp
  exact ⟨t, h.nox, q⟩
theorem okGX {x qual : Str} {st : Stmt} {f : Addr} {fd : FuncData} {N ps : List Str} {k : Nat} {sp : Sp} {CX : CXT} (F : Fun K x qual st f fd) (S : FnScope N ps (defScope st)) (len : ∀ vs H Q E, sp vs H Q E → vs.length = ps.length)
    (hbody : ∀ (cdv : Value) (A : Around) (outer : List Env) (s : Shared) (H : Hp) (vs : List V) (Q : VK) (E : XK), A.guards = some [] → Room k (A.deeper (envOfC qual (defScope st) s.heap.objs.size f cdv)) → sp vs H Q E →
      ∃ t, PSs (cxOf CX P w K mg base N qual (defScope st) f cdv A outer s H E) (defBody st) t ∧ t { nx := fun _ H' => Q .non H', rt := Q } (start N vs) H) : FnG P w K mg base CX (k + 1) f fd ps sp := by
  obtain ⟨oc, od, kV, doc, pm, an, cdv, ct, osl, rfl, lk, hcd⟩ := F.ex
  exact fn_ofG lk hcd S len fun A outer s H vs Q E hgd hr hsp => hbody cdv A outer s H vs Q E hgd hr hsp
end

/-- as law_call -/
theorem law_callG {P : Program} {w : World} {K : PySem.W.Frag} {mg mb : Str → Option Value} {CX : CXT} {k : Nat} {fa a : Addr} {fd : FuncData} {x : Str} {sp : Sp} {s₁ : Shared} {vs : List Value} {ns : List Int}
    (KX : K.In s₁.heap) (hns : s₁.heap.Ns mainGlobals mg) (hb : s₁.heap.Ns builtinsNs mb) (hbb : ∀ x : Str, x ≠ "__name__" → mb x = bootBuiltins x) (hlim : s₁.heap.NoLimit) (hg : s₁.gens = #[])
    (ha : s₁.heap.get? a = some { cls := .type "list", data := .seq vs.toArray }) (hi : IntsAre vs ns) (hl : ns.length ≤ sizeLine) (hr : Room k callerA)
    (F : ∀ base : Heap, K.In base → base.Ns mainGlobals mg → FnG P w K mg base CX k fa fd [x] sp) (hbind : ∀ (s : Shared) (u : Value), BindsTo s fd ⟨[u], []⟩ [(x, u)])
    (hsp : ∀ H : Hp, Only H → SqL K H a (ns.map V.int) → sp [.ref a] H (fun v _ => v = .bl true) fun _ _ _ => False)
    (hCX : ∀ H e s', CX [] H s₁ (fun _ _ _ => False) e s' → False) :
    codeAny (model P w) callerA (.call (.ref fa) ⟨[.ref a], []⟩) (fun r s' => r = .ok (.ret (.bool true)) ∧ OldK s₁.heap s'.heap ∧ s'.os = s₁.os ∧ AllBare s'.gens) s₁ := by
  -- the guards of the caller are known: the promise of FnG is had at callerA alone, so any other place is answered by a guard that isn't there
  let sp' : Sp := sp
  have rv := vals_ints hi
  have lenV := hi.length
  have core : ∀ H : Hp, Only H → SqL K H a (ns.map V.int) → HOk P w H s₁.heap → (∀ b, H b ≠ none → b = a) → (H a ≠ none → K.lookup a = none) →
      codeAny (model P w) callerA (.call (.ref fa) ⟨[.ref a], []⟩) (fun r s' => r = .ok (.ret (.bool true)) ∧ OldK s₁.heap s'.heap ∧ s'.os = s₁.os ∧ AllBare s'.gens) s₁ := by
    intro H hO hS hok hA hK
    have base_of : ∀ {b : Addr} {o : Obj}, s₁.heap.get? b = some o → H b = none → (hidT s₁.heap H).get? b = some o := fun e n => hidT_get e n
    have noA : ∀ {b : Addr} {o : Obj} {es : Array DictEntry} {ep : Nat}, s₁.heap.get? b = some o → o.data = .dict es ep → H b = none := fun {b o es ep} e d => by
      cases q : H b with
      | none => rfl
      | some u =>
        have e' : b = a := hA b (by rw [q]; simp)
        subst e'
        rw [ha] at e; cases e
        have d' : Data.seq vs.toArray _ = Data.dict es ep := d
        cases d'
    have nsK : ∀ {b : Addr} {m : Str → Option Value}, s₁.heap.Ns b m → (hidT s₁.heap H).Ns b m := fun {b m} ⟨o, es, ep, e, d, r⟩ => ⟨o, es, ep, base_of e (noA e d), d, r⟩
    have hKb : K.In (hidT s₁.heap H) := fun b o e => base_of (KX b o e) (by
      cases q : H b with
      | none => rfl
      | some u =>
        have e' : b = a := hA b (by rw [q]; simp)
        subst e'
        rw [hK (by rw [q]; simp)] at e; cases e)
    have hM : Mod K mg (hidT s₁.heap H) := ⟨hKb, nsK hns, ⟨mb, nsK hb, hbb⟩, let ⟨mc, h1, h2⟩ := hlim; ⟨mc, nsK h1, h2⟩⟩
    have e0 : Env0 P w K mg (hidT s₁.heap H) callerA [] s₁ H := ⟨rfl, hM, fun b o e => of_hidT e, Nat.le_of_eq (hidT_size _ _), trivial, fun b hb => absurd (show b ∈ ([] : List Addr) from hb) (by simp), hok, .of_eq hg⟩
    refine codeAny_mono ((F _ hKb (nsK hns)).run callerA [] s₁ H ⟨[.ref a], []⟩ [.ref a] [.ref a] _ _ rfl hr e0 (hbind s₁ (.ref a)) (.cons rfl .nil) (hsp H hO hS)) fun r s' h => ?_
    cases r with
    | error e => exact (hCX H e s' h).elim
    | ok fl =>
      cases fl with
      | next => exact False.elim h
      | brk => exact False.elim h
      | cont => exact False.elim h
      | ret u =>
        obtain ⟨v, H', os, bare, un, hok', r', q⟩ := h
        have q' : v = .bl true := q
        subst q'
        obtain rfl : u = Value.bool true := r'
        refine ⟨rfl, OldK.of_keep fun b o e => ?_, os, bare⟩
        cases q : H b with
        | none => exact un.keep b o e q (by intro z; exact absurd (show b ∈ ([] : List Addr) from z) (by simp)) (by simp)
        | some u =>
          rcases hO b with z | ⟨ob, xs, z⟩
          · rw [q] at z; cases z
          · have z2 := un.frzs b ob _ z
            obtain ⟨e1, _⟩ := hok b _ z
            obtain ⟨e2, _⟩ := hok' b _ z2
            rw [e] at e1; cases e1
            exact e2
  cases hk : K.lookup a with
  | some o =>
    have e := KX a o hk
    rw [ha] at e
    cases e
    refine core (fun _ => none) (fun _ => .inl rfl) (.inr ⟨_, vs.toArray, _, hk, rfl, rfl, rfl, by rw [List.size_toArray, lenV]; exact hl, by simpa using rv⟩) (fun b u z => by have z' : (none : Option HO) = some u := z; cases z') (fun b z => absurd rfl z) fun z => absurd rfl z
  | none =>
    refine core (fun b => if b = a then some (.frz { cls := .type "list", data := .seq vs.toArray } (.lst (ns.map V.int))) else none) (fun b => ?_) (.inl (.inr ⟨{ cls := .type "list", data := .seq vs.toArray }, if_pos rfl⟩)) (fun b u z => ?_) (fun b z => ?_) fun _ => hk
    · by_cases hb : b = a
      · exact .inr ⟨_, _, if_pos hb⟩
      · exact .inl (if_neg hb)
    · by_cases hb : b = a
      · have z' := (if_pos hb).symm.trans z
        cases z'
        subst hb
        exact ⟨ha, by rw [List.length_map]; exact hl, vs, _, rv, ha⟩
      · have z' := (if_neg hb).symm.trans z
        cases z'
    · by_cases hb : b = a
      · exact hb
      · exact absurd (if_neg hb) z
theorem walk_ofG {l : PySem.W.OpenLaw} {n k : Nat} {q : Program} {loose : List Str} {XP : (Str → Option Value) → Heap → Prop} {YP : World → Heap → Prop} {d : DefRec} {K : Params → PySem.W.Frag} {CX : World → CXT} {sp : World → Sp} {x : Str}
    (hn : l.most = some n) (hn2 : n ≤ sizeLine) (hdf : d.params.defaults = []) (hr : Room k callerA)
    (hY : ∀ (w : World) (h : Heap), YP w h → (K w.params).In h)
    (F : ∀ (w : World) (mg : Str → Option Value) (fa : Addr) (h : Heap), (K w.params).In h → h.Ns mainGlobals mg → mg d.name = some (.ref fa) →
      ∃ fd : FuncData, (∀ (s : Shared) (u : Value), BindsTo s fd ⟨[u], []⟩ [(x, u)]) ∧
        ∀ base : Heap, (K w.params).In base → base.Ns mainGlobals mg → FnG l.prog w (K w.params) mg base (CX w) k fa fd [x] (sp w))
    (hsp : ∀ (w : World) (H : Hp) (a : Addr) (ns : List Int), ns.length ≤ n → Only H → SqL (K w.params) H a (ns.map V.int) → sp w [.ref a] H (fun v _ => v = .bl true) fun _ _ _ => False)
    (hCX : ∀ (w : World) (H : Hp) (s : Shared) (e : Value) (s' : Shared), CX w [] H s (fun _ _ _ => False) e s' → False) :
    PySem.W.WalkO q loose XP YP l.row.toRowW d [] (fun f vs => PySem.call f vs) := by
  refine Att.attach_call hn hdf fun w s₀ s₁ mg mb fa o pm cd doc a vs ns G Y ho hd hcd hmg hobj hints hlen hg => ?_
  have KX := hY w _ Y
  obtain ⟨fd, hb, hF⟩ := F w mg fa _ KX G.T.g hmg
  exact law_callG KX G.T.g G.T.b G.T.builtins G.T.nolimit hg hobj hints (Nat.le_trans hlen hn2) hr hF hb (fun H hO hS => hsp w H a ns hlen hO hS) fun H e s' => hCX w H s₁ e s'
end VL

set_option Elab.async false
set_option linter.all false
set_option maxRecDepth 100000
set_option maxHeartbeats 4000000
/-! VX0: an own error of one field whose __init__ hands it to its super: the machine's side. -/
namespace VX
open PySem PySem.W PySem.Calls PyProof.Rows PySem.HandSPX PySem.Spec
/-- the text of __init__(self, f): super().__init__(f); self.f = f -/
def xA (f : Str) (a1 a2 : Pos) : Arguments := { posonlyargs := [], args := [{ arg := "self", annotation := none, pos := a1 }, { arg := f, annotation := none, pos := a2 }], vararg := none, kwonlyargs := [], kw_defaults := [], kwarg := none, defaults := [] }
def xB (f : Str) (p0 p1 p2 p3 p4 p5 q1 q2 q3 q4 : Pos) : List Stmt :=
  [.Expr (.Call (.Attribute (.Call (.Name "super" p0) [] [] p1) "__init__" p2) [.Name f p3] [] p4) p5, .Assign [.Attribute (.Name "self" q1) f q2] (.Name f q3) q4]
def xS (f : Str) : Scope := { kind := .function, names := [("self", .local), (f, .local), ("__class__", .free), ("super", .globalImplicit)], isGenerator := false, isCoroutine := false, more := [] }
/-- f is a name like another -/
structure Plain (f : Str) : Prop where
  a : (f == ("self" : Str)) = false
  b : (f == ("__class__" : Str)) = false
  c : (f == ("super" : Str)) = false
  d : (f == ("__debug__" : Str)) = false
  a' : (("self" : Str) == f) = false
  b' : (("__class__" : Str) == f) = false
  c' : (("super" : Str) == f) = false
/-- the call of super().__init__ as it is evaluated where it stands -/
def Late (f : Str) (p0 p1 p2 p3 p4 : Pos) : Prop := ∃ pl : Sem Bool, ∀ env : Env, eval (.Call (.Attribute (.Call (.Name "super" p0) [] [] p1) "__init__" p2) [.Name f p3] [] p4) env = (do
  let ov ← attributeBase (.Call (.Name "super" p0) [] [] p1) "__init__" env (eval (.Call (.Name "super" p0) [] [] p1) env)
  standAt p2.atName
  let (g, first) ← holding [ov] (getMethod ov "__init__" pl)
  callWith p4 g first (backTo p4 (starEach [.Name f p3] env)) [])
/-- what the written part says of the class x at C and of its __init__ at fI -/
structure XTxt (prog : Program) (K : Frag) (mg : Str → Option Value) (x f : Str) (C fI : Addr) : Prop where
  gC : mg x = some (.ref C)
  nC : nsIn K mainGlobals x = some (some (.ref C))
  cls : ∃ nm q N bs bm sn sub ab col dd k0 k1 k2 k3 k5, K.lookup C = some (excClassObj nm q C N bs bm true sn sub ab col dd k0 k1 k2 k3 k5 "ValueError.__new__") ∧ refsVE bm = true
  sa : findIn K (.ref C) "__setattr__" = some (some (.builtin "object.__setattr__"))
  ga : findIn K (.ref C) "__getattribute__" = some (some (.builtin "BaseException.__getattribute__"))
  gg : findIn K (.ref C) "__getattr__" = some none
  noN : findIn K (.ref C) f = some none
  iC : findIn K (.ref C) "__init__" = some (some (.ref fI))
  tC : typeIn K (.ref fI) = some (.type "function")
  kC : keepIn K (.ref C) = true
  exC : subIn K (.ref C) (.type "BaseException") = some true
  veC : subIn K (.ref C) (.type "ValueError") = some true
  tyC : typeIn K (.ref C) = some (.type "type")
  hdC : hasDictIn K C = true
  su : ks_superIn K C C "__init__" = some (some (.builtin "ValueError.__init__"))
  mC : mroIn K C (.ref C) = some true
  no : nsIn K cStatics "thirdparty.any" = some none
  sup : nsIn K mainGlobals "super" = some none
  pl : Plain f
  bd : ∀ (qual : Str) (a1 a2 p0 p1 p2 p3 p4 p5 q1 q2 q3 q4 : Pos) (doc pm : Value) (an : Option Addr) (cda : Addr) (ct : Value) (cc : Addr) (u v : Value), bindArgs (ksFn "__init__" qual (xA f a1 a2) (xB f p0 p1 p2 p3 p4 p5 q1 q2 q3 q4) (xS f) .none .none doc pm an (.ref cda) ct cc) ⟨[u, v], []⟩ = pure [(("self" : Str), u), (f, v)]
  fn : ∃ (oc : Value) (od : Option Addr) (doc pm : Value) (an : Option Addr) (ct : Value) (osl : Array (Option Value)) (a1 a2 p0 p1 p2 p3 p4 p5 q1 q2 q3 q4 : Pos) (qual : Str) (cc cda : Addr) (ccl cl : Value) (cdd cld : Option Addr) (ccs csl : Array (Option Value)) (vs : Array Value) (file : Str) (tf : Tok),
    K.lookup fI = some ⟨oc, od, .func (ksFn "__init__" qual (xA f a1 a2) (xB f p0 p1 p2 p3 p4 p5 q1 q2 q3 q4) (xS f) .none .none doc pm an (.ref cda) ct cc), osl⟩ ∧ codeIn K (.ref cda) qual = true ∧
    K.lookup cda = some ⟨ccl, cdd, .fields vs, ccs⟩ ∧ vs[2]? = some (.str file tf) ∧ ((prog.main.file : Str) == file) = true ∧ (prog.main.scope.names.lookup ("super" : Str)).isSome = false ∧ K.lookup cc = some ⟨cl, cld, .cell (some (.ref C)), csl⟩ ∧ Late f p0 p1 p2 p3 p4
/-- what __init__ leaves of a fresh exception at x -/
structure XEnd (h h' : Heap) (f : Str) (x C dx t1 : Addr) (v : Value) : Prop where
  keep : ∀ b o, b ≠ x → h.get? b = some o → h'.get? b = some o
  obj : h'.get? x = some { cls := .ref C, dict := some dx, data := .fields #[.ref t1, .none, .none, .none, .bool false, .none] }
  dbig : h.objs.size ≤ dx
  dne : dx ≠ x
  ns : h'.Ns1 dx (fun y => if y = f then some v else none)
section
variable {prog : Program} {w : World} {A : Around} {E : Value → Shared → Prop} {R : Result → Shared → Prop} {s : Shared} {K : Frag} {mg mb : Str → Option Value} {C fI : Addr} {nm f : Str}
theorem ld_own {M : Model} {s : Shared} {q : Str} {scope : Scope} {L a cc : Addr} {cd : Value} {m : Str → Option Value} {x : Str} {pos : Pos} {v : Value} {Q : Value → Shared → Prop} (hn : s.heap.Ns L m) (hv : m x = some v) (h : Q v s)
    (hk : scope.kind = .function) (hl : (ksEnv q scope L a cd cc).kindOf x = some .local) (hd : (x == ("__debug__" : Str)) = false) : wpAny M A (eval (.Name x pos) (ksEnv q scope L a cd cc)) Q E s := wpAny_Name (wpAny_loadName_local hk hl hn hv h) hd
theorem look_f (P : Plain f) : (xS f).names.lookup f = some .local := by
  show List.lookup f [(("self" : Str), NameKind.local), (f, .local), ("__class__", .free), ("super", .globalImplicit)] = _
  rw [List.lookup_cons, P.a]
  simp
theorem look_self : (xS f).names.lookup ("self" : Str) = some .local := by
  show List.lookup ("self" : Str) [(("self" : Str), NameKind.local), (f, .local), ("__class__", .free), ("super", .globalImplicit)] = _
  simp
theorem look_class (P : Plain f) : (xS f).names.lookup ("__class__" : Str) = some .free := by
  show List.lookup ("__class__" : Str) [(("self" : Str), NameKind.local), (f, .local), ("__class__", .free), ("super", .globalImplicit)] = _
  rw [List.lookup_cons, show (("__class__" : Str) == "self") = false by decide, List.lookup_cons, P.b']
  simp
theorem look_super (P : Plain f) : (xS f).names.lookup ("super" : Str) = some .globalImplicit := by
  show List.lookup ("super" : Str) [(("self" : Str), NameKind.local), (f, .local), ("__class__", .free), ("super", .globalImplicit)] = _
  rw [List.lookup_cons, show (("super" : Str) == "self") = false by decide, List.lookup_cons, P.c', List.lookup_cons, show (("super" : Str) == "__class__") = false by decide]
  simp
theorem x_init (T : XTxt prog K mg nm f C fI) {x t0 : Addr} {v : Value} (X : K.In s.heap) (hlim : s.heap.NoLimit) (hg : s.heap.Ns mainGlobals mg) (hb : s.heap.Ns builtinsNs mb) (hbb : ∀ x : Str, x ≠ "__name__" → mb x = bootBuiltins x) (hmg : mg "super" = none)
    (hx : s.heap.get? x = some (excO C t0)) (hnx : K.lookup x = none) (hroom : A.depth < recursionLimit)
    (hq : ∀ h' tk dx t1, XEnd s.heap h' f x C dx t1 v → R (.ok (.ret .none)) { s with heap := h', toks := tk }) :
    codeAny (model prog w) A (.call (.ref fI) ⟨[.ref x, v], []⟩) R s := by
  obtain ⟨oc, od, doc, pm, an, ct, osl, a1, a2, p0, p1, p2, p3, p4, p5, q1, q2, q3, q4, qual, cc, cda, ccl, cl, cdd, cld, ccs, csl, vs, file, tf, ho, hcd, hcode, hvs, hfile, htop, hcell, pl, hlate⟩ := T.fn
  obtain ⟨cnm, q, N, bs, bm, sn, sub, ab, col, dd, k0, k1, k2, k3, k5, hC, hbm⟩ := T.cls
  have P := T.pl
  have hcl : clsIn K C = some { name := cnm, bases := bs, mro := .ref C :: bm, ns := N, qualname := q, hasDict := true, slotNames := sn, subclasses := sub, abstract := ab, collection := col, hasDel := false } := by unfold clsIn; rw [hC] <;> rfl
  refine ks_codeAny_call_defAt (fd := ksFn "__init__" qual (xA f a1 a2) (xB f p0 p1 p2 p3 p4 p5 q1 q2 q3 q4) (xS f) .none .none doc pm an (.ref cda) ct cc) (binds := [("self", .ref x), (f, v)]) hroom (X _ _ ho) rfl hlim (codeRec_of X hcd) rfl (BindsTo.of_eq (T.bd _ _ _ _ _ _ _ _ _ _ _ _ _ _ _ _ _ _ _ _ _)) ?_ ?_ (fun h₁ hn k => ?_) rfl rfl rfl
  · intro y hy
    simp only [xS, List.mem_cons, List.not_mem_nil, or_false] at hy
    rcases hy with rfl | rfl | rfl | rfl <;> (intro z; cases z)
  · intro y hy
    simp only [List.mem_cons, List.not_mem_nil, or_false] at hy
    rcases hy with rfl | rfl
    · exact look_self
    · exact look_f P
  have X₁ : K.In h₁ := X.keeps k
  have hx₁ := k _ _ hx
  have ne : x ≠ C := fun z => by
    have y := X _ _ hC
    rw [← z, hx] at y
    cases y
  have mv : (List.lookup f ([(("self" : Str), Value.ref x), (f, v)].reverse)) = some v := by
    show List.lookup f [(f, v), (("self" : Str), Value.ref x)] = _
    simp
  have mx : (List.lookup ("self" : Str) ([(("self" : Str), Value.ref x), (f, v)].reverse)) = some (.ref x) := by
    show List.lookup ("self" : Str) [(f, v), (("self" : Str), Value.ref x)] = _
    rw [List.lookup_cons, P.a']
    simp
  -- super().__init__(f)
  refine ks_wpAt_execs_cons (ks_wpAt_Expr_any (ks_wpAt_MethodCall (pl := pl) ?_ (hlate _)) rfl rfl)
  · refine ks_wpAt_super_base (fd := ksFn "__init__" qual (xA f a1 a2) (xB f p0 p1 p2 p3 p4 p5 q1 q2 q3 q4) (xS f) .none .none doc pm an (.ref cda) ct cc) (look_super P) (look_class P) (by decide) rfl (k _ _ (X _ _ ho)) rfl rfl rfl (k _ _ (X _ _ hcode)) rfl hvs hfile htop ?_
    refine ks_loadName_global rfl (look_super P) (loadGlobal_builtin (hg.keeps k) hmg (hb.keeps k) ((hbb _ (by decide +kernel)).trans (by first | boot_by_name | rfl | kernel_rfl)) ⟨rfl, ?_⟩)
    refine wpAny_loadName_free rfl (look_class P) rfl ⟨_, X₁ _ _ hcell, rfl⟩ ?_
    refine wpAny_loadName_local rfl look_self hn mx ?_
    refine ks_wpAny_isType_cls (X₁ _ _ hC) rfl ⟨rfl, ?_⟩
    refine ks_wpAny_call_super (X₁ _ _ hC) rfl hx₁ rfl (fun c z => by cases z) (looks_mroIn X₁ T.mC) (fun h₂ e₂ k₂ => ?_)
    have X₂ : K.In h₂ := X₁.keeps k₂
    have hx₂ := k₂ _ _ hx₁
    have I₂ : InstAt h₂ x (excO C t0) C none := ⟨hx₂, rfl, rfl, trivial⟩
    have su : alongIn K "__init__" (((Value.ref C :: bm).dropWhile (· != .ref C)).drop 1) = some (some (.builtin "ValueError.__init__")) := by
      have y := T.su
      unfold ks_superIn at y
      rw [hcl] at y
      exact y
    refine kxs_getMethod kxs_ValueError e₂ (looks_opaque X₂ T.no) (l₀ := .ref C :: bm) (fun A Q E s k q => wpAny_bind ((looks_clsIn X₂ hcl) A _ E s k (wpAny_pure q))) rfl X₂ su (I₂.type.andThen (looks_subIn X₂ T.veC)) ne (by decide) ?_
    have k₃ : ∀ b o, h₂.get? b = some o → (h₂.push (kxs_mw "ValueError.__init__" x)).get? b = some o := fun b o e => Heap.get?_push_of_some _ e
    have hu : (h₂.push (kxs_mw "ValueError.__init__" x)).get? h₂.objs.size = some (kxs_mw "ValueError.__init__" x) := Heap.get?_push_at rfl rfl
    have hn₃ := (hn.keeps k₂).keeps k₃
    refine kxs_callWith (i := "ValueError.__init__") (x := x) rfl (evalArgs_plain (spliced_cons ?_))
    refine ld_own hn₃ mv ?_ rfl (look_f P) P.d
    refine spliced_nil ⟨hu, ?_⟩
    -- the built-in __init__: the args anew
    refine wpAny_call (codeAny_of_tree ?_)
    show wpAny _ _ (callAny (.ref h₂.objs.size) ⟨[v], []⟩) _ _ _
    simp only [callAny]
    refine wpAny_bind (wpAny_load hu ?_)
    simp only [kxs_mw, show (Value.type "method-wrapper" == Value.type "method" || Value.type "method-wrapper" == Value.type "builtin_function_or_method" || Value.type "method-wrapper" == Value.type "method-wrapper") = true by decide, if_true]
    refine KFB.if_so (by decide) ?_
    refine wpAny_bind (check_bound_init F.excBase_ValueError.toExcCallFacts (k₃ _ _ (k₂ _ _ (X₁ _ _ hC))) (k₃ _ _ hx₂) rfl ?_)
    refine wpAny_bind (wpAny_pure (wpAny_pure ?_))
    refine ⟨plainId_quiet F.excBase_ValueError.init.plain _, codeAny_builtin F.excBase_ValueError.initEntry ?_⟩
    refine exc_init_tree (cls := .ref C) (t0 := t0) (dv := none) (c2 := .none) (c3 := .none) (b4 := .bool false) (k₃ _ _ hx₂) (by rw [sizeLine_eq]; exact (by decide : 1 ≤ 16777216)) (fun h₄ k₄ hx₄ ht₄ => ?_)
    have k04 : ∀ b o, b ≠ x → s.heap.get? b = some o → h₄.get? b = some o := fun b o z e => k₄ b o z (k₃ _ _ (k₂ _ _ (k _ _ e)))
    have X₄ : K.In h₄ := fun a o e => k04 a o (fun z => by rw [z, hnx] at e; cases e) (X _ _ e)
    have nL : s.heap.objs.size ≠ x := Nat.ne_of_gt (Heap.lt_size hx)
    have hn₄ : h₄.Ns s.heap.objs.size (fun y => List.lookup y ([(("self" : Str), Value.ref x), (f, v)].reverse)) := by
      obtain ⟨oL, es, ep, e, r⟩ := hn₃
      exact ⟨oL, es, ep, k₄ _ _ nL e, r⟩
    show _root_.PySem.wpAt _ _ _ (execs _ _) _ _ _
    refine ks_wpAt_execs_cons (ks_wpAt_Assign_Attr (wpAt_of_wpAny ?_) ?_)
    · refine ld_own (q := qual) (scope := xS f) hn₄ mv ?_ rfl (look_f P) P.d
      refine ld_own (q := qual) (scope := xS f) hn₄ mx ?_ rfl look_self (by decide)
      refine set_plain X₄ (ox := excO C (h₂.push (kxs_mw "ValueError.__init__" x)).objs.size) (od := none) ⟨hx₄, rfl, rfl, trivial⟩ T.sa ?_
      refine exc_osa X₄ hx₄ hcl (show refsVE (.ref C :: bm) = true from hbm) rfl T.noN (fun h₅ tk₅ dx k₅ dn dne hx₅ hn₅ => ?_)
      show _root_.PySem.wpAt _ _ _ (execs _ _) _ _ _
      refine wpAt_of_wpAny (wpAny_execs_nil ?_)
      refine hq h₅ tk₅ dx _ ⟨fun b o hb e => k₅ b o hb (k04 b o hb e), hx₅, ?_, dne, hn₅⟩
      have z : s.heap.objs.size < h₄.objs.size := hn₄.lt
      exact Nat.le_of_lt (Nat.lt_of_lt_of_le z dn)
    · rfl
end
end VX

set_option Elab.async false
set_option linter.all false
set_option maxRecDepth 100000
set_option maxHeartbeats 4000000
/-! VX1: an own error made and raised; a caught one that is kept beyond its suite. -/
namespace VX
open PySem PySem.W PySem.Calls PyProof.Rows PySem.HandSPX PySem.Spec
section
variable {prog : Program} {w : World} {A : Around} {R : Result → Shared → Prop} {s : Shared} {K : Frag} {mg mb : Str → Option Value} {C fI : Addr} {nm f : Str}
/-- a made one -/
structure XMade (h h' : Heap) (f : Str) (e C d : Addr) (v : Value) : Prop where
  keep : ∀ b o, h.get? b = some o → h'.get? b = some o
  new : h.objs.size ≤ e
  obj : ∃ oe vs, h'.get? e = some oe ∧ oe.cls = .ref C ∧ oe.dict = some d ∧ oe.data = .fields vs ∧ vs[1]? = some .none
  dbig : h.objs.size ≤ d
  dne : d ≠ e
  ns : h'.Ns1 d (fun y => if y = f then some v else none)
theorem x_made (T : XTxt prog K mg nm f C fI) {v : Value} (X : K.In s.heap) (hlim : s.heap.NoLimit) (hg : s.heap.Ns mainGlobals mg) (hb : s.heap.Ns builtinsNs mb) (hbb : ∀ x : Str, x ≠ "__name__" → mb x = bootBuiltins x) (hmg : mg "super" = none)
    (hroom : A.depth + 1 < recursionLimit) (hq : ∀ h' tk e d, XMade s.heap h' f e C d v → R (.ok (.ret (.ref e))) { s with heap := h', toks := tk }) :
    codeAny (model prog w) A (.call (.ref C) ⟨[v], []⟩) R s := by
  obtain ⟨cn, q, N, bs, bm, sn, sub, ab, col, dd, k0, k1, k2, k3, k5, hC, hbm⟩ := T.cls
  obtain ⟨hp, g, dr, tk, os⟩ := s
  generalize e2 : (hp.push (kdv_tup [v])).push (excO C hp.objs.size) = h2
  have k : ∀ b o, hp.get? b = some o → h2.get? b = some o := fun b o e => by
    rw [← e2]
    exact Heap.get?_push_of_some _ (Heap.get?_push_of_some _ e)
  have at2 : h2.get? (hp.objs.size + 1) = some (excO C hp.objs.size) := by
    rw [← e2]
    heap_get
  have sz2 : h2.objs.size = hp.objs.size + 1 + 1 := by rw [← e2, Heap.size_push, Heap.size_push]
  have free : K.lookup (hp.objs.size + 1) = none := by
    cases e : K.lookup (hp.objs.size + 1) with
    | none => rfl
    | some o => exact absurd (Nat.lt_of_succ_lt (Heap.lt_size (show hp.get? (hp.objs.size + 1) = some o from X _ _ e))) (Nat.lt_irrefl _)
  refine call_own F.excBase_ValueError (fun Y => refsVE_contains Y bm hbm) (X _ _ hC) (looks_findIn X T.iC) (fun self => bind_fn X self T.tC) (by rw [sizeLine_eq]; exact (by decide : 1 ≤ 16777216)) ?_
  rw [e2]
  refine x_init (s := ⟨h2, g, dr, tk, os⟩) (mb := mb) T (X.keeps k) (hlim.keeps k) (hg.keeps k) (hb.keeps k) hbb hmg at2 free hroom fun h' tk' dx t1 Z => ?_
  have old : ∀ b o, hp.get? b = some o → h'.get? b = some o := fun b o e => Z.keep b o (Nat.ne_of_lt (Nat.lt_succ_of_lt (Heap.lt_size e))) (k b o e)
  have big : h2.objs.size ≤ dx := Z.dbig
  exact ⟨rfl, hq h' tk' (hp.objs.size + 1) dx ⟨old, Nat.le_succ _, ⟨_, _, Z.obj, rfl, rfl, rfl, rfl⟩, (by show hp.objs.size ≤ dx; omega), Z.dne, Z.ns⟩⟩
end
end VX
namespace VX
open PySem PySem.Spec PyProof.Rows L2
section
variable {X : Cx} {C fI : Addr} {nm f : Str}
theorem relO_one {v : V} {u : Value} (r : RelV v u) (g : Str) : RelO (List.lookup g [(f, v)]) (if g = f then some u else none) := by
  by_cases hw : g = f
  · subst hw
    rw [if_pos rfl, show List.lookup g [(g, v)] = some v by simp [List.lookup]]
    exact r
  · rw [if_neg hw, show List.lookup g [(f, v)] = none by simp [List.lookup, show (g == f) = false by simpa using hw]]
    trivial
/-- X(e) -/
def tMkX (C : Addr) (f : Str) (ta : TA) : L2.St → Hp → XK → Prop := fun σ H Q => ta σ H fun vs H1 => ∃ v, vs = [v] ∧ ∀ d, H1 d = none → Q (.ref C) (some d) (upd H1 d (.xd [(f, v)]))
theorem pmk_x {a : Expr} {ta : TA} {p pos : Pos} {k : Nat} (T : XTxt X.prog X.K X.mg nm f C fI) (hmg : X.mg "super" = none) (hr : Room k X.A) (ha : PA X [a] ta) (hg : Gl X nm) (hd : (nm == ("__debug__" : Str)) = false)
    (he : starEach (a :: []) X.env = (false, eval a X.env) :: starEach [] X.env) (hpl : (backTo pos (starEach [] X.env)).any (·.1) = false) :
    PMk X (.Call (.Name nm p) [a] [] pos) (tMkX C f ta) := by
  intro pins s σ H Q I h
  refine wpAny_Call_Name_kw (ld_glob I hg T.gC ?_ hd)
  refine PySem.W.callWith_K (h₀ := X.base) I.ok.mod.kin T.kC (thn (ha.run pos pins s σ H _ I h) fun us s1 hh => ?_) he hpl
  obtain ⟨vs, H1, I1, r1, v, rfl, q1⟩ := hh
  refine ⟨I1.kIn, ?_⟩
  obtain ⟨u, rfl, ru⟩ := vals1 r1
  obtain ⟨mb, hb1, hb2⟩ := I1.mod.blt
  obtain ⟨hp, g, dr, tk, os⟩ := s1
  have kp : ∀ b o, X.base.get? b = some o → hp.get? b = some o := I1.bk
  refine wpAny_call (x_made (mb := mb) T I1.kIn I1.nolimit (I1.mod.glob.keeps kp) (hb1.keeps kp) hb2 hmg (by have := hr.dp; omega) fun h' tk' e d M => ?_)
  show MkP X pins σ Q (.ref e) ⟨h', g, dr, tk', os⟩
  obtain ⟨oe, fv, hoe, hc, hdi, hdat, h1⟩ := M.obj
  obtain ⟨G, g1, g2⟩ := restrict h' fun b => decide (b ≠ e)
  have gk : ∀ b, b ≠ e → G.get? b = h'.get? b := fun b hb => g1 b (decide_eq_true hb)
  have ge : G.get? e = none := g2 e (by simp)
  have ob : ObjOk X.prog X.w (upd H1 d (.xd [(f, v)])) G d (.xd [(f, v)]) := ⟨_, M.ns.at (fun o q => (gk d M.dne).trans q), fun g => relO_one ru g⟩
  have J : Inv X pins σ (upd H1 d (.xd [(f, v)])) ⟨G, g, dr, tk', os⟩ :=
    I1.laid (t' := tk') (fun b o q => (gk b (Nat.ne_of_lt (Nat.lt_of_lt_of_le (Heap.lt_size q) M.new))).trans (M.keep b o q)) M.dbig ob
  refine ⟨e, oe, fv, ⟨G, g, dr, tk', os⟩, _, .ref C, some d, rfl, J, fun b o q => ?_, ge, hoe, ⟨hc, hdi⟩, hdat, h1, ?_, rfl, I1.bare, raises_own T.exC T.tyC, q1 d (I1.hok.fresh M.dbig)⟩
  · by_cases hb : b = e
    · have z : G.get? b = some o := q
      rw [hb, ge] at z
      cases z
    · exact (gk b hb).symm.trans q
  · rw [upd_ne (Ne.symm M.dne)]
    exact I1.hok.fresh M.new
end

/-! ### kept beyond its suite -/
/-- an error as an object that is told: its class, its own dict -/
def ExF (cls : Value) (d : Option Addr) (a : Addr) : HO := .ext fun h => ∃ (oe : Obj) (vs : Array Value), h.get? a = some oe ∧ Zc cls d oe ∧ oe.data = .fields vs
theorem exF_ok {P : Program} {w : World} {H : Hp} {h : Heap} {a : Addr} {cls : Value} {d : Option Addr} {oe : Obj} {vs : Array Value} (e : h.get? a = some oe) (z : Zc cls d oe) (dt : oe.data = .fields vs) : ObjOk P w H h a (ExF cls d a) :=
  ⟨⟨oe, vs, e, z, dt⟩, ⟨oe, e⟩, fun h1 h2 ⟨o, us, e1, z1, d1⟩ k => ⟨o, us, k _ e1, z1, d1⟩⟩
section
variable {X : Cx} {pins : List (Addr × Obj)} {σ : L2.St} {H : Hp} {s : Shared} {a : Addr} {oe : Obj} {cls : Value} {d : Option Addr}
/-- a pinned new object is told from now on -/
theorem tell_pin (I : Inv X ((a, oe) :: pins) σ H s) (hz : Zc cls d oe) (hf : ∃ vs, oe.data = .fields vs) (h0 : X.s_0.heap.get? a = none) (hp : ∀ p ∈ X.pn ++ pins, p.1 ≠ a) : Inv X pins σ (upd H a (ExF cls d a)) s := by
  obtain ⟨vs, hd⟩ := hf
  obtain ⟨ha, na, nL, nF, ncell⟩ := I.pin (a, oe) (List.mem_append_right _ List.mem_cons_self)
  have keep : ∀ {b : Addr} {o : HO}, H b = some o → upd H a (ExF cls d a) b = some o := fun {b o} e => by
    rw [upd_ne (ne_of_none e na)]
    exact e
  refine ⟨I.ok, I.os, I.bare, ⟨I.base.keep, I.base.slot, fun b o e n x => ?_, I.base.there, fun b xs e => keep (I.base.tups b xs e), fun b o u e => keep (I.base.frzs b o u e), fun b ps e => ?_⟩, I.loc, I.cell, ?_, fun x c e => ?_, fun p hm => ?_, HOk.laidN I.hok (fun _ _ q => q) na (exF_ok ha hz hd), I.len⟩
  · rw [upd_ne (fun z => by rw [z, h0] at e; cases e)]
    exact I.base.free b o e n x
  · obtain ⟨more, q⟩ := I.base.tbls b ps e
    exact ⟨more, keep q⟩
  · rw [upd_ne (Ne.symm nL)]
    exact I.free
  · have ne : c ≠ a := fun z => by
      obtain ⟨v, o, q1, q2⟩ := I.cell x c e
      rw [z, ha] at q1
      cases q1
      exact ncell v q2
    rw [upd_ne ne]
    exact I.freeC x c e
  · have hm' : p ∈ X.pn ++ (a, oe) :: pins := by
      rcases List.mem_append.mp hm with q | q
      · exact List.mem_append_left _ q
      · exact List.mem_append_right _ (List.mem_cons_of_mem _ q)
    obtain ⟨q1, q2, q3⟩ := I.pin p hm'
    exact ⟨q1, by rw [upd_ne (hp p hm)]; exact q2, q3⟩
end
end VX

set_option Elab.async false
set_option linter.all false
set_option maxRecDepth 100000
set_option maxHeartbeats 4000000
/-! VX2: try: .. except X as n: .. where the error is told beyond the suite. -/
namespace VX
open PySem PySem.Spec PyProof.Rows L2
/-- the ends of a suite that holds the error a in slot i: behind it the slot is bare and the error is told -/
def endsK (i : Nat) (a : Addr) (cls : Value) (d : Option Addr) (D : Ends) : Ends :=
  { nx := fun σ H => D.nx (σ.set i none) (upd H a (ExF cls d a)), rt := fun v H => D.rt v (upd H a (ExF cls d a)), bk := fun σ H => D.bk (σ.set i none) (upd H a (ExF cls d a)), ct := fun σ H => D.ct (σ.set i none) (upd H a (ExF cls d a)) }
def wKeep (K : PySem.W.Frag) (c : Value) (i : Nat) (ts : Addr → Value → Option Addr → TS) (Wout : WX) (D : Ends) : WX := fun cls d σ H =>
  ∃ b, PySem.W.exmOne K cls c = some b ∧ (b = true → ∀ a, H a = none → ts a cls d (endsK i a cls d D) (σ.set i (some (.ref a))) H) ∧ (b = false → Wout cls d σ H)
section
variable {X : Cx} {x n : Str} {c : Value} {i : Nat} {body suite : List Stmt} {b₀ : Stmt} {np pos pos' : Pos} {tb : WX → TS} {ts : Addr → Value → Option Addr → TS} {Wout : WX}
theorem ps_try_keep (hs : X.stack = X.env :: X.outer) (hf : X.env.frame = some X.env.locals) (hN : X.N.Nodup) (hi : X.N[i]? = some n) (hln : X.env.kindOf n = some .local) (hc : Names X x c) (tk : Takes X Wout) (hex : X.ex = [])
    (hb : ∀ (W : WX) (pn : List (Addr × Obj)) (xe : Value → Shared → Prop), Takes (X.tr pn xe) W → PassesOwn (model X.prog X.w) X.A X.env xe → PSs (X.tr pn xe) body (tb W))
    (hsu : ∀ (a : Addr) (oe : Obj) (cls : Value) (d : Option Addr) (pn : List (Addr × Obj)), Zc cls d oe → (∃ vs, oe.data = .fields vs) → PSs (X.suite a ((a, oe) :: pn)) (b₀ :: suite) (ts a cls d)) :
    PS X (.Try body [.ExceptHandler (some (.Name x np)) (some n) (b₀ :: suite) pos'] [] [] pos) (fun D σ H => tb (wKeep X.K c i ts Wout D) D σ H) := by
  constructor
  intro pins s σ H D I h
  have ok := I.ok
  have frm : X.A.frames = some (X.env :: X.outer) := ok.frames.trans (congrArg some hs)
  apply wpAny_Try_except
  -- what is wanted of an error of the body: the clause
  have clause : ∀ (u : Value) (s1 : Shared), XE (X.tr (X.pn ++ pins) fun e s₁ => wpAny (model X.prog X.w) X.A (noteFrame e X.env) (fun _ s₂ => wpAny (model X.prog X.w) X.A (setFlight e none) (fun _ s₃ =>
      wpAny (model X.prog X.w) X.A (handleBy e X.env [.ExceptHandler (some (.Name x np)) (some n) (b₀ :: suite) pos']) (SP X pins D) X.xe s₃) X.xe s₂) X.xe s₁) (wKeep X.K c i ts Wout D) u s1 →
      wpAny (model X.prog X.w) X.A (noteFrame u X.env) (fun _ s₂ => wpAny (model X.prog X.w) X.A (setFlight u none) (fun _ s₃ =>
      wpAny (model X.prog X.w) X.A (handleBy u X.env [.ExceptHandler (some (.Name x np)) (some n) (b₀ :: suite) pos']) (SP X pins D) X.xe s₃) X.xe s₂) X.xe s1 := by
    rintro u s1 ⟨a, B, sI, ps, τ, G, cls, d, rfl, J0, nb, up, sky, na, os, ag, b, hb1, yes, no⟩
    have J : Inv X pins τ G sI := J0.ofTry ok
    have sky1 : Sky B (X.env :: X.outer) a (Zc cls d) X.env.locals s1.heap := hs ▸ sky
    apply Sky.land Zc.steady frm hf sky1
    intro h2 fly up2
    have J2 : Inv X pins τ G { s1 with heap := h2 } := J.landed nb fly.1 (up.trans up2) os ag
    -- the error is none of the frames, and it is new
    obtain ⟨o2, v2, e2, z2, d2⟩ := fly.there
    have nfr : a ∉ frs (X.env :: X.outer) := fun hm => by
      obtain ⟨_, o', e', hnf⟩ := fly.2.2.1.mem hm
      rw [e2] at e'
      cases e'
      exact hnf _ d2
    have nL : a ≠ X.env.locals := fun z => nfr (List.mem_filterMap.mpr ⟨X.env, List.mem_cons_self, by rw [hf, z]⟩)
    have nF : a ∉ X.fs := fun hm => by
      obtain ⟨e, he, q⟩ := List.mem_filterMap.mp hm
      exact nfr (List.mem_filterMap.mpr ⟨e, List.mem_cons_of_mem _ he, q⟩)
    have nI : sI.heap.get? a = none := by
      cases q : sI.heap.get? a with
      | none => rfl
      | some o =>
        have y := nb a o q (by rw [show (X.tr _ _ : Cx).stack = X.stack from rfl, hs]; exact nfr)
        rw [fly.2.1] at y
        cases y
    have n0 : X.s_0.heap.get? a = none := by
      cases q : X.s_0.heap.get? a with
      | none => rfl
      | some o =>
        obtain ⟨o', y⟩ := J.base.there a o q (by rw [hex]; simp)
        rw [nI] at y
        cases y
    have nP : ∀ p ∈ X.pn ++ pins, p.1 ≠ a := fun p hp z => by
      have y := (J.pin p hp).1
      rw [z, nI] at y
      cases y
    have S2 := J2.suite e2 d2 na nL nF
    refine wpAny_handleBy_cons (codeAny_handlers_test ?_) (by intro q; cases q)
    have tyA : PySem.W.Looks (model X.prog X.w) h2 (typeOf (.ref a)) cls := fun A Q E s k q => wpAny_typeOf_ref (k _ _ e2) (by rw [z2.1]; exact q)
    have tst : PySem.W.Looks (model X.prog X.w) h2 (excMatches (.ref a) c) b := PySem.W.exm_one (M := model X.prog X.w) J2.kIn tyA hb1
    have cname : ∀ {Q : Value → Shared → Prop} {E : Value → Shared → Prop}, Q c { s1 with heap := h2 } → wpAny (model X.prog X.w) (X.A.mark (some (.ref a))) (eval (.Name x np) X.env) Q E { s1 with heap := h2 } := fun {Q E} q => by
      obtain ⟨g1, g2, g3 | ⟨g3, g4, g5⟩⟩ := hc
      · exact ld_glob (X := X.suite a ((a, o2) :: (X.pn ++ pins))) S2 g1 g3 q g2
      · exact ld_blt (X := X.suite a ((a, o2) :: (X.pn ++ pins))) S2 g1 g3 g4 q g5 g2
    refine cname (tst.here ?_)
    cases b with
    | true =>
      refine codeAny_handlers_suite_as (HandSPX.lands_againZ fly fun h3 fly3 up3 => ?_)
      have J3 : Inv X pins τ G { s1 with heap := h3 } := J.landed nb fly3.1 ((up.trans up2).trans up3) os ag
      obtain ⟨o3, v3, e3, z3, d3⟩ := fly3.there
      have S3 := J3.suite e3 d3 na nL nF
      refine store_ok (X := X.suite a ((a, o3) :: (X.pn ++ pins))) (v := .ref a) S3 hN hi (.inl hln) rfl (fun s4 S4 => ?_) (.inr hln)
      have out : ∀ {τ5 : L2.St} {G5 : Hp} {s5 : Shared} {Q : Shared → Prop}, Inv (X.suite a ((a, o3) :: (X.pn ++ pins))) [] τ5 G5 s5 → (∀ s6, Inv X pins (τ5.set i none) (upd G5 a (ExF cls d a)) s6 → Q s6) →
          wpAny (model X.prog X.w) X.A (do bindName X.env n .none; unbindBehindTheSuite X.env n pos') (fun _ s6 => Q s6) X.xe s5 := fun {τ5 G5 s5 Q} S5 hq => by
        have K5 : Inv X ((a, o3) :: pins) τ5 G5 s5 := ⟨ok, S5.os, S5.bare, S5.base, S5.loc, S5.cell, S5.free, S5.freeC, fun p hp => S5.pin p (by
          rw [List.append_nil]
          rcases List.mem_append.mp hp with q | q
          · exact List.mem_cons_of_mem _ (List.mem_append_left _ q)
          · rcases List.mem_cons.mp q with q | q
            · rw [q]; exact List.mem_cons_self
            · exact List.mem_cons_of_mem _ (List.mem_append_right _ q)), S5.hok, S5.len⟩
        exact gone_ok K5 hN hi hln fun s6 K6 => hq s6 (tell_pin K6 z3 ⟨_, d3⟩ n0 nP)
      refine wpAny_mono ((hsu a o3 cls d (X.pn ++ pins) z3 ⟨_, d3⟩).run [] s4 _ G _ S4 (yes rfl a na)) (fun fl s5 hsp => ?_) (fun _ _ z => False.elim z)
      cases fl with
      | next => obtain ⟨τ5, G5, S5, q5⟩ := hsp; exact out S5 fun s6 J6 => ⟨_, _, J6, q5⟩
      | brk => obtain ⟨τ5, G5, S5, q5⟩ := hsp; exact out S5 fun s6 J6 => ⟨_, _, J6, q5⟩
      | cont => obtain ⟨τ5, G5, S5, q5⟩ := hsp; exact out S5 fun s6 J6 => ⟨_, _, J6, q5⟩
      | ret u => obtain ⟨v5, τ5, G5, S5, r5, q5⟩ := hsp; exact out S5 fun s6 J6 => ⟨_, _, _, J6, r5, q5⟩
    | false =>
      show wpAny _ X.A (handleBy (.ref a) X.env []) _ _ _
      refine wpAny_handleBy_nil ?_
      obtain ⟨_, _, _, oe, us, tb0, ot, rest, he, hz, hd, hh, hr⟩ := id fly
      unfold PySem.passOn
      refine wpAny_bind (wpAny_field he hd hh ?_)
      rw [if_neg (show ¬ ((Value.ref tb0 == Value.none) = true) by simp)]
      have go : wpAny (model X.prog X.w) X.A (setFlight (.ref a) X.env.frame) (fun _ s4 => wpAny (model X.prog X.w) X.A (throw (.ref a) : Sem Flow) (SP X pins D) X.xe s4) X.xe { s1 with heap := h2 } := by
        rw [hf]
        exact HandSPX.setFlight_upZ fly fun h4 held up4 => wpAny_throw (tk _ _ ⟨a, B, sI, pins, τ, G, cls, d, rfl, J, nb, (up.trans up2).trans up4, .inr (.inr (by rw [hs]; exact held)), na, os, ag, no rfl⟩)
      first
        | exact wpAny_bind (wpAny_pure (wpAny_bind go))
        | exact wpAny_bind go
  refine wpAny_mono ((hb (wKeep X.K c i ts Wout D) (X.pn ++ pins) _ clause PassesOwn.looking).run [] s σ H D (I.toTry _) h) (fun fl s1 hsp => ?_) (fun e s1 he => he)
  cases fl with
  | next => obtain ⟨τ, G, J, q⟩ := hsp; exact wpAny_execs_nil ⟨τ, G, J.ofTry ok, q⟩
  | brk => obtain ⟨τ, G, J, q⟩ := hsp; exact ⟨τ, G, J.ofTry ok, q⟩
  | cont => obtain ⟨τ, G, J, q⟩ := hsp; exact ⟨τ, G, J.ofTry ok, q⟩
  | ret u => obtain ⟨v, τ, G, J, r, q⟩ := hsp; exact ⟨v, τ, G, J.ofTry ok, r, q⟩
end
end VX

set_option Elab.async false
set_option linter.all false
set_option maxRecDepth 100000
set_option maxHeartbeats 4000000
/-! VX3: isinstance of, and the field of, an error that is told. -/
namespace VX
open PySem PySem.W PySem.Calls PyProof.Rows PySem.Spec
section
variable {prog : Program} {w : World} {A : Around} {E : Value → Shared → Prop} {s : Shared} {K : Frag} {x D : Addr} {ox : Obj} {od : Option Obj}
/-- x.__class__ of an error with its own dict -/
theorem class_of {Q : Option Value → Shared → Prop} (C : L2.ExcC K D) (X : K.In s.heap) (I : InstAt s.heap x ox D od) (h : Q (some (.ref D)) { s with toks := s.toks + 1 }) : wpAny (model prog w) A (getAttr? (.ref x) "__class__") Q E s := by
  have found : findObj K D od "__class__" = some (.bind (.builtin "getset_descriptor.__get__") (.builtin "object.__class__")) := by
    obtain ⟨cd, hc, _⟩ := any_some C.hd
    unfold findObj
    rw [hc, Option.bind_some, C.ha, Option.bind_some]
    simp [C.hn, C.ht]
  obtain ⟨hp, g, d, t, os⟩ := s
  have tyL := I.type (M := model prog w)
  have gaL := looks_findIn (M := model prog w) X C.hg
  have ggL := looks_findIn (M := model prog w) X C.hk
  have fiL := looks_find (M := model prog w) X I found
  have isL : Looks (model prog w) hp (isInstance (.ref x) (.type "BaseException")) true := tyL.andThen (looks_subIn X C.hs)
  have n1 : (Value.builtin "BaseException.__getattribute__" == Value.builtin "object.__getattribute__") = false := by decide +kernel
  have n2 : (onTheHeap (Value.ref D) && Value.builtin "BaseException.__getattribute__" == Value.builtin "object.__getattribute__") = false := by
    rw [n1]
    rfl
  unfold getAttr? getAttrBy? getAttrBy
  apply wpAny_bind
  apply wpAny_mkText
  apply wpAny_bind
  apply wpAny_attempt
  apply wpAny_holding
  apply wpAny_bind
  apply tyL.at
  apply wpAny_bind
  apply gaL.at
  show wpAny _ _ (if (onTheHeap (Value.ref D) && Value.builtin "BaseException.__getattribute__" == Value.builtin "object.__getattribute__") = true then _ else _) _ _ (_ : Shared)
  rw [n2, if_neg (fun z => Bool.noConfusion z)]
  unfold getAttrByItsOwn hookBefore callGetattribute
  apply wpAny_bind
  have oh : onTheHeap (Value.ref D) = true := rfl
  rw [if_pos oh]
  apply ggL.at
  apply wpAny_bind
  apply wpAny_attempt
  apply wpAny_holding
  rw [show (false && onTheHeap (Value.builtin "BaseException.__getattribute__")) = false from rfl, if_neg (fun z => Bool.noConfusion z)]
  unfold boundAndCalled
  rw [PySem.F.excAttr_ValueError.ga.bind (.ref x)]
  apply wpAny_bind
  apply wpAny_pure
  show wpAny _ _ (call (.builtin "BaseException.__getattribute__") [.ref x, .str "__class__" t]) _ _ (_ : Shared)
  apply wpAny_call
  refine codeAny_call_builtin PySem.F.excAttr_ValueError.ga.plain PySem.F.entry_bexc_ga (@check_slot (model prog w) _ _ ⟨hp, g, d, t + 1, os⟩ "BaseException.__getattribute__" "BaseException" "__getattribute__" (.ref x) [.str "__class__" t] [] _ (by decide +kernel) (by decide +kernel) isL (PySem.F.args_bexc_ga (.ref x) (.str "__class__" t)) ?_)
  unfold Builtin.«object.__getattribute__»
  refine wpAny_bind (wpAny_of_eq (a := ((Value.ref x : Value), [Value.str "__class__" t])) (by first | rfl | simp only [slotArgs]) ?_)
  apply wpAny_bind
  apply wpAny_pure
  apply wpAny_bind
  apply tyL.at
  apply wpAny_bind
  apply fiL.at
  show wpAny _ _ (holding [Value.builtin "object.__class__"] (call (.builtin "getset_descriptor.__get__") [.builtin "object.__class__", .ref x, .ref D]) >>= ret) _ _ (_ : Shared)
  refine wpAny_bind (wpAny_holding (wpAny_call (class_get (s := ⟨hp, g, d, t + 1, os⟩) (ox := ox) (od := od) X I C.hm ?_)))
  apply wpAny_pure
  show wpAny _ _ (handedOut (.ref D)) _ _ (_ : Shared)
  rw [handedOut_of (v := .ref D) rfl]
  first
    | exact wpAny_pure (wpAny_pure h)
    | exact wpAny_pure h
    | exact wpAny_pure (wpAny_bind (wpAny_pure (wpAny_pure h)))
theorem kit_own (C : L2.ExcC K D) : KitX K (.ref x) (.ref D) (fun h => ∃ ox od, InstAt h x ox D od) where
  ty := fun _ _ _ ⟨_, _, I⟩ => I.type
  it := fun _ _ X _ => by
    obtain ⟨cd, hc, _⟩ := any_some C.hd
    unfold clsIn at hc
    split at hc
    · rename_i ho
      exact fun A' Q' E' s' k q => by
        unfold isType loadHead
        exact wpAny_bind (wpAny_loadPart (k _ _ (X _ _ ho)) (wpAny_pure q))
    · cases hc
  ne := fun h tp dd its n sl X htp => by
    obtain ⟨cd, hc, _⟩ := any_some C.hd
    rw [Bool.eq_false_iff]
    intro q
    obtain rfl : D = tp := Value.ref.inj (beq_iff_eq.mp q)
    unfold clsIn at hc
    split at hc
    · rename_i ho
      cases (X _ _ ho).symm.trans htp
    · cases hc
  ca := fun X ⟨_, _, I⟩ k => class_of C X I k
end
end VX
namespace VX
open PySem PySem.Spec PyProof.Rows L2
theorem exF_at {P : Program} {w : World} {H : Hp} {h : Heap} {a : Addr} {cls : Value} {d : Option Addr} (hok : HOk P w H h) (e : H a = some (ExF cls d a)) : ∃ (oe : Obj) (vs : Array Value), h.get? a = some oe ∧ Zc cls d oe ∧ oe.data = .fields vs := by
  have z : ObjOk P w H h a (ExF cls d a) := hok a _ e
  exact z.1
/-- isinstance(e, c) -/
def rIsT (K : PySem.W.Frag) : List V → Hp → VK → Prop := fun xs H Q => ∃ (a D dd : Addr) (fs : List (Str × V)) (c : V) (cv : Value) (b : Bool), xs = [.ref a, c] ∧ H a = some (ExF (.ref D) (some dd) a) ∧ H dd = some (.xd fs) ∧ ExcC K D ∧ (∀ u, RelV c u → u = cv) ∧ PySem.W.kitOne K (.ref D) cv = some b ∧ Q (.bl b) H
theorem call_isT {X : Cx} : CallR X (.builtin "isinstance") (rIsT X.K) := by
  intro pins s σ H xs us Q I r h
  obtain ⟨a, D, dd, fs, c, cv, b, rfl, ha, hd, C, hcv, e, q⟩ := h
  obtain ⟨u1, u2, rfl, r1, r2⟩ := r.two
  cases r1
  cases hcv _ r2
  obtain ⟨oe, vs, hget, hz, hv⟩ := exF_at I.hok ha
  obtain ⟨mA, hns, _⟩ : ObjOk X.prog X.w H s.heap dd (.xd fs) := I.hok dd _ hd
  obtain ⟨od, ho, _⟩ := lookIn_ns hns
  have J : PySem.W.InstAt s.heap a oe D (some od) := ⟨hget, hz.1, by unfold PySem.W.notCls; rw [hv], by rw [hz.2]; exact ho⟩
  exact PySem.W.kia_one (kit_own C) I.kIn ⟨_, _, J⟩ e (fun z => nomatch z) fun tk => ⟨.bl b, H, I.kept (t' := tk) fun _ _ z => z, rfl, q⟩
/-- e.f -/
def tXt (K : PySem.W.Frag) (f : Str) (te : TE) : TE := fun σ H Q => te σ H fun x H1 => ∃ (a C dd : Addr) (fs : List (Str × V)) (v : V), x = .ref a ∧ H1 a = some (ExF (.ref C) (some dd) a) ∧ H1 dd = some (.xd fs) ∧ XfC K C ∧ PySem.W.findIn K (.ref C) f = some none ∧ fs.lookup f = some v ∧ Q v H1
theorem pe_xt {X : Cx} {e : Expr} {te : TE} {pos : Pos} {f : Str} (he : PE X e te) (hb : attributeBase e f X.env (eval e X.env) = eval e X.env) : PE X (.Attribute e f pos) (tXt X.K f te) := by
  refine ⟨fun pins s σ H Q I h => ?_⟩
  refine attr_of hb (thn (he.run pins s σ H _ I h) fun u s1 hh => ?_)
  obtain ⟨x, H1, I1, rx, a, C, dd, fs, v, rfl, ha, hd, T, hno, l, q⟩ := hh
  cases rx
  obtain ⟨oe, vs, hget, hz, hv⟩ := exF_at I1.hok ha
  obtain ⟨mA, hns, hr⟩ : ObjOk X.prog X.w H1 s1.heap dd (.xd fs) := I1.hok dd _ hd
  obtain ⟨od, ho, hl⟩ := lookIn_ns hns
  obtain ⟨u, hu, ru⟩ := RelO.some_of (v := v) (o := mA f) (by rw [← l]; exact hr f)
  have J : PySem.W.InstAt s1.heap a oe C (some od) := ⟨hget, hz.1, by unfold PySem.W.notCls; rw [hv], by rw [hz.2]; exact ho⟩
  exact HandSPX.exc_get I1.kIn J T.ga T.gg T.exC (PySem.W.findObj_own T.hdC hno rfl (by rw [hl, hu])) (handed_of ru) ⟨v, H1, I1.tok _, ru, q⟩
end VX

set_option Elab.async false
set_option linter.all false
set_option maxRecDepth 100000
set_option maxHeartbeats 4000000
/-! VL1: values told by data; slots that hold values or lists of their own (cells); the frame between a def's entry and where it stands. -/
namespace VL
open PySem PySem.Spec PyProof.Rows L2

/-! ### what a value is, as data -/
mutual
inductive DV (K : PySem.W.Frag) (F : Hp) : V → PyData → Prop
  | non : DV K F .non .none
  | bl (b : Bool) : DV K F (.bl b) (.bool b)
  | int (i : Int) : DV K F (.int i) (.int i)
  | str (x : Str) : DV K F (.str x) (.str x)
  | lst {a : Addr} {vs : List V} {ds : List PyData} : F a = some (.lst vs) → DVs K F vs ds → DV K F (.ref a) (.list ds)
  | tup {a : Addr} {vs : List V} {ds : List PyData} : SqT K F a vs → DVs K F vs ds → DV K F (.ref a) (.tuple ds)
  | dct {a : Addr} {kvs : List (Key × V)} {ks : List PyData} {es : List PyData} : F a = some (.dK kvs) → DVs K F (kvs.map fun p => kV p.1) ks → DVs K F (kvs.map fun p => p.2) es → DV K F (.ref a) (.dict (ks.zip es))
inductive DVs (K : PySem.W.Frag) (F : Hp) : List V → List PyData → Prop
  | nil : DVs K F [] []
  | cons {v : V} {vs : List V} {d : PyData} {ds : List PyData} : DV K F v d → DVs K F vs ds → DVs K F (v :: vs) (d :: ds)
end
section
variable {K : PySem.W.Frag} {F F' : Hp}
theorem sqT_mono {a : Addr} {vs : List V} (e : Same F F') (h : SqT K F a vs) : SqT K F' a vs := by
  rcases h with (h | ⟨o, h⟩) | h
  · exact .inl (.inl (e _ _ h))
  · exact .inl (.inr ⟨o, e _ _ h⟩)
  · exact .inr h
mutual
theorem DV.mono (e : Same F F') : ∀ {v : V} {d : PyData}, DV K F v d → DV K F' v d
  | _, _, .non => .non
  | _, _, .bl b => .bl b
  | _, _, .int i => .int i
  | _, _, .str x => .str x
  | _, _, .lst h hs => .lst (e _ _ h) (DVs.mono e hs)
  | _, _, .tup h hs => .tup (sqT_mono e h) (DVs.mono e hs)
  | _, _, .dct h h1 h2 => .dct (e _ _ h) (DVs.mono e h1) (DVs.mono e h2)
theorem DVs.mono (e : Same F F') : ∀ {vs : List V} {ds : List PyData}, DVs K F vs ds → DVs K F' vs ds
  | _, _, .nil => .nil
  | _, _, .cons h t => .cons (DV.mono e h) (DVs.mono e t)
end
theorem DVs.length : ∀ {vs : List V} {ds : List PyData}, DVs K F vs ds → vs.length = ds.length
  | _, _, .nil => rfl
  | _, _, .cons _ t => by simp [DVs.length t]
theorem DVs.get : ∀ {vs : List V} {ds : List PyData} {i : Nat} {d : PyData}, DVs K F vs ds → ds[i]? = some d → ∃ v, vs[i]? = some v ∧ DV K F v d
  | _, _, _, _, .nil, e => by simp at e
  | _, _, 0, d, .cons h _, e => by
    simp at e
    subst e
    exact ⟨_, rfl, h⟩
  | _, _, i + 1, d, .cons _ t, e => by
    obtain ⟨v, h1, h2⟩ := DVs.get (i := i) (d := d) t (by simpa using e)
    exact ⟨v, by simpa using h1, h2⟩
theorem DVs.got : ∀ {vs : List V} {ds : List PyData} {i : Nat} {v : V}, DVs K F vs ds → vs[i]? = some v → ∃ d, ds[i]? = some d ∧ DV K F v d
  | _, _, _, _, .nil, e => by simp at e
  | _, _, 0, v, .cons h _, e => by
    simp at e
    subst e
    exact ⟨_, rfl, h⟩
  | _, _, i + 1, v, .cons _ t, e => by
    obtain ⟨d, h1, h2⟩ := DVs.got (i := i) (v := v) t (by simpa using e)
    exact ⟨d, by simpa using h1, h2⟩
theorem DVs.append : ∀ {vs ws : List V} {ds es : List PyData}, DVs K F vs ds → DVs K F ws es → DVs K F (vs ++ ws) (ds ++ es)
  | _, _, _, _, .nil, h => h
  | _, _, _, _, .cons h t, r => .cons h (DVs.append t r)
theorem DVs.set {v : V} {d : PyData} (h : DV K F v d) : ∀ {vs : List V} {ds : List PyData} (i : Nat), DVs K F vs ds → DVs K F (vs.set i v) (ds.set i d)
  | _, _, _, .nil => .nil
  | _, _, 0, .cons _ t => .cons h t
  | _, _, i + 1, .cons q t => .cons q (DVs.set h i t)
theorem DVs.take : ∀ {vs : List V} {ds : List PyData} (n : Nat), DVs K F vs ds → DVs K F (vs.take n) (ds.take n)
  | _, _, 0, _ => .nil
  | _, _, _ + 1, .nil => .nil
  | _, _, n + 1, .cons r t => .cons r (DVs.take n t)
theorem DVs.drop : ∀ {vs : List V} {ds : List PyData} (n : Nat), DVs K F vs ds → DVs K F (vs.drop n) (ds.drop n)
  | _, _, 0, r => r
  | _, _, _ + 1, .nil => .nil
  | _, _, n + 1, .cons _ t => DVs.drop n t
theorem DVs.eraseIdx : ∀ {vs : List V} {ds : List PyData} (n : Nat), DVs K F vs ds → DVs K F (vs.eraseIdx n) (ds.eraseIdx n)
  | _, _, _, .nil => .nil
  | _, _, 0, .cons _ t => t
  | _, _, n + 1, .cons r t => .cons r (DVs.eraseIdx n t)
theorem DVs.ints : ∀ (ns : List Int) {vs : List V}, DVs K F vs (ns.map PyData.int) → vs = ns.map V.int
  | [], _, .nil => rfl
  | n :: ns, _, .cons h t => by
    cases h
    rw [DVs.ints ns t]
    rfl
theorem DVs.bools : ∀ (ns : List Bool) {vs : List V}, DVs K F vs (ns.map PyData.bool) → vs = ns.map V.bl
  | [], _, .nil => rfl
  | n :: ns, _, .cons h t => by
    cases h
    rw [DVs.bools ns t]
    rfl
theorem DVs.strs : ∀ (ns : List Str) {vs : List V}, DVs K F vs (ns.map PyData.str) → vs = ns.map V.str
  | [], _, .nil => rfl
  | n :: ns, _, .cons h t => by
    cases h
    rw [DVs.strs ns t]
    rfl
theorem DVs.ofInts : ∀ (ns : List Int), DVs K F (ns.map V.int) (ns.map PyData.int)
  | [] => .nil
  | n :: ns => .cons (.int n) (DVs.ofInts ns)
theorem DVs.ofStrs : ∀ (ns : List Str), DVs K F (ns.map V.str) (ns.map PyData.str)
  | [] => .nil
  | n :: ns => .cons (.str n) (DVs.ofStrs ns)
end

/-! ### slots, results -/
/-- what is handed on as it is: the script; an error of the class c with its fields -/
inductive Opq where
  | ns (l : List Int) | ex (c : Str) (fs : List (Str × PyData))
def OR (K : PySem.W.Frag) (F : Hp) : Opq → V → Prop
  | .ns l, v => ∃ a, v = .ref a ∧ SqL K F a (l.map V.int)
  | .ex c fs, v => ∃ (a C dd : Addr) (vs : List V), v = .ref a ∧ PySem.W.nsIn K mainGlobals c = some (some (.ref C)) ∧ F a = some (VX.ExF (.ref C) (some dd) a) ∧ F dd = some (.xd ((fs.map (·.1)).zip vs)) ∧ DVs K F vs (fs.map (·.2))
/-- a slot: a value; a list of its own, that may be changed; a list lent by the caller, that may be changed; the script -/
inductive SL where
  | v (d : PyData) | c (xs : List PyData) | q (xs : List PyData) | s (o : Opq)
/-- a result: a value; the list of slot i; the script -/
inductive SV where
  | v (d : PyData) | p (i : Nat) | s (o : Opq)
abbrev Sl := List (Option SL)
abbrev ME := Sl → Option (SV × Sl)
abbrev MA := Sl → Option (List SV × Sl)
abbrev MT := Sl → Option (Bool × Sl)
inductive Fl where
  | nx | bk | ct | rt (r : SV) | rz (c : Str) (fs : List (Str × PyData))
abbrev MS := Sl → Option (Fl × Sl)

/-- what a list of one's own or a lent one holds -/
def SL.held : SL → Option (List PyData)
  | .c xs => some xs
  | .q xs => some xs
  | _ => none
def heldAt (S : Sl) (i : Nat) : Option (List PyData) := (S[i]?.bind id).bind SL.held
/-- a result as data, where it stands -/
def deref (S : Sl) : SV → Option PyData
  | .v d => some d
  | .p i => (heldAt S i).map .list
  | .s _ => none
/-- a result that no later change can reach -/
def stable : SV → Option PyData
  | .v d => some d
  | _ => none

/-- new things alone: F (what is told as data) grows by new things, H grows -/
structure Ext (F H F' H' : Hp) : Prop where
  f : Same F F'
  fh : Same F' H'
  h : Same H H'
  fr : ∀ b, F' b ≠ none → F b ≠ none ∨ H b = none
theorem Ext.refl {F H : Hp} (h : Same F H) : Ext F H F H := ⟨Same.refl _, h, Same.refl _, fun b z => .inl z⟩
theorem Ext.trans {F H F1 H1 F2 H2 : Hp} (a : Ext F H F1 H1) (b : Ext F1 H1 F2 H2) : Ext F H F2 H2 :=
  ⟨a.f.trans b.f, b.fh, a.h.trans b.h, fun x z => by
    rcases b.fr x z with z | z
    · exact a.fr x z
    · exact .inr (a.h.free z)⟩
theorem same_new {H : Hp} {p : Addr} {o : HO} (h : H p = none) : Same H (upd H p o) := fun a u e => by
  rw [upd_ne (ne_of_none e h)]
  exact e
theorem same_upd2 {F H : Hp} {p : Addr} {o : HO} (h : Same F H) : Same (upd F p o) (upd H p o) := fun a u e => by
  by_cases q : a = p
  · subst q
    rw [upd_same] at e ⊢
    exact e
  · rw [upd_ne q] at e ⊢
    exact h _ _ e
/-- a new object, told as data -/
theorem Ext.new {F H : Hp} {p : Addr} {o : HO} (fh : Same F H) (h : H p = none) : Ext F H (upd F p o) (upd H p o) :=
  ⟨same_new (fh.free h), same_upd2 fh, same_new h, fun b z => by
    by_cases q : b = p
    · subst q
      exact .inr h
    · rw [upd_ne q] at z
      exact .inl z⟩
/-- a new object that is not told -/
theorem Ext.aside {F H : Hp} {p : Addr} {o : HO} (fh : Same F H) (h : H p = none) : Ext F H F (upd H p o) :=
  ⟨Same.refl _, fh.trans (same_new h), same_new h, fun b z => .inl z⟩

/-- where a def stands: P what must stay, F0 what is told as data at the entry, qc the lent lists; F what is told as data now, cell where the slots' own lists stand -/
structure RC (K : PySem.W.Frag) (P F0 : Hp) (qc : Nat → Addr) (F : Hp) (cell : Nat → Addr) (S : Sl) (σ : L2.St) (H : Hp) : Prop where
  len : S.length = σ.length
  f0 : Same F0 F
  fh : Same F H
  ph : Same P H
  fr : ∀ b, F b ≠ none → F0 b ≠ none ∨ P b = none
  vl : ∀ (i : Nat) (d : PyData), S[i]? = some (some (.v d)) → ∃ v, σ[i]? = some (some v) ∧ DV K F v d
  sc : ∀ (i : Nat) (o : Opq), S[i]? = some (some (.s o)) → ∃ v, σ[i]? = some (some v) ∧ OR K F o v
  cl : ∀ (i : Nat) (x : SL) (xs : List PyData), S[i]? = some (some x) → x.held = some xs → σ[i]? = some (some (.ref (cell i))) ∧ F (cell i) = none ∧ P (cell i) = none ∧ ∃ vs, H (cell i) = some (.lst vs) ∧ DVs K F vs xs
  qs : ∀ (i : Nat) (xs : List PyData), S[i]? = some (some (.q xs)) → cell i = qc i
  inj : ∀ (i j : Nat) (x y : SL), S[i]? = some (some x) → S[j]? = some (some y) → x.held.isSome = true → y.held.isSome = true → cell i = cell j → i = j
def VR (K : PySem.W.Frag) (F : Hp) (cell : Nat → Addr) : SV → V → Prop
  | .v d, v => DV K F v d
  | .p i, v => v = .ref (cell i)
  | .s o, v => OR K F o v
section
variable {K : PySem.W.Frag} {P F0 F F' : Hp} {qc cell : Nat → Addr} {S : Sl} {σ : L2.St} {H H' : Hp}
theorem sqL_mono {a : Addr} {vs : List V} (e : Same F F') (h : SqL K F a vs) : SqL K F' a vs := Same.seq e h
theorem OR.mono (e : Same F F') {o : Opq} {v : V} (h : OR K F o v) : OR K F' o v := by
  cases o with
  | ns l =>
    obtain ⟨a, h1, h2⟩ := h
    exact ⟨a, h1, sqL_mono e h2⟩
  | ex c fs =>
    obtain ⟨a, C, dd, vs, h1, h2, h3, h4, h5⟩ := h
    exact ⟨a, C, dd, vs, h1, h2, e _ _ h3, e _ _ h4, h5.mono e⟩
theorem VR.mono (e : Same F F') {r : SV} {v : V} (h : VR K F cell r v) : VR K F' cell r v := by
  cases r with
  | v d => exact DV.mono e h
  | p i => exact h
  | s o => exact OR.mono e h
theorem RC.ext (R : RC K P F0 qc F cell S σ H) (e : Ext F H F' H') : RC K P F0 qc F' cell S σ H' where
  len := R.len
  f0 := R.f0.trans e.f
  fh := e.fh
  ph := R.ph.trans e.h
  fr := fun b z => by
    rcases e.fr b z with z | z
    · exact R.fr b z
    · exact .inr (R.ph.free z)
  vl := fun i d h => by
    obtain ⟨v, h1, h2⟩ := R.vl i d h
    exact ⟨v, h1, h2.mono e.f⟩
  sc := fun i ns h => by
    obtain ⟨a, h1, h2⟩ := R.sc i ns h
    exact ⟨a, h1, h2.mono e.f⟩
  cl := fun i x xs h hx => by
    obtain ⟨h1, h2, h3, vs, h4, h5⟩ := R.cl i x xs h hx
    refine ⟨h1, ?_, h3, vs, e.h _ _ h4, h5.mono e.f⟩
    cases q : F' (cell i) with
    | none => rfl
    | some o =>
      rcases e.fr (cell i) (by rw [q]; simp) with z | z
      · exact absurd h2 z
      · rw [h4] at z; cases z
  qs := R.qs
  inj := R.inj
theorem RC.at (R : RC K P F0 qc F cell S σ H) {i : Nat} {xs : List PyData} (h : heldAt S i = some xs) : σ[i]? = some (some (.ref (cell i))) ∧ F (cell i) = none ∧ P (cell i) = none ∧ ∃ vs, H (cell i) = some (.lst vs) ∧ DVs K F vs xs := by
  unfold heldAt at h
  cases e : S[i]? with
  | none => rw [e] at h; cases h
  | some o =>
    cases o with
    | none => rw [e] at h; cases h
    | some x =>
      rw [e] at h
      exact R.cl i x xs e h
/-- data where it stands: told, or the list of a slot -/
def DX (K : PySem.W.Frag) (F H : Hp) (v : V) (d : PyData) : Prop := DV K F v d ∨ ∃ a vs ds, v = .ref a ∧ d = .list ds ∧ H a = some (.lst vs) ∧ DVs K F vs ds
theorem RC.deref (R : RC K P F0 qc F cell S σ H) {r : SV} {v : V} {d : PyData} (h : VR K F cell r v) (e : deref S r = some d) : DX K F H v d := by
  cases r with
  | v d' =>
    cases e
    exact .inl h
  | p i =>
    unfold VL.deref at e
    obtain ⟨xs, e1, rfl⟩ := Option.map_eq_some_iff.mp e
    obtain ⟨_, _, _, vs, h1, h2⟩ := R.at e1
    exact .inr ⟨_, vs, xs, h, rfl, h1, h2⟩
  | s ns => cases e
theorem DX.mono (fh : Same F H) (e : Ext F H F' H') {v : V} {d : PyData} (h : DX K F H v d) : DX K F' H' v d := by
  rcases h with h | ⟨a, vs, ds, h1, h2, h3, h4⟩
  · exact .inl (h.mono e.f)
  · exact .inr ⟨a, vs, ds, h1, h2, e.h _ _ h3, h4.mono e.f⟩
/-- as data over the heap itself -/
theorem DX.dv (fh : Same F H) {v : V} {d : PyData} (h : DX K F H v d) : DV K H v d := by
  rcases h with h | ⟨a, vs, ds, rfl, rfl, h3, h4⟩
  · exact h.mono fh
  · exact .lst h3 (h4.mono fh)
theorem DX.list {v : V} {ds : List PyData} (fh : Same F H) (h : DX K F H v (.list ds)) : ∃ a vs, v = .ref a ∧ H a = some (.lst vs) ∧ DVs K F vs ds := by
  rcases h with h | ⟨a, vs, ds', h1, h2, h3, h4⟩
  · cases h with
    | lst h1 h2 => exact ⟨_, _, rfl, fh _ _ h1, h2⟩
  · cases h2
    exact ⟨a, vs, h1, h3, h4⟩
theorem DX.tuple {v : V} {ds : List PyData} (h : DX K F H v (.tuple ds)) : ∃ a vs, v = .ref a ∧ SqT K F a vs ∧ DVs K F vs ds := by
  rcases h with h | ⟨a, vs, ds', h1, h2, h3, h4⟩
  · cases h with
    | tup h1 h2 => exact ⟨_, _, rfl, h1, h2⟩
  · cases h2
theorem DX.int {v : V} {i : Int} (h : DX K F H v (.int i)) : v = .int i := by
  rcases h with h | ⟨a, vs, ds', h1, h2, h3, h4⟩
  · cases h
    rfl
  · cases h2
theorem DX.bool {v : V} {i : Bool} (h : DX K F H v (.bool i)) : v = .bl i := by
  rcases h with h | ⟨a, vs, ds', h1, h2, h3, h4⟩
  · cases h
    rfl
  · cases h2
theorem DX.str {v : V} {i : Str} (h : DX K F H v (.str i)) : v = .str i := by
  rcases h with h | ⟨a, vs, ds', h1, h2, h3, h4⟩
  · cases h
    rfl
  · cases h2
theorem DX.non {v : V} (h : DX K F H v .none) : v = .non := by
  rcases h with h | ⟨a, vs, ds', h1, h2, h3, h4⟩
  · cases h
    rfl
  · cases h2
end
end VL

set_option Elab.async false
set_option linter.all false
set_option maxRecDepth 100000
set_option maxHeartbeats 4000000
/-! VL2: operators on data. -/
namespace VL
open PySem PySem.Spec PyProof.Rows L2

/-- an operator on values does on data what f says -/
def OpS (K : PySem.W.Frag) (r : R2) (f : PyData → PyData → Option PyData) : Prop :=
  ∀ (F H : Hp) (x y : V) (d e z : PyData) (Q : VK), Same F H → DX K F H x d → DX K F H y e → f d e = some z → (∀ v F' H', Ext F H F' H' → DV K F' v z → Q v H') → r x y H Q
section
variable {K : PySem.W.Frag}
theorem OpS.orL {r r' : R2} {f : PyData → PyData → Option PyData} (h : OpS K r f) : OpS K (fun x y H Q => r x y H Q ∨ r' x y H Q) f :=
  fun F H x y d e z Q fh hx hy hf k => .inl (h F H x y d e z Q fh hx hy hf k)
theorem OpS.orR {r r' : R2} {f : PyData → PyData → Option PyData} (h : OpS K r' f) : OpS K (fun x y H Q => r x y H Q ∨ r' x y H Q) f :=
  fun F H x y d e z Q fh hx hy hf k => .inr (h F H x y d e z Q fh hx hy hf k)
end

/-! ### a tuple beside the empty one -/
section
variable {X : Cx}
theorem isTuple_of {h : Heap} {a : Addr} {its : Array Value} (p : IsTup h a its) : h.IsTuple a its := p
def rEqE (K : PySem.W.Frag) : R2 := fun x y H Q => ∃ a b xs ys, x = .ref a ∧ y = .ref b ∧ SqT K H a xs ∧ SqT K H b ys ∧ (xs = [] ∨ ys = []) ∧ Q (.bl (xs.isEmpty && ys.isEmpty)) H
theorem op_eqE (hu : X.A.units < cLine) : OpR X (compareOp .Eq) (rEqE X.K) := by
  intro pins s σ H x y v u Q I rx ry h
  obtain ⟨a, b, xs, ys, rfl, rfl, ha, hb, hz, q⟩ := h
  obtain rfl : v = Value.ref a := rx
  obtain rfl : u = Value.ref b := ry
  obtain ⟨its, rv, p1, _⟩ := I.tuple ha
  obtain ⟨its2, rv2, p2, _⟩ := I.tuple hb
  have l1 := rv.length
  have l2 := rv2.length
  refine PySem.SeqAt.eq_tupleAt (e := fun _ => true) (isTuple_of p1) (isTuple_of p2) hu (fun j h1 h2 => ?_) ?_
  · exfalso
    have h1' : j < its.length := by simpa using h1
    have h2' : j < its2.length := by simpa using h2
    rcases hz with z | z
    · subst z
      simp at l1
      omega
    · subst z
      simp at l2
      omega
  · have e : ((List.range (min its.toArray.size its2.toArray.size)).all (fun _ => true) && its.toArray.size == its2.toArray.size) = (xs.isEmpty && ys.isEmpty) := by
      have a1 : (List.range (min its.toArray.size its2.toArray.size)).all (fun _ => true) = true := by simp
      rw [a1, Bool.true_and]
      have s1 : its.toArray.size = xs.length := by simp [l1]
      have s2 : its2.toArray.size = ys.length := by simp [l2]
      rw [s1, s2]
      rcases hz with z | z
      · subst z
        cases ys <;> simp
      · subst z
        cases xs <;> simp
    rw [e]
    exact ⟨.bl _, H, I, rfl, q⟩
/-- str * int -/
def mulOk (n : Int) (l : Nat) : Bool := decide (0 ≤ n) && decide (n ≤ 100000) && decide (l * n.toNat ≤ 100000)
def rMulS : R2 := fun x y H Q => ∃ a n, x = .str a ∧ y = .int n ∧ MulOk a n ∧ Q (.str (Txt.mul a n)) H
theorem op_mulS : OpR X (binaryOp .Mult) rMulS := by
  intro pins s σ H x y v u Q I rx ry h
  obtain ⟨a, n, rfl, rfl, ok, q⟩ := h
  obtain ⟨t, rfl⟩ := rx
  obtain ⟨t', rfl⟩ := ry
  exact PySem.SB.mul ok fun t' k => ⟨.str _, H, I.tok _, ⟨_, rfl⟩, q⟩
/-- i ** j, of any size that is not too large -/
theorem op_powW : OpR X (binaryOp .Pow) (rI (fun i j => 0 ≤ j ∧ (Builtin.Int.intBits i : Int) * j ≤ 2 ^ 27) fun i j => .int (i ^ j.toNat)) := by
  intro pins s σ H x y v u Q I rx ry h
  obtain ⟨i, j, rfl, rfl, ⟨c1, c2⟩, q⟩ := h
  obtain ⟨t, rfl⟩ := rx
  obtain ⟨t', rfl⟩ := ry
  exact PyProof.Rows.pow_int c1 c2 ⟨.int _, H, I.tok _, ⟨_, rfl⟩, q⟩
end

/-! ### data functions -/
def b2z (b : Bool) : Int := if b = true then 1 else 0
def addD : PyData → PyData → Option PyData
  | .int i, .int j => some (.int (i + j))
  | .str a, .str b => if a.length + b.length ≤ 100000 then some (.str (a ++ b)) else none
  | .list a, .list b => if a.length + b.length ≤ 100000 then some (.list (a ++ b)) else none
  | .tuple a, .tuple b => if a.length + b.length ≤ 100000 then some (.tuple (a ++ b)) else none
  | _, _ => none
def subD : PyData → PyData → Option PyData
  | .int i, .int j => some (.int (i - j))
  | _, _ => none
def mulD : PyData → PyData → Option PyData
  | .int i, .int j => if (-(2 ^ 64) < i ∧ i < 2 ^ 64) ∨ (-(2 ^ 64) < j ∧ j < 2 ^ 64) then some (.int (i * j)) else none
  | .str a, .int n => if 0 ≤ n ∧ n ≤ 100000 ∧ a.length * n.toNat ≤ 100000 then some (.str (Txt.mul a n)) else none
  | .list a, .int n => if 0 ≤ n ∧ n ≤ 100000 ∧ a.length * n.toNat ≤ 100000 then some (.list (List.replicate n.toNat a).flatten) else none
  | .tuple a, .int n => if a ≠ [] ∧ 2 ≤ n ∧ n ≤ 1000 ∧ a.length ≤ 1000 then some (.tuple (List.replicate n.toNat a).flatten) else none
  | _, _ => none
def fdivD : PyData → PyData → Option PyData
  | .int i, .int j => if 0 < j ∧ j < 1073741824 then some (.int (i / j)) else none
  | _, _ => none
def modD : PyData → PyData → Option PyData
  | .int i, .int j => if 0 < j then some (.int (i % j)) else none
  | _, _ => none
def powD : PyData → PyData → Option PyData
  | .int i, .int j => if 0 ≤ j ∧ (Builtin.Int.intBits i : Int) * j ≤ 2 ^ 27 then some (.int (i ^ j.toNat)) else none
  | _, _ => none
def ltD : PyData → PyData → Option PyData
  | .int i, .int j => some (.bool (decide (i < j)))
  | .str a, .str b => some (.bool (decide (a.cps.toList < b.cps.toList)))
  | _, _ => none
def leD : PyData → PyData → Option PyData
  | .int i, .int j => some (.bool (decide (i ≤ j)))
  | .str a, .str b => some (.bool (!decide (b.cps.toList < a.cps.toList)))
  | _, _ => none
def gtD : PyData → PyData → Option PyData
  | .int i, .int j => some (.bool (decide (j < i)))
  | .str a, .str b => some (.bool (decide (b.cps.toList < a.cps.toList)))
  | _, _ => none
def geD : PyData → PyData → Option PyData
  | .int i, .int j => some (.bool (decide (j ≤ i)))
  | .str a, .str b => some (.bool (!decide (a.cps.toList < b.cps.toList)))
  | _, _ => none
def eqD (d e : PyData) : Option Bool :=
  match d, e with
  | .str a, .str b => some (decide (a = b))
  | .tuple xs, .tuple [] => some xs.isEmpty
  | .tuple [], .tuple ys => some ys.isEmpty
  | d, e => if SeqAt.shaped d = true ∧ SeqAt.shaped e = true then some (PyData.eqv d e) else none
def eqDD (d e : PyData) : Option PyData := (eqD d e).map .bool
def neDD (d e : PyData) : Option PyData := match d, e with
  | .str a, .str b => some (.bool (!decide (a = b)))
  | d, e => if SeqAt.shaped d = true ∧ SeqAt.shaped e = true then some (.bool (!PyData.eqv d e)) else none
/-- one sign in a text -/
def inD : PyData → PyData → Option PyData
  | .str a, .str b => if a.cps.size = 1 then some (.bool (decide (a.cps.getD 0 0 ∈ b.cps.toList))) else none
  | _, _ => none
def notInD : PyData → PyData → Option PyData
  | .str a, .str b => if a.cps.size = 1 then some (.bool (!decide (a.cps.getD 0 0 ∈ b.cps.toList))) else none
  | _, _ => none
def isNo : PyData → Bool
  | .none => true
  | _ => false
def isND : PyData → PyData → Option PyData
  | d, .none => some (.bool (isNo d))
  | _, _ => none
def isNotND : PyData → PyData → Option PyData
  | d, .none => some (.bool (!isNo d))
  | _, _ => none

section
variable {X : Cx} {K : PySem.W.Frag}
theorem small5 {n : Nat} (h : n ≤ 100000) : n ≤ sizeLine := Nat.le_trans h (by decide)
/-! ### .. are what the operators do -/
abbrev rAddA (K : PySem.W.Frag) : R2 := fun x y H Q => (∃ i j, x = V.int i ∧ y = V.int j ∧ Q (V.int (i + j)) H) ∨ ((∃ i j, x = .str i ∧ y = .str j ∧ i.length + j.length ≤ sizeLine ∧ Q (.str (i ++ j)) H) ∨ (rCat x y H Q ∨ rCatA K x y H Q))
theorem op_addA : OpR X (binaryOp .Add) (rAddA X.K) := OpR.or op_add (OpR.or op_add_str (OpR.or op_cat op_catA))
theorem ops_add : OpS K (rAddA K) addD := by
  intro F H x y d e z Q fh hx hy hf k
  unfold addD at hf
  split at hf
  · cases hf
    exact .inl ⟨_, _, hx.int, hy.int, k _ _ _ (Ext.refl fh) (.int _)⟩
  · split at hf
    · rename_i hl
      cases hf
      exact .inr (.inl ⟨_, _, hx.str, hy.str, small5 hl, k _ _ _ (Ext.refl fh) (.str _)⟩)
    · cases hf
  · split at hf
    · rename_i hl
      cases hf
      obtain ⟨a, vs, rfl, h1, h2⟩ := hx.list fh
      obtain ⟨b, ws, rfl, h3, h4⟩ := hy.list fh
      refine .inr (.inr (.inl ⟨a, b, vs, ws, rfl, rfl, h1, h3, by rw [h2.length, h4.length]; exact small5 hl, fun p hp => ?_⟩))
      have ex : Ext F H (upd F p (.lst (vs ++ ws))) (upd H p (.lst (vs ++ ws))) := Ext.new fh hp
      exact k _ _ _ ex (.lst upd_same ((h2.append h4).mono ex.f))
    · cases hf
  · split at hf
    · rename_i hl
      cases hf
      obtain ⟨a, vs, rfl, h1, h2⟩ := hx.tuple
      obtain ⟨b, ws, rfl, h3, h4⟩ := hy.tuple
      refine .inr (.inr (.inr ⟨a, b, vs, ws, rfl, rfl, sqT_mono fh h1, sqT_mono fh h3, by rw [h2.length, h4.length]; exact small5 hl, fun e0 => ?_, fun _ e1 => ?_, fun _ _ p hp => ?_⟩))
      · subst e0
        cases h2
        exact k _ _ _ (Ext.refl fh) (.tup h3 h4)
      · subst e1
        cases h4
        rw [List.append_nil] at k
        exact k _ _ _ (Ext.refl fh) (.tup h1 h2)
      · have ex : Ext F H (upd F p (.tup (vs ++ ws))) (upd H p (.tup (vs ++ ws))) := Ext.new fh hp
        exact k _ _ _ ex (.tup (SqT.of upd_same) ((h2.append h4).mono ex.f))
    · cases hf
  · cases hf
theorem ops_sub : OpS K (rI0 fun i j => .int (i - j)) subD := by
  intro F H x y d e z Q fh hx hy hf k
  unfold subD at hf
  split at hf
  · cases hf
    exact ⟨_, _, hx.int, hy.int, k _ _ _ (Ext.refl fh) (.int _)⟩
  · cases hf
theorem DVs.rep {F : Hp} {vs : List V} {ds : List PyData} (h : DVs K F vs ds) : ∀ n : Nat, DVs K F (List.replicate n vs).flatten (List.replicate n ds).flatten
  | 0 => .nil
  | n + 1 => by
    rw [List.replicate_succ, List.replicate_succ, List.flatten_cons, List.flatten_cons]
    exact h.append (DVs.rep h n)
abbrev rMulA (K : PySem.W.Frag) : R2 := fun x y H Q => rI CMul (fun i j => V.int (i * j)) x y H Q ∨ (rMulS x y H Q ∨ (rRep x y H Q ∨ rRepT K x y H Q))
theorem op_mulA : OpR X (binaryOp .Mult) (rMulA X.K) := OpR.or op_mul (OpR.or op_mulS (OpR.or op_rep op_repT))
theorem mulOk_of {a : Str} {n : Int} (h0 : 0 ≤ n) (h1 : n ≤ 100000) (h2 : a.length * n.toNat ≤ 100000) : MulOk a n := by
  refine ⟨?_, fun h3 _ h4 => ?_, fun _ _ => ?_⟩
  · rw [Bool.or_eq_false_iff]
    exact ⟨decide_eq_false (by omega), decide_eq_false (by omega)⟩
  · have hn : 0 < n := by omega
    have h5 : (a.length : Int) * n ≤ 100000 := by
      have e : (n.toNat : Int) = n := Int.toNat_of_nonneg h0
      have : ((a.length * n.toNat : Nat) : Int) ≤ ((100000 : Nat) : Int) := Int.ofNat_le.mpr h2
      rw [Int.natCast_mul, e] at this
      exact this
    have h6 : (a.length : Int) ≤ (2 ^ 63 - 1) / n := by
      rw [Int.le_ediv_iff_mul_le hn]
      omega
    omega
  · show decide (a.length * n.toNat > sizeLine) = false
    have : a.length * n.toNat ≤ sizeLine := small5 h2
    exact decide_eq_false (by omega)
theorem ops_mul : OpS K (rMulA K) mulD := by
  intro F H x y d e z Q fh hx hy hf k
  unfold mulD at hf
  split at hf
  · split at hf
    · rename_i hl
      cases hf
      exact .inl ⟨_, _, hx.int, hy.int, hl, k _ _ _ (Ext.refl fh) (.int _)⟩
    · cases hf
  · split at hf
    · rename_i hl
      cases hf
      exact .inr (.inl ⟨_, _, hx.str, hy.int, mulOk_of hl.1 hl.2.1 hl.2.2, k _ _ _ (Ext.refl fh) (.str _)⟩)
    · cases hf
  · split at hf
    · rename_i n hl
      cases hf
      obtain ⟨a, vs, rfl, h1, h2⟩ := hx.list fh
      refine .inr (.inr (.inl ⟨a, n, vs, rfl, hy.int, h1, by omega, by omega, by rw [h2.length]; exact small5 hl.2.2, fun p hp => ?_⟩))
      have ex : Ext F H (upd F p (.lst (List.replicate n.toNat vs).flatten)) (upd H p (.lst (List.replicate n.toNat vs).flatten)) := Ext.new fh hp
      exact k _ _ _ ex (.lst upd_same ((h2.rep _).mono ex.f))
    · cases hf
  · split at hf
    · rename_i n hl
      cases hf
      obtain ⟨a, vs, rfl, h1, h2⟩ := hx.tuple
      have hne : vs ≠ [] := fun q => by
        subst q
        cases h2
        exact hl.1 rfl
      refine .inr (.inr (.inr ⟨a, n, vs, rfl, hy.int, sqT_mono fh h1, hne, hl.2.1, hl.2.2.1, by rw [h2.length]; exact hl.2.2.2, fun p hp => ?_⟩))
      have ex : Ext F H (upd F p (.tup (List.replicate n.toNat vs).flatten)) (upd H p (.tup (List.replicate n.toNat vs).flatten)) := Ext.new fh hp
      exact k _ _ _ ex (.tup (SqT.of upd_same) ((h2.rep _).mono ex.f))
    · cases hf
  · cases hf
theorem ops_fdiv : OpS K (rI CDiv fun i j => .int (i / j)) fdivD := by
  intro F H x y d e z Q fh hx hy hf k
  unfold fdivD at hf
  split at hf
  · split at hf
    · rename_i hl
      cases hf
      exact ⟨_, _, hx.int, hy.int, hl, k _ _ _ (Ext.refl fh) (.int _)⟩
    · cases hf
  · cases hf
theorem ops_mod : OpS K (rI (fun _ j => 0 < j) fun i j => .int (i % j)) modD := by
  intro F H x y d e z Q fh hx hy hf k
  unfold modD at hf
  split at hf
  · split at hf
    · rename_i hl
      cases hf
      exact ⟨_, _, hx.int, hy.int, hl, k _ _ _ (Ext.refl fh) (.int _)⟩
    · cases hf
  · cases hf
theorem ops_pow : OpS K (rI (fun i j => 0 ≤ j ∧ (Builtin.Int.intBits i : Int) * j ≤ 2 ^ 27) fun i j => .int (i ^ j.toNat)) powD := by
  intro F H x y d e z Q fh hx hy hf k
  unfold powD at hf
  split at hf
  · split at hf
    · rename_i hl
      cases hf
      exact ⟨_, _, hx.int, hy.int, hl, k _ _ _ (Ext.refl fh) (.int _)⟩
    · cases hf
  · cases hf
abbrev rLtA : R2 := fun x y H Q => (∃ i j, x = V.int i ∧ y = V.int j ∧ Q (V.bl (decide (i < j))) H) ∨ (∃ i j, x = V.str i ∧ y = V.str j ∧ Q (.bl (decide (i.cps.toList < j.cps.toList))) H)
theorem op_ltA : OpR X (compareOp .Lt) rLtA := OpR.or op_lt op_lt_str
abbrev rLeA : R2 := fun x y H Q => (∃ i j, x = V.int i ∧ y = V.int j ∧ Q (V.bl (decide (i ≤ j))) H) ∨ (∃ i j, x = V.str i ∧ y = V.str j ∧ Q (.bl (!decide (j.cps.toList < i.cps.toList))) H)
theorem op_leA : OpR X (compareOp .LtE) rLeA := OpR.or op_le op_le_str
abbrev rGtA : R2 := fun x y H Q => (∃ i j, x = V.int i ∧ y = V.int j ∧ Q (V.bl (decide (j < i))) H) ∨ (∃ i j, x = V.str i ∧ y = V.str j ∧ Q (.bl (decide (j.cps.toList < i.cps.toList))) H)
theorem op_gtA : OpR X (compareOp .Gt) rGtA := OpR.or op_gt op_gt_str
abbrev rGeA : R2 := fun x y H Q => (∃ i j, x = V.int i ∧ y = V.int j ∧ Q (V.bl (decide (j ≤ i))) H) ∨ (∃ i j, x = V.str i ∧ y = V.str j ∧ Q (.bl (!decide (i.cps.toList < j.cps.toList))) H)
theorem op_geA : OpR X (compareOp .GtE) rGeA := OpR.or op_ge op_ge_str
theorem ops_lt : OpS K rLtA ltD := by
  intro F H x y d e z Q fh hx hy hf k
  unfold ltD at hf
  split at hf
  · cases hf
    exact .inl ⟨_, _, hx.int, hy.int, k _ _ _ (Ext.refl fh) (.bl _)⟩
  · cases hf
    exact .inr ⟨_, _, hx.str, hy.str, k _ _ _ (Ext.refl fh) (.bl _)⟩
  · cases hf
theorem ops_le : OpS K rLeA leD := by
  intro F H x y d e z Q fh hx hy hf k
  unfold leD at hf
  split at hf
  · cases hf
    exact .inl ⟨_, _, hx.int, hy.int, k _ _ _ (Ext.refl fh) (.bl _)⟩
  · cases hf
    exact .inr ⟨_, _, hx.str, hy.str, k _ _ _ (Ext.refl fh) (.bl _)⟩
  · cases hf
theorem ops_gt : OpS K rGtA gtD := by
  intro F H x y d e z Q fh hx hy hf k
  unfold gtD at hf
  split at hf
  · cases hf
    exact .inl ⟨_, _, hx.int, hy.int, k _ _ _ (Ext.refl fh) (.bl _)⟩
  · cases hf
    exact .inr ⟨_, _, hx.str, hy.str, k _ _ _ (Ext.refl fh) (.bl _)⟩
  · cases hf
theorem ops_ge : OpS K rGeA geD := by
  intro F H x y d e z Q fh hx hy hf k
  unfold geD at hf
  split at hf
  · cases hf
    exact .inl ⟨_, _, hx.int, hy.int, k _ _ _ (Ext.refl fh) (.bl _)⟩
  · cases hf
    exact .inr ⟨_, _, hx.str, hy.str, k _ _ _ (Ext.refl fh) (.bl _)⟩
  · cases hf
/-! ### ==, != -/
theorem DVs.empty {F : Hp} {vs : List V} {ds : List PyData} (h : DVs K F vs ds) : vs.isEmpty = ds.isEmpty := by
  cases h <;> rfl
mutual
theorem DV.dp {F : Hp} : ∀ {v : V} {d : PyData}, DV K F v d → d.canLay0 = true → Dp K F v d
  | _, _, .non, _ => .non
  | _, _, .bl b, _ => .bl b
  | _, _, .int i, _ => .int i
  | _, _, .str x, _ => .str x
  | _, _, .lst h hs, c => .lst (SqL.of h) (DVs.dp hs (by simpa [PyData.canLay0] using c))
  | _, _, .tup h hs, c => .tup h (DVs.dp hs (by simpa [PyData.canLay0] using c))
  | _, _, .dct h h1 h2, c => by simp [PyData.canLay0] at c
theorem DVs.dp {F : Hp} : ∀ {vs : List V} {ds : List PyData}, DVs K F vs ds → PyData.canLayAll0 ds = true → DpAll K F vs ds
  | _, _, .nil, _ => .nil
  | _, _, .cons h t, c => by
    have c' := c
    simp [PyData.canLayAll0] at c'
    exact .cons (DV.dp h c'.1) (DVs.dp t c'.2)
end
abbrev rEqA (K : PySem.W.Frag) : R2 := fun x y H Q => rEq x y H Q ∨ (rEqE K x y H Q ∨ rEqD K x y H Q)
theorem op_eqA (hu : X.A.units + 64 < cLine) : OpR X (compareOp .Eq) (rEqA X.K) := OpR.or op_eq (OpR.or (op_eqE (by omega)) (op_eqD hu))
abbrev rNeA (K : PySem.W.Frag) : R2 := fun x y H Q => rNe x y H Q ∨ rNeD K x y H Q
theorem op_neA (hu : X.A.units + 64 < cLine) : OpR X (compareOp .NotEq) (rNeA X.K) := OpR.or op_ne (op_neD hu)
theorem dec_strs {i j : Str} : decide (V.str i = V.str j) = decide (i = j) := by
  rw [Bool.eq_iff_iff]
  simp
theorem ops_eq : OpS K (rEqA K) eqDD := by
  intro F H x y d e z Q fh hx hy hf k
  unfold eqDD at hf
  obtain ⟨b, hb, rfl⟩ := Option.map_eq_some_iff.mp hf
  unfold eqD at hb
  split at hb
  · cases hb
    cases hx.str
    cases hy.str
    refine .inl ⟨rfl, ?_⟩
    rw [dec_strs]
    exact k _ _ _ (Ext.refl fh) (.bl _)
  · cases hb
    obtain ⟨a, vs, rfl, h1, h2⟩ := hx.tuple
    obtain ⟨c, ws, rfl, h3, h4⟩ := hy.tuple
    cases h4
    refine .inr (.inl ⟨a, c, vs, [], rfl, rfl, sqT_mono fh h1, sqT_mono fh h3, .inr rfl, ?_⟩)
    rw [show (vs.isEmpty && ([] : List V).isEmpty) = vs.isEmpty by rw [List.isEmpty_nil, Bool.and_true], h2.empty]
    exact k _ _ _ (Ext.refl fh) (.bl _)
  · cases hb
    obtain ⟨a, vs, rfl, h1, h2⟩ := hx.tuple
    obtain ⟨c, ws, rfl, h3, h4⟩ := hy.tuple
    cases h2
    refine .inr (.inl ⟨a, c, [], ws, rfl, rfl, sqT_mono fh h1, sqT_mono fh h3, .inl rfl, ?_⟩)
    rw [show (([] : List V).isEmpty && ws.isEmpty) = ws.isEmpty by rw [List.isEmpty_nil, Bool.true_and], h4.empty]
    exact k _ _ _ (Ext.refl fh) (.bl _)
  · split at hb
    · rename_i hs
      cases hb
      exact .inr (.inr ⟨_, _, (hx.dv fh).dp (SeqAt.canLay_of_shaped hs.1), (hy.dv fh).dp (SeqAt.canLay_of_shaped hs.2), hs.1, hs.2, k _ _ _ (Ext.refl fh) (.bl _)⟩)
    · cases hb
theorem ops_ne : OpS K (rNeA K) neDD := by
  intro F H x y d e z Q fh hx hy hf k
  unfold neDD at hf
  split at hf
  · cases hf
    cases hx.str
    cases hy.str
    refine .inl ⟨rfl, ?_⟩
    rw [dec_strs]
    exact k _ _ _ (Ext.refl fh) (.bl _)
  · split at hf
    · rename_i hs
      cases hf
      exact .inr ⟨_, _, (hx.dv fh).dp (SeqAt.canLay_of_shaped hs.1), (hy.dv fh).dp (SeqAt.canLay_of_shaped hs.2), hs.1, hs.2, k _ _ _ (Ext.refl fh) (.bl _)⟩
    · cases hf
theorem one_sign {a : Str} (h : a.cps.size = 1) : a = ⟨#[a.cps.getD 0 0]⟩ := by
  obtain ⟨⟨l⟩⟩ := a
  have h' : l.length = 1 := h
  match l, h' with
  | [c], _ => rfl
theorem ops_in : OpS K rInS inD := by
  intro F H x y d e z Q fh hx hy hf k
  unfold inD at hf
  split at hf
  · split at hf
    · rename_i hs
      cases hf
      exact ⟨_, _, hx.str.trans (congrArg V.str (one_sign hs)), hy.str, k _ _ _ (Ext.refl fh) (.bl _)⟩
    · cases hf
  · cases hf
theorem ops_notIn : OpS K rNotInS notInD := by
  intro F H x y d e z Q fh hx hy hf k
  unfold notInD at hf
  split at hf
  · split at hf
    · rename_i hs
      cases hf
      exact ⟨_, _, hx.str.trans (congrArg V.str (one_sign hs)), hy.str, k _ _ _ (Ext.refl fh) (.bl _)⟩
    · cases hf
  · cases hf
theorem dx_non {F H : Hp} {x : V} {d : PyData} (hx : DX K F H x d) : decide (x = V.non) = isNo d := by
  rcases hx with h | ⟨a, vs, ds', rfl, rfl, h3, h4⟩
  · cases h <;> rfl
  · rfl
theorem ops_isN : OpS K rIsN isND := by
  intro F H x y d e z Q fh hx hy hf k
  unfold isND at hf
  split at hf
  · cases hf
    refine ⟨hy.non, ?_⟩
    rw [dx_non hx]
    exact k _ _ _ (Ext.refl fh) (.bl _)
  · cases hf
theorem ops_isNotN : OpS K rNotN isNotND := by
  intro F H x y d e z Q fh hx hy hf k
  unfold isNotND at hf
  split at hf
  · cases hf
    refine ⟨hy.non, ?_⟩
    rw [dx_non hx]
    exact k _ _ _ (Ext.refl fh) (.bl _)
  · cases hf
end
end VL

set_option Elab.async false
set_option linter.all false
set_option maxRecDepth 100000
set_option maxHeartbeats 4000000
/-! VL3: expressions, tests, arguments: «e is m». -/
namespace VL
open PySem PySem.Spec PyProof.Rows L2

def SndE (K : PySem.W.Frag) (t : TE) (m : ME) : Prop :=
  ∀ (P F0 : Hp) (qc : Nat → Addr) (F : Hp) (cell : Nat → Addr) (S : Sl) (σ : L2.St) (H : Hp) (Q : VK) (r : SV) (S' : Sl), RC K P F0 qc F cell S σ H → m S = some (r, S') →
    (∀ v F' H', Same F F' → RC K P F0 qc F' cell S' σ H' → VR K F' cell r v → Q v H') → t σ H Q
def SndT (K : PySem.W.Frag) (t : TT) (m : MT) : Prop :=
  ∀ (P F0 : Hp) (qc : Nat → Addr) (F : Hp) (cell : Nat → Addr) (S : Sl) (σ : L2.St) (H : Hp) (Q : Bool → Hp → Prop) (r : Bool) (S' : Sl), RC K P F0 qc F cell S σ H → m S = some (r, S') →
    (∀ F' H', Same F F' → RC K P F0 qc F' cell S' σ H' → Q r H') → t σ H Q
def VRs (K : PySem.W.Frag) (F : Hp) (cell : Nat → Addr) : List SV → List V → Prop
  | [], vs => vs = []
  | r :: rs, vs => ∃ v ws, vs = v :: ws ∧ VR K F cell r v ∧ VRs K F cell rs ws
theorem VRs.mono {K : PySem.W.Frag} {F F' : Hp} {cell : Nat → Addr} (e : Same F F') : ∀ {rs : List SV} {vs : List V}, VRs K F cell rs vs → VRs K F' cell rs vs
  | [], _, h => h
  | _ :: _, _, ⟨v, ws, h1, h2, h3⟩ => ⟨v, ws, h1, h2.mono e, VRs.mono e h3⟩
theorem VRs.length {K : PySem.W.Frag} {F : Hp} {cell : Nat → Addr} : ∀ {rs : List SV} {vs : List V}, VRs K F cell rs vs → vs.length = rs.length
  | [], _, h => by rw [show _ = [] from h]; rfl
  | _ :: _, _, ⟨v, ws, h1, h2, h3⟩ => by rw [h1, List.length_cons, List.length_cons, VRs.length h3]
def SndA (K : PySem.W.Frag) (t : TA) (m : MA) : Prop :=
  ∀ (P F0 : Hp) (qc : Nat → Addr) (F : Hp) (cell : Nat → Addr) (S : Sl) (σ : L2.St) (H : Hp) (Q : List V → Hp → Prop) (rs : List SV) (S' : Sl), RC K P F0 qc F cell S σ H → m S = some (rs, S') →
    (∀ vs F' H', Same F F' → RC K P F0 qc F' cell S' σ H' → VRs K F' cell rs vs → Q vs H') → t σ H Q
structure JE (X : Cx) (e : Expr) (m : ME) : Prop where
  ex : ∃ t, PE X e t ∧ SndE X.K t m
structure JT (X : Cx) (e : Expr) (m : MT) : Prop where
  ex : ∃ t, PT X e t ∧ SndT X.K t m
structure JW (X : Cx) (e : Expr) (m : MT) : Prop where
  ex : ∃ t, PW X e t ∧ SndT X.K t m
structure JA (X : Cx) (es : List Expr) (m : MA) : Prop where
  ex : ∃ t, PA X es t ∧ SndA X.K t m

/-! ### the functions -/
def mVar (i : Nat) : ME := fun S => match S[i]? with
  | some (some (.v d)) => some (.v d, S)
  | some (some (.c _)) => some (.p i, S)
  | some (some (.q _)) => some (.p i, S)
  | some (some (.s ns)) => some (.s ns, S)
  | _ => none
def mC (d : PyData) : ME := fun S => some (.v d, S)
def mBin (f : PyData → PyData → Option PyData) (ma mb : ME) : ME := fun S =>
  match ma S with
  | none => none
  | some (r1, S1) => match mb S1 with
    | none => none
    | some (r2, S2) => match deref S2 r1, deref S2 r2 with
      | some d, some e => match f d e with
        | some z => some (.v z, S2)
        | none => none
      | _, _ => none
def mUn (f : PyData → Option PyData) (ma : ME) : ME := fun S =>
  match ma S with
  | none => none
  | some (r1, S1) => match deref S1 r1 with
    | some d => match f d with
      | some z => some (.v z, S1)
      | none => none
    | none => none
def mAnd (ma mb : ME) : ME := fun S =>
  match ma S with
  | some (.v (.bool true), S1) => mb S1
  | some (.v (.bool false), S1) => some (.v (.bool false), S1)
  | _ => none
def mOr (ma mb : ME) : ME := fun S =>
  match ma S with
  | some (.v (.bool true), S1) => some (.v (.bool true), S1)
  | some (.v (.bool false), S1) => mb S1
  | _ => none
def mNot (ma : ME) : ME := fun S =>
  match ma S with
  | some (.v (.bool b), S1) => some (.v (.bool (!b)), S1)
  | _ => none
def mIf (mt : MT) (ma mb : ME) : ME := fun S =>
  match mt S with
  | some (true, S1) => ma S1
  | some (false, S1) => mb S1
  | none => none
def mChain (f g : PyData → PyData → Option PyData) (ma mb mc : ME) : ME := fun S =>
  match ma S with
  | none => none
  | some (r1, S1) => match mb S1 with
    | none => none
    | some (r2, S2) => match deref S2 r1, stable r2 with
      | some d, some e => match f d e with
        | some (.bool true) => match mc S2 with
          | some (r3, S3) => match deref S3 r3 with
            | some h => match g e h with
              | some (.bool b) => some (.v (.bool b), S3)
              | _ => none
            | none => none
          | none => none
        | some (.bool false) => some (.v (.bool false), S2)
        | _ => none
      | _, _ => none
def tVal (ma : ME) : MT := fun S =>
  match ma S with
  | some (.v (.bool b), S1) => some (b, S1)
  | _ => none
def tAndM (ma mb : MT) : MT := fun S =>
  match ma S with
  | some (true, S1) => mb S1
  | some (false, S1) => some (false, S1)
  | none => none
def tOrM (ma mb : MT) : MT := fun S =>
  match ma S with
  | some (true, S1) => some (true, S1)
  | some (false, S1) => mb S1
  | none => none
def tNotM (ma : MT) : MT := fun S =>
  match ma S with
  | some (b, S1) => some (!b, S1)
  | none => none
def aNil : MA := fun S => some ([], S)
def aCons (me : ME) (ma : MA) : MA := fun S =>
  match me S with
  | none => none
  | some (r, S1) => match ma S1 with
    | none => none
    | some (rs, S2) => some (r :: rs, S2)

section
variable {X : Cx} {e a b c : Expr} {es rest : List Expr} {ma mb mc : ME} {mt mu : MT} {mas : MA} {pos : Pos} {x : Str}
theorem je_var (i : Nat) (hN : X.N[i]? = some x := by rfl) (hv : Vis X.env.scope x := by first | exact Or.inl rfl | exact Or.inr (Or.inl rfl) | exact Or.inr (Or.inr rfl)) (hd : (x == ("__debug__" : Str)) = false := by decide)
    (hcd : (x == ("__classdict__" : Str)) = false := by decide) : JE X (.Name x pos) (mVar i) := by
  refine ⟨_, pe_var hN hv hd hcd, fun P F0 qc F cell S σ H Q r S' R hm k => ?_⟩
  unfold mVar at hm
  split at hm
  · rename_i d hs
    cases hm
    obtain ⟨v, h1, h2⟩ := R.vl i d hs
    exact ⟨v, h1, k v F H (Same.refl _) R h2⟩
  · rename_i xs hs
    cases hm
    obtain ⟨h1, _⟩ := R.cl i _ xs hs rfl
    exact ⟨_, h1, k _ F H (Same.refl _) R rfl⟩
  · rename_i xs hs
    cases hm
    obtain ⟨h1, _⟩ := R.cl i _ xs hs rfl
    exact ⟨_, h1, k _ F H (Same.refl _) R rfl⟩
  · rename_i ns hs
    cases hm
    obtain ⟨a, h1, h2⟩ := R.sc i ns hs
    exact ⟨_, h1, k _ F H (Same.refl _) R h2⟩
  · cases hm
theorem snd_c {K : PySem.W.Frag} {v : V} {d : PyData} (h : ∀ F, DV K F v d) : SndE K (tC v) (mC d) := fun P F0 qc F cell S σ H Q r S' R hm k => by
  cases hm
  exact k v F H (Same.refl _) R (h F)
theorem je_int {i : Int} {j} : JE X (.Constant (.int i) j pos) (mC (.int i)) := ⟨_, pe_int, snd_c fun _ => .int i⟩
theorem je_bl {i : Bool} {j} : JE X (.Constant (.bool i) j pos) (mC (.bool i)) := ⟨_, pe_bl, snd_c fun _ => .bl i⟩
theorem je_non {j} : JE X (.Constant .none j pos) (mC .none) := ⟨_, pe_non, snd_c fun _ => .non⟩
theorem je_str {z : Str} {j} : JE X (.Constant (.str z) j pos) (mC (.str z)) := ⟨_, pe_str, snd_c fun _ => .str z⟩
/-- a constant of the module -/
theorem je_gstr {z : Str} {t : Tok} (hm : X.mg x = some (.str z t)) (hg : Gl X x := by rfl) (hd : (x == ("__debug__" : Str)) = false := by decide) : JE X (.Name x pos) (mC (.str z)) := ⟨_, pe_glob (v := .str z) hg hm ⟨t, rfl⟩ hd, snd_c fun _ => .str z⟩
theorem je_gint {z : Int} {t : Tok} (hm : X.mg x = some (.int z t)) (hg : Gl X x := by rfl) (hd : (x == ("__debug__" : Str)) = false := by decide) : JE X (.Name x pos) (mC (.int z)) := ⟨_, pe_glob (v := .int z) hg hm ⟨t, rfl⟩ hd, snd_c fun _ => .int z⟩

theorem snd_bin {K : PySem.W.Frag} {r : R2} {f : PyData → PyData → Option PyData} {ta tb : TE} (hs : OpS K r f) (ha : SndE K ta ma) (hb : SndE K tb mb) : SndE K (tOp r ta tb) (mBin f ma mb) := by
  intro P F0 qc F cell S σ H Q z S' R hm k
  unfold mBin at hm
  split at hm
  · cases hm
  · rename_i r1 S1 e1
    split at hm
    · cases hm
    · rename_i r2 S2 e2
      split at hm
      · rename_i d e hd he
        split at hm
        · rename_i z' hz
          cases hm
          refine ha P F0 qc F cell S σ H _ r1 S1 R e1 fun v1 F1 H1 s1 R1 q1 => ?_
          refine hb P F0 qc F1 cell S1 σ H1 _ r2 S' R1 e2 fun v2 F2 H2 s2 R2 q2 => ?_
          refine hs F2 H2 v1 v2 d e z' Q R2.fh (R2.deref (q1.mono s2) hd) (R2.deref q2 he) hz fun v F' H' ex dv => ?_
          exact k v F' H' ((s1.trans s2).trans ex.f) (R2.ext ex) dv
        · cases hm
      · cases hm
theorem je_bin {op : Operator} {r : R2} {f : PyData → PyData → Option PyData} (ho : OpR X (binaryOp op) r) (hs : OpS X.K r f) (ha : JE X a ma) (hb : JE X b mb) : JE X (.BinOp a op b pos) (mBin f ma mb) := by
  obtain ⟨ta, pa, sa⟩ := ha.ex
  obtain ⟨tb, pb, sb⟩ := hb.ex
  exact ⟨_, pe_op ho pa pb, snd_bin hs sa sb⟩
theorem je_add (ha : JE X a ma) (hb : JE X b mb) : JE X (.BinOp a .Add b pos) (mBin addD ma mb) := je_bin op_addA ops_add ha hb
theorem je_sub (ha : JE X a ma) (hb : JE X b mb) : JE X (.BinOp a .Sub b pos) (mBin subD ma mb) := je_bin op_sub ops_sub ha hb
theorem je_mul (ha : JE X a ma) (hb : JE X b mb) : JE X (.BinOp a .Mult b pos) (mBin mulD ma mb) := je_bin op_mulA ops_mul ha hb
theorem je_fdiv (ha : JE X a ma) (hb : JE X b mb) : JE X (.BinOp a .FloorDiv b pos) (mBin fdivD ma mb) := je_bin op_fdiv ops_fdiv ha hb
theorem je_mod (ha : JE X a ma) (hb : JE X b mb) : JE X (.BinOp a .Mod b pos) (mBin modD ma mb) := je_bin op_mod ops_mod ha hb
theorem je_pow (ha : JE X a ma) (hb : JE X b mb) : JE X (.BinOp a .Pow b pos) (mBin powD ma mb) := je_bin op_powW ops_pow ha hb
theorem je_cmp {op : CmpOp} {r : R2} {f : PyData → PyData → Option PyData} (ho : OpR X (compareOp op) r) (hs : OpS X.K r f) (hm : behindInMarks op b = false) (ha : JE X a ma) (hb : JE X b mb) : JE X (.Compare a [op] [b] pos) (mBin f ma mb) := by
  obtain ⟨ta, pa, sa⟩ := ha.ex
  obtain ⟨tb, pb, sb⟩ := hb.ex
  exact ⟨_, pe_cmpR ho pa pb hm, snd_bin hs sa sb⟩
theorem je_lt (ha : JE X a ma) (hb : JE X b mb) : JE X (.Compare a [.Lt] [b] pos) (mBin ltD ma mb) := je_cmp op_ltA ops_lt (nomark _) ha hb
theorem je_le (ha : JE X a ma) (hb : JE X b mb) : JE X (.Compare a [.LtE] [b] pos) (mBin leD ma mb) := je_cmp op_leA ops_le (nomark _) ha hb
theorem je_gt (ha : JE X a ma) (hb : JE X b mb) : JE X (.Compare a [.Gt] [b] pos) (mBin gtD ma mb) := je_cmp op_gtA ops_gt (nomark _) ha hb
theorem je_ge (ha : JE X a ma) (hb : JE X b mb) : JE X (.Compare a [.GtE] [b] pos) (mBin geD ma mb) := je_cmp op_geA ops_ge (nomark _) ha hb
theorem je_eq {k : Nat} (hr : Room k X.A) (ha : JE X a ma) (hb : JE X b mb) : JE X (.Compare a [.Eq] [b] pos) (mBin eqDD ma mb) := je_cmp (op_eqA hr.units) ops_eq (nomark _) ha hb
theorem je_ne {k : Nat} (hr : Room k X.A) (ha : JE X a ma) (hb : JE X b mb) : JE X (.Compare a [.NotEq] [b] pos) (mBin neDD ma mb) := je_cmp (op_neA hr.units) ops_ne (nomark _) ha hb
theorem je_in (ha : JE X a ma) (hb : JE X b mb) (hm : behindInMarks .In b = false := by rfl) : JE X (.Compare a [.In] [b] pos) (mBin inD ma mb) := je_cmp op_inS ops_in hm ha hb
theorem je_notIn (ha : JE X a ma) (hb : JE X b mb) (hm : behindInMarks .NotIn b = false := by rfl) : JE X (.Compare a [.NotIn] [b] pos) (mBin notInD ma mb) := je_cmp op_notInS ops_notIn hm ha hb
theorem je_isN (ha : JE X a ma) (hb : JE X b mb) : JE X (.Compare a [.Is] [b] pos) (mBin isND ma mb) := je_cmp op_isN1 ops_isN (nomark _) ha hb
theorem je_isNotN (ha : JE X a ma) (hb : JE X b mb) : JE X (.Compare a [.IsNot] [b] pos) (mBin isNotND ma mb) := je_cmp op_notN1 ops_isNotN (nomark _) ha hb
/-- a < b < c, b a value -/
theorem snd_chain {K : PySem.W.Frag} {r r' : R2} {f g : PyData → PyData → Option PyData} {ta tb tc : TE} (hs : OpS K r f) (hs' : OpS K r' g) (sa : SndE K ta ma) (sb : SndE K tb mb) (sc : SndE K tc mc) : SndE K (tChain r r' ta tb tc) (mChain f g ma mb mc) := by
  intro P F0 qc F cell S σ H Q z S' R hm k
  unfold mChain at hm
  split at hm
  · cases hm
  · rename_i r1 S1 e1
    split at hm
    · cases hm
    · rename_i r2 S2 e2
      split at hm
      · rename_i d e hd he
        have q2' : r2 = .v e := by
          cases r2 with
          | v d' => cases he; rfl
          | p i => cases he
          | s ns => cases he
        subst q2'
        refine sa P F0 qc F cell S σ H _ r1 S1 R e1 fun v1 F1 H1 s1 R1 q1 => ?_
        refine sb P F0 qc F1 cell S1 σ H1 _ _ S2 R1 e2 fun v2 F2 H2 s2 R2 q2 => ?_
        split at hm
        · rename_i hz
          split at hm
          · rename_i r3 S3 e3
            split at hm
            · rename_i h hh
              split at hm
              · rename_i bb hg
                cases hm
                refine hs F2 H2 v1 v2 d e _ _ R2.fh (R2.deref (q1.mono s2) hd) (.inl q2) hz fun v F' H' ex dv => ?_
                cases dv
                refine ⟨true, rfl, ?_⟩
                rw [if_pos rfl]
                refine sc P F0 qc F' cell S2 σ H' _ r3 S' (R2.ext ex) e3 fun v3 F3 H3 s3 R3 q3 => ?_
                refine hs' F3 H3 v2 v3 e h _ _ R3.fh (.inl (DV.mono s3 (DV.mono ex.f q2))) (R3.deref q3 hh) hg fun v F4 H4 ex4 dv4 => ?_
                exact k v F4 H4 (((s1.trans s2).trans ex.f).trans (s3.trans ex4.f)) (R3.ext ex4) dv4
              · cases hm
            · cases hm
          · cases hm
        · rename_i hz
          cases hm
          refine hs F2 H2 v1 v2 d e _ _ R2.fh (R2.deref (q1.mono s2) hd) (.inl q2) hz fun v F' H' ex dv => ?_
          cases dv
          refine ⟨false, rfl, ?_⟩
          rw [if_neg Bool.false_ne_true]
          exact k _ F' H' ((s1.trans s2).trans ex.f) (R2.ext ex) (.bl false)
        · cases hm
      · cases hm
theorem je_chain {op op' : CmpOp} {r r' : R2} {f g : PyData → PyData → Option PyData} (ho : OpR X (compareOp op) r) (hs : OpS X.K r f) (ho' : OpR X (compareOp op') r') (hs' : OpS X.K r' g) (ha : JE X a ma) (hb : JE X b mb) (hc : JE X c mc)
    (hl : lastMarks [op, op'] [b, c] = false := by rfl) : JE X (.Compare a [op, op'] [b, c] pos) (mChain f g ma mb mc) := by
  obtain ⟨ta, pa, sa⟩ := ha.ex
  obtain ⟨tb, pb, sb⟩ := hb.ex
  obtain ⟨tc, pc, sc⟩ := hc.ex
  exact ⟨_, pe_chain ho ho' pa pb pc hl, snd_chain hs hs' sa sb sc⟩
theorem je_one {op} (ha : JE X a ma) : JE X (.BoolOp op [a] pos) ma := by
  obtain ⟨ta, pa, sa⟩ := ha.ex
  exact ⟨_, pe_one pa, sa⟩
theorem je_and (ha : JE X a ma) (hb : JE X (.BoolOp .And (b :: rest) pos) mb) : JE X (.BoolOp .And (a :: b :: rest) pos) (mAnd ma mb) := by
  obtain ⟨ta, pa, sa⟩ := ha.ex
  obtain ⟨tb, pb, sb⟩ := hb.ex
  refine ⟨_, pe_and pa pb, fun P F0 qc F cell S σ H Q z S' R hm k => ?_⟩
  unfold mAnd at hm
  split at hm
  · rename_i S1 e1
    refine sa P F0 qc F cell S σ H _ _ S1 R e1 fun v1 F1 H1 s1 R1 q1 => ?_
    cases (show DV X.K F1 v1 (.bool true) from q1)
    refine ⟨true, rfl, ?_⟩
    rw [if_pos rfl]
    exact sb P F0 qc F1 cell S1 σ H1 Q z S' R1 hm fun v F' H' s2 R2 q2 => k v F' H' (s1.trans s2) R2 q2
  · rename_i S1 e1
    cases hm
    refine sa P F0 qc F cell S σ H _ _ S' R e1 fun v1 F1 H1 s1 R1 q1 => ?_
    cases (show DV X.K F1 v1 (.bool false) from q1)
    refine ⟨false, rfl, ?_⟩
    rw [if_neg Bool.false_ne_true]
    exact k _ F1 H1 s1 R1 (.bl false)
  · cases hm
theorem je_or (ha : JE X a ma) (hb : JE X (.BoolOp .Or (b :: rest) pos) mb) : JE X (.BoolOp .Or (a :: b :: rest) pos) (mOr ma mb) := by
  obtain ⟨ta, pa, sa⟩ := ha.ex
  obtain ⟨tb, pb, sb⟩ := hb.ex
  refine ⟨_, pe_or pa pb, fun P F0 qc F cell S σ H Q z S' R hm k => ?_⟩
  unfold mOr at hm
  split at hm
  · rename_i S1 e1
    cases hm
    refine sa P F0 qc F cell S σ H _ _ S' R e1 fun v1 F1 H1 s1 R1 q1 => ?_
    cases (show DV X.K F1 v1 (.bool true) from q1)
    refine ⟨true, rfl, ?_⟩
    rw [if_pos rfl]
    exact k _ F1 H1 s1 R1 (.bl true)
  · rename_i S1 e1
    refine sa P F0 qc F cell S σ H _ _ S1 R e1 fun v1 F1 H1 s1 R1 q1 => ?_
    cases (show DV X.K F1 v1 (.bool false) from q1)
    refine ⟨false, rfl, ?_⟩
    rw [if_neg Bool.false_ne_true]
    exact sb P F0 qc F1 cell S1 σ H1 Q z S' R1 hm fun v F' H' s2 R2 q2 => k v F' H' (s1.trans s2) R2 q2
  · cases hm
theorem je_not (ha : JE X a ma) : JE X (.UnaryOp .Not a pos) (mNot ma) := by
  obtain ⟨ta, pa, sa⟩ := ha.ex
  refine ⟨_, pe_not pa, fun P F0 qc F cell S σ H Q z S' R hm k => ?_⟩
  unfold mNot at hm
  split at hm
  · rename_i bb S1 e1
    cases hm
    refine sa P F0 qc F cell S σ H _ _ S' R e1 fun v1 F1 H1 s1 R1 q1 => ?_
    cases (show DV X.K F1 v1 (.bool bb) from q1)
    exact ⟨bb, rfl, k _ F1 H1 s1 R1 (.bl _)⟩
  · cases hm
def negD : PyData → Option PyData
  | .int i => some (.int (-i))
  | _ => none
theorem je_neg (ha : JE X a ma) : JE X (.UnaryOp .USub a pos) (mUn negD ma) := by
  obtain ⟨ta, pa, sa⟩ := ha.ex
  refine ⟨_, pe_un un_neg pa, fun P F0 qc F cell S σ H Q z S' R hm k => ?_⟩
  unfold mUn at hm
  split at hm
  · cases hm
  · rename_i r1 S1 e1
    split at hm
    · rename_i d hd
      split at hm
      · rename_i z' hz
        cases hm
        unfold negD at hz
        split at hz
        · cases hz
          refine sa P F0 qc F cell S σ H _ r1 S' R e1 fun v1 F1 H1 s1 R1 q1 => ?_
          exact ⟨_, (R1.deref q1 hd).int, k _ F1 H1 s1 R1 (.int _)⟩
        · cases hz
      · cases hm
    · cases hm
theorem je_if (hc : JT X c mt) (ha : JE X a ma) (hb : JE X b mb) : JE X (.IfExp c a b pos) (mIf mt ma mb) := by
  obtain ⟨tc, pc, sc⟩ := hc.ex
  obtain ⟨ta, pa, sa⟩ := ha.ex
  obtain ⟨tb, pb, sb⟩ := hb.ex
  refine ⟨_, pe_ifExp pc pa pb, fun P F0 qc F cell S σ H Q z S' R hm k => ?_⟩
  unfold mIf at hm
  split at hm
  · rename_i S1 e1
    refine sc P F0 qc F cell S σ H _ _ S1 R e1 fun F1 H1 s1 R1 => ?_
    rw [if_pos rfl]
    exact sa P F0 qc F1 cell S1 σ H1 Q z S' R1 hm fun v F' H' s2 R2 q2 => k v F' H' (s1.trans s2) R2 q2
  · rename_i S1 e1
    refine sc P F0 qc F cell S σ H _ _ S1 R e1 fun F1 H1 s1 R1 => ?_
    rw [if_neg Bool.false_ne_true]
    exact sb P F0 qc F1 cell S1 σ H1 Q z S' R1 hm fun v F' H' s2 R2 q2 => k v F' H' (s1.trans s2) R2 q2
  · cases hm
/-! ### tests -/
theorem snd_tval {K : PySem.W.Frag} {ta : TE} (sa : SndE K ta ma) : SndT K (tB ta) (tVal ma) := by
  intro P F0 qc F cell S σ H Q z S' R hm k
  unfold tVal at hm
  split at hm
  · rename_i bb S1 e1
    cases hm
    refine sa P F0 qc F cell S σ H _ _ S' R e1 fun v1 F1 H1 s1 R1 q1 => ?_
    cases (show DV K F1 v1 (.bool z) from q1)
    exact ⟨z, rfl, k F1 H1 s1 R1⟩
  · cases hm
theorem jt_val (ha : JE X a ma) (he : ∀ whole, isTrue a X.env whole = (do let v ← whole; standAt a.pos; holding [v] (truthy v)) := by intro _; rfl) : JT X a (tVal ma) := by
  obtain ⟨ta, pa, sa⟩ := ha.ex
  exact ⟨_, pt_val pa he, snd_tval sa⟩
theorem snd_tcmp {K : PySem.W.Frag} {t : TE} (sa : SndE K t ma) : SndT K (tTest t) (tVal ma) := by
  intro P F0 qc F cell S σ H Q z S' R hm k
  unfold tVal at hm
  split at hm
  · rename_i bb S1 e1
    cases hm
    refine sa P F0 qc F cell S σ H _ _ S' R e1 fun v1 F1 H1 s1 R1 q1 => ?_
    cases (show DV K F1 v1 (.bool z) from q1)
    exact ⟨z, rfl, k F1 H1 s1 R1⟩
  · cases hm
theorem jt_cmp {op : CmpOp} {r : R2} {f : PyData → PyData → Option PyData} (ho : OpR X (compareOp op) r) (hs : OpS X.K r f) (hm : behindInMarks op b = false) (ha : JE X a ma) (hb : JE X b mb) : JT X (.Compare a [op] [b] pos) (tVal (mBin f ma mb)) := by
  obtain ⟨ta, pa, sa⟩ := ha.ex
  obtain ⟨tb, pb, sb⟩ := hb.ex
  exact ⟨_, pt_cmpR ho pa pb hm, snd_tcmp (snd_bin hs sa sb)⟩
theorem jt_chain {op op' : CmpOp} {r r' : R2} {f g : PyData → PyData → Option PyData} (ho : OpR X (compareOp op) r) (hs : OpS X.K r f) (ho' : OpR X (compareOp op') r') (hs' : OpS X.K r' g) (ha : JE X a ma) (hb : JE X b mb) (hc : JE X c mc)
    (hl : lastMarks [op, op'] [b, c] = false := by rfl) : JT X (.Compare a [op, op'] [b, c] pos) (tVal (mChain f g ma mb mc)) := by
  obtain ⟨ta, pa, sa⟩ := ha.ex
  obtain ⟨tb, pb, sb⟩ := hb.ex
  obtain ⟨tc, pc, sc⟩ := hc.ex
  exact ⟨_, pt_chain ho ho' pa pb pc hl, snd_tcmp (snd_chain hs hs' sa sb sc)⟩
theorem jt_lt (ha : JE X a ma) (hb : JE X b mb) : JT X (.Compare a [.Lt] [b] pos) (tVal (mBin ltD ma mb)) := jt_cmp op_ltA ops_lt (nomark _) ha hb
theorem jt_le (ha : JE X a ma) (hb : JE X b mb) : JT X (.Compare a [.LtE] [b] pos) (tVal (mBin leD ma mb)) := jt_cmp op_leA ops_le (nomark _) ha hb
theorem jt_gt (ha : JE X a ma) (hb : JE X b mb) : JT X (.Compare a [.Gt] [b] pos) (tVal (mBin gtD ma mb)) := jt_cmp op_gtA ops_gt (nomark _) ha hb
theorem jt_ge (ha : JE X a ma) (hb : JE X b mb) : JT X (.Compare a [.GtE] [b] pos) (tVal (mBin geD ma mb)) := jt_cmp op_geA ops_ge (nomark _) ha hb
theorem jt_eq {k : Nat} (hr : Room k X.A) (ha : JE X a ma) (hb : JE X b mb) : JT X (.Compare a [.Eq] [b] pos) (tVal (mBin eqDD ma mb)) := jt_cmp (op_eqA hr.units) ops_eq (nomark _) ha hb
theorem jt_ne {k : Nat} (hr : Room k X.A) (ha : JE X a ma) (hb : JE X b mb) : JT X (.Compare a [.NotEq] [b] pos) (tVal (mBin neDD ma mb)) := jt_cmp (op_neA hr.units) ops_ne (nomark _) ha hb
theorem jt_in (ha : JE X a ma) (hb : JE X b mb) (hm : behindInMarks .In b = false := by rfl) : JT X (.Compare a [.In] [b] pos) (tVal (mBin inD ma mb)) := jt_cmp op_inS ops_in hm ha hb
theorem jt_notIn (ha : JE X a ma) (hb : JE X b mb) (hm : behindInMarks .NotIn b = false := by rfl) : JT X (.Compare a [.NotIn] [b] pos) (tVal (mBin notInD ma mb)) := jt_cmp op_notInS ops_notIn hm ha hb
theorem jt_isN (ha : JE X a ma) (hb : JE X b mb) : JT X (.Compare a [.Is] [b] pos) (tVal (mBin isND ma mb)) := jt_cmp op_isN1 ops_isN (nomark _) ha hb
theorem jt_isNotN (ha : JE X a ma) (hb : JE X b mb) : JT X (.Compare a [.IsNot] [b] pos) (tVal (mBin isNotND ma mb)) := jt_cmp op_notN1 ops_isNotN (nomark _) ha hb
theorem snd_and {K : PySem.W.Frag} {ta tb : TT} (sa : SndT K ta mt) (sb : SndT K tb mu) : SndT K (tAnd ta tb) (tAndM mt mu) := by
  intro P F0 qc F cell S σ H Q z S' R hm k
  unfold tAndM at hm
  split at hm
  · rename_i S1 e1
    refine sa P F0 qc F cell S σ H _ _ S1 R e1 fun F1 H1 s1 R1 => ?_
    rw [if_pos rfl]
    exact sb P F0 qc F1 cell S1 σ H1 Q z S' R1 hm fun F' H' s2 R2 => k F' H' (s1.trans s2) R2
  · rename_i S1 e1
    cases hm
    refine sa P F0 qc F cell S σ H _ _ S' R e1 fun F1 H1 s1 R1 => ?_
    rw [if_neg Bool.false_ne_true]
    exact k F1 H1 s1 R1
  · cases hm
theorem snd_or {K : PySem.W.Frag} {ta tb : TT} (sa : SndT K ta mt) (sb : SndT K tb mu) : SndT K (tOr ta tb) (tOrM mt mu) := by
  intro P F0 qc F cell S σ H Q z S' R hm k
  unfold tOrM at hm
  split at hm
  · rename_i S1 e1
    cases hm
    refine sa P F0 qc F cell S σ H _ _ S' R e1 fun F1 H1 s1 R1 => ?_
    rw [if_pos rfl]
    exact k F1 H1 s1 R1
  · rename_i S1 e1
    refine sa P F0 qc F cell S σ H _ _ S1 R e1 fun F1 H1 s1 R1 => ?_
    rw [if_neg Bool.false_ne_true]
    exact sb P F0 qc F1 cell S1 σ H1 Q z S' R1 hm fun F' H' s2 R2 => k F' H' (s1.trans s2) R2
  · cases hm
theorem jw_and1 (ha : JT X a mt) : JW X (.BoolOp .And [a] pos) mt := by
  obtain ⟨ta, pa, sa⟩ := ha.ex
  exact ⟨_, pw_and1 pa, sa⟩
theorem jw_or1 (ha : JT X a mt) : JW X (.BoolOp .Or [a] pos) mt := by
  obtain ⟨ta, pa, sa⟩ := ha.ex
  exact ⟨_, pw_or1 pa, sa⟩
theorem jw_and (ha : JT X a mt) (hb : JW X (.BoolOp .And (b :: rest) pos) mu) : JW X (.BoolOp .And (a :: b :: rest) pos) (tAndM mt mu) := by
  obtain ⟨ta, pa, sa⟩ := ha.ex
  obtain ⟨tb, pb, sb⟩ := hb.ex
  exact ⟨_, pw_and pa pb, snd_and sa sb⟩
theorem jw_or (ha : JT X a mt) (hb : JW X (.BoolOp .Or (b :: rest) pos) mu) : JW X (.BoolOp .Or (a :: b :: rest) pos) (tOrM mt mu) := by
  obtain ⟨ta, pa, sa⟩ := ha.ex
  obtain ⟨tb, pb, sb⟩ := hb.ex
  exact ⟨_, pw_or pa pb, snd_or sa sb⟩
theorem JW.jt (h : JW X a mt) : JT X a mt := by
  obtain ⟨t, p, s⟩ := h.ex
  exact ⟨t, p.pt, s⟩
theorem jt_not (ha : JT X a mt) : JT X (.UnaryOp .Not a pos) (tNotM mt) := by
  obtain ⟨ta, pa, sa⟩ := ha.ex
  refine ⟨_, pt_not pa, fun P F0 qc F cell S σ H Q z S' R hm k => ?_⟩
  unfold tNotM at hm
  split at hm
  · rename_i bb S1 e1
    cases hm
    exact sa P F0 qc F cell S σ H _ _ S' R e1 fun F1 H1 s1 R1 => k F1 H1 s1 R1
  · cases hm
/-! ### arguments, displays -/
theorem ja_nil : JA X [] aNil := ⟨_, pa_nil, fun P F0 qc F cell S σ H Q rs S' R hm k => by
  cases hm
  exact k [] F H (Same.refl _) R rfl⟩
theorem ja_cons (ha : JE X e ma) (hr : JA X es mas) (hs : starEach (e :: es) X.env = (false, eval e X.env) :: starEach es X.env := by rfl) : JA X (e :: es) (aCons ma mas) := by
  obtain ⟨ta, pa, sa⟩ := ha.ex
  obtain ⟨tr, pr, sr⟩ := hr.ex
  refine ⟨_, pa_cons pa pr hs, fun P F0 qc F cell S σ H Q rs S' R hm k => ?_⟩
  unfold aCons at hm
  split at hm
  · cases hm
  · rename_i r S1 e1
    split at hm
    · cases hm
    · rename_i rs' S2 e2
      cases hm
      refine sa P F0 qc F cell S σ H _ r S1 R e1 fun v1 F1 H1 s1 R1 q1 => ?_
      exact sr P F0 qc F1 cell S1 σ H1 _ rs' S' R1 e2 fun vs F2 H2 s2 R2 q2 => k _ F2 H2 (s1.trans s2) R2 ⟨v1, vs, rfl, q1.mono s2, q2⟩
end
def stables : List SV → Option (List PyData)
  | [] => some []
  | r :: rs => match stable r, stables rs with
    | some d, some ds => some (d :: ds)
    | _, _ => none
def derefs (S : Sl) : List SV → Option (List PyData)
  | [] => some []
  | r :: rs => match deref S r, derefs S rs with
    | some d, some ds => some (d :: ds)
    | _, _ => none
def DXs (K : PySem.W.Frag) (F H : Hp) : List V → List PyData → Prop
  | vs, [] => vs = []
  | vs, d :: ds => ∃ v ws, vs = v :: ws ∧ DX K F H v d ∧ DXs K F H ws ds
theorem VRs.stable {K : PySem.W.Frag} {F : Hp} {cell : Nat → Addr} : ∀ {rs : List SV} {vs : List V} {ds : List PyData}, VRs K F cell rs vs → stables rs = some ds → DVs K F vs ds
  | [], _, _, h, e => by
    cases e
    rw [show _ = [] from h]
    exact .nil
  | r :: rs, _, ds, ⟨v, ws, h1, h2, h3⟩, e => by
    unfold stables at e
    split at e
    · rename_i d ds' e1 e2
      cases e
      subst h1
      refine .cons ?_ (VRs.stable h3 e2)
      cases r with
      | v d' => cases e1; exact h2
      | p i => cases e1
      | s ns => cases e1
    · cases e
section
variable {K : PySem.W.Frag} {P F0 F F' : Hp} {qc cell : Nat → Addr} {S : Sl} {σ : L2.St} {H H' : Hp}
theorem RC.derefs (R : RC K P F0 qc F cell S σ H) : ∀ {rs : List SV} {vs : List V} {ds : List PyData}, VRs K F cell rs vs → VL.derefs S rs = some ds → DXs K F H vs ds
  | [], _, _, h, e => by
    cases e
    exact h
  | r :: rs, _, ds, ⟨v, ws, h1, h2, h3⟩, e => by
    unfold VL.derefs at e
    split at e
    · rename_i d ds' e1 e2
      cases e
      exact ⟨v, ws, h1, R.deref h2 e1, RC.derefs R h3 e2⟩
    · cases e
end
def mTup (ma : MA) : ME := fun S =>
  match ma S with
  | none => none
  | some (rs, S1) => match stables rs with
    | some ds => if ds.length ≤ 100000 then some (.v (.tuple ds), S1) else none
    | none => none
def mLst (ma : MA) : ME := fun S =>
  match ma S with
  | none => none
  | some (rs, S1) => match stables rs with
    | some ds => if ds.length ≤ 100000 then some (.v (.list ds), S1) else none
    | none => none
section
variable {X : Cx} {e a b c : Expr} {es rest : List Expr} {ma mb mc : ME} {mt mu : MT} {mas : MA} {pos : Pos} {x : Str}
theorem je_tup {j} (h : JA X es mas) : JE X (.Tuple es j pos) (mTup mas) := by
  obtain ⟨ta, pa, sa⟩ := h.ex
  refine ⟨_, pe_tup pa, fun P F0 qc F cell S σ H Q z S' R hm k => ?_⟩
  unfold mTup at hm
  split at hm
  · cases hm
  · rename_i rs S1 e1
    split at hm
    · rename_i ds e2
      split at hm
      · rename_i hl
        cases hm
        refine sa P F0 qc F cell S σ H _ rs S' R e1 fun vs F1 H1 s1 R1 q1 => ?_
        have dv := VRs.stable q1 e2
        refine ⟨by rw [dv.length]; exact small5 hl, fun p hp => ?_⟩
        have ex : Ext F1 H1 (upd F1 p (.tup vs)) (upd H1 p (.tup vs)) := Ext.new R1.fh hp
        exact k _ _ _ (s1.trans ex.f) (R1.ext ex) (.tup (SqT.of upd_same) (dv.mono ex.f))
      · cases hm
    · cases hm
theorem je_lst (h : JA X es mas) : JE X (.List es pos) (mLst mas) := by
  obtain ⟨ta, pa, sa⟩ := h.ex
  refine ⟨_, pe_lst pa, fun P F0 qc F cell S σ H Q z S' R hm k => ?_⟩
  unfold mLst at hm
  split at hm
  · cases hm
  · rename_i rs S1 e1
    split at hm
    · rename_i ds e2
      split at hm
      · rename_i hl
        cases hm
        refine sa P F0 qc F cell S σ H _ rs S' R e1 fun vs F1 H1 s1 R1 q1 => ?_
        have dv := VRs.stable q1 e2
        refine ⟨by rw [dv.length]; exact small5 hl, fun p hp => ?_⟩
        have ex : Ext F1 H1 (upd F1 p (.lst vs)) (upd H1 p (.lst vs)) := Ext.new R1.fh hp
        exact k _ _ _ (s1.trans ex.f) (R1.ext ex) (.lst upd_same (dv.mono ex.f))
      · cases hm
    · cases hm
end
end VL

set_option Elab.async false
set_option linter.all false
set_option maxRecDepth 100000
set_option maxHeartbeats 4000000
/-! VL4: built-in calls, methods of texts, subscripts, slices on data. -/
namespace VL
open PySem PySem.Spec PyProof.Rows L2

/-! ### calls by values -/
def CS (K : PySem.W.Frag) (r : List V → Hp → VK → Prop) (f : List PyData → Option PyData) : Prop :=
  ∀ (F H : Hp) (xs : List V) (ds : List PyData) (z : PyData) (Q : VK), Same F H → DXs K F H xs ds → f ds = some z → (∀ v F' H', Ext F H F' H' → DV K F' v z → Q v H') → r xs H Q
def mCall (f : List PyData → Option PyData) (ma : MA) : ME := fun S =>
  match ma S with
  | none => none
  | some (rs, S1) => match derefs S1 rs with
    | some ds => match f ds with
      | some z => some (.v z, S1)
      | none => none
    | none => none
section
variable {X : Cx} {e a b c : Expr} {es rest : List Expr} {ma mb mc : ME} {mt mu : MT} {mas : MA} {pos p : Pos} {x : Str} {f : List PyData → Option PyData} {id T : String} {r : List V → Hp → VK → Prop}
theorem snd_call {K : PySem.W.Frag} {ta : TA} (hs : CS K r f) (sa : SndA K ta mas) : SndE K (tCB r ta) (mCall f mas) := by
  intro P F0 qc F cell S σ H Q z S' R hm k
  unfold mCall at hm
  split at hm
  · cases hm
  · rename_i rs S1 e1
    split at hm
    · rename_i ds e2
      split at hm
      · rename_i z' e3
        cases hm
        refine sa P F0 qc F cell S σ H _ rs S' R e1 fun vs F1 H1 s1 R1 q1 => ?_
        refine hs F1 H1 vs ds z' Q R1.fh (R1.derefs q1 e2) e3 fun v F' H' ex dv => ?_
        exact k v F' H' (s1.trans ex.f) (R1.ext ex) dv
      · cases hm
    · cases hm
theorem je_callB (hc : CallR X (.builtin id) r) (hs : CS X.K r f) (hm : X.mg x = none) (hv : bootBuiltins x = some (.builtin id)) (ha : JA X (e :: es) mas) (hg : Gl X x := by rfl) (hn : x ≠ "__name__" := by decide) (hdb : (x == ("__debug__" : Str)) = false := by decide)
    (he : starEach (e :: es) X.env = (false, eval e X.env) :: starEach es X.env := by rfl) (hpl : (backTo pos (starEach es X.env)).any (·.1) = false := by rfl) : JE X (.Call (.Name x p) (e :: es) [] pos) (mCall f mas) := by
  obtain ⟨ta, pa, sa⟩ := ha.ex
  exact ⟨_, pe_callB hc hg hm hv pa hn hdb he hpl, snd_call hs sa⟩
theorem je_callT (hc : CallR X (.type T) r) (hs : CS X.K r f) (hm : X.mg x = none) (hv : bootBuiltins x = some (.type T)) (ha : JA X (e :: es) mas) (hg : Gl X x := by rfl) (hn : x ≠ "__name__" := by decide) (hdb : (x == ("__debug__" : Str)) = false := by decide)
    (he : starEach (e :: es) X.env = (false, eval e X.env) :: starEach es X.env := by rfl) (hpl : (backTo pos (starEach es X.env)).any (·.1) = false := by rfl) : JE X (.Call (.Name x p) (e :: es) [] pos) (mCall f mas) := by
  obtain ⟨ta, pa, sa⟩ := ha.ex
  exact ⟨_, pe_callTy hc hg hm hv pa hn hdb he hpl, snd_call hs sa⟩
end
/-! ### the built-ins on data -/
def lenF : List PyData → Option PyData
  | [.str a] => if a.length ≤ 100000 then some (.int a.length) else none
  | [.list xs] => some (.int xs.length)
  | [.tuple xs] => some (.int xs.length)
  | _ => none
def absF : List PyData → Option PyData
  | [.int i] => some (.int (if i < 0 then -i else i))
  | _ => none
def intF : List PyData → Option PyData
  | [.int i] => some (.int i)
  | [.bool k] => some (.int (if k = true then 1 else 0))
  | _ => none
def max2F : List PyData → Option PyData
  | [.int i, .int j] => some (.int (if j > i then j else i))
  | _ => none
def min2F : List PyData → Option PyData
  | [.int i, .int j] => some (.int (if j < i then j else i))
  | _ => none
def boolsOf : List PyData → Option (List Bool)
  | [] => some []
  | .bool b :: ds => (boolsOf ds).map (b :: ·)
  | _ :: _ => none
def intsOf : List PyData → Option (List Int)
  | [] => some []
  | .int b :: ds => (intsOf ds).map (b :: ·)
  | _ :: _ => none
def strsOf : List PyData → Option (List Str)
  | [] => some []
  | .str b :: ds => (strsOf ds).map (b :: ·)
  | _ :: _ => none
theorem boolsOf_some : ∀ {ds : List PyData} {bs : List Bool}, boolsOf ds = some bs → ds = bs.map .bool
  | [], _, h => by cases h; rfl
  | d :: ds, bs, h => by
    cases d <;> simp only [boolsOf] at h <;> try cases h
    obtain ⟨cs, h1, rfl⟩ := Option.map_eq_some_iff.mp h
    rw [boolsOf_some h1]
    rfl
theorem intsOf_some : ∀ {ds : List PyData} {bs : List Int}, intsOf ds = some bs → ds = bs.map .int
  | [], _, h => by cases h; rfl
  | d :: ds, bs, h => by
    cases d <;> simp only [intsOf] at h <;> try cases h
    obtain ⟨cs, h1, rfl⟩ := Option.map_eq_some_iff.mp h
    rw [intsOf_some h1]
    rfl
theorem strsOf_some : ∀ {ds : List PyData} {bs : List Str}, strsOf ds = some bs → ds = bs.map .str
  | [], _, h => by cases h; rfl
  | d :: ds, bs, h => by
    cases d <;> simp only [strsOf] at h <;> try cases h
    obtain ⟨cs, h1, rfl⟩ := Option.map_eq_some_iff.mp h
    rw [strsOf_some h1]
    rfl
theorem boolsOf_map : ∀ bs : List Bool, boolsOf (bs.map .bool) = some bs
  | [] => rfl
  | b :: bs => by rw [List.map_cons, boolsOf, boolsOf_map bs]; rfl
theorem intsOf_map : ∀ bs : List Int, intsOf (bs.map .int) = some bs
  | [] => rfl
  | b :: bs => by rw [List.map_cons, intsOf, intsOf_map bs]; rfl
theorem strsOf_map : ∀ bs : List Str, strsOf (bs.map .str) = some bs
  | [] => rfl
  | b :: bs => by rw [List.map_cons, strsOf, strsOf_map bs]; rfl
def allF : List PyData → Option PyData
  | [.list ds] => (boolsOf ds).map fun bs => .bool (bs.all id)
  | _ => none
def anyF : List PyData → Option PyData
  | [.list ds] => (boolsOf ds).map fun bs => .bool (bs.any id)
  | _ => none
def sumF : List PyData → Option PyData
  | [.list ds] => (intsOf ds).map fun bs => .int bs.sum
  | _ => none
def tupleF : List PyData → Option PyData
  | [.list ds] => some (.tuple ds)
  | [.tuple ds] => some (.tuple ds)
  | _ => none
def listF : List PyData → Option PyData
  | [.list ds] => some (.list ds)
  | [.tuple ds] => some (.list ds)
  | _ => none
def strF : List PyData → Option PyData
  | [.int i] => if i.natAbs.log2 < 1920 then some (.str (toString i)) else none
  | _ => none
section
variable {X : Cx} {K : PySem.W.Frag}
theorem dxs1 {F H : Hp} {xs : List V} {d : PyData} (h : DXs K F H xs [d]) : ∃ v, xs = [v] ∧ DX K F H v d := by
  obtain ⟨v, ws, rfl, h1, h2⟩ := h
  rw [show ws = [] from h2]
  exact ⟨v, rfl, h1⟩
theorem dxs2 {F H : Hp} {xs : List V} {d e : PyData} (h : DXs K F H xs [d, e]) : ∃ v w, xs = [v, w] ∧ DX K F H v d ∧ DX K F H w e := by
  obtain ⟨v, ws, rfl, h1, h2⟩ := h
  obtain ⟨w, rfl, h3⟩ := dxs1 h2
  exact ⟨v, w, rfl, h1, h3⟩
theorem cs_len : CS K (fun xs H Q => ∃ x n, xs = [x] ∧ LenV K x H n ∧ Q (.int n) H) lenF := by
  intro F H xs ds z Q fh hx hf k
  unfold lenF at hf
  split at hf
  · split at hf
    · rename_i hl
      cases hf
      obtain ⟨v, rfl, h1⟩ := dxs1 hx
      rw [h1.str]
      exact ⟨_, _, rfl, ⟨small5 hl, rfl⟩, k _ _ _ (Ext.refl fh) (.int _)⟩
    · cases hf
  · cases hf
    obtain ⟨v, rfl, h1⟩ := dxs1 hx
    obtain ⟨a, vs, rfl, h2, h3⟩ := h1.list fh
    refine ⟨_, _, rfl, .inl ⟨vs, SqL.of h2, h3.length.symm⟩, k _ _ _ (Ext.refl fh) (.int _)⟩
  · cases hf
    obtain ⟨v, rfl, h1⟩ := dxs1 hx
    obtain ⟨a, vs, rfl, h2, h3⟩ := h1.tuple
    refine ⟨_, _, rfl, .inr ⟨vs, sqT_mono fh h2, h3.length.symm⟩, k _ _ _ (Ext.refl fh) (.int _)⟩
  · cases hf
theorem cs_abs : CS K (fun xs H Q => ∃ i, xs = [.int i] ∧ Q (.int (if i < 0 then -i else i)) H) absF := by
  intro F H xs ds z Q fh hx hf k
  unfold absF at hf
  split at hf
  · cases hf
    obtain ⟨v, rfl, h1⟩ := dxs1 hx
    rw [h1.int]
    exact ⟨_, rfl, k _ _ _ (Ext.refl fh) (.int _)⟩
  · cases hf
theorem cs_int : CS K (fun xs H Q => (∃ i, xs = [.int i] ∧ Q (.int i) H) ∨ ∃ k, xs = [.bl k] ∧ Q (.int (if k then 1 else 0)) H) intF := by
  intro F H xs ds z Q fh hx hf k
  unfold intF at hf
  split at hf
  · cases hf
    obtain ⟨v, rfl, h1⟩ := dxs1 hx
    rw [h1.int]
    exact .inl ⟨_, rfl, k _ _ _ (Ext.refl fh) (.int _)⟩
  · cases hf
    obtain ⟨v, rfl, h1⟩ := dxs1 hx
    rw [h1.bool]
    exact .inr ⟨_, rfl, k _ _ _ (Ext.refl fh) (.int _)⟩
  · cases hf
theorem cs_max2 : CS K (fun xs H Q => ∃ i j, xs = [.int i, .int j] ∧ Q (.int (if j > i then j else i)) H) max2F := by
  intro F H xs ds z Q fh hx hf k
  unfold max2F at hf
  split at hf
  · cases hf
    obtain ⟨v, w, rfl, h1, h2⟩ := dxs2 hx
    rw [h1.int, h2.int]
    exact ⟨_, _, rfl, k _ _ _ (Ext.refl fh) (.int _)⟩
  · cases hf
theorem cs_min2 : CS K (fun xs H Q => ∃ i j, xs = [.int i, .int j] ∧ Q (.int (if j < i then j else i)) H) min2F := by
  intro F H xs ds z Q fh hx hf k
  unfold min2F at hf
  split at hf
  · cases hf
    obtain ⟨v, w, rfl, h1, h2⟩ := dxs2 hx
    rw [h1.int, h2.int]
    exact ⟨_, _, rfl, k _ _ _ (Ext.refl fh) (.int _)⟩
  · cases hf
theorem cs_all : CS K (rAll K) allF := by
  intro F H xs ds z Q fh hx hf k
  unfold allF at hf
  split at hf
  · obtain ⟨bs, hb, rfl⟩ := Option.map_eq_some_iff.mp hf
    obtain ⟨v, rfl, h1⟩ := dxs1 hx
    obtain ⟨a, vs, rfl, h2, h3⟩ := h1.list fh
    rw [boolsOf_some hb] at h3
    rw [DVs.bools bs h3] at h2
    exact ⟨a, bs, rfl, SqL.of h2, k _ _ _ (Ext.refl fh) (.bl _)⟩
  · cases hf
theorem cs_any : CS K (rAny K) anyF := by
  intro F H xs ds z Q fh hx hf k
  unfold anyF at hf
  split at hf
  · obtain ⟨bs, hb, rfl⟩ := Option.map_eq_some_iff.mp hf
    obtain ⟨v, rfl, h1⟩ := dxs1 hx
    obtain ⟨a, vs, rfl, h2, h3⟩ := h1.list fh
    rw [boolsOf_some hb] at h3
    rw [DVs.bools bs h3] at h2
    exact ⟨a, bs, rfl, SqL.of h2, k _ _ _ (Ext.refl fh) (.bl _)⟩
  · cases hf
theorem cs_sum : CS K (rSum K) sumF := by
  intro F H xs ds z Q fh hx hf k
  unfold sumF at hf
  split at hf
  · obtain ⟨bs, hb, rfl⟩ := Option.map_eq_some_iff.mp hf
    obtain ⟨v, rfl, h1⟩ := dxs1 hx
    obtain ⟨a, vs, rfl, h2, h3⟩ := h1.list fh
    rw [intsOf_some hb] at h3
    rw [DVs.ints bs h3] at h2
    exact ⟨a, bs, rfl, SqL.of h2, k _ _ _ (Ext.refl fh) (.int _)⟩
  · cases hf
theorem cs_tuple : CS K (fun xs H Q => ∃ p ys, xs = [.ref p] ∧ ((SqL K H p ys ∧ ∀ l, H l = none → Q (.ref l) (upd H l (.tup ys))) ∨ (SqT K H p ys ∧ Q (.ref p) H))) tupleF := by
  intro F H xs ds z Q fh hx hf k
  unfold tupleF at hf
  split at hf
  · cases hf
    obtain ⟨v, rfl, h1⟩ := dxs1 hx
    obtain ⟨a, vs, rfl, h2, h3⟩ := h1.list fh
    refine ⟨a, vs, rfl, .inl ⟨SqL.of h2, fun l hl => ?_⟩⟩
    have ex : Ext F H (upd F l (.tup vs)) (upd H l (.tup vs)) := Ext.new fh hl
    exact k _ _ _ ex (.tup (SqT.of upd_same) (h3.mono ex.f))
  · cases hf
    obtain ⟨v, rfl, h1⟩ := dxs1 hx
    obtain ⟨a, vs, rfl, h2, h3⟩ := h1.tuple
    exact ⟨a, vs, rfl, .inr ⟨sqT_mono fh h2, k _ _ _ (Ext.refl fh) (.tup h2 h3)⟩⟩
  · cases hf
theorem cs_list : CS K (fun xs H Q => ∃ p ys, xs = [.ref p] ∧ (SqL K H p ys ∨ SqT K H p ys) ∧ ∀ l, H l = none → Q (.ref l) (upd H l (.lst ys))) listF := by
  intro F H xs ds z Q fh hx hf k
  unfold listF at hf
  split at hf
  · cases hf
    obtain ⟨v, rfl, h1⟩ := dxs1 hx
    obtain ⟨a, vs, rfl, h2, h3⟩ := h1.list fh
    refine ⟨a, vs, rfl, .inl (SqL.of h2), fun l hl => ?_⟩
    have ex : Ext F H (upd F l (.lst vs)) (upd H l (.lst vs)) := Ext.new fh hl
    exact k _ _ _ ex (.lst upd_same (h3.mono ex.f))
  · cases hf
    obtain ⟨v, rfl, h1⟩ := dxs1 hx
    obtain ⟨a, vs, rfl, h2, h3⟩ := h1.tuple
    refine ⟨a, vs, rfl, .inr (sqT_mono fh h2), fun l hl => ?_⟩
    have ex : Ext F H (upd F l (.lst vs)) (upd H l (.lst vs)) := Ext.new fh hl
    exact k _ _ _ ex (.lst upd_same (h3.mono ex.f))
  · cases hf
theorem cs_str : CS K (fun xs H Q => ∃ i, xs = [.int i] ∧ i.natAbs.log2 < 1920 ∧ Q (.str (toString i)) H) strF := by
  intro F H xs ds z Q fh hx hf k
  unfold strF at hf
  split at hf
  · split at hf
    · rename_i hl
      cases hf
      obtain ⟨v, rfl, h1⟩ := dxs1 hx
      rw [h1.int]
      exact ⟨_, rfl, hl, k _ _ _ (Ext.refl fh) (.str _)⟩
    · cases hf
  · cases hf
end
section
variable {X : Cx} {e : Expr} {es : List Expr} {mas : MA} {pos p : Pos}
theorem je_len (hm : X.mg "len" = none) (ha : JA X [e] mas) (hg : Gl X "len" := by rfl) (he : starEach [e] X.env = (false, eval e X.env) :: starEach [] X.env := by rfl) (hpl : (backTo pos (starEach [] X.env)).any (·.1) = false := by rfl) : JE X (.Call (.Name "len" p) [e] [] pos) (mCall lenF mas) := je_callB call_len cs_len hm PySem.boot_len ha hg (by decide) (by decide) he hpl
theorem je_abs (hm : X.mg "abs" = none) (ha : JA X [e] mas) (hg : Gl X "abs" := by rfl) (he : starEach [e] X.env = (false, eval e X.env) :: starEach [] X.env := by rfl) (hpl : (backTo pos (starEach [] X.env)).any (·.1) = false := by rfl) : JE X (.Call (.Name "abs" p) [e] [] pos) (mCall absF mas) := je_callB call_abs cs_abs hm (by decide +kernel) ha hg (by decide) (by decide) he hpl
theorem je_toint (hm : X.mg "int" = none) (ha : JA X [e] mas) (hg : Gl X "int" := by rfl) (he : starEach [e] X.env = (false, eval e X.env) :: starEach [] X.env := by rfl) (hpl : (backTo pos (starEach [] X.env)).any (·.1) = false := by rfl) : JE X (.Call (.Name "int" p) [e] [] pos) (mCall intF mas) := je_callT call_int1 cs_int hm (by decide +kernel) ha hg (by decide) (by decide) he hpl
theorem je_max2 {a b : Expr} (hc : X.calm = true) (hm : X.mg "max" = none) (ha : JA X [a, b] mas) (hg : Gl X "max" := by rfl) (he : starEach [a, b] X.env = (false, eval a X.env) :: starEach [b] X.env := by rfl) (hpl : (backTo pos (starEach [b] X.env)).any (·.1) = false := by rfl) : JE X (.Call (.Name "max" p) [a, b] [] pos) (mCall max2F mas) := je_callB (call_max2 hc) cs_max2 hm (by decide +kernel) ha hg (by decide) (by decide) he hpl
theorem je_min2 {a b : Expr} (hc : X.calm = true) (hm : X.mg "min" = none) (ha : JA X [a, b] mas) (hg : Gl X "min" := by rfl) (he : starEach [a, b] X.env = (false, eval a X.env) :: starEach [b] X.env := by rfl) (hpl : (backTo pos (starEach [b] X.env)).any (·.1) = false := by rfl) : JE X (.Call (.Name "min" p) [a, b] [] pos) (mCall min2F mas) := je_callB (call_min2 hc) cs_min2 hm (by decide +kernel) ha hg (by decide) (by decide) he hpl
theorem je_all (hc : X.calm = true) (hm : X.mg "all" = none) (ha : JA X [e] mas) (hg : Gl X "all" := by rfl) (he : starEach [e] X.env = (false, eval e X.env) :: starEach [] X.env := by rfl) (hpl : (backTo pos (starEach [] X.env)).any (·.1) = false := by rfl) : JE X (.Call (.Name "all" p) [e] [] pos) (mCall allF mas) := je_callB (cr_all hc) cs_all hm (by decide +kernel) ha hg (by decide) (by decide) he hpl
theorem je_any (hc : X.calm = true) (hm : X.mg "any" = none) (ha : JA X [e] mas) (hg : Gl X "any" := by rfl) (he : starEach [e] X.env = (false, eval e X.env) :: starEach [] X.env := by rfl) (hpl : (backTo pos (starEach [] X.env)).any (·.1) = false := by rfl) : JE X (.Call (.Name "any" p) [e] [] pos) (mCall anyF mas) := je_callB (cr_any hc) cs_any hm (by decide +kernel) ha hg (by decide) (by decide) he hpl
theorem je_sum (hc : X.calm = true) (hm : X.mg "sum" = none) (ha : JA X [e] mas) (hg : Gl X "sum" := by rfl) (he : starEach [e] X.env = (false, eval e X.env) :: starEach [] X.env := by rfl) (hpl : (backTo pos (starEach [] X.env)).any (·.1) = false := by rfl) : JE X (.Call (.Name "sum" p) [e] [] pos) (mCall sumF mas) := je_callB (cr_sum hc) cs_sum hm (by decide +kernel) ha hg (by decide) (by decide) he hpl
theorem je_totuple (hm : X.mg "tuple" = none) (ha : JA X [e] mas) (hg : Gl X "tuple" := by rfl) (he : starEach [e] X.env = (false, eval e X.env) :: starEach [] X.env := by rfl) (hpl : (backTo pos (starEach [] X.env)).any (·.1) = false := by rfl) : JE X (.Call (.Name "tuple" p) [e] [] pos) (mCall tupleF mas) := je_callT call_tuple_of cs_tuple hm (by decide +kernel) ha hg (by decide) (by decide) he hpl
theorem je_tolist (hm : X.mg "list" = none) (ha : JA X [e] mas) (hg : Gl X "list" := by rfl) (he : starEach [e] X.env = (false, eval e X.env) :: starEach [] X.env := by rfl) (hpl : (backTo pos (starEach [] X.env)).any (·.1) = false := by rfl) : JE X (.Call (.Name "list" p) [e] [] pos) (mCall listF mas) := je_callT call_list_of cs_list hm (by decide +kernel) ha hg (by decide) (by decide) he hpl
theorem je_tostr (hm : X.mg "str" = none) (ha : JA X [e] mas) (hg : Gl X "str" := by rfl) (he : starEach [e] X.env = (false, eval e X.env) :: starEach [] X.env := by rfl) (hpl : (backTo pos (starEach [] X.env)).any (·.1) = false := by rfl) : JE X (.Call (.Name "str" p) [e] [] pos) (mCall strF mas) := je_callT call_str_int cs_str hm (by decide +kernel) ha hg (by decide) (by decide) he hpl
end

/-! ### the script: len, an item -/
def mLenS (ma : ME) : ME := fun S => match ma S with
  | some (.s (.ns ns), S1) => some (.v (.int ns.length), S1)
  | _ => none
def mIxS (ma mb : ME) : ME := fun S => match ma S with
  | some (.s (.ns ns), S1) => match mb S1 with
    | some (.v (.int i), S2) => match atI ns i with
      | some n => some (.v (.int n), S2)
      | none => none
    | _ => none
  | _ => none
section
variable {X : Cx} {e a b : Expr} {ma mb : ME} {pos p : Pos}
theorem je_lenS (hm : X.mg "len" = none) (ha : JE X e ma) (hg : Gl X "len" := by rfl) (he : starEach [e] X.env = (false, eval e X.env) :: starEach [] X.env := by rfl) (hpl : (backTo pos (starEach [] X.env)).any (·.1) = false := by rfl) : JE X (.Call (.Name "len" p) [e] [] pos) (mLenS ma) := by
  obtain ⟨ta, pa, sa⟩ := ha.ex
  refine ⟨_, pe_callB call_len hg hm PySem.boot_len (pa_cons pa pa_nil he) (by decide) (by decide) he hpl, fun P F0 qc F cell S σ H Q z S' R hz k => ?_⟩
  unfold mLenS at hz
  split at hz
  · rename_i ns S1 e1
    cases hz
    refine sa P F0 qc F cell S σ H _ _ S' R e1 fun v1 F1 H1 s1 R1 q1 => ?_
    obtain ⟨a, rfl, hl⟩ := q1
    exact ⟨_, _, rfl, .inl ⟨_, sqL_mono R1.fh hl, by rw [List.length_map]⟩, k _ F1 H1 s1 R1 (.int _)⟩
  · cases hz
theorem atI_map {α β : Type} {f : α → β} {xs : List α} {i : Int} {v : α} (h : atI xs i = some v) : atI (xs.map f) i = some (f v) := by
  unfold atI at h ⊢
  rw [List.length_map]
  cases q : ixN xs.length i with
  | none => rw [q] at h; cases h
  | some j =>
    rw [q] at h
    show (xs.map f)[j]? = some (f v)
    rw [List.getElem?_map, show xs[j]? = some v from h]
    rfl
theorem je_ixS (ha : JE X a ma) (hb : JE X b mb) (hs : PlainIx b := by exact fun _ _ => rfl) : JE X (.Subscript a b pos) (mIxS ma mb) := by
  obtain ⟨ta, pa, sa⟩ := ha.ex
  obtain ⟨tb, pb, sb⟩ := hb.ex
  refine ⟨_, pe_ix ix_list pa pb hs, fun P F0 qc F cell S σ H Q z S' R hz k => ?_⟩
  unfold mIxS at hz
  split at hz
  · rename_i ns S1 e1
    split at hz
    · rename_i i S2 e2
      split at hz
      · rename_i n hn
        cases hz
        refine sa P F0 qc F cell S σ H _ _ S1 R e1 fun v1 F1 H1 s1 R1 q1 => ?_
        refine sb P F0 qc F1 cell S1 σ H1 _ _ S' R1 e2 fun v2 F2 H2 s2 R2 q2 => ?_
        obtain ⟨c, rfl, hl⟩ := q1
        cases (show DV X.K F2 v2 (.int i) from q2)
        exact ⟨c, _, i, _, rfl, rfl, sqL_mono (s2.trans R2.fh) hl, atI_map hn, k _ F2 H2 (s1.trans s2) R2 (.int _)⟩
      · cases hz
    · cases hz
  · cases hz
end

/-! ### subscripts, slices -/
def ixD : PyData → PyData → Option PyData
  | .list xs, .int i => atI xs i
  | .tuple xs, .int i => atI xs i
  | .str z, .int i => if z.length ≤ 100000 then (atI z.cps.toList i).map fun c => .str ⟨#[c]⟩ else none
  | _, _ => none
def cutL {α : Type} (xs : List α) (lo hi : Option Int) : List α := (xs.drop (HT.sIx xs.length 0 lo)).take (HT.sIx xs.length xs.length hi - HT.sIx xs.length 0 lo)
def slD : PyData → Option Int → Option Int → Option PyData
  | .list xs, lo, hi => some (.list (cutL xs lo hi))
  | .tuple xs, lo, hi => some (.tuple (cutL xs lo hi))
  | .str z, lo, hi => if z.length ≤ 100000 then some (.str (cutS z lo hi)) else none
  | _, _, _ => none
abbrev MO := Sl → Option (Option Int × Sl)
def oNone : MO := fun S => some (none, S)
def oSome (ma : ME) : MO := fun S => match ma S with
  | some (.v (.int i), S1) => some (some i, S1)
  | _ => none
def mSl (ma : ME) (ml mh : MO) : ME := fun S => match ma S with
  | none => none
  | some (r, S1) => match ml S1 with
    | none => none
    | some (lo, S2) => match mh S2 with
      | none => none
      | some (hi, S3) => match deref S3 r with
        | none => none
        | some d => match slD d lo hi with
          | some z => some (.v z, S3)
          | none => none
def SndO (K : PySem.W.Frag) (t : TO) (m : MO) : Prop :=
  ∀ (P F0 : Hp) (qc : Nat → Addr) (F : Hp) (cell : Nat → Addr) (S : Sl) (σ : L2.St) (H : Hp) (Q : Option Int → Hp → Prop) (r : Option Int) (S' : Sl), RC K P F0 qc F cell S σ H → m S = some (r, S') →
    (∀ F' H', Same F F' → RC K P F0 qc F' cell S' σ H' → Q r H') → t σ H Q
structure JO (X : Cx) (e : Option Expr) (m : MO) : Prop where
  ex : ∃ t, PO X e t ∧ SndO X.K t m
section
variable {X : Cx} {e a b : Expr} {ma mb : ME} {ml mh : MO} {pos p p2 : Pos} {lo hi : Option Expr} {K : PySem.W.Frag}
theorem jo_none : JO X none oNone := ⟨_, po_none, fun P F0 qc F cell S σ H Q r S' R hm k => by
  cases hm
  exact k F H (Same.refl _) R⟩
theorem jo_some (h : JE X e ma) : JO X (some e) (oSome ma) := by
  obtain ⟨ta, pa, sa⟩ := h.ex
  refine ⟨_, po_some pa, fun P F0 qc F cell S σ H Q r S' R hm k => ?_⟩
  unfold oSome at hm
  split at hm
  · rename_i i S1 e1
    cases hm
    refine sa P F0 qc F cell S σ H _ _ S' R e1 fun v1 F1 H1 s1 R1 q1 => ?_
    cases (show DV X.K F1 v1 (.int i) from q1)
    exact ⟨i, rfl, k F1 H1 s1 R1⟩
  · cases hm
theorem dvs_atI {F : Hp} {vs : List V} {ds : List PyData} {i : Int} {d : PyData} (h : DVs K F vs ds) (e : atI ds i = some d) : ∃ v, atI vs i = some v ∧ DV K F v d := by
  unfold atI at e ⊢
  rw [h.length]
  cases q : ixN ds.length i with
  | none => rw [q] at e; cases e
  | some j =>
    rw [q] at e
    exact h.get e
theorem ops_ix : OpS K (rIx K) ixD := by
  intro F H x y d e z Q fh hx hy hf k
  unfold ixD at hf
  split at hf
  · obtain ⟨a, vs, rfl, h1, h2⟩ := hx.list fh
    obtain ⟨v, h3, h4⟩ := dvs_atI h2 hf
    exact .inl ⟨a, vs, _, v, rfl, hy.int, SqL.of h1, h3, k _ _ _ (Ext.refl fh) h4⟩
  · obtain ⟨a, vs, rfl, h1, h2⟩ := hx.tuple
    obtain ⟨v, h3, h4⟩ := dvs_atI h2 hf
    exact .inr (.inl ⟨a, vs, _, v, rfl, hy.int, sqT_mono fh h1, h3, k _ _ _ (Ext.refl fh) h4⟩)
  · split at hf
    · rename_i hl
      obtain ⟨c, h3, rfl⟩ := Option.map_eq_some_iff.mp hf
      exact .inr (.inr ⟨_, _, c, hx.str, hy.int, small5 hl, h3, k _ _ _ (Ext.refl fh) (.str _)⟩)
    · cases hf
  · cases hf
theorem je_ix (ha : JE X a ma) (hb : JE X b mb) (hs : PlainIx b := by exact fun _ _ => rfl) : JE X (.Subscript a b pos) (mBin ixD ma mb) := by
  obtain ⟨ta, pa, sa⟩ := ha.ex
  obtain ⟨tb, pb, sb⟩ := hb.ex
  exact ⟨_, pe_ix ix_seq pa pb hs, snd_bin ops_ix sa sb⟩
theorem DVs.cut {F : Hp} {vs : List V} {ds : List PyData} (h : DVs K F vs ds) (lo hi : Option Int) : DVs K F (cutV vs lo hi) (cutL ds lo hi) := by
  unfold cutV cutL
  rw [h.length]
  exact (h.drop _).take _
theorem sIx_le' (n d : Nat) (hd : d ≤ n) (o : Option Int) : HT.sIx n d o ≤ n := HT.sIx_le _ _ hd _
theorem cut_whole {α : Type} {xs : List α} {lo hi : Option Int} (h1 : HT.sIx xs.length 0 lo = 0) (h2 : HT.sIx xs.length xs.length hi = xs.length) : cutL xs lo hi = xs := by
  unfold cutL
  rw [h1, h2, List.drop_zero, Nat.sub_zero, List.take_length]
theorem sl_any : SlR X (fun x lo hi H Q => rSlL X.K x lo hi H Q ∨ (rSlA X.K x lo hi H Q ∨ rSlS x lo hi H Q)) := SlR.or sl_list (SlR.or sl_tupA sl_str)
theorem je_slice (ha : JE X e ma) (hl : JO X lo ml) (hh : JO X hi mh) : JE X (.Subscript e (.Slice lo hi none p2) pos) (mSl ma ml mh) := by
  obtain ⟨ta, pa, sa⟩ := ha.ex
  obtain ⟨tl, pl, sl⟩ := hl.ex
  obtain ⟨th, ph, sh⟩ := hh.ex
  refine ⟨_, pe_slice sl_any pa pl ph, fun P F0 qc F cell S σ H Q z S' R hm k => ?_⟩
  unfold mSl at hm
  split at hm
  · cases hm
  · rename_i r S1 e1
    split at hm
    · cases hm
    · rename_i lo S2 e2
      split at hm
      · cases hm
      · rename_i hi S3 e3
        split at hm
        · cases hm
        · rename_i d hd
          split at hm
          · rename_i z' hz
            cases hm
            refine sa P F0 qc F cell S σ H _ _ S1 R e1 fun v1 F1 H1 s1 R1 q1 => ?_
            refine sl P F0 qc F1 cell S1 σ H1 _ _ S2 R1 e2 fun F2 H2 s2 R2 => ?_
            refine sh P F0 qc F2 cell S2 σ H2 _ _ S' R2 e3 fun F3 H3 s3 R3 => ?_
            have dx := R3.deref (q1.mono (s2.trans s3)) hd
            have k' : ∀ (v : V) (F' H' : Hp), Ext F3 H3 F' H' → DV X.K F' v z' → Q v H' := fun v F' H' ex dv => k v F' H' (((s1.trans s2).trans s3).trans ex.f) (R3.ext ex) dv
            unfold slD at hz
            split at hz
            · cases hz
              obtain ⟨a, vs, rfl, h1, h2⟩ := dx.list R3.fh
              refine .inl ⟨a, vs, rfl, SqL.of h1, fun p hp => ?_⟩
              have ex : Ext F3 H3 (upd F3 p (.lst (cutV vs lo hi))) (upd H3 p (.lst (cutV vs lo hi))) := Ext.new R3.fh hp
              exact k' _ _ _ ex (.lst upd_same ((h2.cut lo hi).mono ex.f))
            · cases hz
              obtain ⟨a, vs, rfl, h1, h2⟩ := dx.tuple
              refine .inr (.inl ⟨a, vs, rfl, sqT_mono R3.fh h1, fun hw => ?_, fun _ p hp => ?_⟩)
              · have e := cut_whole (xs := vs) hw.1 hw.2
                rw [h2.length] at hw
                rw [cut_whole hw.1 hw.2] at k'
                exact k' _ _ _ (Ext.refl R3.fh) (.tup h1 h2)
              · have ex : Ext F3 H3 (upd F3 p (.tup (cutV vs lo hi))) (upd H3 p (.tup (cutV vs lo hi))) := Ext.new R3.fh hp
                exact k' _ _ _ ex (.tup (SqT.of upd_same) ((h2.cut lo hi).mono ex.f))
            · split at hz
              · rename_i hl
                cases hz
                exact .inr (.inr ⟨_, dx.str, small5 hl, k' _ _ _ (Ext.refl R3.fh) (.str _)⟩)
              · cases hz
            · cases hz
          · cases hm
end
end VL

set_option Elab.async false
set_option linter.all false
set_option maxRecDepth 100000
set_option maxHeartbeats 4000000
/-! VL5: methods of texts, isinstance, repr, a text backwards, written dicts. -/
namespace VL
open PySem PySem.Spec PyProof.Rows L2

/-! ### methods of texts -/
def MS1 (K : PySem.W.Frag) (r : V → List V → Hp → VK → Prop) (f : Str → PyData → Option PyData) : Prop :=
  ∀ (F H : Hp) (a : Str) (y : V) (d z : PyData) (Q : VK), Same F H → DX K F H y d → f a d = some z → (∀ v F' H', Ext F H F' H' → DV K F' v z → Q v H') → r (.str a) [y] H Q
def MS0 (K : PySem.W.Frag) (r : V → List V → Hp → VK → Prop) (f : Str → Option PyData) : Prop :=
  ∀ (F H : Hp) (a : Str) (z : PyData) (Q : VK), Same F H → f a = some z → (∀ v F' H', Ext F H F' H' → DV K F' v z → Q v H') → r (.str a) [] H Q
def onStr (f : Str → PyData → Option PyData) : PyData → PyData → Option PyData
  | .str a, d => f a d
  | _, _ => none
def onStr0 (f : Str → Option PyData) : PyData → Option PyData
  | .str a => f a
  | _ => none
section
variable {X : Cx} {o e : Expr} {mo me : ME} {id : String} {name : Str} {apos pos : Pos} {r : V → List V → Hp → VK → Prop} {f : Str → PyData → Option PyData} {f0 : Str → Option PyData}
theorem je_m1 (slot : Slot "str" name id) (ty : typeOf (.builtin id) = pure (.type "method_descriptor")) (rule : MtR X id r) (hs : MS1 X.K r f) (ho : JE X o mo) (he : JE X e me)
    (hst : starEach [e] X.env = [(false, eval e X.env)] := by rfl) (hbase : attributeBase o name X.env (eval o X.env) = eval o X.env := by rfl) (hline : (apos.endLine == pos.line) = true := by rfl) :
    JE X (.Call (.Attribute o name apos) [e] [] pos) (mBin (onStr f) mo me) := by
  obtain ⟨to, po, so⟩ := ho.ex
  obtain ⟨te, pe, se⟩ := he.ex
  refine ⟨_, pe_m1 slot ty rule po pe hst hbase hline, fun P F0 qc F cell S σ H Q z S' R hm k => ?_⟩
  unfold mBin at hm
  split at hm
  · cases hm
  · rename_i r1 S1 e1
    split at hm
    · cases hm
    · rename_i r2 S2 e2
      split at hm
      · rename_i d e hd he
        split at hm
        · rename_i z' hz
          cases hm
          cases d with
          | str a =>
            have hz : f a e = some z' := hz
            refine so P F0 qc F cell S σ H _ r1 S1 R e1 fun v1 F1 H1 s1 R1 q1 => ?_
            have q1' : r1 = .v (.str a) := by
              cases r1 with
              | v x => cases hd; rfl
              | p i =>
                obtain ⟨xs, _, hx⟩ := Option.map_eq_some_iff.mp (show (heldAt S' i).map PyData.list = some (.str a) from hd)
                cases hx
              | s ns => cases hd
            subst q1'
            cases (show DV X.K F1 v1 (.str a) from q1)
            refine ⟨⟨a, rfl⟩, se P F0 qc F1 cell S1 σ H1 _ r2 S' R1 e2 fun v2 F2 H2 s2 R2 q2 => ?_⟩
            refine hs F2 H2 a v2 _ z' Q R2.fh (R2.deref q2 he) hz fun v F' H' ex dv => ?_
            exact k v F' H' ((s1.trans s2).trans ex.f) (R2.ext ex) dv
          | _ => cases hz
        · cases hm
      · cases hm
theorem je_m0 (slot : Slot "str" name id) (ty : typeOf (.builtin id) = pure (.type "method_descriptor")) (rule : MtR X id r) (hs : MS0 X.K r f0) (ho : JE X o mo)
    (hbase : attributeBase o name X.env (eval o X.env) = eval o X.env := by rfl) (hline : (apos.endLine == pos.line) = true := by rfl) :
    JE X (.Call (.Attribute o name apos) [] [] pos) (mUn (onStr0 f0) mo) := by
  obtain ⟨to, po, so⟩ := ho.ex
  refine ⟨_, pe_m0 slot ty rule po hbase hline, fun P F0 qc F cell S σ H Q z S' R hm k => ?_⟩
  unfold mUn at hm
  split at hm
  · cases hm
  · rename_i r1 S1 e1
    split at hm
    · rename_i d hd
      split at hm
      · rename_i z' hz
        cases hm
        unfold onStr0 at hz
        split at hz
        · rename_i a
          refine so P F0 qc F cell S σ H _ r1 S' R e1 fun v1 F1 H1 s1 R1 q1 => ?_
          have q1' : r1 = .v (.str a) := by
            cases r1 with
            | v x => cases hd; rfl
            | p i =>
              obtain ⟨xs, _, hx⟩ := Option.map_eq_some_iff.mp (show (heldAt S' i).map PyData.list = some (.str a) from hd)
              cases hx
            | s ns => cases hd
          subst q1'
          cases (show DV X.K F1 v1 (.str a) from q1)
          refine ⟨⟨a, rfl⟩, ?_⟩
          refine hs F1 H1 a z' Q R1.fh hz fun v F' H' ex dv => ?_
          exact k v F' H' (s1.trans ex.f) (R1.ext ex) dv
        · cases hz
      · cases hm
    · cases hm
end
def joinF (a : Str) : PyData → Option PyData
  | .list ds => match strsOf ds with
    | some ys => if (ys.map (·.length)).sum + ys.length * a.length ≤ 100000 then some (.str (Txt.join a ys)) else none
    | none => none
  | .tuple ds => match strsOf ds with
    | some ys => if (ys.map (·.length)).sum + ys.length * a.length ≤ 100000 then some (.str (Txt.join a ys)) else none
    | none => none
  | _ => none
def splitF (a : Str) : PyData → Option PyData
  | .str b => if (b.length == 0) = false ∧ a.length ≤ 100000 then some (.list ((Txt.split a b).map .str)) else none
  | _ => none
def stripF (a : Str) : PyData → Option PyData
  | .str b => if a.length ≤ 100000 then some (.str (Txt.stripChars a b)) else none
  | _ => none
def rstripF (a : Str) : PyData → Option PyData
  | .str b => if a.length ≤ 100000 then some (.str (Txt.rstripChars a b)) else none
  | _ => none
def lstripF (a : Str) : PyData → Option PyData
  | .str b => if a.length ≤ 100000 then some (.str (Txt.lstripChars a b)) else none
  | _ => none
section
variable {K : PySem.W.Frag}
theorem ms_join : MS1 K (fun x xs H Q => ∃ a p, ∃ ys : List Str, x = .str a ∧ xs = [.ref p] ∧ (SqL K H p (ys.map V.str) ∨ SqT K H p (ys.map V.str)) ∧
    (ys.map (·.length)).sum + ys.length * a.length ≤ 16777216 ∧ Q (.str (Txt.join a ys)) H) joinF := by
  intro F H a y d z Q fh hy hf k
  unfold joinF at hf
  split at hf
  · split at hf
    · rename_i ys hys
      split at hf
      · rename_i hl
        cases hf
        obtain ⟨c, vs, rfl, h2, h3⟩ := hy.list fh
        rw [strsOf_some hys] at h3
        rw [DVs.strs ys h3] at h2
        exact ⟨a, c, ys, rfl, rfl, .inl (SqL.of h2), Nat.le_trans hl (by decide), k _ _ _ (Ext.refl fh) (.str _)⟩
      · cases hf
    · cases hf
  · split at hf
    · rename_i ys hys
      split at hf
      · rename_i hl
        cases hf
        obtain ⟨c, vs, rfl, h2, h3⟩ := hy.tuple
        rw [strsOf_some hys] at h3
        rw [DVs.strs ys h3] at h2
        exact ⟨a, c, ys, rfl, rfl, .inr (sqT_mono fh h2), Nat.le_trans hl (by decide), k _ _ _ (Ext.refl fh) (.str _)⟩
      · cases hf
    · cases hf
  · cases hf
theorem ms_split : MS1 K (fun x xs H Q => ∃ a b, x = .str a ∧ xs = [.str b] ∧ (b.length == 0) = false ∧ a.length + 2 ≤ sizeLine ∧ rNewStrs (Txt.split a b) H Q) splitF := by
  intro F H a y d z Q fh hy hf k
  unfold splitF at hf
  split at hf
  · split at hf
    · rename_i b hl
      cases hf
      rw [hy.str]
      have hz : a.length + 2 ≤ sizeLine := Nat.le_trans (Nat.add_le_add_right hl.2 2) (by decide)
      refine ⟨a, b, rfl, rfl, hl.1, hz, fun p hp => ?_⟩
      have ex : Ext F H (upd F p (.lst ((Txt.split a b).map V.str))) (upd H p (.lst ((Txt.split a b).map V.str))) := Ext.new fh hp
      exact k _ _ _ ex (.lst upd_same (DVs.ofStrs _))
    · cases hf
  · cases hf
theorem ms_strip : MS1 K (fun x xs H Q => ∃ a b, x = .str a ∧ xs = [.str b] ∧ a.length ≤ sizeLine ∧ Q (.str (Txt.stripChars a b)) H) stripF := by
  intro F H a y d z Q fh hy hf k
  unfold stripF at hf
  split at hf
  · split at hf
    · rename_i b hl
      cases hf
      rw [hy.str]
      exact ⟨a, b, rfl, rfl, small5 hl, k _ _ _ (Ext.refl fh) (.str _)⟩
    · cases hf
  · cases hf
theorem ms_rstrip : MS1 K (fun x xs H Q => ∃ a b, x = .str a ∧ xs = [.str b] ∧ a.length ≤ sizeLine ∧ Q (.str (Txt.rstripChars a b)) H) rstripF := by
  intro F H a y d z Q fh hy hf k
  unfold rstripF at hf
  split at hf
  · split at hf
    · rename_i b hl
      cases hf
      rw [hy.str]
      exact ⟨a, b, rfl, rfl, small5 hl, k _ _ _ (Ext.refl fh) (.str _)⟩
    · cases hf
  · cases hf
theorem ms_lstrip : MS1 K (fun x xs H Q => ∃ a b, x = .str a ∧ xs = [.str b] ∧ a.length ≤ sizeLine ∧ Q (.str (Txt.lstripChars a b)) H) lstripF := by
  intro F H a y d z Q fh hy hf k
  unfold lstripF at hf
  split at hf
  · split at hf
    · rename_i b hl
      cases hf
      rw [hy.str]
      exact ⟨a, b, rfl, rfl, small5 hl, k _ _ _ (Ext.refl fh) (.str _)⟩
    · cases hf
  · cases hf
end
section
variable {X : Cx} {o e : Expr} {mo me : ME} {apos pos : Pos}
theorem je_join (ho : JE X o mo) (he : JE X e me) (hst : starEach [e] X.env = [(false, eval e X.env)] := by rfl) (hbase : attributeBase o "join" X.env (eval o X.env) = eval o X.env := by rfl) (hline : (apos.endLine == pos.line) = true := by rfl) :
    JE X (.Call (.Attribute o "join" apos) [e] [] pos) (mBin (onStr joinF) mo me) := je_m1 F.slot_str_join F.type_str_join mt_join ms_join ho he hst hbase hline
theorem je_split (ho : JE X o mo) (he : JE X e me) (hst : starEach [e] X.env = [(false, eval e X.env)] := by rfl) (hbase : attributeBase o "split" X.env (eval o X.env) = eval o X.env := by rfl) (hline : (apos.endLine == pos.line) = true := by rfl) :
    JE X (.Call (.Attribute o "split" apos) [e] [] pos) (mBin (onStr splitF) mo me) := je_m1 F.slot_str_split F.type_str_split mt_split ms_split ho he hst hbase hline
theorem je_strip (ho : JE X o mo) (he : JE X e me) (hst : starEach [e] X.env = [(false, eval e X.env)] := by rfl) (hbase : attributeBase o "strip" X.env (eval o X.env) = eval o X.env := by rfl) (hline : (apos.endLine == pos.line) = true := by rfl) :
    JE X (.Call (.Attribute o "strip" apos) [e] [] pos) (mBin (onStr stripF) mo me) := je_m1 F.slot_str_strip F.type_str_strip mt_stripChars ms_strip ho he hst hbase hline
theorem je_rstrip (ho : JE X o mo) (he : JE X e me) (hst : starEach [e] X.env = [(false, eval e X.env)] := by rfl) (hbase : attributeBase o "rstrip" X.env (eval o X.env) = eval o X.env := by rfl) (hline : (apos.endLine == pos.line) = true := by rfl) :
    JE X (.Call (.Attribute o "rstrip" apos) [e] [] pos) (mBin (onStr rstripF) mo me) := je_m1 F.slot_str_rstrip F.type_str_rstrip mt_rstripChars ms_rstrip ho he hst hbase hline
theorem je_lstrip (ho : JE X o mo) (he : JE X e me) (hst : starEach [e] X.env = [(false, eval e X.env)] := by rfl) (hbase : attributeBase o "lstrip" X.env (eval o X.env) = eval o X.env := by rfl) (hline : (apos.endLine == pos.line) = true := by rfl) :
    JE X (.Call (.Attribute o "lstrip" apos) [e] [] pos) (mBin (onStr lstripF) mo me) := je_m1 F.slot_str_lstrip F.type_str_lstrip mt_lstripChars ms_lstrip ho he hst hbase hline
end

/-! ### isinstance -/
def tyName : PyData → String
  | .none => "NoneType"
  | .bool _ => "bool"
  | .int _ => "int"
  | .str _ => "str"
  | .list _ => "list"
  | .tuple _ => "tuple"
  | .dict _ => "dict"
def isiF (T : String) (d : PyData) : Option PyData := (kitB (tyName d) T).map .bool
section
variable {X : Cx} {e : Expr} {me : ME} {pos p p2 : Pos} {tn : Str} {T : String}
theorem dx_ty {K : PySem.W.Frag} {F H : Hp} {v : V} {d : PyData} (fh : Same F H) (h : DX K F H v d) : TyX K H v (.type (tyName d)) := by
  rcases h with h | ⟨a, vs, ds, rfl, rfl, h3, h4⟩
  · cases h with
    | non => exact .base .non
    | bl b => exact .base (.bl b)
    | int i => exact .base (.int i)
    | str x => exact .base (.str x)
    | lst h _ => exact .base (.lst (fh _ _ h))
    | tup h _ =>
      rcases h with (h | ⟨o, h⟩) | ⟨o, its, n, h1, h2, _⟩
      · exact .base (.tup (fh _ _ h))
      · exact .fTuple (fh _ _ h)
      · exact .kTuple h1 h2
    | dct h _ _ => exact .base (.dK (fh _ _ h))
  · exact .base (.lst h3)
theorem je_isi (T : String) (hm : X.mg "isinstance" = none) (hT : X.mg tn = none) (hv : bootBuiltins tn = some (.type T)) (he : JE X e me) (hg : Gl X "isinstance" := by rfl) (hgT : Gl X tn := by rfl) (hn : tn ≠ "__name__" := by decide) (hdb : (tn == ("__debug__" : Str)) = false := by decide)
    (hst : starEach [e, .Name tn p2] X.env = (false, eval e X.env) :: starEach [.Name tn p2] X.env := by rfl) (hpl : (backTo pos (starEach [.Name tn p2] X.env)).any (·.1) = false := by rfl) :
    JE X (.Call (.Name "isinstance" p) [e, .Name tn p2] [] pos) (mUn (isiF T) me) := by
  obtain ⟨te, pe, se⟩ := he.ex
  refine ⟨_, pe_callB call_isi hg hm (by decide +kernel) (pa_cons pe (pa_cons (pe_bltn (v := .ty T) hgT hT hv rfl hn hdb) pa_nil) hst) (by decide) (by decide) hst hpl, fun P F0 qc F cell S σ H Q z S' R hz k => ?_⟩
  unfold mUn at hz
  split at hz
  · cases hz
  · rename_i r1 S1 e1
    split at hz
    · rename_i d hd
      split at hz
      · rename_i z' hf
        cases hz
        refine se P F0 qc F cell S σ H _ r1 S' R e1 fun v1 F1 H1 s1 R1 q1 => ?_
        obtain ⟨b, hb, rfl⟩ := Option.map_eq_some_iff.mp hf
        exact ⟨v1, _, _, _, b, rfl, .ty T, dx_ty R1.fh (R1.deref q1 hd), kit_ty hb, k _ F1 H1 s1 R1 (.bl b)⟩
      · cases hz
    · cases hz
end

/-! ### repr -/
mutual
/-- told by the heap, every dict another one than sys.modules -/
inductive RdD (h : Heap) : Value → PyData → Prop
  | none : RdD h .none .none
  | bool (b) : RdD h (.bool b) (.bool b)
  | int (i t) : RdD h (.int i t) (.int i)
  | str (x t) : RdD h (.str x t) (.str x)
  | list {a o vs n xs} : h.get? a = some o → o.cls = .type "list" → o.data = .seq vs n → RdsD h vs.toList xs → RdD h (.ref a) (.list xs)
  | tuple {a o vs n xs} : h.get? a = some o → o.cls = .type "tuple" → o.data = .seq vs n → RdsD h vs.toList xs → RdD h (.ref a) (.tuple xs)
  | dict {a o} {es : Array DictEntry} {n} {kvs : List (PyData × PyData)} : h.get? a = some o → o.cls = .type "dict" → o.data = .dict es n → (a == sysModules) = false → RdsD h (es.toList.map (·.key)) (kvs.map (·.1)) → RdsD h (es.toList.map (·.val)) (kvs.map (·.2)) → RdD h (.ref a) (.dict kvs)
inductive RdsD (h : Heap) : List Value → List PyData → Prop
  | nil : RdsD h [] []
  | cons {v vs d ds} : RdD h v d → RdsD h vs ds → RdsD h (v :: vs) (d :: ds)
end
section
variable {prog : Program} {w : World} {h₀ : Heap}
mutual
theorem RdD.reads : ∀ {v : Value} {d : PyData}, RdD h₀ v d → ∃ as, Reads h₀ v d as
  | _, _, .none => ⟨_, .none⟩
  | _, _, .bool b => ⟨_, .bool b⟩
  | _, _, .int i t => ⟨_, .int i t⟩
  | _, _, .str x t => ⟨_, .str x t⟩
  | _, _, .list h1 h2 h3 h4 => let ⟨_, r⟩ := RdsD.reads h4; ⟨_, .list h1 h2 h3 r⟩
  | _, _, .tuple h1 h2 h3 h4 => let ⟨_, r⟩ := RdsD.reads h4; ⟨_, .tuple h1 h2 h3 r⟩
  | _, _, .dict h1 h2 h3 _ h4 h5 => let ⟨_, r⟩ := RdsD.reads h4; let ⟨_, r2⟩ := RdsD.reads h5; ⟨_, .dict h1 h2 h3 r r2⟩
theorem RdsD.reads : ∀ {vs : List Value} {ds : List PyData}, RdsD h₀ vs ds → ∃ as, ReadsAll h₀ vs ds as
  | _, _, .nil => ⟨_, .nil⟩
  | _, _, .cons h t => let ⟨_, r⟩ := RdD.reads h; let ⟨_, r2⟩ := RdsD.reads t; ⟨_, .cons r r2⟩
end
mutual
theorem RdD.reprK : ∀ {v : Value} {d : PyData}, RdD h₀ v d → d.showable = true → d.shown.length ≤ sizeLine → ∃ bs, ReadAtMost h₀ d.depth bs ∧ ReprK prog w bs h₀ d.depth v d.shown
  | _, _, .none, _, _ => ⟨[], (fun _ h => nomatch h), by simp only [PyData.shown]; exact .of_is ReprIs.none _ _ _⟩
  | _, _, .bool b, _, _ => ⟨[], (fun _ h => nomatch h), by simp only [PyData.shown]; exact .of_is (ReprIs.bool b) _ _ _⟩
  | _, _, .int i t, hs, _ => ⟨[], (fun _ h => nomatch h), by simp only [PyData.shown]; exact .of_is (ReprIs.int t (by simpa [PyData.showable] using hs)) _ _ _⟩
  | _, _, .str x t, _, hz => ⟨[], (fun _ h => nomatch h), by simp only [PyData.shown]; exact .of_is (ReprIs.str x t (by simpa only [PyData.shown] using hz)) _ _ _⟩
  | _, _, .list (a := a) (vs := vs) (xs := xs) h1 h2 h3 h4, hs, hz => by
    have hz' : (listText (PyData.shownAll xs)).length ≤ sizeLine := by simpa only [PyData.shown] using hz
    obtain ⟨bs, hb, hk⟩ := RdsD.reprK h4 (by simpa [PyData.showable] using hs) (fun t ht => Nat.le_trans (listText_mem_le ht) hz')
    obtain ⟨as, r4⟩ := RdsD.reads h4
    have r : Reads h₀ (.ref a) (.list xs) _ := .list h1 h2 h3 r4
    have hna : a ∉ bs := not_mem_of_deeper r (by simp only [PyData.depth]; omega) hb
    refine ⟨a :: bs, ReadAtMost.cons r (by simp only [PyData.depth]; omega) hb, ?_⟩
    simp only [PyData.depth, PyData.shown]
    obtain ⟨l⟩ := vs
    cases l with
    | nil =>
      have h4' : RdsD h₀ [] xs := h4
      cases h4'
      simp only [PyData.shownAll, listText_nil]
      exact ReprK.listEmpty h1 h2 h3
    | cons x l => exact ReprK.list h1 h2 h3 hna (by simpa using hk.length_eq) (fun i y e => hk.item i y (by simpa using e))
  | _, _, .tuple (a := a) (xs := xs) h1 h2 h3 h4, hs, hz => by
    have hz' : (tupleText (PyData.shownAll xs)).length ≤ sizeLine := by simpa only [PyData.shown] using hz
    obtain ⟨bs, hb, hk⟩ := RdsD.reprK h4 (by simpa [PyData.showable] using hs) (fun t ht => Nat.le_trans (tupleText_mem_le ht) hz')
    obtain ⟨as, r4⟩ := RdsD.reads h4
    have r : Reads h₀ (.ref a) (.tuple xs) _ := .tuple h1 h2 h3 r4
    have hna : a ∉ bs := not_mem_of_deeper r (by simp only [PyData.depth]; omega) hb
    refine ⟨a :: bs, ReadAtMost.cons r (by simp only [PyData.depth]; omega) hb, ?_⟩
    simp only [PyData.depth, PyData.shown]
    exact ReprK.tuple h1 h2 h3 hna hk
  | _, _, .dict (a := a) (es := es) (kvs := kvs) h1 h2 h3 hsys h4 h5, hs, hz => by
    have hz' : (dictText (PyData.shownKv kvs)).length ≤ sizeLine := by simpa only [PyData.shown] using hz
    obtain ⟨hs1, hs2⟩ := PyData.showableKv_split kvs (by simpa [PyData.showable] using hs)
    obtain ⟨b1, hb1, k1⟩ := RdsD.reprK h4 hs1 (fun t ht => let ⟨p, hp, hl⟩ := PyData.shownKv_key_le kvs t ht; Nat.le_trans hl (Nat.le_trans (dictText_mem_le hp) hz'))
    obtain ⟨b2, hb2, k2⟩ := RdsD.reprK h5 hs2 (fun t ht => let ⟨p, hp, hl⟩ := PyData.shownKv_val_le kvs t ht; Nat.le_trans hl (Nat.le_trans (dictText_mem_le hp) hz'))
    obtain ⟨as, r4⟩ := RdsD.reads h4
    obtain ⟨as2, r5⟩ := RdsD.reads h5
    have r : Reads h₀ (.ref a) (.dict kvs) _ := .dict h1 h2 h3 r4 r5
    have hb : ReadAtMost h₀ (PyData.depthKv kvs) (b1 ++ b2) := (hb1.mono (PyData.depthAll_keys_le kvs)).append (hb2.mono (PyData.depthAll_vals_le kvs))
    have hna : a ∉ b1 ++ b2 := not_mem_of_deeper r (by simp only [PyData.depth]; omega) hb
    refine ⟨a :: (b1 ++ b2), ReadAtMost.cons r (by simp only [PyData.depth]; omega) hb, ?_⟩
    simp only [PyData.depth, PyData.shown, PyData.shownKv_eq]
    exact ReprK.dict h1 h2 h3 hsys hna (ReprEntriesK.of_two es.toList _ _
      (k1.more_le (fun b hb => List.mem_append_left _ hb) (PyData.depthAll_keys_le kvs)) (k2.more_le (fun b hb => List.mem_append_right _ hb) (PyData.depthAll_vals_le kvs)))
theorem RdsD.reprK : ∀ {vs : List Value} {ds : List PyData}, RdsD h₀ vs ds → PyData.showableAll ds = true → (∀ t ∈ PyData.shownAll ds, t.length ≤ sizeLine) →
    ∃ bs, ReadAtMost h₀ (PyData.depthAll ds) bs ∧ ReprAllK prog w bs h₀ (PyData.depthAll ds) vs (PyData.shownAll ds)
  | _, _, .nil, _, _ => ⟨[], (fun _ h => nomatch h), by simp only [PyData.shownAll]; exact .nil⟩
  | _, _, .cons (d := d) (ds := ds) r rs, hs, hz => by
    have hs' : d.showable = true ∧ PyData.showableAll ds = true := by simpa [PyData.showableAll] using hs
    obtain ⟨b1, hb1, k1⟩ := RdD.reprK r hs'.1 (hz _ (by simp only [PyData.shownAll]; exact List.mem_cons_self ..))
    obtain ⟨b2, hb2, k2⟩ := RdsD.reprK rs hs'.2 (fun t ht => hz t (by simp only [PyData.shownAll]; exact List.mem_cons_of_mem _ ht))
    refine ⟨b1 ++ b2, ?_, ?_⟩
    · simp only [PyData.depthAll]
      exact (hb1.mono (Nat.le_max_left _ _)).append (hb2.mono (Nat.le_max_right _ _))
    · simp only [PyData.depthAll, PyData.shownAll]
      exact .cons ((k1.more fun b hb => List.mem_append_left _ hb).level_le (Nat.le_max_left _ _)) (k2.more_le (fun b hb => List.mem_append_right _ hb) (Nat.le_max_right _ _))
end
end
end VL

set_option Elab.async false
set_option linter.all false
set_option maxRecDepth 100000
set_option maxHeartbeats 4000000
/-! VL6: repr as a call; a text backwards; written dicts of one entry. -/
namespace VL
open PySem PySem.Spec PyProof.Rows L2
section
variable {prog : Program} {w : World} {h₀ : Heap}
theorem call_repr_rd {A : Around} {E : Value → Shared → Prop} {s : Shared} {Q : Value → Shared → Prop} : ∀ {u : Value} {d : PyData}, RdD s.heap u d → d.showable = true → d.shown.length ≤ sizeLine → A.guards = some [] → A.units + (d.depth + 1) < cLine →
    (∀ h' t tk, (∀ b o, s.heap.get? b = some o → h'.get? b = some o) → Q (.str d.shown t) { s with heap := h', toks := tk }) → wpAny (model prog w) A (call (.builtin "repr") [u]) Q E s
  | _, _, .none, _, _, _, _, hQ => by
    simp only [PyData.shown] at hQ
    exact PySem.P.repr_of_none (hQ s.heap _ _ fun _ _ e => e)
  | _, _, .bool b, _, _, _, _, hQ => by
    simp only [PyData.shown] at hQ
    exact PySem.P.repr_of_bool (hQ s.heap _ _ fun _ _ e => e)
  | _, _, .int i t, hs, _, _, _, hQ => by
    simp only [PyData.shown] at hQ
    exact PySem.P.repr_of_int (by simpa [PyData.showable] using hs) (hQ s.heap _ _ fun _ _ e => e)
  | _, _, .str x t, _, hz, _, _, hQ => by
    simp only [PyData.shown] at hQ
    exact PySem.P.repr_of_str (hQ s.heap _ _ fun _ _ e => e) (by simpa only [PyData.shown] using hz)
  | _, _, .list (a := a) (o := o) (vs := vs) (xs := xs) h1 h2 h3 h4, hs, hz, hg, hu, hQ => by
    have hz' : (listText (PyData.shownAll xs)).length ≤ sizeLine := by simpa only [PyData.shown] using hz
    obtain ⟨bs, hb, hk⟩ := RdsD.reprK (prog := prog) (w := w) h4 (by simpa [PyData.showable] using hs) (fun t ht => Nat.le_trans (listText_mem_le ht) hz')
    obtain ⟨as, r4⟩ := RdsD.reads h4
    have r : Reads s.heap (.ref a) (.list xs) _ := .list h1 h2 h3 r4
    have hna : a ∉ bs := not_mem_of_deeper r (by simp only [PyData.depth]; omega) hb
    simp only [PyData.depth] at hu
    simp only [PyData.shown] at hQ
    have hui : A.in1.units + (PyData.depthAll xs + 1) < cLine := by show A.units + 1 + (PyData.depthAll xs + 1) < cLine; omega
    refine call_repr_slot (by omega) ⟨o, h1, h2⟩ F.slot_list_repr.toG ?_
    obtain ⟨l⟩ := vs
    cases l with
    | nil =>
      have h4' : RdsD s.heap [] xs := h4
      cases h4'
      simp only [PyData.shownAll, listText_nil] at hQ
      exact call_list_repr_empty ⟨o, h1, h2⟩ h1 h3 ⟨_, _, rfl, hQ s.heap _ _ fun _ _ e => e⟩
    | cons x l =>
      exact call_list_reprK h1 h2 h3 hna (by simpa using hk.length_eq) (fun i y e => hk.item i y (by simpa using e)) (show A.in1.guards = some [] from hg) (fun b _ => Clear.nil b) hui (fun _ _ e => e) (fun h' u tk hk' => ⟨_, _, rfl, hQ h' u tk hk'⟩) hz'
  | _, _, .tuple (a := a) (o := o) (xs := xs) h1 h2 h3 h4, hs, hz, hg, hu, hQ => by
    have hz' : (tupleText (PyData.shownAll xs)).length ≤ sizeLine := by simpa only [PyData.shown] using hz
    obtain ⟨bs, hb, hk⟩ := RdsD.reprK (prog := prog) (w := w) h4 (by simpa [PyData.showable] using hs) (fun t ht => Nat.le_trans (tupleText_mem_le ht) hz')
    obtain ⟨as, r4⟩ := RdsD.reads h4
    have r : Reads s.heap (.ref a) (.tuple xs) _ := .tuple h1 h2 h3 r4
    have hna : a ∉ bs := not_mem_of_deeper r (by simp only [PyData.depth]; omega) hb
    simp only [PyData.depth] at hu
    simp only [PyData.shown] at hQ
    have hui : A.in1.units + (PyData.depthAll xs + 1) < cLine := by show A.units + 1 + (PyData.depthAll xs + 1) < cLine; omega
    refine call_repr_slot (by omega) ⟨o, h1, h2⟩ F.slot_tuple_repr ?_
    exact call_tuple_reprK h1 h2 h3 hna hk (show A.in1.guards = some [] from hg) (fun b _ => Clear.nil b) hui (fun _ _ e => e) (fun h' u tk hk' => ⟨_, _, rfl, hQ h' u tk hk'⟩) hz'
  | _, _, .dict (a := a) (o := o) (es := es) (kvs := kvs) h1 h2 h3 hsys h4 h5, hs, hz, hg, hu, hQ => by
    have hz' : (dictText (PyData.shownKv kvs)).length ≤ sizeLine := by simpa only [PyData.shown] using hz
    obtain ⟨hs1, hs2⟩ := PyData.showableKv_split kvs (by simpa [PyData.showable] using hs)
    obtain ⟨b1, hb1, k1⟩ := RdsD.reprK (prog := prog) (w := w) h4 hs1 (fun t ht => let ⟨p, hp, hl⟩ := PyData.shownKv_key_le kvs t ht; Nat.le_trans hl (Nat.le_trans (dictText_mem_le hp) hz'))
    obtain ⟨b2, hb2, k2⟩ := RdsD.reprK (prog := prog) (w := w) h5 hs2 (fun t ht => let ⟨p, hp, hl⟩ := PyData.shownKv_val_le kvs t ht; Nat.le_trans hl (Nat.le_trans (dictText_mem_le hp) hz'))
    obtain ⟨as, r4⟩ := RdsD.reads h4
    obtain ⟨as2, r5⟩ := RdsD.reads h5
    have r : Reads s.heap (.ref a) (.dict kvs) _ := .dict h1 h2 h3 r4 r5
    have hb : ReadAtMost s.heap (PyData.depthKv kvs) (b1 ++ b2) := (hb1.mono (PyData.depthAll_keys_le kvs)).append (hb2.mono (PyData.depthAll_vals_le kvs))
    have hna : a ∉ b1 ++ b2 := not_mem_of_deeper r (by simp only [PyData.depth]; omega) hb
    simp only [PyData.depth] at hu
    simp only [PyData.shown, PyData.shownKv_eq] at hQ
    have hui : A.in1.units + (PyData.depthKv kvs + 1) < cLine := by show A.units + 1 + (PyData.depthKv kvs + 1) < cLine; omega
    refine call_repr_slot (by omega) ⟨o, h1, h2⟩ F.slot_dict_repr ?_
    exact call_dict_reprK h1 h2 h3 hsys hna (ReprEntriesK.of_two es.toList _ _
      (k1.more_le (fun b hb => List.mem_append_left _ hb) (PyData.depthAll_keys_le kvs)) (k2.more_le (fun b hb => List.mem_append_right _ hb) (PyData.depthAll_vals_le kvs))) (show A.in1.guards = some [] from hg) (fun b _ => Clear.nil b) hui (fun _ _ e => e) (fun h' u tk hk' => ⟨_, _, rfl, hQ h' u tk hk'⟩) (by rw [← PyData.shownKv_eq]; exact hz')
end
section
variable {X : Cx} {pins : List (Addr × Obj)} {σ : L2.St} {H : Hp} {s : Shared}
theorem key_rel {k : Key} {u : Value} (h : keyIs k u = true) : RelV (kV k) u := by
  rcases keyIs_shape h with ⟨i, t, rfl, rfl⟩ | ⟨x, t, rfl, rfl⟩
  · exact ⟨t, rfl⟩
  · exact ⟨t, rfl⟩
theorem pairs_vals {prog : Program} {w : World} : ∀ {es : List DictEntry} {kvs : List (Key × V)} {vs : List (Key × Value)}, PySem.Pairs (mixKind prog w) es vs → KV kvs vs → Vals (kvs.map fun p => kV p.1) (es.map (·.key)) ∧ Vals (kvs.map fun p => p.2) (es.map (·.val))
  | [], _, _, .nil, .nil => ⟨.nil, .nil⟩
  | e :: es, _, _, .cons h1 h2 h3, .cons r t => by
    obtain ⟨a, b⟩ := pairs_vals h3 t
    obtain ⟨r1, r2⟩ := r
    refine ⟨.cons ?_ a, .cons ?_ b⟩
    · show RelV (kV _) _
      rw [r1]
      exact key_rel h1
    · show RelV _ e.val
      rw [h2]
      exact r2
mutual
theorem DV.rd (I : Inv X pins σ H s) : ∀ {v : V} {d : PyData} {u : Value}, DV X.K H v d → RelV v u → RdD s.heap u d
  | _, _, _, .non, r => by
    cases r
    exact .none
  | _, _, _, .bl b, r => by
    cases r
    exact .bool b
  | _, _, _, .int i, r => by
    obtain ⟨t, rfl⟩ := r
    exact .int i t
  | _, _, _, .str x, r => by
    obtain ⟨t, rfl⟩ := r
    exact .str x t
  | _, _, _, .lst h hs, r => by
    cases r
    obtain ⟨its, rv, ⟨o, n, ho, hc, _, hd⟩, _⟩ := I.list (SqL.of h)
    exact .list ho hc hd (DVs.rd I hs rv)
  | _, _, _, .tup h hs, r => by
    cases r
    obtain ⟨its, rv, ⟨o, ho, hc, n, hd⟩, _⟩ := I.tuple h
    exact .tuple ho hc hd (DVs.rd I hs rv)
  | _, _, _, .dct (kvs := kvs) (ks := ks) (es := es') h h1 h2, r => by
    cases r
    obtain ⟨_, hd, vs, rel, o, es, ep, ho, hx, hde, _, hp, _⟩ := dk_of I.hok h
    obtain ⟨p1, p2⟩ := pairs_vals hp rel
    have l1 := h1.length
    have l2 := h2.length
    rw [List.length_map] at l1 l2
    have q1 := DVs.rd I h1 p1
    have q2 := DVs.rd I h2 p2
    refine .dict ho hx.1 hde hd ?_ ?_
    · rw [List.map_fst_zip (by omega)]
      exact q1
    · rw [List.map_snd_zip (by omega)]
      exact q2
theorem DVs.rd (I : Inv X pins σ H s) : ∀ {vs : List V} {ds : List PyData} {us : List Value}, DVs X.K H vs ds → Vals vs us → RdsD s.heap us ds
  | _, _, _, .nil, .nil => .nil
  | _, _, _, .cons h t, .cons r rs => .cons (DV.rd I h r) (DVs.rd I t rs)
end
end
def rRepr (K : PySem.W.Frag) : List V → Hp → VK → Prop := fun xs H Q => ∃ v d, xs = [v] ∧ DV K H v d ∧ d.showable = true ∧ d.shown.length ≤ sizeLine ∧ d.depth ≤ 60 ∧ Q (.str d.shown) H
theorem call_reprD {X : Cx} (gd : X.A.guards = some []) (hu : X.A.units + 64 < cLine) : CallR X (.builtin "repr") (rRepr X.K) := by
  intro pins s σ H xs us Q I r h
  obtain ⟨v, d, rfl, hd, hs, hz, hp, q⟩ := h
  obtain ⟨u, rfl, r1⟩ := vals1 r
  exact call_repr_rd (DV.rd I hd r1) hs hz gd (by omega) fun h' t tk hk => ⟨.str _, H, I.kept hk, ⟨t, rfl⟩, q⟩
def reprF : List PyData → Option PyData
  | [d] => if d.showable = true ∧ d.shown.length ≤ 1000000 ∧ d.depth ≤ 60 then some (.str d.shown) else none
  | _ => none
theorem cs_repr {K : PySem.W.Frag} : CS K (rRepr K) reprF := by
  intro F H xs ds z Q fh hx hf k
  unfold reprF at hf
  split at hf
  · split at hf
    · rename_i d hl
      cases hf
      obtain ⟨v, rfl, h1⟩ := dxs1 hx
      exact ⟨v, d, rfl, h1.dv fh, hl.1, Nat.le_trans hl.2.1 (by decide), hl.2.2, k _ _ _ (Ext.refl fh) (.str _)⟩
    · cases hf
  · cases hf
section
variable {X : Cx} {e : Expr} {mas : MA} {pos p : Pos}
theorem je_repr {k : Nat} (gd : X.A.guards = some []) (hr : Room k X.A) (hm : X.mg "repr" = none) (ha : JA X [e] mas) (hg : Gl X "repr" := by rfl) (he : starEach [e] X.env = (false, eval e X.env) :: starEach [] X.env := by rfl) (hpl : (backTo pos (starEach [] X.env)).any (·.1) = false := by rfl) :
    JE X (.Call (.Name "repr" p) [e] [] pos) (mCall reprF mas) := je_callB (call_reprD gd hr.units) cs_repr hm (by decide +kernel) ha hg (by decide) (by decide) he hpl
end

/-! ### a text backwards -/
def revS (z : Str) : Str := ⟨z.cps.toList.reverse.toArray⟩
def revF : PyData → Option PyData
  | .str z => if z.length ≤ 100000 then some (.str (revS z)) else none
  | _ => none
theorem strSlice_rev (z : Str) : ((Builtin.Str.strSliceIndices none none (-1) z.length).filterMap (z.cps[·]?)).toArray = (revS z).cps := by
  have e : Builtin.Str.strSliceIndices none none (-1) z.length = sliceRange ((z.cps.size : Int) - 1) (-1) (-1) := by
    unfold Builtin.Str.strSliceIndices
    rfl
  rw [e, PySem.W.krv_sliceRange, PySem.W.krv_range, List.filterMap_reverse, PySem.W.krv_all]
  rfl
def tRevS (te : TE) : TE := fun σ H Q => te σ H fun x H1 => ∃ z, x = .str z ∧ z.length ≤ sizeLine ∧ Q (.str (revS z)) H1
theorem pe_revS {X : Cx} {e : Expr} {te : TE} {k : Nat} {p1 p2 p3 pos : Pos} (he : PE X e te) : PE X (.Subscript e (.Slice none none (some (.UnaryOp .USub (.Constant (.int 1) k p1) p2)) p3) pos) (tRevS te) := by
  refine ⟨fun pins s σ H Q I h => ?_⟩
  refine Subscript_ (thn (he.run pins s σ H _ I h) fun v s1 ⟨x, H1, I1, r1, q1⟩ => ?_)
  obtain ⟨z, ex, hz, q⟩ := q1
  subst ex
  obtain ⟨t, rfl⟩ := r1
  have hst : PO X (some (.UnaryOp .USub (.Constant (.int 1) k p1) p2)) (tPart (tUn (rU fun i => .int (-i)) (tC (.int 1)))) := po_some (pe_un un_neg pe_int)
  refine wpAny_Slice (thn (po_none.run pins s1 σ H1 (fun o H2 => o = none ∧ H2 = H1) I1 ⟨rfl, rfl⟩) fun vl s2 ⟨l, H2, I2, pl, el, e2⟩ => ?_)
  subst el e2
  refine thn (po_none.run pins s2 σ H2 (fun o H3 => o = none ∧ H3 = H2) I2 ⟨rfl, rfl⟩) fun vu s3 ⟨u, H3, I3, pu, eu, e3⟩ => ?_
  subst eu e3
  refine thn (hst.run pins s3 σ H3 (fun o H4 => o = some (-1) ∧ H4 = H3) I3 ⟨1, rfl, -1, rfl, rfl, rfl⟩) fun vs s4 ⟨o, H4, I4, ps, eo, e4⟩ => ?_
  subst eo e4
  have I5 : Inv X pins σ H4 { s4 with heap := s4.heap.push { cls := .type "slice", data := .fields #[vl, vu, vs] } } := I4.kept (t' := s4.toks) fun b ob q => Heap.get?_push_of_some _ q
  obtain ⟨l, rfl, hl⟩ := IsPart.raw pl
  obtain ⟨u, rfl, hu⟩ := IsPart.raw pu
  obtain ⟨st, rfl, hst'⟩ := IsPart.raw ps
  show wpAny (model X.prog X.w) X.A (subscriptTail e (.Slice none none (some (.UnaryOp .USub (.Constant (.int 1) k p1) p2)) p3) (.str z t) (.ref s4.heap.objs.size)) (EP X pins σ Q) X.xe { s4 with heap := s4.heap.push { cls := .type "slice", data := .fields #[partValue l, partValue u, partValue st] } }
  refine tail_any (ops := [.str z t, .ref s4.heap.objs.size]) (typeIs_str _ _ _) F.slot_str_getitem.lookup ?_ (by with_unfolding_all rfl)
  refine wpAny_getItem_str_slice (l := l) (u := u) (st := st) ⟨_, Heap.get?_push_size _ rfl, rfl, rfl⟩ (by rw [hst']; rfl) ?_
  unfold sliceMade slicePicked
  rw [hl, hu, hst']
  show Made.post (if ((-1 : Int) == 1 && _) = true then Made.val (.str z t) else Made.str ⟨((Builtin.Str.strSliceIndices none none (-1) z.length).filterMap (z.cps[·]?)).toArray⟩) (EP X pins σ Q) _
  rw [if_neg (by simp), strSlice_rev]
  have hlen : (revS z).length ≤ sizeLine := by
    show z.cps.toList.reverse.toArray.size ≤ sizeLine
    have : z.cps.toList.reverse.toArray.size = z.length := by simp; rfl
    omega
  exact ⟨hlen, .str _, H4, I5.tok _, ⟨_, rfl⟩, q⟩
section
variable {X : Cx} {e : Expr} {me : ME}
theorem je_rev {k : Nat} {p1 p2 p3 pos : Pos} (he : JE X e me) : JE X (.Subscript e (.Slice none none (some (.UnaryOp .USub (.Constant (.int 1) k p1) p2)) p3) pos) (mUn revF me) := by
  obtain ⟨te, pe, se⟩ := he.ex
  refine ⟨_, pe_revS pe, fun P F0 qc F cell S σ H Q z S' R hm k => ?_⟩
  unfold mUn at hm
  split at hm
  · cases hm
  · rename_i r1 S1 e1
    split at hm
    · rename_i d hd
      split at hm
      · rename_i z' hz
        cases hm
        unfold revF at hz
        split at hz
        · split at hz
          · rename_i zz hl
            cases hz
            refine se P F0 qc F cell S σ H _ r1 S' R e1 fun v1 F1 H1 s1 R1 q1 => ?_
            exact ⟨_, (R1.deref q1 hd).str, small5 hl, k _ F1 H1 s1 R1 (.str _)⟩
          · cases hz
        · cases hz
      · cases hm
    · cases hm
end
end VL

set_option Elab.async false
set_option linter.all false
set_option maxRecDepth 100000
set_option maxHeartbeats 4000000
/-! VL7: objects on the way (guarded), written dicts, calls of defs by their functions. -/
namespace VL
open PySem PySem.Spec PyProof.Rows L2
section
variable {K : PySem.W.Frag} {P F0 F F' : Hp} {qc cell : Nat → Addr} {S : Sl} {σ : L2.St} {H H' : Hp} {p : Addr} {o o' : HO}
/-- no slot's own list stands at p -/
def Apart (S : Sl) (cell : Nat → Addr) (p : Addr) : Prop := ∀ (i : Nat) (x : SL), S[i]? = some (some x) → x.held.isSome = true → cell i ≠ p
theorem RC.apart_new (R : RC K P F0 qc F cell S σ H) (hp : H p = none) : Apart S cell p := fun i x h hx e => by
  obtain ⟨xs, hx'⟩ := Option.isSome_iff_exists.mp hx
  obtain ⟨_, _, _, vs, h4, _⟩ := R.cl i x xs h hx'
  rw [e, hp] at h4
  cases h4
/-- a new object on the way: it must stay, it is not told -/
theorem RC.lay (R : RC K P F0 qc F cell S σ H) (hp : H p = none) : RC K (upd P p o) F0 qc F cell S σ (upd H p o) where
  len := R.len
  f0 := R.f0
  fh := R.fh.trans (same_new hp)
  ph := same_upd2 R.ph
  fr := fun b z => by
    by_cases q : b = p
    · subst q
      exact absurd (R.fh.free hp) z
    · rcases R.fr b z with z | z
      · exact .inl z
      · exact .inr (by rw [upd_ne q]; exact z)
  vl := R.vl
  sc := R.sc
  cl := fun i x xs h hx => by
    obtain ⟨h1, h2, h3, vs, h4, h5⟩ := R.cl i x xs h hx
    have ne : cell i ≠ p := R.apart_new hp i x h (by rw [hx]; rfl)
    exact ⟨h1, h2, by rw [upd_ne ne]; exact h3, vs, by rw [upd_ne ne]; exact h4, h5⟩
  qs := R.qs
  inj := R.inj
theorem RC.laid_at (R : RC K (upd P p o) F0 qc F cell S σ H) : H p = some o := R.ph p o upd_same
theorem RC.laid_apart (R : RC K (upd P p o) F0 qc F cell S σ H) : Apart S cell p := fun i x h hx e => by
  obtain ⟨xs, hx'⟩ := Option.isSome_iff_exists.mp hx
  obtain ⟨_, _, h3, _⟩ := R.cl i x xs h hx'
  rw [e, upd_same] at h3
  cases h3
theorem RC.laid_untold (R : RC K (upd P p o) F0 qc F cell S σ H) (hp : F0 p = none) : F p = none := by
  cases q : F p with
  | none => rfl
  | some u =>
    rcases R.fr p (by rw [q]; simp) with z | z
    · exact absurd hp z
    · rw [upd_same] at z; cases z
/-- it is told from now on, as o' -/
theorem RC.adopt (R : RC K (upd P p o) F0 qc F cell S σ H) (hp : F0 p = none) (hP : P p = none) : RC K P F0 qc (upd F p o') cell S σ (upd H p o') ∧ Same F (upd F p o') := by
  have hF := R.laid_untold hp
  have sF : Same F (upd F p o') := same_new hF
  have ap := R.laid_apart
  refine ⟨⟨R.len, R.f0.trans sF, same_upd2 R.fh, fun b u e => ?_, fun b z => ?_, fun i d h => ?_, fun i ns h => ?_, fun i x xs h hx => ?_, R.qs, R.inj⟩, sF⟩
  · have ne : b ≠ p := fun q => by subst q; rw [hP] at e; cases e
    rw [upd_ne ne]
    exact R.ph b u (by rw [upd_ne ne]; exact e)
  · by_cases q : b = p
    · subst q
      exact .inr hP
    · rw [upd_ne q] at z
      rcases R.fr b z with z | z
      · exact .inl z
      · rw [upd_ne q] at z
        exact .inr z
  · obtain ⟨v, h1, h2⟩ := R.vl i d h
    exact ⟨v, h1, h2.mono sF⟩
  · obtain ⟨a, h1, h2⟩ := R.sc i ns h
    exact ⟨a, h1, h2.mono sF⟩
  · obtain ⟨h1, h2, h3, vs, h4, h5⟩ := R.cl i x xs h hx
    have ne := ap i x h (by rw [hx]; rfl)
    rw [upd_ne ne] at h3
    exact ⟨h1, by rw [upd_ne ne]; exact h2, h3, vs, by rw [upd_ne ne]; exact h4, h5.mono sF⟩
/-- changed on the way -/
theorem RC.relay (R : RC K (upd P p o) F0 qc F cell S σ H) (hp : F0 p = none) : RC K (upd P p o') F0 qc F cell S σ (upd H p o') := by
  have hF := R.laid_untold hp
  have ap := R.laid_apart
  refine ⟨R.len, R.f0, fun b u e => ?_, fun b u e => ?_, fun b z => ?_, R.vl, R.sc, fun i x xs h hx => ?_, R.qs, R.inj⟩
  · have ne : b ≠ p := fun q => by subst q; rw [hF] at e; cases e
    rw [upd_ne ne]
    exact R.fh b u e
  · by_cases q : b = p
    · subst q
      rw [upd_same] at e ⊢
      exact e
    · rw [upd_ne q] at e ⊢
      exact R.ph b u (by rw [upd_ne q]; exact e)
  · rcases R.fr b z with z | z
    · exact .inl z
    · by_cases q : b = p
      · subst q
        rw [upd_same] at z; cases z
      · rw [upd_ne q] at z ⊢
        exact .inr z
  · obtain ⟨h1, h2, h3, vs, h4, h5⟩ := R.cl i x xs h hx
    have ne := ap i x h (by rw [hx]; rfl)
    rw [upd_ne ne] at h3
    exact ⟨h1, h2, by rw [upd_ne ne]; exact h3, vs, by rw [upd_ne ne]; exact h4, h5⟩
end

/-! ### {}, {'k': e} -/
def mDict1 (z : Str) (me : ME) : ME := fun S => match me S with
  | none => none
  | some (r, S1) => match stable r with
    | some d => some (.v (.dict [(.str z, d)]), S1)
    | none => none
section
variable {X : Cx} {e : Expr} {me : ME} {pos p1 : Pos}
theorem je_dict0 : JE X (.Dict [] [] pos) (mC (.dict [])) := by
  refine ⟨_, pe_dnewK, fun P F0 qc F cell S σ H Q z S' R hm k => ?_⟩
  cases hm
  intro p hp
  have ex : Ext F H (upd F p (.dK [])) (upd H p (.dK [])) := Ext.new R.fh hp
  exact k _ _ _ ex.f (R.ext ex) (.dct (kvs := []) (ks := []) (es := []) upd_same .nil .nil)
theorem je_dict1 {z : Str} {j} (he : JE X e me) : JE X (.Dict [some (.Constant (.str z) j p1)] [e] pos) (mDict1 z me) := by
  obtain ⟨te, pe, se⟩ := he.ex
  refine ⟨_, pe_disp (pps_cons pe_str pe pps_nil) (by rfl) (by rfl) (fun z => by cases z) (by show 1 ≤ 15; decide), fun P F0 qc F cell S σ H Q r S' R hm k => ?_⟩
  unfold mDict1 at hm
  split at hm
  · cases hm
  · rename_i r1 S1 e1
    split at hm
    · rename_i d hd
      cases hm
      intro p hp
      show te σ (upd H p (.dK [])) _
      refine se (upd P p (.dK [])) F0 qc F cell S σ _ _ r1 S' (R.lay hp) e1 fun v1 F1 H1 s1 R1 q1 => ?_
      have hF0 : F0 p = none := (R.f0.trans R.fh).free hp
      have hP : P p = none := R.ph.free hp
      have q1' : DV X.K F1 v1 d := by
        cases r1 with
        | v d' => cases hd; exact q1
        | p i => cases hd
        | s ns => cases hd
      refine ⟨R1.laid_at, [(.inr z, v1)], rfl, by show 1 ≤ 15; decide, ?_⟩
      obtain ⟨R2, s2⟩ := R1.adopt (o' := .dK (mergeK [] [(.inr z, v1)])) hF0 hP
      refine k _ _ _ (s1.trans s2) R2 ?_
      exact .dct (kvs := [(.inr z, v1)]) (ks := [.str z]) (es := [d]) upd_same (.cons (.str z) .nil) (.cons (q1'.mono s2) .nil)
    · cases hm
end

/-! ### a def's function: its arguments in, its value and the lent lists out -/
abbrev MF := List SL → Option (PyData × List SL)
def ArgR (K : PySem.W.Frag) (F H : Hp) : SL → V → Prop
  | .v d, v => DV K F v d
  | .q xs, v => ∃ c ws, v = .ref c ∧ F c = none ∧ H c = some (.lst ws) ∧ DVs K F ws xs
  | .s o, v => OR K F o v
  | .c _, _ => False
structure Fits (K : PySem.W.Frag) (F H : Hp) (as : List SL) (vs : List V) : Prop where
  len : vs.length = as.length
  arg : ∀ (j : Nat) (a : SL), as[j]? = some a → ∃ v, vs[j]? = some v ∧ ArgR K F H a v
  dist : ∀ (i j : Nat) (x y : List PyData) (c : Addr), as[i]? = some (.q x) → as[j]? = some (.q y) → vs[i]? = some (.ref c) → vs[j]? = some (.ref c) → i = j
structure Back (K : PySem.W.Frag) (F H F' H' : Hp) (as : List SL) (vs : List V) (as' : List SL) (v : V) (d : PyData) : Prop where
  f : Same F F'
  fh : Same F' H'
  keep : ∀ b o, H b = some o → (∀ (j : Nat) (xs : List PyData), as[j]? = some (.q xs) → vs[j]? ≠ some (.ref b)) → H' b = some o
  fr : ∀ b, F' b ≠ none → F b ≠ none ∨ H b = none
  dv : DV K F' v d
  qs : ∀ (j : Nat) (xs : List PyData), as'[j]? = some (.q xs) → ∃ c ws, vs[j]? = some (.ref c) ∧ H' c = some (.lst ws) ∧ DVs K F' ws xs
/-- the promise of a def that is m -/
def spM (K : PySem.W.Frag) (n : Nat) (m : MF) : Sp := fun vs H Q _ => vs.length = n ∧ ∃ F as d as', Same F H ∧ Fits K F H as vs ∧ m as = some (d, as') ∧ ∀ v F' H', Back K F H F' H' as vs as' v d → Q v H'

def argOf (S : Sl) : SV → Option SL
  | .v d => some (.v d)
  | .p i => (heldAt S i).map .q
  | .s ns => some (.s ns)
def argsOf (S : Sl) : List SV → Option (List SL)
  | [] => some []
  | r :: rs => match argOf S r, argsOf S rs with
    | some a, some as => some (a :: as)
    | _, _ => none
def ptrs : List SV → List Nat
  | [] => []
  | .p i :: rs => i :: ptrs rs
  | _ :: rs => ptrs rs
def SL.put (xs : List PyData) : SL → SL
  | .c _ => .c xs
  | .q _ => .q xs
  | x => x
def putAt (S : Sl) (i : Nat) (xs : List PyData) : Sl := S.set i ((S[i]?.bind id).map (SL.put xs))
def putBack (S : Sl) : List SV → List SL → Option Sl
  | [], [] => some S
  | .p i :: rs, .q xs :: as => putBack (putAt S i xs) rs as
  | .v _ :: rs, _ :: as => putBack S rs as
  | .s _ :: rs, _ :: as => putBack S rs as
  | _, _ => none
def mCallF (n : Nat) (m : MF) (ma : MA) : ME := fun S => match ma S with
  | none => none
  | some (rs, S1) => if rs.length = n ∧ (ptrs rs).Nodup then match argsOf S1 rs with
      | none => none
      | some as => match m as with
        | none => none
        | some (d, as') => match putBack S1 rs as' with
          | none => none
          | some S2 => some (.v d, S2)
    else none
theorem mem_ptrs : ∀ {rs : List SV} {i : Nat}, i ∈ ptrs rs ↔ ∃ j : Nat, rs[j]? = some (.p i)
  | [], i => by simp [ptrs]
  | .p k :: rs, i => by
    unfold ptrs
    rw [List.mem_cons, mem_ptrs]
    constructor
    · rintro (rfl | ⟨j, h⟩)
      · exact ⟨0, rfl⟩
      · exact ⟨j + 1, h⟩
    · rintro ⟨j, h⟩
      cases j with
      | zero => simp at h; exact .inl h.symm
      | succ j => exact .inr ⟨j, by simpa using h⟩
  | .v d :: rs, i => by
    unfold ptrs
    rw [mem_ptrs]
    constructor
    · rintro ⟨j, h⟩
      exact ⟨j + 1, h⟩
    · rintro ⟨j, h⟩
      cases j with
      | zero => simp at h
      | succ j => exact ⟨j, by simpa using h⟩
  | .s d :: rs, i => by
    unfold ptrs
    rw [mem_ptrs]
    constructor
    · rintro ⟨j, h⟩
      exact ⟨j + 1, h⟩
    · rintro ⟨j, h⟩
      cases j with
      | zero => simp at h
      | succ j => exact ⟨j, by simpa using h⟩
theorem ptrs_inj : ∀ {rs : List SV} {i j k : Nat}, (ptrs rs).Nodup → rs[i]? = some (.p k) → rs[j]? = some (.p k) → i = j
  | [], _, _, _, _, h, _ => by simp at h
  | r :: rs, i, j, k, nd, h1, h2 => by
    have tail : (ptrs rs).Nodup := by
      cases r with
      | p m => exact (List.nodup_cons.mp nd).2
      | v d => exact nd
      | s d => exact nd
    have no : r = .p k → ∀ m : Nat, rs[m]? ≠ some (.p k) := fun e m h => by
      subst e
      exact (List.nodup_cons.mp nd).1 (mem_ptrs.mpr ⟨m, h⟩)
    cases i with
    | zero =>
      have e1 : r = .p k := by simpa using h1
      cases j with
      | zero => rfl
      | succ j => exact absurd (by simpa using h2) (no e1 j)
    | succ i =>
      cases j with
      | zero => exact absurd (by simpa using h1) (no (by simpa using h2) i)
      | succ j => rw [ptrs_inj tail (i := i) (j := j) (k := k) (by simpa using h1) (by simpa using h2)]
theorem putAt_len (S : Sl) (i : Nat) (xs : List PyData) : (putAt S i xs).length = S.length := by unfold putAt; rw [List.length_set]
theorem putAt_same {S : Sl} {i : Nat} {xs : List PyData} {x : SL} (h : S[i]? = some (some x)) : (putAt S i xs)[i]? = some (some (x.put xs)) := by
  unfold putAt
  have hi : i < S.length := (List.getElem?_eq_some_iff.mp h).1
  rw [List.getElem?_set_self hi, h]
  rfl
theorem putAt_ne {S : Sl} {i j : Nat} {xs : List PyData} (h : i ≠ j) : (putAt S i xs)[j]? = S[j]? := by
  unfold putAt
  rw [List.getElem?_set_ne h]
theorem putBack_len : ∀ {rs : List SV} {as : List SL} {S S2 : Sl}, putBack S rs as = some S2 → S2.length = S.length
  | [], [], _, _, h => by cases h; rfl
  | [], _ :: _, _, _, h => by simp [putBack] at h
  | .p i :: rs, [], _, _, h => by simp [putBack] at h
  | .v d :: rs, [], _, _, h => by simp [putBack] at h
  | .s d :: rs, [], _, _, h => by simp [putBack] at h
  | .p i :: rs, a :: as, S, S2, h => by
    cases a with
    | q xs =>
      have h' : putBack (putAt S i xs) rs as = some S2 := h
      rw [putBack_len h', putAt_len]
    | _ => simp [putBack] at h
  | .v d :: rs, a :: as, S, S2, h => putBack_len (show putBack S rs as = some S2 from h)
  | .s d :: rs, a :: as, S, S2, h => putBack_len (show putBack S rs as = some S2 from h)
/-- what is not lent stays -/
theorem putBack_out : ∀ {rs : List SV} {as : List SL} {S S2 : Sl} {i : Nat}, putBack S rs as = some S2 → i ∉ ptrs rs → S2[i]? = S[i]?
  | [], [], _, _, _, h, _ => by cases h; rfl
  | [], _ :: _, _, _, _, h, _ => by simp [putBack] at h
  | .p i :: rs, [], _, _, _, h, _ => by simp [putBack] at h
  | .v d :: rs, [], _, _, _, h, _ => by simp [putBack] at h
  | .s d :: rs, [], _, _, _, h, _ => by simp [putBack] at h
  | .p k :: rs, a :: as, S, S2, i, h, hn => by
    cases a with
    | q xs =>
      have h' : putBack (putAt S k xs) rs as = some S2 := h
      have hn' : i ≠ k ∧ i ∉ ptrs rs := by
        have q : i ∉ k :: ptrs rs := hn
        exact ⟨fun e => q (e ▸ List.mem_cons_self), fun e => q (List.mem_cons_of_mem _ e)⟩
      rw [putBack_out h' hn'.2, putAt_ne (Ne.symm hn'.1)]
    | _ => simp [putBack] at h
  | .v d :: rs, a :: as, S, S2, i, h, hn => putBack_out (show putBack S rs as = some S2 from h) hn
  | .s d :: rs, a :: as, S, S2, i, h, hn => putBack_out (show putBack S rs as = some S2 from h) hn
/-- what is lent comes back -/
theorem putBack_in : ∀ {rs : List SV} {as : List SL} {S S2 : Sl} {i j : Nat} {x : SL}, putBack S rs as = some S2 → (ptrs rs).Nodup → rs[j]? = some (.p i) → S[i]? = some (some x) → ∃ xs, as[j]? = some (.q xs) ∧ S2[i]? = some (some (x.put xs))
  | [], [], _, _, _, _, _, _, _, h, _ => by simp at h
  | [], _ :: _, _, _, _, _, _, h, _, _, _ => by simp [putBack] at h
  | .p i :: rs, [], _, _, _, _, _, h, _, _, _ => by simp [putBack] at h
  | .v d :: rs, [], _, _, _, _, _, h, _, _, _ => by simp [putBack] at h
  | .s d :: rs, [], _, _, _, _, _, h, _, _, _ => by simp [putBack] at h
  | .p k :: rs, a :: as, S, S2, i, j, x, h, nd, hj, hx => by
    cases a with
    | q xs =>
      have h' : putBack (putAt S k xs) rs as = some S2 := h
      obtain ⟨n1, n2⟩ := List.nodup_cons.mp (show (k :: ptrs rs).Nodup from nd)
      cases j with
      | zero =>
        have e : k = i := by simpa using hj
        subst e
        exact ⟨xs, rfl, by rw [putBack_out h' n1]; exact putAt_same hx⟩
      | succ j =>
        have hj' : rs[j]? = some (.p i) := by simpa using hj
        have ne : k ≠ i := fun e => n1 (e ▸ mem_ptrs.mpr ⟨j, hj'⟩)
        obtain ⟨ys, h1, h2⟩ := putBack_in h' n2 hj' (x := x) (by rw [putAt_ne ne]; exact hx)
        exact ⟨ys, by simpa using h1, h2⟩
    | _ => simp [putBack] at h
  | .v d :: rs, a :: as, S, S2, i, j, x, h, nd, hj, hx => by
    cases j with
    | zero => simp at hj
    | succ j =>
      obtain ⟨ys, h1, h2⟩ := putBack_in (show putBack S rs as = some S2 from h) nd (show rs[j]? = some (.p i) by simpa using hj) hx
      exact ⟨ys, by simpa using h1, h2⟩
  | .s d :: rs, a :: as, S, S2, i, j, x, h, nd, hj, hx => by
    cases j with
    | zero => simp at hj
    | succ j =>
      obtain ⟨ys, h1, h2⟩ := putBack_in (show putBack S rs as = some S2 from h) nd (show rs[j]? = some (.p i) by simpa using hj) hx
      exact ⟨ys, by simpa using h1, h2⟩
theorem argsOf_len : ∀ {rs : List SV} {S : Sl} {as : List SL}, argsOf S rs = some as → as.length = rs.length
  | [], _, _, h => by cases h; rfl
  | r :: rs, S, as, h => by
    unfold argsOf at h
    split at h
    · rename_i a as' h1 h2
      cases h
      rw [List.length_cons, List.length_cons, argsOf_len h2]
    · cases h
theorem argsOf_at : ∀ {rs : List SV} {S : Sl} {as : List SL} {j : Nat} {a : SL}, argsOf S rs = some as → as[j]? = some a → ∃ r, rs[j]? = some r ∧ argOf S r = some a
  | [], _, _, _, _, h, e => by cases h; simp at e
  | r :: rs, S, as, j, a, h, e => by
    unfold argsOf at h
    split at h
    · rename_i a' as' h1 h2
      cases h
      cases j with
      | zero =>
        simp at e
        subst e
        exact ⟨r, rfl, h1⟩
      | succ j =>
        obtain ⟨r', h3, h4⟩ := argsOf_at h2 (j := j) (a := a) (by simpa using e)
        exact ⟨r', by simpa using h3, h4⟩
    · cases h
theorem argsOf_got : ∀ {rs : List SV} {S : Sl} {as : List SL} {j : Nat} {r : SV}, argsOf S rs = some as → rs[j]? = some r → ∃ a, as[j]? = some a ∧ argOf S r = some a
  | [], _, _, _, _, h, e => by simp at e
  | r' :: rs, S, as, j, r, h, e => by
    unfold argsOf at h
    split at h
    · rename_i a' as' h1 h2
      cases h
      cases j with
      | zero =>
        simp at e
        subst e
        exact ⟨a', rfl, h1⟩
      | succ j =>
        obtain ⟨a, h3, h4⟩ := argsOf_got h2 (j := j) (r := r) (by simpa using e)
        exact ⟨a, by simpa using h3, h4⟩
    · cases h
section
variable {K : PySem.W.Frag} {P F0 F F' : Hp} {qc cell : Nat → Addr} {S : Sl} {σ : L2.St} {H H' : Hp}
theorem VRs.at : ∀ {rs : List SV} {vs : List V} {j : Nat} {r : SV}, VRs K F cell rs vs → rs[j]? = some r → ∃ v, vs[j]? = some v ∧ VR K F cell r v
  | [], _, _, _, _, e => by simp at e
  | r' :: rs, _, j, r, ⟨v, ws, h1, h2, h3⟩, e => by
    subst h1
    cases j with
    | zero =>
      simp at e
      subst e
      exact ⟨v, rfl, h2⟩
    | succ j =>
      obtain ⟨u, h4, h5⟩ := VRs.at h3 (j := j) (r := r) (by simpa using e)
      exact ⟨u, by simpa using h4, h5⟩
theorem held_of {i : Nat} {xs : List PyData} (h : heldAt S i = some xs) : ∃ x : SL, S[i]? = some (some x) ∧ x.held = some xs := by
  unfold heldAt at h
  cases e : S[i]? with
  | none => rw [e] at h; cases h
  | some o =>
    cases o with
    | none => rw [e] at h; cases h
    | some x =>
      rw [e] at h
      exact ⟨x, rfl, h⟩
theorem SL.put_held {x : SL} {xs ys : List PyData} (h : x.held = some xs) : (x.put ys).held = some ys := by
  cases x with
  | c z => rfl
  | q z => rfl
  | v d => cases h
  | s ns => cases h
theorem SL.put_q {x : SL} {xs ys : List PyData} (h : x.put ys = .q xs) : ∃ z, x = .q z := by
  cases x with
  | q z => exact ⟨z, rfl⟩
  | c z => cases h
  | v d => cases h
  | s ns => cases h
theorem RC.fits (R : RC K P F0 qc F cell S σ H) {rs : List SV} {vs : List V} {as : List SL} (hv : VRs K F cell rs vs) (ha : argsOf S rs = some as) (nd : (ptrs rs).Nodup) : Fits K F H as vs := by
  refine ⟨by rw [hv.length, argsOf_len ha], fun j a e => ?_, fun i j x y c h1 h2 h3 h4 => ?_⟩
  · obtain ⟨r, hr, hra⟩ := argsOf_at ha e
    obtain ⟨v, h1, h2⟩ := hv.at hr
    refine ⟨v, h1, ?_⟩
    cases r with
    | v d => cases hra; exact h2
    | s ns => cases hra; exact h2
    | p i =>
      obtain ⟨xs, hx, rfl⟩ := Option.map_eq_some_iff.mp (show (heldAt S i).map SL.q = some a from hra)
      obtain ⟨_, h3, _, ws, h4, h5⟩ := R.at hx
      exact ⟨cell i, ws, h2, h3, h4, h5⟩
  · obtain ⟨r1, hr1, hra1⟩ := argsOf_at ha h1
    obtain ⟨r2, hr2, hra2⟩ := argsOf_at ha h2
    obtain ⟨v1, q1, q2⟩ := hv.at hr1
    obtain ⟨v2, q3, q4⟩ := hv.at hr2
    rw [h3] at q1
    rw [h4] at q3
    cases q1
    cases q3
    cases r1 with
    | v d => cases hra1
    | s ns => cases hra1
    | p k1 =>
      cases r2 with
      | v d => cases hra2
      | s ns => cases hra2
      | p k2 =>
        obtain ⟨xs, hx, _⟩ := Option.map_eq_some_iff.mp (show (heldAt S k1).map SL.q = some _ from hra1)
        obtain ⟨ys, hy, _⟩ := Option.map_eq_some_iff.mp (show (heldAt S k2).map SL.q = some _ from hra2)
        obtain ⟨x', e1, e2⟩ := held_of hx
        obtain ⟨y', e3, e4⟩ := held_of hy
        have c1 : V.ref c = .ref (cell k1) := q2
        have c2 : V.ref c = .ref (cell k2) := q4
        have e : cell k1 = cell k2 := by
          have := c1.symm.trans c2
          injection this
        have := R.inj k1 k2 x' y' e1 e3 (by rw [e2]; rfl) (by rw [e4]; rfl) e
        subst this
        exact ptrs_inj nd hr1 hr2
/-- behind a call -/
theorem RC.back (R : RC K P F0 qc F cell S σ H) {rs : List SV} {vs : List V} {as as' : List SL} {v : V} {d : PyData} {S2 : Sl} (hv : VRs K F cell rs vs) (ha : argsOf S rs = some as) (nd : (ptrs rs).Nodup) (B : Back K F H F' H' as vs as' v d)
    (hb : putBack S rs as' = some S2) : RC K P F0 qc F' cell S2 σ H' := by
  have lent : ∀ {i : Nat} {j : Nat}, rs[j]? = some (.p i) → vs[j]? = some (.ref (cell i)) := fun {i j} h => by
    obtain ⟨u, h1, h2⟩ := hv.at h
    rw [h1, show u = .ref (cell i) from h2]
  have isq : ∀ {j : Nat} {xs : List PyData} {b : Addr}, as[j]? = some (.q xs) → vs[j]? = some (.ref b) → ∃ i, rs[j]? = some (.p i) ∧ b = cell i := fun {j xs b} h1 h2 => by
    obtain ⟨r, hr, hra⟩ := argsOf_at ha h1
    cases r with
    | v d => cases hra
    | s ns => cases hra
    | p i =>
      refine ⟨i, hr, ?_⟩
      have := (lent hr).symm.trans h2
      injection this with this
      injection this with this
      exact this.symm
  have stay : ∀ b o, H b = some o → (∀ i, i ∈ ptrs rs → b ≠ cell i) → H' b = some o := fun b o h hn => by
    refine B.keep b o h fun j xs h1 h2 => ?_
    obtain ⟨i, h3, h4⟩ := isq h1 h2
    exact hn i (mem_ptrs.mpr ⟨j, h3⟩) h4
  have heldP : ∀ i, i ∈ ptrs rs → ∃ x xs, S[i]? = some (some x) ∧ x.held = some xs := fun i hi => by
    obtain ⟨j, hj⟩ := mem_ptrs.mp hi
    obtain ⟨a, h1, h2⟩ := argsOf_got ha hj
    obtain ⟨xs, hx, _⟩ := Option.map_eq_some_iff.mp (show (heldAt S i).map SL.q = some a from h2)
    obtain ⟨x, e1, e2⟩ := held_of hx
    exact ⟨x, xs, e1, e2⟩
  -- what stands in a slot behind the call
  have look : ∀ {i : Nat} {y : SL}, S2[i]? = some (some y) → (i ∉ ptrs rs ∧ S[i]? = some (some y)) ∨ (i ∈ ptrs rs ∧ ∃ (x : SL) (xs ys : List PyData) (j : Nat), S[i]? = some (some x) ∧ x.held = some xs ∧ rs[j]? = some (.p i) ∧ as'[j]? = some (.q ys) ∧ y = x.put ys) := fun {i y} h => by
    by_cases hi : i ∈ ptrs rs
    · obtain ⟨x, xs, e1, e2⟩ := heldP i hi
      obtain ⟨j, hj⟩ := mem_ptrs.mp hi
      obtain ⟨ys, h1, h2⟩ := putBack_in hb nd hj e1
      rw [h] at h2
      cases h2
      exact .inr ⟨hi, x, xs, ys, j, e1, e2, hj, h1, rfl⟩
    · exact .inl ⟨hi, by rw [← putBack_out hb hi]; exact h⟩
  refine ⟨by rw [putBack_len hb]; exact R.len, R.f0.trans B.f, B.fh, fun b o e => ?_, fun b z => ?_, fun i d' h => ?_, fun i ns h => ?_, fun i y ys h hy => ?_, fun i xs h => ?_, fun i j x y h1 h2 hx hy e => ?_⟩
  · refine stay b o (R.ph b o e) fun i hi q => ?_
    obtain ⟨x, xs, e1, e2⟩ := heldP i hi
    obtain ⟨_, _, h3, _⟩ := R.cl i x xs e1 e2
    subst q
    rw [h3] at e; cases e
  · rcases B.fr b z with z | z
    · exact R.fr b z
    · exact .inr (R.ph.free z)
  · rcases look h with ⟨_, h'⟩ | ⟨_, x, xs, ys, j, e1, e2, _, _, e5⟩
    · obtain ⟨u, h1, h2⟩ := R.vl i d' h'
      exact ⟨u, h1, h2.mono B.f⟩
    · have q := SL.put_held (ys := ys) e2
      rw [← e5] at q
      cases q
  · rcases look h with ⟨_, h'⟩ | ⟨_, x, xs, ys, j, e1, e2, _, _, e5⟩
    · obtain ⟨u, h1, h2⟩ := R.sc i ns h'
      exact ⟨u, h1, h2.mono B.f⟩
    · have q := SL.put_held (ys := ys) e2
      rw [← e5] at q
      cases q
  · have untold : ∀ {a : Addr}, F a = none → H a ≠ none → F' a = none := fun {a} h1 h2 => by
      cases q : F' a with
      | none => rfl
      | some u =>
        rcases B.fr a (by rw [q]; simp) with z | z
        · exact absurd h1 z
        · exact absurd z h2
    rcases look h with ⟨hi, h'⟩ | ⟨hi, x, xs, zs, j, e1, e2, e3, e4, e5⟩
    · obtain ⟨h1, h2, h3, ws, h4, h5⟩ := R.cl i y ys h' hy
      refine ⟨h1, untold h2 (by rw [h4]; simp), h3, ws, stay _ _ h4 fun k hk q => ?_, h5.mono B.f⟩
      obtain ⟨x, xs, e1, e2⟩ := heldP k hk
      have := R.inj i k y x h' e1 (by rw [hy]; rfl) (by rw [e2]; rfl) q
      subst this
      exact hi hk
    · obtain ⟨h1, h2, h3, ws, h4, h5⟩ := R.cl i x xs e1 e2
      obtain ⟨c, us, g1, g2, g3⟩ := B.qs j zs e4
      rw [lent e3] at g1
      cases g1
      have hz : zs = ys := by
        have q := SL.put_held (ys := zs) e2
        rw [← e5, hy] at q
        exact (Option.some.inj q).symm
      subst hz
      exact ⟨h1, untold h2 (by rw [h4]; simp), h3, us, g2, g3⟩
  · rcases look h with ⟨_, h'⟩ | ⟨_, x, ws, ys, j, e1, e2, _, _, e5⟩
    · exact R.qs i xs h'
    · obtain ⟨z, hz⟩ := SL.put_q e5.symm
      subst hz
      exact R.qs i z e1
  · have old : ∀ {i : Nat} {y : SL}, S2[i]? = some (some y) → y.held.isSome = true → ∃ x : SL, S[i]? = some (some x) ∧ x.held.isSome = true := fun {i y} h hy => by
      rcases look h with ⟨_, h'⟩ | ⟨_, x, ws, ys, j, e1, e2, _, _, e5⟩
      · exact ⟨y, h', hy⟩
      · exact ⟨x, e1, by rw [e2]; rfl⟩
    obtain ⟨x', g1, g2⟩ := old h1 hx
    obtain ⟨y', g3, g4⟩ := old h2 hy
    exact R.inj i j x' y' g1 g3 g2 g4 e
end
section
variable {X : Cx} {CX : CXT} {k n : Nat} {f : Addr} {fd : FuncData} {ps ks : List Str} {x : Str} {p pos : Pos} {e : Expr} {es : List Expr} {kws : List Keyword} {m : MF} {mas : MA}
theorem snd_callF {K : PySem.W.Frag} {ta : TA} (sa : SndA K ta mas) : SndE K (tCall (spM K n m) [] E0 ta) (mCallF n m mas) := by
  intro P F0 qc F cell S σ H Q z S' R hm k
  unfold mCallF at hm
  split at hm
  · cases hm
  · rename_i rs S1 e1
    split at hm
    · rename_i hc
      split at hm
      · cases hm
      · rename_i as ha
        split at hm
        · cases hm
        · rename_i d as' hd
          split at hm
          · cases hm
          · rename_i S2 hb
            cases hm
            refine sa P F0 qc F cell S σ H _ rs S1 R e1 fun vs F1 H1 s1 R1 q1 => ?_
            show spM K n m (vs ++ []) H1 Q E0
            rw [List.append_nil]
            refine ⟨by rw [q1.length]; exact hc.1, F1, as, d, as', R1.fh, R1.fits q1 ha hc.2, hd, fun v F' H' B => ?_⟩
            exact k v F' H' (s1.trans B.f) (R1.back q1 ha hc.2 B hb) B.dv
    · cases hm
/-- f(e, ..) -/
theorem je_callF (G : FnG X.prog X.w X.K X.mg X.base CX0 k f fd ps (spM X.K n m)) (gd : X.A.guards = some []) (hr : Room k X.A) (hm : X.mg x = some (.ref f)) (hk : PySem.W.keepIn X.K (.ref f) = true) (hb : Binds X.K fd ps []) (ha : JA X (e :: es) mas)
    (hg : Gl X x := by rfl) (hdb : (x == ("__debug__" : Str)) = false := by decide) (he : starEach (e :: es) X.env = (false, eval e X.env) :: starEach es X.env := by rfl) (hpl : (backTo pos (starEach es X.env)).any (·.1) = false := by rfl) :
    JE X (.Call (.Name x p) (e :: es) [] pos) (mCallF n m mas) := by
  obtain ⟨ta, pa, sa⟩ := ha.ex
  exact ⟨_, pe_callG G gd hr hg hm hk hb .nil pass0 pa hdb he hpl, snd_callF sa⟩
end
end VL

set_option Elab.async false
set_option linter.all false
set_option maxRecDepth 100000
set_option maxHeartbeats 4000000
/-! VL8: statements: «st is m». -/
namespace VL
open PySem PySem.Spec PyProof.Rows L2

def FlK (K : PySem.W.Frag) (W : WX) (F : Hp) (cell : Nat → Addr) (fl : Fl) (D : Ends) (σ : L2.St) (H : Hp) : Prop :=
  match fl with
  | .nx => D.nx σ H
  | .bk => D.bk σ H
  | .ct => D.ct σ H
  | .rt r => ∀ v, VR K F cell r v → D.rt v H
  | .rz c fs => ∀ (C dd : Addr) (vs : List V), PySem.W.nsIn K mainGlobals c = some (some (.ref C)) → F dd = some (.xd ((fs.map (·.1)).zip vs)) → DVs K F vs (fs.map (·.2)) → W (.ref C) (some dd) σ H
def SndS (K : PySem.W.Frag) (W : WX) (t : TS) (m : MS) : Prop :=
  ∀ (P F0 : Hp) (qc : Nat → Addr) (F : Hp) (cell : Nat → Addr) (S : Sl) (σ : L2.St) (H : Hp) (D : Ends) (fl : Fl) (S' : Sl), RC K P F0 qc F cell S σ H → m S = some (fl, S') →
    (∀ F' cell' σ' H', Same F F' → RC K P F0 qc F' cell' S' σ' H' → FlK K W F' cell' fl D σ' H') → t D σ H
structure JS (X : Cx) (W : WX) (st : Stmt) (m : MS) : Prop where
  ex : ∃ t, PS X st t ∧ SndS X.K W t m
structure JB (X : Cx) (W : WX) (sts : List Stmt) (m : MS) : Prop where
  ex : ∃ t, PSs X sts t ∧ SndS X.K W t m
/-- nothing is let out -/
def W0 : WX := fun _ _ _ _ => False

/-! ### slots changed -/
section
variable {K : PySem.W.Frag} {P F0 F F' : Hp} {qc cell : Nat → Addr} {S : Sl} {σ : L2.St} {H H' : Hp}
theorem get_set {α : Type} {l : List α} {i j : Nat} {a b : α} (h : (l.set i a)[j]? = some b) : (i = j ∧ b = a ∧ i < l.length) ∨ (i ≠ j ∧ l[j]? = some b) := by
  rw [List.getElem?_set] at h
  by_cases e : i = j
  · subst e
    rw [if_pos rfl] at h
    split at h
    · cases h
      exact .inl ⟨rfl, rfl, by assumption⟩
    · cases h
  · rw [if_neg e] at h
    exact .inr ⟨e, h⟩
theorem RC.setV (R : RC K P F0 qc F cell S σ H) {i : Nat} {v : V} {d : PyData} (h : DV K F v d) : RC K P F0 qc F cell (S.set i (some (.v d))) (σ.set i (some v)) H := by
  refine ⟨by rw [List.length_set, List.length_set]; exact R.len, R.f0, R.fh, R.ph, R.fr, fun j d' e => ?_, fun j ns e => ?_, fun j x xs e hx => ?_, fun j xs e => ?_, fun j k x y e1 e2 hx hy => ?_⟩
  · rcases get_set e with ⟨rfl, e2, hl⟩ | ⟨ne, e⟩
    · cases e2
      exact ⟨v, by rw [List.getElem?_set_self (by rw [← R.len]; exact hl)], h⟩
    · obtain ⟨u, h1, h2⟩ := R.vl j d' e
      exact ⟨u, by rw [List.getElem?_set_ne ne]; exact h1, h2⟩
  · rcases get_set e with ⟨rfl, e2, hl⟩ | ⟨ne, e⟩
    · cases e2
    · obtain ⟨u, h1, h2⟩ := R.sc j ns e
      exact ⟨u, by rw [List.getElem?_set_ne ne]; exact h1, h2⟩
  · rcases get_set e with ⟨rfl, e2, hl⟩ | ⟨ne, e⟩
    · cases e2
      cases hx
    · obtain ⟨h1, h2⟩ := R.cl j x xs e hx
      exact ⟨by rw [List.getElem?_set_ne ne]; exact h1, h2⟩
  · rcases get_set e with ⟨rfl, e2, hl⟩ | ⟨ne, e⟩
    · cases e2
    · exact R.qs j xs e
  · rcases get_set e1 with ⟨rfl, e3, hl⟩ | ⟨ne, e1⟩
    · cases e3
      cases hx
    · rcases get_set e2 with ⟨rfl, e4, hl⟩ | ⟨ne2, e2⟩
      · cases e4
        cases hy
      · exact R.inj j k x y e1 e2 hx hy
/-- a list that is not told becomes slot i's own -/
theorem RC.setC (R : RC K P F0 qc F cell S σ H) {i : Nat} {p : Addr} {vs : List V} {ds : List PyData} (hF : F p = none) (hP : P p = none) (ap : Apart S cell p) (hH : H p = some (.lst vs)) (h : DVs K F vs ds) :
    RC K P F0 qc F (fun j => if j = i then p else cell j) (S.set i (some (.c ds))) (σ.set i (some (.ref p))) H := by
  refine ⟨by rw [List.length_set, List.length_set]; exact R.len, R.f0, R.fh, R.ph, R.fr, fun j d' e => ?_, fun j ns e => ?_, fun j x xs e hx => ?_, fun j xs e => ?_, fun j k x y e1 e2 hx hy he => ?_⟩
  · rcases get_set e with ⟨rfl, e2, hl⟩ | ⟨ne, e⟩
    · cases e2
    · obtain ⟨u, h1, h2⟩ := R.vl j d' e
      exact ⟨u, by rw [List.getElem?_set_ne ne]; exact h1, h2⟩
  · rcases get_set e with ⟨rfl, e2, hl⟩ | ⟨ne, e⟩
    · cases e2
    · obtain ⟨u, h1, h2⟩ := R.sc j ns e
      exact ⟨u, by rw [List.getElem?_set_ne ne]; exact h1, h2⟩
  · rcases get_set e with ⟨rfl, e2, hl⟩ | ⟨ne, e⟩
    · cases e2
      cases hx
      rw [if_pos rfl]
      exact ⟨by rw [List.getElem?_set_self (by rw [← R.len]; exact hl)], hF, hP, vs, hH, h⟩
    · obtain ⟨h1, h2⟩ := R.cl j x xs e hx
      rw [if_neg (Ne.symm ne)]
      exact ⟨by rw [List.getElem?_set_ne ne]; exact h1, h2⟩
  · rcases get_set e with ⟨rfl, e2, hl⟩ | ⟨ne, e⟩
    · cases e2
    · rw [if_neg (Ne.symm ne)]
      exact R.qs j xs e
  · rcases get_set e1 with ⟨rfl, e3, hl⟩ | ⟨ne, e1⟩
    · rcases get_set e2 with ⟨rfl, e4, hl⟩ | ⟨ne2, e2⟩
      · rfl
      · rw [if_pos rfl, if_neg (Ne.symm ne2)] at he
        exact absurd he.symm (ap k y e2 hy)
    · rcases get_set e2 with ⟨rfl, e4, hl⟩ | ⟨ne2, e2⟩
      · rw [if_pos rfl, if_neg (Ne.symm ne)] at he
        exact absurd he (ap j x e1 hx)
      · rw [if_neg (Ne.symm ne), if_neg (Ne.symm ne2)] at he
        exact R.inj j k x y e1 e2 hx hy he
/-- slot i's own list is told from now on -/
theorem RC.freeze (R : RC K P F0 qc F cell S σ H) {i : Nat} {xs : List PyData} (h : S[i]? = some (some (.c xs))) : ∃ F' v, Same F F' ∧ DV K F' v (.list xs) ∧ v = .ref (cell i) ∧ RC K P F0 qc F' cell (S.set i (some (.v (.list xs)))) σ H := by
  obtain ⟨h1, h2, h3, vs, h4, h5⟩ := R.cl i _ xs h rfl
  have sF : Same F (upd F (cell i) (.lst vs)) := same_new h2
  have dv : DV K (upd F (cell i) (.lst vs)) (.ref (cell i)) (.list xs) := .lst upd_same (h5.mono sF)
  refine ⟨_, _, sF, dv, rfl, ⟨by rw [List.length_set]; exact R.len, R.f0.trans sF, fun b o e => ?_, R.ph, fun b z => ?_, fun j d' e => ?_, fun j ns e => ?_, fun j x ys e hx => ?_, fun j ys e => ?_, fun j k x y e1 e2 hx hy he => ?_⟩⟩
  · by_cases q : b = cell i
    · subst q
      rw [upd_same] at e
      cases e
      exact h4
    · rw [upd_ne q] at e
      exact R.fh b o e
  · by_cases q : b = cell i
    · subst q
      exact .inr h3
    · rw [upd_ne q] at z
      exact R.fr b z
  · rcases get_set e with ⟨rfl, e2, hl⟩ | ⟨ne, e⟩
    · cases e2
      exact ⟨_, h1, dv⟩
    · obtain ⟨u, h1, h2⟩ := R.vl j d' e
      exact ⟨u, h1, h2.mono sF⟩
  · rcases get_set e with ⟨rfl, e2, hl⟩ | ⟨ne, e⟩
    · cases e2
    · obtain ⟨u, h1, h2⟩ := R.sc j ns e
      exact ⟨u, h1, h2.mono sF⟩
  · rcases get_set e with ⟨rfl, e2, hl⟩ | ⟨ne, e⟩
    · cases e2
      cases hx
    · obtain ⟨g1, g2, g3, ws, g4, g5⟩ := R.cl j x ys e hx
      have nc : cell j ≠ cell i := fun q => ne (R.inj i j _ x h e rfl (by rw [hx]; rfl) q.symm)
      exact ⟨g1, by rw [upd_ne nc]; exact g2, g3, ws, g4, g5.mono sF⟩
  · rcases get_set e with ⟨rfl, e2, hl⟩ | ⟨ne, e⟩
    · cases e2
    · exact R.qs j ys e
  · rcases get_set e1 with ⟨rfl, e3, hl⟩ | ⟨ne, e1⟩
    · cases e3
      cases hx
    · rcases get_set e2 with ⟨rfl, e4, hl⟩ | ⟨ne2, e2⟩
      · cases e4
        cases hy
      · exact R.inj j k x y e1 e2 hx hy he
/-- a slot's list is changed -/
theorem RC.mutate (R : RC K P F0 qc F cell S σ H) {i : Nat} {xs ys : List PyData} {ws : List V} (h : heldAt S i = some xs) (hw : DVs K F ws ys) : RC K P F0 qc F cell (putAt S i ys) σ (upd H (cell i) (.lst ws)) := by
  obtain ⟨x0, hx0, hh0⟩ := held_of h
  obtain ⟨h1, h2, h3, vs, h4, h5⟩ := R.cl i x0 xs hx0 hh0
  have look : ∀ {j : Nat} {y : SL}, (putAt S i ys)[j]? = some (some y) → (i = j ∧ y = x0.put ys) ∨ (i ≠ j ∧ S[j]? = some (some y)) := fun {j y} e => by
    by_cases q : i = j
    · subst q
      rw [putAt_same hx0] at e
      cases e
      exact .inl ⟨rfl, rfl⟩
    · rw [putAt_ne q] at e
      exact .inr ⟨q, e⟩
  have hp : (x0.put ys).held = some ys := SL.put_held hh0
  refine ⟨by rw [putAt_len]; exact R.len, R.f0, fun b o e => ?_, fun b o e => ?_, R.fr, fun j d' e => ?_, fun j ns e => ?_, fun j y zs e hy => ?_, fun j zs e => ?_, fun j k x y e1 e2 hx hy he => ?_⟩
  · have ne : b ≠ cell i := fun q => by subst q; rw [h2] at e; cases e
    rw [upd_ne ne]
    exact R.fh b o e
  · have ne : b ≠ cell i := fun q => by subst q; rw [h3] at e; cases e
    rw [upd_ne ne]
    exact R.ph b o e
  · rcases look e with ⟨rfl, e2⟩ | ⟨ne, e⟩
    · rw [← e2] at hp; cases hp
    · exact R.vl j d' e
  · rcases look e with ⟨rfl, e2⟩ | ⟨ne, e⟩
    · rw [← e2] at hp; cases hp
    · exact R.sc j ns e
  · rcases look e with ⟨rfl, e2⟩ | ⟨ne, e⟩
    · rw [e2, hp] at hy
      cases hy
      exact ⟨h1, h2, h3, ws, upd_same, hw⟩
    · obtain ⟨g1, g2, g3, us, g4, g5⟩ := R.cl j y zs e hy
      have nc : cell j ≠ cell i := fun q => ne (R.inj i j _ y hx0 e (by rw [hh0]; rfl) (by rw [hy]; rfl) q.symm)
      exact ⟨g1, g2, g3, us, by rw [upd_ne nc]; exact g4, g5⟩
  · rcases look e with ⟨rfl, e2⟩ | ⟨ne, e⟩
    · obtain ⟨z, hz⟩ := SL.put_q e2.symm
      subst hz
      exact R.qs i z hx0
    · exact R.qs j zs e
  · have old : ∀ {j : Nat} {y : SL}, (putAt S i ys)[j]? = some (some y) → y.held.isSome = true → ∃ x : SL, S[j]? = some (some x) ∧ x.held.isSome = true := fun {j y} e hy => by
      rcases look e with ⟨rfl, e2⟩ | ⟨ne, e⟩
      · exact ⟨x0, hx0, by rw [hh0]; rfl⟩
      · exact ⟨y, e, hy⟩
    obtain ⟨x', g1, g2⟩ := old e1 hx
    obtain ⟨y', g3, g4⟩ := old e2 hy
    exact R.inj j k x' y' g1 g3 g2 g4 he
end

/-! ### the functions -/
def mNil : MS := fun S => some (.nx, S)
def mSeq (m n : MS) : MS := fun S => match m S with
  | some (.nx, S1) => n S1
  | some (.bk, S1) => some (.bk, S1)
  | some (.ct, S1) => some (.ct, S1)
  | some (.rt r, S1) => some (.rt r, S1)
  | some (.rz c fs, S1) => some (.rz c fs, S1)
  | none => none
def mDrop (me : ME) : MS := fun S => match me S with
  | some (_, S1) => some (.nx, S1)
  | none => none
def mRet (me : ME) : MS := fun S => match me S with
  | some (.v d, S1) => some (.rt (.v d), S1)
  | some (.p i, S1) => match S1[i]? with
    | some (some (.c xs)) => some (.rt (.v (.list xs)), S1.set i (some (.v (.list xs))))
    | _ => none
  | _ => none
def mRetN : MS := fun S => some (.rt (.v .none), S)
def mBk : MS := fun S => some (.bk, S)
def mCt : MS := fun S => some (.ct, S)
def mIfS (mt : MT) (ma mb : MS) : MS := fun S => match mt S with
  | some (true, S1) => ma S1
  | some (false, S1) => mb S1
  | none => none
def mSet (i : Nat) (me : ME) : MS := fun S => match me S with
  | some (.v d, S1) => some (.nx, S1.set i (some (.v d)))
  | _ => none
/-- told from now on: a word between two statements -/
def mFrz (i : Nat) (m : MS) : MS := fun S => match S[i]? with
  | some (some (.c xs)) => m (S.set i (some (.v (.list xs))))
  | _ => none
def mAug (i : Nat) (f : PyData → PyData → Option PyData) (me : ME) : MS := fun S => match S[i]? with
  | some (some (.v d)) => match me S with
    | some (r, S1) => match deref S1 r with
      | some e => match f d e with
        | some z => some (.nx, S1.set i (some (.v z)))
        | none => none
      | none => none
    | none => none
  | _ => none
/-- x[i] = e, x slot j's list -/
def mPut (j : Nat) (mi me : ME) : MS := fun S => match me S with
  | some (.v d, S1) => match mi S1 with
    | some (.v (.int k), S2) => match heldAt S1 j, heldAt S2 j with
      | some _, some xs => match ixN xs.length k with
        | some n => some (.nx, putAt S2 j (xs.set n d))
        | none => none
      | _, _ => none
    | _ => none
  | _ => none
def mApp (j : Nat) (me : ME) : MS := fun S => match heldAt S j with
  | some _ => match me S with
    | some (.v d, S1) => match heldAt S1 j with
      | some xs => if xs.length < 100000 then some (.nx, putAt S1 j (xs ++ [d])) else none
      | none => none
    | _ => none
  | none => none
def mExt (j : Nat) (me : ME) : MS := fun S => match heldAt S j with
  | some _ => match me S with
    | some (.v (.list ys), S1) => match heldAt S1 j with
      | some xs => if xs.length + ys.length ≤ 100000 then some (.nx, putAt S1 j (xs ++ ys)) else none
      | none => none
    | _ => none
  | none => none
def mPopAt (j : Nat) (me : ME) : MS := fun S => match heldAt S j with
  | some _ => match me S with
    | some (.v (.int k), S1) => match heldAt S1 j with
      | some xs => match ixN xs.length k with
        | some n => if xs.length ≤ 100000 then some (.nx, putAt S1 j (xs.eraseIdx n)) else none
        | none => none
      | none => none
    | _ => none
  | none => none
def mIns (j : Nat) (mi me : ME) : MS := fun S => match heldAt S j with
  | some _ => match mi S with
    | some (.v (.int k), S1) => match me S1 with
      | some (.v d, S2) => match heldAt S2 j with
        | some xs => if xs.length < 100000 ∧ 0 ≤ k ∧ k ≤ 100000 then some (.nx, putAt S2 j (xs.take k.toNat ++ [d] ++ xs.drop k.toNat)) else none
        | none => none
      | _ => none
    | _ => none
  | none => none

section
variable {X : Cx} {W : WX} {st : Stmt} {rest : List Stmt} {e c a b o : Expr} {me mi : ME} {mt : MT} {m n : MS} {x : Str} {pos pos' : Pos} {as bs : List Stmt}
theorem jb_nil : JB X W [] mNil := ⟨_, pss_nil, fun P F0 qc F cell S σ H D fl S' R hm k => by
  cases hm
  exact k F cell σ H (Same.refl _) R⟩
theorem jb_cons (h1 : JS X W st m) (h2 : JB X W rest n) : JB X W (st :: rest) (mSeq m n) := by
  obtain ⟨t, p1, s1⟩ := h1.ex
  obtain ⟨u, p2, s2⟩ := h2.ex
  refine ⟨_, pss_cons p1 p2, fun P F0 qc F cell S σ H D fl S' R hm k => ?_⟩
  unfold mSeq at hm
  split at hm
  · rename_i S1 e1
    refine s1 P F0 qc F cell S σ H { D with nx := u D } .nx S1 R e1 fun F1 c1 σ1 H1 f1 R1 => ?_
    exact s2 P F0 qc F1 c1 S1 σ1 H1 D fl S' R1 hm fun F2 c2 σ2 H2 f2 R2 => k F2 c2 σ2 H2 (f1.trans f2) R2
  · rename_i S1 e1
    cases hm
    exact s1 P F0 qc F cell S σ H { D with nx := u D } .bk S' R e1 fun F1 c1 σ1 H1 f1 R1 => k F1 c1 σ1 H1 f1 R1
  · rename_i S1 e1
    cases hm
    exact s1 P F0 qc F cell S σ H { D with nx := u D } .ct S' R e1 fun F1 c1 σ1 H1 f1 R1 => k F1 c1 σ1 H1 f1 R1
  · rename_i r S1 e1
    cases hm
    exact s1 P F0 qc F cell S σ H { D with nx := u D } (.rt r) S' R e1 fun F1 c1 σ1 H1 f1 R1 => k F1 c1 σ1 H1 f1 R1
  · rename_i c fs S1 e1
    cases hm
    exact s1 P F0 qc F cell S σ H { D with nx := u D } (.rz c fs) S' R e1 fun F1 c1 σ1 H1 f1 R1 => k F1 c1 σ1 H1 f1 R1
  · cases hm
theorem jb_frz (i : Nat) (h : JB X W rest n) : JB X W rest (mFrz i n) := by
  obtain ⟨t, p, s⟩ := h.ex
  refine ⟨t, p, fun P F0 qc F cell S σ H D fl S' R hm k => ?_⟩
  unfold mFrz at hm
  split at hm
  · rename_i xs e1
    obtain ⟨F', v, f1, _, _, R1⟩ := R.freeze e1
    exact s P F0 qc F' cell _ σ H D fl S' R1 hm fun F2 c2 σ2 H2 f2 R2 => k F2 c2 σ2 H2 (f1.trans f2) R2
  · cases hm
theorem js_pass : JS X W (.Pass pos) mNil := ⟨_, ps_pass, fun P F0 qc F cell S σ H D fl S' R hm k => by
  cases hm
  exact k F cell σ H (Same.refl _) R⟩
theorem js_break : JS X W (.Break pos) mBk := ⟨_, ps_break, fun P F0 qc F cell S σ H D fl S' R hm k => by
  cases hm
  exact k F cell σ H (Same.refl _) R⟩
theorem js_continue : JS X W (.Continue pos) mCt := ⟨_, ps_continue, fun P F0 qc F cell S σ H D fl S' R hm k => by
  cases hm
  exact k F cell σ H (Same.refl _) R⟩
theorem js_expr (he : JE X e me) (hs : swapsWith e none pos.line X.env = pure false := by rfl) : JS X W (.Expr e pos) (mDrop me) := by
  obtain ⟨t, p, s⟩ := he.ex
  refine ⟨_, ps_expr p hs, fun P F0 qc F cell S σ H D fl S' R hm k => ?_⟩
  unfold mDrop at hm
  split at hm
  · rename_i r S1 e1
    cases hm
    exact s P F0 qc F cell S σ H _ r S' R e1 fun v F1 H1 f1 R1 _ => k F1 cell σ H1 f1 R1
  · cases hm
theorem js_ret (he : JE X e me) : JS X W (.Return (some e) pos) (mRet me) := by
  obtain ⟨t, p, s⟩ := he.ex
  refine ⟨_, ps_ret p, fun P F0 qc F cell S σ H D fl S' R hm k => ?_⟩
  unfold mRet at hm
  split at hm
  · rename_i d S1 e1
    cases hm
    exact s P F0 qc F cell S σ H _ _ S' R e1 fun v F1 H1 f1 R1 q1 => k F1 cell σ H1 f1 R1 v q1
  · rename_i i S1 e1
    split at hm
    · rename_i xs e2
      cases hm
      refine s P F0 qc F cell S σ H _ _ S1 R e1 fun v F1 H1 f1 R1 q1 => ?_
      obtain ⟨F2, u, f2, dv, rfl, R2⟩ := R1.freeze e2
      rw [show v = .ref (cell i) from q1]
      exact k F2 cell σ H1 (f1.trans f2) R2 _ dv
    · cases hm
  · cases hm
theorem js_retN : JS X W (.Return none pos) mRetN := ⟨_, ps_retN, fun P F0 qc F cell S σ H D fl S' R hm k => by
  cases hm
  exact k F cell σ H (Same.refl _) R _ .non⟩
theorem js_if (hc : JT X c mt) (ha : JB X W as m) (hb : JB X W bs n) : JS X W (.If c as bs pos) (mIfS mt m n) := by
  obtain ⟨tc, pc, sc⟩ := hc.ex
  obtain ⟨ta, pa, sa⟩ := ha.ex
  obtain ⟨tb, pb, sb⟩ := hb.ex
  refine ⟨_, ps_if pc pa pb, fun P F0 qc F cell S σ H D fl S' R hm k => ?_⟩
  unfold mIfS at hm
  split at hm
  · rename_i S1 e1
    refine sc P F0 qc F cell S σ H _ _ S1 R e1 fun F1 H1 f1 R1 => ?_
    rw [if_pos rfl]
    exact sa P F0 qc F1 cell S1 σ H1 D fl S' R1 hm fun F2 c2 σ2 H2 f2 R2 => k F2 c2 σ2 H2 (f1.trans f2) R2
  · rename_i S1 e1
    refine sc P F0 qc F cell S σ H _ _ S1 R e1 fun F1 H1 f1 R1 => ?_
    rw [if_neg Bool.false_ne_true]
    exact sb P F0 qc F1 cell S1 σ H1 D fl S' R1 hm fun F2 c2 σ2 H2 f2 R2 => k F2 c2 σ2 H2 (f1.trans f2) R2
  · cases hm
theorem js_set (i : Nat) (hN : X.N.Nodup) (he : JE X e me) (hi : X.N[i]? = some x := by rfl) (hx : Loc X.env.scope x := by first | exact Or.inl rfl | exact Or.inr rfl) (hs : swapsWith e (some (.Name x pos')) pos.line X.env = pure false := by rfl)
    (hf : X.fn x = true ∨ X.env.scope.names.lookup x = some .local := by first | exact .inl rfl | exact .inr rfl) : JS X W (.Assign [.Name x pos'] e pos) (mSet i me) := by
  obtain ⟨t, p, s⟩ := he.ex
  refine ⟨_, ps_set hN hi hx p hs hf, fun P F0 qc F cell S σ H D fl S' R hm k => ?_⟩
  unfold mSet at hm
  split at hm
  · rename_i d S1 e1
    cases hm
    exact s P F0 qc F cell S σ H _ _ S1 R e1 fun v F1 H1 f1 R1 q1 => k F1 cell _ H1 f1 (R1.setV q1)
  · cases hm
theorem js_aug (i : Nat) {op : Operator} {r : R2} {f : PyData → PyData → Option PyData} (ho : OpR X (inplaceOp op) r) (hs : OpS X.K r f) (hN : X.N.Nodup) (he : JE X e me) (hi : X.N[i]? = some x := by rfl) (hx : Loc X.env.scope x := by first | exact Or.inl rfl | exact Or.inr rfl)
    (hf : X.fn x = true ∨ X.env.scope.names.lookup x = some .local := by first | exact .inl rfl | exact .inr rfl) : JS X W (.AugAssign (.Name x pos') op e pos) (mAug i f me) := by
  obtain ⟨t, p, s⟩ := he.ex
  refine ⟨_, ps_aug (ti := r) hN hi hx p ho hf, fun P F0 qc F cell S σ H D fl S' R hm k => ?_⟩
  unfold mAug at hm
  split at hm
  · rename_i d e0
    split at hm
    · rename_i rr S1 e1
      split at hm
      · rename_i dd e2
        split at hm
        · rename_i z e3
          cases hm
          obtain ⟨v0, h1, h2⟩ := R.vl i d e0
          refine ⟨v0, h1, s P F0 qc F cell S σ H _ _ S1 R e1 fun v F1 H1 f1 R1 q1 => ?_⟩
          refine hs F1 H1 v0 v d dd z _ R1.fh (.inl (h2.mono f1)) (R1.deref q1 e2) e3 fun w F2 H2 ex dv => ?_
          exact k F2 cell _ H2 (f1.trans ex.f) ((R1.ext ex).setV dv)
        · cases hm
      · cases hm
    · cases hm
  · cases hm
abbrev rIAddA : R2 := fun x y H Q => (∃ i j, x = V.int i ∧ y = V.int j ∧ Q (V.int (i + j)) H) ∨ (∃ i j, x = .str i ∧ y = .str j ∧ i.length + j.length ≤ sizeLine ∧ Q (.str (i ++ j)) H)
theorem iop_addA : OpR X (inplaceOp .Add) rIAddA := OpR.or iop_add iop_add_str
def iaddD : PyData → PyData → Option PyData
  | .int i, .int j => some (.int (i + j))
  | .str a, .str b => if a.length + b.length ≤ 100000 then some (.str (a ++ b)) else none
  | _, _ => none
theorem ops_iadd {K : PySem.W.Frag} : OpS K rIAddA iaddD := by
  intro F H x y d e z Q fh hx hy hf k
  unfold iaddD at hf
  split at hf
  · cases hf
    exact .inl ⟨_, _, hx.int, hy.int, k _ _ _ (Ext.refl fh) (.int _)⟩
  · split at hf
    · rename_i hl
      cases hf
      exact .inr ⟨_, _, hx.str, hy.str, small5 hl, k _ _ _ (Ext.refl fh) (.str _)⟩
    · cases hf
  · cases hf
theorem js_iadd (i : Nat) (hN : X.N.Nodup) (he : JE X e me) (hi : X.N[i]? = some x := by rfl) (hx : Loc X.env.scope x := by first | exact Or.inl rfl | exact Or.inr rfl)
    (hf : X.fn x = true ∨ X.env.scope.names.lookup x = some .local := by first | exact .inl rfl | exact .inr rfl) : JS X W (.AugAssign (.Name x pos') .Add e pos) (mAug i iaddD me) := js_aug i iop_addA ops_iadd hN he hi hx hf
theorem held_var {S : Sl} {j : Nat} {xs : List PyData} (h : heldAt S j = some xs) : mVar j S = some (.p j, S) := by
  obtain ⟨y, h1, h2⟩ := held_of h
  unfold mVar
  rw [h1]
  cases y with
  | c z => rfl
  | q z => rfl
  | v d => cases h2
  | s ns => cases h2
theorem js_put {p1 : Pos} (j : Nat) (he : JE X e me) (hix : JE X a mi) (hN : X.N[j]? = some x := by rfl) (hv : Vis X.env.scope x := by first | exact Or.inl rfl | exact Or.inr (Or.inl rfl) | exact Or.inr (Or.inr rfl)) (hd : (x == ("__debug__" : Str)) = false := by decide)
    (hcd : (x == ("__classdict__" : Str)) = false := by decide)
    (hs : swapsWithSole [.Subscript (.Name x p1) a pos'] e pos.line X.env = pure false := by rfl) (hw : swappedStores [.Subscript (.Name x p1) a pos'] e X.env = pure none := by rfl)
    (h1 : (assignEach [.Subscript (.Name x p1) a pos'] X.env).map (·.2) = [assign (.Subscript (.Name x p1) a pos') X.env] := by rfl)
    (ha : ∀ v, assign (.Subscript (.Name x p1) a pos') X.env v = (do
      let ov ← holding [v] (eval (.Name x p1) X.env)
      let iv ← holding [v, ov] (eval a X.env)
      standAt pos'
      holding [v, ov, iv] (setItem ov iv v)
      release [v, ov, iv] []) := by intro _; rfl) : JS X W (.Assign [.Subscript (.Name x p1) a pos'] e pos) (mPut j mi me) := by
  obtain ⟨t, p, s⟩ := he.ex
  obtain ⟨ti, pi, si⟩ := hix.ex
  refine ⟨_, ps_asg p (pg_sub (pe_var hN hv hd hcd) pi set_list ha) hs hw h1, fun P F0 qc F cell S σ H D fl S' R hm k => ?_⟩
  unfold mPut at hm
  split at hm
  · rename_i d S1 e1
    split at hm
    · rename_i kk S2 e2
      split at hm
      · rename_i zs xs h3 h4
        split at hm
        · rename_i n h5
          cases hm
          refine s P F0 qc F cell S σ H _ _ S1 R e1 fun v F1 H1 f1 R1 q1 => ?_
          obtain ⟨g1, _⟩ := R1.at h3
          refine ⟨_, g1, si P F0 qc F1 cell S1 σ H1 _ _ S2 R1 e2 fun w F2 H2 f2 R2 q2 => ?_⟩
          obtain ⟨_, g2, g3, ws, g4, g5⟩ := R2.at h4
          cases (show DV X.K F2 w (.int kk) from q2)
          refine ⟨_, ws, kk, n, rfl, rfl, g4, by rw [g5.length]; exact h5, ?_⟩
          exact k F2 cell σ _ (f1.trans f2) (R2.mutate h4 (DVs.set (DV.mono f2 q1) n g5))
        · cases hm
      · cases hm
    · cases hm
  · cases hm
section
variable {p1 apos cpos : Pos}
theorem snd_bm1 {K : PySem.W.Frag} {id : String} {r : V → List V → Hp → VK → Prop} {te : TE} {j : Nat} {m : MS} (se : SndE K te me) (hmd : ∀ S fl S', m S = some (fl, S') → ∃ zs d S1, heldAt S j = some zs ∧ me S = some (.v d, S1) ∧ fl = .nx ∧ ∃ xs ys, heldAt S1 j = some xs ∧ S' = putAt S1 j ys ∧
    ∀ (F H : Hp) (c : Addr) (v : V) (ws : List V) (Q : VK), Same F H → H c = some (.lst ws) → DVs K F ws xs → DV K F v d → (∀ us u, DVs K F us ys → Q u (upd H c (.lst us))) → r (.ref c) [v] H Q) :
    SndS K W (tDrop (tBM K "list" r (tVar j) (tCons te tNil))) m := by
  intro P F0 qc F cell S σ H D fl S' R hm k
  obtain ⟨zs, d, S1, h1, h2, rfl, xs, ys, h3, rfl, hr⟩ := hmd S fl S' hm
  obtain ⟨g1, _, _, vs0, g0, _⟩ := R.at h1
  refine ⟨_, g1, .inl ⟨rfl, vs0, SqL.of g0⟩, ?_⟩
  refine se P F0 qc F cell S σ H _ _ S1 R h2 fun v F1 H1 f1 R1 q1 => ?_
  obtain ⟨_, _, _, ws, g4, g5⟩ := R1.at h3
  exact hr F1 H1 (cell j) v ws _ R1.fh g4 g5 q1 fun us u hu => k F1 cell σ _ f1 (R1.mutate h3 hu)
theorem js_app (j : Nat) (he : JE X e me) (hN : X.N[j]? = some x := by rfl) (hv : Vis X.env.scope x := by first | exact Or.inl rfl | exact Or.inr (Or.inl rfl) | exact Or.inr (Or.inr rfl)) (hd : (x == ("__debug__" : Str)) = false := by decide)
    (hcd : (x == ("__classdict__" : Str)) = false := by decide)
    (hbase : attributeBase (.Name x p1) "append" X.env (eval (.Name x p1) X.env) = eval (.Name x p1) X.env := by rfl)
    (hfew : ((backTo cpos (starEach [e] X.env)).all (fun x => !x.1) && (backToKw cpos (keywordEach [] X.env)).all (fun x => x.1.isSome)
      && decide ([e].length + ([] : List Keyword).length + (if ([] : List Keyword).isEmpty then 0 else 1) < 30)) = true := by rfl)
    (hline : (apos.endLine == cpos.line) = true := by rfl) (hst : starEach [e] X.env = (false, eval e X.env) :: starEach [] X.env := by rfl) (hplain : (backTo cpos (starEach [] X.env)).any (·.1) = false := by rfl)
    (hs : swapsWith (.Call (.Attribute (.Name x p1) "append" apos) [e] [] cpos) none pos.line X.env = pure false := by rfl) :
    JS X W (.Expr (.Call (.Attribute (.Name x p1) "append" apos) [e] [] cpos) pos) (mApp j me) := by
  obtain ⟨t, p, s⟩ := he.ex
  refine ⟨_, ps_expr (pe_bm PySem.F.plainAttrs_list PySem.F.slot_list_append PySem.F.type_list_append mt_append (pe_var hN hv hd hcd) (pa_cons p pa_nil hst) hbase hfew hline hst hplain) hs, snd_bm1 (id := "list.append") s fun S fl S' hm => ?_⟩
  unfold mApp at hm
  split at hm
  · rename_i zs h1
    split at hm
    · rename_i d S1 h2
      split at hm
      · rename_i xs h3
        split at hm
        · rename_i hl
          cases hm
          refine ⟨zs, d, S1, h1, h2, rfl, xs, _, h3, rfl, fun F H c v ws Q fh hc hws hv k => ?_⟩
          refine ⟨c, ws, v, rfl, rfl, hc, ?_, ?_⟩
          · rw [hws.length]
            exact Nat.lt_of_lt_of_le hl (by decide)
          · exact k _ _ (hws.append (.cons hv .nil))
        · cases hm
      · cases hm
    · cases hm
  · cases hm
theorem js_ext (j : Nat) (he : JE X e me) (hN : X.N[j]? = some x := by rfl) (hv : Vis X.env.scope x := by first | exact Or.inl rfl | exact Or.inr (Or.inl rfl) | exact Or.inr (Or.inr rfl)) (hd : (x == ("__debug__" : Str)) = false := by decide)
    (hcd : (x == ("__classdict__" : Str)) = false := by decide)
    (hbase : attributeBase (.Name x p1) "extend" X.env (eval (.Name x p1) X.env) = eval (.Name x p1) X.env := by rfl)
    (hfew : ((backTo cpos (starEach [e] X.env)).all (fun x => !x.1) && (backToKw cpos (keywordEach [] X.env)).all (fun x => x.1.isSome)
      && decide ([e].length + ([] : List Keyword).length + (if ([] : List Keyword).isEmpty then 0 else 1) < 30)) = true := by rfl)
    (hline : (apos.endLine == cpos.line) = true := by rfl) (hst : starEach [e] X.env = (false, eval e X.env) :: starEach [] X.env := by rfl) (hplain : (backTo cpos (starEach [] X.env)).any (·.1) = false := by rfl)
    (hs : swapsWith (.Call (.Attribute (.Name x p1) "extend" apos) [e] [] cpos) none pos.line X.env = pure false := by rfl) :
    JS X W (.Expr (.Call (.Attribute (.Name x p1) "extend" apos) [e] [] cpos) pos) (mExt j me) := by
  obtain ⟨t, p, s⟩ := he.ex
  refine ⟨_, ps_expr (pe_bm PySem.F.plainAttrs_list PySem.F.slot_list_extend PySem.F.type_list_extend mt_extend (pe_var hN hv hd hcd) (pa_cons p pa_nil hst) hbase hfew hline hst hplain) hs, snd_bm1 (id := "list.extend") s fun S fl S' hm => ?_⟩
  unfold mExt at hm
  split at hm
  · rename_i zs h1
    split at hm
    · rename_i ys S1 h2
      split at hm
      · rename_i xs h3
        split at hm
        · rename_i hl
          cases hm
          refine ⟨zs, _, S1, h1, h2, rfl, xs, _, h3, rfl, fun F H c v ws Q fh hc hws hv k => ?_⟩
          cases hv with
          | lst g1 g2 =>
            refine ⟨c, _, ws, _, rfl, rfl, hc, fh _ _ g1, ?_, ?_⟩
            · rw [hws.length, g2.length]
              exact small5 hl
            · exact k _ _ (hws.append g2)
        · cases hm
      · cases hm
    · cases hm
  · cases hm
theorem js_popAt (j : Nat) (he : JE X e me) (hN : X.N[j]? = some x := by rfl) (hv : Vis X.env.scope x := by first | exact Or.inl rfl | exact Or.inr (Or.inl rfl) | exact Or.inr (Or.inr rfl)) (hd : (x == ("__debug__" : Str)) = false := by decide)
    (hcd : (x == ("__classdict__" : Str)) = false := by decide)
    (hbase : attributeBase (.Name x p1) "pop" X.env (eval (.Name x p1) X.env) = eval (.Name x p1) X.env := by rfl)
    (hfew : ((backTo cpos (starEach [e] X.env)).all (fun x => !x.1) && (backToKw cpos (keywordEach [] X.env)).all (fun x => x.1.isSome)
      && decide ([e].length + ([] : List Keyword).length + (if ([] : List Keyword).isEmpty then 0 else 1) < 30)) = true := by rfl)
    (hline : (apos.endLine == cpos.line) = true := by rfl) (hst : starEach [e] X.env = (false, eval e X.env) :: starEach [] X.env := by rfl) (hplain : (backTo cpos (starEach [] X.env)).any (·.1) = false := by rfl)
    (hs : swapsWith (.Call (.Attribute (.Name x p1) "pop" apos) [e] [] cpos) none pos.line X.env = pure false := by rfl) :
    JS X W (.Expr (.Call (.Attribute (.Name x p1) "pop" apos) [e] [] cpos) pos) (mPopAt j me) := by
  obtain ⟨t, p, s⟩ := he.ex
  refine ⟨_, ps_expr (pe_bm PySem.F.plainAttrs_list PySem.F.slot_list_pop PySem.F.type_list_pop mt_popAt (pe_var hN hv hd hcd) (pa_cons p pa_nil hst) hbase hfew hline hst hplain) hs, snd_bm1 (id := "list.pop") s fun S fl S' hm => ?_⟩
  unfold mPopAt at hm
  split at hm
  · rename_i zs h1
    split at hm
    · rename_i kk S1 h2
      split at hm
      · rename_i xs h3
        split at hm
        · rename_i nn h4
          split at hm
          · rename_i hl
            cases hm
            refine ⟨zs, _, S1, h1, h2, rfl, xs, _, h3, rfl, fun F H c v ws Q fh hc hws hv k => ?_⟩
            cases hv
            obtain ⟨q1, q2, q3, q4⟩ := ixN_seq h4
            have hn : nn < ws.length := by rw [hws.length]; exact q2
            refine ⟨c, ws, kk, nn, ws[nn], rfl, rfl, hc, by omega, by omega, by rw [hws.length]; exact q1, by simp [hn], ?_⟩
            exact k _ _ (hws.eraseIdx nn)
          · cases hm
        · cases hm
      · cases hm
    · cases hm
  · cases hm
end
end
end VL

set_option Elab.async false
set_option linter.all false
set_option maxRecDepth 100000
set_option maxHeartbeats 4000000
/-! VL9: walks, for, comprehensions, targets; a def by its body. -/
namespace VL
open PySem PySem.Spec PyProof.Rows L2

/-! ### what a for walks -/
structure ItOk (K : PySem.W.Frag) (J : It) (F : Hp) (ds : List PyData) : Prop where
  ex : ∃ (G : Hp → Prop) (Y : Nat → Hp → V → Hp → Prop), Walk J ds.length G Y ∧ (∀ H, Same F H → G H) ∧
    ∀ (i : Nat) (H : Hp) (x : V) (H' F2 : Hp) (d : PyData), Same F F2 → Same F2 H → ds[i]? = some d → Y i H x H' → ∃ F3, Ext F2 H F3 H' ∧ DV K F3 x d
abbrev MI := Sl → Option (List PyData × Sl)
def SndI (K : PySem.W.Frag) (wi : TI) (m : MI) : Prop :=
  ∀ (P F0 : Hp) (qc : Nat → Addr) (F : Hp) (cell : Nat → Addr) (S : Sl) (σ : L2.St) (H : Hp) (R : It → Hp → Prop) (ds : List PyData) (S' : Sl), RC K P F0 qc F cell S σ H → m S = some (ds, S') →
    (∀ J F' H', Same F F' → RC K P F0 qc F' cell S' σ H' → ItOk K J F' ds → R J H') → wi σ H R
structure JI (X : Cx) (tg iter : Expr) (m : MI) : Prop where
  ex : ∃ wi, PI X tg iter wi ∧ SndI X.K wi m
theorem PI.or {X : Cx} {tg iter : Expr} {w1 w2 : TI} (h1 : PI X tg iter w1) (h2 : PI X tg iter w2) : PI X tg iter (fun σ H R => w1 σ H R ∨ w2 σ H R) :=
  ⟨fun pins s σ H R I h => by
    rcases h with h | h
    · exact h1.run pins s σ H R I h
    · exact h2.run pins s σ H R I h⟩
section
variable {K : PySem.W.Frag} {F : Hp} {vs : List V} {ds : List PyData} {a : Addr}
theorem itok_list (h : F a = some (.lst vs)) (hv : DVs K F vs ds) : ItOk K (Itl K a) F ds := by
  refine ⟨_, _, by rw [← hv.length]; exact walk_list (a := a) (xs := vs), fun H e => SqL.of (e _ _ h), fun i H x H' F2 d e1 e2 hd y => ?_⟩
  obtain ⟨rfl, hx⟩ := y
  obtain ⟨v, g1, g2⟩ := hv.get hd
  rw [hx] at g1
  cases g1
  exact ⟨F2, Ext.refl e2, g2.mono e1⟩
theorem itok_tup (h : SqT K F a vs) (hv : DVs K F vs ds) : ItOk K (Itt K a) F ds := by
  refine ⟨_, _, by rw [← hv.length]; exact walk_tup (a := a) (xs := vs), fun H e => sqT_mono e h, fun i H x H' F2 d e1 e2 hd y => ?_⟩
  obtain ⟨rfl, hx⟩ := y
  obtain ⟨v, g1, g2⟩ := hv.get hd
  rw [hx] at g1
  cases g1
  exact ⟨F2, Ext.refl e2, g2.mono e1⟩
/-- the signs of a text -/
def signsD (z : Str) : List PyData := z.cps.toList.map fun c => .str ⟨#[c]⟩
theorem itok_str (z : Str) : ItOk K (Its z) F (signsD z) := by
  refine ⟨_, _, by unfold signsD; rw [List.length_map, Array.length_toList]; exact walk_str, fun _ _ => trivial, fun i H x H' F2 d e1 e2 hd y => ?_⟩
  obtain ⟨rfl, c, hc, rfl⟩ := y
  unfold signsD at hd
  rw [List.getElem?_map, Array.getElem?_toList, hc] at hd
  cases hd
  exact ⟨F2, Ext.refl e2, .str _⟩
def rngD (lo : Int) (n : Nat) : List PyData := (List.range n).map fun i => .int (lo + (i : Nat))
theorem itok_rng (lo : Int) (n : Nat) : ItOk K (Itr lo n) F (rngD lo n) := by
  refine ⟨_, _, by unfold rngD; rw [List.length_map, List.length_range]; exact walk_range, fun _ _ => trivial, fun i H x H' F2 d e1 e2 hd y => ?_⟩
  obtain ⟨rfl, rfl⟩ := y
  unfold rngD at hd
  rw [List.getElem?_map] at hd
  cases q : (List.range n)[i]? with
  | none => rw [q] at hd; cases hd
  | some j =>
    rw [q] at hd
    have hj : j = i := by
      have := List.getElem?_eq_some_iff.mp q
      obtain ⟨h1, h2⟩ := this
      simpa using h2.symm
    subst hj
    cases hd
    exact ⟨F2, Ext.refl e2, .int _⟩
def enumD (ds : List PyData) : List PyData := ds.mapIdx fun i d => .tuple [.int (i : Nat), d]
theorem itok_enum (h : F a = some (.lst vs)) (hv : DVs K F vs ds) : ItOk K (Ite K a) F (enumD ds) := by
  have hl : (enumD ds).length = vs.length := by unfold enumD; rw [List.length_mapIdx, hv.length]
  refine ⟨_, _, by rw [hl]; exact walk_enum (a := a) (xs := vs), fun H e => SqL.of (e _ _ h), fun i H x H' F2 d e1 e2 hd y => ?_⟩
  obtain ⟨T, x1, x2, rfl, hT, rfl, g1, g2⟩ := y
  cases g1
  obtain ⟨dd, g3, g4⟩ := hv.got g2
  unfold enumD at hd
  rw [List.getElem?_mapIdx, g3] at hd
  cases hd
  refine ⟨upd F2 T (.tup [.int (i : Nat), x2]), Ext.new e2 hT, ?_⟩
  exact .tup (SqT.of upd_same) (.cons (.int _) (.cons ((g4.mono e1).mono (same_new (e2.free hT))) .nil))
end
def mIt (me : ME) : MI := fun S => match me S with
  | some (.v (.list ds), S1) => some (ds, S1)
  | some (.v (.tuple ds), S1) => some (ds, S1)
  | some (.v (.str z), S1) => some (signsD z, S1)
  | _ => none
def mRng1 (ma : MA) : MI := fun S => match ma S with
  | some ([.v (.int j)], S1) => if -(2 ^ 62) ≤ j ∧ j < 2 ^ 62 then some (rngD 0 j.toNat, S1) else none
  | _ => none
def mRng2 (ma : MA) : MI := fun S => match ma S with
  | some ([.v (.int i), .v (.int j)], S1) => if -(2 ^ 62) ≤ i ∧ i < 2 ^ 62 ∧ -(2 ^ 62) ≤ j ∧ j < 2 ^ 62 then some (rngD i (j - i).toNat, S1) else none
  | _ => none
def mEnum (ma : MA) : MI := fun S => match ma S with
  | some ([.v (.list ds)], S1) => some (enumD ds, S1)
  | _ => none
section
variable {X : Cx} {tg e a b : Expr} {me : ME} {mas : MA} {pos p tpos : Pos}
theorem ji_any (he : JE X e me) : JI X tg e (mIt me) := by
  obtain ⟨t, pe, s⟩ := he.ex
  refine ⟨_, PI.or (pi_list pe) (PI.or (pi_tup pe) (pi_str pe)), fun P F0 qc F cell S σ H R ds S' RR hm k => ?_⟩
  unfold mIt at hm
  split at hm
  · rename_i ds' S1 e1
    cases hm
    refine .inl (s P F0 qc F cell S σ H _ _ S' RR e1 fun v F1 H1 f1 R1 q1 => ?_)
    cases (show DV X.K F1 v (.list ds) from q1) with
    | lst g1 g2 => exact ⟨_, rfl, ⟨_, SqL.of (R1.fh _ _ g1)⟩, k _ F1 H1 f1 R1 (itok_list g1 g2)⟩
  · rename_i ds' S1 e1
    cases hm
    refine .inr (.inl (s P F0 qc F cell S σ H _ _ S' RR e1 fun v F1 H1 f1 R1 q1 => ?_))
    cases (show DV X.K F1 v (.tuple ds) from q1) with
    | tup g1 g2 => exact ⟨_, rfl, ⟨_, sqT_mono R1.fh g1⟩, k _ F1 H1 f1 R1 (itok_tup g1 g2)⟩
  · rename_i z S1 e1
    cases hm
    refine .inr (.inr (s P F0 qc F cell S σ H _ _ S' RR e1 fun v F1 H1 f1 R1 q1 => ?_))
    cases (show DV X.K F1 v (.str z) from q1)
    exact ⟨z, rfl, k _ F1 H1 f1 R1 (itok_str z)⟩
  · cases hm
theorem ji_rng1 (hm : X.mg "range" = none) (ha : JA X [a] mas) (hg : Gl X "range" := by rfl) (hs : starEach [a] X.env = [(false, eval a X.env)] := by rfl) : JI X tg (.Call (.Name "range" p) [a] [] pos) (mRng1 mas) := by
  obtain ⟨t, pa, s⟩ := ha.ex
  refine ⟨_, pi_range1 hg hm pa hs, fun P F0 qc F cell S σ H R ds S' RR hm k => ?_⟩
  unfold mRng1 at hm
  split at hm
  · rename_i j S1 e1
    split at hm
    · rename_i hl
      cases hm
      refine s P F0 qc F cell S σ H _ _ S' RR e1 fun vs F1 H1 f1 R1 q1 => ?_
      obtain ⟨v, ws, rfl, g1, g2⟩ := q1
      cases (show ws = [] from g2)
      cases (show DV X.K F1 v (.int j) from g1)
      exact ⟨j, rfl, hl.1, hl.2, k _ F1 H1 f1 R1 (itok_rng 0 _)⟩
    · cases hm
  · cases hm
theorem ji_rng2 (hm : X.mg "range" = none) (ha : JA X [a, b] mas) (hg : Gl X "range" := by rfl) (hs : starEach [a, b] X.env = [(false, eval a X.env), (false, eval b X.env)] := by rfl) (hs2 : starEach [b] X.env = [(false, eval b X.env)] := by rfl) : JI X tg (.Call (.Name "range" p) [a, b] [] pos) (mRng2 mas) := by
  obtain ⟨t, pa, s⟩ := ha.ex
  refine ⟨_, pi_range2 hg hm pa hs hs2, fun P F0 qc F cell S σ H R ds S' RR hm k => ?_⟩
  unfold mRng2 at hm
  split at hm
  · rename_i i j S1 e1
    split at hm
    · rename_i hl
      cases hm
      refine s P F0 qc F cell S σ H _ _ S' RR e1 fun vs F1 H1 f1 R1 q1 => ?_
      obtain ⟨v, ws, rfl, g1, w, us, rfl, g2, g3⟩ := q1
      cases (show us = [] from g3)
      cases (show DV X.K F1 v (.int i) from g1)
      cases (show DV X.K F1 w (.int j) from g2)
      exact ⟨i, j, rfl, hl, k _ F1 H1 f1 R1 (itok_rng i _)⟩
    · cases hm
  · cases hm
theorem ji_enum {elts : List Expr} {kk : Nat} (hm : X.mg "enumerate" = none) (ha : JA X [e] mas) (hg : Gl X "enumerate" := by rfl) (hs : starEach [e] X.env = [(false, eval e X.env)] := by rfl) : JI X (.Tuple elts kk tpos) (.Call (.Name "enumerate" p) [e] [] pos) (mEnum mas) := by
  obtain ⟨t, pa, s⟩ := ha.ex
  refine ⟨_, pi_enum hg hm pa hs, fun P F0 qc F cell S σ H R ds S' RR hm k => ?_⟩
  unfold mEnum at hm
  split at hm
  · rename_i ds' S1 e1
    cases hm
    refine s P F0 qc F cell S σ H _ _ S' RR e1 fun vs F1 H1 f1 R1 q1 => ?_
    obtain ⟨v, ws, rfl, g1, g2⟩ := q1
    cases (show ws = [] from g2)
    cases (show DV X.K F1 v (.list ds') from g1) with
    | lst g3 g4 => exact ⟨_, _, rfl, SqL.of (R1.fh _ _ g3), k _ F1 H1 f1 R1 (itok_enum g3 g4)⟩
  · cases hm
end

/-! ### targets -/
abbrev MG := PyData → Sl → Option Sl
def SndG (K : PySem.W.Frag) (g : TG) (m : MG) (ts : List Nat) : Prop :=
  ∀ (P F0 : Hp) (qc : Nat → Addr) (F : Hp) (cell : Nat → Addr) (S : Sl) (σ : L2.St) (H : Hp) (Q : L2.St → Hp → Prop) (x : V) (d : PyData) (S' : Sl), RC K P F0 qc F cell S σ H → DV K F x d → m d S = some S' →
    (∀ σ', RC K P F0 qc F cell S' σ' H → (∀ vs : List Nat, (∀ i ∈ ts, i ∈ vs) → wipe σ' vs = wipe σ vs) → Q σ' H) → g x σ H Q
structure JG (X : Cx) (tg : Expr) (m : MG) (ts : List Nat) : Prop where
  ex : ∃ g, PG X tg g ∧ SndG X.K g m ts
structure JGs (X : Cx) (tgs : List Expr) (n : Nat) (m : List PyData → Sl → Option Sl) (ts : List Nat) : Prop where
  ex : tgs.length = n ∧ ∃ g, PGs X tgs g ∧ ∀ (P F0 : Hp) (qc : Nat → Addr) (F : Hp) (cell : Nat → Addr) (S : Sl) (σ : L2.St) (H : Hp) (Q : L2.St → Hp → Prop) (xs : List V) (ds : List PyData) (S' : Sl), RC X.K P F0 qc F cell S σ H → DVs X.K F xs ds → m ds S = some S' →
    (∀ σ', RC X.K P F0 qc F cell S' σ' H → (∀ vs : List Nat, (∀ i ∈ ts, i ∈ vs) → wipe σ' vs = wipe σ vs) → Q σ' H) → g xs σ H Q
def gSet (i : Nat) : MG := fun d S => some (S.set i (some (.v d)))
def gsNil : List PyData → Sl → Option Sl := fun ds S => match ds with
  | [] => some S
  | _ => none
def gsCons (m : MG) (ms : List PyData → Sl → Option Sl) : List PyData → Sl → Option Sl := fun ds S => match ds with
  | d :: ds => match m d S with
    | some S1 => ms ds S1
    | none => none
  | [] => none
def gTupM (n : Nat) (ms : List PyData → Sl → Option Sl) : MG := fun d S => match d with
  | .tuple ds => if ds.length = n then ms ds S else none
  | _ => none
theorem wipe_set {σ : L2.St} {i : Nat} {x : Option V} : ∀ {vs : List Nat}, i ∈ vs → wipe (σ.set i x) vs = wipe σ vs
  | [], h => by cases h
  | v :: vs, h => by
    unfold wipe
    by_cases hi : i ∈ vs
    · rw [wipe_set hi]
    · have e : i = v := by
        rcases List.mem_cons.mp h with e | e
        · exact e
        · exact absurd e hi
      subst e
      have aux : ∀ (vs : List Nat), i ∉ vs → wipe (σ.set i x) vs = (wipe σ vs).set i x := by
        intro vs
        induction vs with
        | nil => intro _; rfl
        | cons u vs ih =>
          intro hn
          unfold wipe
          have h1 : i ≠ u := fun e => hn (e ▸ List.mem_cons_self)
          have h2 : i ∉ vs := fun e => hn (List.mem_cons_of_mem _ e)
          rw [ih h2, List.set_comm _ _ h1]
      rw [aux vs hi, List.set_set]
section
variable {X : Cx} {tg : Expr} {tgs : List Expr} {x : Str} {pos : Pos} {m : MG} {ms : List PyData → Sl → Option Sl} {ts us : List Nat} {n : Nat}
theorem jg_name (i : Nat) (hN : X.N.Nodup) (hi : X.N[i]? = some x := by rfl) (hx : Loc X.env.scope x := by first | exact Or.inl rfl | exact Or.inr rfl) (hf : X.fn x = true ∨ X.env.scope.names.lookup x = some .local := by first | exact .inl rfl | exact .inr rfl) : JG X (.Name x pos) (gSet i) [i] :=
  ⟨_, pg_name hN hi hx hf, fun P F0 qc F cell S σ H Q y d S' R hd hm k => by
    cases hm
    exact k _ (R.setV hd) fun vs hv => wipe_set (hv i (by simp))⟩
theorem jgs_nil : JGs X [] 0 gsNil [] := ⟨rfl, _, pgs_nil, fun P F0 qc F cell S σ H Q xs ds S' R hd hm k => by
  cases hd with
  | nil =>
    cases hm
    exact ⟨rfl, k σ R fun _ _ => rfl⟩
  | cons _ _ => cases hm⟩
theorem jgs_cons (h : JG X tg m ts) (hs : JGs X tgs n ms us) (he : (assignEach (tg :: tgs) X.env).map (·.2) = assign tg X.env :: (assignEach tgs X.env).map (·.2) := by rfl) : JGs X (tg :: tgs) (n + 1) (gsCons m ms) (ts ++ us) := by
  obtain ⟨g, pg, sg⟩ := h.ex
  obtain ⟨hl, gs, pgs, sgs⟩ := hs.ex
  refine ⟨by rw [List.length_cons, hl], _, pgs_cons pg pgs he, fun P F0 qc F cell S σ H Q xs ds S' R hd hm k => ?_⟩
  cases hd with
  | nil => cases hm
  | cons h1 h2 =>
    rename_i x0 vs0 d0 ds0
    unfold gsCons at hm
    cases e1 : m d0 S with
    | none => simp only [e1] at hm; cases hm
    | some S1 =>
      simp only [e1] at hm
      refine ⟨_, _, rfl, sg P F0 qc F cell S σ H _ _ _ S1 R h1 e1 fun σ1 R1 w1 => ?_⟩
      refine sgs P F0 qc F cell S1 σ1 H Q _ _ S' R1 h2 hm fun σ2 R2 w2 => k σ2 R2 fun vs hv => ?_
      rw [w2 vs fun i hi => hv i (List.mem_append_right _ hi), w1 vs fun i hi => hv i (List.mem_append_left _ hi)]
theorem jg_tup {k : Nat} (hc : X.calm = true) (hs : JGs X tgs n ms ts) (hn : (assignEach tgs X.env).length = n := by rfl) (hst : (assignEach tgs X.env).findIdx? (·.1) = none := by rfl) : JG X (.Tuple tgs k pos) (gTupM n ms) ts := by
  obtain ⟨hl, gs, pgs, sgs⟩ := hs.ex
  refine ⟨_, pg_tup hc pgs hn hst, fun P F0 qc F cell S σ H Q y d S' R hd hm kk => ?_⟩
  unfold gTupM at hm
  split at hm
  · split at hm
    · rename_i hln
      cases hd with
      | tup h1 h2 =>
        exact ⟨_, _, rfl, sqT_mono R.fh h1, by rw [h2.length]; exact hln, sgs P F0 qc F cell S σ H Q _ _ S' R h2 hm kk⟩
    · cases hm
  · cases hm
end

/-! ### for -/
def forM (g : MG) (mb : MS) : List PyData → Sl → Option (Fl × Sl)
  | [], S => some (.nx, S)
  | d :: ds, S => match g d S with
    | none => none
    | some S1 => match mb S1 with
      | some (.nx, S2) => forM g mb ds S2
      | some (.ct, S2) => forM g mb ds S2
      | some (.bk, S2) => some (.nx, S2)
      | some (.rt r, S2) => some (.rt r, S2)
      | some (.rz c fs, S2) => some (.rz c fs, S2)
      | none => none
def mFor (mi : MI) (g : MG) (mb : MS) : MS := fun S => match mi S with
  | some (ds, S1) => forM g mb ds S1
  | none => none
section
variable {X : Cx} {W : WX} {tg iter : Expr} {body : List Stmt} {mi : MI} {g : MG} {mb : MS} {ts : List Nat} {pos : Pos}
theorem drop_cons {α : Type} {l : List α} {i : Nat} (h : i < l.length) : ∃ d, l[i]? = some d ∧ l.drop i = d :: l.drop (i + 1) := ⟨l[i], by simp [h], (List.drop_eq_getElem_cons h)⟩
theorem js_for (hc : X.calm = true) (hi : JI X tg iter mi) (hg : JG X tg g ts) (hb : JB X W body mb) (hp : PassesOwn (model X.prog X.w) X.A X.env X.xe := by exact PassesOwn.never) (hs : ∀ x, foldedSetIterable iter X.env x = pure x := by intro _; rfl) : JS X W (.For tg iter body [] pos) (mFor mi g mb) := by
  obtain ⟨wi, pi, si⟩ := hi.ex
  obtain ⟨gg, pg, sg⟩ := hg.ex
  obtain ⟨tb, pb, sb⟩ := hb.ex
  refine ⟨_, ps_for hp hc pi pg pb hs, fun P F0 qc F cell S σ H D fl S' R hm k => ?_⟩
  unfold mFor at hm
  split at hm
  · rename_i ds S1 e1
    refine si P F0 qc F cell S σ H _ ds S1 R e1 fun J F1 H1 f1 R1 ok => ?_
    obtain ⟨G, Y, w, hG, hY⟩ := ok.ex
    refine for_it w (fun i σ' H' => ∃ F2 c2 S2, Same F1 F2 ∧ RC X.K P F0 qc F2 c2 S2 σ' H' ∧ forM g mb (ds.drop i) S2 = some (fl, S')) ⟨F1, cell, S1, Same.refl _, R1, hm⟩ (fun i σ' H' _ ⟨F2, c2, S2, f2, R2, _⟩ => hG H' (f2.trans R2.fh)) (fun i x σ' H' H'' hlt ⟨F2, c2, S2, f2, R2, e2⟩ y => ?_) fun σ' H' ⟨F2, c2, S2, f2, R2, e2⟩ => ?_
    · obtain ⟨d, hd, hdr⟩ := drop_cons hlt
      rw [hdr] at e2
      unfold forM at e2
      obtain ⟨F3, ex, dv⟩ := hY i H' x H'' F2 d f2 R2.fh hd y
      have R3 := R2.ext ex
      split at e2
      · cases e2
      · rename_i S3 e3
        refine sg P F0 qc F3 c2 S2 σ' H'' _ x d S3 R3 dv e3 fun σ3 R4 _ => ?_
        split at e2
        · rename_i S4 e4
          refine sb P F0 qc F3 c2 S3 σ3 H'' _ .nx S4 R4 e4 fun F5 c5 σ5 H5 f5 R5 => ?_
          exact ⟨F5, c5, S4, (f2.trans ex.f).trans f5, R5, e2⟩
        · rename_i S4 e4
          refine sb P F0 qc F3 c2 S3 σ3 H'' _ .ct S4 R4 e4 fun F5 c5 σ5 H5 f5 R5 => ?_
          exact ⟨F5, c5, S4, (f2.trans ex.f).trans f5, R5, e2⟩
        · rename_i S4 e4
          cases e2
          refine sb P F0 qc F3 c2 S3 σ3 H'' _ .bk S' R4 e4 fun F5 c5 σ5 H5 f5 R5 => ?_
          exact k F5 c5 σ5 H5 (f1.trans ((f2.trans ex.f).trans f5)) R5
        · rename_i r S4 e4
          cases e2
          refine sb P F0 qc F3 c2 S3 σ3 H'' _ (.rt r) S' R4 e4 fun F5 c5 σ5 H5 f5 R5 => ?_
          exact k F5 c5 σ5 H5 (f1.trans ((f2.trans ex.f).trans f5)) R5
        · rename_i c fs S4 e4
          cases e2
          refine sb P F0 qc F3 c2 S3 σ3 H'' _ (.rz c fs) S' R4 e4 fun F5 c5 σ5 H5 f5 R5 => ?_
          exact k F5 c5 σ5 H5 (f1.trans ((f2.trans ex.f).trans f5)) R5
        · cases e2
    · rw [List.drop_length] at e2
      cases e2
      exact k F2 c2 σ' H' (f1.trans f2) R2
  · cases hm
end

/-! ### a def by its body -/
def startS (n : Nat) (as : List SL) : Sl := as.map some ++ List.replicate (n - as.length) none
def asOut : List SL → Sl → Option (List SL)
  | [], _ => some []
  | .q _ :: as, some (.q xs) :: S => (asOut as S).map (.q xs :: ·)
  | .q _ :: _, _ => none
  | a :: as, _ :: S => (asOut as S).map (a :: ·)
  | _ :: _, [] => none
def defM (n : Nat) (m : MS) : MF := fun as => match m (startS n as) with
  | some (.rt (.v d), S) => match asOut as S with
    | some as' => some (d, as')
    | none => none
  | some (.nx, S) => match asOut as S with
    | some as' => some (.none, as')
    | none => none
  | _ => none
theorem asOut_q : ∀ {as : List SL} {S : Sl} {as' : List SL} {j : Nat} {xs : List PyData}, asOut as S = some as' → as'[j]? = some (.q xs) → S[j]? = some (some (.q xs)) ∧ ∃ ys, as[j]? = some (.q ys)
  | [], S, as', j, xs, h, e => by cases h; simp at e
  | a :: as, [], as', j, xs, h, e => by
    cases a <;> simp [asOut] at h
  | a :: as, s :: S, as', j, xs, h, e => by
    have key : ∀ (b : SL), (asOut as S).map (b :: ·) = some as' → (b = .q xs ∨ j ≠ 0 → True) → (j = 0 → b = .q xs) ∧ (∀ j', j = j' + 1 → S[j']? = some (some (.q xs)) ∧ ∃ ys, as[j']? = some (.q ys)) := by
      intro b hb _
      obtain ⟨as2, h2, rfl⟩ := Option.map_eq_some_iff.mp hb
      refine ⟨fun hj => ?_, fun j' hj => ?_⟩
      · subst hj
        simpa using e
      · subst hj
        exact asOut_q h2 (by simpa using e)
    cases a with
    | q zs =>
      cases s with
      | none => simp [asOut] at h
      | some s =>
        cases s with
        | q ws =>
          obtain ⟨k1, k2⟩ := key (.q ws) (by simpa [asOut] using h) (fun _ => trivial)
          cases j with
          | zero =>
            have := k1 rfl
            cases this
            exact ⟨rfl, zs, rfl⟩
          | succ j =>
            obtain ⟨q1, ys, q2⟩ := k2 j rfl
            exact ⟨by simpa using q1, ys, by simpa using q2⟩
        | _ => simp [asOut] at h
    | v d =>
      obtain ⟨k1, k2⟩ := key (.v d) (by simpa [asOut] using h) (fun _ => trivial)
      cases j with
      | zero => cases k1 rfl
      | succ j =>
        obtain ⟨q1, ys, q2⟩ := k2 j rfl
        exact ⟨by simpa using q1, ys, by simpa using q2⟩
    | c d =>
      obtain ⟨k1, k2⟩ := key (.c d) (by simpa [asOut] using h) (fun _ => trivial)
      cases j with
      | zero => cases k1 rfl
      | succ j =>
        obtain ⟨q1, ys, q2⟩ := k2 j rfl
        exact ⟨by simpa using q1, ys, by simpa using q2⟩
    | s d =>
      obtain ⟨k1, k2⟩ := key (.s d) (by simpa [asOut] using h) (fun _ => trivial)
      cases j with
      | zero => cases k1 rfl
      | succ j =>
        obtain ⟨q1, ys, q2⟩ := k2 j rfl
        exact ⟨by simpa using q1, ys, by simpa using q2⟩
/-- the address of an argument -/
def adr (vs : List V) (j : Nat) : Addr := match vs[j]? with
  | some (.ref a) => a
  | _ => 0
open Classical in
/-- at a def's entry -/
theorem rc_start {K : PySem.W.Frag} {F H : Hp} {as : List SL} {vs : List V} {N : List Str} (fh : Same F H) (ft : Fits K F H as vs) (hn : as.length ≤ N.length) :
    ∃ P : Hp, (∀ b o, H b = some o → (∀ (j : Nat) (xs : List PyData), as[j]? = some (.q xs) → vs[j]? ≠ some (.ref b)) → P b = some o) ∧ (∀ b, P b = none → H b = none ∨ ∃ (j : Nat) (xs : List PyData), as[j]? = some (.q xs) ∧ vs[j]? = some (.ref b)) ∧
    RC K P F (adr vs) F (adr vs) (startS N.length as) (L2.start N vs) H := by
  refine ⟨fun b => if ∃ (j : Nat) (xs : List PyData), as[j]? = some (.q xs) ∧ vs[j]? = some (.ref b) then none else H b, fun b o e hno => ?_, fun b e => ?_, ?_⟩
  · show (if _ then _ else _) = _
    rw [if_neg]
    · exact e
    · rintro ⟨j, xs, h1, h2⟩
      exact hno j xs h1 h2
  · by_cases q : ∃ (j : Nat) (xs : List PyData), as[j]? = some (.q xs) ∧ vs[j]? = some (.ref b)
    · exact .inr q
    · replace e : (if _ then _ else _) = _ := e
      rw [if_neg q] at e
      exact .inl e
  have at_ : ∀ {i : Nat} {x : SL}, (startS N.length as)[i]? = some (some x) → as[i]? = some x := fun {i x} h => by
    unfold startS at h
    by_cases hi : i < as.length
    · rw [List.getElem?_append_left (by simpa using hi), List.getElem?_map] at h
      cases e : as[i]? with
      | none => rw [e] at h; cases h
      | some a => rw [e] at h; cases h; rfl
    · rw [List.getElem?_append_right (by simpa using hi), List.getElem?_replicate] at h
      split at h <;> cases h
  have slot : ∀ {i : Nat} {v : V}, vs[i]? = some v → (L2.start N vs)[i]? = some (some v) := fun {i v} h => by
    unfold L2.start
    have hi : i < vs.length := (List.getElem?_eq_some_iff.mp h).1
    rw [List.getElem?_append_left (by simpa using hi), List.getElem?_map, h]
    rfl
  have isq : ∀ {x : SL} {xs : List PyData} {i : Nat} {v : V}, x.held = some xs → ArgR K F H x v → x = .q xs := fun {x xs i v} h ha => by
    cases x with
    | q zs => cases h; rfl
    | c zs => exact ha.elim
    | v d => cases h
    | s ns => cases h
  refine ⟨?_, Same.refl _, fh, fun b o e => ?_, fun b z => .inl z, fun i d h => ?_, fun i ns h => ?_, fun i x xs h hx => ?_, fun i xs h => rfl, fun i j x y h1 h2 hx hy he => ?_⟩
  · unfold startS L2.start
    rw [List.length_append, List.length_append, List.length_map, List.length_map, List.length_replicate, List.length_replicate, ft.len]
  · by_cases q : ∃ (j : Nat) (xs : List PyData), as[j]? = some (.q xs) ∧ vs[j]? = some (.ref b)
    · replace e : (if _ then _ else _) = _ := e
      rw [if_pos q] at e
      cases e
    · replace e : (if _ then _ else _) = _ := e
      rw [if_neg q] at e
      exact e
  · obtain ⟨v, h1, h2⟩ := ft.arg i _ (at_ h)
    exact ⟨v, slot h1, h2⟩
  · obtain ⟨v, h1, h2⟩ := ft.arg i _ (at_ h)
    exact ⟨v, slot h1, h2⟩
  · obtain ⟨v, h1, h2⟩ := ft.arg i _ (at_ h)
    have e := isq (i := i) hx h2
    subst e
    obtain ⟨c, ws, rfl, g1, g2, g3⟩ := h2
    have ec : adr vs i = c := by unfold adr; rw [h1]
    rw [ec]
    exact ⟨slot h1, g1, (if_pos ⟨i, xs, at_ h, h1⟩), ws, g2, g3⟩
  · obtain ⟨v, g1, g2⟩ := ft.arg i _ (at_ h1)
    obtain ⟨u, g3, g4⟩ := ft.arg j _ (at_ h2)
    obtain ⟨xs, hx'⟩ := Option.isSome_iff_exists.mp hx
    obtain ⟨ys, hy'⟩ := Option.isSome_iff_exists.mp hy
    have e1 := isq (i := i) hx' g2
    have e2 := isq (i := j) hy' g4
    subst e1
    subst e2
    obtain ⟨c, ws, rfl, _⟩ := g2
    obtain ⟨c', ws', rfl, _⟩ := g4
    have ec : adr vs i = c := by unfold adr; rw [g1]
    have ec' : adr vs j = c' := by unfold adr; rw [g3]
    rw [ec, ec'] at he
    subst he
    exact ft.dist i j xs ys c (at_ h1) (at_ h2) g1 g3
section
variable {P : Program} {w : World} {K : PySem.W.Frag} {mg : Str → Option Value} {base : Heap}
/-- THE RULE of a def: it is the function of its body -/
theorem jf {x qual : Str} {st : Stmt} {f : Addr} {fd : FuncData} {N ps : List Str} {k : Nat} {m : MS} (F : Fun K x qual st f fd) (S : FnScope N ps (defScope st)) (hl : ps.length ≤ N.length)
    (hb : ∀ cdv A outer s H (E : _), A.guards = some [] → Room k (cxOf CX0 P w K mg base N qual (defScope st) f cdv A outer s H E).nox.A → JB (cxOf CX0 P w K mg base N qual (defScope st) f cdv A outer s H E).nox W0 (defBody st) m) :
    FnG P w K mg base CX0 (k + 1) f fd ps (spM K ps.length (defM N.length m)) := by
  refine okG F S (fun vs H Q E h => h.1) fun cdv A outer s H vs Q E hg hr h => ?_
  obtain ⟨hv, F1, as, d, as', fh, ft, hm, kk⟩ := h
  obtain ⟨t, pt, stt⟩ := (hb cdv A outer s H E hg hr).ex
  refine ⟨t, pt, ?_⟩
  obtain ⟨P1, hP1, hP2, R⟩ := rc_start (N := N) fh ft (by rw [← ft.len, hv]; exact hl)
  have fin : ∀ (v : V) (F' : Hp) (c' : Nat → Addr) (S' : Sl) (σ' : L2.St) (H' : Hp) (d : PyData) (as' : List SL), (∀ v F' H', Back K F1 H F' H' as vs as' v d → Q v H') → Same F1 F' → RC K P1 F1 (adr vs) F' c' S' σ' H' → DV K F' v d → asOut as S' = some as' → Q v H' := by
    intro v F' c' S' σ' H' d as' kk f1 R1 dv ho
    refine kk v F' H' ⟨f1, R1.fh, fun b o e hno => R1.ph b o (hP1 b o e hno), fun b z => ?_, dv, fun j xs e => ?_⟩
    · rcases R1.fr b z with z' | z'
      · exact .inl z'
      · rcases hP2 b z' with z2 | ⟨j, xs, h1, h2⟩
        · exact .inr z2
        · -- a lent list is not told as long as its slot holds it; here it must be shown from the slot
          by_cases q : F1 b = none
          · exact absurd q (by
              intro q
              -- the slot j still bears the lent list
              obtain ⟨ys, e1⟩ : ∃ ys, S'[j]? = some (some (.q ys)) := by
                have aux : ∀ {as : List SL} {S : Sl} {as' : List SL} {j : Nat} {xs : List PyData}, asOut as S = some as' → as[j]? = some (.q xs) → ∃ ys, S[j]? = some (some (.q ys)) := by
                  intro as
                  induction as with
                  | nil => intro S as' j xs _ e; simp at e
                  | cons a as ih =>
                    intro S as' j xs h e
                    cases S with
                    | nil => cases a <;> simp [asOut] at h
                    | cons s S =>
                      cases j with
                      | zero =>
                        have ea : a = .q xs := by simpa using e
                        subst ea
                        cases s with
                        | none => simp [asOut] at h
                        | some s =>
                          cases s with
                          | q ws => exact ⟨ws, rfl⟩
                          | _ => simp [asOut] at h
                      | succ j =>
                        have e' : as[j]? = some (.q xs) := by simpa using e
                        have tl : ∃ as2, asOut as S = some as2 := by
                          cases a with
                          | q zs =>
                            cases s with
                            | none => simp [asOut] at h
                            | some s =>
                              cases s with
                              | q ws =>
                                obtain ⟨as2, h2, _⟩ := Option.map_eq_some_iff.mp (show (asOut as S).map (SL.q ws :: ·) = some as' by simpa [asOut] using h)
                                exact ⟨as2, h2⟩
                              | _ => simp [asOut] at h
                          | v d =>
                            obtain ⟨as2, h2, _⟩ := Option.map_eq_some_iff.mp (show (asOut as S).map (SL.v d :: ·) = some as' by simpa [asOut] using h)
                            exact ⟨as2, h2⟩
                          | c d =>
                            obtain ⟨as2, h2, _⟩ := Option.map_eq_some_iff.mp (show (asOut as S).map (SL.c d :: ·) = some as' by simpa [asOut] using h)
                            exact ⟨as2, h2⟩
                          | s d =>
                            obtain ⟨as2, h2, _⟩ := Option.map_eq_some_iff.mp (show (asOut as S).map (SL.s d :: ·) = some as' by simpa [asOut] using h)
                            exact ⟨as2, h2⟩
                        obtain ⟨as2, h2⟩ := tl
                        obtain ⟨ys, e3⟩ := ih h2 e'
                        exact ⟨ys, by simpa using e3⟩
                exact aux ho h1
              obtain ⟨_, g2, _⟩ := R1.cl j _ ys e1 rfl
              have ec : c' j = b := by
                rw [R1.qs j ys e1]
                unfold adr
                rw [h2]
              rw [ec] at g2
              exact z g2)
          · exact .inl q
    · obtain ⟨e1, ys, e2⟩ := asOut_q ho e
      obtain ⟨g1, _, _, ws, g4, g5⟩ := R1.cl j _ xs e1 rfl
      obtain ⟨v2, g6, c2, us, rfl, _⟩ := ft.arg j _ e2
      have ec : c' j = c2 := by
        rw [R1.qs j xs e1]
        unfold adr
        rw [g6]
      rw [ec] at g4
      exact ⟨c2, ws, g6, g4, g5⟩
  unfold defM at hm
  split at hm
  · rename_i d' S' e1
    split at hm
    · rename_i as2 e2
      cases hm
      exact stt P1 F1 (adr vs) F1 (adr vs) _ _ H _ _ S' R e1 fun F' c' σ' H' f1 R1 v q => fin v F' c' S' σ' H' _ _ kk f1 R1 q e2
    · cases hm
  · rename_i S' e1
    split at hm
    · rename_i as2 e2
      cases hm
      exact stt P1 F1 (adr vs) F1 (adr vs) _ _ H _ _ S' R e1 fun F' c' σ' H' f1 R1 => fin .non F' c' S' σ' H' _ _ kk f1 R1 .non e2
    · cases hm
  · cases hm
end
end VL

set_option Elab.async false
set_option linter.all false
set_option maxRecDepth 100000
set_option maxHeartbeats 4000000
/-! VL10: new lists of one's own; comprehensions; several targets at once. -/
namespace VL
open PySem PySem.Spec PyProof.Rows L2

/-! ### the canonical readings -/
def denE (K : PySem.W.Frag) (m : ME) : TE := fun σ H Q => ∃ P F0 qc F cell S r S', RC K P F0 qc F cell S σ H ∧ m S = some (r, S') ∧ ∀ v F' H', Same F F' → RC K P F0 qc F' cell S' σ H' → VR K F' cell r v → Q v H'
def denT (K : PySem.W.Frag) (m : MT) : TT := fun σ H Q => ∃ P F0 qc F cell S r S', RC K P F0 qc F cell S σ H ∧ m S = some (r, S') ∧ ∀ F' H', Same F F' → RC K P F0 qc F' cell S' σ H' → Q r H'
def denG (K : PySem.W.Frag) (m : MG) (ts : List Nat) : TG := fun x σ H Q => ∃ P F0 qc F cell S d S', RC K P F0 qc F cell S σ H ∧ DV K F x d ∧ m d S = some S' ∧ ∀ σ', RC K P F0 qc F cell S' σ' H → (∀ vs : List Nat, (∀ i ∈ ts, i ∈ vs) → wipe σ' vs = wipe σ vs) → Q σ' H
theorem JE.den {X : Cx} {e : Expr} {m : ME} (h : JE X e m) : PE X e (denE X.K m) := by
  obtain ⟨t, p, s⟩ := h.ex
  exact ⟨fun pins s0 σ H Q I ⟨P, F0, qc, F, cell, S, r, S', R, hm, k⟩ => p.run pins s0 σ H Q I (s P F0 qc F cell S σ H Q r S' R hm k)⟩
theorem JG.den {X : Cx} {e : Expr} {m : MG} {ts : List Nat} (h : JG X e m ts) : PG X e (denG X.K m ts) := by
  obtain ⟨t, p, s⟩ := h.ex
  exact ⟨fun pins s0 σ H v u Q I r ⟨P, F0, qc, F, cell, S, d, S', R, hd, hm, k⟩ => p.run pins s0 σ H v u Q I r (s P F0 qc F cell S σ H Q v d S' R hd hm k)⟩
structure JTs (X : Cx) (ifs : List Expr) (m : MT) : Prop where
  ex : ∃ t, PTs X ifs t ∧ SndT X.K t m
theorem JTs.den {X : Cx} {ifs : List Expr} {m : MT} (h : JTs X ifs m) : PTs X ifs (denT X.K m) := by
  obtain ⟨t, p, s⟩ := h.ex
  exact ⟨fun pins s0 σ H Q I ⟨P, F0, qc, F, cell, S, r, S', R, hm, k⟩ => p.run pins s0 σ H Q I (s P F0 qc F cell S σ H Q r S' R hm k)⟩
def tYesM : MT := fun S => some (true, S)
theorem jts_nil {X : Cx} : JTs X [] tYesM := ⟨_, pts_nil, fun P F0 qc F cell S σ H Q r S' R hm k => by
  cases hm
  exact k F H (Same.refl _) R⟩
theorem jts_one {X : Cx} {c : Expr} {m : MT} (h : JT X c m) : JTs X [c] m := by
  obtain ⟨t, p, s⟩ := h.ex
  exact ⟨t, pts_one p, s⟩

/-! ### new lists of one's own -/
abbrev MX := Sl → Option (SL × Sl)
def SndX (K : PySem.W.Frag) (t : TE) (m : MX) : Prop :=
  ∀ (P F0 : Hp) (qc : Nat → Addr) (F : Hp) (cell : Nat → Addr) (S : Sl) (σ : L2.St) (H : Hp) (Q : VK) (r : SL) (S' : Sl), RC K P F0 qc F cell S σ H → m S = some (r, S') →
    (match r with
      | .v d => ∀ v F' H', Same F F' → RC K P F0 qc F' cell S' σ H' → DV K F' v d → Q v H'
      | .c ds => ∀ p vs F' H', Same F F' → P p = none → F0 p = none → RC K (upd P p (.lst vs)) F0 qc F' cell S' σ H' → DVs K F' vs ds → Q (.ref p) H'
      | _ => False) → t σ H Q
structure JX (X : Cx) (e : Expr) (m : MX) : Prop where
  ex : ∃ t, PE X e t ∧ SndX X.K t m
section
variable {K : PySem.W.Frag} {P F0 F F' : Hp} {qc cell : Nat → Addr} {S : Sl} {σ : L2.St} {H H' : Hp} {p : Addr} {o o' : HO}
theorem RC.unlay (R : RC K (upd P p o) F0 qc F cell S σ H) (hp : P p = none) : RC K P F0 qc F cell S σ H where
  len := R.len
  f0 := R.f0
  fh := R.fh
  ph := fun b u e => R.ph b u (by rw [upd_ne (fun q => by subst q; rw [hp] at e; cases e)]; exact e)
  fr := fun b z => by
    rcases R.fr b z with z | z
    · exact .inl z
    · by_cases q : b = p
      · subst q
        exact .inr hp
      · rw [upd_ne q] at z
        exact .inr z
  vl := R.vl
  sc := R.sc
  cl := fun i x xs h hx => by
    obtain ⟨h1, h2, h3, h4⟩ := R.cl i x xs h hx
    refine ⟨h1, h2, ?_, h4⟩
    by_cases q : cell i = p
    · rw [q]; exact hp
    · rw [upd_ne q] at h3; exact h3
  qs := R.qs
  inj := R.inj
/-- the laid list becomes slot i's own -/
theorem RC.own {vs : List V} {ds : List PyData} {i : Nat} (R : RC K (upd P p (.lst vs)) F0 qc F cell S σ H) (hp : P p = none) (h0 : F0 p = none) (hv : DVs K F vs ds) :
    RC K P F0 qc F (fun j => if j = i then p else cell j) (S.set i (some (.c ds))) (σ.set i (some (.ref p))) H :=
  (R.unlay hp).setC (R.laid_untold h0) hp R.laid_apart R.laid_at hv
/-- the laid list is told -/
theorem RC.tell {vs : List V} {ds : List PyData} (R : RC K (upd P p (.lst vs)) F0 qc F cell S σ H) (hp : P p = none) (h0 : F0 p = none) (hv : DVs K F vs ds) :
    ∃ F', Same F F' ∧ RC K P F0 qc F' cell S σ H ∧ DV K F' (.ref p) (.list ds) := by
  obtain ⟨R2, s2⟩ := R.adopt (o' := .lst vs) h0 hp
  have e : upd H p (.lst vs) = H := by
    funext b
    by_cases q : b = p
    · subst q
      rw [upd_same]
      exact R.laid_at.symm
    · rw [upd_ne q]
  rw [e] at R2
  exact ⟨_, s2, R2, .lst upd_same (hv.mono s2)⟩
end
def mV (me : ME) : MX := fun S => match me S with
  | some (.v d, S1) => some (.v d, S1)
  | _ => none
def mTell (mx : MX) : ME := fun S => match mx S with
  | some (.v d, S1) => some (.v d, S1)
  | some (.c ds, S1) => some (.v (.list ds), S1)
  | _ => none
def xLst (ma : MA) : MX := fun S => match ma S with
  | none => none
  | some (rs, S1) => match stables rs with
    | some ds => if ds.length ≤ 100000 then some (.c ds, S1) else none
    | none => none
def xToList (me : ME) : MX := fun S => match me S with
  | none => none
  | some (r, S1) => match deref S1 r with
    | some (.list ds) => some (.c ds, S1)
    | some (.tuple ds) => some (.c ds, S1)
    | _ => none
section
variable {X : Cx} {W : WX} {e a b : Expr} {es : List Expr} {me : ME} {mx : MX} {mas : MA} {pos p : Pos}
theorem jx_je (h : JE X e me) : JX X e (mV me) := by
  obtain ⟨t, p, s⟩ := h.ex
  refine ⟨t, p, fun P F0 qc F cell S σ H Q r S' R hm k => ?_⟩
  unfold mV at hm
  split at hm
  · rename_i d S1 e1
    cases hm
    exact s P F0 qc F cell S σ H Q _ S' R e1 fun v F' H' f1 R1 q1 => k v F' H' f1 R1 q1
  · cases hm
theorem je_tell (h : JX X e mx) : JE X e (mTell mx) := by
  obtain ⟨t, p, s⟩ := h.ex
  refine ⟨t, p, fun P F0 qc F cell S σ H Q r S' R hm k => ?_⟩
  unfold mTell at hm
  split at hm
  · rename_i d S1 e1
    cases hm
    exact s P F0 qc F cell S σ H Q _ S' R e1 fun v F' H' f1 R1 q1 => k v F' H' f1 R1 q1
  · rename_i ds S1 e1
    cases hm
    refine s P F0 qc F cell S σ H Q _ S' R e1 fun p vs F' H' f1 hp h0 R1 q1 => ?_
    obtain ⟨F2, f2, R2, dv⟩ := R1.tell hp h0 q1
    exact k _ F2 H' (f1.trans f2) R2 dv
  · cases hm
theorem jx_lst (h : JA X es mas) : JX X (.List es pos) (xLst mas) := by
  obtain ⟨ta, pa, sa⟩ := h.ex
  refine ⟨_, pe_lst pa, fun P F0 qc F cell S σ H Q z S' R hm k => ?_⟩
  unfold xLst at hm
  split at hm
  · cases hm
  · rename_i rs S1 e1
    split at hm
    · rename_i ds e2
      split at hm
      · rename_i hl
        cases hm
        refine sa P F0 qc F cell S σ H _ rs S' R e1 fun vs F1 H1 s1 R1 q1 => ?_
        have dv := VRs.stable q1 e2
        refine ⟨by rw [dv.length]; exact small5 hl, fun p hp => ?_⟩
        exact k p vs F1 _ s1 (R1.ph.free hp) ((R1.f0.trans R1.fh).free hp) (R1.lay hp) dv
      · cases hm
    · cases hm
theorem jx_tolist (hm : X.mg "list" = none) (ha : JE X e me) (hg : Gl X "list" := by rfl) (hs : starEach [e] X.env = (false, eval e X.env) :: starEach [] X.env := by rfl) (hpl : (backTo pos (starEach [] X.env)).any (·.1) = false := by rfl) : JX X (.Call (.Name "list" p) [e] [] pos) (xToList me) := by
  obtain ⟨t, pe, s⟩ := ha.ex
  refine ⟨_, pe_callTy call_list_of hg hm (by decide +kernel) (pa_cons pe pa_nil hs) (he := hs) (hpl := hpl), fun P F0 qc F cell S σ H Q z S' R hm k => ?_⟩
  unfold xToList at hm
  split at hm
  · cases hm
  · rename_i r S1 e1
    split at hm
    · rename_i ds e2
      cases hm
      refine s P F0 qc F cell S σ H _ r S' R e1 fun v F1 H1 f1 R1 q1 => ?_
      obtain ⟨a, vs, rfl, h2, h3⟩ := (R1.deref q1 e2).list R1.fh
      refine ⟨a, vs, rfl, .inl (SqL.of h2), fun l hl => ?_⟩
      exact k l vs F1 _ f1 (R1.ph.free hl) ((R1.f0.trans R1.fh).free hl) (R1.lay hl) h3
    · rename_i ds e2
      cases hm
      refine s P F0 qc F cell S σ H _ r S' R e1 fun v F1 H1 f1 R1 q1 => ?_
      obtain ⟨a, vs, rfl, h2, h3⟩ := (R1.deref q1 e2).tuple
      refine ⟨a, vs, rfl, .inr (sqT_mono R1.fh h2), fun l hl => ?_⟩
      exact k l vs F1 _ f1 (R1.ph.free hl) ((R1.f0.trans R1.fh).free hl) (R1.lay hl) h3
    · cases hm
def mSetX (i : Nat) (mx : MX) : MS := fun S => match mx S with
  | some (.v d, S1) => some (.nx, S1.set i (some (.v d)))
  | some (.c d, S1) => some (.nx, S1.set i (some (.c d)))
  | _ => none
theorem snd_setX {W : WX} {K : PySem.W.Frag} {t : TE} {i : Nat} (s : SndX K t mx) : SndS K W (tAsg t (gName i)) (mSetX i mx) := by
  intro P F0 qc F cell S σ H D fl S' R hm k
  unfold mSetX at hm
  split at hm
  · rename_i d S1 e1
    cases hm
    exact s P F0 qc F cell S σ H _ _ S1 R e1 fun v F' H' f1 R1 q1 => k F' cell _ H' f1 (R1.setV q1)
  · rename_i ds S1 e1
    cases hm
    exact s P F0 qc F cell S σ H _ _ S1 R e1 fun p vs F' H' f1 hp h0 R1 q1 => k F' _ _ H' f1 (R1.own hp h0 q1)
  · cases hm
theorem js_setX (i : Nat) {x : Str} {pos' : Pos} (hN : X.N.Nodup) (he : JX X e mx) (hi : X.N[i]? = some x := by rfl) (hx : Loc X.env.scope x := by first | exact Or.inl rfl | exact Or.inr rfl) (hs : swapsWith e (some (.Name x pos')) pos.line X.env = pure false := by rfl)
    (hf : X.fn x = true ∨ X.env.scope.names.lookup x = some .local := by first | exact .inl rfl | exact .inr rfl) : JS X W (.Assign [.Name x pos'] e pos) (mSetX i mx) := by
  obtain ⟨t, p, s⟩ := he.ex
  exact ⟨_, ps_set hN hi hx p hs hf, snd_setX s⟩
end

/-! ### slots forgotten for a block, and had again -/
def wp : Sl → List Nat → Sl
  | S, [] => S
  | S, v :: vs => (wp S vs).set v none
def ownOk (S : Sl) (vs : List Nat) : Bool := vs.all fun v => match S[v]? with
  | some (some (.v _)) => true
  | some none => true
  | _ => false
/-- T, the slots vs as in S -/
def unwp (S T : Sl) : List Nat → Sl
  | [] => T
  | v :: vs => (unwp S T vs).set v (S[v]?.bind id)
theorem wp_length (S : Sl) : ∀ vs : List Nat, (wp S vs).length = S.length
  | [] => rfl
  | v :: vs => by unfold wp; rw [List.length_set, wp_length S vs]
theorem unwp_length (S T : Sl) : ∀ vs : List Nat, (unwp S T vs).length = T.length
  | [] => rfl
  | v :: vs => by unfold unwp; rw [List.length_set, unwp_length S T vs]
theorem unwp_at {S T : Sl} {i : Nat} {x : SL} : ∀ {vs : List Nat}, (unwp S T vs)[i]? = some (some x) → (i ∈ vs ∧ S[i]? = some (some x)) ∨ (i ∉ vs ∧ T[i]? = some (some x))
  | [], h => .inr ⟨by simp, h⟩
  | v :: vs, h => by
    unfold unwp at h
    rcases get_set h with ⟨rfl, e2, hl⟩ | ⟨ne, e⟩
    · refine .inl ⟨List.mem_cons_self, ?_⟩
      cases q : S[v]? with
      | none => rw [q] at e2; cases e2
      | some u =>
        rw [q] at e2
        cases u with
        | none => cases e2
        | some u => cases e2; rfl
    · rcases unwp_at e with ⟨h1, h2⟩ | ⟨h1, h2⟩
      · exact .inl ⟨List.mem_cons_of_mem _ h1, h2⟩
      · exact .inr ⟨fun z => (List.mem_cons.mp z).elim (fun z => ne z.symm) h1, h2⟩
section
variable {K : PySem.W.Frag} {P F0 F F' : Hp} {qc cell : Nat → Addr} {S T : Sl} {σ : L2.St} {H H' : Hp}
theorem RC.setN (R : RC K P F0 qc F cell S σ H) (i : Nat) : RC K P F0 qc F cell (S.set i none) (σ.set i none) H := by
  have at_ : ∀ {j : Nat} {x : SL}, (S.set i none)[j]? = some (some x) → i ≠ j ∧ S[j]? = some (some x) := fun {j x} h => by
    rcases get_set h with ⟨rfl, e2, hl⟩ | h
    · cases e2
    · exact h
  refine ⟨by rw [List.length_set, List.length_set]; exact R.len, R.f0, R.fh, R.ph, R.fr, fun j d e => ?_, fun j ns e => ?_, fun j x xs e hx => ?_, fun j xs e => R.qs j xs (at_ e).2, fun j k x y e1 e2 hx hy => R.inj j k x y (at_ e1).2 (at_ e2).2 hx hy⟩
  · obtain ⟨ne, e⟩ := at_ e
    obtain ⟨u, h1, h2⟩ := R.vl j d e
    exact ⟨u, by rw [List.getElem?_set_ne ne]; exact h1, h2⟩
  · obtain ⟨ne, e⟩ := at_ e
    obtain ⟨u, h1, h2⟩ := R.sc j ns e
    exact ⟨u, by rw [List.getElem?_set_ne ne]; exact h1, h2⟩
  · obtain ⟨ne, e⟩ := at_ e
    obtain ⟨h1, h2⟩ := R.cl j x xs e hx
    exact ⟨by rw [List.getElem?_set_ne ne]; exact h1, h2⟩
theorem RC.wipe (R : RC K P F0 qc F cell S σ H) : ∀ vs : List Nat, RC K P F0 qc F cell (wp S vs) (L2.wipe σ vs) H
  | [] => R
  | v :: vs => (RC.wipe R vs).setN v
theorem wipe_in {σ : L2.St} {i : Nat} (hl : i < σ.length) : ∀ {vs : List Nat}, i ∈ vs → (L2.wipe σ vs)[i]? = some none
  | v :: vs, h => by
    unfold L2.wipe
    by_cases q : v = i
    · subst q
      rw [List.getElem?_set_self (by rw [wipe_length]; exact hl)]
    · rw [List.getElem?_set_ne q]
      exact wipe_in hl ((List.mem_cons.mp h).elim (fun z => absurd z.symm q) id)
theorem wipe_idem (σ : L2.St) (vs : List Nat) : L2.wipe (L2.wipe σ vs) vs = L2.wipe σ vs := by
  refine List.ext_getElem? fun i => ?_
  by_cases h : i ∈ vs
  · by_cases hl : i < σ.length
    · rw [wipe_in (by rw [wipe_length]; exact hl) h, wipe_in hl h]
    · rw [List.getElem?_eq_none (by rw [wipe_length, wipe_length]; omega), List.getElem?_eq_none (by rw [wipe_length]; omega)]
  · rw [wipe_out h]
theorem RC.unwipe {S1 : Sl} {H1 F1 P1 F01 : Hp} {qc1 cell1 : Nat → Addr} {vs : List Nat} (R1 : RC K P1 F01 qc1 F1 cell1 S1 σ H1) (ho : ownOk S1 vs = true) (f : Same F1 F) (R : RC K P F0 qc F cell T (L2.wipe σ vs) H) : RC K P F0 qc F cell (unwp S1 T vs) σ H := by
  have data : ∀ {i : Nat} {x : SL}, i ∈ vs → S1[i]? = some (some x) → ∃ d, x = .v d := fun {i x} hi e => by
    have := List.all_eq_true.mp ho i hi
    rw [e] at this
    cases x with
    | v d => exact ⟨d, rfl⟩
    | c d => cases this
    | q d => cases this
    | s d => cases this
  have held : ∀ {i : Nat} {x : SL}, (unwp S1 T vs)[i]? = some (some x) → (∀ d, x ≠ .v d) → i ∉ vs ∧ T[i]? = some (some x) := fun {i x} h hx => by
    rcases unwp_at h with ⟨h1, h2⟩ | h
    · obtain ⟨d, rfl⟩ := data h1 h2
      exact absurd rfl (hx d)
    · exact h
  have noV : ∀ {x : SL}, x.held.isSome = true → ∀ d, x ≠ .v d := fun {x} h d e => by subst e; cases h
  refine ⟨by rw [unwp_length, R.len, wipe_length], R.f0, R.fh, R.ph, R.fr, fun j d e => ?_, fun j ns e => ?_, fun j x xs e hx => ?_, fun j xs e => ?_, fun j k x y e1 e2 hx hy => ?_⟩
  · rcases unwp_at e with ⟨h1, h2⟩ | ⟨h1, h2⟩
    · obtain ⟨v, h3, h4⟩ := R1.vl j d h2
      exact ⟨v, h3, h4.mono f⟩
    · obtain ⟨v, h3, h4⟩ := R.vl j d h2
      exact ⟨v, (wipe_some h3).1, h4⟩
  · obtain ⟨h1, h2⟩ := held e (fun d z => by cases z)
    obtain ⟨v, h3, h4⟩ := R.sc j ns h2
    exact ⟨v, (wipe_some h3).1, h4⟩
  · obtain ⟨h1, h2⟩ := held e (noV (by rw [hx]; rfl))
    obtain ⟨h3, h4⟩ := R.cl j x xs h2 hx
    exact ⟨(wipe_some h3).1, h4⟩
  · obtain ⟨h1, h2⟩ := held e (fun d z => by cases z)
    exact R.qs j xs h2
  · exact R.inj j k x y (held e1 (noV hx)).2 (held e2 (noV hy)).2 hx hy
end

/-! ### [e for .. in .. if ..] -/
def lcGo (g : MG) (mt : MT) (me : ME) (vs : List Nat) : List PyData → Sl → List PyData → Option (List PyData × Sl)
  | [], T, acc => some (acc, T)
  | d :: ds, T, acc => match g d T with
    | none => none
    | some T1 => match mt T1 with
      | none => none
      | some (false, T2) => lcGo g mt me vs ds (wp T2 vs) acc
      | some (true, T2) => match me T2 with
        | some (.v z, T3) => if acc.length < 100000 then lcGo g mt me vs ds (wp T3 vs) (acc ++ [z]) else none
        | _ => none
def xLc (mi : MI) (g : MG) (mt : MT) (me : ME) (vs : List Nat) : MX := fun S => match mi S with
  | none => none
  | some (ds, S1) => if ownOk S1 vs = true then match lcGo g mt me vs ds (wp S1 vs) [] with
      | some (acc, T) => some (.c acc, unwp S1 T vs)
      | none => none
    else none
section
variable {X : Cx} {W : WX} {elt tg iter : Expr} {ifs : List Expr} {scope : Scope} {own : List (Str × Nat)} {pos : Pos} {mi : MI} {g : MG} {mt : MT} {me : ME} {ts : List Nat}
theorem snd_lc {K : PySem.W.Frag} {wi : TI} {vs : List Nat} (si : SndI K wi mi) (hv : ∀ i ∈ ts, i ∈ vs) : SndX K (tLc wi (denG K g ts) (denT K mt) (denE K me) vs) (xLc mi g mt me vs) := by
  intro P F0 qc F cell S σ H Q r S' R hm k
  unfold xLc at hm
  split at hm
  · cases hm
  · rename_i ds S1 e1
    split at hm
    · rename_i ho
      split at hm
      · rename_i acc T e2
        cases hm
        refine si P F0 qc F cell S σ H _ ds S1 R e1 fun J F1 H1 f1 R1 ok => ?_
        intro D hD
        obtain ⟨G, Y, w, hG, hY⟩ := ok.ex
        have hP : P D = none := R1.ph.free hD
        have h0 : F0 D = none := (R1.f0.trans R1.fh).free hD
        -- Pv
        refine ⟨fun i m H => m = ds.length - i ∧ i ≤ ds.length ∧ ∃ F2 T2 acc2 ws, Same F1 F2 ∧ RC K (upd P D (.lst ws)) F0 qc F2 cell T2 (L2.wipe σ vs) H ∧ DVs K F2 ws acc2 ∧ lcGo g mt me vs (ds.drop i) T2 acc2 = some (acc, T),
          ⟨ds.length, by simp, Nat.zero_le _, F1, wp S1 vs, [], [], Same.refl _, (R1.lay hD).wipe vs, .nil, e2⟩, ?_⟩
        rintro i m H2 ⟨rfl, hi, F2, T2, acc2, ws, f2, R2, hw, e3⟩
        by_cases hlt : i < ds.length
        · refine .inr ⟨w.1 i H2 hlt (hG H2 (f2.trans R2.fh)), fun H' => i + 1 ≤ ds.length ∧ ∃ F2 T2 acc2 ws, Same F1 F2 ∧ RC K (upd P D (.lst ws)) F0 qc F2 cell T2 (L2.wipe σ vs) H' ∧ DVs K F2 ws acc2 ∧ lcGo g mt me vs (ds.drop (i + 1)) T2 acc2 = some (acc, T), fun H' q => ⟨ds.length - (i + 1), by omega, rfl, q⟩, fun x H' y => ?_⟩
          obtain ⟨d, hd, hdr⟩ := drop_cons hlt
          rw [hdr] at e3
          unfold lcGo at e3
          obtain ⟨F3, ex, dv⟩ := hY i H2 x H' F2 d f2 R2.fh hd (w.yields i H2 x H' hlt (hG H2 (f2.trans R2.fh)) y)
          have R3 := R2.ext ex
          cases e4 : g d T2 with
          | none => rw [e4] at e3; cases e3
          | some T3 =>
            rw [e4] at e3
            refine ⟨_, F0, qc, F3, cell, T2, d, T3, R3, dv, e4, fun σ4 R4 w4 => ⟨(w4 vs hv).trans (wipe_idem σ vs), ?_⟩⟩
            cases e5 : mt T3 with
            | none => simp only [e5] at e3; cases e3
            | some z =>
              obtain ⟨b, T4⟩ := z
              simp only [e5] at e3
              refine ⟨_, F0, qc, F3, cell, T3, b, T4, R4, e5, fun F5 H5 f5 R5 => ?_⟩
              cases b with
              | false =>
                rw [if_neg Bool.false_ne_true]
                have e3 : lcGo g mt me vs (ds.drop (i + 1)) (wp T4 vs) acc2 = some (acc, T) := e3
                refine ⟨hlt, F5, _, acc2, ws, (f2.trans ex.f).trans f5, ?_, (hw.mono ex.f).mono f5, e3⟩
                rw [← (w4 vs hv).trans (wipe_idem σ vs)]
                exact R5.wipe vs
              | true =>
                rw [if_pos rfl]
                have e3 : (match me T4 with
                  | some (.v z, T3) => if acc2.length < 100000 then lcGo g mt me vs (ds.drop (i + 1)) (wp T3 vs) (acc2 ++ [z]) else none
                  | _ => none) = some (acc, T) := e3
                split at e3
                · rename_i z T5 e6
                  split at e3
                  · rename_i hl
                    refine ⟨_, F0, qc, F5, cell, T4, .v z, T5, R5, e6, fun v F6 H6 f6 R6 q6 => ?_⟩
                    refine ⟨ws, R6.laid_at, ?_, hlt, F6, _, acc2 ++ [z], ws ++ [v], ((f2.trans ex.f).trans f5).trans f6, ?_, (((hw.mono ex.f).mono f5).mono f6).append (.cons q6 .nil), e3⟩
                    · rw [hw.length]
                      exact Nat.lt_of_lt_of_le hl (by decide)
                    · rw [← (w4 vs hv).trans (wipe_idem σ vs)]
                      exact (R6.relay h0).wipe vs
                  · cases e3
                · cases e3
        · have e : i = ds.length := by omega
          subst e
          rw [List.drop_length] at e3
          cases e3
          refine .inl ⟨w.2 H2 (hG H2 (f2.trans R2.fh)), ?_⟩
          exact k D ws F2 H2 (f1.trans f2) hP h0 (R1.unwipe ho f2 R2) hw
      · cases hm
    · cases hm
/-- [elt for tg in iter if ..] -/
theorem jx_lc (hc : X.calm = true) (hN : X.N.Nodup) (hi : JI X tg iter mi) (ok : BlkOk X.N X.env.scope scope own)
    (hg : ∀ (s : Shared) (H : Hp) (C : Addr) (cl : List (Str × Addr)) (fp : List Addr), JG (X.blk s H scope (compEnvC scope cl C X.env) fp) tg g ts) (ht : ∀ (s : Shared) (H : Hp) (C : Addr) (cl : List (Str × Addr)) (fp : List Addr), JTs (X.blk s H scope (compEnvC scope cl C X.env) fp) ifs mt)
    (he : ∀ (s : Shared) (H : Hp) (C : Addr) (cl : List (Str × Addr)) (fp : List Addr), JE (X.blk s H scope (compEnvC scope cl C X.env) fp) elt me) (hv : ∀ i ∈ ts, i ∈ own.map (·.2) := by decide) (hs : ∀ x, foldedSetIterable iter X.env x = pure x := by intro _; rfl) :
    JX X (.ListComp elt [⟨tg, iter, ifs, 0⟩] scope pos) (xLc mi g mt me (own.map (·.2))) := by
  obtain ⟨wi, pi, si⟩ := hi.ex
  exact ⟨_, pe_lc hc hN pi ok (fun s H C cl fp => (hg s H C cl fp).den) (fun s H C cl fp => (ht s H C cl fp).den) (fun s H C cl fp => (he s H C cl fp).den) hs, snd_lc si hv⟩
/-- name = [..] on one line, the name a local -/
theorem js_setLc (i : Nat) {y : Str} {py spos : Pos} (hc : X.calm = true) (hN : X.N.Nodup) (hi : JI X tg iter mi) (ok : BlkOk X.N X.env.scope scope own)
    (hg : ∀ (s : Shared) (H : Hp) (C : Addr) (cl : List (Str × Addr)) (fp : List Addr), JG (X.blk s H scope (compEnvC scope cl C X.env) fp) tg g ts) (ht : ∀ (s : Shared) (H : Hp) (C : Addr) (cl : List (Str × Addr)) (fp : List Addr), JTs (X.blk s H scope (compEnvC scope cl C X.env) fp) ifs mt)
    (he : ∀ (s : Shared) (H : Hp) (C : Addr) (cl : List (Str × Addr)) (fp : List Addr), JE (X.blk s H scope (compEnvC scope cl C X.env) fp) elt me) (hy : X.N[i]? = some y := by rfl) (hyl : X.env.scope.names.lookup y = some .local := by rfl)
    (hsw : swapsWith (.ListComp elt [⟨tg, iter, ifs, 0⟩] scope pos) (some (.Name y py)) spos.line X.env = pure true := by rfl) (hv : ∀ i ∈ ts, i ∈ own.map (·.2) := by decide) (hs : ∀ x, foldedSetIterable iter X.env x = pure x := by intro _; rfl) :
    JS X W (.Assign [.Name y py] (.ListComp elt [⟨tg, iter, ifs, 0⟩] scope pos) spos) (mSetX i (xLc mi g mt me (own.map (·.2)))) := by
  obtain ⟨wi, pi, si⟩ := hi.ex
  exact ⟨_, ps_setLc hc hN hy hyl hsw pi ok (fun s H C cl fp => (hg s H C cl fp).den) (fun s H C cl fp => (ht s H C cl fp).den) (fun s H C cl fp => (he s H C cl fp).den) hs, snd_setX (snd_lc si hv)⟩
end

/-! ### a, b = e, e2 -/
abbrev MXs := Sl → Option (List SL × Sl)
inductive LD (K : PySem.W.Frag) (F0 F : Hp) : Hp → Hp → List SL → List V → Prop
  | nil {P : Hp} : LD K F0 F P P [] []
  | v {P P' : Hp} {d : PyData} {v : V} {rs : List SL} {vs : List V} : DV K F v d → LD K F0 F P P' rs vs → LD K F0 F P P' (.v d :: rs) (v :: vs)
  | c {P P' : Hp} {ds : List PyData} {p : Addr} {ws : List V} {rs : List SL} {vs : List V} : P p = none → F0 p = none → DVs K F ws ds → LD K F0 F (upd P p (.lst ws)) P' rs vs → LD K F0 F P P' (.c ds :: rs) (.ref p :: vs)
def SndXs (K : PySem.W.Frag) (t : TA) (m : MXs) : Prop :=
  ∀ (P F0 : Hp) (qc : Nat → Addr) (F : Hp) (cell : Nat → Addr) (S : Sl) (σ : L2.St) (H : Hp) (Q : List V → Hp → Prop) (rs : List SL) (S' : Sl), RC K P F0 qc F cell S σ H → m S = some (rs, S') →
    (∀ vs P' F' H', Same F F' → RC K P' F0 qc F' cell S' σ H' → LD K F0 F' P P' rs vs → Q vs H') → t σ H Q
structure JXs (X : Cx) (es : List Expr) (m : MXs) : Prop where
  ex : ∃ t, PA X es t ∧ SndXs X.K t m
def xsNil : MXs := fun S => some ([], S)
def xsCons (mx : MX) (ms : MXs) : MXs := fun S => match mx S with
  | some (.v d, S1) => match ms S1 with
    | some (rs, S2) => some (.v d :: rs, S2)
    | none => none
  | some (.c d, S1) => match ms S1 with
    | some (rs, S2) => some (.c d :: rs, S2)
    | none => none
  | _ => none
def setAll : List Nat → List SL → Sl → Sl
  | i :: is, r :: rs, S => (setAll is rs S).set i (some r)
  | _, _, S => S
def setAllV : List Nat → List V → L2.St → L2.St
  | i :: is, r :: rs, S => (setAllV is rs S).set i (some r)
  | _, _, S => S
def mPar (is : List Nat) (ms : MXs) : MS := fun S => match ms S with
  | some (rs, S1) => if rs.length = is.length then some (.nx, setAll is rs S1) else none
  | none => none
theorem LD.mono {K : PySem.W.Frag} {F0 F F' : Hp} (e : Same F F') : ∀ {P P' : Hp} {rs : List SL} {vs : List V}, LD K F0 F P P' rs vs → LD K F0 F' P P' rs vs
  | _, _, _, _, .nil => .nil
  | _, _, _, _, .v h t => .v (h.mono e) (LD.mono e t)
  | _, _, _, _, .c h1 h2 h3 t => .c h1 h2 (h3.mono e) (LD.mono e t)
theorem LD.length {K : PySem.W.Frag} {F0 F : Hp} : ∀ {P P' : Hp} {rs : List SL} {vs : List V}, LD K F0 F P P' rs vs → vs.length = rs.length
  | _, _, _, _, .nil => rfl
  | _, _, _, _, .v h t => by rw [List.length_cons, List.length_cons, LD.length t]
  | _, _, _, _, .c h1 h2 h3 t => by rw [List.length_cons, List.length_cons, LD.length t]
theorem LD.all {K : PySem.W.Frag} {F0 F H : Hp} {qc : Nat → Addr} {σ : L2.St} {S : Sl} : ∀ {is : List Nat} {P P' : Hp} {rs : List SL} {vs : List V} {cell : Nat → Addr}, LD K F0 F P P' rs vs → rs.length = is.length → RC K P' F0 qc F cell S σ H →
    ∃ cell', RC K P F0 qc F cell' (setAll is rs S) (setAllV is vs σ) H
  | [], _, _, _, _, cell, .nil, _, R => ⟨cell, R⟩
  | i :: is, _, _, _, _, cell, .v h t, hl, R => by
    obtain ⟨c', R'⟩ := LD.all (is := is) t (by simpa using hl) R
    exact ⟨c', R'.setV h⟩
  | i :: is, _, _, _, _, cell, .c h1 h2 h3 t, hl, R => by
    obtain ⟨c', R'⟩ := LD.all (is := is) t (by simpa using hl) R
    exact ⟨_, R'.own h1 h2 h3⟩
section
variable {X : Cx} {W : WX} {e a b c : Expr} {es : List Expr} {mx : MX} {ms : MXs} {pos : Pos}
theorem jxs_nil : JXs X [] xsNil := ⟨_, pa_nil, fun P F0 qc F cell S σ H Q rs S' R hm k => by
  cases hm
  exact k [] P F H (Same.refl _) R .nil⟩
theorem jxs_cons (he : JX X e mx) (hs : JXs X es ms) (hst : starEach (e :: es) X.env = (false, eval e X.env) :: starEach es X.env := by rfl) : JXs X (e :: es) (xsCons mx ms) := by
  obtain ⟨t, p, s⟩ := he.ex
  obtain ⟨u, q, sq⟩ := hs.ex
  refine ⟨_, pa_cons p q hst, fun P F0 qc F cell S σ H Q rs S' R hm k => ?_⟩
  unfold xsCons at hm
  split at hm
  · rename_i d S1 e1
    split at hm
    · rename_i rs' S2 e2
      cases hm
      refine s P F0 qc F cell S σ H _ _ S1 R e1 fun v F1 H1 f1 R1 q1 => ?_
      refine sq P F0 qc F1 cell S1 σ H1 _ rs' S' R1 e2 fun vs P2 F2 H2 f2 R2 l2 => ?_
      exact k (v :: vs) P2 F2 H2 (f1.trans f2) R2 (.v (q1.mono f2) l2)
    · cases hm
  · rename_i d S1 e1
    split at hm
    · rename_i rs' S2 e2
      cases hm
      refine s P F0 qc F cell S σ H _ _ S1 R e1 fun p ws F1 H1 f1 hp h0 R1 q1 => ?_
      refine sq _ F0 qc F1 cell S1 σ H1 _ rs' S' R1 e2 fun vs P2 F2 H2 f2 R2 l2 => ?_
      exact k (.ref p :: vs) P2 F2 H2 (f1.trans f2) R2 (.c hp h0 (q1.mono f2) l2)
    · cases hm
  · cases hm
theorem js_par2 {i j : Nat} {x y : Str} {px py pt : Pos} {kt k2 pt2} (hc : X.calm = true) (hN : X.N.Nodup) (ha : JXs X [a, b] ms) (hi : X.N[i]? = some x := by rfl) (hj : X.N[j]? = some y := by rfl) (hij : i ≠ j := by decide)
    (hx : X.env.scope.names.lookup x = some .local := by rfl) (hy : X.env.scope.names.lookup y = some .local := by rfl)
    (hw : swappedStores [.Tuple [.Name x px, .Name y py] kt pt] (.Tuple [a, b] k2 pt2) X.env = pure (some [x, y]) := by rfl)
    (hs : swapsWithSole [.Tuple [.Name x px, .Name y py] kt pt] (.Tuple [a, b] k2 pt2) pos.line X.env = pure false := by rfl) :
    JS X W (.Assign [.Tuple [.Name x px, .Name y py] kt pt] (.Tuple [a, b] k2 pt2) pos) (mPar [i, j] ms) := by
  obtain ⟨t, p, s⟩ := ha.ex
  refine ⟨_, ps_par hc hN hi hj hij hx hy p hw hs, fun P F0 qc F cell S σ H D fl S' R hm k => ?_⟩
  unfold mPar at hm
  split at hm
  · rename_i rs S1 e1
    split at hm
    · rename_i hl
      cases hm
      refine s P F0 qc F cell S σ H _ rs S1 R e1 fun vs P' F' H' f1 R1 l => ?_
      obtain ⟨c', R2⟩ := l.all hl R1
      have hv : vs.length = 2 := l.length.trans hl
      match vs, hv with
      | [v, w], _ =>
        refine ⟨v, w, rfl, ?_⟩
        rw [List.set_comm _ _ hij]
        exact k F' c' _ H' f1 R2
    · cases hm
  · cases hm
theorem js_par3 {i j l : Nat} {x y z : Str} {px py pz pt : Pos} {kt k2 pt2} (hc : X.calm = true) (hN : X.N.Nodup) (ha : JXs X [a, b, c] ms) (hi : X.N[i]? = some x := by rfl) (hj : X.N[j]? = some y := by rfl) (hk : X.N[l]? = some z := by rfl) (hij : i ≠ j := by decide) (hil : i ≠ l := by decide) (hjl : j ≠ l := by decide)
    (hx : X.env.scope.names.lookup x = some .local := by rfl) (hy : X.env.scope.names.lookup y = some .local := by rfl) (hz : X.env.scope.names.lookup z = some .local := by rfl)
    (hw : swappedStores [.Tuple [.Name x px, .Name y py, .Name z pz] kt pt] (.Tuple [a, b, c] k2 pt2) X.env = pure (some [x, y, z]) := by rfl)
    (hs : swapsWithSole [.Tuple [.Name x px, .Name y py, .Name z pz] kt pt] (.Tuple [a, b, c] k2 pt2) pos.line X.env = pure false := by rfl) :
    JS X W (.Assign [.Tuple [.Name x px, .Name y py, .Name z pz] kt pt] (.Tuple [a, b, c] k2 pt2) pos) (mPar [i, j, l] ms) := by
  obtain ⟨t, p, s⟩ := ha.ex
  refine ⟨_, ps_par3 hc hN hi hj hk hij hil hjl hx hy hz p hw hs, fun P F0 qc F cell S σ H D fl S' R hm k => ?_⟩
  unfold mPar at hm
  split at hm
  · rename_i rs S1 e1
    split at hm
    · rename_i hl
      cases hm
      refine s P F0 qc F cell S σ H _ rs S1 R e1 fun vs P' F' H' f1 R1 l => ?_
      obtain ⟨c', R2⟩ := l.all hl R1
      have hv : vs.length = 3 := l.length.trans hl
      match vs, hv with
      | [v, w, u], _ =>
        refine ⟨v, w, u, rfl, ?_⟩
        rw [List.set_comm _ _ hjl, List.set_comm _ _ hil, List.set_comm _ _ hij]
        exact k F' c' _ H' f1 R2
    · cases hm
  · cases hm
/-- by a pair that is made and taken apart -/
def mUnp (m : ME) (g : MG) : MS := fun S => match m S with
  | some (.v d, S1) => match g d S1 with
    | some S2 => some (.nx, S2)
    | none => none
  | _ => none
theorem js_unp {tg : Expr} {me : ME} {g : MG} {ts : List Nat} (he : JE X e me) (hg : JG X tg g ts) (hs : swapsWithSole [tg] e pos.line X.env = pure false := by rfl) (hw : swappedStores [tg] e X.env = pure none := by rfl)
    (h1 : (assignEach [tg] X.env).map (·.2) = [assign tg X.env] := by rfl) : JS X W (.Assign [tg] e pos) (mUnp me g) := by
  obtain ⟨t, p, s⟩ := he.ex
  obtain ⟨gg, pg, sg⟩ := hg.ex
  refine ⟨_, ps_asg p pg hs hw h1, fun P F0 qc F cell S σ H D fl S' R hm k => ?_⟩
  unfold mUnp at hm
  split at hm
  · rename_i d S1 e1
    split at hm
    · rename_i S2 e2
      cases hm
      refine s P F0 qc F cell S σ H _ _ S1 R e1 fun v F1 H1 f1 R1 q1 => ?_
      exact sg P F0 qc F1 cell S1 σ H1 _ v d S' R1 q1 e2 fun σ' R2 _ => k F1 cell σ' H1 f1 R2
    · cases hm
  · cases hm
end
end VL

set_option Elab.async false
set_option linter.all false
set_option maxRecDepth 100000
set_option maxHeartbeats 4000000
/-! VL11: insert; defs called by keywords; defs that give a new list. -/
namespace VL
open PySem PySem.Spec PyProof.Rows L2

/-! ### x.insert(i, e) -/
section
variable {X : Cx} {W : WX} {e a : Expr} {me mi : ME} {x : Str} {pos p1 apos cpos : Pos}
theorem js_ins (j : Nat) (hi : JE X a mi) (he : JE X e me) (hN : X.N[j]? = some x := by rfl) (hv : Vis X.env.scope x := by first | exact Or.inl rfl | exact Or.inr (Or.inl rfl) | exact Or.inr (Or.inr rfl)) (hd : (x == ("__debug__" : Str)) = false := by decide)
    (hcd : (x == ("__classdict__" : Str)) = false := by decide)
    (hbase : attributeBase (.Name x p1) "insert" X.env (eval (.Name x p1) X.env) = eval (.Name x p1) X.env := by rfl)
    (hfew : ((backTo cpos (starEach [a, e] X.env)).all (fun x => !x.1) && (backToKw cpos (keywordEach [] X.env)).all (fun x => x.1.isSome)
      && decide ([a, e].length + ([] : List Keyword).length + (if ([] : List Keyword).isEmpty then 0 else 1) < 30)) = true := by rfl)
    (hline : (apos.endLine == cpos.line) = true := by rfl) (hst : starEach [a, e] X.env = (false, eval a X.env) :: starEach [e] X.env := by rfl) (hst2 : starEach [e] X.env = (false, eval e X.env) :: starEach [] X.env := by rfl) (hplain : (backTo cpos (starEach [e] X.env)).any (·.1) = false := by rfl)
    (hs : swapsWith (.Call (.Attribute (.Name x p1) "insert" apos) [a, e] [] cpos) none pos.line X.env = pure false := by rfl) :
    JS X W (.Expr (.Call (.Attribute (.Name x p1) "insert" apos) [a, e] [] cpos) pos) (mIns j mi me) := by
  obtain ⟨t, p, s⟩ := he.ex
  obtain ⟨ti, pi, si⟩ := hi.ex
  refine ⟨_, ps_expr (pe_bm PySem.F.plainAttrs_list PySem.F.slot_list_insert PySem.F.type_list_insert mt_insert (pe_var hN hv hd hcd) (pa_cons pi (pa_cons p pa_nil hst2) hst) hbase hfew hline hst hplain) hs, fun P F0 qc F cell S σ H D fl S' R hm k => ?_⟩
  unfold mIns at hm
  split at hm
  · rename_i zs h1
    split at hm
    · rename_i kk S1 h2
      split at hm
      · rename_i d S2 h3
        split at hm
        · rename_i xs h4
          split at hm
          · rename_i hl
            cases hm
            obtain ⟨g1, _, _, vs0, g0, _⟩ := R.at h1
            refine ⟨_, g1, .inl ⟨rfl, vs0, SqL.of g0⟩, ?_⟩
            refine si P F0 qc F cell S σ H _ _ S1 R h2 fun u F1 H1 f1 R1 q1 => ?_
            refine s P F0 qc F1 cell S1 σ H1 _ _ S2 R1 h3 fun v F2 H2 f2 R2 q2 => ?_
            obtain ⟨_, _, _, ws, g4, g5⟩ := R2.at h4
            cases (show DV X.K F1 u (.int kk) from q1)
            refine ⟨cell j, ws, kk, v, rfl, rfl, g4, ?_, hl.2.1, Int.lt_of_le_of_lt hl.2.2 (by decide), ?_⟩
            · rw [g5.length]
              exact Nat.lt_of_lt_of_le hl.1 (by decide)
            · exact k F2 cell σ _ (f1.trans f2) (R2.mutate h4 (((g5.take kk.toNat).append (.cons q2 .nil)).append (g5.drop kk.toNat)))
          · cases hm
        · cases hm
      · cases hm
    · cases hm
  · cases hm
end

/-! ### by keywords alone -/
/-- ks: the names in the parameters' order -/
structure KB (K : PySem.W.Frag) (fd : FuncData) (ps : List Str) : Prop where
  to : ∀ (s : Shared) (ws : List Value), K.In s.heap → ws.length = ps.length → BindsTo s fd ⟨[], ps.zip ws⟩ (ps.zip ws)
theorem KB.of {K : PySem.W.Frag} {x qual : Str} {st : Stmt} {f : Addr} {fd : FuncData} (F : Fun K x qual st f fd) {ps : List Str}
    (h : ∀ (kV doc pm : Value) (an : Option Addr) (cdv ct : Value) (ws : List Value), ws.length = ps.length → bindArgs (PySem.W.fnOf x qual (defArgs st) (defBody st) (defScope st) .none kV doc pm an cdv ct) ⟨[], ps.zip ws⟩ = pure (ps.zip ws)) : KB K fd ps := by
  obtain ⟨oc, od, kV, doc, pm, an, cdv, ct, osl, rfl, lk, hcd⟩ := F.ex
  exact ⟨fun s ws _ hl => .of_eq (h kV doc pm an cdv ct ws hl)⟩
def gK {α : Type} (us ws : List α) : List α := match us with
  | [] => ws
  | _ :: _ => []
theorem KB.kb {K : PySem.W.Frag} {fd : FuncData} {p0 : Str} {ps : List Str} (b : KB K fd (p0 :: ps)) : KBinds K fd (p0 :: ps) (p0 :: ps) gK gK :=
  ⟨fun s us ws h hl => by
    cases us with
    | nil => exact b.to s ws h hl
    | cons u us => simp [gK] at hl, fun {vs us zs ws} r rz => by
    cases r with
    | nil => exact rz
    | cons _ _ => exact .nil⟩
section
variable {X : Cx} {k n : Nat} {f : Addr} {fd : FuncData} {p0 : Str} {ps : List Str} {x : Str} {p pos : Pos} {e : Expr} {es : List Expr} {kws : List Keyword} {m : MF} {mas : MA}
structure JK (X : Cx) (kws : List Keyword) (m : MA) : Prop where
  ex : ∃ t, PK X kws t ∧ SndA X.K t m
theorem jk_nil : JK X [] aNil := by
  obtain ⟨t, _, s⟩ := (ja_nil (X := X)).ex
  exact ⟨_, pk_nil, fun P F0 qc F cell S σ H Q rs S' R hm k => by
    cases hm
    exact k [] F H (Same.refl _) R rfl⟩
theorem snd_cons {K : PySem.W.Frag} {t : TE} {u : TA} {ma : ME} (s : SndE K t ma) (su : SndA K u mas) : SndA K (tCons t u) (aCons ma mas) := by
  intro P F0 qc F cell S σ H Q rs S' R hm k
  unfold aCons at hm
  split at hm
  · cases hm
  · rename_i r S1 e1
    split at hm
    · cases hm
    · rename_i rs' S2 e2
      cases hm
      refine s P F0 qc F cell S σ H _ r S1 R e1 fun v F1 H1 f1 R1 q1 => ?_
      refine su P F0 qc F1 cell S1 σ H1 _ rs' S' R1 e2 fun vs F2 H2 f2 R2 q2 => ?_
      exact k (v :: vs) F2 H2 (f1.trans f2) R2 ⟨v, vs, rfl, q1.mono f2, q2⟩
theorem jk_cons {nm} {kpos : Pos} {me : ME} (ha : JE X e me) (hr : JK X kws mas) : JK X (⟨nm, e, kpos⟩ :: kws) (aCons me mas) := by
  obtain ⟨t, p, s⟩ := ha.ex
  obtain ⟨u, q, su⟩ := hr.ex
  exact ⟨_, pk_cons p q, snd_cons s su⟩
/-- f(k = e, ..) -/
theorem je_callFK (G : FnG X.prog X.w X.K X.mg X.base CX0 k f fd (p0 :: ps) (spM X.K n m)) (gd : X.A.guards = some []) (hr : Room k X.A) (hm : X.mg x = some (.ref f)) (hk : PySem.W.keepIn X.K (.ref f) = true) (hb : KB X.K fd (p0 :: ps)) (ha : JK X kws mas)
    (hg : Gl X x := by rfl) (hall : (backToKw pos (keywordEach kws X.env)).all (·.1.isSome) = true := by rfl) (hks : (backToKw pos (keywordEach kws X.env)).filterMap (·.1) = p0 :: ps := by rfl) (hdb : (x == ("__debug__" : Str)) = false := by decide)
    (hpl : ((backTo pos (starEach [] X.env)).any (·.1) || (backToKw pos (keywordEach kws X.env)).any (·.1.isNone)) = false := by rfl) :
    JE X (.Call (.Name x p) [] kws pos) (mCallF n m mas) := by
  obtain ⟨ta, pa, sa⟩ := ha.ex
  have imp : ∀ (σ : L2.St) (H : Hp) (Q : VK), tCall (spM X.K n m) [] E0 ta σ H Q → tCallK (spM X.K n m) gK E0 tNil ta σ H Q := fun σ H Q h => by
    have e : (fun (vs : List V) H1 => spM X.K n m (vs ++ []) H1 Q E0) = fun (zs : List V) H2 => spM X.K n m (gK [] zs) H2 Q E0 := by
      funext vs H1
      rw [List.append_nil]
      rfl
    show ta σ H (fun (zs : List V) H2 => spM X.K n m (gK [] zs) H2 Q E0)
    rw [← e]
    exact h
  refine ⟨_, pe_callGK0 G gd hr hg hm hk hb.kb pass0 pa hall hks hdb hpl, fun P F0 qc F cell S σ H Q z S' R hm k => ?_⟩
  exact imp σ H Q (snd_callF (n := n) (m := m) sa P F0 qc F cell S σ H Q z S' R hm k)
end

/-! ### defs that give a new list -/
abbrev MFc := List SL → Option (List PyData × List SL)
def spC (K : PySem.W.Frag) (n : Nat) (m : MFc) : Sp := fun vs H Q _ => vs.length = n ∧ ∃ F as ds as', Same F H ∧ Fits K F H as vs ∧ m as = some (ds, as') ∧
  ∀ p ws F' H', Back K F H F' H' as vs as' .non .none → H p = none → F' p = none → H' p = some (.lst ws) → DVs K F' ws ds → Q (.ref p) H'
abbrev MC := Sl → Option (List PyData × Sl)
def SndC (K : PySem.W.Frag) (W : WX) (t : TS) (m : MC) : Prop :=
  ∀ (P F0 : Hp) (qc : Nat → Addr) (F : Hp) (cell : Nat → Addr) (S : Sl) (σ : L2.St) (H : Hp) (D : Ends) (ds : List PyData) (S' : Sl), RC K P F0 qc F cell S σ H → m S = some (ds, S') →
    (∀ p ws F' cell' σ' H', Same F F' → P p = none → F0 p = none → RC K (upd P p (.lst ws)) F0 qc F' cell' S' σ' H' → DVs K F' ws ds → D.rt (.ref p) H') → t D σ H
structure JC (X : Cx) (W : WX) (sts : List Stmt) (m : MC) : Prop where
  ex : ∃ t, PSs X sts t ∧ SndC X.K W t m
def mSeqC (m : MS) (n : MC) : MC := fun S => match m S with
  | some (.nx, S1) => n S1
  | _ => none
def mRetC (mx : MX) : MC := fun S => match mx S with
  | some (.c ds, S1) => some (ds, S1)
  | _ => none
section
variable {X : Cx} {W : WX} {st : Stmt} {rest : List Stmt} {e : Expr} {m : MS} {n : MC} {mx : MX} {pos : Pos}
theorem jc_cons (h1 : JS X W st m) (h2 : JC X W rest n) : JC X W (st :: rest) (mSeqC m n) := by
  obtain ⟨t, p1, s1⟩ := h1.ex
  obtain ⟨u, p2, s2⟩ := h2.ex
  refine ⟨_, pss_cons p1 p2, fun P F0 qc F cell S σ H D ds S' R hm k => ?_⟩
  unfold mSeqC at hm
  split at hm
  · rename_i S1 e1
    refine s1 P F0 qc F cell S σ H { D with nx := u D } .nx S1 R e1 fun F1 c1 σ1 H1 f1 R1 => ?_
    exact s2 P F0 qc F1 c1 S1 σ1 H1 D ds S' R1 hm fun p ws F2 c2 σ2 H2 f2 hp h0 R2 q => k p ws F2 c2 σ2 H2 (f1.trans f2) hp h0 R2 q
  · cases hm
theorem jc_ret (he : JX X e mx) : JC X W [.Return (some e) pos] (mRetC mx) := by
  obtain ⟨t, p, s⟩ := he.ex
  refine ⟨_, pss_one (ps_ret p), fun P F0 qc F cell S σ H D ds S' R hm k => ?_⟩
  unfold mRetC at hm
  split at hm
  · rename_i ds' S1 e1
    cases hm
    exact s P F0 qc F cell S σ H _ _ S' R e1 fun p ws F' H' f1 hp h0 R1 q1 => k p ws F' cell σ H' f1 hp h0 R1 q1
  · cases hm
end
theorem asOut_still : ∀ {as : List SL} {S : Sl} {as' : List SL} {j : Nat} {xs : List PyData}, asOut as S = some as' → as[j]? = some (.q xs) → ∃ ys, S[j]? = some (some (.q ys)) := by
  intro as
  induction as with
  | nil => intro S as' j xs _ e; simp at e
  | cons a as ih =>
    intro S as' j xs h e
    cases S with
    | nil => cases a <;> simp [asOut] at h
    | cons s S =>
      cases j with
      | zero =>
        have ea : a = .q xs := by simpa using e
        subst ea
        cases s with
        | none => simp [asOut] at h
        | some s =>
          cases s with
          | q ws => exact ⟨ws, rfl⟩
          | _ => simp [asOut] at h
      | succ j =>
        have e' : as[j]? = some (.q xs) := by simpa using e
        have tl : ∃ as2, asOut as S = some as2 := by
          cases a with
          | q zs =>
            cases s with
            | none => simp [asOut] at h
            | some s =>
              cases s with
              | q ws =>
                obtain ⟨as2, h2, _⟩ := Option.map_eq_some_iff.mp (show (asOut as S).map (SL.q ws :: ·) = some as' by simpa [asOut] using h)
                exact ⟨as2, h2⟩
              | _ => simp [asOut] at h
          | v d =>
            obtain ⟨as2, h2, _⟩ := Option.map_eq_some_iff.mp (show (asOut as S).map (SL.v d :: ·) = some as' by simpa [asOut] using h)
            exact ⟨as2, h2⟩
          | c d =>
            obtain ⟨as2, h2, _⟩ := Option.map_eq_some_iff.mp (show (asOut as S).map (SL.c d :: ·) = some as' by simpa [asOut] using h)
            exact ⟨as2, h2⟩
          | s d =>
            obtain ⟨as2, h2, _⟩ := Option.map_eq_some_iff.mp (show (asOut as S).map (SL.s d :: ·) = some as' by simpa [asOut] using h)
            exact ⟨as2, h2⟩
        obtain ⟨as2, h2⟩ := tl
        obtain ⟨ys, e3⟩ := ih h2 e'
        exact ⟨ys, by simpa using e3⟩
theorem back_end {K : PySem.W.Frag} {F1 H P1 : Hp} {as as' : List SL} {vs : List V} {v : V} {d : PyData} {F' H' : Hp} {c' : Nat → Addr} {S' : Sl} {σ' : L2.St} (ft : Fits K F1 H as vs)
    (hP1 : ∀ b o, H b = some o → (∀ (j : Nat) (xs : List PyData), as[j]? = some (.q xs) → vs[j]? ≠ some (.ref b)) → P1 b = some o) (hP2 : ∀ b, P1 b = none → H b = none ∨ ∃ (j : Nat) (xs : List PyData), as[j]? = some (.q xs) ∧ vs[j]? = some (.ref b))
    (f1 : Same F1 F') (R1 : RC K P1 F1 (adr vs) F' c' S' σ' H') (dv : DV K F' v d) (ho : asOut as S' = some as') : Back K F1 H F' H' as vs as' v d := by
  refine ⟨f1, R1.fh, fun b o e hno => R1.ph b o (hP1 b o e hno), fun b z => ?_, dv, fun j xs e => ?_⟩
  · rcases R1.fr b z with z' | z'
    · exact .inl z'
    · rcases hP2 b z' with z2 | ⟨j, xs, h1, h2⟩
      · exact .inr z2
      · -- a lent list is not told as long as its slot holds it; here it must be shown from the slot
        by_cases q : F1 b = none
        · exact absurd q (by
            intro q
            -- the slot j still bears the lent list
            obtain ⟨ys, e1⟩ : ∃ ys, S'[j]? = some (some (.q ys)) := by
              have aux : ∀ {as : List SL} {S : Sl} {as' : List SL} {j : Nat} {xs : List PyData}, asOut as S = some as' → as[j]? = some (.q xs) → ∃ ys, S[j]? = some (some (.q ys)) := by
                intro as
                induction as with
                | nil => intro S as' j xs _ e; simp at e
                | cons a as ih =>
                  intro S as' j xs h e
                  cases S with
                  | nil => cases a <;> simp [asOut] at h
                  | cons s S =>
                    cases j with
                    | zero =>
                      have ea : a = .q xs := by simpa using e
                      subst ea
                      cases s with
                      | none => simp [asOut] at h
                      | some s =>
                        cases s with
                        | q ws => exact ⟨ws, rfl⟩
                        | _ => simp [asOut] at h
                    | succ j =>
                      have e' : as[j]? = some (.q xs) := by simpa using e
                      have tl : ∃ as2, asOut as S = some as2 := by
                        cases a with
                        | q zs =>
                          cases s with
                          | none => simp [asOut] at h
                          | some s =>
                            cases s with
                            | q ws =>
                              obtain ⟨as2, h2, _⟩ := Option.map_eq_some_iff.mp (show (asOut as S).map (SL.q ws :: ·) = some as' by simpa [asOut] using h)
                              exact ⟨as2, h2⟩
                            | _ => simp [asOut] at h
                        | v d =>
                          obtain ⟨as2, h2, _⟩ := Option.map_eq_some_iff.mp (show (asOut as S).map (SL.v d :: ·) = some as' by simpa [asOut] using h)
                          exact ⟨as2, h2⟩
                        | c d =>
                          obtain ⟨as2, h2, _⟩ := Option.map_eq_some_iff.mp (show (asOut as S).map (SL.c d :: ·) = some as' by simpa [asOut] using h)
                          exact ⟨as2, h2⟩
                        | s d =>
                          obtain ⟨as2, h2, _⟩ := Option.map_eq_some_iff.mp (show (asOut as S).map (SL.s d :: ·) = some as' by simpa [asOut] using h)
                          exact ⟨as2, h2⟩
                      obtain ⟨as2, h2⟩ := tl
                      obtain ⟨ys, e3⟩ := ih h2 e'
                      exact ⟨ys, by simpa using e3⟩
              exact aux ho h1
            obtain ⟨_, g2, _⟩ := R1.cl j _ ys e1 rfl
            have ec : c' j = b := by
              rw [R1.qs j ys e1]
              unfold adr
              rw [h2]
            rw [ec] at g2
            exact z g2)
        · exact .inl q
  · obtain ⟨e1, ys, e2⟩ := asOut_q ho e
    obtain ⟨g1, _, _, ws, g4, g5⟩ := R1.cl j _ xs e1 rfl
    obtain ⟨v2, g6, c2, us, rfl, _⟩ := ft.arg j _ e2
    have ec : c' j = c2 := by
      rw [R1.qs j xs e1]
      unfold adr
      rw [g6]
    rw [ec] at g4
    exact ⟨c2, ws, g6, g4, g5⟩

def defMc (n : Nat) (m : MC) : MFc := fun as => match m (startS n as) with
  | some (ds, S) => match asOut as S with
    | some as' => some (ds, as')
    | none => none
  | none => none
section
variable {P : Program} {w : World} {K : PySem.W.Frag} {mg : Str → Option Value} {base : Heap}
theorem jfC {x qual : Str} {st : Stmt} {f : Addr} {fd : FuncData} {N ps : List Str} {k : Nat} {m : MC} (F : Fun K x qual st f fd) (S : FnScope N ps (defScope st)) (hl : ps.length ≤ N.length)
    (hb : ∀ cdv A outer s H (E : _), A.guards = some [] → Room k (cxOf CX0 P w K mg base N qual (defScope st) f cdv A outer s H E).nox.A → JC (cxOf CX0 P w K mg base N qual (defScope st) f cdv A outer s H E).nox W0 (defBody st) m) :
    FnG P w K mg base CX0 (k + 1) f fd ps (spC K ps.length (defMc N.length m)) := by
  refine okG F S (fun vs H Q E h => h.1) fun cdv A outer s H vs Q E hg hr h => ?_
  obtain ⟨hv, F1, as, ds, as', fh, ft, hm, kk⟩ := h
  obtain ⟨t, pt, stt⟩ := (hb cdv A outer s H E hg hr).ex
  refine ⟨t, pt, ?_⟩
  obtain ⟨P1, hP1, hP2, R⟩ := rc_start (N := N) fh ft (by rw [← ft.len, hv]; exact hl)
  unfold defMc at hm
  split at hm
  · rename_i ds' S' e1
    split at hm
    · rename_i as2 e2
      cases hm
      refine stt P1 F1 (adr vs) F1 (adr vs) _ _ H _ _ S' R e1 fun p ws F' c' σ' H' f1 hp h0 R1 q => ?_
      have B := back_end ft hP1 hP2 f1 (R1.unlay hp) .non e2
      refine kk p ws F' H' B ?_ (R1.laid_untold h0) R1.laid_at q
      rcases hP2 p hp with z | ⟨j, xs, z1, z2⟩
      · exact z
      · exfalso
        obtain ⟨ys, e3⟩ := asOut_still e2 z1
        have e4 : c' j = p := by
          rw [R1.qs j ys e3]
          unfold adr
          rw [z2]
        exact R1.laid_apart j _ e3 rfl e4
    · cases hm
  · cases hm
end
def mCallC (n : Nat) (m : MFc) (ma : MA) : MX := fun S => match ma S with
  | none => none
  | some (rs, S1) => if rs.length = n ∧ (ptrs rs).Nodup then match argsOf S1 rs with
      | none => none
      | some as => match m as with
        | none => none
        | some (ds, as') => match putBack S1 rs as' with
          | none => none
          | some S2 => some (.c ds, S2)
    else none
section
variable {K : PySem.W.Frag} {P F0 F F' : Hp} {qc cell : Nat → Addr} {S : Sl} {σ : L2.St} {H H' : Hp} {p : Addr} {o : HO}
theorem RC.lay_old (R : RC K P F0 qc F cell S σ H) (hp : H p = some o) (hF : F p = none) (ap : Apart S cell p) : RC K (upd P p o) F0 qc F cell S σ H where
  len := R.len
  f0 := R.f0
  fh := R.fh
  ph := fun b u e => by
    by_cases q : b = p
    · subst q
      rw [upd_same] at e
      cases e
      exact hp
    · rw [upd_ne q] at e
      exact R.ph b u e
  fr := fun b z => by
    by_cases q : b = p
    · subst q
      exact absurd hF z
    · rcases R.fr b z with z | z
      · exact .inl z
      · exact .inr (by rw [upd_ne q]; exact z)
  vl := R.vl
  sc := R.sc
  cl := fun i x xs h hx => by
    obtain ⟨h1, h2, h3, h4⟩ := R.cl i x xs h hx
    exact ⟨h1, h2, by rw [upd_ne (ap i x h (by rw [hx]; rfl))]; exact h3, h4⟩
  qs := R.qs
  inj := R.inj
theorem putBack_old {rs : List SV} {as as' : List SL} {S S2 : Sl} (hb : putBack S rs as' = some S2) (ha : argsOf S rs = some as) {i : Nat} {y : SL} (h : S2[i]? = some (some y)) (hy : y.held.isSome = true) : ∃ x : SL, S[i]? = some (some x) ∧ x.held.isSome = true := by
  by_cases hi : i ∈ ptrs rs
  · obtain ⟨j, hj⟩ := mem_ptrs.mp hi
    obtain ⟨a, h1, h2⟩ := argsOf_got ha hj
    obtain ⟨xs, hx, _⟩ := Option.map_eq_some_iff.mp (show (heldAt S i).map SL.q = some a from h2)
    obtain ⟨x, e1, e2⟩ := held_of hx
    exact ⟨x, e1, by rw [e2]; rfl⟩
  · rw [putBack_out hb hi] at h
    exact ⟨y, h, hy⟩
end
section
variable {X : Cx} {k n : Nat} {f : Addr} {fd : FuncData} {ps : List Str} {x : Str} {p pos : Pos} {e : Expr} {es : List Expr} {m : MFc} {mas : MA}
theorem jx_callC (G : FnG X.prog X.w X.K X.mg X.base CX0 k f fd ps (spC X.K n m)) (gd : X.A.guards = some []) (hr : Room k X.A) (hm : X.mg x = some (.ref f)) (hk : PySem.W.keepIn X.K (.ref f) = true) (hb : Binds X.K fd ps []) (ha : JA X (e :: es) mas)
    (hg : Gl X x := by rfl) (hdb : (x == ("__debug__" : Str)) = false := by decide) (he : starEach (e :: es) X.env = (false, eval e X.env) :: starEach es X.env := by rfl) (hpl : (backTo pos (starEach es X.env)).any (·.1) = false := by rfl) :
    JX X (.Call (.Name x p) (e :: es) [] pos) (mCallC n m mas) := by
  obtain ⟨ta, pa, sa⟩ := ha.ex
  refine ⟨_, pe_callG G gd hr hg hm hk hb .nil pass0 pa hdb he hpl, fun P F0 qc F cell S σ H Q z S' R hm k => ?_⟩
  unfold mCallC at hm
  split at hm
  · cases hm
  · rename_i rs S1 e1
    split at hm
    · rename_i hc
      split at hm
      · cases hm
      · rename_i as ha
        split at hm
        · cases hm
        · rename_i ds as' hd
          split at hm
          · cases hm
          · rename_i S2 hb
            cases hm
            refine sa P F0 qc F cell S σ H _ rs S1 R e1 fun vs F1 H1 s1 R1 q1 => ?_
            show spC X.K n m (vs ++ []) H1 Q E0
            rw [List.append_nil]
            refine ⟨by rw [q1.length]; exact hc.1, F1, as, ds, as', R1.fh, R1.fits q1 ha hc.2, hd, fun p ws F' H' B hp hF hH q => ?_⟩
            have R2 := R1.back q1 ha hc.2 B hb
            have ap : Apart S' cell p := fun i y h hy => by
              obtain ⟨x, h1, h2⟩ := putBack_old hb ha h hy
              exact R1.apart_new hp i x h1 h2
            exact k p ws F' H' (s1.trans B.f) (R1.ph.free hp) ((R1.f0.trans R1.fh).free hp) (R2.lay_old hH hF ap) q
    · cases hm
end
end VL

set_option Elab.async false
set_option linter.all false
set_option maxRecDepth 100000
set_option maxHeartbeats 4000000
/-! VX4: enumerate of a tuple, of a text. -/
namespace VX
open PySem PySem.Spec PyProof.Rows L2
theorem meets_enum1 {v : Value} {o : Obj} {H : Heap → Prop} (B : Begins v o H) :
    Meets (Builtin.«enumerate.__new__» ⟨[.type "enumerate", v], []⟩) (fun _ R s => H s.heap ∧
      R (.ok (.ret (.ref (s.heap.push o).objs.size))) { s with heap := (s.heap.push o).push { cls := .type "enumerate", data := .fields #[.none, .bool false, .ref s.heap.objs.size, rawInt 0, .none, .none] } }) :=
  .of_wp fun prog w A R s h => by
    obtain ⟨hp, g, d, tk, os⟩ := s; obtain ⟨h1, h⟩ := h
    have hsub := sub_enumerate
    have q1 : ∀ {A' : Around} {E : Value → Shared → Prop} {Q : Value → Shared → Prop}, Q (.ref hp.objs.size) ⟨hp.push o, g, d, tk, os⟩ → wpAny (model prog w) A' (pyIter v) Q E ⟨hp, g, d, tk, os⟩ :=
      fun q => B.iter prog w _ _ ⟨hp, g, d, tk, os⟩ _ h1 q
    wp_walk using q1
    refine wpAny_stack_any fun st => wpAny_pure ?_
    split
    · rename_i c _ _ _ _ _
      cases (c == Value.type "enumerate")
      · wp_walk using q1
        exact ⟨_, rfl, h⟩
      · wp_walk using q1
        exact ⟨_, rfl, h⟩
    · wp_walk using q1
      exact ⟨_, rfl, h⟩
section
variable {prog : Program} {w : World} {A : Around} {E : Value → Shared → Prop} {s : Shared}
theorem enum_begins1 {v : Value} {o : Obj} {H : Heap → Prop} {Q : Value → Shared → Prop} (B : Begins v o H) (h1 : H s.heap)
    (h : ∀ h', IsEnum h' (s.heap.objs.size + 1) s.heap.objs.size 0 .none → h'.get? s.heap.objs.size = some o → h'.objs.size = s.heap.objs.size + 2 →
      (∀ b o, s.heap.get? b = some o → h'.get? b = some o) → Q (.ref (s.heap.objs.size + 1)) { s with heap := h' }) :
    wpAny (model prog w) A (call (.type "enumerate") [v]) Q E s := by
  refine callType_new F.called_enumerate (by decide) (F.typeCall_enumerate_1 _) (F.newCall_enumerate_1 _) (fun obj => F.args_object_init_2 obj _) F.entry_enumerate_new
    (meets_enum1 B) ⟨h1, ?_⟩
  have hz : (s.heap.push o).objs.size = s.heap.objs.size + 1 := Heap.size_push ..
  show _ ∧ _
  rw [hz]
  have he : IsEnum ((s.heap.push o).push { cls := .type "enumerate", data := .fields #[.none, .bool false, .ref s.heap.objs.size, rawInt 0, .none, .none] }) (s.heap.objs.size + 1) s.heap.objs.size 0 .none := by
    have := Heap.get?_push_size (s.heap.push o) (o := { cls := .type "enumerate", data := .fields #[.none, .bool false, .ref s.heap.objs.size, rawInt 0, .none, .none] }) rfl
    rw [hz] at this; exact this
  refine ⟨⟨_, he, rfl⟩, h _ he (Heap.get?_push_of_some _ (Heap.get?_push_size _ B.free)) (by rw [Heap.size_push, hz]) fun b o x => Heap.get?_push_of_some _ (Heap.get?_push_of_some _ x)⟩
end
/-- the items xs with their places, in new pairs, where G stands -/
def Iten (xs : List V) (G : Hp → Prop) : It :=
  ⟨fun i H => G H ∧ i < xs.length, fun i H v H' => ∃ T x, v = .ref T ∧ H T = none ∧ H' = upd H T (.tup [.int (i : Nat), x]) ∧ xs[i]? = some x, fun i H => G H ∧ i = xs.length⟩
theorem walk_en {xs : List V} {G : Hp → Prop} : Walk (Iten xs G) xs.length G (YPair (fun i => some (.int (i : Nat))) (fun i => xs[i]?)) := by
  refine ⟨fun i _ hi q => ⟨q, hi⟩, fun _ q => ⟨q, rfl⟩, fun i H v H' _ q y => ?_⟩
  obtain ⟨T, x, h1, h2, h3, h4⟩ := y
  exact ⟨T, .int (i : Nat), x, h1, h2, h3, rfl, h4⟩
/-- what is drawn from the iterator it, its footprint fp (ahead of it: it), as the V's xs -/
structure Src (P : Program) (w : World) (K : PySem.W.Frag) (xs : List V) (G : Hp → Prop) (it : Addr) (St : Nat → Heap → Prop) : Prop where
  obj : ∀ i h, St i h → ∃ o, h.get? it = some o ∧ ∀ v, o.data ≠ .cell v
  keep : ∀ i h h', St i h → (∀ o, h.get? it = some o → h'.get? it = some o) → St i h'
  draw : ∀ (X : Cx) (pins : List (Addr × Obj)) (σ : L2.St) (H : Hp) (s : Shared) (e : Addr) (old : Value) (j : Int), X.prog = P → X.w = w → X.K = K → X.A.handled = none → Inv X pins σ H s → G H → IsEnum s.heap e it j old →
    ∃ fp PP ST, Draws X.prog X.w X.A.in1 it fp xs.length PP ST ∧ (e ≠ it → e ∉ fp) ∧ (∀ i, St i s.heap → ST i s.heap) ∧ (∀ i h', ST i h' → St i h') ∧ ∀ i u, PP i u → ∃ x, xs[i]? = some x ∧ RelV x u
section
variable {P : Program} {w : World} {K : PySem.W.Frag} {xs : List V} {G : Hp → Prop} {it : Addr} {St : Nat → Heap → Prop}
theorem turn_en {elts : List Expr} {kk : Nat} {tpos : Pos} (R : Src P w K xs G it St) (hG : ∀ H T o, G H → H T = none → G (upd H T o)) (e : Addr) :
    Turn P w K (.Tuple elts kk tpos) (Iten xs G) [e, it] e (fun i h => (∃ old, IsEnum h e it ((i : Nat) : Int) old) ∧ St i h ∧ e ≠ it) where
  mem := by simp
  obj := fun i h st b hb => by
    obtain ⟨⟨old, he⟩, hs, _⟩ := st
    have e' : b = e ∨ b = it := by simpa using hb
    rcases e' with z | z
    · rw [z]; exact ⟨_, he, fun v q => nomatch q⟩
    · rw [z]; exact R.obj i h hs
  keep := fun i h h' st k => let ⟨⟨old, he⟩, hs, hne⟩ := st; ⟨⟨old, k e (by simp) _ he⟩, R.keep i h h' hs fun o q => k it (by simp) o q, hne⟩
  item := by
    intro X hP hw hK hc i pins s σ H E I hf st hg
    obtain ⟨⟨old, he⟩, hs, hne⟩ := st
    obtain ⟨hG1, hi⟩ := hg
    obtain ⟨fp, PP, ST, D, hef, h1, h2, h3⟩ := R.draw X pins σ H s e old _ hP hw hK (I.ok.hd hc) I hG1 he
    subst hP hw hK
    have hel : e < s.heap.objs.size := Heap.lt_size he
    have hil : it < s.heap.objs.size := by obtain ⟨_, q, _⟩ := R.obj i _ hs; exact Heap.lt_size q
    refine wpAny_pyNext_enum_itemC D he (h1 i hs) hi hne (hef hne) fun u h' tk hP ho hs' hT hsz hk => ?_
    obtain ⟨x, hx, ru⟩ := h3 i u hP
    refine ⟨_, rfl, wpAny_letOwnedTupleGo_enum (s := { s with heap := h', toks := tk + 1 }) ho fun h'' he' sb => ?_⟩
    have hT2 : h''.get? s.heap.objs.size = some { cls := .type "tuple", data := .seq #[.int i tk, u] } := (sb.2 _ (Nat.ne_of_gt hel)).trans hT
    have new : ObjOk X.prog X.w (upd H s.heap.objs.size (.tup [.int (i : Nat), x])) h'' s.heap.objs.size (.tup [.int (i : Nat), x]) :=
      ⟨by show 2 ≤ sizeLine; decide, [.int i tk, u], .cons ⟨_, rfl⟩ (.cons ru .nil), ⟨_, hT2, rfl, _, rfl⟩⟩
    have I1 : Inv X pins σ (upd H s.heap.objs.size (.tup [.int (i : Nat), x])) { s with heap := h'', toks := tk + 1 } :=
      I.turnedNew (ch := [e, it]) (fun b ob hb q => (sb.2 b (fun z => hb (by simp [z]))).trans (hk b ob (fun z => hb (by simp [z])) (fun z => hb (by simp [z])) q)) hf (Nat.le_refl _) new
    refine ⟨.ref s.heap.objs.size, _, I1, rfl, ⟨_, x, rfl, I.hok.fresh (Nat.le_refl _), rfl, hx⟩, ⟨⟨u, ?_⟩, R.keep _ _ _ (h2 _ _ hs') fun o q => (sb.2 it (Ne.symm hne)).trans q, hne⟩, fun b hb => ?_⟩
    · have e1 : ((i + 1 : Nat) : Int) = (i : Int) + 1 := by omega
      rw [e1]; exact he'
    · have hb' : b < s.heap.objs.size := by
        have e' : b = e ∨ b = it := by simpa using hb
        rcases e' with z | z
        · rw [z]; exact hel
        · rw [z]; exact hil
      rw [upd_ne (Nat.ne_of_lt hb')]
      exact (hf b hb).1
  done := by
    intro X hP hw hK hc i pins s σ H E I hf st hg
    obtain ⟨⟨old, he⟩, hs, hne⟩ := st
    obtain ⟨hG1, hi⟩ := hg
    obtain ⟨fp, PP, ST, D, hef, h1, h2, h3⟩ := R.draw X pins σ H s e old _ hP hw hK (I.ok.hd hc) I hG1 he
    subst hP hw hK
    obtain ⟨f0, f1, f2, f3, f4, f5⟩ := hf it (by simp)
    subst hi
    exact wpAny_pyNext_enum_endD D he (h1 _ hs) fun h' eb => ⟨rfl, I.turned (t' := s.toks) (fun b o hb q => eb b o hb q) f0 f1 f3 f4 f5⟩
  self := fun A i s Q E st h => let ⟨⟨_, he⟩, _⟩ := st; wpAny_pyIter_enum he h
end
/-! ### the sources -/
theorem src_tup {P : Program} {w : World} {K : PySem.W.Frag} {a it : Addr} {xs : List V} (hne : a ≠ it) : Src P w K xs (fun H => SqT K H a xs) it (fun i h => h.IsTupleIter it a i) where
  obj := fun i h ⟨o, e, c, d⟩ => ⟨o, e, fun v z => by rw [d] at z; cases z⟩
  keep := fun i h h' st k => st.at fun o e => k o e
  draw := by
    intro X pins σ H s e old j hP hw hK hh I hG he
    subst hP hw hK
    obtain ⟨its, rv, p, hz⟩ := I.tuple hG
    have p' : s.heap.IsTuple a its.toArray := p
    have D := Draws.tuple (prog := X.prog) (w := X.w) (A := X.A.in1) hh it a hne its.toArray
    rw [List.size_toArray, ← rv.length] at D
    refine ⟨[it, a], _, _, D, fun hei hm => ?_, fun i st => ⟨st, p'⟩, fun i h' st => st.1, fun i u hu => ?_⟩
    · rcases List.mem_cons.mp hm with z | z
      · exact hei z
      · rw [List.mem_singleton] at z
        subst z
        obtain ⟨o, e1, e2, _⟩ := p'
        unfold IsEnum at he
        rw [he] at e1
        cases e1
        exact absurd e2 (by simp)
    · have hu' : its[i]? = some u := by simpa using hu
      obtain ⟨hl, hu2⟩ := List.getElem?_eq_some_iff.mp hu'
      have hl2 : i < xs.length := by rw [rv.length]; exact hl
      obtain ⟨u2, h1, h2⟩ := rv.get (List.getElem?_eq_getElem hl2)
      rw [hu'] at h1
      cases h1
      exact ⟨_, List.getElem?_eq_getElem hl2, h2⟩
theorem src_str {P : Program} {w : World} {K : PySem.W.Frag} {it : Addr} (x : Str) (t : Tok) : Src P w K (x.cps.toList.map fun c => V.str ⟨#[c]⟩) (fun _ => True) it (fun i h => h.IsStrIter it (strIterType x) x t i) where
  obj := fun i h ⟨o, e, c, d⟩ => ⟨o, e, fun v z => by rw [d] at z; cases z⟩
  keep := fun i h h' ⟨o, ho, r⟩ k => ⟨o, k o ho, r⟩
  draw := by
    intro X pins σ H s e old j hP hw hK hh I hG he
    subst hP hw hK
    have D := Draws.text (prog := X.prog) (w := X.w) (A := X.A.in1) hh it x t
    rw [show x.cps.size = (x.cps.toList.map fun c => V.str ⟨#[c]⟩).length by rw [List.length_map, Array.length_toList]] at D
    refine ⟨[it], _, _, D, fun hei hm => hei (List.mem_singleton.mp hm), fun i st => st, fun i h' st => st, ?_⟩
    rintro i u ⟨c, v, hc, rfl⟩
    exact ⟨.str ⟨#[c]⟩, by rw [List.getElem?_map, Array.getElem?_toList, hc]; rfl, ⟨v, rfl⟩⟩
/-! ### the calls -/
def iEnT (K : PySem.W.Frag) (ta : TA) : TI := fun σ H R => ta σ H fun vs H1 => ∃ a xs, vs = [.ref a] ∧ SqT K H1 a xs ∧ R (Iten xs fun H => SqT K H a xs) H1
def iEnS (ta : TA) : TI := fun σ H R => ta σ H fun vs H1 => ∃ x : Str, vs = [.str x] ∧ R (Iten (x.cps.toList.map fun c => V.str ⟨#[c]⟩) fun _ => True) H1
section
variable {X : Cx} {e : Expr} {ta : TA} {p pos tpos : Pos} {elts : List Expr} {kk : Nat}
theorem en_land {pins : List (Addr × Obj)} {σ : L2.St} {H1 : Hp} {s1 : Shared} {R : It → Hp → Prop} {v : Value} {o : Obj} {HH : Heap → Prop} {xs : List V} {G : Hp → Prop} {St : Nat → Heap → Prop} (I1 : Inv X pins σ H1 s1) (B : Begins v o HH) (hB : HH s1.heap)
    (S : Src X.prog X.w X.K xs G s1.heap.objs.size St) (hG : ∀ H T o, G H → H T = none → G (upd H T o)) (h0 : ∀ h', h'.get? s1.heap.objs.size = some o → St 0 h') (q : R (Iten xs G) H1) {E : Value → Shared → Prop} :
    wpAny (model X.prog X.w) X.A (call (.type "enumerate") [v]) (fun v2 s2 => wpAny (model X.prog X.w) X.A (pyIter v2) (PIE X pins σ (.Tuple elts kk tpos) R) E s2) E s1 := by
  refine enum_begins1 B hB fun h' he hit hsz hk => wpAny_pyIter_enum he ?_
  have I2 : Inv X pins σ H1 { s1 with heap := h' } := I1.kept (t' := s1.toks) hk
  refine ⟨s1.heap.objs.size + 1, [s1.heap.objs.size + 1, s1.heap.objs.size], _, _, H1, rfl, I2, turn_en S hG (s1.heap.objs.size + 1), ⟨⟨.none, he⟩, h0 h' hit, Nat.succ_ne_self _⟩, fun b hb => ?_, q⟩
  have e' : b = s1.heap.objs.size + 1 ∨ b = s1.heap.objs.size := by simpa using hb
  have hle : s1.heap.objs.size ≤ b := by
    rcases e' with z | z
    · rw [z]; exact Nat.le_add_right _ _
    · rw [z]; exact Nat.le_refl _
  exact I1.fpOk hle (I1.hok.fresh hle)
theorem pi_enT (hg : Gl X "enumerate") (hm : X.mg "enumerate" = none) (ha : PA X [e] ta) (hs : starEach [e] X.env = [(false, eval e X.env)] := by rfl) :
    PI X (.Tuple elts kk tpos) (.Call (.Name "enumerate" p) [e] [] pos) (iEnT X.K ta) := by
  refine ⟨fun pins s σ H R I h => ?_⟩
  refine Call_ (ld_blt I hg hm boot_enumerate (PyProof.Rows.callWith_type1 (thn (ha.run pos pins s σ H _ I h) fun us s1 ⟨vs, H1, I1, r1, q1⟩ => ?_) hs rfl))
  obtain ⟨a, xs, ex, hq, q⟩ := q1
  subst ex
  cases r1 with
  | cons r rr =>
    cases rr
    cases r
    obtain ⟨its, rv, p', hz⟩ := I1.tuple hq
    have p2 : s1.heap.IsTuple a its.toArray := p'
    have hal : a < s1.heap.objs.size := by obtain ⟨_, q, _⟩ := p2; exact Heap.lt_size q
    exact en_land I1 (begins_tuple a its.toArray) p2 (src_tup (Nat.ne_of_lt hal)) (fun H T o g hT => VL.sqT_mono (VL.same_new hT) g) (fun h' hit => ⟨_, hit, rfl, rfl⟩) q
theorem pi_enS (hg : Gl X "enumerate") (hm : X.mg "enumerate" = none) (ha : PA X [e] ta) (hs : starEach [e] X.env = [(false, eval e X.env)] := by rfl) :
    PI X (.Tuple elts kk tpos) (.Call (.Name "enumerate" p) [e] [] pos) (iEnS ta) := by
  refine ⟨fun pins s σ H R I h => ?_⟩
  refine Call_ (ld_blt I hg hm boot_enumerate (PyProof.Rows.callWith_type1 (thn (ha.run pos pins s σ H _ I h) fun us s1 ⟨vs, H1, I1, r1, q1⟩ => ?_) hs rfl))
  obtain ⟨x, ex, q⟩ := q1
  subst ex
  cases r1 with
  | cons r rr =>
    cases rr
    obtain ⟨t, rfl⟩ := r
    exact en_land I1 (begins_text x t) trivial (src_str x t) (fun H T o g hT => trivial) (fun h' hit => ⟨_, hit, rfl, rfl⟩) q
end
end VX

set_option Elab.async false
set_option linter.all false
set_option maxRecDepth 100000
set_option maxHeartbeats 4000000
/-! VL16: raise, defs that may raise, try .. except X as n: y = n; what is asked of a kept error. -/
namespace VL
open PySem PySem.Spec PyProof.Rows L2
def mNever : MS := fun _ => none
theorem js_never {X : Cx} {W : WX} {st : Stmt} : JS X W st mNever := ⟨_, ps_never, fun P F0 qc F cell S σ H D fl S' R hm k => by cases hm⟩
def denS (K : PySem.W.Frag) (W : WX) (m : MS) : TS := fun D σ H => ∃ P F0 qc F cell S fl S', RC K P F0 qc F cell S σ H ∧ m S = some (fl, S') ∧ ∀ F' cell' σ' H', Same F F' → RC K P F0 qc F' cell' S' σ' H' → FlK K W F' cell' fl D σ' H'
theorem JB.den {X : Cx} {W : WX} {sts : List Stmt} {m : MS} (h : JB X W sts m) : PSs X sts (denS X.K W m) := by
  obtain ⟨t, p, s⟩ := h.ex
  exact ⟨fun pins s0 σ H D I ⟨P, F0, qc, F, cell, S, fl, S', R, hm, k⟩ => p.run pins s0 σ H D I (s P F0 qc F cell S σ H D fl S' R hm k)⟩
section
variable {K : PySem.W.Frag} {P F0 F F' : Hp} {qc cell : Nat → Addr} {S : Sl} {σ : L2.St} {H H' : Hp}
theorem RC.setO (R : RC K P F0 qc F cell S σ H) {i : Nat} {v : V} {o : Opq} (h : OR K F o v) : RC K P F0 qc F cell (S.set i (some (.s o))) (σ.set i (some v)) H := by
  have held : ∀ {j : Nat} {x : SL}, (S.set i (some (.s o)))[j]? = some (some x) → x.held.isSome = true → i ≠ j ∧ S[j]? = some (some x) := fun {j x} e hx => by
    rcases get_set e with ⟨rfl, e2, hl⟩ | q
    · cases e2
      cases hx
    · exact q
  refine ⟨by rw [List.length_set, List.length_set]; exact R.len, R.f0, R.fh, R.ph, R.fr, fun j d e => ?_, fun j o' e => ?_, fun j x xs e hx => ?_, fun j xs e => R.qs j xs (held e rfl).2, fun j k x y e1 e2 hx hy => R.inj j k x y (held e1 hx).2 (held e2 hy).2 hx hy⟩
  · rcases get_set e with ⟨rfl, e2, hl⟩ | ⟨ne, e⟩
    · cases e2
    · obtain ⟨u, h1, h2⟩ := R.vl j d e
      exact ⟨u, by rw [List.getElem?_set_ne ne]; exact h1, h2⟩
  · rcases get_set e with ⟨rfl, e2, hl⟩ | ⟨ne, e⟩
    · cases e2
      exact ⟨v, by rw [List.getElem?_set_self (by rw [← R.len]; exact hl)], h⟩
    · obtain ⟨u, h1, h2⟩ := R.sc j o' e
      exact ⟨u, by rw [List.getElem?_set_ne ne]; exact h1, h2⟩
  · obtain ⟨ne, e⟩ := held e (by rw [hx]; rfl)
    obtain ⟨h1, h2⟩ := R.cl j x xs e hx
    exact ⟨by rw [List.getElem?_set_ne ne]; exact h1, h2⟩
end

/-! ### raise -/
def mRaise (nm f : Str) (me : ME) : MS := fun S => match me S with
  | some (.v d, S1) => some (.rz nm [(f, d)], S1)
  | _ => none
section
variable {X : Cx} {W : WX} {e : Expr} {me : ME} {nm f : Str} {C fI : Addr} {k : Nat} {p pos pos2 : Pos}
theorem js_raise (tk : Takes X W) (T : VX.XTxt X.prog X.K X.mg nm f C fI) (hmg : X.mg "super" = none) (hr : Room k X.A) (hc : X.calm = true) (he : JE X e me) (hg : Gl X nm := by rfl) (hd : (nm == ("__debug__" : Str)) = false := by decide)
    (hs : starEach [e] X.env = (false, eval e X.env) :: starEach [] X.env := by rfl) (hpl : (backTo pos (starEach [] X.env)).any (·.1) = false := by rfl) : JS X W (.Raise (some (.Call (.Name nm p) [e] [] pos)) none pos2) (mRaise nm f me) := by
  obtain ⟨t, pe, s⟩ := he.ex
  refine ⟨_, ps_raise hc tk (VX.pmk_x T hmg hr (pa_cons pe pa_nil hs) hg hd hs hpl), fun P F0 qc F cell S σ H D fl S' R hm kk => ?_⟩
  unfold mRaise at hm
  split at hm
  · rename_i d S1 e1
    cases hm
    refine s P F0 qc F cell S σ H _ _ S' R e1 fun v F1 H1 f1 R1 q1 => ?_
    refine ⟨v, rfl, fun dd hdd => ?_⟩
    have ex : Ext F1 H1 (upd F1 dd (.xd [(f, v)])) (upd H1 dd (.xd [(f, v)])) := Ext.new R1.fh hdd
    exact kk _ cell σ _ (f1.trans ex.f) (R1.ext ex) C dd [v] T.nC upd_same (.cons (DV.mono ex.f q1) .nil)
  · cases hm
end

/-! ### defs that may raise -/
inductive Out where
  | val (d : PyData) | exc (c : Str) (fs : List (Str × PyData))
abbrev MFX := List SL → Option (Out × List SL)
def OutK (K : PySem.W.Frag) (F H : Hp) (as : List SL) (vs : List V) (as' : List SL) (Q : VK) (E : XK) : Out → Prop
  | .val d => ∀ v F' H', Back K F H F' H' as vs as' v d → Q v H'
  | .exc c fs => ∀ (C dd : Addr) (us : List V) (F' H' : Hp), Back K F H F' H' as vs as' .non .none → PySem.W.nsIn K mainGlobals c = some (some (.ref C)) → F' dd = some (.xd ((fs.map (·.1)).zip us)) → DVs K F' us (fs.map (·.2)) → E (.ref C) (some dd) H'
def spX (K : PySem.W.Frag) (n : Nat) (m : MFX) : Sp := fun vs H Q E => vs.length = n ∧ ∃ F as o as', Same F H ∧ Fits K F H as vs ∧ m as = some (o, as') ∧ OutK K F H as vs as' Q E o
def defMX (n : Nat) (m : MS) : MFX := fun as => match m (startS n as) with
  | some (.rt (.v d), S) => match asOut as S with
    | some as' => some (.val d, as')
    | none => none
  | some (.nx, S) => match asOut as S with
    | some as' => some (.val .none, as')
    | none => none
  | some (.rz c fs, S) => match asOut as S with
    | some as' => some (.exc c fs, as')
    | none => none
  | _ => none
section
variable {P : Program} {w : World} {K : PySem.W.Frag} {mg : Str → Option Value} {base : Heap}
theorem jfX {x qual : Str} {st : Stmt} {f : Addr} {fd : FuncData} {N ps : List Str} {k : Nat} {m : MS} (F : Fun K x qual st f fd) (S : FnScope N ps (defScope st)) (hl : ps.length ≤ N.length)
    (hb : ∀ cdv A outer s H (E : _), A.guards = some [] → Room k (cxOf (L2.CX P w) P w K mg base N qual (defScope st) f cdv A outer s H E).A → JB (cxOf (L2.CX P w) P w K mg base N qual (defScope st) f cdv A outer s H E) (fun cls d _ H => E cls d H) (defBody st) m) :
    FnG P w K mg base (L2.CX P w) (k + 1) f fd ps (spX K ps.length (defMX N.length m)) := by
  refine okGX F S (fun vs H Q E h => h.1) fun cdv A outer s H vs Q E hg hr h => ?_
  obtain ⟨hv, F1, as, o, as', fh, ft, hm, kk⟩ := h
  obtain ⟨t, pt, stt⟩ := (hb cdv A outer s H E hg hr).ex
  refine ⟨t, pt, ?_⟩
  obtain ⟨P1, hP1, hP2, R⟩ := rc_start (N := N) fh ft (by rw [← ft.len, hv]; exact hl)
  unfold defMX at hm
  split at hm
  · rename_i d' S' e1
    split at hm
    · rename_i as2 e2
      cases hm
      exact stt P1 F1 (adr vs) F1 (adr vs) _ _ H _ _ S' R e1 fun F' c' σ' H' f1 R1 v q => kk v F' H' (back_end ft hP1 hP2 f1 R1 q e2)
    · cases hm
  · rename_i S' e1
    split at hm
    · rename_i as2 e2
      cases hm
      exact stt P1 F1 (adr vs) F1 (adr vs) _ _ H _ _ S' R e1 fun F' c' σ' H' f1 R1 => kk .non F' H' (back_end ft hP1 hP2 f1 R1 .non e2)
    · cases hm
  · rename_i c fs S' e1
    split at hm
    · rename_i as2 e2
      cases hm
      exact stt P1 F1 (adr vs) F1 (adr vs) _ _ H _ _ S' R e1 fun F' c' σ' H' f1 R1 C dd us h1 h2 h3 => kk C dd us F' H' (back_end ft hP1 hP2 f1 R1 .non e2) h1 h2 h3
    · cases hm
  · cases hm
end
abbrev MO2 := Sl → Option (Out × Sl)
def mCallX (n : Nat) (m : MFX) (ma : MA) : MO2 := fun S => match ma S with
  | none => none
  | some (rs, S1) => if rs.length = n ∧ (ptrs rs).Nodup then match argsOf S1 rs with
      | none => none
      | some as => match m as with
        | none => none
        | some (o, as') => match putBack S1 rs as' with
          | none => none
          | some S2 => some (o, S2)
    else none
/-- a call of such a def, within what may raise: W tells what is wanted -/
def SndX2 (K : PySem.W.Frag) (W : WX) (t : TE) (m : MO2) : Prop :=
  ∀ (P F0 : Hp) (qc : Nat → Addr) (F : Hp) (cell : Nat → Addr) (S : Sl) (σ : L2.St) (H : Hp) (Q : VK) (o : Out) (S' : Sl), RC K P F0 qc F cell S σ H → m S = some (o, S') →
    (match o with
      | .val d => ∀ v F' H', Same F F' → RC K P F0 qc F' cell S' σ H' → DV K F' v d → Q v H'
      | .exc c fs => ∀ (C dd : Addr) (us : List V) (F' H' : Hp), Same F F' → RC K P F0 qc F' cell S' σ H' → PySem.W.nsIn K mainGlobals c = some (some (.ref C)) → F' dd = some (.xd ((fs.map (·.1)).zip us)) → DVs K F' us (fs.map (·.2)) → W (.ref C) (some dd) σ H') → t σ H Q
structure JO2 (X : Cx) (W : WX) (e : Expr) (m : MO2) : Prop where
  ex : ∃ t, PE X e t ∧ SndX2 X.K W t m
section
variable {X : Cx} {W : WX} {CX : CXT} {k n : Nat} {f : Addr} {fd : FuncData} {ps : List Str} {x : Str} {p pos : Pos} {e : Expr} {es : List Expr} {m : MFX} {mas : MA} {E : L2.St → XK}
theorem pe_callGS (G : FnG X.prog X.w X.K X.mg X.base CX k f fd ps (spX X.K n m)) (gd : X.A.guards = some []) (hr : Room k X.A) (hg : Gl X x) (hm : X.mg x = some (.ref f)) (hk : PySem.W.keepIn X.K (.ref f) = true) (hb : Binds X.K fd ps []) (hx : ∀ σ, PassesAt CX X σ (E σ)) {t : TA}
    (ha : PA X (e :: es) t) (hdb : (x == ("__debug__" : Str)) = false := by decide) (he : starEach (e :: es) X.env = (false, eval e X.env) :: starEach es X.env := by rfl) (hpl : (backTo pos (starEach es X.env)).any (·.1) = false := by rfl) :
    PE X (.Call (.Name x p) (e :: es) [] pos) (tCallS (spX X.K n m) E t) := by
  refine ⟨fun pins s σ H Q I h => ?_⟩
  refine wpAny_Call_Name_kw (ld_glob I hg hm ?_ hdb)
  refine PySem.W.callWith_K (h₀ := X.base) I.ok.mod.kin hk (thn (ha.run pos pins s σ H _ I h) fun us s1 ⟨vs, H1, I1, r, q⟩ => ⟨I1.kIn, ?_⟩) he hpl
  have hl : us.length = ps.length := by rw [← r.length]; exact G.len _ _ _ _ q
  have b := hb s1 us I1.kIn (by rw [List.append_nil]; exact hl)
  rw [List.append_nil] at b
  refine wpAny_call (codeAny_mono (G.run X.A X.stack s1 H1 ⟨us, []⟩ us vs Q (E σ) gd hr I1.env0 b r q) fun r s' hq => ?_)
  cases r with
  | error u => exact hx σ pins H1 s1 u s' I1 hq
  | ok fl =>
    cases fl with
    | ret u => exact I1.after hq
    | next => exact False.elim hq
    | brk => exact False.elim hq
    | cont => exact False.elim hq
theorem snd_callX {K : PySem.W.Frag} {ta : TA} (sa : SndA K ta mas) : SndX2 K W (tCallS (spX K n m) (WE W) ta) (mCallX n m mas) := by
  intro P F0 qc F cell S σ H Q o S' R hm k
  unfold mCallX at hm
  split at hm
  · cases hm
  · rename_i rs S1 e1
    split at hm
    · rename_i hc
      split at hm
      · cases hm
      · rename_i as ha
        split at hm
        · cases hm
        · rename_i o' as' hd
          split at hm
          · cases hm
          · rename_i S2 hb
            cases hm
            refine sa P F0 qc F cell S σ H _ rs S1 R e1 fun vs F1 H1 s1 R1 q1 => ?_
            refine ⟨by rw [q1.length]; exact hc.1, F1, as, o, as', R1.fh, R1.fits q1 ha hc.2, hd, ?_⟩
            cases o with
            | val d => exact fun v F' H' B => k v F' H' (s1.trans B.f) (R1.back q1 ha hc.2 B hb) B.dv
            | exc c fs => exact fun C dd us F' H' B h1 h2 h3 => k C dd us F' H' (s1.trans B.f) (R1.back q1 ha hc.2 B hb) h1 h2 h3
    · cases hm
theorem jo_callX (tk : Takes X W) (G : FnG X.prog X.w X.K X.mg X.base (L2.CX X.prog X.w) k f fd ps (spX X.K n m)) (gd : X.A.guards = some []) (hr : Room k X.A) (hm : X.mg x = some (.ref f)) (hk : PySem.W.keepIn X.K (.ref f) = true) (hb : Binds X.K fd ps []) (ha : JA X (e :: es) mas)
    (hg : Gl X x := by rfl) (hdb : (x == ("__debug__" : Str)) = false := by decide) (he : starEach (e :: es) X.env = (false, eval e X.env) :: starEach es X.env := by rfl) (hpl : (backTo pos (starEach es X.env)).any (·.1) = false := by rfl) :
    JO2 X W (.Call (.Name x p) (e :: es) [] pos) (mCallX n m mas) := by
  obtain ⟨ta, pa, sa⟩ := ha.ex
  exact ⟨_, pe_callGS G gd hr hg hm hk hb (fun σ => passAt tk σ) pa hdb he hpl, snd_callX sa⟩
def mExprX (m : MO2) : MS := fun S => match m S with
  | some (.val _, S1) => some (.nx, S1)
  | some (.exc c fs, S1) => some (.rz c fs, S1)
  | none => none
def mSetX2 (i : Nat) (m : MO2) : MS := fun S => match m S with
  | some (.val d, S1) => some (.nx, S1.set i (some (.v d)))
  | some (.exc c fs, S1) => some (.rz c fs, S1)
  | none => none
def mRetX2 (m : MO2) : MS := fun S => match m S with
  | some (.val d, S1) => some (.rt (.v d), S1)
  | some (.exc c fs, S1) => some (.rz c fs, S1)
  | none => none
variable {mo : MO2}
theorem js_exprX (he : JO2 X W e mo) (hs : swapsWith e none pos.line X.env = pure false := by rfl) : JS X W (.Expr e pos) (mExprX mo) := by
  obtain ⟨t, p, s⟩ := he.ex
  refine ⟨_, ps_expr p hs, fun P F0 qc F cell S σ H D fl S' R hm k => ?_⟩
  unfold mExprX at hm
  split at hm
  · rename_i d S1 e1
    cases hm
    exact s P F0 qc F cell S σ H _ _ S' R e1 fun v F' H' f1 R1 q => k F' cell σ H' f1 R1
  · rename_i c fs S1 e1
    cases hm
    exact s P F0 qc F cell S σ H _ _ S' R e1 fun C dd us F' H' f1 R1 h1 h2 h3 => k F' cell σ H' f1 R1 C dd us h1 h2 h3
  · cases hm
theorem js_setX2 (i : Nat) {y : Str} {pos' : Pos} (hN : X.N.Nodup) (he : JO2 X W e mo) (hi : X.N[i]? = some y := by rfl) (hx : Loc X.env.scope y := by first | exact Or.inl rfl | exact Or.inr rfl) (hs : swapsWith e (some (.Name y pos')) pos.line X.env = pure false := by rfl)
    (hf : X.fn y = true ∨ X.env.scope.names.lookup y = some .local := by first | exact .inl rfl | exact .inr rfl) : JS X W (.Assign [.Name y pos'] e pos) (mSetX2 i mo) := by
  obtain ⟨t, p, s⟩ := he.ex
  refine ⟨_, ps_set hN hi hx p hs hf, fun P F0 qc F cell S σ H D fl S' R hm k => ?_⟩
  unfold mSetX2 at hm
  split at hm
  · rename_i d S1 e1
    cases hm
    exact s P F0 qc F cell S σ H _ _ S1 R e1 fun v F' H' f1 R1 q => k F' cell _ H' f1 (R1.setV q)
  · rename_i c fs S1 e1
    cases hm
    exact s P F0 qc F cell S σ H _ _ S' R e1 fun C dd us F' H' f1 R1 h1 h2 h3 => k F' cell σ H' f1 R1 C dd us h1 h2 h3
  · cases hm
theorem js_retX2 (he : JO2 X W e mo) : JS X W (.Return (some e) pos) (mRetX2 mo) := by
  obtain ⟨t, p, s⟩ := he.ex
  refine ⟨_, ps_ret p, fun P F0 qc F cell S σ H D fl S' R hm k => ?_⟩
  unfold mRetX2 at hm
  split at hm
  · rename_i d S1 e1
    cases hm
    exact s P F0 qc F cell S σ H _ _ S' R e1 fun v F' H' f1 R1 q => k F' cell σ H' f1 R1 v q
  · rename_i c fs S1 e1
    cases hm
    exact s P F0 qc F cell S σ H _ _ S' R e1 fun C dd us F' H' f1 R1 h1 h2 h3 => k F' cell σ H' f1 R1 C dd us h1 h2 h3
  · cases hm
/-- where it does not raise -/
def mValX (m : MO2) : ME := fun S => match m S with
  | some (.val d, S1) => some (.v d, S1)
  | _ => none
theorem je_callFX (G : FnG X.prog X.w X.K X.mg X.base (L2.CX X.prog X.w) k f fd ps (spX X.K n m)) (gd : X.A.guards = some []) (hr : Room k X.A) (hm : X.mg x = some (.ref f)) (hk : PySem.W.keepIn X.K (.ref f) = true) (hb : Binds X.K fd ps []) (ha : JA X (e :: es) mas)
    (hg : Gl X x := by rfl) (hdb : (x == ("__debug__" : Str)) = false := by decide) (he : starEach (e :: es) X.env = (false, eval e X.env) :: starEach es X.env := by rfl) (hpl : (backTo pos (starEach es X.env)).any (·.1) = false := by rfl) :
    JE X (.Call (.Name x p) (e :: es) [] pos) (mValX (mCallX n m mas)) := by
  obtain ⟨ta, pa, sa⟩ := ha.ex
  have none_ : ∀ σ : L2.St, PassesAt (L2.CX X.prog X.w) X σ (WE W0 σ) := fun σ pins H s e s' I c => by
    obtain ⟨_, _, _, _, _, _, _, _, _, _, _, _, z⟩ := c
    exact z.elim
  refine ⟨_, pe_callGS G gd hr hg hm hk hb none_ pa hdb he hpl, fun P F0 qc F cell S σ H Q r S' R hz kk => ?_⟩
  unfold mValX at hz
  split at hz
  · rename_i d S1 e1
    cases hz
    exact snd_callX (W := W0) sa P F0 qc F cell S σ H Q _ S' R e1 fun v F' H' f1 R1 q => kk v F' H' f1 R1 q
  · cases hz
end
end VL

set_option Elab.async false
set_option linter.all false
set_option maxRecDepth 100000
set_option maxHeartbeats 4000000
/-! VL17: try .. except X as n: y = n; isinstance of and a field of a kept error; is None. -/
namespace VL
open PySem PySem.Spec PyProof.Rows L2
def mTryK (sub : Str → Option Bool) (y i : Nat) (mb : MS) : MS := fun S => match mb S with
  | some (.nx, S1) => some (.nx, S1)
  | some (.bk, S1) => some (.bk, S1)
  | some (.ct, S1) => some (.ct, S1)
  | some (.rt r, S1) => some (.rt r, S1)
  | some (.rz c fs, S1) => match sub c with
    | some true => if i < S1.length then some (.nx, (S1.set y (some (.s (.ex c fs)))).set i none) else none
    | some false => some (.rz c fs, S1)
    | none => none
  | none => none
section
variable {X : Cx} {W : WX} {x n yn : Str} {c : Value} {body : List Stmt} {np pos pos' yp yp2 sp : Pos} {mb : MS} {sub : Str → Option Bool}
theorem js_try_keep (y i : Nat) (hN : X.N.Nodup) (hyi : i ≠ y) (tk : Takes X W) (hex : X.ex = []) (hs : X.stack = X.env :: X.outer) (hf : X.env.frame = some X.env.locals) (hc : Names X x c)
    (hsub : ∀ (k : Str) (C : Addr) (b : Bool), PySem.W.nsIn X.K mainGlobals k = some (some (.ref C)) → sub k = some b → PySem.W.exmOne X.K (.ref C) c = some b)
    (hb : ∀ (W' : WX) (pn : List (Addr × Obj)) (xe : Value → Shared → Prop), Takes (X.tr pn xe) W' → PassesOwn (model X.prog X.w) X.A X.env xe → JB (X.tr pn xe) W' body mb)
    (hi : X.N[i]? = some n := by rfl) (hln : X.env.kindOf n = some .local := by rfl) (hy : X.N[y]? = some yn := by rfl) (hyl : X.env.scope.names.lookup yn = some .local := by rfl)
    (hv : Vis X.env.scope n := by first | exact Or.inl rfl | exact Or.inr (Or.inl rfl) | exact Or.inr (Or.inr rfl)) (hd : (n == ("__debug__" : Str)) = false := by decide) (hcd : (n == ("__classdict__" : Str)) = false := by decide)
    (hsw : swapsWith (.Name n yp2) (some (.Name yn yp)) sp.line X.env = pure false := by rfl) :
    JS X W (.Try body [.ExceptHandler (some (.Name x np)) (some n) [.Assign [.Name yn yp] (.Name n yp2) sp] pos'] [] [] pos) (mTryK sub y i mb) := by
  refine ⟨_, VX.ps_try_keep (i := i) (tb := fun W' => denS X.K W' mb) (ts := fun a cls d => fun D σ H => tAsg (tVar i) (gName y) { D with nx := fun σ H => D.nx σ H } σ H) hs hf hN hi hln hc tk hex (fun W' pn xe tk' po => (hb W' pn xe tk' po).den) (fun a oe cls d pn hz hfl => ?_), fun P F0 qc F cell S σ H D fl S' R hm k => ?_⟩
  · refine pss_one (t := fun D σ H => tAsg (tVar i) (gName y) D σ H) ?_
    exact ps_set (X := X.suite a ((a, oe) :: pn)) hN hy (.inl hyl) (pe_var hi hv hd hcd) hsw (.inr hyl)
  · have go : ∀ (fl : Fl) (S1 : Sl), mb S = some (fl, S1) → (∀ F' cell' σ' H', Same F F' → RC X.K P F0 qc F' cell' S1 σ' H' → FlK X.K (VX.wKeep X.K c i (fun a cls d => fun D σ H => tAsg (tVar i) (gName y) { D with nx := fun σ H => D.nx σ H } σ H) W D) F' cell' fl D σ' H') →
        denS X.K (VX.wKeep X.K c i (fun a cls d => fun D σ H => tAsg (tVar i) (gName y) { D with nx := fun σ H => D.nx σ H } σ H) W D) mb D σ H := fun fl S1 e kk => ⟨P, F0, qc, F, cell, S, fl, S1, R, e, kk⟩
    unfold mTryK at hm
    split at hm
    · rename_i S1 e1
      cases hm
      exact go _ _ e1 fun F' c' σ' H' f1 R1 => k F' c' σ' H' f1 R1
    · rename_i S1 e1
      cases hm
      exact go _ _ e1 fun F' c' σ' H' f1 R1 => k F' c' σ' H' f1 R1
    · rename_i S1 e1
      cases hm
      exact go _ _ e1 fun F' c' σ' H' f1 R1 => k F' c' σ' H' f1 R1
    · rename_i r S1 e1
      cases hm
      exact go _ _ e1 fun F' c' σ' H' f1 R1 => k F' c' σ' H' f1 R1
    · rename_i cn fs S1 e1
      split at hm
      · rename_i hsc
        split at hm
        case isFalse => cases hm
        rename_i hlen
        cases hm
        refine go _ _ e1 fun F' c' σ' H' f1 R1 C dd vs h1 h2 h3 => ⟨true, hsub cn C true h1 hsc, fun _ a ha => ?_, fun z => by cases z⟩
        have li : i < σ'.length := by
          rw [← R1.len]
          exact hlen
        refine ⟨.ref a, List.getElem?_set_self li, ?_⟩
        show D.nx (((σ'.set i (some (V.ref a))).set y (some (.ref a))).set i none) (upd H' a (VX.ExF (.ref C) (some dd) a))
        have ex : Ext F' H' (upd F' a (VX.ExF (.ref C) (some dd) a)) (upd H' a (VX.ExF (.ref C) (some dd) a)) := Ext.new R1.fh ha
        have or : OR X.K (upd F' a (VX.ExF (.ref C) (some dd) a)) (.ex cn fs) (.ref a) := ⟨a, C, dd, vs, rfl, h1, upd_same, ex.f _ _ h2, h3.mono ex.f⟩
        have R2 := ((R1.ext ex).setO (i := y) or).setN i
        rw [List.set_comm _ _ hyi, List.set_set]
        exact k _ c' _ _ (f1.trans ex.f) R2
      · rename_i hsc
        cases hm
        exact go _ _ e1 fun F' c' σ' H' f1 R1 C dd vs h1 h2 h3 => ⟨false, hsub cn C false h1 hsc, (fun z => by cases z), fun _ => k F' c' σ' H' f1 R1 C dd vs h1 h2 h3⟩
      · cases hm
    · cases hm
end

/-! ### isinstance(e, C), e.f, e is None -/
/-- kx: the classes of errors; kn: what None answers -/
def mIsE (kx : Str → Option Bool) (kn : Option Bool) (me : ME) : ME := fun S => match me S with
  | some (.s (.ex c _), S1) => match kx c with
    | some b => some (.v (.bool b), S1)
    | none => none
  | some (.v .none, S1) => match kn with
    | some b => some (.v (.bool b), S1)
    | none => none
  | _ => none
def mFld (ok : Str → Bool) (f : Str) (me : ME) : ME := fun S => match me S with
  | some (.s (.ex c fs), S1) => if ok c = true then match fs.lookup f with
      | some d => some (.v d, S1)
      | none => none
    else none
  | _ => none
def mIsN (me : ME) : ME := fun S => match me S with
  | some (.v d, S1) => some (.v (.bool (isNo d)), S1)
  | some (.s _, S1) => some (.v (.bool false), S1)
  | _ => none
def mIsNN (me : ME) : ME := fun S => match me S with
  | some (.v d, S1) => some (.v (.bool (!isNo d)), S1)
  | some (.s _, S1) => some (.v (.bool true), S1)
  | _ => none
section
variable {X : Cx} {e ec : Expr} {me : ME} {pos p : Pos} {vc : V} {u : Value} {kx : Str → Option Bool} {kn : Option Bool} {f : Str} {ok : Str → Bool}
theorem je_isE (hm : X.mg "isinstance" = none) (he : JE X e me) (pc : PE X ec (tC vc)) (hcl : ClsV vc u)
    (hx : ∀ (c : Str) (C : Addr) (b : Bool), PySem.W.nsIn X.K mainGlobals c = some (some (.ref C)) → kx c = some b → PySem.W.kitOne X.K (.ref C) u = some b ∧ ExcC X.K C)
    (hn : ∀ b, kn = some b → PySem.W.kitOne X.K (.type "NoneType") u = some b) (hg : Gl X "isinstance" := by rfl)
    (hst : starEach [e, ec] X.env = (false, eval e X.env) :: starEach [ec] X.env := by rfl) (hst2 : starEach [ec] X.env = (false, eval ec X.env) :: starEach [] X.env := by rfl) (hpl : (backTo pos (starEach [ec] X.env)).any (·.1) = false := by rfl) :
    JE X (.Call (.Name "isinstance" p) [e, ec] [] pos) (mIsE kx kn me) := by
  obtain ⟨te, pe, se⟩ := he.ex
  refine ⟨_, pe_callB (CallR.or VX.call_isT call_isi) hg hm (by decide +kernel) (pa_cons pe (pa_cons pc pa_nil hst2) hst) (by decide) (by decide) hst hpl, fun P F0 qc F cell S σ H Q z S' R hz k => ?_⟩
  unfold mIsE at hz
  split at hz
  · rename_i c fs S1 e1
    split at hz
    · rename_i b hb
      cases hz
      refine se P F0 qc F cell S σ H _ _ S' R e1 fun v F1 H1 f1 R1 q1 => ?_
      obtain ⟨a, C, dd, vs, rfl, h1, h2, h3, h4⟩ := q1
      obtain ⟨y1, y2⟩ := hx c C b h1 hb
      exact .inl ⟨a, C, dd, _, vc, u, b, rfl, R1.fh _ _ h2, R1.fh _ _ h3, y2, fun w r => hcl.eq r, y1, k _ F1 H1 f1 R1 (.bl b)⟩
    · cases hz
  · rename_i S1 e1
    split at hz
    · rename_i b
      cases hz
      refine se P F0 qc F cell S σ H _ _ S' R e1 fun v F1 H1 f1 R1 q1 => ?_
      cases (show DV X.K F1 v .none from q1)
      exact .inr ⟨.non, vc, _, u, b, rfl, hcl, .base .non, hn b rfl, k _ F1 H1 f1 R1 (.bl b)⟩
    · cases hz
  · cases hz
theorem je_fld (he : JE X e me) (hx : ∀ (c : Str) (C : Addr), PySem.W.nsIn X.K mainGlobals c = some (some (.ref C)) → ok c = true → XfC X.K C ∧ PySem.W.findIn X.K (.ref C) f = some none)
    (hb : attributeBase e f X.env (eval e X.env) = eval e X.env := by rfl) : JE X (.Attribute e f pos) (mFld ok f me) := by
  obtain ⟨te, pe, se⟩ := he.ex
  refine ⟨_, VX.pe_xt pe hb, fun P F0 qc F cell S σ H Q z S' R hz k => ?_⟩
  unfold mFld at hz
  split at hz
  · rename_i c fs S1 e1
    split at hz
    · rename_i ho
      split at hz
      · rename_i d hd
        cases hz
        refine se P F0 qc F cell S σ H _ _ S' R e1 fun v F1 H1 f1 R1 q1 => ?_
        obtain ⟨a, C, dd, vs, rfl, h1, h2, h3, h4⟩ := q1
        obtain ⟨y1, y2⟩ := hx c C h1 ho
        have aux : ∀ (fs : List (Str × PyData)) (vs : List V), DVs X.K F1 vs (fs.map (·.2)) → fs.lookup f = some d → ∃ v, ((fs.map (·.1)).zip vs).lookup f = some v ∧ DV X.K F1 v d := by
          intro fs
          induction fs with
          | nil => intro vs _ h; cases h
          | cons g fs ih =>
            intro vs hv h
            obtain ⟨g1, g2⟩ := g
            cases hv with
            | cons q qs =>
              rename_i v vs
              simp only [List.map_cons, List.zip_cons_cons, List.lookup_cons] at h ⊢
              cases t : f == g1 with
              | true =>
                simp only [t] at h ⊢
                cases h
                exact ⟨v, rfl, q⟩
              | false =>
                simp only [t] at h ⊢
                exact ih vs qs h
        obtain ⟨v, l, dv⟩ := aux fs vs h4 hd
        exact ⟨a, C, dd, _, v, rfl, R1.fh _ _ h2, R1.fh _ _ h3, y1, y2, l, k v F1 H1 f1 R1 dv⟩
      · cases hz
    · cases hz
  · cases hz
theorem je_isNO {j} {p2 : Pos} (he : JE X e me) : JE X (.Compare e [.Is] [.Constant .none j p2] pos) (mIsN me) := by
  obtain ⟨te, pe, se⟩ := he.ex
  refine ⟨_, pe_cmpR op_isN1 pe pe_non (nomark _), fun P F0 qc F cell S σ H Q z S' R hz k => ?_⟩
  unfold mIsN at hz
  split at hz
  · rename_i d S1 e1
    cases hz
    refine se P F0 qc F cell S σ H _ _ S' R e1 fun v F1 H1 f1 R1 q1 => ⟨rfl, ?_⟩
    rw [dx_non (F := F1) (H := H1) (.inl q1)]
    exact k _ F1 H1 f1 R1 (.bl _)
  · rename_i o S1 e1
    cases hz
    refine se P F0 qc F cell S σ H _ _ S' R e1 fun v F1 H1 f1 R1 q1 => ⟨rfl, ?_⟩
    have : decide (v = V.non) = false := by
      cases o with
      | ns l => obtain ⟨a, rfl, _⟩ := q1; simp
      | ex c fs => obtain ⟨a, _, _, _, rfl, _⟩ := q1; simp
    rw [this]
    exact k _ F1 H1 f1 R1 (.bl _)
  · cases hz
end
end VL

set_option Elab.async false
set_option linter.all false
set_option maxRecDepth 100000
set_option maxHeartbeats 4000000
/-! VL18: enumerate of tuples and texts; comprehensions of two clauses; f(k = v) of a def that may raise, where it does not. -/
namespace VL
open PySem PySem.Spec PyProof.Rows L2
section
variable {K : PySem.W.Frag} {F : Hp} {vs : List V} {ds : List PyData} {a : Addr}
theorem itok_en {xs : List V} {G : Hp → Prop} (hv : DVs K F xs ds) (hG : ∀ H, Same F H → G H) : ItOk K (VX.Iten xs G) F (enumD ds) := by
  have hl : (enumD ds).length = xs.length := by unfold enumD; rw [List.length_mapIdx, hv.length]
  refine ⟨_, _, by rw [hl]; exact VX.walk_en, fun H e => hG H e, fun i H x H' F2 d e1 e2 hd y => ?_⟩
  obtain ⟨T, x1, x2, rfl, hT, rfl, g1, g2⟩ := y
  cases g1
  obtain ⟨dd, g3, g4⟩ := hv.got g2
  unfold enumD at hd
  rw [List.getElem?_mapIdx, g3] at hd
  cases hd
  refine ⟨upd F2 T (.tup [.int (i : Nat), x2]), Ext.new e2 hT, ?_⟩
  exact .tup (SqT.of upd_same) (.cons (.int _) (.cons ((g4.mono e1).mono (same_new (e2.free hT))) .nil))
theorem dvs_signs (z : Str) : DVs K F (z.cps.toList.map fun c => V.str ⟨#[c]⟩) (signsD z) := by
  unfold signsD
  generalize z.cps.toList = l
  induction l with
  | nil => exact .nil
  | cons c l ih => exact .cons (.str _) ih
end
def mEnumA (ma : MA) : MI := fun S => match ma S with
  | some ([.v (.list ds)], S1) => some (enumD ds, S1)
  | some ([.v (.tuple ds)], S1) => some (enumD ds, S1)
  | some ([.v (.str z)], S1) => some (enumD (signsD z), S1)
  | _ => none
section
variable {X : Cx} {e : Expr} {mas : MA} {pos p tpos : Pos} {elts : List Expr} {kk : Nat}
theorem ji_enumA (hm : X.mg "enumerate" = none) (ha : JA X [e] mas) (hg : Gl X "enumerate" := by rfl) (hs : starEach [e] X.env = [(false, eval e X.env)] := by rfl) : JI X (.Tuple elts kk tpos) (.Call (.Name "enumerate" p) [e] [] pos) (mEnumA mas) := by
  obtain ⟨t, pa, s⟩ := ha.ex
  refine ⟨_, PI.or (pi_enum hg hm pa hs) (PI.or (VX.pi_enT hg hm pa hs) (VX.pi_enS hg hm pa hs)), fun P F0 qc F cell S σ H R ds S' RR hm k => ?_⟩
  unfold mEnumA at hm
  split at hm
  · rename_i ds' S1 e1
    cases hm
    refine .inl (s P F0 qc F cell S σ H _ _ S' RR e1 fun vs F1 H1 f1 R1 q1 => ?_)
    obtain ⟨v, ws, rfl, g1, g2⟩ := q1
    cases (show ws = [] from g2)
    cases (show DV X.K F1 v (.list ds') from g1) with
    | lst g3 g4 => exact ⟨_, _, rfl, SqL.of (R1.fh _ _ g3), k _ F1 H1 f1 R1 (itok_enum g3 g4)⟩
  · rename_i ds' S1 e1
    cases hm
    refine .inr (.inl (s P F0 qc F cell S σ H _ _ S' RR e1 fun vs F1 H1 f1 R1 q1 => ?_))
    obtain ⟨v, ws, rfl, g1, g2⟩ := q1
    cases (show ws = [] from g2)
    cases (show DV X.K F1 v (.tuple ds') from g1) with
    | tup g3 g4 => exact ⟨_, _, rfl, sqT_mono R1.fh g3, k _ F1 H1 f1 R1 (itok_en g4 fun H e => sqT_mono e g3)⟩
  · rename_i z S1 e1
    cases hm
    refine .inr (.inr (s P F0 qc F cell S σ H _ _ S' RR e1 fun vs F1 H1 f1 R1 q1 => ?_))
    obtain ⟨v, ws, rfl, g1, g2⟩ := q1
    cases (show ws = [] from g2)
    cases (show DV X.K F1 v (.str z) from g1)
    exact ⟨z, rfl, k _ F1 H1 f1 R1 (itok_en (dvs_signs z) fun _ _ => trivial)⟩
  · cases hm
end

/-! ### [e for .. in .. if .. for .. in .. if ..] -/
def lc2Go (g : MG) (mt : MT) (mi1 : MI) (g1 : MG) (mt1 : MT) (me : ME) (vs vs1 : List Nat) : List PyData → Sl → List PyData → Option (List PyData × Sl)
  | [], T, acc => some (acc, T)
  | d :: ds, T, acc => match g d T with
    | none => none
    | some T1 => match mt T1 with
      | none => none
      | some (false, T2) => lc2Go g mt mi1 g1 mt1 me vs vs1 ds (wp T2 vs) acc
      | some (true, T2) => match mi1 T2 with
        | none => none
        | some (ds1, T3) => match lcGo g1 mt1 me vs1 ds1 (wp T3 vs1) acc with
          | none => none
          | some (acc', T4) => lc2Go g mt mi1 g1 mt1 me vs vs1 ds (wp T4 vs) acc'
def xLc2 (mi : MI) (g : MG) (mt : MT) (mi1 : MI) (g1 : MG) (mt1 : MT) (me : ME) (vs vs1 : List Nat) : MX := fun S => match mi S with
  | none => none
  | some (ds, S1) => if ownOk S1 vs = true then match lc2Go g mt mi1 g1 mt1 me vs vs1 ds (wp S1 vs) [] with
      | some (acc, T) => some (.c acc, unwp S1 T vs)
      | none => none
    else none
theorem wipe_sub (σ : L2.St) {vs vs1 : List Nat} (h : ∀ i ∈ vs1, i ∈ vs) : L2.wipe (L2.wipe σ vs1) vs = L2.wipe σ vs := by
  refine List.ext_getElem? fun i => ?_
  by_cases hi : i ∈ vs
  · by_cases hl : i < σ.length
    · rw [wipe_in (by rw [wipe_length]; exact hl) hi, wipe_in hl hi]
    · rw [List.getElem?_eq_none (by rw [wipe_length, wipe_length]; omega), List.getElem?_eq_none (by rw [wipe_length]; omega)]
  · rw [wipe_out hi, wipe_out hi, wipe_out fun z => hi (h i z)]
section
variable {X : Cx} {W : WX} {elt tg iter tg1 iter1 : Expr} {ifs ifs1 : List Expr} {scope : Scope} {own : List (Str × Nat)} {pos : Pos} {mi mi1 : MI} {g g1 : MG} {mt mt1 : MT} {me : ME} {ts ts1 : List Nat}
theorem snd_lc2 {K : PySem.W.Frag} {wi wi1 : TI} {vs vs1 : List Nat} (si : SndI K wi mi) (si1 : SndI K wi1 mi1) (hv : ∀ i ∈ ts, i ∈ vs) (hv1 : ∀ i ∈ ts1, i ∈ vs1) (hss : ∀ i ∈ vs1, i ∈ vs) :
    SndX K (tLc2 wi (denG K g ts) (denT K mt) wi1 (denG K g1 ts1) (denT K mt1) (denE K me) vs vs1) (xLc2 mi g mt mi1 g1 mt1 me vs vs1) := by
  intro P F0 qc F cell S σ H Q r S' R hm k
  unfold xLc2 at hm
  split at hm
  · cases hm
  · rename_i ds S1 e1
    split at hm
    · rename_i ho
      split at hm
      · rename_i acc T e2
        cases hm
        refine si P F0 qc F cell S σ H _ ds S1 R e1 fun J F1 H1 f1 R1 ok => ?_
        intro D hD
        obtain ⟨G, Y, w, hG, hY⟩ := ok.ex
        have hP : P D = none := R1.ph.free hD
        have h0 : F0 D = none := (R1.f0.trans R1.fh).free hD
        refine ⟨fun i m H => m = ds.length - i ∧ i ≤ ds.length ∧ ∃ F2 T2 acc2 ws, Same F1 F2 ∧ RC K (upd P D (.lst ws)) F0 qc F2 cell T2 (L2.wipe σ vs) H ∧ DVs K F2 ws acc2 ∧ lc2Go g mt mi1 g1 mt1 me vs vs1 (ds.drop i) T2 acc2 = some (acc, T),
          ⟨ds.length, by simp, Nat.zero_le _, F1, wp S1 vs, [], [], Same.refl _, (R1.lay hD).wipe vs, .nil, e2⟩, ?_⟩
        rintro i m H2 ⟨rfl, hi, F2, T2, acc2, ws, f2, R2, hw, e3⟩
        by_cases hlt : i < ds.length
        · refine .inr ⟨w.1 i H2 hlt (hG H2 (f2.trans R2.fh)), fun H' => i + 1 ≤ ds.length ∧ ∃ F2 T2 acc2 ws, Same F1 F2 ∧ RC K (upd P D (.lst ws)) F0 qc F2 cell T2 (L2.wipe σ vs) H' ∧ DVs K F2 ws acc2 ∧ lc2Go g mt mi1 g1 mt1 me vs vs1 (ds.drop (i + 1)) T2 acc2 = some (acc, T), fun H' q => ⟨ds.length - (i + 1), by omega, rfl, q⟩, fun x H' y => ?_⟩
          obtain ⟨d, hd, hdr⟩ := drop_cons hlt
          rw [hdr] at e3
          unfold lc2Go at e3
          obtain ⟨F3, ex, dv⟩ := hY i H2 x H' F2 d f2 R2.fh hd (w.yields i H2 x H' hlt (hG H2 (f2.trans R2.fh)) y)
          have R3 := R2.ext ex
          cases e4 : g d T2 with
          | none => rw [e4] at e3; cases e3
          | some T3 =>
            rw [e4] at e3
            refine ⟨_, F0, qc, F3, cell, T2, d, T3, R3, dv, e4, fun σ4 R4 w4 => ⟨(w4 vs hv).trans (wipe_idem σ vs), ?_⟩⟩
            have wv : L2.wipe σ4 vs = L2.wipe σ vs := (w4 vs hv).trans (wipe_idem σ vs)
            cases e5 : mt T3 with
            | none => simp only [e5] at e3; cases e3
            | some z =>
              obtain ⟨b, T4⟩ := z
              simp only [e5] at e3
              refine ⟨_, F0, qc, F3, cell, T3, b, T4, R4, e5, fun F5 H5 f5 R5 => ?_⟩
              cases b with
              | false =>
                rw [if_neg Bool.false_ne_true]
                have e3 : lc2Go g mt mi1 g1 mt1 me vs vs1 (ds.drop (i + 1)) (wp T4 vs) acc2 = some (acc, T) := e3
                refine ⟨hlt, F5, _, acc2, ws, (f2.trans ex.f).trans f5, ?_, (hw.mono ex.f).mono f5, e3⟩
                rw [← wv]
                exact R5.wipe vs
              | true =>
                rw [if_pos rfl]
                have e3 : (match mi1 T4 with
                  | none => none
                  | some (ds1, T3) => match lcGo g1 mt1 me vs1 ds1 (wp T3 vs1) acc2 with
                    | none => none
                    | some (acc', T4) => lc2Go g mt mi1 g1 mt1 me vs vs1 (ds.drop (i + 1)) (wp T4 vs) acc') = some (acc, T) := e3
                split at e3
                · cases e3
                · rename_i ds1 T5 e6
                  split at e3
                  · cases e3
                  · rename_i acc' T6 e7
                    refine si1 _ F0 qc F5 cell T4 σ4 H5 _ ds1 T5 R5 e6 fun J1 F6 H6 f6 R6 ok1 => ?_
                    obtain ⟨G1, Y1, w1, hG1, hY1⟩ := ok1.ex
                    have f16 : Same F1 F6 := ((f2.trans ex.f).trans f5).trans f6
                    have hw6 : DVs K F6 ws acc2 := ((hw.mono ex.f).mono f5).mono f6
                    refine ⟨fun j m H => m = ds1.length - j ∧ j ≤ ds1.length ∧ ∃ F7 T7 acc7 ws7, Same F6 F7 ∧ RC K (upd P D (.lst ws7)) F0 qc F7 cell T7 (L2.wipe σ4 vs1) H ∧ DVs K F7 ws7 acc7 ∧ lcGo g1 mt1 me vs1 (ds1.drop j) T7 acc7 = some (acc', T6),
                      ⟨ds1.length, by simp, Nat.zero_le _, F6, wp T5 vs1, acc2, ws, Same.refl _, R6.wipe vs1, hw6, e7⟩, ?_⟩
                    rintro j m H7 ⟨rfl, hj, F7, T7, acc7, ws7, f7, R7, hw7, e8⟩
                    by_cases hlt1 : j < ds1.length
                    · refine .inr ⟨w1.1 j H7 hlt1 (hG1 H7 (f7.trans R7.fh)), fun H' => j + 1 ≤ ds1.length ∧ ∃ F7 T7 acc7 ws7, Same F6 F7 ∧ RC K (upd P D (.lst ws7)) F0 qc F7 cell T7 (L2.wipe σ4 vs1) H' ∧ DVs K F7 ws7 acc7 ∧ lcGo g1 mt1 me vs1 (ds1.drop (j + 1)) T7 acc7 = some (acc', T6), fun H' q => ⟨ds1.length - (j + 1), by omega, rfl, q⟩, fun x1 H8 y1 => ?_⟩
                      obtain ⟨d1, hd1, hdr1⟩ := drop_cons hlt1
                      rw [hdr1] at e8
                      unfold lcGo at e8
                      obtain ⟨F8, ex8, dv8⟩ := hY1 j H7 x1 H8 F7 d1 f7 R7.fh hd1 (w1.yields j H7 x1 H8 hlt1 (hG1 H7 (f7.trans R7.fh)) y1)
                      have R8 := R7.ext ex8
                      cases e9 : g1 d1 T7 with
                      | none => rw [e9] at e8; cases e8
                      | some T8 =>
                        rw [e9] at e8
                        refine ⟨_, F0, qc, F8, cell, T7, d1, T8, R8, dv8, e9, fun σ9 R9 w9 => ⟨(w9 vs1 hv1).trans (wipe_idem σ4 vs1), ?_⟩⟩
                        have wv1 : L2.wipe σ9 vs1 = L2.wipe σ4 vs1 := (w9 vs1 hv1).trans (wipe_idem σ4 vs1)
                        cases e10 : mt1 T8 with
                        | none => simp only [e10] at e8; cases e8
                        | some z1 =>
                          obtain ⟨b1, T9⟩ := z1
                          simp only [e10] at e8
                          refine ⟨_, F0, qc, F8, cell, T8, b1, T9, R9, e10, fun F10 H10 f10 R10 => ?_⟩
                          cases b1 with
                          | false =>
                            rw [if_neg Bool.false_ne_true]
                            have e8 : lcGo g1 mt1 me vs1 (ds1.drop (j + 1)) (wp T9 vs1) acc7 = some (acc', T6) := e8
                            refine ⟨hlt1, F10, _, acc7, ws7, (f7.trans ex8.f).trans f10, ?_, (hw7.mono ex8.f).mono f10, e8⟩
                            rw [← wv1]
                            exact R10.wipe vs1
                          | true =>
                            rw [if_pos rfl]
                            have e8 : (match me T9 with
                              | some (.v z, T3) => if acc7.length < 100000 then lcGo g1 mt1 me vs1 (ds1.drop (j + 1)) (wp T3 vs1) (acc7 ++ [z]) else none
                              | _ => none) = some (acc', T6) := e8
                            split at e8
                            · rename_i z T10 e11
                              split at e8
                              · rename_i hl
                                refine ⟨_, F0, qc, F10, cell, T9, .v z, T10, R10, e11, fun v F11 H11 f11 R11 q11 => ?_⟩
                                refine ⟨ws7, R11.laid_at, ?_, hlt1, F11, _, acc7 ++ [z], ws7 ++ [v], ((f7.trans ex8.f).trans f10).trans f11, ?_, (((hw7.mono ex8.f).mono f10).mono f11).append (.cons q11 .nil), e8⟩
                                · rw [hw7.length]
                                  exact Nat.lt_of_lt_of_le hl (by decide)
                                · rw [← wv1]
                                  exact (R11.relay h0).wipe vs1
                              · cases e8
                            · cases e8
                    · have e : j = ds1.length := by omega
                      subst e
                      rw [List.drop_length] at e8
                      cases e8
                      refine .inl ⟨w1.2 H7 (hG1 H7 (f7.trans R7.fh)), hlt, F7, _, _, ws7, f16.trans f7, ?_, hw7, e3⟩
                      rw [← wv, ← wipe_sub σ4 hss]
                      exact R7.wipe vs
        · have e : i = ds.length := by omega
          subst e
          rw [List.drop_length] at e3
          cases e3
          refine .inl ⟨w.2 H2 (hG H2 (f2.trans R2.fh)), ?_⟩
          exact k D ws F2 H2 (f1.trans f2) hP h0 (R1.unwipe ho f2 R2) hw
      · cases hm
    · cases hm
def denI (K : PySem.W.Frag) (m : MI) : TI := fun σ H R => ∃ P F0 qc F cell S ds S', RC K P F0 qc F cell S σ H ∧ m S = some (ds, S') ∧ ∀ J F' H', Same F F' → RC K P F0 qc F' cell S' σ H' → ItOk K J F' ds → R J H'
theorem JI.den1 {X : Cx} {tg iter : Expr} {m : MI} (h : JI X tg iter m) : PI X tg iter (denI X.K m) := by
  obtain ⟨t, p, s⟩ := h.ex
  exact ⟨fun pins s0 σ H R I ⟨P, F0, qc, F, cell, S, ds, S', RR, hm, k⟩ => p.run pins s0 σ H R I (s P F0 qc F cell S σ H R ds S' RR hm k)⟩
theorem snd_denI {K : PySem.W.Frag} {m : MI} : SndI K (denI K m) m := fun P F0 qc F cell S σ H R ds S' RR hm k => ⟨P, F0, qc, F, cell, S, ds, S', RR, hm, k⟩
/-- [elt for tg in iter if .. for tg1 in iter1 if ..] -/
theorem jx_lc2 (vs1 : List Nat) (hc : X.calm = true) (hN : X.N.Nodup) (hi : JI X tg iter mi) (ok : BlkOk X.N X.env.scope scope own)
    (hg : ∀ (s : Shared) (H : Hp) (C : Addr) (cl : List (Str × Addr)) (fp : List Addr), JG (X.blk s H scope (compEnvC scope cl C X.env) fp) tg g ts) (ht : ∀ (s : Shared) (H : Hp) (C : Addr) (cl : List (Str × Addr)) (fp : List Addr), JTs (X.blk s H scope (compEnvC scope cl C X.env) fp) ifs mt)
    (hi1 : ∀ (s : Shared) (H : Hp) (C : Addr) (cl : List (Str × Addr)) (fp : List Addr), JI (X.blk s H scope (compEnvC scope cl C X.env) fp) tg1 iter1 mi1)
    (hg1 : ∀ (s : Shared) (H : Hp) (C : Addr) (cl : List (Str × Addr)) (fp : List Addr), JG (X.blk s H scope (compEnvC scope cl C X.env) fp) tg1 g1 ts1) (ht1 : ∀ (s : Shared) (H : Hp) (C : Addr) (cl : List (Str × Addr)) (fp : List Addr), JTs (X.blk s H scope (compEnvC scope cl C X.env) fp) ifs1 mt1)
    (he : ∀ (s : Shared) (H : Hp) (C : Addr) (cl : List (Str × Addr)) (fp : List Addr), JE (X.blk s H scope (compEnvC scope cl C X.env) fp) elt me) (hv : ∀ i ∈ ts, i ∈ own.map (·.2) := by decide) (hv1 : ∀ i ∈ ts1, i ∈ vs1 := by decide) (hss : ∀ i ∈ vs1, i ∈ own.map (·.2) := by decide)
    (hs : ∀ x, foldedSetIterable iter X.env x = pure x := by intro _; rfl) (hs1 : ∀ env x, foldedSetIterable iter1 env x = pure x := by intro _ _; rfl) :
    JX X (.ListComp elt [⟨tg, iter, ifs, 0⟩, ⟨tg1, iter1, ifs1, 0⟩] scope pos) (xLc2 mi g mt mi1 g1 mt1 me (own.map (·.2)) vs1) := by
  obtain ⟨wi, pi, si⟩ := hi.ex
  exact ⟨_, pe_lc2 hc hN pi ok hss (fun s H C cl fp => (hg s H C cl fp).den) (fun s H C cl fp => (ht s H C cl fp).den) (fun s H C cl fp => (hi1 s H C cl fp).den1) (fun s H C cl fp => (hg1 s H C cl fp).den) (fun s H C cl fp => (ht1 s H C cl fp).den) (fun s H C cl fp => (he s H C cl fp).den) hs hs1, snd_lc2 si snd_denI hv hv1 hss⟩
end
/-! ### f(k = e, ..) of a def that may raise, where it does not -/
section
variable {X : Cx} {k n : Nat} {f : Addr} {fd : FuncData} {p0 : Str} {ps : List Str} {x : Str} {p pos : Pos} {kws : List Keyword} {m : MFX} {mas : MA}
theorem je_callFKX (G : FnG X.prog X.w X.K X.mg X.base (L2.CX X.prog X.w) k f fd (p0 :: ps) (spX X.K n m)) (gd : X.A.guards = some []) (hr : Room k X.A) (hm : X.mg x = some (.ref f)) (hk : PySem.W.keepIn X.K (.ref f) = true) (hb : KB X.K fd (p0 :: ps)) (ha : JK X kws mas)
    (hg : Gl X x := by rfl) (hall : (backToKw pos (keywordEach kws X.env)).all (·.1.isSome) = true := by rfl) (hks : (backToKw pos (keywordEach kws X.env)).filterMap (·.1) = p0 :: ps := by rfl) (hdb : (x == ("__debug__" : Str)) = false := by decide)
    (hpl : ((backTo pos (starEach [] X.env)).any (·.1) || (backToKw pos (keywordEach kws X.env)).any (·.1.isNone)) = false := by rfl) :
    JE X (.Call (.Name x p) [] kws pos) (mValX (mCallX n m mas)) := by
  obtain ⟨ta, pa, sa⟩ := ha.ex
  have none_ : Passes (L2.CX X.prog X.w) X E0 := fun pins σ H s e s' I c => by
    obtain ⟨_, _, _, _, _, _, _, _, _, _, _, _, z⟩ := c
    exact z.elim
  have imp : ∀ (σ : L2.St) (H : Hp) (Q : VK), tCallS (spX X.K n m) (WE W0) ta σ H Q → tCallK (spX X.K n m) gK E0 tNil ta σ H Q := fun σ H Q h => h
  refine ⟨_, pe_callGK0 G gd hr hg hm hk hb.kb none_ pa hall hks hdb hpl, fun P F0 qc F cell S σ H Q r S' R hz kk => ?_⟩
  unfold mValX at hz
  split at hz
  · rename_i d S1 e1
    cases hz
    exact imp σ H Q (snd_callX (W := W0) sa P F0 qc F cell S σ H Q _ S' R e1 fun v F' H' f1 R1 q => kk v F' H' f1 R1 q)
  · cases hz
end
end VL

set_option Elab.async false
set_option linter.all false
set_option maxRecDepth 100000
set_option maxHeartbeats 4000000
/-! VL19: what is known of the classes of errors, put together for the texts that gen.py prints. -/
namespace VL
open PySem PySem.Spec PyProof.Rows L2
theorem takes0 {X : Cx} : Takes X W0 := fun u s' ⟨a, B, sI, pins, σ, H, cls, d, e, I, nb, up, sky, na, os, ag, w⟩ => w.elim
/-- for the classes of l, R holds of where they lie -/
inductive KX (K : PySem.W.Frag) (R : Addr → Bool → Prop) : List (Str × Bool) → Prop
  | nil : KX K R []
  | cons {c : Str} {C : Addr} {b : Bool} {l : List (Str × Bool)} : PySem.W.nsIn K mainGlobals c = some (some (.ref C)) → R C b → KX K R l → KX K R ((c, b) :: l)
def kx (l : List (Str × Bool)) : Str → Option Bool := fun c => l.lookup c
theorem KX.hx {K : PySem.W.Frag} {R : Addr → Bool → Prop} : ∀ {l : List (Str × Bool)}, KX K R l → ∀ (c : Str) (C : Addr) (b : Bool), PySem.W.nsIn K mainGlobals c = some (some (.ref C)) → kx l c = some b → R C b
  | _, .nil, c, C, b, h, e => by cases e
  | _, .cons (c := c0) (C := C0) (b := b0) (l := l) h0 r t, c, C, b, h, e => by
    unfold kx at e
    rw [List.lookup_cons] at e
    cases q : c == c0 with
    | true =>
      rw [q] at e
      have := beq_iff_eq.mp q
      subst this
      cases e
      rw [h0] at h
      cases h
      exact r
    | false =>
      rw [q] at e
      exact t.hx c C b h e
def kok (l : List (Str × Bool)) : Str → Bool := fun c => kx l c == some true
theorem KX.hok {K : PySem.W.Frag} {R : Addr → Bool → Prop} {l : List (Str × Bool)} (h : KX K R l) (c : Str) (C : Addr) (hc : PySem.W.nsIn K mainGlobals c = some (some (.ref C))) (e : kok l c = true) : R C true := h.hx c C true hc (beq_iff_eq.mp e)
section
variable {X : Cx} {e : Expr} {me : ME} {pos p p2 : Pos} {tn : Str} {kn : Option Bool} {l : List (Str × Bool)} {f : Str}
/-- isinstance(e, C), C an own class -/
theorem je_isX (l : List (Str × Bool)) (hm : X.mg "isinstance" = none) {C0 : Addr} (hC : X.mg tn = some (.ref C0)) (he : JE X e me) (hx : KX X.K (fun C b => PySem.W.kitOne X.K (.ref C) (.ref C0) = some b ∧ ExcC X.K C) l)
    (hn : PySem.W.kitOne X.K (.type "NoneType") (.ref C0) = some false) (hg : Gl X "isinstance" := by rfl) (hgT : Gl X tn := by rfl) (hdb : (tn == ("__debug__" : Str)) = false := by decide)
    (hst : starEach [e, .Name tn p2] X.env = (false, eval e X.env) :: starEach [.Name tn p2] X.env := by rfl) (hst2 : starEach [.Name tn p2] X.env = (false, eval (.Name tn p2) X.env) :: starEach [] X.env := by rfl) (hpl : (backTo pos (starEach [.Name tn p2] X.env)).any (·.1) = false := by rfl) :
    JE X (.Call (.Name "isinstance" p) [e, .Name tn p2] [] pos) (mIsE (kx l) (some false) me) :=
  je_isE hm he (pe_glob (v := .ref C0) hgT hC rfl hdb) (.own C0) (fun c C b h1 h2 => hx.hx c C b h1 h2) (fun b hb => by cases hb; exact hn) hg hst hst2 hpl
/-- isinstance(e, T), T a built-in class; e an error or None -/
theorem je_isXB (T : String) (l : List (Str × Bool)) (hm : X.mg "isinstance" = none) (hT : X.mg tn = none) (hv : bootBuiltins tn = some (.type T)) (he : JE X e me) (hx : KX X.K (fun C b => PySem.W.kitOne X.K (.ref C) (.type T) = some b ∧ ExcC X.K C) l)
    (hn : PySem.W.kitOne X.K (.type "NoneType") (.type T) = some false) (hg : Gl X "isinstance" := by rfl) (hgT : Gl X tn := by rfl) (hnn : tn ≠ "__name__" := by decide) (hdb : (tn == ("__debug__" : Str)) = false := by decide)
    (hst : starEach [e, .Name tn p2] X.env = (false, eval e X.env) :: starEach [.Name tn p2] X.env := by rfl) (hst2 : starEach [.Name tn p2] X.env = (false, eval (.Name tn p2) X.env) :: starEach [] X.env := by rfl) (hpl : (backTo pos (starEach [.Name tn p2] X.env)).any (·.1) = false := by rfl) :
    JE X (.Call (.Name "isinstance" p) [e, .Name tn p2] [] pos) (mIsE (kx l) (some false) me) :=
  je_isE hm he (pe_bltn (v := .ty T) hgT hT hv rfl hnn hdb) (.ty T) (fun c C b h1 h2 => hx.hx c C b h1 h2) (fun b hb => by cases hb; exact hn) hg hst hst2 hpl
/-- e.f -/
theorem je_fldX (l : List (Str × Bool)) (he : JE X e me) (hx : KX X.K (fun C b => XfC X.K C ∧ PySem.W.findIn X.K (.ref C) f = some none) l) (hb : attributeBase e f X.env (eval e X.env) = eval e X.env := by rfl) : JE X (.Attribute e f pos) (mFld (kok l) f me) :=
  je_fld he (fun c C h1 h2 => hx.hok c C h1 h2) hb
end
/-! ### how the facts are had -/
section
variable {K : PySem.W.Frag} {C D : Addr} {b : Bool} {t : Value} {T : String}
theorem kitc_own (h1 : PySem.W.isClsIn K D = true) (h2 : PySem.W.typeIn K (.ref D) = some (.type "type")) (h3 : PySem.W.subIn K t (.ref D) = some b) : PySem.W.kitCls K t (.ref D) = some b := by
  have e : ((PySem.W.clsIn K D).isSome && PySem.W.typeIn K (.ref D) == some (.type "type")) = true := by
    have h1' : (PySem.W.clsIn K D).isSome = true := h1
    rw [h1', h2] <;> rfl
  show (if ((PySem.W.clsIn K D).isSome && PySem.W.typeIn K (.ref D) == some (.type "type")) = true then PySem.W.subIn K t (.ref D) else none) = some b
  rw [if_pos e]
  exact h3
theorem exm_own (h0 : PySem.W.subIn K (.ref D) (.type "BaseException") = some true) (h1 : PySem.W.isClsIn K D = true) (h2 : PySem.W.typeIn K (.ref D) = some (.type "type")) (h3 : PySem.W.subIn K (.ref C) (.ref D) = some b) : PySem.W.exmOne K (.ref C) (.ref D) = some b := by
  have e1 : (PySem.W.subIn K (.ref D) (.type "BaseException") == some true) = true := by rw [h0] <;> rfl
  show (if (PySem.W.subIn K (.ref D) (.type "BaseException") == some true) = true then PySem.W.kitCls K (.ref C) (.ref D) else none) = some b
  rw [if_pos e1]
  exact kitc_own h1 h2 h3
theorem kit_same : PySem.W.kitOne K t t = some true := by
  unfold PySem.W.kitOne
  rw [if_pos (beq_self_eq_true t)]
theorem kit_ne {c : Value} (hn : (t == c) = false) (h : PySem.W.kitCls K t c = some b) : PySem.W.kitOne K t c = some b := by
  unfold PySem.W.kitOne
  rw [hn, if_neg Bool.false_ne_true]
  exact h
theorem kitc_ty (hk : PySem.W.kitMeta T = true) (h : PySem.W.subIn K t (.type T) = some b) : PySem.W.kitCls K t (.type T) = some b := by
  show (if PySem.W.kitMeta T = true then PySem.W.subIn K t (.type T) else none) = some b
  rw [if_pos hk]
  exact h
end
end VL

set_option Elab.async false
set_option linter.all false
set_option maxRecDepth 100000
set_option maxHeartbeats 4000000
/-! VL20: f-strings; isinstance(e, (A, B)) of a kept error. -/
namespace VL
open PySem PySem.Spec PyProof.Rows L2
def fmtD : PyData → Option PyData
  | .str y => if y.length ≤ 100000 then some (.str y) else none
  | .int i => if i.natAbs.log2 < 1920 then some (.str (toString i)) else none
  | _ => none
def mJoin : List ME → Str → Sl → Option (Str × Sl)
  | [], acc, S => some (acc, S)
  | m :: ms, acc, S => match m S with
    | some (.v (.str y), S1) => if acc.length + y.length ≤ 100000 then mJoin ms (acc ++ y) S1 else none
    | _ => none
def mFStr (ms : List ME) : ME := fun S => match mJoin ms Str.empty S with
  | some (z, S1) => some (.v (.str z), S1)
  | none => none
inductive SndEs (K : PySem.W.Frag) : List TE → List ME → Prop where
  | nil : SndEs K [] []
  | cons {t : TE} {m : ME} {ts : List TE} {ms : List ME} (h : SndE K t m) (r : SndEs K ts ms) : SndEs K (t :: ts) (m :: ms)
structure JFs (X : Cx) (es : List Expr) (ms : List ME) : Prop where
  ex : ∃ ts, PJ X es ts ∧ SndEs X.K ts ms
section
variable {X : Cx} {e : Expr} {es : List Expr} {me : ME} {ms : List ME} {pos p : Pos}
theorem je_fmt (he : JE X e me) : JE X (.FormattedValue e (-1) none pos) (mUn fmtD me) := by
  obtain ⟨te, pe, se⟩ := he.ex
  refine ⟨_, pe_fmt pe, fun P F0 qc F cell S σ H Q z S' R hm k => ?_⟩
  unfold mUn at hm
  split at hm
  · cases hm
  · rename_i r1 S1 e1
    split at hm
    · rename_i d hd
      split at hm
      · rename_i z' hz
        cases hm
        unfold fmtD at hz
        refine se P F0 qc F cell S σ H _ r1 S' R e1 fun v1 F1 H1 s1 R1 q1 => ?_
        split at hz
        · split at hz
          · rename_i y hl
            cases hz
            exact .inl ⟨_, (R1.deref q1 hd).str, small5 hl, k _ F1 H1 s1 R1 (.str _)⟩
          · cases hz
        · split at hz
          · rename_i y hl
            cases hz
            exact .inr ⟨_, (R1.deref q1 hd).int, hl, k _ F1 H1 s1 R1 (.str _)⟩
          · cases hz
        · cases hz
      · cases hm
    · cases hm
theorem jf_nil : JFs X [] [] := ⟨_, .nil, .nil⟩
theorem jf_cons (he : JE X e me) (h : JFs X es ms) : JFs X (e :: es) (me :: ms) := by
  obtain ⟨t, pe, se⟩ := he.ex
  obtain ⟨ts, ps, ss⟩ := h.ex
  exact ⟨_, .cons pe ps, .cons se ss⟩
theorem snd_join {K : PySem.W.Frag} {ts : List TE} (h : SndEs K ts ms) : ∀ (acc : Str) (P F0 : Hp) (qc : Nat → Addr) (F : Hp) (cell : Nat → Addr) (S : Sl) (σ : L2.St) (H : Hp) (Q : Str → Hp → Prop) (z : Str) (S' : Sl), RC K P F0 qc F cell S σ H → mJoin ms acc S = some (z, S') →
    (∀ F' H', Same F F' → RC K P F0 qc F' cell S' σ H' → Q z H') → tJs ts acc σ H Q := by
  induction h with
  | nil =>
    intro acc P F0 qc F cell S σ H Q z S' R hm k
    cases hm
    exact k F H (Same.refl _) R
  | @cons t m ts ms se r ih =>
    intro acc P F0 qc F cell S σ H Q z S' R hm k
    unfold mJoin at hm
    split at hm
    · rename_i y S1 e1
      split at hm
      · rename_i hl
        refine se P F0 qc F cell S σ H _ _ S1 R e1 fun v1 F1 H1 s1 R1 q1 => ?_
        cases (show DV K F1 v1 (.str y) from q1)
        refine ⟨y, rfl, ?_, ih (acc ++ y) P F0 qc F1 cell S1 σ H1 Q z S' R1 hm fun F' H' s2 R2 => k F' H' (s1.trans s2) R2⟩
        rw [strLen_append]
        exact small5 hl
      · cases hm
    · cases hm
theorem je_fstr {v1 v2 : Expr} (h : JFs X (v1 :: v2 :: es) ms) : JE X (.JoinedStr (v1 :: v2 :: es) pos) (mFStr ms) := by
  obtain ⟨ts, ps, ss⟩ := h.ex
  refine ⟨_, pe_joined ps, fun P F0 qc F cell S σ H Q z S' R hm k => ?_⟩
  unfold mFStr at hm
  split at hm
  · rename_i z' S1 e1
    cases hm
    exact snd_join ss _ P F0 qc F cell S σ H _ _ S' R e1 fun F' H' s1 R1 => k _ F' H' s1 R1 (.str _)
  · cases hm
end

/-! ### isinstance(e, (A, B)) -/
def rIsTT (K : PySem.W.Frag) : List V → Hp → VK → Prop := fun xs H Q => ∃ (a D dd tp : Addr) (fs : List (Str × V)) (cs : List V) (us : List Value) (b : Bool), xs = [.ref a, .ref tp] ∧ H a = some (VX.ExF (.ref D) (some dd) a) ∧ H dd = some (.xd fs) ∧ ExcC K D ∧ H tp = some (.tup cs) ∧ Paired ClsV cs us ∧ PySem.W.kitAny K (.ref D) us = some b ∧ Q (.bl b) H
theorem call_isTT {X : Cx} : CallR X (.builtin "isinstance") (rIsTT X.K) := by
  intro pins s σ H xs us Q I r h
  obtain ⟨a, D, dd, tp, fs, cs, ws, b, rfl, ha, hd, C, hT, k, e, q⟩ := h
  obtain ⟨u1, u2, rfl, r1, r2⟩ := r.two
  cases r1
  cases (show u2 = Value.ref tp from r2)
  obtain ⟨oe, vs, hget, hz, hv⟩ := VX.exF_at I.hok ha
  obtain ⟨mA, hns, _⟩ : ObjOk X.prog X.w H s.heap dd (.xd fs) := I.hok dd _ hd
  obtain ⟨od, ho, _⟩ := lookIn_ns hns
  have J : PySem.W.InstAt s.heap a oe D (some od) := ⟨hget, hz.1, by unfold PySem.W.notCls; rw [hv], by rw [hz.2]; exact ho⟩
  obtain ⟨_, its, rv, o, h1, h2, n, h3⟩ := (show ObjOk X.prog X.w H s.heap tp (.tup cs) from I.hok tp _ hT)
  have e3 := ClsV.all k rv
  subst e3
  obtain ⟨oc, od2, dt, sl⟩ := o
  simp only at h2 h3
  subst h2 h3
  exact PySem.W.kia_tup (VX.kit_own C) I.kIn ⟨_, _, J⟩ h1 e (fun z => nomatch z) fun tk => ⟨.bl b, H, I.kept (t' := tk) fun _ _ z => z, rfl, q⟩
def mIsE2 (kx : Str → Option Bool) (me : ME) : ME := fun S => match me S with
  | some (.s (.ex c _), S1) => match kx c with
    | some b => some (.v (.bool b), S1)
    | none => none
  | _ => none
section
variable {X : Cx} {e e1 e2 : Expr} {me : ME} {pos p p1 : Pos} {v1 v2 : V} {u1 u2 : Value} {kx : Str → Option Bool}
theorem je_isE2 {j} (hm : X.mg "isinstance" = none) (he : JE X e me) (pc1 : PE X e1 (tC v1)) (hcl1 : ClsV v1 u1) (pc2 : PE X e2 (tC v2)) (hcl2 : ClsV v2 u2)
    (hx : ∀ (c : Str) (C : Addr) (b : Bool), PySem.W.nsIn X.K mainGlobals c = some (some (.ref C)) → kx c = some b → PySem.W.kitAny X.K (.ref C) [u1, u2] = some b ∧ ExcC X.K C)
    (hg : Gl X "isinstance" := by rfl)
    (hs1 : starEach [e1, e2] X.env = (false, eval e1 X.env) :: starEach [e2] X.env := by rfl) (hs2 : starEach [e2] X.env = (false, eval e2 X.env) :: starEach [] X.env := by rfl)
    (hst : starEach [e, .Tuple [e1, e2] j p1] X.env = (false, eval e X.env) :: starEach [.Tuple [e1, e2] j p1] X.env := by rfl) (hst2 : starEach [.Tuple [e1, e2] j p1] X.env = (false, eval (.Tuple [e1, e2] j p1) X.env) :: starEach [] X.env := by rfl) (hpl : (backTo pos (starEach [.Tuple [e1, e2] j p1] X.env)).any (·.1) = false := by rfl) :
    JE X (.Call (.Name "isinstance" p) [e, .Tuple [e1, e2] j p1] [] pos) (mIsE2 kx me) := by
  obtain ⟨te, pe, se⟩ := he.ex
  refine ⟨_, pe_callB call_isTT hg hm (by decide +kernel) (pa_cons pe (pa_cons (pe_tup (pa_cons pc1 (pa_cons pc2 pa_nil hs2) hs1)) pa_nil hst2) hst) (by decide) (by decide) hst hpl, fun P F0 qc F cell S σ H Q z S' R hz k => ?_⟩
  unfold mIsE2 at hz
  split at hz
  · rename_i c fs S1 e1
    split at hz
    · rename_i b hb
      cases hz
      refine se P F0 qc F cell S σ H _ _ S' R e1 fun v F1 H1 f1 R1 q1 => ?_
      obtain ⟨a, C, dd, vs, rfl, h1, h2, h3, h4⟩ := q1
      obtain ⟨y1, y2⟩ := hx c C b h1 hb
      refine ⟨by show 2 ≤ sizeLine; decide, fun tp hp => ?_⟩
      have ex : Ext F1 H1 F1 (upd H1 tp (.tup [v1, v2])) := Ext.aside R1.fh hp
      have R2 := R1.ext ex
      exact ⟨a, C, dd, tp, _, [v1, v2], [u1, u2], b, rfl, R2.fh _ _ h2, R2.fh _ _ h3, y2, upd_same, .cons hcl1 (.cons hcl2 .nil), y1, k _ F1 _ (f1.trans ex.f) R2 (.bl b)⟩
    · cases hz
  · cases hz
end
def kx2 (l m : List (Str × Bool)) : Str → Option Bool := fun c => match kx l c, kx m c with
  | some a, some b => some (a || b)
  | _, _ => none
section
variable {X : Cx} {e : Expr} {me : ME} {pos p p1 p2 p3 : Pos} {t1 t2 : Str}
/-- isinstance(e, (A, B)), own classes; e an error -/
theorem je_isX2 (l m : List (Str × Bool)) {j} (hm : X.mg "isinstance" = none) {C1 C2 : Addr} (hC1 : X.mg t1 = some (.ref C1)) (hC2 : X.mg t2 = some (.ref C2)) (he : JE X e me)
    (hx1 : KX X.K (fun C b => PySem.W.kitOne X.K (.ref C) (.ref C1) = some b ∧ ExcC X.K C) l) (hx2 : KX X.K (fun C b => PySem.W.kitOne X.K (.ref C) (.ref C2) = some b ∧ ExcC X.K C) m)
    (hg : Gl X "isinstance" := by rfl) (hg1 : Gl X t1 := by rfl) (hg2 : Gl X t2 := by rfl) (hd1 : (t1 == ("__debug__" : Str)) = false := by decide) (hd2 : (t2 == ("__debug__" : Str)) = false := by decide)
    (hs1 : starEach [.Name t1 p2, .Name t2 p3] X.env = (false, eval (.Name t1 p2) X.env) :: starEach [.Name t2 p3] X.env := by rfl) (hs2 : starEach [.Name t2 p3] X.env = (false, eval (.Name t2 p3) X.env) :: starEach [] X.env := by rfl)
    (hst : starEach [e, .Tuple [.Name t1 p2, .Name t2 p3] j p1] X.env = (false, eval e X.env) :: starEach [.Tuple [.Name t1 p2, .Name t2 p3] j p1] X.env := by rfl) (hst2 : starEach [.Tuple [.Name t1 p2, .Name t2 p3] j p1] X.env = (false, eval (.Tuple [.Name t1 p2, .Name t2 p3] j p1) X.env) :: starEach [] X.env := by rfl) (hpl : (backTo pos (starEach [.Tuple [.Name t1 p2, .Name t2 p3] j p1] X.env)).any (·.1) = false := by rfl) :
    JE X (.Call (.Name "isinstance" p) [e, .Tuple [.Name t1 p2, .Name t2 p3] j p1] [] pos) (mIsE2 (kx2 l m) me) :=
  je_isE2 hm he (pe_glob (v := .ref C1) hg1 hC1 rfl hd1) (.own C1) (pe_glob (v := .ref C2) hg2 hC2 rfl hd2) (.own C2) (fun c C b h1 h2 => by
    unfold kx2 at h2
    split at h2
    · rename_i a b' ha hb
      cases h2
      obtain ⟨y1, y2⟩ := hx1.hx c C a h1 ha
      obtain ⟨z1, z2⟩ := hx2.hx c C b' h1 hb
      refine ⟨?_, y2⟩
      unfold PySem.W.kitAny
      rw [y1]
      cases a
      · show PySem.W.kitAny X.K (.ref C) [.ref C2] = _
        unfold PySem.W.kitAny
        rw [z1]
        cases b' <;> rfl
      · rfl
    · cases h2) hg hs1 hs2 hst hst2 hpl
end
section
variable {X : Cx} {e : Expr} {me : ME} {pos p2 : Pos}
theorem jt_isNO {j} (he : JE X e me) : JT X (.Compare e [.Is] [.Constant .none j p2] pos) (tVal (mIsN me)) := by
  obtain ⟨te, pe, se⟩ := he.ex
  refine ⟨_, pt_cmpR op_isN1 pe pe_non (nomark _), snd_tcmp ?_⟩
  intro P F0 qc F cell S σ H Q z S' R hz k
  unfold mIsN at hz
  split at hz
  · rename_i d S1 e1
    cases hz
    refine se P F0 qc F cell S σ H _ _ S' R e1 fun v F1 H1 f1 R1 q1 => ⟨rfl, ?_⟩
    rw [dx_non (F := F1) (H := H1) (.inl q1)]
    exact k _ F1 H1 f1 R1 (.bl _)
  · rename_i o S1 e1
    cases hz
    refine se P F0 qc F cell S σ H _ _ S' R e1 fun v F1 H1 f1 R1 q1 => ⟨rfl, ?_⟩
    have : decide (v = V.non) = false := by
      cases o with
      | ns l => obtain ⟨a, rfl, _⟩ := q1; simp
      | ex c fs => obtain ⟨a, _, _, _, rfl, _⟩ := q1; simp
    rw [this]
    exact k _ F1 H1 f1 R1 (.bl _)
  · cases hz
theorem je_isNNO {j} (he : JE X e me) : JE X (.Compare e [.IsNot] [.Constant .none j p2] pos) (mIsNN me) := by
  obtain ⟨te, pe, se⟩ := he.ex
  refine ⟨_, pe_cmpR op_notN1 pe pe_non (nomark _), ?_⟩
  intro P F0 qc F cell S σ H Q z S' R hz k
  unfold mIsNN at hz
  split at hz
  · rename_i d S1 e1
    cases hz
    refine se P F0 qc F cell S σ H _ _ S' R e1 fun v F1 H1 f1 R1 q1 => ⟨rfl, ?_⟩
    rw [dx_non (F := F1) (H := H1) (.inl q1)]
    exact k _ F1 H1 f1 R1 (.bl _)
  · rename_i o S1 e1
    cases hz
    refine se P F0 qc F cell S σ H _ _ S' R e1 fun v F1 H1 f1 R1 q1 => ⟨rfl, ?_⟩
    have : decide (v = V.non) = false := by
      cases o with
      | ns l => obtain ⟨a, rfl, _⟩ := q1; simp
      | ex c fs => obtain ⟨a, _, _, _, rfl, _⟩ := q1; simp
    rw [this]
    exact k _ F1 H1 f1 R1 (.bl _)
  · cases hz
theorem jt_isNNO {j} (he : JE X e me) : JT X (.Compare e [.IsNot] [.Constant .none j p2] pos) (tVal (mIsNN me)) := by
  obtain ⟨te, pe, se⟩ := he.ex
  refine ⟨_, pt_cmpR op_notN1 pe pe_non (nomark _), snd_tcmp ?_⟩
  intro P F0 qc F cell S σ H Q z S' R hz k
  unfold mIsNN at hz
  split at hz
  · rename_i d S1 e1
    cases hz
    refine se P F0 qc F cell S σ H _ _ S' R e1 fun v F1 H1 f1 R1 q1 => ⟨rfl, ?_⟩
    rw [dx_non (F := F1) (H := H1) (.inl q1)]
    exact k _ F1 H1 f1 R1 (.bl _)
  · rename_i o S1 e1
    cases hz
    refine se P F0 qc F cell S σ H _ _ S' R e1 fun v F1 H1 f1 R1 q1 => ⟨rfl, ?_⟩
    have : decide (v = V.non) = false := by
      cases o with
      | ns l => obtain ⟨a, rfl, _⟩ := q1; simp
      | ex c fs => obtain ⟨a, _, _, _, rfl, _⟩ := q1; simp
    rw [this]
    exact k _ F1 H1 f1 R1 (.bl _)
  · cases hz
end
end VL

set_option Elab.async false
set_option linter.all false
set_option maxRecDepth 100000
set_option maxHeartbeats 4000000
/-! VL12: mirrors evaluated. -/
namespace VL
open PySem PySem.Spec PyProof.Rows L2
theorem ix_0 (n : Nat) : ixN (n + 1) 0 = some 0 := by unfold ixN; rw [if_pos (by omega), if_pos (by omega)]; rfl
theorem ix_nat {n k : Nat} (h : k < n) : ixN n (k : Int) = some k := by unfold ixN; rw [if_pos (by omega), if_pos (by omega)]; rfl
theorem ix_last (n : Nat) : ixN (n + 1) (-1) = some n := by unfold ixN; rw [if_neg (by omega), if_pos (by omega)]; congr 1; omega
theorem ix_int {n : Nat} {i : Int} (h0 : 0 ≤ i) (h : i < n) : ixN n i = some i.toNat := by unfold ixN; rw [if_pos h0, if_pos h]
theorem ltD_int (i j : Int) : ltD (.int i) (.int j) = some (.bool (decide (i < j))) := rfl
theorem leD_int (i j : Int) : leD (.int i) (.int j) = some (.bool (decide (i ≤ j))) := rfl
theorem gtD_int (i j : Int) : gtD (.int i) (.int j) = some (.bool (decide (j < i))) := rfl
theorem geD_int (i j : Int) : geD (.int i) (.int j) = some (.bool (decide (j ≤ i))) := rfl
theorem addD_int (i j : Int) : addD (.int i) (.int j) = some (.int (i + j)) := rfl
theorem addD_str {a b : Str} (h : a.length + b.length ≤ 100000) : addD (.str a) (.str b) = some (.str (a ++ b)) := if_pos h
theorem addD_list {a b : List PyData} (h : a.length + b.length ≤ 100000) : addD (.list a) (.list b) = some (.list (a ++ b)) := if_pos h
theorem addD_tuple {a b : List PyData} (h : a.length + b.length ≤ 100000) : addD (.tuple a) (.tuple b) = some (.tuple (a ++ b)) := if_pos h
theorem mulD_l {i j : Int} (h1 : -18446744073709551616 < i) (h2 : i < 18446744073709551616) : mulD (.int i) (.int j) = some (.int (i * j)) := if_pos (.inl ⟨h1, h2⟩)
theorem mulD_r {i j : Int} (h1 : -18446744073709551616 < j) (h2 : j < 18446744073709551616) : mulD (.int i) (.int j) = some (.int (i * j)) := if_pos (.inr ⟨h1, h2⟩)
theorem modD_pos {i j : Int} (h : 0 < j) : modD (.int i) (.int j) = some (.int (i % j)) := if_pos h
theorem fdivD_pos {i j : Int} (h : 0 < j) (h2 : j < 1073741824) : fdivD (.int i) (.int j) = some (.int (i / j)) := if_pos ⟨h, h2⟩
theorem powD_ok {i j : Int} (h : 0 ≤ j ∧ (Builtin.Int.intBits i : Int) * j ≤ 2 ^ 27) : powD (.int i) (.int j) = some (.int (i ^ j.toNat)) := if_pos h
end VL

set_option Elab.async false
set_option linter.all false
set_option maxRecDepth 100000
set_option maxHeartbeats 4000000
/-! VL13: plain facts: how long values are shown; loops of mirrors. -/
namespace VL
open PySem PySem.Spec PyProof.Rows L2

/-! ### a bound of what is shown -/
mutual
def big : PyData → Nat
  | .none => 5
  | .bool _ => 5
  | .int i => (toString i : Str).length
  | .str x => 10 * x.length + 2
  | .list xs => bigAll xs + 2
  | .tuple xs => bigAll xs + 3
  | .dict kvs => bigKv kvs + 2
def bigAll : List PyData → Nat
  | [] => 0
  | x :: xs => big x + 2 + bigAll xs
def bigKv : List (PyData × PyData) → Nat
  | [] => 0
  | (k, v) :: r => big k + big v + 4 + bigKv r
end
mutual
def okc : PyData → Bool
  | .str x => PyData.strOk x
  | .list xs | .tuple xs => okcAll xs
  | .dict kvs => okcKv kvs
  | .none | .bool _ | .int _ => true
def okcAll : List PyData → Bool
  | [] => true
  | x :: xs => okc x && okcAll xs
def okcKv : List (PyData × PyData) → Bool
  | [] => true
  | (k, v) :: r => okc k && okc v && okcKv r
end
theorem piled_listText : ∀ ts : List Str, (listText ts).length ≤ piled ts + 2
  | [] => by decide
  | t :: r => by
    have h := textFrom_length_pos r 1 (("[" : Str) ++ (if (0 : Nat) > 0 then ", " else "" : String) ++ t) (Nat.succ_pos 0)
    have e : ((("[" : Str) ++ (if (0 : Nat) > 0 then ", " else "" : String) ++ t)).length = 1 + t.length := by
      rw [strLen_append, strLen_append]
      rfl
    have hX : (listText (t :: r)).length = (textFrom 0 "[" (t :: r)).length + 1 := by
      show (textFrom 0 "[" (t :: r) ++ "]").length = _
      rw [strLen_append]
      rfl
    have hY : (textFrom 0 "[" (t :: r)).length = (textFrom 1 (("[" : Str) ++ (if (0 : Nat) > 0 then ", " else "" : String) ++ t) r).length := rfl
    rw [hX, hY, h, e, piled_cons]
    omega
theorem join_le (ts : List Str) : (Str.join ", " ts).length ≤ piled ts := by
  by_cases h : ts = []
  · subst h
    decide
  · have := join_length_add ts h
    omega
theorem piled_tupleText (ts : List Str) : (tupleText ts).length ≤ piled ts + 3 := by
  unfold tupleText
  rw [strLen_append, strLen_append]
  have e1 : ((("(" : String) : Str)).length = 1 := rfl
  have e3 : (((if ts.length == 1 then ",)" else ")" : String) : Str)).length ≤ 2 := by split <;> decide
  have := join_le ts
  omega
theorem piled_dictText (ts : List Str) : (dictText ts).length ≤ piled ts + 2 := by
  unfold dictText
  rw [strLen_append, strLen_append]
  have e1 : ((("{" : String) : Str)).length = 1 := rfl
  have e2 : ((("}" : String) : Str)).length = 1 := rfl
  have := join_le ts
  omega
theorem strOk_lt {x : Str} (h : PyData.strOk x = true) : ∀ c ∈ x.cps.toList, c < 0x110000 := by
  unfold PyData.strOk at h
  intro c hc
  rw [Array.all_eq_true'] at h
  have := h c (by simpa using hc)
  simpa using this
mutual
theorem shown_big : ∀ d : PyData, okc d = true → d.shown.length ≤ big d
  | .none, _ => by simp only [PyData.shown, big]; decide
  | .bool b, _ => by simp only [PyData.shown, big]; cases b <;> decide
  | .int i, _ => by simp only [PyData.shown, big]; exact Nat.le_refl _
  | .str x, h => by
    simp only [PyData.shown, big]
    exact StrLaws.reprText_len x fun c hc => Nat.lt_trans (strOk_lt (by simpa [okc] using h) c hc) (by decide)
  | .list xs, h => by
    simp only [PyData.shown, big]
    have := shown_bigAll xs (by simpa [okc] using h)
    have := piled_listText (PyData.shownAll xs)
    omega
  | .tuple xs, h => by
    simp only [PyData.shown, big]
    have := shown_bigAll xs (by simpa [okc] using h)
    have := piled_tupleText (PyData.shownAll xs)
    omega
  | .dict kvs, h => by
    simp only [PyData.shown, big]
    have := shown_bigKv kvs (by simpa [okc] using h)
    have := piled_dictText (PyData.shownKv kvs)
    omega
theorem shown_bigAll : ∀ xs : List PyData, okcAll xs = true → piled (PyData.shownAll xs) ≤ bigAll xs
  | [], _ => by simp only [PyData.shownAll, bigAll]; decide
  | x :: xs, h => by
    have h' : okc x = true ∧ okcAll xs = true := by simpa [okcAll] using h
    simp only [PyData.shownAll, bigAll, piled_cons]
    have := shown_big x h'.1
    have := shown_bigAll xs h'.2
    omega
theorem shown_bigKv : ∀ xs : List (PyData × PyData), okcKv xs = true → piled (PyData.shownKv xs) ≤ bigKv xs
  | [], _ => by simp only [PyData.shownKv, bigKv]; decide
  | (k, v) :: r, h => by
    have h' : (okc k = true ∧ okc v = true) ∧ okcKv r = true := by simpa [okcKv] using h
    simp only [PyData.shownKv, bigKv, piled_cons, strLen_append]
    have := shown_big k h'.1.1
    have := shown_big v h'.1.2
    have := shown_bigKv r h'.2
    have e2 : (((": " : String) : Str)).length = 2 := rfl
    omega
end
/-- a value that may be shown: not deeper than D, not longer than B -/
structure Fin (D B : Nat) (d : PyData) : Prop where
  s : d.showable = true
  o : okc d = true
  dp : d.depth ≤ D
  b : big d ≤ B
theorem Fin.mono {D B D' B' : Nat} {d : PyData} (h : Fin D B d) (h1 : D ≤ D') (h2 : B ≤ B') : Fin D' B' d := ⟨h.s, h.o, Nat.le_trans h.dp h1, Nat.le_trans h.b h2⟩
theorem Fin.repr {D B : Nat} {d : PyData} (h : Fin D B d) (h1 : D ≤ 60) (h2 : B ≤ 1000000) : reprF [d] = some (.str d.shown) := if_pos ⟨h.s, Nat.le_trans (shown_big d h.o) (Nat.le_trans h.b h2), Nat.le_trans h.dp h1⟩
/-- many values -/
structure FinA (D B : Nat) (ds : List PyData) : Prop where
  s : PyData.showableAll ds = true
  o : okcAll ds = true
  dp : PyData.depthAll ds ≤ D
  b : bigAll ds ≤ B
theorem FinA.nil {D B : Nat} : FinA D B [] := ⟨rfl, rfl, Nat.zero_le _, Nat.zero_le _⟩
theorem FinA.cons {D B C : Nat} {x : PyData} {xs : List PyData} (h : Fin D B x) (t : FinA D C xs) : FinA D (B + 2 + C) (x :: xs) :=
  ⟨by simp [PyData.showableAll, h.s, t.s], by simp [okcAll, h.o, t.o], by simp only [PyData.depthAll]; exact Nat.max_le.mpr ⟨h.dp, t.dp⟩, by simp only [bigAll]; have := h.b; have := t.b; omega⟩
theorem FinA.mono {D B D' B' : Nat} {d : List PyData} (h : FinA D B d) (h1 : D ≤ D') (h2 : B ≤ B') : FinA D' B' d := ⟨h.s, h.o, Nat.le_trans h.dp h1, Nat.le_trans h.b h2⟩
theorem FinA.append {D B C : Nat} : ∀ {xs ys : List PyData}, FinA D B xs → FinA D C ys → FinA D (B + C) (xs ++ ys)
  | [], ys, _, t => t.mono (Nat.le_refl _) (by omega)
  | x :: xs, ys, h, t => by
    have h1 : x.showable = true ∧ PyData.showableAll xs = true := by simpa [PyData.showableAll] using h.s
    have h2 : okc x = true ∧ okcAll xs = true := by simpa [okcAll] using h.o
    have h3 := h.dp
    simp only [PyData.depthAll] at h3
    have h4 := h.b
    simp only [bigAll] at h4
    have r := FinA.append (B := bigAll xs) (xs := xs) ⟨h1.2, h2.2, by omega, Nat.le_refl _⟩ t
    exact (FinA.cons (B := big x) ⟨h1.1, h2.1, by omega, Nat.le_refl _⟩ r).mono (Nat.le_refl _) (by omega)
theorem FinA.all {D B : Nat} (n : Nat) : ∀ {xs : List PyData}, xs.length ≤ n → (∀ x ∈ xs, Fin D B x) → FinA D (n * (B + 2)) xs
  | [], _, _ => .nil
  | x :: xs, hl, h => by
    cases n with
    | zero => simp at hl
    | succ n =>
      refine (FinA.cons (h x List.mem_cons_self) (FinA.all n (by simpa using hl) fun y hy => h y (List.mem_cons_of_mem _ hy))).mono (Nat.le_refl _) ?_
      rw [Nat.succ_mul]
      omega
theorem FinA.mem {D B : Nat} : ∀ {xs : List PyData}, FinA D B xs → ∀ x ∈ xs, Fin D B x
  | y :: xs, h, x, hx => by
    have h1 : y.showable = true ∧ PyData.showableAll xs = true := by simpa [PyData.showableAll] using h.s
    have h2 : okc y = true ∧ okcAll xs = true := by simpa [okcAll] using h.o
    have h3 := h.dp
    simp only [PyData.depthAll] at h3
    have h4 := h.b
    simp only [bigAll] at h4
    rcases List.mem_cons.mp hx with rfl | hx
    · exact ⟨h1.1, h2.1, by omega, by omega⟩
    · exact FinA.mem (xs := xs) ⟨h1.2, h2.2, by omega, by omega⟩ x hx
theorem FinA.len {D B : Nat} : ∀ {xs : List PyData}, FinA D B xs → 2 * xs.length ≤ B
  | [], h => Nat.zero_le _
  | y :: xs, h => by
    have h1 : y.showable = true ∧ PyData.showableAll xs = true := by simpa [PyData.showableAll] using h.s
    have h2 : okc y = true ∧ okcAll xs = true := by simpa [okcAll] using h.o
    have h3 := h.dp
    simp only [PyData.depthAll] at h3
    have h4 := h.b
    simp only [bigAll] at h4
    have := FinA.len (D := D) (B := bigAll xs) (xs := xs) ⟨h1.2, h2.2, by omega, Nat.le_refl _⟩
    rw [List.length_cons]
    omega
theorem FinA.sub {D B : Nat} {xs ys : List PyData} (h : FinA D B xs) (hs : ys.Sublist xs) : FinA D B ys := by
  induction hs generalizing B with
  | slnil => exact h
  | @cons l1 l2 a _ ih =>
    have h1 : a.showable = true ∧ PyData.showableAll l2 = true := by simpa [PyData.showableAll] using h.s
    have h2 : okc a = true ∧ okcAll l2 = true := by simpa [okcAll] using h.o
    have h3 := h.dp
    simp only [PyData.depthAll] at h3
    have h4 := h.b
    simp only [bigAll] at h4
    exact ih ⟨h1.2, h2.2, by omega, by omega⟩
  | @cons_cons l1 l2 a _ ih =>
    have h1 : a.showable = true ∧ PyData.showableAll l2 = true := by simpa [PyData.showableAll] using h.s
    have h2 : okc a = true ∧ okcAll l2 = true := by simpa [okcAll] using h.o
    have h3 := h.dp
    simp only [PyData.depthAll] at h3
    have h4 := h.b
    simp only [bigAll] at h4
    have r := ih (B := bigAll l2) ⟨h1.2, h2.2, by omega, Nat.le_refl _⟩
    exact (FinA.cons (B := big a) ⟨h1.1, h2.1, by omega, Nat.le_refl _⟩ r).mono (Nat.le_refl _) (by omega)
theorem FinA.list {D B : Nat} {xs : List PyData} (h : FinA D B xs) : Fin (D + 1) (B + 2) (.list xs) := ⟨by simpa [PyData.showable] using h.s, by simpa [okc] using h.o, by simp only [PyData.depth]; have := h.dp; omega, by simp only [big]; have := h.b; omega⟩
theorem FinA.tuple {D B : Nat} {xs : List PyData} (h : FinA D B xs) : Fin (D + 1) (B + 3) (.tuple xs) := ⟨by simpa [PyData.showable] using h.s, by simpa [okc] using h.o, by simp only [PyData.depth]; have := h.dp; omega, by simp only [big]; have := h.b; omega⟩
theorem FinA.of_list {D B : Nat} {xs : List PyData} (h : Fin D B (.list xs)) : FinA D B xs := ⟨by simpa [PyData.showable] using h.s, by simpa [okc] using h.o, by have := h.dp; simp only [PyData.depth] at this; omega, by have := h.b; simp only [big] at this; omega⟩
theorem FinA.of_tuple {D B : Nat} {xs : List PyData} (h : Fin D B (.tuple xs)) : FinA D B xs := ⟨by simpa [PyData.showable] using h.s, by simpa [okc] using h.o, by have := h.dp; simp only [PyData.depth] at this; omega, by have := h.b; simp only [big] at this; omega⟩
theorem Fin.dict1 {D B : Nat} {x : PyData} {z : Str} (hz : PyData.strOk z = true) (h : Fin D B x) : Fin (D + 1) (B + (10 * z.length + 8)) (.dict [(.str z, x)]) :=
  ⟨by simp [PyData.showable, PyData.showableKv, h.s], by simp [okc, okcKv, h.o, hz], by simp only [PyData.depth, PyData.depthKv]; have := h.dp; omega, by simp only [big, bigKv]; have := h.b; omega⟩
theorem Fin.str {D B : Nat} {z : Str} (hz : PyData.strOk z = true) (h : 10 * z.length + 2 ≤ B) : Fin D B (.str z) := ⟨rfl, by simpa [okc] using hz, by simp only [PyData.depth]; exact Nat.zero_le _, by simpa [big] using h⟩
theorem Fin.of_str {D B : Nat} {z : Str} (h : Fin D B (.str z)) : PyData.strOk z = true ∧ 10 * z.length + 2 ≤ B := ⟨by simpa [okc] using h.o, by simpa [big] using h.b⟩
theorem Fin.bool {D B : Nat} {b : Bool} (h : 5 ≤ B) : Fin D B (.bool b) := ⟨rfl, rfl, by simp only [PyData.depth]; exact Nat.zero_le _, by simpa [big] using h⟩
theorem Fin.none {D B : Nat} (h : 5 ≤ B) : Fin D B .none := ⟨rfl, rfl, by simp only [PyData.depth]; exact Nat.zero_le _, by simpa [big] using h⟩
/-- a look at a written value -/
def finC (D B : Nat) (d : PyData) : Bool := d.showable && okc d && decide (d.depth ≤ D) && decide (big d ≤ B)
theorem Fin.by {D B : Nat} {d : PyData} (h : finC D B d = true) : Fin D B d := by
  unfold finC at h
  simp only [Bool.and_eq_true, decide_eq_true_eq] at h
  exact ⟨h.1.1.1, h.1.1.2, h.1.2, h.2⟩

/-! ### loops -/
theorem forM_all {g : MG} {mb : MS} (I : Nat → Sl → Prop) : ∀ (ds : List PyData) (i : Nat) (S : Sl), I i S →
    (∀ (j : Nat) (d : PyData) (S : Sl), ds[j]? = some d → I (i + j) S → ∃ S1 S2, g d S = some S1 ∧ (mb S1 = some (.nx, S2) ∨ mb S1 = some (.ct, S2)) ∧ I (i + j + 1) S2) → ∃ S', forM g mb ds S = some (.nx, S') ∧ I (i + ds.length) S'
  | [], i, S, h, _ => ⟨S, rfl, h⟩
  | d :: ds, i, S, h, hs => by
    obtain ⟨S1, S2, e1, e2, h2⟩ := hs 0 d S rfl h
    obtain ⟨S', e3, h3⟩ := forM_all I ds (i + 1) S2 h2 fun j x S hx hI => by
      obtain ⟨T1, T2, q1, q2, q3⟩ := hs (j + 1) x S (by simpa using hx) (by rw [show i + (j + 1) = i + 1 + j by omega]; exact hI)
      exact ⟨T1, T2, q1, q2, by rw [show i + 1 + j + 1 = i + (j + 1) + 1 by omega]; exact q3⟩
    refine ⟨S', ?_, by rw [List.length_cons, show i + (ds.length + 1) = i + 1 + ds.length by omega]; exact h3⟩
    unfold forM
    rw [e1]
    rcases e2 with e2 | e2
    · simp only [e2]
      exact e3
    · simp only [e2]
      exact e3
/-- every turn ends as wanted, or the walk is left with r -/
theorem lcGo_all {g : MG} {mt : MT} {me : ME} {vs : List Nat} (I : Nat → Sl → List PyData → Prop) : ∀ (ds : List PyData) (i : Nat) (T : Sl) (acc : List PyData), I i T acc →
    (∀ (j : Nat) (d : PyData) (T : Sl) (acc : List PyData), ds[j]? = some d → I (i + j) T acc → ∃ T1 T2 T3 z, g d T = some T1 ∧ mt T1 = some (true, T2) ∧ me T2 = some (.v z, T3) ∧ acc.length < 100000 ∧ I (i + j + 1) (wp T3 vs) (acc ++ [z])) →
    ∃ acc' T', lcGo g mt me vs ds T acc = some (acc', T') ∧ I (i + ds.length) T' acc'
  | [], i, T, acc, h, _ => ⟨acc, T, rfl, h⟩
  | d :: ds, i, T, acc, h, hs => by
    obtain ⟨T1, T2, T3, z, e1, e2, e3, e4, h2⟩ := hs 0 d T acc rfl h
    obtain ⟨acc', T', e5, h3⟩ := lcGo_all I ds (i + 1) (wp T3 vs) (acc ++ [z]) h2 fun j x S ac hx hI => by
      obtain ⟨U1, U2, U3, y, q1, q2, q3, q4, q5⟩ := hs (j + 1) x S ac (by simpa using hx) (by rw [show i + (j + 1) = i + 1 + j by omega]; exact hI)
      exact ⟨U1, U2, U3, y, q1, q2, q3, q4, by rw [show i + 1 + j + 1 = i + (j + 1) + 1 by omega]; exact q5⟩
    refine ⟨acc', T', ?_, by rw [List.length_cons, show i + (ds.length + 1) = i + 1 + ds.length by omega]; exact h3⟩
    unfold lcGo
    rw [e1]
    simp only [e2, e3]
    rw [if_pos e4]
    exact e5
/-- a block whose slots stay -/
theorem lcGo_map {g : MG} {mt : MT} {me : ME} {vs : List Nat} {T : Sl} (f : PyData → PyData) : ∀ (ds : List PyData) (acc : List PyData), acc.length + ds.length ≤ 100000 →
    (∀ d ∈ ds, ∃ T1 T2 T3, g d T = some T1 ∧ mt T1 = some (true, T2) ∧ me T2 = some (.v (f d), T3) ∧ wp T3 vs = T) → lcGo g mt me vs ds T acc = some (acc ++ ds.map f, T)
  | [], acc, _, _ => by simp [lcGo]
  | d :: ds, acc, hl, hs => by
    obtain ⟨T1, T2, T3, e1, e2, e3, e4⟩ := hs d List.mem_cons_self
    rw [List.length_cons] at hl
    unfold lcGo
    rw [e1]
    simp only [e2, e3]
    rw [if_pos (by omega), e4, lcGo_map f ds (acc ++ [f d]) (by rw [List.length_append, List.length_singleton]; omega) fun x hx => hs x (List.mem_cons_of_mem _ hx)]
    simp

/-! ### single operations -/
theorem isi_str (d : PyData) : isiF "str" d = some (.bool (match d with | .str _ => true | _ => false)) := by
  cases d <;> (show (kitB _ "str").map PyData.bool = _; rfl)
end VL

set_option Elab.async false
set_option linter.all false
set_option maxRecDepth 100000
set_option maxHeartbeats 4000000
/-! VL14: what a mirror comes to. -/
namespace VL
open PySem PySem.Spec PyProof.Rows L2
def Run {α : Type} (r : Option (α × Sl)) (Q : α → Sl → Prop) : Prop := ∃ a S, r = some (a, S) ∧ Q a S
theorem run_eq {α : Type} {r : Option (α × Sl)} {a : α} {S : Sl} {Q : α → Sl → Prop} (h : r = some (a, S)) (q : Q a S) : Run r Q := ⟨a, S, h, q⟩
theorem Run.mono {α : Type} {r : Option (α × Sl)} {Q Q' : α → Sl → Prop} (h : Run r Q) (k : ∀ a S, Q a S → Q' a S) : Run r Q' := by
  obtain ⟨a, S, e, q⟩ := h
  exact ⟨a, S, e, k a S q⟩
section
variable {S S1 : Sl} {m n mb : MS} {me ma mc : ME} {mx : MX} {mt : MT} {mi : MI} {g : MG} {Q : Fl → Sl → Prop} {as : List SL} {k : Nat}
theorem run_def {P : PyData → List SL → Prop} (h : Run (m (startS k as)) fun fl S => ∃ d as', fl = .rt (.v d) ∧ asOut as S = some as' ∧ P d as') : ∃ d as', defM k m as = some (d, as') ∧ P d as' := by
  obtain ⟨fl, S, e, d, as', rfl, ho, p⟩ := h
  refine ⟨d, as', ?_, p⟩
  unfold defM
  rw [e]
  simp only [ho]
theorem run_seq (h : Run (m S) fun fl S1 => match fl with
    | .nx => Run (n S1) Q
    | fl => Q fl S1) : Run (mSeq m n S) Q := by
  obtain ⟨fl, S1, e, q⟩ := h
  unfold mSeq
  rw [e]
  cases fl with
  | nx => exact q
  | bk => exact ⟨_, _, rfl, q⟩
  | ct => exact ⟨_, _, rfl, q⟩
  | rt r => exact ⟨_, _, rfl, q⟩
  | rz c fs => exact ⟨_, _, rfl, q⟩
theorem run_seq_nx (h : m S = some (.nx, S1)) (q : Run (n S1) Q) : Run (mSeq m n S) Q := run_seq ⟨_, _, h, q⟩
theorem run_one (h : Run (m S) Q) : Run (mSeq m mNil S) Q := by
  obtain ⟨fl, S1, e, q⟩ := h
  unfold mSeq
  rw [e]
  cases fl with
  | nx => exact ⟨_, _, rfl, q⟩
  | bk => exact ⟨_, _, rfl, q⟩
  | ct => exact ⟨_, _, rfl, q⟩
  | rt r => exact ⟨_, _, rfl, q⟩
  | rz c fs => exact ⟨_, _, rfl, q⟩
theorem run_nil (q : Q .nx S) : Run (mNil S) Q := ⟨_, _, rfl, q⟩
theorem run_if {b : Bool} (h : mt S = some (b, S1)) (q : Run ((if b = true then m else n) S1) Q) : Run (mIfS mt m n S) Q := by
  unfold mIfS
  rw [h]
  cases b
  · exact q
  · exact q
theorem run_ifE (h : Run (mt S) fun b S1 => Run ((if b = true then m else n) S1) Q) : Run (mIfS mt m n S) Q := by
  obtain ⟨b, S1, e, q⟩ := h
  exact run_if e q
theorem run_for {ds : List PyData} (I : Nat → Sl → Prop) (hi : mi S = some (ds, S1)) (h0 : I 0 S1)
    (hs : ∀ (j : Nat) (d : PyData) (S : Sl), ds[j]? = some d → I j S → ∃ S2, g d S = some S2 ∧ Run (mb S2) fun fl S3 => (fl = .nx ∨ fl = .ct) ∧ I (j + 1) S3) (q : ∀ S', I ds.length S' → Q .nx S') : Run (mFor mi g mb S) Q := by
  obtain ⟨S', e, h⟩ := forM_all (g := g) (mb := mb) I ds 0 S1 h0 fun j d S hd hI => by
    rw [Nat.zero_add] at hI
    obtain ⟨S2, e1, fl, S3, e2, hfl, hI'⟩ := hs j d S hd hI
    refine ⟨S2, S3, e1, ?_, by rw [Nat.zero_add]; exact hI'⟩
    rcases hfl with rfl | rfl
    · exact .inl e2
    · exact .inr e2
  rw [Nat.zero_add] at h
  refine ⟨.nx, S', ?_, q S' h⟩
  unfold mFor
  rw [hi]
  exact e
/-- a walk that may be left by a return (or a break): I while it goes on, Q where it is left -/
theorem forM_some {g : MG} {mb : MS} (I : Nat → Sl → Prop) {Q : Fl → Sl → Prop} : ∀ (ds : List PyData) (i : Nat) (S : Sl), I i S →
    (∀ (j : Nat) (d : PyData) (S : Sl), ds[j]? = some d → I (i + j) S → ∃ S2, g d S = some S2 ∧ Run (mb S2) fun fl S3 => match fl with
      | .nx => I (i + j + 1) S3
      | .ct => I (i + j + 1) S3
      | .bk => Q .nx S3
      | .rt r => Q (.rt r) S3
      | .rz c fs => Q (.rz c fs) S3) → (∀ S', I (i + ds.length) S' → Q .nx S') → Run (forM g mb ds S) Q
  | [], i, S, h, _, k => ⟨_, _, rfl, k S h⟩
  | d :: ds, i, S, h, hs, k => by
    obtain ⟨S2, e1, fl, S3, e2, h2⟩ := hs 0 d S rfl h
    have rest : I (i + 1) S3 → Run (forM g mb ds S3) Q := fun hI => forM_some I ds (i + 1) S3 hI (fun j x S hx hI => by
      have q := hs (j + 1) x S (by simpa using hx) (by rw [show i + (j + 1) = i + 1 + j by omega]; exact hI)
      rw [show i + 1 + j + 1 = i + (j + 1) + 1 by omega]
      exact q) fun S' hI => k S' (by rw [List.length_cons, show i + (ds.length + 1) = i + 1 + ds.length by omega]; exact hI)
    unfold forM
    rw [e1]
    cases fl with
    | nx =>
      simp only [e2]
      exact rest h2
    | ct =>
      simp only [e2]
      exact rest h2
    | bk =>
      simp only [e2]
      exact ⟨_, _, rfl, h2⟩
    | rt r =>
      simp only [e2]
      exact ⟨_, _, rfl, h2⟩
    | rz c fs =>
      simp only [e2]
      exact ⟨_, _, rfl, h2⟩
theorem run_for_some {ds : List PyData} (I : Nat → Sl → Prop) (hi : mi S = some (ds, S1)) (h0 : I 0 S1)
    (hs : ∀ (j : Nat) (d : PyData) (S : Sl), ds[j]? = some d → I j S → ∃ S2, g d S = some S2 ∧ Run (mb S2) fun fl S3 => match fl with
      | .nx => I (j + 1) S3
      | .ct => I (j + 1) S3
      | .bk => Q .nx S3
      | .rt r => Q (.rt r) S3
      | .rz c fs => Q (.rz c fs) S3) (q : ∀ S', I ds.length S' → Q .nx S') : Run (mFor mi g mb S) Q := by
  unfold mFor
  rw [hi]
  refine forM_some (g := g) (mb := mb) I ds 0 S1 h0 (fun j d S hd hI => ?_) fun S' hI => q S' (by rw [Nat.zero_add] at hI; exact hI)
  rw [Nat.zero_add] at hI ⊢
  exact hs j d S hd hI
theorem run_forI (h : Run (mi S) fun ds S1 => Run (forM g mb ds S1) Q) : Run (mFor mi g mb S) Q := by
  obtain ⟨ds, S1, e, q⟩ := h
  unfold mFor
  rw [e]
  exact q
theorem run_forM {ds : List PyData} (I : Nat → Sl → Prop) (h0 : I 0 S)
    (hs : ∀ (j : Nat) (d : PyData) (S : Sl), ds[j]? = some d → I j S → ∃ S2, g d S = some S2 ∧ Run (mb S2) fun fl S3 => (fl = .nx ∨ fl = .ct) ∧ I (j + 1) S3) (q : ∀ S', I ds.length S' → Q .nx S') : Run (forM g mb ds S) Q := by
  obtain ⟨S', e, h⟩ := forM_all (g := g) (mb := mb) I ds 0 S h0 fun j d S hd hI => by
    rw [Nat.zero_add] at hI
    obtain ⟨S2, e1, fl, S3, e2, hfl, hI'⟩ := hs j d S hd hI
    refine ⟨S2, S3, e1, ?_, by rw [Nat.zero_add]; exact hI'⟩
    rcases hfl with rfl | rfl
    · exact .inl e2
    · exact .inr e2
  rw [Nat.zero_add] at h
  exact ⟨.nx, S', e, q S' h⟩
theorem run_rng1 {me : ME} {QI : List PyData → Sl → Prop} (h : Run (me S) fun r S1 => ∃ j, r = .v (.int j) ∧ -4611686018427387904 ≤ j ∧ j < 4611686018427387904 ∧ QI (rngD 0 j.toNat) S1) : Run (mRng1 (aCons me aNil) S) QI := by
  obtain ⟨r, S1, e, j, rfl, h1, h2, q⟩ := h
  refine ⟨_, _, ?_, q⟩
  simp only [mRng1, aCons, aNil, e]
  exact if_pos ⟨h1, h2⟩
theorem run_lcI {vs : List Nat} {me : ME} {QX : SL → Sl → Prop} (h : Run (mi S) fun ds S1 => ownOk S1 vs = true ∧ Run (lcGo g mt me vs ds (wp S1 vs) []) fun acc T => QX (.c acc) (unwp S1 T vs)) : Run (xLc mi g mt me vs S) QX := by
  obtain ⟨ds, S1, e, ho, acc, T, e2, q⟩ := h
  refine ⟨.c acc, _, ?_, q⟩
  simp only [xLc, e, ho, if_true, e2]
theorem run_lcGo {vs : List Nat} {me : ME} {ds : List PyData} {QL : List PyData → Sl → Prop} (I : Nat → Sl → List PyData → Prop) (h0 : I 0 S [])
    (hs : ∀ (j : Nat) (d : PyData) (T : Sl) (acc : List PyData), ds[j]? = some d → I j T acc → acc.length < 100000 ∧ ∃ T1, g d T = some T1 ∧ Run (mt T1) fun b T2 => b = true ∧ Run (me T2) fun r T3 => ∃ z, r = .v z ∧ I (j + 1) (wp T3 vs) (acc ++ [z]))
    (q : ∀ T acc, I ds.length T acc → QL acc T) : Run (lcGo g mt me vs ds S []) QL := by
  obtain ⟨acc', T', e, h⟩ := lcGo_all (g := g) (mt := mt) (me := me) (vs := vs) I ds 0 S [] h0 fun j d T acc hd hI => by
    rw [Nat.zero_add] at hI
    obtain ⟨hl, T1, e1, b, T2, e2, rfl, r, T3, e3, z, rfl, hI'⟩ := hs j d T acc hd hI
    exact ⟨T1, T2, T3, z, e1, e2, e3, hl, by rw [Nat.zero_add]; exact hI'⟩
  rw [Nat.zero_add] at h
  exact ⟨acc', T', e, q T' acc' h⟩
theorem rngD_len (lo : Int) (n : Nat) : (rngD lo n).length = n := by unfold rngD; rw [List.length_map, List.length_range]
theorem run_ret (h : Run (me S) fun r S1 => ∃ d, r = .v d ∧ Q (.rt (.v d)) S1) : Run (mRet me S) Q := by
  obtain ⟨r, S1, e, d, rfl, q⟩ := h
  unfold mRet
  rw [e]
  exact ⟨_, _, rfl, q⟩
theorem run_set {i : Nat} (h : Run (me S) fun r S1 => ∃ d, r = .v d ∧ Q .nx (S1.set i (some (.v d)))) : Run (mSet i me S) Q := by
  obtain ⟨r, S1, e, d, rfl, q⟩ := h
  unfold mSet
  rw [e]
  exact ⟨_, _, rfl, q⟩
theorem run_setX {i : Nat} (h : Run (mx S) fun r S1 => (∃ d, r = .v d ∧ Q .nx (S1.set i (some (.v d)))) ∨ ∃ ds, r = .c ds ∧ Q .nx (S1.set i (some (.c ds)))) : Run (mSetX i mx S) Q := by
  obtain ⟨r, S1, e, h⟩ := h
  unfold mSetX
  rw [e]
  rcases h with ⟨d, rfl, q⟩ | ⟨d, rfl, q⟩
  · exact ⟨_, _, rfl, q⟩
  · exact ⟨_, _, rfl, q⟩
variable {QE : SV → Sl → Prop} {QX : SL → Sl → Prop} {QB : Bool → Sl → Prop} {f : List PyData → Option PyData} {h2 : PyData → PyData → Option PyData}
theorem run_call1 (h : Run (me S) fun r S1 => ∃ d z, deref S1 r = some d ∧ f [d] = some z ∧ QE (.v z) S1) : Run (mCall f (aCons me aNil) S) QE := by
  obtain ⟨r, S1, e, d, z, hd, hf, q⟩ := h
  refine ⟨.v z, S1, ?_, q⟩
  simp only [mCall, aCons, aNil, e, derefs, hd, hf]
theorem run_bin (h : Run (ma S) fun r1 S1 => Run (mc S1) fun r2 S2 => ∃ d e z, deref S2 r1 = some d ∧ deref S2 r2 = some e ∧ h2 d e = some z ∧ QE (.v z) S2) : Run (mBin h2 ma mc S) QE := by
  obtain ⟨r1, S1, e1, r2, S2, e2, d, e, z, hd, he, hz, q⟩ := h
  refine ⟨.v z, S2, ?_, q⟩
  simp only [mBin, e1, e2, hd, he, hz]
theorem run_tell (h : Run (mx S) fun r S1 => (∃ d, r = .v d ∧ QE (.v d) S1) ∨ ∃ ds, r = .c ds ∧ QE (.v (.list ds)) S1) : Run (mTell mx S) QE := by
  obtain ⟨r, S1, e, h⟩ := h
  unfold mTell
  rw [e]
  rcases h with ⟨d, rfl, q⟩ | ⟨d, rfl, q⟩
  · exact ⟨_, _, rfl, q⟩
  · exact ⟨_, _, rfl, q⟩
theorem run_tval (h : Run (me S) fun r S1 => ∃ b, r = .v (.bool b) ∧ QB b S1) : Run (tVal me S) QB := by
  obtain ⟨r, S1, e, b, rfl, q⟩ := h
  unfold tVal
  rw [e]
  exact ⟨_, _, rfl, q⟩
theorem run_tnot (h : Run (mt S) fun b S1 => QB (!b) S1) : Run (tNotM mt S) QB := by
  obtain ⟨r, S1, e, q⟩ := h
  unfold tNotM
  rw [e]
  exact ⟨_, _, rfl, q⟩
/-- every turn gives one -/
theorem run_lc {vs : List Nat} {ds : List PyData} (I : Nat → Sl → List PyData → Prop) (hi : mi S = some (ds, S1)) (ho : ownOk S1 vs = true) (h0 : I 0 (wp S1 vs) [])
    (hs : ∀ (j : Nat) (d : PyData) (T : Sl) (acc : List PyData), ds[j]? = some d → I j T acc → acc.length < 100000 ∧ ∃ T1, g d T = some T1 ∧ Run (mt T1) fun b T2 => b = true ∧ Run (me T2) fun r T3 => ∃ z, r = .v z ∧ I (j + 1) (wp T3 vs) (acc ++ [z]))
    (q : ∀ T acc, I ds.length T acc → QX (.c acc) (unwp S1 T vs)) : Run (xLc mi g mt me vs S) QX := by
  obtain ⟨acc', T', e, h⟩ := lcGo_all (g := g) (mt := mt) (me := me) (vs := vs) I ds 0 (wp S1 vs) [] h0 fun j d T acc hd hI => by
    rw [Nat.zero_add] at hI
    obtain ⟨hl, T1, e1, b, T2, e2, rfl, r, T3, e3, z, rfl, hI'⟩ := hs j d T acc hd hI
    exact ⟨T1, T2, T3, z, e1, e2, e3, hl, by rw [Nat.zero_add]; exact hI'⟩
  rw [Nat.zero_add] at h
  refine ⟨.c acc', _, ?_, q T' acc' h⟩
  simp only [xLc, hi, ho, if_true, e]
/-- a block whose slots stay -/
theorem run_lc_map {vs : List Nat} {ds : List PyData} (F : PyData → PyData) (hi : mi S = some (ds, S1)) (ho : ownOk S1 vs = true) (hl : ds.length ≤ 100000)
    (hs : ∀ d ∈ ds, ∃ T1 T2 T3, g d (wp S1 vs) = some T1 ∧ mt T1 = some (true, T2) ∧ me T2 = some (.v (F d), T3) ∧ wp T3 vs = wp S1 vs) (q : QX (.c (ds.map F)) (unwp S1 (wp S1 vs) vs)) : Run (xLc mi g mt me vs S) QX := by
  refine ⟨.c (ds.map F), _, ?_, q⟩
  simp only [xLc, hi, ho, if_true, lcGo_map F ds [] (by simpa using hl) hs, List.nil_append]
end
end VL

set_option Elab.async false
set_option linter.all false
set_option maxRecDepth 100000
set_option maxHeartbeats 4000000
/-! VL15: texts by their signs; more of what a mirror comes to. -/
namespace VL
open PySem PySem.Spec PyProof.Rows L2
/-- the signs of a text -/
abbrev sg (z : Str) : List Nat := z.cps.toList
theorem len_sg (z : Str) : z.length = (sg z).length := by
  show z.cps.size = z.cps.toList.length
  rw [Array.length_toList]
theorem okS_iff {z : Str} : PyData.strOk z = true ↔ ∀ c ∈ sg z, c < 1114112 := by
  unfold PyData.strOk
  rw [Array.all_eq_true']
  constructor
  · intro h c hc
    have := h c (by simpa using hc)
    simpa using this
  · intro h c hc
    have := h c (by simpa using hc)
    simpa using this
theorem sg_ext {a b : Str} (h : sg a = sg b) : a = b := by
  cases a
  cases b
  congr 1
  exact Array.toList_inj.mp h
theorem sg_append (a b : Str) : sg (a ++ b) = sg a ++ sg b := TL.tl_append a b
theorem sg_mk (l : List Nat) : sg ⟨l.toArray⟩ = l := rfl
theorem len_append (a b : Str) : (a ++ b).length = a.length + b.length := by rw [len_sg, sg_append, List.length_append, ← len_sg, ← len_sg]
theorem ok_append {a b : Str} (h : PyData.strOk a = true) (h' : PyData.strOk b = true) : PyData.strOk (a ++ b) = true := by
  rw [okS_iff] at h h' ⊢
  intro c hc
  rw [sg_append] at hc
  rcases List.mem_append.mp hc with q | q
  · exact h c q
  · exact h' c q
theorem cut_sub (z : Str) (lo hi : Option Int) : (sg (cutS z lo hi)).Sublist (sg z) := by
  unfold cutS
  rw [sg_mk]
  exact (List.take_sublist _ _).trans (List.drop_sublist _ _)
theorem cut_len (z : Str) (lo hi : Option Int) : (cutS z lo hi).length ≤ z.length := by
  rw [len_sg, len_sg z]
  exact (cut_sub z lo hi).length_le
theorem ok_sub {a b : Str} (h : (sg a).Sublist (sg b)) (hb : PyData.strOk b = true) : PyData.strOk a = true := by
  rw [okS_iff] at hb ⊢
  exact fun c hc => hb c (h.subset hc)
theorem sg_rev (z : Str) : sg (revS z) = (sg z).reverse := rfl
theorem rev_len (z : Str) : (revS z).length = z.length := by rw [len_sg, sg_rev, List.length_reverse, ← len_sg]
theorem ok_rev {z : Str} (h : PyData.strOk z = true) : PyData.strOk (revS z) = true := by
  rw [okS_iff] at h ⊢
  intro c hc
  rw [sg_rev] at hc
  exact h c (List.mem_reverse.mp hc)
theorem sg_sign (c : Nat) : sg (⟨#[c]⟩ : Str) = [c] := rfl
theorem ok_sign {z : Str} {c : Nat} (h : PyData.strOk z = true) (hc : c ∈ sg z) : PyData.strOk (⟨#[c]⟩ : Str) = true := by
  rw [okS_iff] at h ⊢
  intro d hd
  rw [sg_sign] at hd
  rw [List.mem_singleton.mp hd]
  exact h c hc
theorem sg_join : ∀ (y : Str) (zs : List Str), sg (Str.join y zs) = (List.intercalate (sg y) (zs.map sg))
  | y, [] => rfl
  | y, [x] => by simp [Str.join, List.intercalate]
  | y, x :: z :: r => by
    show sg (x ++ y ++ Str.join y (z :: r)) = _
    rw [sg_append, sg_append, sg_join y (z :: r)]
    simp [List.intercalate, List.intersperse]
theorem join_len (y : Str) : ∀ zs : List Str, (Txt.join y zs).length ≤ (zs.map (·.length)).sum + zs.length * y.length := by
  intro zs
  rw [TL.join_eq]
  induction zs with
  | nil =>
    rw [len_sg]
    exact Nat.zero_le _
  | cons x r ih =>
    cases r with
    | nil =>
      show x.length ≤ _
      simp
    | cons z r =>
      show (x ++ y ++ Str.join y (z :: r)).length ≤ _
      rw [len_append, len_append]
      simp only [List.map_cons, List.sum_cons, List.length_cons] at ih ⊢
      have : (r.length + 1 + 1) * y.length = (r.length + 1) * y.length + y.length := by rw [Nat.add_mul (r.length + 1) 1]; omega
      omega
theorem join_mem (y : Str) : ∀ (zs : List Str) (c : Nat), c ∈ sg (Txt.join y zs) → c ∈ sg y ∨ ∃ z ∈ zs, c ∈ sg z := by
  intro zs c
  rw [TL.join_eq]
  induction zs with
  | nil => intro h; exact absurd (show c ∈ ([] : List Nat) from h) (by simp)
  | cons x r ih =>
    cases r with
    | nil => exact fun h => .inr ⟨x, by simp, h⟩
    | cons z r =>
      intro h
      have h : c ∈ sg (x ++ y ++ Str.join y (z :: r)) := h
      rw [sg_append, sg_append] at h
      rcases List.mem_append.mp h with h | h
      · rcases List.mem_append.mp h with h | h
        · exact .inr ⟨x, by simp, h⟩
        · exact .inl h
      · rcases ih h with q | ⟨u, hu, q⟩
        · exact .inl q
        · exact .inr ⟨u, List.mem_cons_of_mem _ hu, q⟩
theorem ok_join {y : Str} {zs : List Str} (hy : PyData.strOk y = true) (hz : ∀ z ∈ zs, PyData.strOk z = true) : PyData.strOk (Txt.join y zs) = true := by
  rw [okS_iff] at hy ⊢
  intro c hc
  rcases join_mem y zs c hc with q | ⟨z, h1, h2⟩
  · exact hy c q
  · exact okS_iff.mp (hz z h1) c h2
/-- signs, joined by nothing -/
theorem join_signs (cs : List Nat) : Txt.join "" (cs.map fun c => (⟨#[c]⟩ : Str)) = ⟨cs.toArray⟩ := by
  rw [TL.join_eq]
  refine sg_ext ?_
  rw [sg_mk]
  induction cs with
  | nil => rfl
  | cons c r ih =>
    cases r with
    | nil => rfl
    | cons d r =>
      show sg ((⟨#[c]⟩ : Str) ++ "" ++ Str.join "" ((d :: r).map fun c => (⟨#[c]⟩ : Str))) = _
      have ih' : sg (Str.join "" ((d :: r).map fun c => (⟨#[c]⟩ : Str))) = sg ⟨(d :: r).toArray⟩ := ih
      rw [sg_append, sg_append, ih']
      rfl
theorem foldl_rep (x : List Nat) : ∀ (n : Nat) (a : Array Nat), ((List.replicate n x.toArray).foldl (· ++ ·) a).toList = a.toList ++ (List.replicate n x).flatten
  | 0, a => by simp
  | n + 1, a => by
    rw [List.replicate_succ, List.foldl_cons, foldl_rep x n]
    simp [List.replicate_succ]
theorem sg_mul (x : Str) {n : Int} (h : 0 ≤ n) : sg (Txt.mul x n) = (List.replicate n.toNat (sg x)).flatten := by
  unfold Txt.mul
  by_cases h1 : n < 1
  · rw [if_pos h1]
    have : n = 0 := by omega
    subst this
    rfl
  · rw [if_neg h1]
    by_cases h2 : (n == 1 || x.length == 0) = true
    · rw [if_pos h2]
      simp only [Bool.or_eq_true, beq_iff_eq] at h2
      rcases h2 with h2 | h2
      · subst h2
        simp
      · have : sg x = [] := by
          rw [len_sg] at h2
          exact List.eq_nil_of_length_eq_zero h2
        rw [this]
        simp
    · rw [if_neg h2]
      have := foldl_rep (sg x) n.toNat #[]
      simpa using this
theorem mul_len (x : Str) {n : Int} (h : 0 ≤ n) : (Txt.mul x n).length = n.toNat * x.length := by
  rw [len_sg, sg_mul x h, List.length_flatten, List.map_replicate, List.sum_replicate_nat, ← len_sg]
theorem ok_mul {x : Str} {n : Int} (h : 0 ≤ n) (hx : PyData.strOk x = true) : PyData.strOk (Txt.mul x n) = true := by
  rw [okS_iff] at hx ⊢
  intro c hc
  rw [sg_mul x h] at hc
  obtain ⟨l, hl, hc⟩ := List.mem_flatten.mp hc
  rw [(List.mem_replicate.mp hl).2] at hc
  exact hx c hc

/-! ### rules -/
section
variable {S S1 : Sl} {m n mb : MS} {me ma mc : ME} {mx my : MX} {mas : MA} {ms : MXs} {mt : MT} {mi : MI} {g : MG} {Q : Fl → Sl → Prop} {QE : SV → Sl → Prop} {QA : List SV → Sl → Prop} {QX : SL → Sl → Prop} {QXs : List SL → Sl → Prop} {QB : Bool → Sl → Prop} {f : List PyData → Option PyData}
theorem run_anil (q : QA [] S) : Run (aNil S) QA := ⟨_, _, rfl, q⟩
theorem run_acons (h : Run (me S) fun r S1 => Run (mas S1) fun rs S2 => QA (r :: rs) S2) : Run (aCons me mas S) QA := by
  obtain ⟨r, S1, e, rs, S2, e2, q⟩ := h
  refine ⟨_, _, ?_, q⟩
  simp only [aCons, e, e2]
theorem run_tup (h : Run (mas S) fun rs S1 => ∃ ds, stables rs = some ds ∧ ds.length ≤ 100000 ∧ QE (.v (.tuple ds)) S1) : Run (mTup mas S) QE := by
  obtain ⟨rs, S1, e, ds, h1, h2, q⟩ := h
  refine ⟨_, _, ?_, q⟩
  simp only [mTup, e, h1]
  exact if_pos h2
theorem run_lst (h : Run (mas S) fun rs S1 => ∃ ds, stables rs = some ds ∧ ds.length ≤ 100000 ∧ QE (.v (.list ds)) S1) : Run (mLst mas S) QE := by
  obtain ⟨rs, S1, e, ds, h1, h2, q⟩ := h
  refine ⟨_, _, ?_, q⟩
  simp only [mLst, e, h1]
  exact if_pos h2
theorem run_xlst (h : Run (mas S) fun rs S1 => ∃ ds, stables rs = some ds ∧ ds.length ≤ 100000 ∧ QX (.c ds) S1) : Run (xLst mas S) QX := by
  obtain ⟨rs, S1, e, ds, h1, h2, q⟩ := h
  refine ⟨_, _, ?_, q⟩
  simp only [xLst, e, h1]
  exact if_pos h2
theorem run_call (h : Run (mas S) fun rs S1 => ∃ ds z, derefs S1 rs = some ds ∧ f ds = some z ∧ QE (.v z) S1) : Run (mCall f mas S) QE := by
  obtain ⟨rs, S1, e, ds, z, h1, h2, q⟩ := h
  refine ⟨_, _, ?_, q⟩
  simp only [mCall, e, h1, h2]
theorem run_unp (h : Run (me S) fun r S1 => ∃ d S2, r = .v d ∧ g d S1 = some S2 ∧ Q .nx S2) : Run (mUnp me g S) Q := by
  obtain ⟨r, S1, e, d, S2, rfl, h1, q⟩ := h
  refine ⟨_, _, ?_, q⟩
  simp only [mUnp, e, h1]
theorem run_par {is : List Nat} (h : Run (ms S) fun rs S1 => rs.length = is.length ∧ Q .nx (setAll is rs S1)) : Run (mPar is ms S) Q := by
  obtain ⟨rs, S1, e, h1, q⟩ := h
  refine ⟨_, _, ?_, q⟩
  simp only [mPar, e]
  exact if_pos h1
theorem run_xsnil (q : QXs [] S) : Run (xsNil S) QXs := ⟨_, _, rfl, q⟩
theorem run_xscons (h : Run (mx S) fun r S1 => ((∃ d, r = .v d) ∨ ∃ d, r = .c d) ∧ Run (ms S1) fun rs S2 => QXs (r :: rs) S2) : Run (xsCons mx ms S) QXs := by
  obtain ⟨r, S1, e, h1, rs, S2, e2, q⟩ := h
  refine ⟨r :: rs, S2, ?_, q⟩
  rcases h1 with ⟨d, rfl⟩ | ⟨d, rfl⟩ <;> simp only [xsCons, e, e2]
theorem run_mV (h : Run (me S) fun r S1 => ∃ d, r = .v d ∧ QX (.v d) S1) : Run (mV me S) QX := by
  obtain ⟨r, S1, e, d, rfl, q⟩ := h
  refine ⟨_, _, ?_, q⟩
  simp only [mV, e]
theorem run_put {j : Nat} (h : Run (me S) fun r S1 => ∃ d, r = .v d ∧ Run (ma S1) fun r2 S2 => ∃ (k : Int) (ys xs : List PyData) (i : Nat), r2 = .v (.int k) ∧ heldAt S1 j = some ys ∧ heldAt S2 j = some xs ∧ ixN xs.length k = some i ∧ Q .nx (putAt S2 j (xs.set i d))) : Run (mPut j ma me S) Q := by
  obtain ⟨r, S1, e, d, rfl, r2, S2, e2, k, ys, xs, i, rfl, h1, h2, h3, q⟩ := h
  refine ⟨_, _, ?_, q⟩
  simp only [mPut, e, e2, h1, h2, h3]
theorem run_app {j : Nat} {ys : List PyData} (h0 : heldAt S j = some ys) (h : Run (me S) fun r S1 => ∃ d xs, r = .v d ∧ heldAt S1 j = some xs ∧ xs.length < 100000 ∧ Q .nx (putAt S1 j (xs ++ [d]))) : Run (mApp j me S) Q := by
  obtain ⟨r, S1, e, d, xs, rfl, h1, h2, q⟩ := h
  refine ⟨_, _, ?_, q⟩
  simp only [mApp, h0, e, h1]
  exact if_pos h2
theorem run_ins {j : Nat} {ys : List PyData} (h0 : heldAt S j = some ys) (h : Run (ma S) fun r0 S0 => ∃ k : Int, r0 = .v (.int k) ∧ Run (me S0) fun r S1 => ∃ d xs, r = .v d ∧ heldAt S1 j = some xs ∧ xs.length < 100000 ∧ 0 ≤ k ∧ k ≤ 100000 ∧ Q .nx (putAt S1 j (xs.take k.toNat ++ [d] ++ xs.drop k.toNat))) : Run (mIns j ma me S) Q := by
  obtain ⟨r0, S0, e0, k, rfl, r, S1, e, d, xs, rfl, h1, h2, h3, h4, q⟩ := h
  refine ⟨_, _, ?_, q⟩
  simp only [mIns, h0, e0, e, h1]
  exact if_pos ⟨h2, h3, h4⟩
theorem run_tand {mu : MT} (h : Run (mt S) fun b S1 => match b with
    | true => Run (mu S1) QB
    | false => QB false S1) : Run (tAndM mt mu S) QB := by
  obtain ⟨b, S1, e, q⟩ := h
  unfold tAndM
  rw [e]
  cases b
  · exact ⟨_, _, rfl, q⟩
  · exact q
theorem run_tor {mu : MT} (h : Run (mt S) fun b S1 => match b with
    | true => QB true S1
    | false => Run (mu S1) QB) : Run (tOrM mt mu S) QB := by
  obtain ⟨b, S1, e, q⟩ := h
  unfold tOrM
  rw [e]
  cases b
  · exact q
  · exact ⟨_, _, rfl, q⟩
theorem run_mand (h : Run (ma S) fun r S1 => ∃ b, r = .v (.bool b) ∧ match b with
    | true => Run (mc S1) QE
    | false => QE (.v (.bool false)) S1) : Run (mAnd ma mc S) QE := by
  obtain ⟨r, S1, e, b, rfl, q⟩ := h
  unfold mAnd
  rw [e]
  cases b
  · exact ⟨_, _, rfl, q⟩
  · exact q
theorem run_mor (h : Run (ma S) fun r S1 => ∃ b, r = .v (.bool b) ∧ match b with
    | true => QE (.v (.bool true)) S1
    | false => Run (mc S1) QE) : Run (mOr ma mc S) QE := by
  obtain ⟨r, S1, e, b, rfl, q⟩ := h
  unfold mOr
  rw [e]
  cases b
  · exact q
  · exact ⟨_, _, rfl, q⟩
theorem run_callF {nn : Nat} {mf : MF} {rs : List SV} {as as' : List SL} {d : PyData} {S2 : Sl} (h : mas S = some (rs, S1)) (hn : rs.length = nn) (nd : (ptrs rs).Nodup) (ha : argsOf S1 rs = some as) (hm : mf as = some (d, as')) (hp : putBack S1 rs as' = some S2) (q : QE (.v d) S2) : Run (mCallF nn mf mas S) QE := by
  refine ⟨_, _, ?_, q⟩
  simp only [mCallF, h]
  rw [if_pos ⟨hn, nd⟩]
  simp only [ha, hm, hp]
theorem run_popAt {j : Nat} {ys : List PyData} (h0 : heldAt S j = some ys) (h : Run (me S) fun r S1 => ∃ (k : Int) (xs : List PyData) (i : Nat), r = .v (.int k) ∧ heldAt S1 j = some xs ∧ ixN xs.length k = some i ∧ xs.length ≤ 100000 ∧ Q .nx (putAt S1 j (xs.eraseIdx i))) : Run (mPopAt j me S) Q := by
  obtain ⟨r, S1, e, k, xs, i, rfl, h1, h2, h3, q⟩ := h
  refine ⟨_, _, ?_, q⟩
  simp only [mPopAt, h0, e, h1, h2]
  exact if_pos h3
theorem run_frz {i : Nat} {xs : List PyData} (h0 : S[i]? = some (some (.c xs))) (h : Run (m (S.set i (some (.v (.list xs))))) Q) : Run (mFrz i m S) Q := by
  unfold mFrz
  simp only [h0]
  exact h
end
theorem joinD {y : Str} {zs : List Str} (h : (zs.map (·.length)).sum + zs.length * y.length ≤ 100000) : joinF y (.list (zs.map .str)) = some (.str (Txt.join y zs)) := by
  unfold joinF
  simp only [strsOf_map]
  exact if_pos h
theorem eqD_int (i j : Int) : eqDD (.int i) (.int j) = some (.bool (decide (i = j))) := rfl
theorem neD_int (i j : Int) : neDD (.int i) (.int j) = some (.bool (!decide (i = j))) := rfl
theorem shp_str {a : Str} (h : PyData.strOk a = true) : SeqAt.shaped (.str a) = true := by
  unfold SeqAt.shaped
  simp [PyData.canLay0, PyData.depth, h]
theorem eqD_strs (a b : Str) : eqDD (.str a) (.str b) = some (.bool (decide (a = b))) := rfl
theorem neD_strs (a b : Str) : neDD (.str a) (.str b) = some (.bool (!decide (a = b))) := rfl
theorem eqD_str {a b : Str} (h : PyData.strOk a = true) (h' : PyData.strOk b = true) : eqDD (.str a) (.str b) = some (.bool (decide (a = b))) := rfl
theorem neD_str {a b : Str} (h : PyData.strOk a = true) (h' : PyData.strOk b = true) : neDD (.str a) (.str b) = some (.bool (!decide (a = b))) := rfl
theorem eqD_tupE (xs : List PyData) : eqDD (.tuple xs) (.tuple []) = some (.bool xs.isEmpty) := by
  unfold eqDD eqD
  rfl
theorem FinA.set {D B C : Nat} {d : PyData} (h : Fin D C d) : ∀ {xs : List PyData} (i : Nat), FinA D B xs → FinA D (B + C + 2) (xs.set i d)
  | [], _, t => t.mono (Nat.le_refl _) (by omega)
  | x :: xs, i, t => by
    have h1 : x.showable = true ∧ PyData.showableAll xs = true := by simpa [PyData.showableAll] using t.s
    have h2 : okc x = true ∧ okcAll xs = true := by simpa [okcAll] using t.o
    have h3 := t.dp
    simp only [PyData.depthAll] at h3
    have h4 := t.b
    simp only [bigAll] at h4
    have tl : FinA D (bigAll xs) xs := ⟨h1.2, h2.2, by omega, Nat.le_refl _⟩
    cases i with
    | zero => exact (FinA.cons h tl).mono (Nat.le_refl _) (by omega)
    | succ i => exact (FinA.cons (B := big x) ⟨h1.1, h2.1, by omega, Nat.le_refl _⟩ (FinA.set h i tl)).mono (Nat.le_refl _) (by omega)
theorem FinA.strs {B D : Nat} {rs : List Str} (h : FinA D B (rs.map .str)) : FinA 0 B (rs.map .str) := ⟨h.s, h.o, by
  clear h
  induction rs with
  | nil => exact Nat.le_refl _
  | cons x r ih =>
    simp only [List.map_cons, PyData.depthAll, PyData.depth]
    omega, h.b⟩
theorem FinA.lens {D B : Nat} : ∀ {rs : List Str}, FinA D B (rs.map .str) → 10 * (rs.map (·.length)).sum + 4 * rs.length ≤ B
  | [], _ => Nat.zero_le _
  | x :: r, h => by
    have h1 : (PyData.str x).showable = true ∧ PyData.showableAll (r.map .str) = true := by simpa [PyData.showableAll] using h.s
    have h2 : okc (.str x) = true ∧ okcAll (r.map .str) = true := by simpa [okcAll] using h.o
    have h3 := h.dp
    simp only [List.map_cons, PyData.depthAll] at h3
    have h4 := h.b
    simp only [List.map_cons, bigAll, big] at h4
    have := FinA.lens (D := D) (B := bigAll (r.map .str)) (rs := r) ⟨h1.2, h2.2, by omega, Nat.le_refl _⟩
    simp only [List.map_cons, List.sum_cons, List.length_cons]
    omega
theorem sum_mem {x : Str} : ∀ {rs : List Str}, x ∈ rs → x.length ≤ (rs.map (·.length)).sum
  | y :: r, h => by
    simp only [List.map_cons, List.sum_cons]
    rcases List.mem_cons.mp h with rfl | h
    · omega
    · have := sum_mem h
      omega
end VL

set_option Elab.async false
set_option linter.all false
set_option maxRecDepth 100000
set_option maxHeartbeats 4000000
/-! VL21: comprehensions and loops of mirrors as equations; slices of texts. -/
namespace VL
open PySem PySem.Spec PyProof.Rows L2
theorem fng_noneM {P : Program} {w : World} {K : PySem.W.Frag} {mg : Str → Option Value} {base : Heap} {CX : CXT} {k n : Nat} {f : Addr} {fd : FuncData} {ps : List Str} : FnG P w K mg base CX k f fd ps (spM K n fun _ => none) :=
  ⟨fun vs H Q E h => h.1.trans (by obtain ⟨_, F, as, d, as', _, _, h, _⟩ := h; cases h), fun A outer s H args us vs Q E _ _ _ _ _ h => (by obtain ⟨_, F, as, d, as', _, _, h, _⟩ := h; cases h)⟩
theorem fng_noneX {P : Program} {w : World} {K : PySem.W.Frag} {mg : Str → Option Value} {base : Heap} {CX : CXT} {k n : Nat} {f : Addr} {fd : FuncData} {ps : List Str} : FnG P w K mg base CX k f fd ps (spX K n fun _ => none) :=
  ⟨fun vs H Q E h => h.1.trans (by obtain ⟨_, F, as, d, as', _, _, h, _⟩ := h; cases h), fun A outer s H args us vs Q E _ _ _ _ _ h => (by obtain ⟨_, F, as, d, as', _, _, h, _⟩ := h; cases h)⟩
theorem unwp_wp (S : Sl) : ∀ vs : List Nat, unwp S (wp S vs) vs = S := by
  intro vs
  have key : ∀ (vs : List Nat) (T : Sl), T.length = S.length → (∀ i, i ∉ vs → T[i]? = S[i]?) → unwp S T vs = S := by
    intro vs
    induction vs with
    | nil =>
      intro T hl h
      exact List.ext_getElem? fun i => h i (by simp)
    | cons v vs ih =>
      intro T hl h
      refine List.ext_getElem? fun i => ?_
      unfold unwp
      by_cases q : v = i
      · subst q
        by_cases hv : v < S.length
        · rw [List.getElem?_set_self (by rw [unwp_length, hl]; exact hv)]
          rw [List.getElem?_eq_getElem hv]
          rfl
        · rw [List.getElem?_eq_none (by rw [List.length_set, unwp_length, hl]; omega), List.getElem?_eq_none (by omega)]
      · rw [List.getElem?_set_ne q]
        by_cases hi : i ∈ vs
        · by_cases hv : i < S.length
          · have aux : ∀ (us : List Nat), i ∈ us → (unwp S T us)[i]? = S[i]? := by
              intro us
              induction us with
              | nil => intro z; cases z
              | cons u us ih2 =>
                intro z
                unfold unwp
                by_cases e : u = i
                · subst e
                  rw [List.getElem?_set_self (by rw [unwp_length, hl]; exact hv), List.getElem?_eq_getElem hv]
                  rfl
                · rw [List.getElem?_set_ne e]
                  exact ih2 ((List.mem_cons.mp z).elim (fun y => absurd y.symm e) id)
            exact aux vs hi
          · rw [List.getElem?_eq_none (by rw [unwp_length, hl]; omega), List.getElem?_eq_none (by omega)]
        · have aux : ∀ (us : List Nat), i ∉ us → (unwp S T us)[i]? = T[i]? := by
            intro us
            induction us with
            | nil => intro _; rfl
            | cons u us ih2 =>
              intro z
              unfold unwp
              rw [List.getElem?_set_ne (show ¬ u = i from fun e => z (by rw [e]; exact List.mem_cons_self))]
              exact ih2 fun y => z (List.mem_cons_of_mem _ y)
          rw [aux vs hi]
          exact h i fun z => (List.mem_cons.mp z).elim (fun y => q y.symm) hi
  refine key vs _ (wp_length S vs) fun i hi => ?_
  have aux : ∀ (us : List Nat), i ∉ us → (wp S us)[i]? = S[i]? := by
    intro us
    induction us with
    | nil => intro _; rfl
    | cons u us ih2 =>
      intro z
      unfold wp
      rw [List.getElem?_set_ne (show ¬ u = i from fun e => z (by rw [e]; exact List.mem_cons_self))]
      exact ih2 fun y => z (List.mem_cons_of_mem _ y)
  exact aux vs hi
section
variable {S S1 : Sl} {mi : MI} {g : MG} {mt : MT} {me : ME} {mb : MS} {vs : List Nat} {ds : List PyData} {i : Nat}
theorem xlc_map (F : PyData → PyData) (hi : mi S = some (ds, S1)) (ho : ownOk S1 vs = true) (hl : ds.length ≤ 100000)
    (hs : ∀ d ∈ ds, ∃ T1, g d (wp S1 vs) = some T1 ∧ mt T1 = some (true, T1) ∧ me T1 = some (.v (F d), T1) ∧ wp T1 vs = wp S1 vs) : xLc mi g mt me vs S = some (.c (ds.map F), S1) := by
  simp only [xLc, hi, ho, if_true, lcGo_map F ds [] (by simpa using hl) (fun d hd => by
    obtain ⟨T1, h1, h2, h3, h4⟩ := hs d hd
    exact ⟨T1, T1, T1, h1, h2, h3, h4⟩), List.nil_append, unwp_wp]
/-- [e for x in ..], slots stay -/
theorem lc1 (F : PyData → PyData) (hi : mi S = some (ds, S1)) (ho : ownOk S1 [i] = true) (hl : ds.length ≤ 100000)
    (hs : ∀ d ∈ ds, me (S1.set i (some (.v d))) = some (.v (F d), S1.set i (some (.v d)))) : xLc mi (gSet i) tYesM me [i] S = some (.c (ds.map F), S1) :=
  xlc_map F hi ho hl fun d hd => ⟨S1.set i (some (.v d)), by show some ((S1.set i none).set i _) = _; rw [List.set_set], rfl, hs d hd, by show (S1.set i _).set i none = S1.set i none; rw [List.set_set]⟩
theorem lcGo_flt {T : Sl} (p : PyData → Bool) (F : PyData → PyData) : ∀ (ds acc : List PyData), acc.length + ds.length ≤ 100000 →
    (∀ d ∈ ds, ∃ T1, g d T = some T1 ∧ mt T1 = some (p d, T1) ∧ (p d = true → me T1 = some (.v (F d), T1)) ∧ wp T1 vs = T) → lcGo g mt me vs ds T acc = some (acc ++ (ds.filter p).map F, T)
  | [], acc, _, _ => by simp [lcGo]
  | d :: ds, acc, hl, hs => by
    obtain ⟨T1, e1, e2, e3, e4⟩ := hs d List.mem_cons_self
    rw [List.length_cons] at hl
    unfold lcGo
    rw [e1]
    cases hp : p d with
    | false =>
      rw [hp] at e2
      simp only [e2, e4]
      rw [lcGo_flt p F ds acc (by omega) fun x hx => hs x (List.mem_cons_of_mem _ hx), List.filter_cons_of_neg (by rw [hp]; exact Bool.false_ne_true)]
    | true =>
      rw [hp] at e2
      simp only [e2, e3 hp]
      rw [if_pos (by omega), e4, lcGo_flt p F ds (acc ++ [F d]) (by rw [List.length_append, List.length_singleton]; omega) fun x hx => hs x (List.mem_cons_of_mem _ hx), List.filter_cons_of_pos hp, List.map_cons, List.append_assoc]
      rfl
/-- [e for x in .. if t], slots stay -/
theorem lcf1 (p : PyData → Bool) (F : PyData → PyData) (hi : mi S = some (ds, S1)) (ho : ownOk S1 [i] = true) (hl : ds.length ≤ 100000)
    (ht : ∀ d ∈ ds, mt (S1.set i (some (.v d))) = some (p d, S1.set i (some (.v d)))) (hs : ∀ d ∈ ds, p d = true → me (S1.set i (some (.v d))) = some (.v (F d), S1.set i (some (.v d)))) : xLc mi (gSet i) mt me [i] S = some (.c ((ds.filter p).map F), S1) := by
  have e := lcGo_flt (g := gSet i) (mt := mt) (me := me) (vs := [i]) (T := wp S1 [i]) p F ds [] (by simpa using hl) fun d hd => ⟨S1.set i (some (.v d)), by show some ((S1.set i none).set i _) = _; rw [List.set_set], ht d hd, hs d hd, by show (S1.set i _).set i none = S1.set i none; rw [List.set_set]⟩
  simp only [xLc, hi, ho, if_true, e, List.nil_append, unwp_wp]
/-- a walk that ends at the first that isn't as it should be -/
theorem forM_find (ok : PyData → Bool) (fl : PyData → Fl) (hfl : ∀ d, (∃ r, fl d = .rt r) ∨ ∃ c fs, fl d = .rz c fs) (Z : Sl → Prop) : ∀ (ds : List PyData) (S : Sl), (∀ d ∈ ds, ∀ S, Z S → ∃ S1 S2, g d S = some S1 ∧ Z S2 ∧ mb S1 = some (if ok d = true then .nx else fl d, S2)) → Z S →
    ∃ S', Z S' ∧ forM g mb ds S = some (match ds.find? (fun d => !ok d) with
      | none => .nx
      | some d => fl d, S')
  | [], S, _, h => ⟨S, h, rfl⟩
  | d :: ds, S, hs, h => by
    obtain ⟨S1, S2, e1, h2, e2⟩ := hs d List.mem_cons_self S h
    unfold forM
    rw [e1]
    cases ho : ok d with
    | true =>
      rw [ho, if_pos rfl] at e2
      obtain ⟨S', h3, e3⟩ := forM_find ok fl hfl Z ds S2 (fun x hx => hs x (List.mem_cons_of_mem _ hx)) h2
      refine ⟨S', h3, ?_⟩
      simp only [e2]
      rw [e3, List.find?_cons_of_neg (by rw [ho]; exact Bool.false_ne_true)]
    | false =>
      rw [ho, if_neg Bool.false_ne_true] at e2
      refine ⟨S2, h2, ?_⟩
      rw [List.find?_cons_of_pos (by rw [ho]; rfl)]
      rcases hfl d with ⟨r, hr⟩ | ⟨c, fs, hr⟩
      · rw [hr] at e2
        simp only [e2, hr]
      · rw [hr] at e2
        simp only [e2, hr]
theorem for_find (ok : PyData → Bool) (fl : PyData → Fl) (hfl : ∀ d, (∃ r, fl d = .rt r) ∨ ∃ c fs, fl d = .rz c fs) (Z : Sl → Prop) (hi : mi S = some (ds, S1)) (hs : ∀ d ∈ ds, ∀ S, Z S → ∃ S1 S2, g d S = some S1 ∧ Z S2 ∧ mb S1 = some (if ok d = true then .nx else fl d, S2)) (h : Z S1) :
    ∃ S', Z S' ∧ mFor mi g mb S = some (match ds.find? (fun d => !ok d) with
      | none => .nx
      | some d => fl d, S') := by
  obtain ⟨S', h1, h2⟩ := forM_find ok fl hfl Z ds S1 hs h
  exact ⟨S', h1, by unfold mFor; rw [hi]; exact h2⟩
/-- a walk through all, by an invariant -/
theorem for_all (I : Nat → Sl → Prop) (hi : mi S = some (ds, S1)) (h0 : I 0 S1) (hs : ∀ (j : Nat) (d : PyData) (S : Sl), ds[j]? = some d → I j S → ∃ S1 S2, g d S = some S1 ∧ (mb S1 = some (.nx, S2) ∨ mb S1 = some (.ct, S2)) ∧ I (j + 1) S2) :
    ∃ S', mFor mi g mb S = some (.nx, S') ∧ I ds.length S' := by
  obtain ⟨S', e, h⟩ := forM_all (g := g) (mb := mb) I ds 0 S1 h0 fun j d S hd hI => by
    rw [Nat.zero_add] at hI ⊢
    exact hs j d S hd hI
  rw [Nat.zero_add] at h
  refine ⟨S', ?_, h⟩
  unfold mFor
  rw [hi]
  exact e
/-- [e for x in ..], by an invariant of the slots -/
theorem lc_all (I : Nat → Sl → List PyData → Prop) (hi : mi S = some (ds, S1)) (ho : ownOk S1 vs = true) (hl : ds.length ≤ 100000) (h0 : I 0 (wp S1 vs) [])
    (hs : ∀ (j : Nat) (d : PyData) (T : Sl) (acc : List PyData), ds[j]? = some d → I j T acc → ∃ T1 T2 z, g d T = some T1 ∧ mt T1 = some (true, T1) ∧ me T1 = some (.v z, T2) ∧ I (j + 1) (wp T2 vs) (acc ++ [z])) :
    ∃ acc T, xLc mi g mt me vs S = some (.c acc, unwp S1 T vs) ∧ acc.length = ds.length ∧ I ds.length T acc := by
  obtain ⟨acc, T, e, h⟩ := lcGo_all (g := g) (mt := mt) (me := me) (vs := vs) (fun j T acc => I j T acc ∧ acc.length = j) ds 0 (wp S1 vs) [] ⟨h0, rfl⟩ fun j d T acc hd hI => by
    rw [Nat.zero_add] at hI ⊢
    obtain ⟨T1, T2, z, e1, e2, e3, h3⟩ := hs j d T acc hd hI.1
    have := (List.getElem?_eq_some_iff.mp hd).1
    exact ⟨T1, T1, T2, z, e1, e2, e3, by rw [hI.2]; omega, h3, by rw [List.length_append, List.length_singleton, hI.2]⟩
  rw [Nat.zero_add] at h
  refine ⟨acc, T, ?_, h.2, h.1⟩
  simp only [xLc, hi, ho, if_true, e]
end
theorem map_bool (f : PyData → Bool) (xs : List PyData) : (xs.map fun d => PyData.bool (f d)) = (xs.map f).map .bool := by rw [List.map_map]; rfl
theorem all_id {α : Type} (f : α → Bool) (l : List α) : (l.map f).all id = l.all f := by
  rw [List.all_map]
  rfl
theorem any_id {α : Type} (f : α → Bool) (l : List α) : (l.map f).any id = l.any f := by
  rw [List.any_map]
  rfl
theorem allF_map (f : PyData → Bool) (xs : List PyData) : allF [.list (xs.map fun d => PyData.bool (f d))] = some (.bool (xs.all f)) := by
  rw [map_bool]
  show (boolsOf _).map _ = _
  rw [boolsOf_map, ← all_id]
  rfl
theorem anyF_map (f : PyData → Bool) (xs : List PyData) : anyF [.list (xs.map fun d => PyData.bool (f d))] = some (.bool (xs.any f)) := by
  rw [map_bool]
  show (boolsOf _).map _ = _
  rw [boolsOf_map, ← any_id]
  rfl
/-- truths of data, not to be written out -/
def blist (f : PyData → Bool) (xs : List PyData) : List PyData := xs.map fun d => .bool (f d)
theorem allF_blist (f : PyData → Bool) (xs : List PyData) : allF [.list (blist f xs)] = some (.bool (xs.all f)) := allF_map f xs
theorem anyF_blist (f : PyData → Bool) (xs : List PyData) : anyF [.list (blist f xs)] = some (.bool (xs.any f)) := anyF_map f xs
theorem lcb {S S1 : Sl} {mi : MI} {me : ME} {ds : List PyData} {i : Nat} (f : PyData → Bool) (hi : mi S = some (ds, S1)) (ho : ownOk S1 [i] = true) (hl : ds.length ≤ 100000)
    (hs : ∀ d ∈ ds, me (S1.set i (some (.v d))) = some (.v (.bool (f d)), S1.set i (some (.v d)))) : xLc mi (gSet i) tYesM me [i] S = some (.c (blist f ds), S1) := lc1 (fun d => .bool (f d)) hi ho hl hs
/-- data by a function, not to be written out -/
def mapD (F : PyData → PyData) (xs : List PyData) : List PyData := xs.map F
theorem lcm {S S1 : Sl} {mi : MI} {me : ME} {ds : List PyData} {i : Nat} (F : PyData → PyData) (hi : mi S = some (ds, S1)) (ho : ownOk S1 [i] = true) (hl : ds.length ≤ 100000)
    (hs : ∀ d ∈ ds, me (S1.set i (some (.v d))) = some (.v (F d), S1.set i (some (.v d)))) : xLc mi (gSet i) tYesM me [i] S = some (.c (mapD F ds), S1) := lc1 F hi ho hl hs
theorem mapD_length (F : PyData → PyData) (xs : List PyData) : (mapD F xs).length = xs.length := List.length_map ..
theorem tupleF_list (xs : List PyData) : tupleF [.list xs] = some (.tuple xs) := rfl
theorem tupleF_tuple (xs : List PyData) : tupleF [.tuple xs] = some (.tuple xs) := rfl
theorem listF_tuple (xs : List PyData) : listF [.tuple xs] = some (.list xs) := rfl
theorem listF_list (xs : List PyData) : listF [.list xs] = some (.list xs) := rfl
theorem lenF_str {z : Str} (h : z.length ≤ 100000) : lenF [.str z] = some (.int z.length) := if_pos h
theorem rngD_length (lo : Int) (n : Nat) : (rngD lo n).length = n := by unfold rngD; rw [List.length_map, List.length_range]
theorem rngD_get {lo : Int} {n j : Nat} {d : PyData} (h : (rngD lo n)[j]? = some d) : j < n ∧ d = .int (lo + j) := by
  unfold rngD at h
  rw [List.getElem?_map] at h
  obtain ⟨k, hk, rfl⟩ := Option.map_eq_some_iff.mp h
  obtain ⟨h1, h2⟩ := List.getElem?_eq_some_iff.mp hk
  rw [List.length_range] at h1
  rw [List.getElem_range] at h2
  subst h2
  exact ⟨h1, rfl⟩
theorem rngD_mem {lo : Int} {n : Nat} {d : PyData} (h : d ∈ rngD lo n) : ∃ j : Nat, j < n ∧ d = .int (lo + j) := by
  obtain ⟨j, hj⟩ := List.mem_iff_getElem?.mp h
  exact ⟨j, rngD_get hj⟩
theorem signsD_length (z : Str) : (signsD z).length = z.length := by unfold signsD; rw [List.length_map, len_sg]
theorem signsD_all (z : Str) (f : Nat → Bool) (F : PyData → Bool) (h : ∀ c, F (.str ⟨#[c]⟩) = f c) : (signsD z).all F = (sg z).all f := by
  unfold signsD
  rw [List.all_map]
  congr 1
  funext c
  exact h c
theorem enumD_length (ds : List PyData) : (enumD ds).length = ds.length := by unfold enumD; rw [List.length_mapIdx]
theorem enumD_mem {ds : List PyData} {d : PyData} (h : d ∈ enumD ds) : ∃ (i : Nat) (x : PyData), d = .tuple [.int (i : Nat), x] ∧ ds[i]? = some x := by
  obtain ⟨j, hj⟩ := List.mem_iff_getElem?.mp h
  unfold enumD at hj
  rw [List.getElem?_mapIdx] at hj
  obtain ⟨x, hx, rfl⟩ := Option.map_eq_some_iff.mp hj
  exact ⟨j, x, rfl, hx⟩
theorem enumD_get {ds : List PyData} {j : Nat} {d : PyData} (h : (enumD ds)[j]? = some d) : ∃ x, d = .tuple [.int (j : Nat), x] ∧ ds[j]? = some x := by
  unfold enumD at h
  rw [List.getElem?_mapIdx] at h
  obtain ⟨x, hx, rfl⟩ := Option.map_eq_some_iff.mp h
  exact ⟨x, rfl, hx⟩
/-! ### texts -/
def txt (l : List Nat) : Str := ⟨l.toArray⟩
theorem sg_txt (l : List Nat) : sg (txt l) = l := rfl
theorem txt_len (l : List Nat) : (txt l).length = l.length := by rw [len_sg]; rfl
theorem txt_sg (z : Str) : txt (sg z) = z := sg_ext rfl
theorem txt_nil (l : List Nat) : ((txt l) = "") ↔ l = [] := by
  constructor
  · intro h
    have : sg (txt l) = sg "" := by rw [h]
    exact this.trans (by decide +kernel)
  · rintro rfl
    exact sg_ext (by decide +kernel)
theorem txt_append (a b : List Nat) : txt a ++ txt b = txt (a ++ b) := sg_ext (by rw [sg_append]; rfl)
theorem txt_inj {a b : List Nat} (h : txt a = txt b) : a = b := by
  have : sg (txt a) = sg (txt b) := by rw [h]
  exact this
theorem cutS_txt (l : List Nat) (lo hi : Option Int) : cutS (txt l) lo hi = txt (cutL l lo hi) := by
  unfold cutS cutL
  rw [txt_len]
  rfl
theorem cutL_take {α : Type} (l : List α) (k : Nat) : cutL l none (some (k : Int)) = l.take k := by
  unfold cutL
  rw [HT.sIx_nat, HT.sIx_none, List.drop_zero, Nat.sub_zero]
  exact (List.take_eq_take_min).symm
theorem cutL_drop {α : Type} (l : List α) (k : Nat) : cutL l (some (k : Int)) none = l.drop k := by
  unfold cutL
  rw [HT.sIx_nat, HT.sIx_none]
  by_cases h : k ≤ l.length
  · rw [Nat.min_eq_left h, List.take_of_length_le (by rw [List.length_drop]; exact Nat.le_refl _)]
  · rw [Nat.min_eq_right (by omega), Nat.sub_self, List.take_zero, List.drop_eq_nil_of_le (by omega)]
theorem cutL_from {α : Type} (l : List α) (a b : Nat) : cutL l (some (a : Int)) (some (b : Int)) = (l.drop a).take (b - a) := by
  unfold cutL
  rw [HT.sIx_nat, HT.sIx_nat]
  by_cases h : a ≤ l.length
  · rw [Nat.min_eq_left h]
    by_cases h2 : b ≤ l.length
    · rw [Nat.min_eq_left h2]
    · rw [Nat.min_eq_right (by omega), List.take_of_length_le (by rw [List.length_drop]; exact Nat.le_refl _), List.take_of_length_le (by rw [List.length_drop]; omega)]
  · rw [Nat.min_eq_right (show l.length ≤ a by omega), List.drop_eq_nil_of_le (Nat.le_refl _), List.drop_eq_nil_of_le (by omega), List.take_nil, List.take_nil]
theorem sIx_m1 (n d : Nat) : HT.sIx n d (some (-1)) = n - 1 := by
  show (if (-1 : Int) < 0 then ((-1 : Int) + (n : Int)).toNat else min (-1 : Int).toNat n) = _
  rw [if_pos (by decide)]
  omega
theorem sIx_1 (n d : Nat) : HT.sIx n d (some 1) = min 1 n := HT.sIx_nat n d 1
theorem cutL_inner {α : Type} (l : List α) : cutL l (some 1) (some (-1)) = l.tail.dropLast := by
  unfold cutL
  rw [sIx_m1, sIx_1, List.dropLast_eq_take, List.length_tail, ← List.drop_one]
  by_cases h : 1 ≤ l.length
  · rw [Nat.min_eq_left h]
  · have : l = [] := List.eq_nil_of_length_eq_zero (by omega)
    subst this
    rfl
theorem cutL_init {α : Type} (l : List α) : cutL l none (some (-1)) = l.dropLast := by
  unfold cutL
  rw [sIx_m1, HT.sIx_none, List.drop_zero, List.dropLast_eq_take, Nat.sub_zero]
theorem atI_nat {α : Type} (l : List α) (k : Nat) : atI l (k : Int) = l[k]? := by
  unfold atI ixN
  rw [if_pos (by omega)]
  by_cases h : k < l.length
  · rw [if_pos (by omega)]
    rfl
  · rw [if_neg (by omega), List.getElem?_eq_none (by omega)]
    rfl
theorem atI_0 {α : Type} (a : α) (l : List α) : atI (a :: l) 0 = some a := by
  unfold atI
  rw [List.length_cons, ix_0]
  rfl
theorem atI_last {α : Type} (l : List α) : atI l (-1) = l.getLast? := by
  cases l with
  | nil => rfl
  | cons a l =>
    unfold atI
    rw [List.length_cons, ix_last, List.getLast?_eq_getElem?]
    rfl
end VL

set_option Elab.async false
set_option linter.all false
set_option maxRecDepth 100000
set_option maxHeartbeats 4000000
/-! VL22: texts taken apart at one sign. -/
namespace VL
open PySem PySem.Spec PyProof.Rows L2
theorem pre1 (k c : Nat) (r : List Nat) : TL.pre [k] (c :: r) = decide (c = k) := by
  unfold TL.pre
  simp only [List.length_cons, List.length_nil, List.take_succ_cons, List.take_zero]
  by_cases h : c = k
  · subst h; simp
  · rw [decide_eq_false h]
    simp [h]
theorem spl_len (k : Nat) : ∀ (cs cur : List Nat), (TL.spl [k] 0 cur cs).length ≤ cs.length + 1
  | [], cur => by rw [TL.spl_nil]; exact Nat.le_refl _
  | c :: cs, cur => by
    by_cases h : c = k
    · rw [TL.spl_hit (by rw [pre1, decide_eq_true h]), List.length_cons, List.length_cons]
      exact Nat.succ_le_succ (spl_len k cs [])
    · rw [TL.spl_miss (by rw [pre1, decide_eq_false h]), List.length_cons]
      exact Nat.le_succ_of_le (spl_len k cs _)
theorem spl_ne (k : Nat) : ∀ (cs cur : List Nat), TL.spl [k] 0 cur cs ≠ []
  | [], cur => by rw [TL.spl_nil]; simp
  | c :: cs, cur => by
    by_cases h : c = k
    · rw [TL.spl_hit (by rw [pre1, decide_eq_true h])]; simp
    · rw [TL.spl_miss (by rw [pre1, decide_eq_false h])]
      exact spl_ne k cs _
theorem spl_mem (k : Nat) : ∀ (cs cur : List Nat) (l : List Nat), l ∈ TL.spl [k] 0 cur cs → l.length ≤ cur.length + cs.length ∧ ∀ c ∈ l, c ∈ cur ∨ c ∈ cs
  | [], cur, l, h => by
    rw [TL.spl_nil, List.mem_singleton] at h
    subst h
    exact ⟨Nat.le_refl _, fun c hc => .inl hc⟩
  | c :: cs, cur, l, h => by
    by_cases q : c = k
    · rw [TL.spl_hit (by rw [pre1, decide_eq_true q])] at h
      rcases List.mem_cons.mp h with rfl | h
      · exact ⟨Nat.le_add_right _ _, fun c hc => .inl hc⟩
      · obtain ⟨h1, h2⟩ := spl_mem k cs [] l h
        exact ⟨by rw [List.length_cons]; rw [List.length_nil] at h1; omega, fun d hd => .inr (List.mem_cons_of_mem _ ((h2 d hd).resolve_left (by simp)))⟩
    · rw [TL.spl_miss (by rw [pre1, decide_eq_false q])] at h
      obtain ⟨h1, h2⟩ := spl_mem k cs (cur ++ [c]) l h
      refine ⟨by rw [List.length_append, List.length_singleton] at h1; rw [List.length_cons]; omega, fun d hd => ?_⟩
      rcases h2 d hd with z | z
      · rcases List.mem_append.mp z with z | z
        · exact .inl z
        · rw [List.mem_singleton.mp z]
          exact .inr List.mem_cons_self
      · exact .inr (List.mem_cons_of_mem _ z)
/-- all parts together, and one for each sign that parts them -/
theorem spl_sum (k : Nat) : ∀ (cs cur : List Nat), ((TL.spl [k] 0 cur cs).map (·.length)).sum + (TL.spl [k] 0 cur cs).length = cur.length + cs.length + 1
  | [], cur => by rw [TL.spl_nil]; simp
  | c :: cs, cur => by
    by_cases q : c = k
    · rw [TL.spl_hit (by rw [pre1, decide_eq_true q])]
      have := spl_sum k cs []
      rw [show [k].length - 1 = 0 from rfl]
      simp only [List.map_cons, List.sum_cons, List.length_cons, List.length_nil] at this ⊢
      omega
    · rw [TL.spl_miss (by rw [pre1, decide_eq_false q])]
      have := spl_sum k cs (cur ++ [c])
      rw [List.length_append, List.length_singleton] at this
      rw [List.length_cons]
      omega
theorem split_one {y : Str} {k : Nat} (z : Str) (hy : sg y = [k]) (hk : y.cps.all (· < 256) = true) : Txt.split z y = (TL.spl [k] 0 [] (sg z)).map txt := by
  refine TL.map_tl_inj ?_
  have e : ((TL.spl [k] 0 [] (sg z)).map txt).map TL.tl = TL.spl [k] 0 [] (sg z) := by
    rw [List.map_map]
    exact List.map_id _
  rw [e]
  have hb : TL.tl y = [k] := hy
  have := TL.split_spl z y (by rw [hb]; simp) (TL.kind_ok hk)
  rw [hb] at this
  exact this
/-! slices by natural numbers -/
theorem slL_take (xs : List PyData) (k : Nat) : slD (.list xs) none (some (k : Int)) = some (.list (xs.take k)) := by rw [← cutL_take]; rfl
theorem slL_drop (xs : List PyData) (k : Nat) : slD (.list xs) (some (k : Int)) none = some (.list (xs.drop k)) := by rw [← cutL_drop]; rfl
theorem slT_take (xs : List PyData) (k : Nat) : slD (.tuple xs) none (some (k : Int)) = some (.tuple (xs.take k)) := by rw [← cutL_take]; rfl
theorem slT_drop (xs : List PyData) (k : Nat) : slD (.tuple xs) (some (k : Int)) none = some (.tuple (xs.drop k)) := by rw [← cutL_drop]; rfl
theorem slS {z : Str} (h : z.length ≤ 100000) (lo hi : Option Int) : slD (.str z) lo hi = some (.str (txt (cutL (sg z) lo hi))) := by
  have e : cutS z lo hi = txt (cutL (sg z) lo hi) := by
    conv => lhs; rw [← txt_sg z]
    exact cutS_txt _ _ _
  show (if z.length ≤ 100000 then some (PyData.str (cutS z lo hi)) else none) = _
  rw [if_pos h, e]
theorem slS_take {z : Str} (h : z.length ≤ 100000) (k : Nat) : slD (.str z) none (some (k : Int)) = some (.str (txt ((sg z).take k))) := by rw [slS h, cutL_take]
theorem slS_drop {z : Str} (h : z.length ≤ 100000) (k : Nat) : slD (.str z) (some (k : Int)) none = some (.str (txt ((sg z).drop k))) := by rw [slS h, cutL_drop]
theorem ok_txt {l : List Nat} : PyData.strOk (txt l) = true ↔ ∀ c ∈ l, c < 1114112 := okS_iff
/-- texts of N signs at the most -/
structure TxN (N : Nat) (z : Str) : Prop where
  l : z.length ≤ N
  o : PyData.strOk z = true
theorem TxN.mono {N M : Nat} {z : Str} (h : TxN N z) (hm : N ≤ M) : TxN M z := ⟨Nat.le_trans h.l hm, h.o⟩
theorem TxN.append {N M : Nat} {z y : Str} (h : TxN N z) (h2 : TxN M y) : TxN (N + M) (z ++ y) := ⟨by rw [len_append]; have := h.l; have := h2.l; omega, ok_append h.o h2.o⟩
theorem TxN.sub {N : Nat} {z : Str} {l : List Nat} (h : TxN N z) (hs : l.Sublist (sg z)) : TxN N (txt l) := ⟨by rw [txt_len]; have := hs.length_le; rw [← len_sg] at this; exact Nat.le_trans this h.l, ok_txt.mpr fun c hc => okS_iff.mp h.o c (hs.subset hc)⟩
theorem TxN.take {N : Nat} {z : Str} (h : TxN N z) (k : Nat) : TxN N (txt ((sg z).take k)) := h.sub (List.take_sublist _ _)
theorem TxN.drop {N : Nat} {z : Str} (h : TxN N z) (k : Nat) : TxN N (txt ((sg z).drop k)) := h.sub (List.drop_sublist _ _)
theorem TxN.fin {N D B : Nat} {z : Str} (h : TxN N z) (hb : 10 * N + 2 ≤ B) : Fin D B (.str z) := Fin.str h.o (by have := h.l; omega)
theorem TxN.by {N : Nat} {z : Str} (h : (decide (z.length ≤ N) && PyData.strOk z) = true) : TxN N z := by
  simp only [Bool.and_eq_true, decide_eq_true_eq] at h
  exact ⟨h.1, h.2⟩
theorem big_int {i : Int} (h0 : -1000000000000000000 < i) (h : i < 1000000000000000000) : big (.int i) ≤ 19 := by
  show (Str.ofString (toString i)).length ≤ 19
  rw [PySem.ofString_length]
  exact PySem.int_text_length_le10 (k := 18) (by decide) (by omega)
theorem log2_small {n : Nat} (h : n < 1000000000000000000) : n.log2 < 1920 := by
  by_cases q : n = 0
  · subst q; decide
  · refine (Nat.log2_lt q).mpr (Nat.lt_of_lt_of_le h ?_)
    exact Nat.le_trans (show 1000000000000000000 ≤ 2 ^ 60 by decide) (Nat.pow_le_pow_right (by decide) (by decide))
theorem log_int {i : Int} (h0 : -1000000000000000000 < i) (h : i < 1000000000000000000) : (PyData.int i).showable = true := by
  show decide (i.natAbs.log2 < 1920) = true
  exact decide_eq_true (log2_small (by omega))
theorem Fin.int {D B : Nat} {i : Int} (h0 : -1000000000000000000 < i) (h : i < 1000000000000000000) (hB : 19 ≤ B) : Fin D B (.int i) := ⟨log_int h0 h, rfl, by simp only [PyData.depth]; exact Nat.zero_le _, Nat.le_trans (big_int h0 h) hB⟩
theorem joinS {y : Str} {zs : List Str} {N : Nat} (h : (zs.map (·.length)).sum + zs.length * y.length ≤ N) (hN : N ≤ 100000) (hy : PyData.strOk y = true) (hz : ∀ z ∈ zs, PyData.strOk z = true) :
    joinF y (.list (zs.map .str)) = some (.str (Txt.join y zs)) ∧ TxN N (Txt.join y zs) := ⟨joinD (Nat.le_trans h hN), ⟨Nat.le_trans (join_len y zs) h, ok_join hy hz⟩⟩
theorem sg_joinL (y : Str) (zs : List Str) : sg (Txt.join y zs) = TL.joinL (sg y) (zs.map sg) := by
  rw [TL.join_eq]
  exact TL.tl_join y zs
/-- what was put together is taken apart again -/
theorem split_join {y : Str} {k : Nat} {zs : List Str} (hy : sg y = [k]) (hk : y.cps.all (· < 256) = true) (hne : zs ≠ []) (h : ∀ z ∈ zs, k ∉ sg z) : Txt.split (Txt.join y zs) y = zs := by
  rw [split_one _ hy hk, sg_joinL, hy, TL.spl_join (by simpa using hne) (fun p hp => by
    obtain ⟨z, hz, rfl⟩ := List.mem_map.mp hp
    exact h z hz), List.map_map]
  exact (List.map_congr_left fun z _ => txt_sg z).trans (List.map_id _)
end VL

set_option Elab.async false
set_option linter.all false
set_option maxRecDepth 100000
set_option maxHeartbeats 4000000
namespace VL
open PySem PySem.Spec PyProof.Rows L2
def topS (i : Nat) : Stmt := PySem.Challenge.pw_setback_k74_pages_written.main.body.getD i (.Pass ⟨0, 0, 0, 0⟩)
abbrev s__law_pot : Stmt := topS 21
abbrev s__law_take : Stmt := topS 22
abbrev s__law_of : Stmt := topS 23
abbrev s__law_bent_row : Stmt := topS 26
abbrev s_is_row : Stmt := topS 12
abbrev s_is_page : Stmt := topS 13
abbrev s_check_page : Stmt := topS 14
abbrev s_show_page : Stmt := topS 16
abbrev s_lines_in : Stmt := topS 17
abbrev s_is_row_of_signs : Stmt := topS 18
abbrev s_read_page : Stmt := topS 19
abbrev s__law_heard : Stmt := topS 25
abbrev s__law_due : Stmt := topS 24
abbrev s__law_right : Stmt := topS 27
abbrev s_law : Stmt := topS 28
abbrev N__law_pot : List Str := ["_law_script", "_law_k", "_law_cell", "_law_own"]
def m__law_pot : MC := mSeqC (mSet 2 (mIf (tVal (mBin ltD (mVar 1) (mLenS (mVar 0)))) (mIxS (mVar 0) (mVar 1)) (mBin addD (mBin mulD (mC (.int 37)) (mVar 1)) (mC (.int 11))))) (mSeqC (mSet 3 (mBin mulD (mBin modD (mCall intF (aCons (mCall absF (aCons (mVar 2) (aNil))) (aNil))) (mBin powD (mBin powD (mC (.int 10)) (mC (.int 60))) (mC (.int 5)))) (mCall intF (aCons (mBin geD (mCall absF (aCons (mVar 2) (aNil))) (mBin powD (mC (.int 10)) (mC (.int 18)))) (aNil))))) (mRetC (xLst (aCons (mVar 3) (aCons (mBin modD (mCall intF (aCons (mBin addD (mBin addD (mBin mulD (mBin modD (mCall intF (aCons (mVar 2) (aNil))) (mC (.int 2305843009213693951))) (mC (.int 70441))) (mBin mulD (mBin mulD (mC (.int 6337)) (mVar 1)) (mVar 1))) (mC (.int 71))) (aNil))) (mC (.int 2305843009213693921))) (aCons (mC (.int 0)) (aNil)))))))
def F__law_pot : MFc := defMc 4 m__law_pot
abbrev N__law_take : List Str := ["_law_pot_here", "_law_upto", "_law_digit", "_law_prime", "_law_mixed"]
def m__law_take : MS := mSeq (mIfS (tVal (mBin gtD (mBin ixD (mVar 0) (mC (.int 0))) (mC (.int 0)))) (mSeq (mSet 2 (mBin modD (mCall intF (aCons (mBin ixD (mVar 0) (mC (.int 0))) (aNil))) (mVar 1))) (mSeq (mPut 0 (mC (.int 0)) (mBin fdivD (mBin ixD (mVar 0) (mC (.int 0))) (mVar 1))) (mSeq (mRet (mVar 2)) (mNil)))) (mNil)) (mSeq (mPut 0 (mC (.int 2)) (mBin addD (mBin ixD (mVar 0) (mC (.int 2))) (mC (.int 1)))) (mSeq (mSet 3 (mBin ixD (mLst (aCons (mC (.int 2147483647)) (aCons (mC (.int 2147483629)) (aCons (mC (.int 2147483587)) (aCons (mC (.int 2147483579)) (aCons (mC (.int 2147483563)) (aNil))))))) (mBin modD (mCall intF (aCons (mBin ixD (mVar 0) (mC (.int 2))) (aNil))) (mC (.int 5))))) (mSeq (mSet 4 (mBin modD (mCall intF (aCons (mBin powD (mCall intF (aCons (mBin addD (mBin addD (mBin ixD (mVar 0) (mC (.int 1))) (mBin mulD (mBin mulD (mC (.int 99907)) (mBin ixD (mVar 0) (mC (.int 2)))) (mBin ixD (mVar 0) (mC (.int 2))))) (mC (.int 53))) (aNil))) (mC (.int 3))) (aNil))) (mVar 3))) (mSeq (mSet 4 (mBin modD (mCall intF (aCons (mBin mulD (mVar 4) (mBin addD (mBin modD (mCall intF (aCons (mVar 4) (aNil))) (mC (.int 10007))) (mBin mulD (mC (.int 89)) (mBin ixD (mVar 0) (mC (.int 2)))))) (aNil))) (mC (.int 2305843009213693907)))) (mSeq (mRet (mBin modD (mCall intF (aCons (mBin fdivD (mVar 4) (mC (.int 103))) (aNil))) (mVar 1))) (mNil))))))
def F__law_take : MF := defM 5 m__law_take
abbrev N__law_of : List Str := ["_law_pot_here", "_law_some"]
def m__law_of : MS := mSeq (mRet (mBin ixD (mVar 1) (mCallF 2 F__law_take (aCons (mVar 0) (aCons (mCall lenF (aCons (mVar 1) (aNil))) (aNil)))))) (mNil)
def F__law_of : MF := defM 2 m__law_of
abbrev N__law_bent_row : List Str := ["_law_pot_here", "_law_sample", "_law_way", "_law_at", "_law_lines", "_law_here", "_law_some"]
def m__law_bent_row : MS := mSeq (mPar [2, 3, 4] (xsCons (mV (mCallF 2 F__law_take (aCons (mVar 0) (aCons (mC (.int 7)) (aNil))))) (xsCons (mV (mCallF 2 F__law_take (aCons (mVar 0) (aCons (mBin addD (mCall lenF (aCons (mVar 1) (aNil))) (mC (.int 1))) (aNil))))) (xsCons (mV (mBin (onStr splitF) (mVar 1) (mC (.str "\n")))) (xsNil))))) (mSeq (mSet 5 (mCallF 2 F__law_take (aCons (mVar 0) (aCons (mCall lenF (aCons (mVar 4) (aNil))) (aNil))))) (mSeq (mIfS (tVal (mBin ltD (mVar 2) (mC (.int 2)))) (mSeq (mRet (mBin addD (mBin addD (mSl (mVar 1) (oNone) (oSome (mVar 3))) (mCallF 2 F__law_of (aCons (mVar 0) (aCons (mLst (aCons (mC (.str "|")) (aCons (mC (.str " ")) (aCons (mC (.str "a")) (aCons (mC (.str "\n")) (aCons (mC (.str "A")) (aCons (mC (.str "1")) (aCons (mC (.str "-")) (aNil))))))))) (aNil))))) (mSl (mVar 1) (oSome (mBin addD (mVar 3) (mVar 2))) (oNone)))) (mNil)) (mNil)) (mSeq (mIfS (tVal (mBin eqDD (mVar 2) (mC (.int 2)))) (mSeq (mRet (mBin addD (mSl (mVar 1) (oNone) (oSome (mVar 3))) (mSl (mVar 1) (oSome (mBin addD (mVar 3) (mC (.int 1)))) (oNone)))) (mNil)) (mNil)) (mSeq (mSet 6 (mLst (aCons (mBin addD (mSl (mVar 4) (oNone) (oSome (mVar 5))) (mSl (mVar 4) (oSome (mBin addD (mVar 5) (mC (.int 1)))) (oNone))) (aCons (mBin addD (mSl (mVar 4) (oNone) (oSome (mBin addD (mVar 5) (mC (.int 1))))) (mSl (mVar 4) (oSome (mVar 5)) (oNone))) (aCons (mBin addD (mBin addD (mSl (mVar 4) (oNone) (oSome (mVar 5))) (mLst (aCons (mC (.str "||")) (aNil)))) (mSl (mVar 4) (oSome (mVar 5)) (oNone))) (aNil)))))) (mSeq (mRet (mBin (onStr joinF) (mC (.str "\n")) (mCallF 2 F__law_of (aCons (mVar 0) (aCons (mBin addD (mVar 6) (mLst (aCons (mBin addD (mVar 4) (mLst (aCons (mC (.str "")) (aNil)))) (aCons (mBin addD (mBin addD (mSl (mVar 4) (oNone) (oSome (mVar 5))) (mLst (aCons (mBin addD (mBin ixD (mVar 4) (mVar 5)) (mC (.str "|"))) (aNil)))) (mSl (mVar 4) (oSome (mBin addD (mVar 5) (mC (.int 1)))) (oNone))) (aNil))))) (aNil)))))) (mNil))))))
def F__law_bent_row : MF := defM 7 m__law_bent_row
abbrev N_is_row : List Str := ["value", "sign"]
def E1_is_row : ME := mOr (mBin eqDD (mVar 1) (mC (.str " "))) (mBin inD (mVar 1) (mC (.str "abcdefghijklmnopqrstuvwxyz")))
def C2_is_row : MX := xLc (mIt (mVar 0)) (gSet 1) (tYesM) (E1_is_row) [1]
def m_is_row : MS := mSeq (mRet (mAnd (mUn (isiF "str") (mVar 0)) (mAnd (mBin neDD (mVar 0) (mC (.str ""))) (mCall allF (aCons (mTell (C2_is_row)) (aNil)))))) (mNil)
def F_is_row : MF := defM 2 m_is_row
abbrev N_is_page : List Str := ["value", "row"]
def E1_is_page : ME := mBin eqDD (mCall lenF (aCons (mVar 1) (aNil))) (mCall lenF (aCons (mBin ixD (mVar 0) (mC (.int 0))) (aNil)))
def C2_is_page : MX := xLc (mIt (mVar 0)) (gSet 1) (tYesM) (E1_is_page) [1]
def E3_is_page : ME := mCallF 1 F_is_row (aCons (mVar 1) (aNil))
def C4_is_page : MX := xLc (mIt (mVar 0)) (gSet 1) (tYesM) (E3_is_page) [1]
def m_is_page : MS := mSeq (mIfS (tOrM (tNotM (tVal (mUn (isiF "tuple") (mVar 0)))) (tOrM (tVal (mBin eqDD (mVar 0) (mTup (aNil)))) (tNotM (tVal (mCall allF (aCons (mTell (C4_is_page)) (aNil))))))) (mSeq (mRet (mC (.bool false))) (mNil)) (mNil)) (mSeq (mRet (mCall allF (aCons (mTell (C2_is_page)) (aNil)))) (mNil))
def F_is_page : MF := defM 2 m_is_page
abbrev N_check_page : List Str := ["value"]
def m_check_page : MS := mSeq (mIfS (tNotM (tVal (mCallF 1 F_is_page (aCons (mVar 0) (aNil))))) (mSeq (mRaise "BadPage" "value" (mVar 0)) (mNil)) (mNil)) (mNil)
def F_check_page : MFX := defMX 1 m_check_page
abbrev N_show_page : List Str := ["page", "row"]
def E1_show_page : ME := mFStr [mUn fmtD (mC (.str "|")), mUn fmtD (mVar 1), mUn fmtD (mC (.str "|"))]
def C2_show_page : MX := xLc (mIt (mVar 0)) (gSet 1) (tYesM) (E1_show_page) [1]
def m_show_page : MS := mSeq (mExprX (mCallX 1 F_check_page (aCons (mVar 0) (aNil)))) (mSeq (mRet (mBin (onStr joinF) (mC (.str "\n")) (mTell (C2_show_page)))) (mNil))
def F_show_page : MFX := defMX 2 m_show_page
abbrev N_lines_in : List Str := ["text"]
def m_lines_in : MS := mSeq (mIfS (tNotM (tVal (mUn (isiF "str") (mVar 0)))) (mSeq (mRaise "BadText" "line" (mC (.int 0))) (mNil)) (mNil)) (mSeq (mRet (mBin (onStr splitF) (mVar 0) (mC (.str "\n")))) (mNil))
def F_lines_in : MFX := defMX 1 m_lines_in
abbrev N_is_row_of_signs : List Str := ["line", "signs", "sign"]
def E1_is_row_of_signs : ME := mOr (mBin eqDD (mVar 2) (mC (.str " "))) (mBin inD (mVar 2) (mC (.str "abcdefghijklmnopqrstuvwxyz")))
def C2_is_row_of_signs : MX := xLc (mIt (mVar 1)) (gSet 2) (tYesM) (E1_is_row_of_signs) [2]
def m_is_row_of_signs : MS := mSeq (mSet 1 (mSl (mVar 0) (oSome (mC (.int 1))) (oSome (mUn negD (mC (.int 1)))))) (mSeq (mIfS (tOrM (tVal (mBin eqDD (mCall lenF (aCons (mVar 1) (aNil))) (mC (.int 0)))) (tOrM (tVal (mBin neDD (mBin ixD (mVar 0) (mC (.int 0))) (mC (.str "|")))) (tVal (mBin neDD (mBin ixD (mVar 0) (mUn negD (mC (.int 1)))) (mC (.str "|")))))) (mSeq (mRet (mC (.bool false))) (mNil)) (mNil)) (mSeq (mRet (mCall allF (aCons (mTell (C2_is_row_of_signs)) (aNil)))) (mNil)))
def F_is_row_of_signs : MF := defM 3 m_is_row_of_signs
abbrev N_read_page : List Str := ["text", "lines", "number", "line"]
def E1_read_page : ME := mSl (mVar 3) (oSome (mC (.int 1))) (oSome (mUn negD (mC (.int 1))))
def C2_read_page : MX := xLc (mIt (mVar 1)) (gSet 3) (tYesM) (E1_read_page) [3]
def B3_read_page : MS := mSeq (mIfS (tOrM (tNotM (tVal (mCallF 1 F_is_row_of_signs (aCons (mVar 3) (aNil))))) (tVal (mBin neDD (mCall lenF (aCons (mVar 3) (aNil))) (mCall lenF (aCons (mBin ixD (mVar 1) (mC (.int 0))) (aNil)))))) (mSeq (mRaise "BadText" "line" (mVar 2)) (mNil)) (mNil)) (mNil)
def L4_read_page : MS := mFor (mEnumA (aCons (mVar 1) (aNil))) (gTupM 2 (gsCons (gSet 2) (gsCons (gSet 3) (gsNil)))) (B3_read_page)
def m_read_page : MS := mSeq (mSetX2 1 (mCallX 1 F_lines_in (aCons (mVar 0) (aNil)))) (mSeq (L4_read_page) (mSeq (mRet (mCall tupleF (aCons (mTell (C2_read_page)) (aNil)))) (mNil)))
def F_read_page : MFX := defMX 4 m_read_page
abbrev N__law_heard : List Str := ["_law_sample", "_law_caught", "_law_told", "error", "_law_is_alone"]
def m__law_heard : MS := mSeq (mUnp (mTup (aCons (mC .none) (aCons (mC .none) (aNil)))) (gTupM 2 (gsCons (gSet 1) (gsCons (gSet 2) (gsNil))))) (mSeq (mTryK (kx [("BadPage", true), ("BadText", true)]) 1 3 (mSeq (mSetX2 2 (mCallX 1 F_read_page (aCons (mVar 0) (aNil)))) (mNil))) (mSeq (mIfS (tVal (mIsN (mVar 1))) (mSeq (mRet (mTup (aCons (mC (.str "told")) (aCons (mVar 2) (aNil))))) (mNil)) (mNil)) (mSeq (mSet 4 (mAnd (mIsE (kx [("BadPage", false), ("BadText", true)]) (some false) (mVar 1)) (mNot (mIsE2 (kx2 [("BadPage", true), ("BadText", false)] [("BadPage", false), ("BadText", false)]) (mVar 1))))) (mSeq (mRet (mIf (tAndM (tVal (mVar 4)) (tVal (mIsE (kx [("BadPage", true), ("BadText", true)]) (some false) (mVar 1)))) (mTup (aCons (mC (.str "row")) (aCons (mFld (kok [("BadPage", false), ("BadText", true)]) "line" (mVar 1)) (aNil)))) (mTup (aCons (mC (.str "other")) (aCons (mC .none) (aNil)))))) (mNil)))))
def F__law_heard : MF := defM 5 m__law_heard
abbrev N__law_due : List Str := ["_law_sample", "_law_rows", "_law_at", "_law_row", "_law_sign"]
def E1__law_due : ME := mSl (mVar 3) (oSome (mC (.int 1))) (oSome (mUn negD (mC (.int 1))))
def C2__law_due : MX := xLc (mIt (mVar 1)) (gSet 3) (tYesM) (E1__law_due) [3]
def E3__law_due : ME := mBin inD (mVar 4) (mC (.str " abcdefghijklmnopqrstuvwxyz"))
def C4__law_due : MX := xLc (mIt (mSl (mVar 3) (oSome (mC (.int 1))) (oSome (mUn negD (mC (.int 1)))))) (gSet 4) (tYesM) (E3__law_due) [4]
def B5__law_due : MS := mSeq (mIfS (tOrM (tVal (mBin ltD (mCall lenF (aCons (mVar 3) (aNil))) (mC (.int 3)))) (tOrM (tVal (mBin neDD (mBin ixD (mVar 3) (mC (.int 0))) (mC (.str "|")))) (tOrM (tVal (mBin neDD (mBin ixD (mVar 3) (mBin subD (mCall lenF (aCons (mVar 3) (aNil))) (mC (.int 1)))) (mC (.str "|")))) (tVal (mBin neDD (mCall lenF (aCons (mVar 3) (aNil))) (mCall lenF (aCons (mBin ixD (mVar 1) (mC (.int 0))) (aNil)))))))) (mSeq (mRet (mTup (aCons (mC (.str "row")) (aCons (mVar 2) (aNil))))) (mNil)) (mNil)) (mSeq (mIfS (tNotM (tVal (mCall allF (aCons (mTell (C4__law_due)) (aNil))))) (mSeq (mRet (mTup (aCons (mC (.str "row")) (aCons (mVar 2) (aNil))))) (mNil)) (mNil)) (mNil))
def L6__law_due : MS := mFor (mEnumA (aCons (mVar 1) (aNil))) (gTupM 2 (gsCons (gSet 2) (gsCons (gSet 3) (gsNil)))) (B5__law_due)
def m__law_due : MS := mSeq (mIfS (tNotM (tVal (mUn (isiF "str") (mVar 0)))) (mSeq (mRet (mTup (aCons (mC (.str "row")) (aCons (mC (.int 0)) (aNil))))) (mNil)) (mNil)) (mSeq (mSet 1 (mBin (onStr splitF) (mVar 0) (mC (.str "\n")))) (mSeq (L6__law_due) (mSeq (mRet (mTup (aCons (mC (.str "told")) (aCons (mCall tupleF (aCons (mTell (C2__law_due)) (aNil))) (aNil))))) (mNil))))
def F__law_due : MF := defM 5 m__law_due
abbrev N__law_right : List Str := ["_law_pot_here", "_law_high", "_law_wide", "_law_leaf", "_law_row", "_law_signs", "_law_place", "_law_kept", "_law_due_here", "_law_again", "_law_bent"]
def B1__law_right : MS := mSeq (mSet 10 (mCallF 2 F__law_bent_row (aCons (mVar 0) (aCons (mVar 8) (aNil))))) (mSeq (mSet 10 (mIf (tVal (mBin eqDD (mCallF 2 F__law_take (aCons (mVar 0) (aCons (mC (.int 3)) (aNil)))) (mC (.int 0)))) (mCallF 2 F__law_bent_row (aCons (mVar 0) (aCons (mVar 10) (aNil)))) (mVar 10))) (mSeq (mIfS (tVal (mBin neDD (mCall reprF (aCons (mCallF 1 F__law_heard (aCons (mVar 10) (aNil))) (aNil))) (mCall reprF (aCons (mCallF 1 F__law_due (aCons (mVar 10) (aNil))) (aNil))))) (mSeq (mRet (mC (.bool false))) (mNil)) (mNil)) (mNil)))
def L2__law_right : MS := mFor (mRng1 (aCons (mC (.int 8)) (aNil))) (gSet 9) (B1__law_right)
def E3__law_right : ME := mBin addD (mBin addD (mC (.str "|")) (mVar 4)) (mC (.str "|"))
def C4__law_right : MX := xLc (mIt (mVar 3)) (gSet 4) (tYesM) (E3__law_right) [4]
def E5__law_right : ME := mCallF 2 F__law_of (aCons (mVar 0) (aCons (mVar 5) (aNil)))
def C6__law_right : MX := xLc (mRng1 (aCons (mVar 2) (aNil))) (gSet 6) (tYesM) (E5__law_right) [6]
def B7__law_right : MS := mSeq (mSet 5 (mCallF 2 F__law_of (aCons (mVar 0) (aCons (mLst (aCons (mC (.str "ab ")) (aCons (mC (.str "   ")) (aCons (mC (.str "xyz  ")) (aCons (mC (.str "z")) (aNil)))))) (aNil))))) (mSeq (mApp 3 (mBin (onStr joinF) (mC (.str "")) (mTell (C6__law_right)))) (mNil))
def L8__law_right : MS := mFor (mRng1 (aCons (mVar 1) (aNil))) (gSet 4) (B7__law_right)
def m__law_right : MS := mSeq (mPar [1, 2] (xsCons (mV (mBin addD (mC (.int 1)) (mCallF 2 F__law_take (aCons (mVar 0) (aCons (mC (.int 10)) (aNil)))))) (xsCons (mV (mBin addD (mC (.int 1)) (mCallF 2 F__law_take (aCons (mVar 0) (aCons (mC (.int 22)) (aNil)))))) (xsNil)))) (mSeq (mSetX 3 (xLst (aNil))) (mSeq (L8__law_right) (mFrz 3 (mSeq (mPar [7, 8] (xsCons (mV (mCall reprF (aCons (mCall tupleF (aCons (mVar 3) (aNil))) (aNil)))) (xsCons (mV (mBin (onStr joinF) (mC (.str "\n")) (mTell (C4__law_right)))) (xsNil)))) (mSeq (mIfS (tOrM (tVal (mBin neDD (mCall reprF (aCons (mValX (mCallX 1 F_show_page (aCons (mCall tupleF (aCons (mVar 3) (aNil))) (aNil)))) (aNil))) (mCall reprF (aCons (mVar 8) (aNil))))) (tVal (mBin neDD (mCall reprF (aCons (mValX (mCallX 1 F_show_page (aCons (mCall tupleF (aCons (mVar 3) (aNil))) (aNil)))) (aNil))) (mCall reprF (aCons (mVar 8) (aNil)))))) (mSeq (mRet (mC (.bool false))) (mNil)) (mNil)) (mSeq (mIfS (tOrM (tVal (mBin neDD (mCall reprF (aCons (mValX (mCallX 1 F_read_page (aCons (mVar 8) (aNil)))) (aNil))) (mVar 7))) (tVal (mBin neDD (mCall reprF (aCons (mValX (mCallX 1 F_read_page (aCons (mVar 8) (aNil)))) (aNil))) (mVar 7)))) (mSeq (mRet (mC (.bool false))) (mNil)) (mNil)) (mSeq (L2__law_right) (mSeq (mRet (mC (.bool true))) (mNil)))))))))
def F__law_right : MF := defM 11 m__law_right
abbrev N_law : List Str := ["_law_script", "_law_some", "_law_sample", "_law_k", "_law_pot_here", "_law_turn"]
def E1_law : ME := mCallF 1 F__law_right (aCons (mVar 4) (aNil))
def C2_law : MX := xLc (mRng1 (aCons (mC (.int 8)) (aNil))) (gSet 5) (tYesM) (E1_law) [5]
def B3_law : MS := mSeq (mSetX 4 (mCallC 2 F__law_pot (aCons (mVar 0) (aCons (mVar 3) (aNil))))) (mSeq (mIfS (tNotM (tVal (mCall allF (aCons (mTell (C2_law)) (aNil))))) (mSeq (mRet (mC (.bool false))) (mNil)) (mNil)) (mNil))
def L4_law : MS := mFor (mRng1 (aCons (mCall max2F (aCons (mC (.int 1)) (aCons (mCall min2F (aCons (mC (.int 3)) (aCons (mLenS (mVar 0)) (aNil)))) (aNil)))) (aNil))) (gSet 3) (B3_law)
def E5_law : ME := mBin eqDD (mCall reprF (aCons (mCallF 1 F__law_heard (aCons (mVar 2) (aNil))) (aNil))) (mCall reprF (aCons (mCallF 1 F__law_due (aCons (mVar 2) (aNil))) (aNil)))
def C6_law : MX := xLc (mIt (mVar 1)) (gSet 2) (tYesM) (E5_law) [2]
def m_law : MS := mSeq (mSet 1 (mLst (aCons (mC (.str "")) (aCons (mC (.str "||")) (aCons (mC (.str "|")) (aCons (mC .none) (aCons (mC (.int 0)) (aCons (mTup (aCons (mC (.str "|a|")) (aNil))) (aCons (mC (.str "|a|\n")) (aCons (mC (.str "|a|\n|ab|")) (aNil))))))))))) (mSeq (mIfS (tNotM (tVal (mCall allF (aCons (mTell (C6_law)) (aNil))))) (mSeq (mRet (mC (.bool false))) (mNil)) (mNil)) (mSeq (L4_law) (mSeq (mRet (mC (.bool true))) (mNil))))
def F_law : MF := defM 6 m_law
structure DefR (K : PySem.W.Frag) (mg : Str → Option Value) (x : Str) (st : Stmt) (f : Addr) (fd : FuncData) (ps : List Str) : Prop where
  fn : Fun K x x st f fd
  mgf : mg x = some (.ref f)
  b : Binds K fd ps []
  kb : KB K fd ps
structure AllD (P : Program) (K : PySem.W.Frag) (mg : Str → Option Value) (f__law_pot f__law_take f__law_of f__law_bent_row f_is_row f_is_page f_check_page f_show_page f_lines_in f_is_row_of_signs f_read_page f__law_heard f__law_due f__law_right f_law : Addr) (fd__law_pot fd__law_take fd__law_of fd__law_bent_row fd_is_row fd_is_page fd_check_page fd_show_page fd_lines_in fd_is_row_of_signs fd_read_page fd__law_heard fd__law_due fd__law_right fd_law : FuncData) (C_BadPage C_BadText C_SetbackError C_BadDocument I_BadPage I_BadText : Addr) (t_BAR t_BLANK_lines t_BLANK_pages t_FEED t_LETTERS_documents t_LETTERS_lines : Tok) : Prop where
  d__law_pot : DefR K mg "_law_pot" s__law_pot f__law_pot fd__law_pot ["_law_script", "_law_k"]
  d__law_take : DefR K mg "_law_take" s__law_take f__law_take fd__law_take ["_law_pot_here", "_law_upto"]
  d__law_of : DefR K mg "_law_of" s__law_of f__law_of fd__law_of ["_law_pot_here", "_law_some"]
  d__law_bent_row : DefR K mg "_law_bent_row" s__law_bent_row f__law_bent_row fd__law_bent_row ["_law_pot_here", "_law_sample"]
  d_is_row : DefR K mg "is_row" s_is_row f_is_row fd_is_row ["value"]
  d_is_page : DefR K mg "is_page" s_is_page f_is_page fd_is_page ["value"]
  d_check_page : DefR K mg "check_page" s_check_page f_check_page fd_check_page ["value"]
  d_show_page : DefR K mg "show_page" s_show_page f_show_page fd_show_page ["page"]
  d_lines_in : DefR K mg "lines_in" s_lines_in f_lines_in fd_lines_in ["text"]
  d_is_row_of_signs : DefR K mg "is_row_of_signs" s_is_row_of_signs f_is_row_of_signs fd_is_row_of_signs ["line"]
  d_read_page : DefR K mg "read_page" s_read_page f_read_page fd_read_page ["text"]
  d__law_heard : DefR K mg "_law_heard" s__law_heard f__law_heard fd__law_heard ["_law_sample"]
  d__law_due : DefR K mg "_law_due" s__law_due f__law_due fd__law_due ["_law_sample"]
  d__law_right : DefR K mg "_law_right" s__law_right f__law_right fd__law_right ["_law_pot_here"]
  d_law : DefR K mg "law" s_law f_law fd_law ["_law_script"]
  b_ValueError : mg "ValueError" = none
  b_abs : mg "abs" = none
  b_all : mg "all" = none
  b_enumerate : mg "enumerate" = none
  b_int : mg "int" = none
  b_isinstance : mg "isinstance" = none
  b_len : mg "len" = none
  b_max : mg "max" = none
  b_min : mg "min" = none
  b_range : mg "range" = none
  b_repr : mg "repr" = none
  b_str : mg "str" = none
  b_super : mg "super" = none
  b_tuple : mg "tuple" = none
  c_BAR : mg "BAR" = some (.str "|" t_BAR)
  c_BLANK_lines : mg "BLANK_lines" = some (.str " " t_BLANK_lines)
  c_BLANK_pages : mg "BLANK_pages" = some (.str " " t_BLANK_pages)
  c_FEED : mg "FEED" = some (.str "\n" t_FEED)
  c_LETTERS_documents : mg "LETTERS_documents" = some (.str "abcdefghijklmnopqrstuvwxyz" t_LETTERS_documents)
  c_LETTERS_lines : mg "LETTERS_lines" = some (.str "abcdefghijklmnopqrstuvwxyz" t_LETTERS_lines)
  h_BadPage : mg "BadPage" = some (.ref C_BadPage)
  h_BadText : mg "BadText" = some (.ref C_BadText)
  h_SetbackError : mg "SetbackError" = some (.ref C_SetbackError)
  h_BadDocument : mg "BadDocument" = some (.ref C_BadDocument)
  x_BadPage : VX.XTxt P K mg "BadPage" "value" C_BadPage I_BadPage
  x_BadText : VX.XTxt P K mg "BadText" "line" C_BadText I_BadText
  hs_SetbackError : KX K (fun C b => PySem.W.exmOne K (.ref C) (.ref C_SetbackError) = some b) [("BadPage", true), ("BadText", true)]
  kit_ValueError : KX K (fun C b => PySem.W.kitOne K (.ref C) (.type "ValueError") = some b ∧ ExcC K C) [("BadPage", true), ("BadText", true)]
  kn_ValueError : PySem.W.kitOne K (.type "NoneType") (.type "ValueError") = some false
  kit_BadText : KX K (fun C b => PySem.W.kitOne K (.ref C) (.ref C_BadText) = some b ∧ ExcC K C) [("BadPage", false), ("BadText", true)]
  kn_BadText : PySem.W.kitOne K (.type "NoneType") (.ref C_BadText) = some false
  kit_BadPage : KX K (fun C b => PySem.W.kitOne K (.ref C) (.ref C_BadPage) = some b ∧ ExcC K C) [("BadPage", true), ("BadText", false)]
  kn_BadPage : PySem.W.kitOne K (.type "NoneType") (.ref C_BadPage) = some false
  kit_BadDocument : KX K (fun C b => PySem.W.kitOne K (.ref C) (.ref C_BadDocument) = some b ∧ ExcC K C) [("BadPage", false), ("BadText", false)]
  kn_BadDocument : PySem.W.kitOne K (.type "NoneType") (.ref C_BadDocument) = some false
  fld_line : KX K (fun C b => XfC K C ∧ PySem.W.findIn K (.ref C) "line" = some none) [("BadPage", false), ("BadText", true)]
section
variable {P : Program} {w : World} {K : PySem.W.Frag} {mg : Str → Option Value} {base : Heap} {f__law_pot f__law_take f__law_of f__law_bent_row f_is_row f_is_page f_check_page f_show_page f_lines_in f_is_row_of_signs f_read_page f__law_heard f__law_due f__law_right f_law : Addr} {fd__law_pot fd__law_take fd__law_of fd__law_bent_row fd_is_row fd_is_page fd_check_page fd_show_page fd_lines_in fd_is_row_of_signs fd_read_page fd__law_heard fd__law_due fd__law_right fd_law : FuncData} {C_BadPage C_BadText C_SetbackError C_BadDocument I_BadPage I_BadText : Addr} {t_BAR t_BLANK_lines t_BLANK_pages t_FEED t_LETTERS_documents t_LETTERS_lines : Tok}
theorem sc__law_pot : FnScope N__law_pot ["_law_script", "_law_k"] (defScope s__law_pot) := ⟨rfl, rfl, rfl, by decide +kernel, rfl, by decide +kernel, by decide +kernel⟩
theorem g__law_pot (T : AllD P K mg f__law_pot f__law_take f__law_of f__law_bent_row f_is_row f_is_page f_check_page f_show_page f_lines_in f_is_row_of_signs f_read_page f__law_heard f__law_due f__law_right f_law fd__law_pot fd__law_take fd__law_of fd__law_bent_row fd_is_row fd_is_page fd_check_page fd_show_page fd_lines_in fd_is_row_of_signs fd_read_page fd__law_heard fd__law_due fd__law_right fd_law C_BadPage C_BadText C_SetbackError C_BadDocument I_BadPage I_BadText t_BAR t_BLANK_lines t_BLANK_pages t_FEED t_LETTERS_documents t_LETTERS_lines) : FnG P w K mg base CX0 1 f__law_pot fd__law_pot ["_law_script", "_law_k"] (spC K 2 F__law_pot) :=
  have nd : N__law_pot.Nodup := sc__law_pot.nd
  jfC T.d__law_pot.fn sc__law_pot (by decide) fun cdv A outer s H E gd hr =>
    jc_cons (js_set 2 nd (je_if (jt_lt (je_var 1) (je_lenS T.b_len (je_var 0))) (je_ixS (je_var 0) (je_var 1)) (je_add (je_mul (je_int) (je_var 1)) (je_int)))) (jc_cons (js_set 3 nd (je_mul (je_mod (je_toint T.b_int (ja_cons (je_abs T.b_abs (ja_cons (je_var 2) (ja_nil))) (ja_nil))) (je_pow (je_pow (je_int) (je_int)) (je_int))) (je_toint T.b_int (ja_cons (je_ge (je_abs T.b_abs (ja_cons (je_var 2) (ja_nil))) (je_pow (je_int) (je_int))) (ja_nil))))) (jc_ret (jx_lst (ja_cons (je_var 3) (ja_cons (je_mod (je_toint T.b_int (ja_cons (je_add (je_add (je_mul (je_mod (je_toint T.b_int (ja_cons (je_var 2) (ja_nil))) (je_int)) (je_int)) (je_mul (je_mul (je_int) (je_var 1)) (je_var 1))) (je_int)) (ja_nil))) (je_int)) (ja_cons (je_int) (ja_nil)))))))
theorem sc__law_take : FnScope N__law_take ["_law_pot_here", "_law_upto"] (defScope s__law_take) := ⟨rfl, rfl, rfl, by decide +kernel, rfl, by decide +kernel, by decide +kernel⟩
theorem g__law_take (T : AllD P K mg f__law_pot f__law_take f__law_of f__law_bent_row f_is_row f_is_page f_check_page f_show_page f_lines_in f_is_row_of_signs f_read_page f__law_heard f__law_due f__law_right f_law fd__law_pot fd__law_take fd__law_of fd__law_bent_row fd_is_row fd_is_page fd_check_page fd_show_page fd_lines_in fd_is_row_of_signs fd_read_page fd__law_heard fd__law_due fd__law_right fd_law C_BadPage C_BadText C_SetbackError C_BadDocument I_BadPage I_BadText t_BAR t_BLANK_lines t_BLANK_pages t_FEED t_LETTERS_documents t_LETTERS_lines) : FnG P w K mg base CX0 1 f__law_take fd__law_take ["_law_pot_here", "_law_upto"] (spM K 2 F__law_take) :=
  have nd : N__law_take.Nodup := sc__law_take.nd
  jf T.d__law_take.fn sc__law_take (by decide) fun cdv A outer s H E gd hr =>
    jb_cons (js_if (jt_gt (je_ix (je_var 0) (je_int)) (je_int)) (jb_cons (js_set 2 nd (je_mod (je_toint T.b_int (ja_cons (je_ix (je_var 0) (je_int)) (ja_nil))) (je_var 1))) (jb_cons (js_put 0 (je_fdiv (je_ix (je_var 0) (je_int)) (je_var 1)) (je_int)) (jb_cons (js_ret (je_var 2)) (jb_nil)))) (jb_nil)) (jb_cons (js_put 0 (je_add (je_ix (je_var 0) (je_int)) (je_int)) (je_int)) (jb_cons (js_set 3 nd (je_ix (je_lst (ja_cons (je_int) (ja_cons (je_int) (ja_cons (je_int) (ja_cons (je_int) (ja_cons (je_int) (ja_nil))))))) (je_mod (je_toint T.b_int (ja_cons (je_ix (je_var 0) (je_int)) (ja_nil))) (je_int)))) (jb_cons (js_set 4 nd (je_mod (je_toint T.b_int (ja_cons (je_pow (je_toint T.b_int (ja_cons (je_add (je_add (je_ix (je_var 0) (je_int)) (je_mul (je_mul (je_int) (je_ix (je_var 0) (je_int))) (je_ix (je_var 0) (je_int)))) (je_int)) (ja_nil))) (je_int)) (ja_nil))) (je_var 3))) (jb_cons (js_set 4 nd (je_mod (je_toint T.b_int (ja_cons (je_mul (je_var 4) (je_add (je_mod (je_toint T.b_int (ja_cons (je_var 4) (ja_nil))) (je_int)) (je_mul (je_int) (je_ix (je_var 0) (je_int))))) (ja_nil))) (je_int))) (jb_cons (js_ret (je_mod (je_toint T.b_int (ja_cons (je_fdiv (je_var 4) (je_int)) (ja_nil))) (je_var 1))) (jb_nil))))))
theorem sc__law_of : FnScope N__law_of ["_law_pot_here", "_law_some"] (defScope s__law_of) := ⟨rfl, rfl, rfl, by decide +kernel, rfl, by decide +kernel, by decide +kernel⟩
theorem g__law_of (T : AllD P K mg f__law_pot f__law_take f__law_of f__law_bent_row f_is_row f_is_page f_check_page f_show_page f_lines_in f_is_row_of_signs f_read_page f__law_heard f__law_due f__law_right f_law fd__law_pot fd__law_take fd__law_of fd__law_bent_row fd_is_row fd_is_page fd_check_page fd_show_page fd_lines_in fd_is_row_of_signs fd_read_page fd__law_heard fd__law_due fd__law_right fd_law C_BadPage C_BadText C_SetbackError C_BadDocument I_BadPage I_BadText t_BAR t_BLANK_lines t_BLANK_pages t_FEED t_LETTERS_documents t_LETTERS_lines) : FnG P w K mg base CX0 2 f__law_of fd__law_of ["_law_pot_here", "_law_some"] (spM K 2 F__law_of) :=
  have nd : N__law_of.Nodup := sc__law_of.nd
  jf T.d__law_of.fn sc__law_of (by decide) fun cdv A outer s H E gd hr =>
    jb_cons (js_ret (je_ix (je_var 1) (je_callF (g__law_take T) gd (hr.mono (by decide)) T.d__law_take.mgf T.d__law_take.fn.kp T.d__law_take.b (ja_cons (je_var 0) (ja_cons (je_len T.b_len (ja_cons (je_var 1) (ja_nil))) (ja_nil)))))) (jb_nil)
theorem sc__law_bent_row : FnScope N__law_bent_row ["_law_pot_here", "_law_sample"] (defScope s__law_bent_row) := ⟨rfl, rfl, rfl, by decide +kernel, rfl, by decide +kernel, by decide +kernel⟩
theorem g__law_bent_row (T : AllD P K mg f__law_pot f__law_take f__law_of f__law_bent_row f_is_row f_is_page f_check_page f_show_page f_lines_in f_is_row_of_signs f_read_page f__law_heard f__law_due f__law_right f_law fd__law_pot fd__law_take fd__law_of fd__law_bent_row fd_is_row fd_is_page fd_check_page fd_show_page fd_lines_in fd_is_row_of_signs fd_read_page fd__law_heard fd__law_due fd__law_right fd_law C_BadPage C_BadText C_SetbackError C_BadDocument I_BadPage I_BadText t_BAR t_BLANK_lines t_BLANK_pages t_FEED t_LETTERS_documents t_LETTERS_lines) : FnG P w K mg base CX0 3 f__law_bent_row fd__law_bent_row ["_law_pot_here", "_law_sample"] (spM K 2 F__law_bent_row) :=
  have nd : N__law_bent_row.Nodup := sc__law_bent_row.nd
  jf T.d__law_bent_row.fn sc__law_bent_row (by decide) fun cdv A outer s H E gd hr =>
    jb_cons (js_par3 rfl nd (jxs_cons (jx_je (je_callF (g__law_take T) gd (hr.mono (by decide)) T.d__law_take.mgf T.d__law_take.fn.kp T.d__law_take.b (ja_cons (je_var 0) (ja_cons (je_int) (ja_nil))))) (jxs_cons (jx_je (je_callF (g__law_take T) gd (hr.mono (by decide)) T.d__law_take.mgf T.d__law_take.fn.kp T.d__law_take.b (ja_cons (je_var 0) (ja_cons (je_add (je_len T.b_len (ja_cons (je_var 1) (ja_nil))) (je_int)) (ja_nil))))) (jxs_cons (jx_je (je_split (je_var 1) (je_str))) (jxs_nil))))) (jb_cons (js_set 5 nd (je_callF (g__law_take T) gd (hr.mono (by decide)) T.d__law_take.mgf T.d__law_take.fn.kp T.d__law_take.b (ja_cons (je_var 0) (ja_cons (je_len T.b_len (ja_cons (je_var 4) (ja_nil))) (ja_nil))))) (jb_cons (js_if (jt_lt (je_var 2) (je_int)) (jb_cons (js_ret (je_add (je_add (je_slice (je_var 1) (jo_none) (jo_some (je_var 3))) (je_callF (g__law_of T) gd (hr.mono (by decide)) T.d__law_of.mgf T.d__law_of.fn.kp T.d__law_of.b (ja_cons (je_var 0) (ja_cons (je_lst (ja_cons (je_str) (ja_cons (je_str) (ja_cons (je_str) (ja_cons (je_str) (ja_cons (je_str) (ja_cons (je_str) (ja_cons (je_str) (ja_nil))))))))) (ja_nil))))) (je_slice (je_var 1) (jo_some (je_add (je_var 3) (je_var 2))) (jo_none)))) (jb_nil)) (jb_nil)) (jb_cons (js_if (jt_eq hr (je_var 2) (je_int)) (jb_cons (js_ret (je_add (je_slice (je_var 1) (jo_none) (jo_some (je_var 3))) (je_slice (je_var 1) (jo_some (je_add (je_var 3) (je_int))) (jo_none)))) (jb_nil)) (jb_nil)) (jb_cons (js_set 6 nd (je_lst (ja_cons (je_add (je_slice (je_var 4) (jo_none) (jo_some (je_var 5))) (je_slice (je_var 4) (jo_some (je_add (je_var 5) (je_int))) (jo_none))) (ja_cons (je_add (je_slice (je_var 4) (jo_none) (jo_some (je_add (je_var 5) (je_int)))) (je_slice (je_var 4) (jo_some (je_var 5)) (jo_none))) (ja_cons (je_add (je_add (je_slice (je_var 4) (jo_none) (jo_some (je_var 5))) (je_lst (ja_cons (je_str) (ja_nil)))) (je_slice (je_var 4) (jo_some (je_var 5)) (jo_none))) (ja_nil)))))) (jb_cons (js_ret (je_join (je_str) (je_callF (g__law_of T) gd (hr.mono (by decide)) T.d__law_of.mgf T.d__law_of.fn.kp T.d__law_of.b (ja_cons (je_var 0) (ja_cons (je_add (je_var 6) (je_lst (ja_cons (je_add (je_var 4) (je_lst (ja_cons (je_str) (ja_nil)))) (ja_cons (je_add (je_add (je_slice (je_var 4) (jo_none) (jo_some (je_var 5))) (je_lst (ja_cons (je_add (je_ix (je_var 4) (je_var 5)) (je_str)) (ja_nil)))) (je_slice (je_var 4) (jo_some (je_add (je_var 5) (je_int))) (jo_none))) (ja_nil))))) (ja_nil)))))) (jb_nil))))))
theorem sc_is_row : FnScope N_is_row ["value"] (defScope s_is_row) := ⟨rfl, rfl, rfl, by decide +kernel, rfl, by decide +kernel, by decide +kernel⟩
theorem g_is_row (T : AllD P K mg f__law_pot f__law_take f__law_of f__law_bent_row f_is_row f_is_page f_check_page f_show_page f_lines_in f_is_row_of_signs f_read_page f__law_heard f__law_due f__law_right f_law fd__law_pot fd__law_take fd__law_of fd__law_bent_row fd_is_row fd_is_page fd_check_page fd_show_page fd_lines_in fd_is_row_of_signs fd_read_page fd__law_heard fd__law_due fd__law_right fd_law C_BadPage C_BadText C_SetbackError C_BadDocument I_BadPage I_BadText t_BAR t_BLANK_lines t_BLANK_pages t_FEED t_LETTERS_documents t_LETTERS_lines) : FnG P w K mg base CX0 1 f_is_row fd_is_row ["value"] (spM K 1 F_is_row) :=
  have nd : N_is_row.Nodup := sc_is_row.nd
  jf T.d_is_row.fn sc_is_row (by decide) fun cdv A outer s H E gd hr =>
    jb_cons (js_ret (je_and (je_isi "str" T.b_isinstance T.b_str (by decide +kernel) (je_var 0)) (je_and (je_ne hr (je_var 0) (je_str)) (je_one (je_all rfl T.b_all (ja_cons (je_tell (jx_lc rfl nd (ji_any (je_var 0)) (own := [("sign", 1)]) (blkOk_by (by kernel_rfl)) (fun _ _ _ _ _ => jg_name 1 nd) (fun _ _ _ _ _ => jts_nil) (fun _ _ _ _ _ => je_or (je_eq hr (je_var 1) (je_gstr T.c_BLANK_pages)) (je_one (je_in (je_var 1) (je_gstr T.c_LETTERS_documents)))))) (ja_nil))))))) (jb_nil)
theorem sc_is_page : FnScope N_is_page ["value"] (defScope s_is_page) := ⟨rfl, rfl, rfl, by decide +kernel, rfl, by decide +kernel, by decide +kernel⟩
theorem g_is_page (T : AllD P K mg f__law_pot f__law_take f__law_of f__law_bent_row f_is_row f_is_page f_check_page f_show_page f_lines_in f_is_row_of_signs f_read_page f__law_heard f__law_due f__law_right f_law fd__law_pot fd__law_take fd__law_of fd__law_bent_row fd_is_row fd_is_page fd_check_page fd_show_page fd_lines_in fd_is_row_of_signs fd_read_page fd__law_heard fd__law_due fd__law_right fd_law C_BadPage C_BadText C_SetbackError C_BadDocument I_BadPage I_BadText t_BAR t_BLANK_lines t_BLANK_pages t_FEED t_LETTERS_documents t_LETTERS_lines) : FnG P w K mg base CX0 2 f_is_page fd_is_page ["value"] (spM K 1 F_is_page) :=
  have nd : N_is_page.Nodup := sc_is_page.nd
  jf T.d_is_page.fn sc_is_page (by decide) fun cdv A outer s H E gd hr =>
    jb_cons (js_if (JW.jt (jw_or (jt_not (jt_val (je_isi "tuple" T.b_isinstance T.b_tuple (by decide +kernel) (je_var 0)))) (jw_or (jt_eq hr (je_var 0) (je_tup (ja_nil))) (jw_or1 (jt_not (jt_val (je_all rfl T.b_all (ja_cons (je_tell (jx_lc rfl nd (ji_any (je_var 0)) (own := [("row", 1)]) (blkOk_by (by kernel_rfl)) (fun _ _ _ _ _ => jg_name 1 nd) (fun _ _ _ _ _ => jts_nil) (fun _ _ _ _ _ => je_callF (g_is_row T) gd (hr.mono (by decide)) T.d_is_row.mgf T.d_is_row.fn.kp T.d_is_row.b (ja_cons (je_var 1) (ja_nil))))) (ja_nil))))))))) (jb_cons (js_ret (je_bl)) (jb_nil)) (jb_nil)) (jb_cons (js_ret (je_all rfl T.b_all (ja_cons (je_tell (jx_lc rfl nd (ji_any (je_var 0)) (own := [("row", 1)]) (blkOk_by (by kernel_rfl)) (fun _ _ _ _ _ => jg_name 1 nd) (fun _ _ _ _ _ => jts_nil) (fun _ _ _ _ _ => je_eq hr (je_len T.b_len (ja_cons (je_var 1) (ja_nil))) (je_len T.b_len (ja_cons (je_ix (je_var 0) (je_int)) (ja_nil)))))) (ja_nil)))) (jb_nil))
theorem sc_check_page : FnScope N_check_page ["value"] (defScope s_check_page) := ⟨rfl, rfl, rfl, by decide +kernel, rfl, by decide +kernel, by decide +kernel⟩
theorem g_check_page (T : AllD P K mg f__law_pot f__law_take f__law_of f__law_bent_row f_is_row f_is_page f_check_page f_show_page f_lines_in f_is_row_of_signs f_read_page f__law_heard f__law_due f__law_right f_law fd__law_pot fd__law_take fd__law_of fd__law_bent_row fd_is_row fd_is_page fd_check_page fd_show_page fd_lines_in fd_is_row_of_signs fd_read_page fd__law_heard fd__law_due fd__law_right fd_law C_BadPage C_BadText C_SetbackError C_BadDocument I_BadPage I_BadText t_BAR t_BLANK_lines t_BLANK_pages t_FEED t_LETTERS_documents t_LETTERS_lines) : FnG P w K mg base (L2.CX P w) 3 f_check_page fd_check_page ["value"] (spX K 1 F_check_page) :=
  have nd : N_check_page.Nodup := sc_check_page.nd
  jfX T.d_check_page.fn sc_check_page (by decide) fun cdv A outer s H E gd hr =>
    jb_cons (js_if (jt_not (jt_val (je_callF (g_is_page T) gd (hr.mono (by decide)) T.d_is_page.mgf T.d_is_page.fn.kp T.d_is_page.b (ja_cons (je_var 0) (ja_nil))))) (jb_cons (js_raise (takes_of rfl rfl rfl rfl) T.x_BadPage T.b_super hr rfl (je_var 0)) (jb_nil)) (jb_nil)) (jb_nil)
theorem sc_show_page : FnScope N_show_page ["page"] (defScope s_show_page) := ⟨rfl, rfl, rfl, by decide +kernel, rfl, by decide +kernel, by decide +kernel⟩
theorem g_show_page (T : AllD P K mg f__law_pot f__law_take f__law_of f__law_bent_row f_is_row f_is_page f_check_page f_show_page f_lines_in f_is_row_of_signs f_read_page f__law_heard f__law_due f__law_right f_law fd__law_pot fd__law_take fd__law_of fd__law_bent_row fd_is_row fd_is_page fd_check_page fd_show_page fd_lines_in fd_is_row_of_signs fd_read_page fd__law_heard fd__law_due fd__law_right fd_law C_BadPage C_BadText C_SetbackError C_BadDocument I_BadPage I_BadText t_BAR t_BLANK_lines t_BLANK_pages t_FEED t_LETTERS_documents t_LETTERS_lines) : FnG P w K mg base (L2.CX P w) 4 f_show_page fd_show_page ["page"] (spX K 1 F_show_page) :=
  have nd : N_show_page.Nodup := sc_show_page.nd
  jfX T.d_show_page.fn sc_show_page (by decide) fun cdv A outer s H E gd hr =>
    jb_cons (js_exprX (jo_callX (takes_of rfl rfl rfl rfl) (g_check_page T) gd (hr.mono (by decide)) T.d_check_page.mgf T.d_check_page.fn.kp T.d_check_page.b (ja_cons (je_var 0) (ja_nil)))) (jb_cons (js_ret (je_join (je_gstr T.c_FEED) (je_tell (jx_lc rfl nd (ji_any (je_var 0)) (own := [("row", 1)]) (blkOk_by (by kernel_rfl)) (fun _ _ _ _ _ => jg_name 1 nd) (fun _ _ _ _ _ => jts_nil) (fun _ _ _ _ _ => je_fstr (jf_cons (je_fmt (je_gstr T.c_BAR)) (jf_cons (je_fmt (je_var 1)) (jf_cons (je_fmt (je_gstr T.c_BAR)) (jf_nil))))))))) (jb_nil))
theorem sc_lines_in : FnScope N_lines_in ["text"] (defScope s_lines_in) := ⟨rfl, rfl, rfl, by decide +kernel, rfl, by decide +kernel, by decide +kernel⟩
theorem g_lines_in (T : AllD P K mg f__law_pot f__law_take f__law_of f__law_bent_row f_is_row f_is_page f_check_page f_show_page f_lines_in f_is_row_of_signs f_read_page f__law_heard f__law_due f__law_right f_law fd__law_pot fd__law_take fd__law_of fd__law_bent_row fd_is_row fd_is_page fd_check_page fd_show_page fd_lines_in fd_is_row_of_signs fd_read_page fd__law_heard fd__law_due fd__law_right fd_law C_BadPage C_BadText C_SetbackError C_BadDocument I_BadPage I_BadText t_BAR t_BLANK_lines t_BLANK_pages t_FEED t_LETTERS_documents t_LETTERS_lines) : FnG P w K mg base (L2.CX P w) 1 f_lines_in fd_lines_in ["text"] (spX K 1 F_lines_in) :=
  have nd : N_lines_in.Nodup := sc_lines_in.nd
  jfX T.d_lines_in.fn sc_lines_in (by decide) fun cdv A outer s H E gd hr =>
    jb_cons (js_if (jt_not (jt_val (je_isi "str" T.b_isinstance T.b_str (by decide +kernel) (je_var 0)))) (jb_cons (js_raise (takes_of rfl rfl rfl rfl) T.x_BadText T.b_super hr rfl (je_int)) (jb_nil)) (jb_nil)) (jb_cons (js_ret (je_split (je_var 0) (je_gstr T.c_FEED))) (jb_nil))
theorem sc_is_row_of_signs : FnScope N_is_row_of_signs ["line"] (defScope s_is_row_of_signs) := ⟨rfl, rfl, rfl, by decide +kernel, rfl, by decide +kernel, by decide +kernel⟩
theorem g_is_row_of_signs (T : AllD P K mg f__law_pot f__law_take f__law_of f__law_bent_row f_is_row f_is_page f_check_page f_show_page f_lines_in f_is_row_of_signs f_read_page f__law_heard f__law_due f__law_right f_law fd__law_pot fd__law_take fd__law_of fd__law_bent_row fd_is_row fd_is_page fd_check_page fd_show_page fd_lines_in fd_is_row_of_signs fd_read_page fd__law_heard fd__law_due fd__law_right fd_law C_BadPage C_BadText C_SetbackError C_BadDocument I_BadPage I_BadText t_BAR t_BLANK_lines t_BLANK_pages t_FEED t_LETTERS_documents t_LETTERS_lines) : FnG P w K mg base CX0 1 f_is_row_of_signs fd_is_row_of_signs ["line"] (spM K 1 F_is_row_of_signs) :=
  have nd : N_is_row_of_signs.Nodup := sc_is_row_of_signs.nd
  jf T.d_is_row_of_signs.fn sc_is_row_of_signs (by decide) fun cdv A outer s H E gd hr =>
    jb_cons (js_set 1 nd (je_slice (je_var 0) (jo_some (je_int)) (jo_some (je_neg (je_int))))) (jb_cons (js_if (JW.jt (jw_or (jt_eq hr (je_len T.b_len (ja_cons (je_var 1) (ja_nil))) (je_int)) (jw_or (jt_ne hr (je_ix (je_var 0) (je_int)) (je_gstr T.c_BAR)) (jw_or1 (jt_ne hr (je_ix (je_var 0) (je_neg (je_int))) (je_gstr T.c_BAR)))))) (jb_cons (js_ret (je_bl)) (jb_nil)) (jb_nil)) (jb_cons (js_ret (je_all rfl T.b_all (ja_cons (je_tell (jx_lc rfl nd (ji_any (je_var 1)) (own := [("sign", 2)]) (blkOk_by (by kernel_rfl)) (fun _ _ _ _ _ => jg_name 2 nd) (fun _ _ _ _ _ => jts_nil) (fun _ _ _ _ _ => je_or (je_eq hr (je_var 2) (je_gstr T.c_BLANK_lines)) (je_one (je_in (je_var 2) (je_gstr T.c_LETTERS_lines)))))) (ja_nil)))) (jb_nil)))
theorem sc_read_page : FnScope N_read_page ["text"] (defScope s_read_page) := ⟨rfl, rfl, rfl, by decide +kernel, rfl, by decide +kernel, by decide +kernel⟩
theorem g_read_page (T : AllD P K mg f__law_pot f__law_take f__law_of f__law_bent_row f_is_row f_is_page f_check_page f_show_page f_lines_in f_is_row_of_signs f_read_page f__law_heard f__law_due f__law_right f_law fd__law_pot fd__law_take fd__law_of fd__law_bent_row fd_is_row fd_is_page fd_check_page fd_show_page fd_lines_in fd_is_row_of_signs fd_read_page fd__law_heard fd__law_due fd__law_right fd_law C_BadPage C_BadText C_SetbackError C_BadDocument I_BadPage I_BadText t_BAR t_BLANK_lines t_BLANK_pages t_FEED t_LETTERS_documents t_LETTERS_lines) : FnG P w K mg base (L2.CX P w) 2 f_read_page fd_read_page ["text"] (spX K 1 F_read_page) :=
  have nd : N_read_page.Nodup := sc_read_page.nd
  jfX T.d_read_page.fn sc_read_page (by decide) fun cdv A outer s H E gd hr =>
    jb_cons (js_setX2 1 nd (jo_callX (takes_of rfl rfl rfl rfl) (g_lines_in T) gd (hr.mono (by decide)) T.d_lines_in.mgf T.d_lines_in.fn.kp T.d_lines_in.b (ja_cons (je_var 0) (ja_nil)))) (jb_cons (js_for rfl (ji_enumA T.b_enumerate (ja_cons (je_var 1) (ja_nil))) (jg_tup rfl (jgs_cons (jg_name 2 nd) (jgs_cons (jg_name 3 nd) (jgs_nil)))) (jb_cons (js_if (JW.jt (jw_or (jt_not (jt_val (je_callF (g_is_row_of_signs T) gd (hr.mono (by decide)) T.d_is_row_of_signs.mgf T.d_is_row_of_signs.fn.kp T.d_is_row_of_signs.b (ja_cons (je_var 3) (ja_nil))))) (jw_or1 (jt_ne hr (je_len T.b_len (ja_cons (je_var 3) (ja_nil))) (je_len T.b_len (ja_cons (je_ix (je_var 1) (je_int)) (ja_nil))))))) (jb_cons (js_raise (takes_of rfl rfl rfl rfl) T.x_BadText T.b_super hr rfl (je_var 2)) (jb_nil)) (jb_nil)) (jb_nil)) (hp := passes_of rfl)) (jb_cons (js_ret (je_totuple T.b_tuple (ja_cons (je_tell (jx_lc rfl nd (ji_any (je_var 1)) (own := [("line", 3)]) (blkOk_by (by kernel_rfl)) (fun _ _ _ _ _ => jg_name 3 nd) (fun _ _ _ _ _ => jts_nil) (fun _ _ _ _ _ => je_slice (je_var 3) (jo_some (je_int)) (jo_some (je_neg (je_int)))))) (ja_nil)))) (jb_nil)))
theorem sc__law_heard : FnScope N__law_heard ["_law_sample"] (defScope s__law_heard) := ⟨rfl, rfl, rfl, by decide +kernel, rfl, by decide +kernel, by decide +kernel⟩
theorem g__law_heard (T : AllD P K mg f__law_pot f__law_take f__law_of f__law_bent_row f_is_row f_is_page f_check_page f_show_page f_lines_in f_is_row_of_signs f_read_page f__law_heard f__law_due f__law_right f_law fd__law_pot fd__law_take fd__law_of fd__law_bent_row fd_is_row fd_is_page fd_check_page fd_show_page fd_lines_in fd_is_row_of_signs fd_read_page fd__law_heard fd__law_due fd__law_right fd_law C_BadPage C_BadText C_SetbackError C_BadDocument I_BadPage I_BadText t_BAR t_BLANK_lines t_BLANK_pages t_FEED t_LETTERS_documents t_LETTERS_lines) : FnG P w K mg base CX0 3 f__law_heard fd__law_heard ["_law_sample"] (spM K 1 F__law_heard) :=
  have nd : N__law_heard.Nodup := sc__law_heard.nd
  jf T.d__law_heard.fn sc__law_heard (by decide) fun cdv A outer s H E gd hr =>
    jb_cons (js_unp (je_tup (ja_cons (je_non) (ja_cons (je_non) (ja_nil)))) (jg_tup rfl (jgs_cons (jg_name 1 nd) (jgs_cons (jg_name 2 nd) (jgs_nil))))) (jb_cons (js_try_keep 1 3 (sub := kx [("BadPage", true), ("BadText", true)]) nd (by decide) (takes0) rfl rfl rfl ⟨rfl, by decide, Or.inl T.h_SetbackError⟩ (fun c C b h1 h2 => T.hs_SetbackError.hx c C b h1 h2) (fun W1 pn xe tk1 po1 => jb_cons (js_setX2 2 nd (jo_callX (tk1) (g_read_page T) gd (hr.mono (by decide)) T.d_read_page.mgf T.d_read_page.fn.kp T.d_read_page.b (ja_cons (je_var 0) (ja_nil)))) (jb_nil))) (jb_cons (js_if (jt_isNO (je_var 1)) (jb_cons (js_ret (je_tup (ja_cons (je_str) (ja_cons (je_var 2) (ja_nil))))) (jb_nil)) (jb_nil)) (jb_cons (js_set 4 nd (je_and (je_isX [("BadPage", false), ("BadText", true)] T.b_isinstance T.h_BadText (je_var 1) T.kit_BadText T.kn_BadText) (je_one (je_not (je_isX2 [("BadPage", true), ("BadText", false)] [("BadPage", false), ("BadText", false)] T.b_isinstance T.h_BadPage T.h_BadDocument (je_var 1) T.kit_BadPage T.kit_BadDocument))))) (jb_cons (js_ret (je_if (JW.jt (jw_and (jt_val (je_var 4)) (jw_and1 (jt_val (je_isXB "ValueError" [("BadPage", true), ("BadText", true)] T.b_isinstance T.b_ValueError (by decide +kernel) (je_var 1) T.kit_ValueError T.kn_ValueError))))) (je_tup (ja_cons (je_str) (ja_cons (je_fldX [("BadPage", false), ("BadText", true)] (je_var 1) T.fld_line) (ja_nil)))) (je_tup (ja_cons (je_str) (ja_cons (je_non) (ja_nil)))))) (jb_nil)))))
theorem sc__law_due : FnScope N__law_due ["_law_sample"] (defScope s__law_due) := ⟨rfl, rfl, rfl, by decide +kernel, rfl, by decide +kernel, by decide +kernel⟩
theorem g__law_due (T : AllD P K mg f__law_pot f__law_take f__law_of f__law_bent_row f_is_row f_is_page f_check_page f_show_page f_lines_in f_is_row_of_signs f_read_page f__law_heard f__law_due f__law_right f_law fd__law_pot fd__law_take fd__law_of fd__law_bent_row fd_is_row fd_is_page fd_check_page fd_show_page fd_lines_in fd_is_row_of_signs fd_read_page fd__law_heard fd__law_due fd__law_right fd_law C_BadPage C_BadText C_SetbackError C_BadDocument I_BadPage I_BadText t_BAR t_BLANK_lines t_BLANK_pages t_FEED t_LETTERS_documents t_LETTERS_lines) : FnG P w K mg base CX0 1 f__law_due fd__law_due ["_law_sample"] (spM K 1 F__law_due) :=
  have nd : N__law_due.Nodup := sc__law_due.nd
  jf T.d__law_due.fn sc__law_due (by decide) fun cdv A outer s H E gd hr =>
    jb_cons (js_if (jt_not (jt_val (je_isi "str" T.b_isinstance T.b_str (by decide +kernel) (je_var 0)))) (jb_cons (js_ret (je_tup (ja_cons (je_str) (ja_cons (je_int) (ja_nil))))) (jb_nil)) (jb_nil)) (jb_cons (js_set 1 nd (je_split (je_var 0) (je_str))) (jb_cons (js_for rfl (ji_enumA T.b_enumerate (ja_cons (je_var 1) (ja_nil))) (jg_tup rfl (jgs_cons (jg_name 2 nd) (jgs_cons (jg_name 3 nd) (jgs_nil)))) (jb_cons (js_if (JW.jt (jw_or (jt_lt (je_len T.b_len (ja_cons (je_var 3) (ja_nil))) (je_int)) (jw_or (jt_ne hr (je_ix (je_var 3) (je_int)) (je_str)) (jw_or (jt_ne hr (je_ix (je_var 3) (je_sub (je_len T.b_len (ja_cons (je_var 3) (ja_nil))) (je_int))) (je_str)) (jw_or1 (jt_ne hr (je_len T.b_len (ja_cons (je_var 3) (ja_nil))) (je_len T.b_len (ja_cons (je_ix (je_var 1) (je_int)) (ja_nil))))))))) (jb_cons (js_ret (je_tup (ja_cons (je_str) (ja_cons (je_var 2) (ja_nil))))) (jb_nil)) (jb_nil)) (jb_cons (js_if (jt_not (jt_val (je_all rfl T.b_all (ja_cons (je_tell (jx_lc rfl nd (ji_any (je_slice (je_var 3) (jo_some (je_int)) (jo_some (je_neg (je_int))))) (own := [("_law_sign", 4)]) (blkOk_by (by kernel_rfl)) (fun _ _ _ _ _ => jg_name 4 nd) (fun _ _ _ _ _ => jts_nil) (fun _ _ _ _ _ => je_in (je_var 4) (je_str)))) (ja_nil))))) (jb_cons (js_ret (je_tup (ja_cons (je_str) (ja_cons (je_var 2) (ja_nil))))) (jb_nil)) (jb_nil)) (jb_nil)))) (jb_cons (js_ret (je_tup (ja_cons (je_str) (ja_cons (je_totuple T.b_tuple (ja_cons (je_tell (jx_lc rfl nd (ji_any (je_var 1)) (own := [("_law_row", 3)]) (blkOk_by (by kernel_rfl)) (fun _ _ _ _ _ => jg_name 3 nd) (fun _ _ _ _ _ => jts_nil) (fun _ _ _ _ _ => je_slice (je_var 3) (jo_some (je_int)) (jo_some (je_neg (je_int)))))) (ja_nil))) (ja_nil))))) (jb_nil))))
theorem sc__law_right : FnScope N__law_right ["_law_pot_here"] (defScope s__law_right) := ⟨rfl, rfl, rfl, by decide +kernel, rfl, by decide +kernel, by decide +kernel⟩
theorem g__law_right (T : AllD P K mg f__law_pot f__law_take f__law_of f__law_bent_row f_is_row f_is_page f_check_page f_show_page f_lines_in f_is_row_of_signs f_read_page f__law_heard f__law_due f__law_right f_law fd__law_pot fd__law_take fd__law_of fd__law_bent_row fd_is_row fd_is_page fd_check_page fd_show_page fd_lines_in fd_is_row_of_signs fd_read_page fd__law_heard fd__law_due fd__law_right fd_law C_BadPage C_BadText C_SetbackError C_BadDocument I_BadPage I_BadText t_BAR t_BLANK_lines t_BLANK_pages t_FEED t_LETTERS_documents t_LETTERS_lines) : FnG P w K mg base CX0 5 f__law_right fd__law_right ["_law_pot_here"] (spM K 1 F__law_right) :=
  have nd : N__law_right.Nodup := sc__law_right.nd
  jf T.d__law_right.fn sc__law_right (by decide) fun cdv A outer s H E gd hr =>
    jb_cons (js_par2 rfl nd (jxs_cons (jx_je (je_add (je_int) (je_callF (g__law_take T) gd (hr.mono (by decide)) T.d__law_take.mgf T.d__law_take.fn.kp T.d__law_take.b (ja_cons (je_var 0) (ja_cons (je_int) (ja_nil)))))) (jxs_cons (jx_je (je_add (je_int) (je_callF (g__law_take T) gd (hr.mono (by decide)) T.d__law_take.mgf T.d__law_take.fn.kp T.d__law_take.b (ja_cons (je_var 0) (ja_cons (je_int) (ja_nil)))))) (jxs_nil)))) (jb_cons (js_setX 3 nd (jx_lst (ja_nil))) (jb_cons (js_for rfl (ji_rng1 T.b_range (ja_cons (je_var 1) (ja_nil))) (jg_name 4 nd) (jb_cons (js_set 5 nd (je_callF (g__law_of T) gd (hr.mono (by decide)) T.d__law_of.mgf T.d__law_of.fn.kp T.d__law_of.b (ja_cons (je_var 0) (ja_cons (je_lst (ja_cons (je_str) (ja_cons (je_str) (ja_cons (je_str) (ja_cons (je_str) (ja_nil)))))) (ja_nil))))) (jb_cons (js_app 3 (je_join (je_str) (je_tell (jx_lc rfl nd (ji_rng1 T.b_range (ja_cons (je_var 2) (ja_nil))) (own := [("_law_place", 6)]) (blkOk_by (by kernel_rfl)) (fun _ _ _ _ _ => jg_name 6 nd) (fun _ _ _ _ _ => jts_nil) (fun _ _ _ _ _ => je_callF (g__law_of T) gd (hr.mono (by decide)) T.d__law_of.mgf T.d__law_of.fn.kp T.d__law_of.b (ja_cons (je_var 0) (ja_cons (je_var 5) (ja_nil)))))))) (jb_nil)))) (jb_frz 3 (jb_cons (js_par2 rfl nd (jxs_cons (jx_je (je_repr gd hr T.b_repr (ja_cons (je_totuple T.b_tuple (ja_cons (je_var 3) (ja_nil))) (ja_nil)))) (jxs_cons (jx_je (je_join (je_str) (je_tell (jx_lc rfl nd (ji_any (je_var 3)) (own := [("_law_row", 4)]) (blkOk_by (by kernel_rfl)) (fun _ _ _ _ _ => jg_name 4 nd) (fun _ _ _ _ _ => jts_nil) (fun _ _ _ _ _ => je_add (je_add (je_str) (je_var 4)) (je_str)))))) (jxs_nil)))) (jb_cons (js_if (JW.jt (jw_or (jt_ne hr (je_repr gd hr T.b_repr (ja_cons (je_callFX (g_show_page T) gd (hr.mono (by decide)) T.d_show_page.mgf T.d_show_page.fn.kp T.d_show_page.b (ja_cons (je_totuple T.b_tuple (ja_cons (je_var 3) (ja_nil))) (ja_nil))) (ja_nil))) (je_repr gd hr T.b_repr (ja_cons (je_var 8) (ja_nil)))) (jw_or1 (jt_ne hr (je_repr gd hr T.b_repr (ja_cons (je_callFKX (g_show_page T) gd (hr.mono (by decide)) T.d_show_page.mgf T.d_show_page.fn.kp T.d_show_page.kb (jk_cons (je_totuple T.b_tuple (ja_cons (je_var 3) (ja_nil))) (jk_nil))) (ja_nil))) (je_repr gd hr T.b_repr (ja_cons (je_var 8) (ja_nil))))))) (jb_cons (js_ret (je_bl)) (jb_nil)) (jb_nil)) (jb_cons (js_if (JW.jt (jw_or (jt_ne hr (je_repr gd hr T.b_repr (ja_cons (je_callFX (g_read_page T) gd (hr.mono (by decide)) T.d_read_page.mgf T.d_read_page.fn.kp T.d_read_page.b (ja_cons (je_var 8) (ja_nil))) (ja_nil))) (je_var 7)) (jw_or1 (jt_ne hr (je_repr gd hr T.b_repr (ja_cons (je_callFKX (g_read_page T) gd (hr.mono (by decide)) T.d_read_page.mgf T.d_read_page.fn.kp T.d_read_page.kb (jk_cons (je_var 8) (jk_nil))) (ja_nil))) (je_var 7))))) (jb_cons (js_ret (je_bl)) (jb_nil)) (jb_nil)) (jb_cons (js_for rfl (ji_rng1 T.b_range (ja_cons (je_int) (ja_nil))) (jg_name 9 nd) (jb_cons (js_set 10 nd (je_callF (g__law_bent_row T) gd (hr.mono (by decide)) T.d__law_bent_row.mgf T.d__law_bent_row.fn.kp T.d__law_bent_row.b (ja_cons (je_var 0) (ja_cons (je_var 8) (ja_nil))))) (jb_cons (js_set 10 nd (je_if (jt_eq hr (je_callF (g__law_take T) gd (hr.mono (by decide)) T.d__law_take.mgf T.d__law_take.fn.kp T.d__law_take.b (ja_cons (je_var 0) (ja_cons (je_int) (ja_nil)))) (je_int)) (je_callF (g__law_bent_row T) gd (hr.mono (by decide)) T.d__law_bent_row.mgf T.d__law_bent_row.fn.kp T.d__law_bent_row.b (ja_cons (je_var 0) (ja_cons (je_var 10) (ja_nil)))) (je_var 10))) (jb_cons (js_if (jt_ne hr (je_repr gd hr T.b_repr (ja_cons (je_callF (g__law_heard T) gd (hr.mono (by decide)) T.d__law_heard.mgf T.d__law_heard.fn.kp T.d__law_heard.b (ja_cons (je_var 10) (ja_nil))) (ja_nil))) (je_repr gd hr T.b_repr (ja_cons (je_callF (g__law_due T) gd (hr.mono (by decide)) T.d__law_due.mgf T.d__law_due.fn.kp T.d__law_due.b (ja_cons (je_var 10) (ja_nil))) (ja_nil)))) (jb_cons (js_ret (je_bl)) (jb_nil)) (jb_nil)) (jb_nil))))) (jb_cons (js_ret (je_bl)) (jb_nil)))))))))
theorem sc_law : FnScope N_law ["_law_script"] (defScope s_law) := ⟨rfl, rfl, rfl, by decide +kernel, rfl, by decide +kernel, by decide +kernel⟩
theorem g_law (T : AllD P K mg f__law_pot f__law_take f__law_of f__law_bent_row f_is_row f_is_page f_check_page f_show_page f_lines_in f_is_row_of_signs f_read_page f__law_heard f__law_due f__law_right f_law fd__law_pot fd__law_take fd__law_of fd__law_bent_row fd_is_row fd_is_page fd_check_page fd_show_page fd_lines_in fd_is_row_of_signs fd_read_page fd__law_heard fd__law_due fd__law_right fd_law C_BadPage C_BadText C_SetbackError C_BadDocument I_BadPage I_BadText t_BAR t_BLANK_lines t_BLANK_pages t_FEED t_LETTERS_documents t_LETTERS_lines) : FnG P w K mg base CX0 6 f_law fd_law ["_law_script"] (spM K 1 F_law) :=
  have nd : N_law.Nodup := sc_law.nd
  jf T.d_law.fn sc_law (by decide) fun cdv A outer s H E gd hr =>
    jb_cons (js_set 1 nd (je_lst (ja_cons (je_str) (ja_cons (je_str) (ja_cons (je_str) (ja_cons (je_non) (ja_cons (je_int) (ja_cons (je_tup (ja_cons (je_str) (ja_nil))) (ja_cons (je_str) (ja_cons (je_str) (ja_nil))))))))))) (jb_cons (js_if (jt_not (jt_val (je_all rfl T.b_all (ja_cons (je_tell (jx_lc rfl nd (ji_any (je_var 1)) (own := [("_law_sample", 2)]) (blkOk_by (by kernel_rfl)) (fun _ _ _ _ _ => jg_name 2 nd) (fun _ _ _ _ _ => jts_nil) (fun _ _ _ _ _ => je_eq hr (je_repr gd hr T.b_repr (ja_cons (je_callF (g__law_heard T) gd (hr.mono (by decide)) T.d__law_heard.mgf T.d__law_heard.fn.kp T.d__law_heard.b (ja_cons (je_var 2) (ja_nil))) (ja_nil))) (je_repr gd hr T.b_repr (ja_cons (je_callF (g__law_due T) gd (hr.mono (by decide)) T.d__law_due.mgf T.d__law_due.fn.kp T.d__law_due.b (ja_cons (je_var 2) (ja_nil))) (ja_nil)))))) (ja_nil))))) (jb_cons (js_ret (je_bl)) (jb_nil)) (jb_nil)) (jb_cons (js_for rfl (ji_rng1 T.b_range (ja_cons (je_max2 rfl T.b_max (ja_cons (je_int) (ja_cons (je_min2 rfl T.b_min (ja_cons (je_int) (ja_cons (je_lenS T.b_len (je_var 0)) (ja_nil)))) (ja_nil)))) (ja_nil))) (jg_name 3 nd) (jb_cons (js_setX 4 nd (jx_callC (g__law_pot T) gd (hr.mono (by decide)) T.d__law_pot.mgf T.d__law_pot.fn.kp T.d__law_pot.b (ja_cons (je_var 0) (ja_cons (je_var 3) (ja_nil))))) (jb_cons (js_if (jt_not (jt_val (je_all rfl T.b_all (ja_cons (je_tell (jx_lc rfl nd (ji_rng1 T.b_range (ja_cons (je_int) (ja_nil))) (own := [("_law_turn", 5)]) (blkOk_by (by kernel_rfl)) (fun _ _ _ _ _ => jg_name 5 nd) (fun _ _ _ _ _ => jts_nil) (fun _ _ _ _ _ => je_callF (g__law_right T) gd (hr.mono (by decide)) T.d__law_right.mgf T.d__law_right.fn.kp T.d__law_right.b (ja_cons (je_var 4) (ja_nil))))) (ja_nil))))) (jb_cons (js_ret (je_bl)) (jb_nil)) (jb_nil)) (jb_nil)))) (jb_cons (js_ret (je_bl)) (jb_nil))))
end
end VL

set_option Elab.async false
set_option linter.all false
set_option maxRecDepth 100000
set_option maxHeartbeats 4000000
namespace VL
open PySem PySem.Spec PyProof.Rows L2
/-! the pot that most laws draw from -/
structure Pot where
  a : Int
  b : Int
  c : Int
def potD (p : Pot) : List PyData := [.int p.a, .int p.b, .int p.c]
structure Bud (n : Nat) (p : Pot) : Prop where
  c0 : 0 ≤ p.c
  c1 : p.c + n ≤ 1099511627776
  b0 : 0 ≤ p.b
  b1 : p.b < 2305843009213693951
theorem Bud.le {m n : Nat} {p : Pot} (h : Bud n p) (hm : m ≤ n) : Bud m p := ⟨h.c0, by have := h.c1; omega, h.b0, h.b1⟩
theorem ix30 : ixN 3 0 = some 0 := rfl
theorem ix31 : ixN 3 1 = some 1 := rfl
theorem ix32 : ixN 3 2 = some 2 := rfl
theorem ix50 : ixN 5 0 = some 0 := rfl
theorem ix51 : ixN 5 1 = some 1 := rfl
theorem ix52 : ixN 5 2 = some 2 := rfl
theorem ix53 : ixN 5 3 = some 3 := rfl
theorem ix54 : ixN 5 4 = some 4 := rfl
theorem pow3 {x : Int} (h0 : 0 ≤ x) (h : x < 2 ^ 200) : powD (.int x) (.int 3) = some (.int (x ^ 3)) := by
  have hb : Builtin.Int.intBits x ≤ 200 := by
    rw [PySem.intBits_le_iff]
    have : ((x.natAbs : Nat) : Int) < ((2 ^ 200 : Nat) : Int) := by
      rw [Int.natAbs_of_nonneg h0]
      exact h
    exact Int.ofNat_lt.mp this
  exact powD_ok ⟨by decide, by
    have : (Builtin.Int.intBits x : Int) ≤ 200 := by exact_mod_cast hb
    have h2 : ((2 : Int) ^ 27) = 134217728 := by decide
    rw [h2]
    omega⟩
theorem mul_lt {a b A B : Int} (ha : 0 ≤ a) (hb : 0 ≤ b) (hA : a ≤ A) (hB : b ≤ B) : a * b ≤ A * B := Int.mul_le_mul hA hB hb (Int.le_trans ha hA)
theorem take_ok {p : Pot} {many : Int} {n : Nat} (h : Bud (n + 1) p) (hm : 0 < many) (hs : many < 1073741824) :
    ∃ r p', F__law_take [.q (potD p), .v (.int many)] = some (.int r, [.q (potD p'), .v (.int many)]) ∧ 0 ≤ r ∧ r < many ∧ Bud n p' := by
  have hc0 := h.c0
  have hc1 := h.c1
  by_cases h0 : 0 < p.a
  · refine ⟨p.a % many, ⟨p.a / many, p.b, p.c⟩, ?_, Int.emod_nonneg _ (by omega), Int.emod_lt_of_pos _ hm, h.c0, by show p.c + _ ≤ (1099511627776 : Int); omega, h.b0, h.b1⟩
    simp only [defM, defMc, defMX, mExprX, mSetX2, mRetX2, mCallX, mValX, mRaise, mTryK, mIsE, mFld, mIsN, mIsNN, mIsE2, mFStr, mJoin, mEnumA, mNil, mSeq, mSeqC, mRetC, mIfS, mRet, mRetN, mBk, mCt, mSet, mSetX, mPut, mApp, mFrz, mAug, mDrop, mIns, mPopAt, mPar, setAll, mUnp, gSet, gTupM, gsCons, gsNil, tVal, tAndM, tOrM, tNotM, tYesM, mBin, mUn, mAnd, mOr, mNot, mIf, mChain, mVar, mC, mCall, mCallF, mCallC, argsOf, argOf, ptrs, putBack, aNil, aCons, mTup, mLst, mV, mTell, xLst, xToList, xsNil, xsCons, mLenS, mIxS, mDict1, mSl, oNone, oSome, mFor, mIt, mRng1, mRng2, mEnum, xLc, ownOk, wp, unwp, startS, ixD, atI, addD_int, addD_str, addD_list, addD_tuple, subD, mulD_l, mulD_r, fdivD_pos, modD_pos, ltD_int, leD_int, gtD_int, geD_int, eqD_int, neD_int, eqD_tupE, eqD_strs, neD_strs, isND, isNotND, intF, absF, lenF, joinF, negD, List.map, List.length_cons, List.length_nil, List.cons_append, List.nil_append, List.append_nil, List.replicate, List.getElem?_cons_zero, List.getElem?_cons_succ, List.set_cons_zero, List.set_cons_succ, putAt, SL.put, stables, derefs, stable, deref, heldAt, SL.held, Int.reduceLT, Int.reduceLE, Int.reduceNeg, Nat.reduceAdd, Nat.reduceLeDiff, and_self, true_and, and_true, ite_true, if_true, List.nodup_cons, List.nodup_nil, List.not_mem_nil, not_false_eq_true, Nat.succ_ne_zero, eq_self, Option.bind_some, Option.bind, Option.map, id, asOut, F__law_take, m__law_take, potD, ix30, decide_eq_true h0, hm, hs]
  · have c1 : -18446744073709551616 < p.c + 1 := by omega
    have c2 : p.c + 1 < 18446744073709551616 := by omega
    obtain ⟨q, eq⟩ : ∃ q : Int, q = p.b + 99907 * (p.c + 1) * (p.c + 1) + 53 := ⟨_, rfl⟩
    have q0 : 0 ≤ q := by
      have : 0 ≤ 99907 * (p.c + 1) * (p.c + 1) := Int.mul_nonneg (Int.mul_nonneg (by decide) (by omega)) (by omega)
      have := h.b0
      omega
    have q1 : q < 2 ^ 200 := by
      have e1 : 99907 * (p.c + 1) * (p.c + 1) ≤ 99907 * 1099511627777 * 1099511627777 := mul_lt (Int.mul_nonneg (by decide) (by omega)) (by omega) (mul_lt (by decide) (by omega) (by decide) (by omega)) (by omega)
      have := h.b1
      have e2 : (2 : Int) ^ 200 = 1606938044258990275541962092341162602522202993782792835301376 := by decide
      rw [e2]
      omega
    have pw := pow3 q0 q1
    have fin : Bud n ⟨p.a, p.b, p.c + 1⟩ := ⟨by show 0 ≤ p.c + 1; omega, by show p.c + 1 + _ ≤ (1099511627776 : Int); omega, h.b0, h.b1⟩
    have go : ∀ (k : Int) (j : Nat) (pr : Int), (p.c + 1) % 5 = k → ixN 5 k = some j → ([.int 2147483647, .int 2147483629, .int 2147483587, .int 2147483579, .int 2147483563] : List PyData)[j]? = some (.int pr) → 0 < pr → pr < 2147483648 →
        ∃ r p', F__law_take [.q (potD p), .v (.int many)] = some (.int r, [.q (potD p'), .v (.int many)]) ∧ 0 ≤ r ∧ r < many ∧ Bud n p' := by
      intro k j pr ek ej ep pr0 pr1
      obtain ⟨m1, e1⟩ : ∃ m : Int, m = (q ^ 3) % pr := ⟨_, rfl⟩
      have m10 : -18446744073709551616 < m1 := e1 ▸ Int.lt_of_lt_of_le (by decide) (Int.emod_nonneg _ (by omega))
      have m11 : m1 < 18446744073709551616 := e1 ▸ Int.lt_trans (Int.emod_lt_of_pos _ pr0) (by omega)
      obtain ⟨m2, e2⟩ : ∃ m : Int, m = (m1 * (m1 % 10007 + 89 * (p.c + 1))) % 2305843009213693907 := ⟨_, rfl⟩
      refine ⟨(m2 / 103) % many, ⟨p.a, p.b, p.c + 1⟩, ?_, Int.emod_nonneg _ (by omega), Int.emod_lt_of_pos _ hm, fin⟩
      simp only [defM, defMc, defMX, mExprX, mSetX2, mRetX2, mCallX, mValX, mRaise, mTryK, mIsE, mFld, mIsN, mIsNN, mIsE2, mFStr, mJoin, mEnumA, mNil, mSeq, mSeqC, mRetC, mIfS, mRet, mRetN, mBk, mCt, mSet, mSetX, mPut, mApp, mFrz, mAug, mDrop, mIns, mPopAt, mPar, setAll, mUnp, gSet, gTupM, gsCons, gsNil, tVal, tAndM, tOrM, tNotM, tYesM, mBin, mUn, mAnd, mOr, mNot, mIf, mChain, mVar, mC, mCall, mCallF, mCallC, argsOf, argOf, ptrs, putBack, aNil, aCons, mTup, mLst, mV, mTell, xLst, xToList, xsNil, xsCons, mLenS, mIxS, mDict1, mSl, oNone, oSome, mFor, mIt, mRng1, mRng2, mEnum, xLc, ownOk, wp, unwp, startS, ixD, atI, addD_int, addD_str, addD_list, addD_tuple, subD, mulD_l, mulD_r, fdivD_pos, modD_pos, ltD_int, leD_int, gtD_int, geD_int, eqD_int, neD_int, eqD_tupE, eqD_strs, neD_strs, isND, isNotND, intF, absF, lenF, joinF, negD, List.map, List.length_cons, List.length_nil, List.cons_append, List.nil_append, List.append_nil, List.replicate, List.getElem?_cons_zero, List.getElem?_cons_succ, List.set_cons_zero, List.set_cons_succ, putAt, SL.put, stables, derefs, stable, deref, heldAt, SL.held, Int.reduceLT, Int.reduceLE, Int.reduceNeg, Nat.reduceAdd, Nat.reduceLeDiff, and_self, true_and, and_true, ite_true, if_true, List.nodup_cons, List.nodup_nil, List.not_mem_nil, not_false_eq_true, Nat.succ_ne_zero, eq_self, Option.bind_some, Option.bind, Option.map, id, asOut, F__law_take, m__law_take, potD, ix30, ix31, ix32, decide_eq_false h0, hm, mulD_r c1 c2, mulD_l m10 m11, ek, ej, ep, ← eq, pw, pr0, ← e1, ← e2]
    have hk : (p.c + 1) % 5 = 0 ∨ (p.c + 1) % 5 = 1 ∨ (p.c + 1) % 5 = 2 ∨ (p.c + 1) % 5 = 3 ∨ (p.c + 1) % 5 = 4 := by omega
    rcases hk with e | e | e | e | e
    · exact go _ _ _ e ix50 rfl (by decide) (by decide)
    · exact go _ _ _ e ix51 rfl (by decide) (by decide)
    · exact go _ _ _ e ix52 rfl (by decide) (by decide)
    · exact go _ _ _ e ix53 rfl (by decide) (by decide)
    · exact go _ _ _ e ix54 rfl (by decide) (by decide)
theorem nd1 (i : Nat) : (ptrs [.p i, .v x]).Nodup := by simp [ptrs]
theorem pot_ok {ns : List Int} {k : Int} (h0 : 0 ≤ k) (hk : k ≤ 100) : ∃ p, F__law_pot [.s (.ns ns), .v (.int k)] = some (potD p, [.s (.ns ns), .v (.int k)]) ∧ Bud 1000000000 p := by
  have k1 : -18446744073709551616 < k := by omega
  have k2 : k < 18446744073709551616 := by omega
  obtain ⟨B, e1, hB⟩ : ∃ B : Int, powD (.int (10 ^ 60)) (.int 5) = some (.int B) ∧ 0 < B := ⟨(10 ^ 60) ^ 5, powD_ok (by decide +kernel), by decide⟩
  obtain ⟨U, e0⟩ : ∃ U : Int, powD (.int 10) (.int 60) = some (.int U) ∧ U = 10 ^ 60 := ⟨_, powD_ok (by decide +kernel), rfl⟩
  obtain ⟨W, e2⟩ : ∃ W : Int, powD (.int 10) (.int 18) = some (.int W) := ⟨10 ^ 18, powD_ok (by decide +kernel)⟩
  obtain ⟨e0, rfl⟩ := e0
  have fin : ∀ (a b : Int), Bud 1000000000 ⟨a, b % 2305843009213693921, 0⟩ := fun a b => ⟨Int.le_refl _, by show (0 : Int) + ((1000000000 : Nat) : Int) ≤ 1099511627776; omega, Int.emod_nonneg _ (by decide), Int.lt_trans (Int.emod_lt_of_pos _ (by decide)) (by decide)⟩
  by_cases h : k < ns.length
  · have hk : k.toNat < ns.length := by omega
    by_cases h2 : W ≤ (if ns[k.toNat] < 0 then -ns[k.toNat] else ns[k.toNat])
    · refine ⟨⟨?a1, ?b1 % 2305843009213693921, 0⟩, ?g1, fin ?a1 ?b1⟩
      case g1 =>
        simp only [defM, defMc, defMX, mExprX, mSetX2, mRetX2, mCallX, mValX, mRaise, mTryK, mIsE, mFld, mIsN, mIsNN, mIsE2, mFStr, mJoin, mEnumA, mNil, mSeq, mSeqC, mRetC, mIfS, mRet, mRetN, mBk, mCt, mSet, mSetX, mPut, mApp, mFrz, mAug, mDrop, mIns, mPopAt, mPar, setAll, mUnp, gSet, gTupM, gsCons, gsNil, tVal, tAndM, tOrM, tNotM, tYesM, mBin, mUn, mAnd, mOr, mNot, mIf, mChain, mVar, mC, mCall, mCallF, mCallC, argsOf, argOf, ptrs, putBack, aNil, aCons, mTup, mLst, mV, mTell, xLst, xToList, xsNil, xsCons, mLenS, mIxS, mDict1, mSl, oNone, oSome, mFor, mIt, mRng1, mRng2, mEnum, xLc, ownOk, wp, unwp, startS, ixD, atI, addD_int, addD_str, addD_list, addD_tuple, subD, mulD_l, mulD_r, fdivD_pos, modD_pos, ltD_int, leD_int, gtD_int, geD_int, eqD_int, neD_int, eqD_tupE, eqD_strs, neD_strs, isND, isNotND, intF, absF, lenF, joinF, negD, List.map, List.length_cons, List.length_nil, List.cons_append, List.nil_append, List.append_nil, List.replicate, List.getElem?_cons_zero, List.getElem?_cons_succ, List.set_cons_zero, List.set_cons_succ, putAt, SL.put, stables, derefs, stable, deref, heldAt, SL.held, Int.reduceLT, Int.reduceLE, Int.reduceNeg, Nat.reduceAdd, Nat.reduceLeDiff, and_self, true_and, and_true, ite_true, if_true, List.nodup_cons, List.nodup_nil, List.not_mem_nil, not_false_eq_true, Nat.succ_ne_zero, eq_self, Option.bind_some, Option.bind, Option.map, id, asOut, F__law_pot, m__law_pot, decide_eq_true h, ix_int h0 h, List.getElem?_eq_getElem hk, e0, e1, e2, hB, k1, k2, decide_eq_true h2]
        exact rfl
    · refine ⟨⟨?a2, ?b2 % 2305843009213693921, 0⟩, ?g2, fin ?a2 ?b2⟩
      case g2 =>
        simp only [defM, defMc, defMX, mExprX, mSetX2, mRetX2, mCallX, mValX, mRaise, mTryK, mIsE, mFld, mIsN, mIsNN, mIsE2, mFStr, mJoin, mEnumA, mNil, mSeq, mSeqC, mRetC, mIfS, mRet, mRetN, mBk, mCt, mSet, mSetX, mPut, mApp, mFrz, mAug, mDrop, mIns, mPopAt, mPar, setAll, mUnp, gSet, gTupM, gsCons, gsNil, tVal, tAndM, tOrM, tNotM, tYesM, mBin, mUn, mAnd, mOr, mNot, mIf, mChain, mVar, mC, mCall, mCallF, mCallC, argsOf, argOf, ptrs, putBack, aNil, aCons, mTup, mLst, mV, mTell, xLst, xToList, xsNil, xsCons, mLenS, mIxS, mDict1, mSl, oNone, oSome, mFor, mIt, mRng1, mRng2, mEnum, xLc, ownOk, wp, unwp, startS, ixD, atI, addD_int, addD_str, addD_list, addD_tuple, subD, mulD_l, mulD_r, fdivD_pos, modD_pos, ltD_int, leD_int, gtD_int, geD_int, eqD_int, neD_int, eqD_tupE, eqD_strs, neD_strs, isND, isNotND, intF, absF, lenF, joinF, negD, List.map, List.length_cons, List.length_nil, List.cons_append, List.nil_append, List.append_nil, List.replicate, List.getElem?_cons_zero, List.getElem?_cons_succ, List.set_cons_zero, List.set_cons_succ, putAt, SL.put, stables, derefs, stable, deref, heldAt, SL.held, Int.reduceLT, Int.reduceLE, Int.reduceNeg, Nat.reduceAdd, Nat.reduceLeDiff, and_self, true_and, and_true, ite_true, if_true, List.nodup_cons, List.nodup_nil, List.not_mem_nil, not_false_eq_true, Nat.succ_ne_zero, eq_self, Option.bind_some, Option.bind, Option.map, id, asOut, F__law_pot, m__law_pot, decide_eq_true h, ix_int h0 h, List.getElem?_eq_getElem hk, e0, e1, e2, hB, k1, k2, decide_eq_false h2, Bool.false_eq_true, if_false]
        exact rfl
  · by_cases h2 : W ≤ (if 37 * k + 11 < 0 then -(37 * k + 11) else 37 * k + 11)
    · refine ⟨⟨?a3, ?b3 % 2305843009213693921, 0⟩, ?g3, fin ?a3 ?b3⟩
      case g3 =>
        simp only [defM, defMc, defMX, mExprX, mSetX2, mRetX2, mCallX, mValX, mRaise, mTryK, mIsE, mFld, mIsN, mIsNN, mIsE2, mFStr, mJoin, mEnumA, mNil, mSeq, mSeqC, mRetC, mIfS, mRet, mRetN, mBk, mCt, mSet, mSetX, mPut, mApp, mFrz, mAug, mDrop, mIns, mPopAt, mPar, setAll, mUnp, gSet, gTupM, gsCons, gsNil, tVal, tAndM, tOrM, tNotM, tYesM, mBin, mUn, mAnd, mOr, mNot, mIf, mChain, mVar, mC, mCall, mCallF, mCallC, argsOf, argOf, ptrs, putBack, aNil, aCons, mTup, mLst, mV, mTell, xLst, xToList, xsNil, xsCons, mLenS, mIxS, mDict1, mSl, oNone, oSome, mFor, mIt, mRng1, mRng2, mEnum, xLc, ownOk, wp, unwp, startS, ixD, atI, addD_int, addD_str, addD_list, addD_tuple, subD, mulD_l, mulD_r, fdivD_pos, modD_pos, ltD_int, leD_int, gtD_int, geD_int, eqD_int, neD_int, eqD_tupE, eqD_strs, neD_strs, isND, isNotND, intF, absF, lenF, joinF, negD, List.map, List.length_cons, List.length_nil, List.cons_append, List.nil_append, List.append_nil, List.replicate, List.getElem?_cons_zero, List.getElem?_cons_succ, List.set_cons_zero, List.set_cons_succ, putAt, SL.put, stables, derefs, stable, deref, heldAt, SL.held, Int.reduceLT, Int.reduceLE, Int.reduceNeg, Nat.reduceAdd, Nat.reduceLeDiff, and_self, true_and, and_true, ite_true, if_true, List.nodup_cons, List.nodup_nil, List.not_mem_nil, not_false_eq_true, Nat.succ_ne_zero, eq_self, Option.bind_some, Option.bind, Option.map, id, asOut, F__law_pot, m__law_pot, decide_eq_false h, e0, e1, e2, hB, k1, k2, decide_eq_true h2]
        exact rfl
    · refine ⟨⟨?a4, ?b4 % 2305843009213693921, 0⟩, ?g4, fin ?a4 ?b4⟩
      case g4 =>
        simp only [defM, defMc, defMX, mExprX, mSetX2, mRetX2, mCallX, mValX, mRaise, mTryK, mIsE, mFld, mIsN, mIsNN, mIsE2, mFStr, mJoin, mEnumA, mNil, mSeq, mSeqC, mRetC, mIfS, mRet, mRetN, mBk, mCt, mSet, mSetX, mPut, mApp, mFrz, mAug, mDrop, mIns, mPopAt, mPar, setAll, mUnp, gSet, gTupM, gsCons, gsNil, tVal, tAndM, tOrM, tNotM, tYesM, mBin, mUn, mAnd, mOr, mNot, mIf, mChain, mVar, mC, mCall, mCallF, mCallC, argsOf, argOf, ptrs, putBack, aNil, aCons, mTup, mLst, mV, mTell, xLst, xToList, xsNil, xsCons, mLenS, mIxS, mDict1, mSl, oNone, oSome, mFor, mIt, mRng1, mRng2, mEnum, xLc, ownOk, wp, unwp, startS, ixD, atI, addD_int, addD_str, addD_list, addD_tuple, subD, mulD_l, mulD_r, fdivD_pos, modD_pos, ltD_int, leD_int, gtD_int, geD_int, eqD_int, neD_int, eqD_tupE, eqD_strs, neD_strs, isND, isNotND, intF, absF, lenF, joinF, negD, List.map, List.length_cons, List.length_nil, List.cons_append, List.nil_append, List.append_nil, List.replicate, List.getElem?_cons_zero, List.getElem?_cons_succ, List.set_cons_zero, List.set_cons_succ, putAt, SL.put, stables, derefs, stable, deref, heldAt, SL.held, Int.reduceLT, Int.reduceLE, Int.reduceNeg, Nat.reduceAdd, Nat.reduceLeDiff, and_self, true_and, and_true, ite_true, if_true, List.nodup_cons, List.nodup_nil, List.not_mem_nil, not_false_eq_true, Nat.succ_ne_zero, eq_self, Option.bind_some, Option.bind, Option.map, id, asOut, F__law_pot, m__law_pot, decide_eq_false h, e0, e1, e2, hB, k1, k2, decide_eq_false h2, Bool.false_eq_true, if_false]
        exact rfl
theorem of_ok {p : Pot} {ds : List PyData} {n : Nat} (h : Bud (n + 1) p) (hd : 0 < ds.length) (hl : ds.length < 1073741824) :
    ∃ d p', F__law_of [.q (potD p), .v (.list ds)] = some (d, [.q (potD p'), .v (.list ds)]) ∧ d ∈ ds ∧ Bud n p' := by
  obtain ⟨r, p', e, h1, h2, h3⟩ := take_ok (many := ds.length) h (by omega) (by omega)
  have hi : r.toNat < ds.length := by omega
  refine ⟨ds[r.toNat], p', ?_, List.getElem_mem _, h3⟩
  simp only [defM, defMc, defMX, mExprX, mSetX2, mRetX2, mCallX, mValX, mRaise, mTryK, mIsE, mFld, mIsN, mIsNN, mIsE2, mFStr, mJoin, mEnumA, mNil, mSeq, mSeqC, mRetC, mIfS, mRet, mRetN, mBk, mCt, mSet, mSetX, mPut, mApp, mFrz, mAug, mDrop, mIns, mPopAt, mPar, setAll, mUnp, gSet, gTupM, gsCons, gsNil, tVal, tAndM, tOrM, tNotM, tYesM, mBin, mUn, mAnd, mOr, mNot, mIf, mChain, mVar, mC, mCall, mCallF, mCallC, argsOf, argOf, ptrs, putBack, aNil, aCons, mTup, mLst, mV, mTell, xLst, xToList, xsNil, xsCons, mLenS, mIxS, mDict1, mSl, oNone, oSome, mFor, mIt, mRng1, mRng2, mEnum, xLc, ownOk, wp, unwp, startS, ixD, atI, addD_int, addD_str, addD_list, addD_tuple, subD, mulD_l, mulD_r, fdivD_pos, modD_pos, ltD_int, leD_int, gtD_int, geD_int, eqD_int, neD_int, eqD_tupE, eqD_strs, neD_strs, isND, isNotND, intF, absF, lenF, joinF, negD, List.map, List.length_cons, List.length_nil, List.cons_append, List.nil_append, List.append_nil, List.replicate, List.getElem?_cons_zero, List.getElem?_cons_succ, List.set_cons_zero, List.set_cons_succ, putAt, SL.put, stables, derefs, stable, deref, heldAt, SL.held, Int.reduceLT, Int.reduceLE, Int.reduceNeg, Nat.reduceAdd, Nat.reduceLeDiff, and_self, true_and, and_true, ite_true, if_true, List.nodup_cons, List.nodup_nil, List.not_mem_nil, not_false_eq_true, Nat.succ_ne_zero, eq_self, Option.bind_some, Option.bind, Option.map, id, asOut, F__law_of, m__law_of, e, ix_int h1 h2, List.getElem?_eq_getElem hi]
theorem of_text {p : Pot} {z : Str} {n : Nat} (h : Bud (n + 1) p) (hd : 0 < z.length) (hl : z.length ≤ 100000) :
    ∃ c p', F__law_of [.q (potD p), .v (.str z)] = some (.str ⟨#[c]⟩, [.q (potD p'), .v (.str z)]) ∧ c ∈ z.cps.toList ∧ Bud n p' := by
  obtain ⟨r, p', e, h1, h2, h3⟩ := take_ok (many := z.length) h (by omega) (by omega)
  have hz : z.cps.toList.length = z.length := by rw [Array.length_toList]; rfl
  have hi : r.toNat < z.cps.toList.length := by omega
  refine ⟨z.cps.toList[r.toNat], p', ?_, List.getElem_mem _, h3⟩
  simp only [defM, defMc, defMX, mExprX, mSetX2, mRetX2, mCallX, mValX, mRaise, mTryK, mIsE, mFld, mIsN, mIsNN, mIsE2, mFStr, mJoin, mEnumA, mNil, mSeq, mSeqC, mRetC, mIfS, mRet, mRetN, mBk, mCt, mSet, mSetX, mPut, mApp, mFrz, mAug, mDrop, mIns, mPopAt, mPar, setAll, mUnp, gSet, gTupM, gsCons, gsNil, tVal, tAndM, tOrM, tNotM, tYesM, mBin, mUn, mAnd, mOr, mNot, mIf, mChain, mVar, mC, mCall, mCallF, mCallC, argsOf, argOf, ptrs, putBack, aNil, aCons, mTup, mLst, mV, mTell, xLst, xToList, xsNil, xsCons, mLenS, mIxS, mDict1, mSl, oNone, oSome, mFor, mIt, mRng1, mRng2, mEnum, xLc, ownOk, wp, unwp, startS, ixD, atI, addD_int, addD_str, addD_list, addD_tuple, subD, mulD_l, mulD_r, fdivD_pos, modD_pos, ltD_int, leD_int, gtD_int, geD_int, eqD_int, neD_int, eqD_tupE, eqD_strs, neD_strs, isND, isNotND, intF, absF, lenF, joinF, negD, List.map, List.length_cons, List.length_nil, List.cons_append, List.nil_append, List.append_nil, List.replicate, List.getElem?_cons_zero, List.getElem?_cons_succ, List.set_cons_zero, List.set_cons_succ, putAt, SL.put, stables, derefs, stable, deref, heldAt, SL.held, Int.reduceLT, Int.reduceLE, Int.reduceNeg, Nat.reduceAdd, Nat.reduceLeDiff, and_self, true_and, and_true, ite_true, if_true, List.nodup_cons, List.nodup_nil, List.not_mem_nil, not_false_eq_true, Nat.succ_ne_zero, eq_self, Option.bind_some, Option.bind, Option.map, id, asOut, F__law_of, m__law_of, e, hl, hz, ix_int h1 h2, List.getElem?_eq_getElem hi]
/-- [f(pot, ..) for x in ..]: drawn one by one; the pot stands in slot 0 -/
theorem lc_draw (P : PyData → Prop) {mi : MI} {me : ME} {i : Nat} {S rest : Sl} {ds : List PyData} {p : Pot} (n c : Nat) (hi : mi S = some (ds, some (.q (potD p)) :: rest)) (ho : ownOk rest [i] = true) (hl : ds.length ≤ 100000) (hb : Bud (n + ds.length * c) p)
    (hs : ∀ d ∈ ds, ∀ (p : Pot) (m : Nat), Bud (m + c) p → ∃ z p', me (some (.q (potD p)) :: rest.set i (some (.v d))) = some (.v z, some (.q (potD p')) :: rest.set i (some (.v d))) ∧ P z ∧ Bud m p') :
    ∃ zs p', xLc mi (gSet (i + 1)) tYesM me [i + 1] S = some (.c zs, some (.q (potD p')) :: rest) ∧ zs.length = ds.length ∧ (∀ z ∈ zs, P z) ∧ Bud n p' := by
  have ho' : ownOk (some (.q (potD p)) :: rest) [i + 1] = true := ho
  obtain ⟨acc, T, e, hl2, p', rfl, hP, hb'⟩ := lc_all (mi := mi) (g := gSet (i + 1)) (mt := tYesM) (me := me) (vs := [i + 1]) (S := S) (fun j T acc => ∃ p, T = some (.q (potD p)) :: rest.set i none ∧ (∀ z ∈ acc, P z) ∧ Bud (n + (ds.length - j) * c) p) hi ho' hl ⟨p, rfl, by simp, by rw [Nat.sub_zero]; exact hb⟩ fun j d T acc hd => by
    rintro ⟨p1, rfl, hP, b1⟩
    have hj := (List.getElem?_eq_some_iff.mp hd).1
    have e1 : (ds.length - j) * c = (ds.length - (j + 1)) * c + c := by rw [show ds.length - j = (ds.length - (j + 1)) + 1 by omega, Nat.succ_mul]
    obtain ⟨z, p2, e2, hz, b2⟩ := hs d (List.mem_of_getElem? hd) p1 (n + (ds.length - (j + 1)) * c) (b1.le (by omega))
    refine ⟨some (.q (potD p1)) :: rest.set i (some (.v d)), some (.q (potD p2)) :: rest.set i (some (.v d)), z, ?_, rfl, e2, p2, ?_, fun y hy => ?_, b2⟩
    · show some (some (.q (potD p1)) :: (rest.set i none).set i _) = _
      rw [List.set_set]
    · show some (.q (potD p2)) :: (rest.set i _).set i none = _
      rw [List.set_set]
    · rcases List.mem_append.mp hy with q | q
      · exact hP y q
      · rw [List.mem_singleton.mp q]; exact hz
  refine ⟨acc, p', ?_, hl2, hP, hb'.le (by omega)⟩
  rw [e]
  have := unwp_wp rest [i]
  show some (SL.c acc, some (.q (potD p')) :: (rest.set i none).set i (rest[i]?.bind id)) = _
  have h2 : (rest.set i none).set i (rest[i]?.bind id) = rest := this
  rw [h2]
/-! signs of pages -/
def letters : Str := "abcdefghijklmnopqrstuvwxyz"
def lettersB : Str := " abcdefghijklmnopqrstuvwxyz"
def signB (c : Nat) : Bool := c == 32 || (decide (97 ≤ c) && decide (c ≤ 122))
theorem sg_letters : sg letters = [97, 98, 99, 100, 101, 102, 103, 104, 105, 106, 107, 108, 109, 110, 111, 112, 113, 114, 115, 116, 117, 118, 119, 120, 121, 122] := by decide +kernel
theorem sg_lettersB : sg lettersB = [32, 97, 98, 99, 100, 101, 102, 103, 104, 105, 106, 107, 108, 109, 110, 111, 112, 113, 114, 115, 116, 117, 118, 119, 120, 121, 122] := by decide +kernel
theorem mem_letters (c : Nat) : c ∈ sg letters ↔ 97 ≤ c ∧ c ≤ 122 := by
  rw [sg_letters]
  simp only [List.mem_cons, List.not_mem_nil, or_false]
  omega
theorem signB_iff (c : Nat) : signB c = true ↔ c = 32 ∨ (97 ≤ c ∧ c ≤ 122) := by
  unfold signB
  simp only [Bool.or_eq_true, Bool.and_eq_true, beq_iff_eq, decide_eq_true_eq]
theorem mem_lettersB (c : Nat) : decide (c ∈ sg lettersB) = signB c := by
  rw [Bool.eq_iff_iff, decide_eq_true_eq, signB_iff, sg_lettersB]
  simp only [List.mem_cons, List.not_mem_nil, or_false]
  omega
theorem sg_blank : sg " " = [32] := by decide +kernel
theorem sg_bar : sg "|" = [124] := by decide +kernel
theorem sg_feed : sg "\n" = [10] := by decide +kernel
theorem sg_empty : sg "" = [] := by decide +kernel
theorem sign_is {x : Str} {k : Nat} (hx : sg x = [k]) (c : Nat) : ((⟨#[c]⟩ : Str) = x) ↔ c = k := by
  constructor
  · intro h
    have : sg (⟨#[c]⟩ : Str) = sg x := by rw [h]
    rw [hx, sg_sign] at this
    injection this
  · intro h
    subst h
    exact sg_ext hx.symm
theorem sign_blank (c : Nat) : ((⟨#[c]⟩ : Str) = " ") ↔ c = 32 := sign_is sg_blank c
theorem sign_bar (c : Nat) : ((⟨#[c]⟩ : Str) = "|") ↔ c = 124 := sign_is sg_bar c
theorem isi_tuple (d : PyData) : isiF "tuple" d = some (.bool (match d with | .tuple _ => true | _ => false)) := by
  cases d <;> (show (kitB _ "tuple").map PyData.bool = _; rfl)
theorem ok_blank : PyData.strOk " " = true := by decide +kernel
theorem ok_empty : PyData.strOk "" = true := by decide +kernel
theorem signB_or (c : Nat) : (decide ((⟨#[c]⟩ : Str) = " ") || decide (c ∈ sg letters)) = signB c := by
  unfold signB
  simp only [sign_blank, mem_letters]
  by_cases h : c = 32
  · simp [h]
  · simp [h]
/-- sign == " " or sign in LETTERS -/
theorem orSign {S : Sl} {i : Nat} {c : Nat} (h : S[i]? = some (some (.v (.str ⟨#[c]⟩)))) : mOr (mBin eqDD (mVar i) (mC (.str " "))) (mBin inD (mVar i) (mC (.str "abcdefghijklmnopqrstuvwxyz"))) S = some (.v (.bool (signB c)), S) := by
  have e1 : inD (.str ⟨#[c]⟩) (.str "abcdefghijklmnopqrstuvwxyz") = some (.bool (decide (c ∈ sg letters))) := rfl
  rw [← signB_or]
  by_cases h1 : (⟨#[c]⟩ : Str) = " "
  · simp only [defM, defMc, defMX, mExprX, mSetX2, mRetX2, mCallX, mValX, mRaise, mTryK, mIsE, mFld, mIsN, mIsNN, mIsE2, mFStr, mJoin, mEnumA, mNil, mSeq, mSeqC, mRetC, mIfS, mRet, mRetN, mBk, mCt, mSet, mSetX, mPut, mApp, mFrz, mAug, mDrop, mIns, mPopAt, mPar, setAll, mUnp, gSet, gTupM, gsCons, gsNil, tVal, tAndM, tOrM, tNotM, tYesM, mBin, mUn, mAnd, mOr, mNot, mIf, mChain, mVar, mC, mCall, mCallF, mCallC, argsOf, argOf, ptrs, putBack, aNil, aCons, mTup, mLst, mV, mTell, xLst, xToList, xsNil, xsCons, mLenS, mIxS, mDict1, mSl, oNone, oSome, mFor, mIt, mRng1, mRng2, mEnum, xLc, ownOk, wp, unwp, startS, ixD, atI, addD_int, addD_str, addD_list, addD_tuple, subD, mulD_l, mulD_r, fdivD_pos, modD_pos, ltD_int, leD_int, gtD_int, geD_int, eqD_int, neD_int, eqD_tupE, eqD_strs, neD_strs, isND, isNotND, intF, absF, lenF, joinF, negD, List.map, List.length_cons, List.length_nil, List.cons_append, List.nil_append, List.append_nil, List.replicate, List.getElem?_cons_zero, List.getElem?_cons_succ, List.set_cons_zero, List.set_cons_succ, putAt, SL.put, stables, derefs, stable, deref, heldAt, SL.held, Int.reduceLT, Int.reduceLE, Int.reduceNeg, Nat.reduceAdd, Nat.reduceLeDiff, and_self, true_and, and_true, ite_true, if_true, List.nodup_cons, List.nodup_nil, List.not_mem_nil, not_false_eq_true, Nat.succ_ne_zero, eq_self, Option.bind_some, Option.bind, Option.map, id, asOut, h, eqD_strs, decide_eq_true h1, Bool.true_or]
  · simp only [defM, defMc, defMX, mExprX, mSetX2, mRetX2, mCallX, mValX, mRaise, mTryK, mIsE, mFld, mIsN, mIsNN, mIsE2, mFStr, mJoin, mEnumA, mNil, mSeq, mSeqC, mRetC, mIfS, mRet, mRetN, mBk, mCt, mSet, mSetX, mPut, mApp, mFrz, mAug, mDrop, mIns, mPopAt, mPar, setAll, mUnp, gSet, gTupM, gsCons, gsNil, tVal, tAndM, tOrM, tNotM, tYesM, mBin, mUn, mAnd, mOr, mNot, mIf, mChain, mVar, mC, mCall, mCallF, mCallC, argsOf, argOf, ptrs, putBack, aNil, aCons, mTup, mLst, mV, mTell, xLst, xToList, xsNil, xsCons, mLenS, mIxS, mDict1, mSl, oNone, oSome, mFor, mIt, mRng1, mRng2, mEnum, xLc, ownOk, wp, unwp, startS, ixD, atI, addD_int, addD_str, addD_list, addD_tuple, subD, mulD_l, mulD_r, fdivD_pos, modD_pos, ltD_int, leD_int, gtD_int, geD_int, eqD_int, neD_int, eqD_tupE, eqD_strs, neD_strs, isND, isNotND, intF, absF, lenF, joinF, negD, List.map, List.length_cons, List.length_nil, List.cons_append, List.nil_append, List.append_nil, List.replicate, List.getElem?_cons_zero, List.getElem?_cons_succ, List.set_cons_zero, List.set_cons_succ, putAt, SL.put, stables, derefs, stable, deref, heldAt, SL.held, Int.reduceLT, Int.reduceLE, Int.reduceNeg, Nat.reduceAdd, Nat.reduceLeDiff, and_self, true_and, and_true, ite_true, if_true, List.nodup_cons, List.nodup_nil, List.not_mem_nil, not_false_eq_true, Nat.succ_ne_zero, eq_self, Option.bind_some, Option.bind, Option.map, id, asOut, h, eqD_strs, decide_eq_false h1, Bool.false_or, e1]
/-- sign in " abc..z" -/
theorem inSignB {S : Sl} {i : Nat} {c : Nat} (h : S[i]? = some (some (.v (.str ⟨#[c]⟩)))) : mBin inD (mVar i) (mC (.str " abcdefghijklmnopqrstuvwxyz")) S = some (.v (.bool (signB c)), S) := by
  have e1 : inD (.str ⟨#[c]⟩) (.str " abcdefghijklmnopqrstuvwxyz") = some (.bool (decide (c ∈ sg lettersB))) := rfl
  rw [← mem_lettersB]
  simp only [defM, defMc, defMX, mExprX, mSetX2, mRetX2, mCallX, mValX, mRaise, mTryK, mIsE, mFld, mIsN, mIsNN, mIsE2, mFStr, mJoin, mEnumA, mNil, mSeq, mSeqC, mRetC, mIfS, mRet, mRetN, mBk, mCt, mSet, mSetX, mPut, mApp, mFrz, mAug, mDrop, mIns, mPopAt, mPar, setAll, mUnp, gSet, gTupM, gsCons, gsNil, tVal, tAndM, tOrM, tNotM, tYesM, mBin, mUn, mAnd, mOr, mNot, mIf, mChain, mVar, mC, mCall, mCallF, mCallC, argsOf, argOf, ptrs, putBack, aNil, aCons, mTup, mLst, mV, mTell, xLst, xToList, xsNil, xsCons, mLenS, mIxS, mDict1, mSl, oNone, oSome, mFor, mIt, mRng1, mRng2, mEnum, xLc, ownOk, wp, unwp, startS, ixD, atI, addD_int, addD_str, addD_list, addD_tuple, subD, mulD_l, mulD_r, fdivD_pos, modD_pos, ltD_int, leD_int, gtD_int, geD_int, eqD_int, neD_int, eqD_tupE, eqD_strs, neD_strs, isND, isNotND, intF, absF, lenF, joinF, negD, List.map, List.length_cons, List.length_nil, List.cons_append, List.nil_append, List.append_nil, List.replicate, List.getElem?_cons_zero, List.getElem?_cons_succ, List.set_cons_zero, List.set_cons_succ, putAt, SL.put, stables, derefs, stable, deref, heldAt, SL.held, Int.reduceLT, Int.reduceLE, Int.reduceNeg, Nat.reduceAdd, Nat.reduceLeDiff, and_self, true_and, and_true, ite_true, if_true, List.nodup_cons, List.nodup_nil, List.not_mem_nil, not_false_eq_true, Nat.succ_ne_zero, eq_self, Option.bind_some, Option.bind, Option.map, id, asOut, h, e1]
def signP : PyData → Bool
  | .str y => signB (y.cps.getD 0 0)
  | _ => false
theorem signP_all (z : Str) : (signsD z).all signP = (sg z).all signB := signsD_all z signB signP fun c => rfl
theorem signsD_mem {z : Str} {d : PyData} (h : d ∈ signsD z) : ∃ c, c ∈ sg z ∧ d = .str ⟨#[c]⟩ := by
  obtain ⟨c, hc, rfl⟩ := List.mem_map.mp h
  exact ⟨c, hc, rfl⟩
/-! is_row, is_page -/
def rowB : PyData → Bool
  | .str z => !decide (z = "") && (sg z).all signB
  | _ => false
def lenB : PyData → Nat
  | .str z => z.length
  | _ => 0
def pageB : PyData → Bool
  | .tuple [] => false
  | .tuple (x :: xs) => (x :: xs).all rowB && (x :: xs).all (fun y => decide (lenB y = lenB x))
  | _ => false
theorem rowB_str {d : PyData} (h : rowB d = true) : ∃ z, d = .str z := by
  cases d with
  | str z => exact ⟨z, rfl⟩
  | _ => cases h
theorem lenDec (a b : Nat) : (decide ((a : Int) = b)) = decide (a = b) := by
  by_cases q : a = b
  · rw [decide_eq_true q, decide_eq_true (by omega)]
  · rw [decide_eq_false q, decide_eq_false (by omega)]
theorem is_row_ok {D B : Nat} {d : PyData} (h : Fin D B d) (hB : B ≤ 200000) : F_is_row [.v d] = some (.bool (rowB d), [.v d]) := by
  cases d with
  | str z =>
    obtain ⟨oz, lz⟩ := h.of_str
    have eC : C2_is_row [some (.v (.str z)), none] = some (.c (blist signP (signsD z)), [some (.v (.str z)), none]) := lcb signP rfl rfl (by rw [signsD_length]; omega) fun d hd => by
      obtain ⟨c, _, rfl⟩ := signsD_mem hd
      exact orSign rfl
    by_cases he : z = ""
    · simp only [defM, defMc, defMX, mExprX, mSetX2, mRetX2, mCallX, mValX, mRaise, mTryK, mIsE, mFld, mIsN, mIsNN, mIsE2, mFStr, mJoin, mEnumA, mNil, mSeq, mSeqC, mRetC, mIfS, mRet, mRetN, mBk, mCt, mSet, mSetX, mPut, mApp, mFrz, mAug, mDrop, mIns, mPopAt, mPar, setAll, mUnp, gSet, gTupM, gsCons, gsNil, tVal, tAndM, tOrM, tNotM, tYesM, mBin, mUn, mAnd, mOr, mNot, mIf, mChain, mVar, mC, mCall, mCallF, mCallC, argsOf, argOf, ptrs, putBack, aNil, aCons, mTup, mLst, mV, mTell, xLst, xToList, xsNil, xsCons, mLenS, mIxS, mDict1, mSl, oNone, oSome, mFor, mIt, mRng1, mRng2, mEnum, xLc, ownOk, wp, unwp, startS, ixD, atI, addD_int, addD_str, addD_list, addD_tuple, subD, mulD_l, mulD_r, fdivD_pos, modD_pos, ltD_int, leD_int, gtD_int, geD_int, eqD_int, neD_int, eqD_tupE, eqD_strs, neD_strs, isND, isNotND, intF, absF, lenF, joinF, negD, List.map, List.length_cons, List.length_nil, List.cons_append, List.nil_append, List.append_nil, List.replicate, List.getElem?_cons_zero, List.getElem?_cons_succ, List.set_cons_zero, List.set_cons_succ, putAt, SL.put, stables, derefs, stable, deref, heldAt, SL.held, Int.reduceLT, Int.reduceLE, Int.reduceNeg, Nat.reduceAdd, Nat.reduceLeDiff, and_self, true_and, and_true, ite_true, if_true, List.nodup_cons, List.nodup_nil, List.not_mem_nil, not_false_eq_true, Nat.succ_ne_zero, eq_self, Option.bind_some, Option.bind, Option.map, id, asOut, F_is_row, m_is_row, isi_str, neD_strs, decide_eq_true he, Bool.not_true, rowB, Bool.false_and]
    · simp only [defM, defMc, defMX, mExprX, mSetX2, mRetX2, mCallX, mValX, mRaise, mTryK, mIsE, mFld, mIsN, mIsNN, mIsE2, mFStr, mJoin, mEnumA, mNil, mSeq, mSeqC, mRetC, mIfS, mRet, mRetN, mBk, mCt, mSet, mSetX, mPut, mApp, mFrz, mAug, mDrop, mIns, mPopAt, mPar, setAll, mUnp, gSet, gTupM, gsCons, gsNil, tVal, tAndM, tOrM, tNotM, tYesM, mBin, mUn, mAnd, mOr, mNot, mIf, mChain, mVar, mC, mCall, mCallF, mCallC, argsOf, argOf, ptrs, putBack, aNil, aCons, mTup, mLst, mV, mTell, xLst, xToList, xsNil, xsCons, mLenS, mIxS, mDict1, mSl, oNone, oSome, mFor, mIt, mRng1, mRng2, mEnum, xLc, ownOk, wp, unwp, startS, ixD, atI, addD_int, addD_str, addD_list, addD_tuple, subD, mulD_l, mulD_r, fdivD_pos, modD_pos, ltD_int, leD_int, gtD_int, geD_int, eqD_int, neD_int, eqD_tupE, eqD_strs, neD_strs, isND, isNotND, intF, absF, lenF, joinF, negD, List.map, List.length_cons, List.length_nil, List.cons_append, List.nil_append, List.append_nil, List.replicate, List.getElem?_cons_zero, List.getElem?_cons_succ, List.set_cons_zero, List.set_cons_succ, putAt, SL.put, stables, derefs, stable, deref, heldAt, SL.held, Int.reduceLT, Int.reduceLE, Int.reduceNeg, Nat.reduceAdd, Nat.reduceLeDiff, and_self, true_and, and_true, ite_true, if_true, List.nodup_cons, List.nodup_nil, List.not_mem_nil, not_false_eq_true, Nat.succ_ne_zero, eq_self, Option.bind_some, Option.bind, Option.map, id, asOut, F_is_row, m_is_row, isi_str, neD_strs, decide_eq_false he, Bool.not_false, rowB, Bool.true_and, eC, allF_blist, signP_all]
  | _ => simp only [defM, defMc, defMX, mExprX, mSetX2, mRetX2, mCallX, mValX, mRaise, mTryK, mIsE, mFld, mIsN, mIsNN, mIsE2, mFStr, mJoin, mEnumA, mNil, mSeq, mSeqC, mRetC, mIfS, mRet, mRetN, mBk, mCt, mSet, mSetX, mPut, mApp, mFrz, mAug, mDrop, mIns, mPopAt, mPar, setAll, mUnp, gSet, gTupM, gsCons, gsNil, tVal, tAndM, tOrM, tNotM, tYesM, mBin, mUn, mAnd, mOr, mNot, mIf, mChain, mVar, mC, mCall, mCallF, mCallC, argsOf, argOf, ptrs, putBack, aNil, aCons, mTup, mLst, mV, mTell, xLst, xToList, xsNil, xsCons, mLenS, mIxS, mDict1, mSl, oNone, oSome, mFor, mIt, mRng1, mRng2, mEnum, xLc, ownOk, wp, unwp, startS, ixD, atI, addD_int, addD_str, addD_list, addD_tuple, subD, mulD_l, mulD_r, fdivD_pos, modD_pos, ltD_int, leD_int, gtD_int, geD_int, eqD_int, neD_int, eqD_tupE, eqD_strs, neD_strs, isND, isNotND, intF, absF, lenF, joinF, negD, List.map, List.length_cons, List.length_nil, List.cons_append, List.nil_append, List.append_nil, List.replicate, List.getElem?_cons_zero, List.getElem?_cons_succ, List.set_cons_zero, List.set_cons_succ, putAt, SL.put, stables, derefs, stable, deref, heldAt, SL.held, Int.reduceLT, Int.reduceLE, Int.reduceNeg, Nat.reduceAdd, Nat.reduceLeDiff, and_self, true_and, and_true, ite_true, if_true, List.nodup_cons, List.nodup_nil, List.not_mem_nil, not_false_eq_true, Nat.succ_ne_zero, eq_self, Option.bind_some, Option.bind, Option.map, id, asOut, F_is_row, m_is_row, isi_str, rowB]
theorem is_page_ok {D B : Nat} {d : PyData} (h : Fin D B d) (hB : B ≤ 200000) : F_is_page [.v d] = some (.bool (pageB d), [.v d]) := by
  cases d with
  | tuple xs =>
    have hx := FinA.of_tuple h
    have hl := hx.len
    cases xs with
    | nil => simp only [defM, defMc, defMX, mExprX, mSetX2, mRetX2, mCallX, mValX, mRaise, mTryK, mIsE, mFld, mIsN, mIsNN, mIsE2, mFStr, mJoin, mEnumA, mNil, mSeq, mSeqC, mRetC, mIfS, mRet, mRetN, mBk, mCt, mSet, mSetX, mPut, mApp, mFrz, mAug, mDrop, mIns, mPopAt, mPar, setAll, mUnp, gSet, gTupM, gsCons, gsNil, tVal, tAndM, tOrM, tNotM, tYesM, mBin, mUn, mAnd, mOr, mNot, mIf, mChain, mVar, mC, mCall, mCallF, mCallC, argsOf, argOf, ptrs, putBack, aNil, aCons, mTup, mLst, mV, mTell, xLst, xToList, xsNil, xsCons, mLenS, mIxS, mDict1, mSl, oNone, oSome, mFor, mIt, mRng1, mRng2, mEnum, xLc, ownOk, wp, unwp, startS, ixD, atI, addD_int, addD_str, addD_list, addD_tuple, subD, mulD_l, mulD_r, fdivD_pos, modD_pos, ltD_int, leD_int, gtD_int, geD_int, eqD_int, neD_int, eqD_tupE, eqD_strs, neD_strs, isND, isNotND, intF, absF, lenF, joinF, negD, List.map, List.length_cons, List.length_nil, List.cons_append, List.nil_append, List.append_nil, List.replicate, List.getElem?_cons_zero, List.getElem?_cons_succ, List.set_cons_zero, List.set_cons_succ, putAt, SL.put, stables, derefs, stable, deref, heldAt, SL.held, Int.reduceLT, Int.reduceLE, Int.reduceNeg, Nat.reduceAdd, Nat.reduceLeDiff, and_self, true_and, and_true, ite_true, if_true, List.nodup_cons, List.nodup_nil, List.not_mem_nil, not_false_eq_true, Nat.succ_ne_zero, eq_self, Option.bind_some, Option.bind, Option.map, id, asOut, F_is_page, m_is_page, isi_tuple, Bool.not_true, List.isEmpty_nil, pageB]
    | cons x xs =>
      rw [List.length_cons] at hl
      have eC : C4_is_page [some (.v (.tuple (x :: xs))), none] = some (.c (blist rowB (x :: xs)), [some (.v (.tuple (x :: xs))), none]) := lcb rowB rfl rfl (by rw [List.length_cons]; omega) fun d hd => by
        have e := is_row_ok (hx.mem d hd) hB
        show E3_is_page [some (.v (.tuple (x :: xs))), some (.v d)] = _
        simp only [defM, defMc, defMX, mExprX, mSetX2, mRetX2, mCallX, mValX, mRaise, mTryK, mIsE, mFld, mIsN, mIsNN, mIsE2, mFStr, mJoin, mEnumA, mNil, mSeq, mSeqC, mRetC, mIfS, mRet, mRetN, mBk, mCt, mSet, mSetX, mPut, mApp, mFrz, mAug, mDrop, mIns, mPopAt, mPar, setAll, mUnp, gSet, gTupM, gsCons, gsNil, tVal, tAndM, tOrM, tNotM, tYesM, mBin, mUn, mAnd, mOr, mNot, mIf, mChain, mVar, mC, mCall, mCallF, mCallC, argsOf, argOf, ptrs, putBack, aNil, aCons, mTup, mLst, mV, mTell, xLst, xToList, xsNil, xsCons, mLenS, mIxS, mDict1, mSl, oNone, oSome, mFor, mIt, mRng1, mRng2, mEnum, xLc, ownOk, wp, unwp, startS, ixD, atI, addD_int, addD_str, addD_list, addD_tuple, subD, mulD_l, mulD_r, fdivD_pos, modD_pos, ltD_int, leD_int, gtD_int, geD_int, eqD_int, neD_int, eqD_tupE, eqD_strs, neD_strs, isND, isNotND, intF, absF, lenF, joinF, negD, List.map, List.length_cons, List.length_nil, List.cons_append, List.nil_append, List.append_nil, List.replicate, List.getElem?_cons_zero, List.getElem?_cons_succ, List.set_cons_zero, List.set_cons_succ, putAt, SL.put, stables, derefs, stable, deref, heldAt, SL.held, Int.reduceLT, Int.reduceLE, Int.reduceNeg, Nat.reduceAdd, Nat.reduceLeDiff, and_self, true_and, and_true, ite_true, if_true, List.nodup_cons, List.nodup_nil, List.not_mem_nil, not_false_eq_true, Nat.succ_ne_zero, eq_self, Option.bind_some, Option.bind, Option.map, id, asOut, E3_is_page, e]
      by_cases ha : (x :: xs).all rowB = true
      · have hrow : ∀ y ∈ x :: xs, ∃ z : Str, y = .str z ∧ z.length ≤ 100000 := fun y hy => by
          obtain ⟨z, rfl⟩ := rowB_str (List.all_eq_true.mp ha y hy)
          obtain ⟨_, q⟩ := (hx.mem _ hy).of_str
          exact ⟨z, rfl, by omega⟩
        obtain ⟨z0, rfl, lz0⟩ := hrow x List.mem_cons_self
        have eD : C2_is_page [some (.v (.tuple (.str z0 :: xs))), none] = some (.c (blist (fun d => decide (lenB d = lenB (.str z0))) (.str z0 :: xs)), [some (.v (.tuple (.str z0 :: xs))), none]) := lcb (fun d => decide (lenB d = lenB (.str z0))) rfl rfl (by rw [List.length_cons]; omega) fun d hd => by
          obtain ⟨z, rfl, lz⟩ := hrow d hd
          show E1_is_page [some (.v (.tuple (.str z0 :: xs))), some (.v (.str z))] = _
          simp only [defM, defMc, defMX, mExprX, mSetX2, mRetX2, mCallX, mValX, mRaise, mTryK, mIsE, mFld, mIsN, mIsNN, mIsE2, mFStr, mJoin, mEnumA, mNil, mSeq, mSeqC, mRetC, mIfS, mRet, mRetN, mBk, mCt, mSet, mSetX, mPut, mApp, mFrz, mAug, mDrop, mIns, mPopAt, mPar, setAll, mUnp, gSet, gTupM, gsCons, gsNil, tVal, tAndM, tOrM, tNotM, tYesM, mBin, mUn, mAnd, mOr, mNot, mIf, mChain, mVar, mC, mCall, mCallF, mCallC, argsOf, argOf, ptrs, putBack, aNil, aCons, mTup, mLst, mV, mTell, xLst, xToList, xsNil, xsCons, mLenS, mIxS, mDict1, mSl, oNone, oSome, mFor, mIt, mRng1, mRng2, mEnum, xLc, ownOk, wp, unwp, startS, ixD, atI, addD_int, addD_str, addD_list, addD_tuple, subD, mulD_l, mulD_r, fdivD_pos, modD_pos, ltD_int, leD_int, gtD_int, geD_int, eqD_int, neD_int, eqD_tupE, eqD_strs, neD_strs, isND, isNotND, intF, absF, lenF, joinF, negD, List.map, List.length_cons, List.length_nil, List.cons_append, List.nil_append, List.append_nil, List.replicate, List.getElem?_cons_zero, List.getElem?_cons_succ, List.set_cons_zero, List.set_cons_succ, putAt, SL.put, stables, derefs, stable, deref, heldAt, SL.held, Int.reduceLT, Int.reduceLE, Int.reduceNeg, Nat.reduceAdd, Nat.reduceLeDiff, and_self, true_and, and_true, ite_true, if_true, List.nodup_cons, List.nodup_nil, List.not_mem_nil, not_false_eq_true, Nat.succ_ne_zero, eq_self, Option.bind_some, Option.bind, Option.map, id, asOut, E1_is_page, lz, lz0, ix_0, lenDec, lenB]
          exact rfl
        have ep : pageB (.tuple (.str z0 :: xs)) = (true && (PyData.str z0 :: xs).all (fun y => decide (lenB y = lenB (.str z0)))) := by rw [← ha]; rfl
        rw [Bool.true_and] at ep
        rw [ep]
        simp only [defM, defMc, defMX, mExprX, mSetX2, mRetX2, mCallX, mValX, mRaise, mTryK, mIsE, mFld, mIsN, mIsNN, mIsE2, mFStr, mJoin, mEnumA, mNil, mSeq, mSeqC, mRetC, mIfS, mRet, mRetN, mBk, mCt, mSet, mSetX, mPut, mApp, mFrz, mAug, mDrop, mIns, mPopAt, mPar, setAll, mUnp, gSet, gTupM, gsCons, gsNil, tVal, tAndM, tOrM, tNotM, tYesM, mBin, mUn, mAnd, mOr, mNot, mIf, mChain, mVar, mC, mCall, mCallF, mCallC, argsOf, argOf, ptrs, putBack, aNil, aCons, mTup, mLst, mV, mTell, xLst, xToList, xsNil, xsCons, mLenS, mIxS, mDict1, mSl, oNone, oSome, mFor, mIt, mRng1, mRng2, mEnum, xLc, ownOk, wp, unwp, startS, ixD, atI, addD_int, addD_str, addD_list, addD_tuple, subD, mulD_l, mulD_r, fdivD_pos, modD_pos, ltD_int, leD_int, gtD_int, geD_int, eqD_int, neD_int, eqD_tupE, eqD_strs, neD_strs, isND, isNotND, intF, absF, lenF, joinF, negD, List.map, List.length_cons, List.length_nil, List.cons_append, List.nil_append, List.append_nil, List.replicate, List.getElem?_cons_zero, List.getElem?_cons_succ, List.set_cons_zero, List.set_cons_succ, putAt, SL.put, stables, derefs, stable, deref, heldAt, SL.held, Int.reduceLT, Int.reduceLE, Int.reduceNeg, Nat.reduceAdd, Nat.reduceLeDiff, and_self, true_and, and_true, ite_true, if_true, List.nodup_cons, List.nodup_nil, List.not_mem_nil, not_false_eq_true, Nat.succ_ne_zero, eq_self, Option.bind_some, Option.bind, Option.map, id, asOut, F_is_page, m_is_page, isi_tuple, Bool.not_true, List.isEmpty_cons, eC, eD, allF_blist, ha]
      · have hf : (x :: xs).all rowB = false := by simpa using ha
        have ep : pageB (.tuple (x :: xs)) = (false && (x :: xs).all (fun y => decide (lenB y = lenB x))) := by rw [← hf]; rfl
        rw [Bool.false_and] at ep
        rw [ep]
        simp only [defM, defMc, defMX, mExprX, mSetX2, mRetX2, mCallX, mValX, mRaise, mTryK, mIsE, mFld, mIsN, mIsNN, mIsE2, mFStr, mJoin, mEnumA, mNil, mSeq, mSeqC, mRetC, mIfS, mRet, mRetN, mBk, mCt, mSet, mSetX, mPut, mApp, mFrz, mAug, mDrop, mIns, mPopAt, mPar, setAll, mUnp, gSet, gTupM, gsCons, gsNil, tVal, tAndM, tOrM, tNotM, tYesM, mBin, mUn, mAnd, mOr, mNot, mIf, mChain, mVar, mC, mCall, mCallF, mCallC, argsOf, argOf, ptrs, putBack, aNil, aCons, mTup, mLst, mV, mTell, xLst, xToList, xsNil, xsCons, mLenS, mIxS, mDict1, mSl, oNone, oSome, mFor, mIt, mRng1, mRng2, mEnum, xLc, ownOk, wp, unwp, startS, ixD, atI, addD_int, addD_str, addD_list, addD_tuple, subD, mulD_l, mulD_r, fdivD_pos, modD_pos, ltD_int, leD_int, gtD_int, geD_int, eqD_int, neD_int, eqD_tupE, eqD_strs, neD_strs, isND, isNotND, intF, absF, lenF, joinF, negD, List.map, List.length_cons, List.length_nil, List.cons_append, List.nil_append, List.append_nil, List.replicate, List.getElem?_cons_zero, List.getElem?_cons_succ, List.set_cons_zero, List.set_cons_succ, putAt, SL.put, stables, derefs, stable, deref, heldAt, SL.held, Int.reduceLT, Int.reduceLE, Int.reduceNeg, Nat.reduceAdd, Nat.reduceLeDiff, and_self, true_and, and_true, ite_true, if_true, List.nodup_cons, List.nodup_nil, List.not_mem_nil, not_false_eq_true, Nat.succ_ne_zero, eq_self, Option.bind_some, Option.bind, Option.map, id, asOut, F_is_page, m_is_page, isi_tuple, Bool.not_true, List.isEmpty_cons, eC, allF_blist, hf, Bool.not_false]
  | _ => simp only [defM, defMc, defMX, mExprX, mSetX2, mRetX2, mCallX, mValX, mRaise, mTryK, mIsE, mFld, mIsN, mIsNN, mIsE2, mFStr, mJoin, mEnumA, mNil, mSeq, mSeqC, mRetC, mIfS, mRet, mRetN, mBk, mCt, mSet, mSetX, mPut, mApp, mFrz, mAug, mDrop, mIns, mPopAt, mPar, setAll, mUnp, gSet, gTupM, gsCons, gsNil, tVal, tAndM, tOrM, tNotM, tYesM, mBin, mUn, mAnd, mOr, mNot, mIf, mChain, mVar, mC, mCall, mCallF, mCallC, argsOf, argOf, ptrs, putBack, aNil, aCons, mTup, mLst, mV, mTell, xLst, xToList, xsNil, xsCons, mLenS, mIxS, mDict1, mSl, oNone, oSome, mFor, mIt, mRng1, mRng2, mEnum, xLc, ownOk, wp, unwp, startS, ixD, atI, addD_int, addD_str, addD_list, addD_tuple, subD, mulD_l, mulD_r, fdivD_pos, modD_pos, ltD_int, leD_int, gtD_int, geD_int, eqD_int, neD_int, eqD_tupE, eqD_strs, neD_strs, isND, isNotND, intF, absF, lenF, joinF, negD, List.map, List.length_cons, List.length_nil, List.cons_append, List.nil_append, List.append_nil, List.replicate, List.getElem?_cons_zero, List.getElem?_cons_succ, List.set_cons_zero, List.set_cons_succ, putAt, SL.put, stables, derefs, stable, deref, heldAt, SL.held, Int.reduceLT, Int.reduceLE, Int.reduceNeg, Nat.reduceAdd, Nat.reduceLeDiff, and_self, true_and, and_true, ite_true, if_true, List.nodup_cons, List.nodup_nil, List.not_mem_nil, not_false_eq_true, Nat.succ_ne_zero, eq_self, Option.bind_some, Option.bind, Option.map, id, asOut, F_is_page, m_is_page, isi_tuple, Bool.not_false, Bool.not_true, pageB]
/-! k74: lines of a page's text -/
def inner (z : Str) : List Nat := (sg z).tail.dropLast
/-- a line is as is_row_of_signs wants it -/
def lineB (z : Str) : Bool := decide (3 ≤ z.length) && (decide ((sg z)[0]? = some 124) && (decide ((sg z).getLast? = some 124) && (inner z).all signB))
theorem sl_inner {z : Str} (h : z.length ≤ 100000) : slD (.str z) (some 1) (some (-1)) = some (.str (txt (inner z))) := by
  have e : cutS z (some 1) (some (-1)) = txt (inner z) := by
    rw [← txt_sg z, cutS_txt, cutL_inner]
    rfl
  show (if z.length ≤ 100000 then some (PyData.str (cutS z (some 1) (some (-1)))) else none) = _
  rw [if_pos h, e]
theorem inner_len (z : Str) : (inner z).length = z.length - 2 := by
  unfold inner
  rw [List.length_dropLast, List.length_tail, ← len_sg]
  omega
/-- a text of three signs or more -/
theorem long_text {z : Str} (h : 3 ≤ z.length) : ∃ a mid b, sg z = a :: (mid ++ [b]) ∧ mid ≠ [] := by
  rw [len_sg] at h
  cases e : sg z with
  | nil => rw [e] at h; simp at h
  | cons a l =>
    rw [e, List.length_cons] at h
    have hl : l ≠ [] := fun q => by rw [q] at h; simp at h
    refine ⟨a, l.dropLast, l.getLast hl, by rw [List.dropLast_concat_getLast], fun q => ?_⟩
    have : l.dropLast.length = 0 := by rw [q]; rfl
    rw [List.length_dropLast] at this
    omega
theorem ix_str {z : Str} {i : Int} {c : Nat} (h : z.length ≤ 100000) (e : atI (sg z) i = some c) : ixD (.str z) (.int i) = some (.str ⟨#[c]⟩) := by
  show (if z.length ≤ 100000 then (atI z.cps.toList i).map fun c => PyData.str ⟨#[c]⟩ else none) = _
  rw [if_pos h, e]
  rfl
theorem row_of_signs_ok {z : Str} (h : z.length ≤ 100000) : F_is_row_of_signs [.v (.str z)] = some (.bool (lineB z), [.v (.str z)]) := by
  have e0 := sl_inner h
  have li : (inner z).length ≤ 100000 := by rw [inner_len]; omega
  by_cases h3 : 3 ≤ z.length
  · obtain ⟨a, mid, b, ez, hm⟩ := long_text h3
    have ein : inner z = mid := by
      unfold inner
      rw [ez, List.tail_cons, List.dropLast_concat]
    have hl : ¬ ((mid.length : Int) = 0) := by
      have := List.length_pos_iff.mpr hm
      omega
    have e1 : ixD (.str z) (.int 0) = some (.str ⟨#[a]⟩) := ix_str h (by rw [ez, atI_0])
    have e2 : ixD (.str z) (.int (-1)) = some (.str ⟨#[b]⟩) := ix_str h (by rw [ez, atI_last, ← List.cons_append, List.getLast?_concat])
    have eC : C2_is_row_of_signs [some (.v (.str z)), some (.v (.str (txt mid))), none] = some (.c (blist signP (signsD (txt mid))), [some (.v (.str z)), some (.v (.str (txt mid))), none]) := lcb signP rfl rfl (by rw [signsD_length, txt_len]; rw [ein] at li; exact li) fun d hd => by
      obtain ⟨c, _, rfl⟩ := signsD_mem hd
      exact orSign rfl
    have eg : (sg z).getLast? = some b := by rw [ez, ← List.cons_append, List.getLast?_concat]
    have ea : (sg z)[0]? = some a := by rw [ez]; rfl
    have eall : (signsD (txt mid)).all signP = mid.all signB := signP_all (txt mid)
    have el : lineB z = (decide (a = 124) && (decide (b = 124) && mid.all signB)) := by
      unfold lineB
      rw [decide_eq_true h3, ea, eg, ein, Bool.true_and]
      simp only [Option.some.injEq]
    rw [ein] at e0 li
    have ll : (txt mid).length ≤ 100000 := by rw [txt_len]; exact li
    rw [el]
    by_cases ha : a = 124
    · by_cases hb : b = 124
      · simp only [defM, defMc, defMX, mExprX, mSetX2, mRetX2, mCallX, mValX, mRaise, mTryK, mIsE, mFld, mIsN, mIsNN, mIsE2, mFStr, mJoin, mEnumA, mNil, mSeq, mSeqC, mRetC, mIfS, mRet, mRetN, mBk, mCt, mSet, mSetX, mPut, mApp, mFrz, mAug, mDrop, mIns, mPopAt, mPar, setAll, mUnp, gSet, gTupM, gsCons, gsNil, tVal, tAndM, tOrM, tNotM, tYesM, mBin, mUn, mAnd, mOr, mNot, mIf, mChain, mVar, mC, mCall, mCallF, mCallC, argsOf, argOf, ptrs, putBack, aNil, aCons, mTup, mLst, mV, mTell, xLst, xToList, xsNil, xsCons, mLenS, mIxS, mDict1, mSl, oNone, oSome, mFor, mIt, mRng1, mRng2, mEnum, xLc, ownOk, wp, unwp, startS, ixD, atI, addD_int, addD_str, addD_list, addD_tuple, subD, mulD_l, mulD_r, fdivD_pos, modD_pos, ltD_int, leD_int, gtD_int, geD_int, eqD_int, neD_int, eqD_tupE, eqD_strs, neD_strs, isND, isNotND, intF, absF, lenF, joinF, negD, List.map, List.length_cons, List.length_nil, List.cons_append, List.nil_append, List.append_nil, List.replicate, List.getElem?_cons_zero, List.getElem?_cons_succ, List.set_cons_zero, List.set_cons_succ, putAt, SL.put, stables, derefs, stable, deref, heldAt, SL.held, Int.reduceLT, Int.reduceLE, Int.reduceNeg, Nat.reduceAdd, Nat.reduceLeDiff, and_self, true_and, and_true, ite_true, if_true, List.nodup_cons, List.nodup_nil, List.not_mem_nil, not_false_eq_true, Nat.succ_ne_zero, eq_self, Option.bind_some, Option.bind, Option.map, id, asOut, F_is_row_of_signs, m_is_row_of_signs, e0, ↓e1, ↓e2, txt_len, li, decide_eq_false hl, neD_strs, sign_bar, decide_eq_true ha, decide_eq_true hb, Bool.not_true, eC, allF_blist, eall, Bool.true_and]
      · simp only [defM, defMc, defMX, mExprX, mSetX2, mRetX2, mCallX, mValX, mRaise, mTryK, mIsE, mFld, mIsN, mIsNN, mIsE2, mFStr, mJoin, mEnumA, mNil, mSeq, mSeqC, mRetC, mIfS, mRet, mRetN, mBk, mCt, mSet, mSetX, mPut, mApp, mFrz, mAug, mDrop, mIns, mPopAt, mPar, setAll, mUnp, gSet, gTupM, gsCons, gsNil, tVal, tAndM, tOrM, tNotM, tYesM, mBin, mUn, mAnd, mOr, mNot, mIf, mChain, mVar, mC, mCall, mCallF, mCallC, argsOf, argOf, ptrs, putBack, aNil, aCons, mTup, mLst, mV, mTell, xLst, xToList, xsNil, xsCons, mLenS, mIxS, mDict1, mSl, oNone, oSome, mFor, mIt, mRng1, mRng2, mEnum, xLc, ownOk, wp, unwp, startS, ixD, atI, addD_int, addD_str, addD_list, addD_tuple, subD, mulD_l, mulD_r, fdivD_pos, modD_pos, ltD_int, leD_int, gtD_int, geD_int, eqD_int, neD_int, eqD_tupE, eqD_strs, neD_strs, isND, isNotND, intF, absF, lenF, joinF, negD, List.map, List.length_cons, List.length_nil, List.cons_append, List.nil_append, List.append_nil, List.replicate, List.getElem?_cons_zero, List.getElem?_cons_succ, List.set_cons_zero, List.set_cons_succ, putAt, SL.put, stables, derefs, stable, deref, heldAt, SL.held, Int.reduceLT, Int.reduceLE, Int.reduceNeg, Nat.reduceAdd, Nat.reduceLeDiff, and_self, true_and, and_true, ite_true, if_true, List.nodup_cons, List.nodup_nil, List.not_mem_nil, not_false_eq_true, Nat.succ_ne_zero, eq_self, Option.bind_some, Option.bind, Option.map, id, asOut, F_is_row_of_signs, m_is_row_of_signs, e0, ↓e1, ↓e2, txt_len, li, decide_eq_false hl, neD_strs, sign_bar, decide_eq_true ha, decide_eq_false hb, Bool.not_true, Bool.not_false, Bool.true_and, Bool.false_and]
    · simp only [defM, defMc, defMX, mExprX, mSetX2, mRetX2, mCallX, mValX, mRaise, mTryK, mIsE, mFld, mIsN, mIsNN, mIsE2, mFStr, mJoin, mEnumA, mNil, mSeq, mSeqC, mRetC, mIfS, mRet, mRetN, mBk, mCt, mSet, mSetX, mPut, mApp, mFrz, mAug, mDrop, mIns, mPopAt, mPar, setAll, mUnp, gSet, gTupM, gsCons, gsNil, tVal, tAndM, tOrM, tNotM, tYesM, mBin, mUn, mAnd, mOr, mNot, mIf, mChain, mVar, mC, mCall, mCallF, mCallC, argsOf, argOf, ptrs, putBack, aNil, aCons, mTup, mLst, mV, mTell, xLst, xToList, xsNil, xsCons, mLenS, mIxS, mDict1, mSl, oNone, oSome, mFor, mIt, mRng1, mRng2, mEnum, xLc, ownOk, wp, unwp, startS, ixD, atI, addD_int, addD_str, addD_list, addD_tuple, subD, mulD_l, mulD_r, fdivD_pos, modD_pos, ltD_int, leD_int, gtD_int, geD_int, eqD_int, neD_int, eqD_tupE, eqD_strs, neD_strs, isND, isNotND, intF, absF, lenF, joinF, negD, List.map, List.length_cons, List.length_nil, List.cons_append, List.nil_append, List.append_nil, List.replicate, List.getElem?_cons_zero, List.getElem?_cons_succ, List.set_cons_zero, List.set_cons_succ, putAt, SL.put, stables, derefs, stable, deref, heldAt, SL.held, Int.reduceLT, Int.reduceLE, Int.reduceNeg, Nat.reduceAdd, Nat.reduceLeDiff, and_self, true_and, and_true, ite_true, if_true, List.nodup_cons, List.nodup_nil, List.not_mem_nil, not_false_eq_true, Nat.succ_ne_zero, eq_self, Option.bind_some, Option.bind, Option.map, id, asOut, F_is_row_of_signs, m_is_row_of_signs, e0, ↓e1, ↓e2, txt_len, li, decide_eq_false hl, neD_strs, sign_bar, decide_eq_false ha, Bool.not_true, Bool.not_false, Bool.false_and]
  · have hl : ((inner z).length : Int) = 0 := by
      rw [inner_len]
      omega
    have el : lineB z = false := by
      unfold lineB
      rw [decide_eq_false h3, Bool.false_and]
    rw [el]
    simp only [defM, defMc, defMX, mExprX, mSetX2, mRetX2, mCallX, mValX, mRaise, mTryK, mIsE, mFld, mIsN, mIsNN, mIsE2, mFStr, mJoin, mEnumA, mNil, mSeq, mSeqC, mRetC, mIfS, mRet, mRetN, mBk, mCt, mSet, mSetX, mPut, mApp, mFrz, mAug, mDrop, mIns, mPopAt, mPar, setAll, mUnp, gSet, gTupM, gsCons, gsNil, tVal, tAndM, tOrM, tNotM, tYesM, mBin, mUn, mAnd, mOr, mNot, mIf, mChain, mVar, mC, mCall, mCallF, mCallC, argsOf, argOf, ptrs, putBack, aNil, aCons, mTup, mLst, mV, mTell, xLst, xToList, xsNil, xsCons, mLenS, mIxS, mDict1, mSl, oNone, oSome, mFor, mIt, mRng1, mRng2, mEnum, xLc, ownOk, wp, unwp, startS, ixD, atI, addD_int, addD_str, addD_list, addD_tuple, subD, mulD_l, mulD_r, fdivD_pos, modD_pos, ltD_int, leD_int, gtD_int, geD_int, eqD_int, neD_int, eqD_tupE, eqD_strs, neD_strs, isND, isNotND, intF, absF, lenF, joinF, negD, List.map, List.length_cons, List.length_nil, List.cons_append, List.nil_append, List.append_nil, List.replicate, List.getElem?_cons_zero, List.getElem?_cons_succ, List.set_cons_zero, List.set_cons_succ, putAt, SL.put, stables, derefs, stable, deref, heldAt, SL.held, Int.reduceLT, Int.reduceLE, Int.reduceNeg, Nat.reduceAdd, Nat.reduceLeDiff, and_self, true_and, and_true, ite_true, if_true, List.nodup_cons, List.nodup_nil, List.not_mem_nil, not_false_eq_true, Nat.succ_ne_zero, eq_self, Option.bind_some, Option.bind, Option.map, id, asOut, F_is_row_of_signs, m_is_row_of_signs, e0, txt_len, li, decide_eq_true hl]
/-- a row of a page's text -/
def rowT (w : Nat) : PyData → Bool
  | .tuple [_, .str z] => lineB z && decide (z.length = w)
  | _ => false
def rowN : PyData → PyData
  | .tuple [i, _] => i
  | _ => .none
def innerD : PyData → PyData
  | .str z => .str (txt (inner z))
  | _ => .none
/-- what is told of a text's lines: the number of the first that is none, or the rows -/
def toldL (rs : List Str) : PyData ⊕ PyData := match (enumD (rs.map .str)).find? (fun d => !rowT ((rs.map (·.length)).headD 0) d) with
  | none => .inr (.tuple (mapD innerD (rs.map .str)))
  | some d => .inl (rowN d)
theorem enumS_mem {rs : List Str} {d : PyData} (h : d ∈ enumD (rs.map .str)) : ∃ (i : Nat) (z : Str), d = .tuple [.int (i : Nat), .str z] ∧ z ∈ rs := by
  obtain ⟨i, x, rfl, hx⟩ := enumD_mem h
  rw [List.getElem?_map] at hx
  obtain ⟨z, hz, rfl⟩ := Option.map_eq_some_iff.mp hx
  exact ⟨i, z, rfl, List.mem_of_getElem? hz⟩
theorem splitN {z : Str} (h : z.length ≤ 100000) : splitF z (.str "\n") = some (.list ((Txt.split z "\n").map .str)) := if_pos ⟨by decide +kernel, h⟩
theorem read_page_ok {z r0 : Str} {rs : List Str} (h : z.length ≤ 100000) (hs : Txt.split z "\n" = r0 :: rs) (hr : ∀ r ∈ r0 :: rs, r.length ≤ 100000) (hl : (r0 :: rs).length ≤ 100000) :
    F_read_page [.v (.str z)] = some (match toldL (r0 :: rs) with
      | .inl i => .exc "BadText" [("line", i)]
      | .inr d => .val d, [.v (.str z)]) := by
  have e0 : F_lines_in [.v (.str z)] = some (.val (.list ((r0 :: rs).map .str)), [.v (.str z)]) := by
    simp only [defM, defMc, defMX, mExprX, mSetX2, mRetX2, mCallX, mValX, mRaise, mTryK, mIsE, mFld, mIsN, mIsNN, mIsE2, mFStr, mJoin, mEnumA, mNil, mSeq, mSeqC, mRetC, mIfS, mRet, mRetN, mBk, mCt, mSet, mSetX, mPut, mApp, mFrz, mAug, mDrop, mIns, mPopAt, mPar, setAll, mUnp, gSet, gTupM, gsCons, gsNil, tVal, tAndM, tOrM, tNotM, tYesM, mBin, mUn, mAnd, mOr, mNot, mIf, mChain, mVar, mC, mCall, mCallF, mCallC, argsOf, argOf, ptrs, putBack, aNil, aCons, mTup, mLst, mV, mTell, xLst, xToList, xsNil, xsCons, mLenS, mIxS, mDict1, mSl, oNone, oSome, mFor, mIt, mRng1, mRng2, mEnum, xLc, ownOk, wp, unwp, startS, ixD, atI, addD_int, addD_str, addD_list, addD_tuple, subD, mulD_l, mulD_r, fdivD_pos, modD_pos, ltD_int, leD_int, gtD_int, geD_int, eqD_int, neD_int, eqD_tupE, eqD_strs, neD_strs, isND, isNotND, intF, absF, lenF, joinF, negD, List.map, List.length_cons, List.length_nil, List.cons_append, List.nil_append, List.append_nil, List.replicate, List.getElem?_cons_zero, List.getElem?_cons_succ, List.set_cons_zero, List.set_cons_succ, putAt, SL.put, stables, derefs, stable, deref, heldAt, SL.held, Int.reduceLT, Int.reduceLE, Int.reduceNeg, Nat.reduceAdd, Nat.reduceLeDiff, and_self, true_and, and_true, ite_true, if_true, List.nodup_cons, List.nodup_nil, List.not_mem_nil, not_false_eq_true, Nat.succ_ne_zero, eq_self, Option.bind_some, Option.bind, Option.map, id, asOut, F_lines_in, m_lines_in, isi_str, Bool.not_true, onStr, splitN h, hs]
  generalize hds : (r0 :: rs).map PyData.str = ds at *
  have hdl : ds.length ≤ 100000 := by rw [← hds, List.length_map]; exact hl
  have hix : ixN ds.length 0 = some 0 := by rw [← hds, List.map_cons, List.length_cons]; exact ix_0 _
  have hd0 : ds[0]? = some (.str r0) := by rw [← hds]; rfl
  have hl0 := hr r0 List.mem_cons_self
  have hh : ((r0 :: rs).map (·.length)).headD 0 = r0.length := rfl
  obtain ⟨S', hZ, eL⟩ := for_find (mi := mEnumA (aCons (mVar 1) (aNil))) (g := gTupM 2 (gsCons (gSet 2) (gsCons (gSet 3) (gsNil)))) (mb := B3_read_page) (S := [some (.v (.str z)), some (.v (.list ds)), none, none]) (S1 := [some (.v (.str z)), some (.v (.list ds)), none, none]) (ds := enumD ds)
    (rowT r0.length) (fun d => .rz "BadText" [("line", rowN d)]) (fun d => .inr ⟨_, _, rfl⟩) (fun S => ∃ t2 t3 : Option SL, S = [some (.v (.str z)), some (.v (.list ds)), t2, t3] ∧ (∀ x, t3 = some x → ∃ d, x = .v d) ∧ (∀ x, t2 = some x → ∃ d, x = .v d))
    (by simp only [defM, defMc, defMX, mExprX, mSetX2, mRetX2, mCallX, mValX, mRaise, mTryK, mIsE, mFld, mIsN, mIsNN, mIsE2, mFStr, mJoin, mEnumA, mNil, mSeq, mSeqC, mRetC, mIfS, mRet, mRetN, mBk, mCt, mSet, mSetX, mPut, mApp, mFrz, mAug, mDrop, mIns, mPopAt, mPar, setAll, mUnp, gSet, gTupM, gsCons, gsNil, tVal, tAndM, tOrM, tNotM, tYesM, mBin, mUn, mAnd, mOr, mNot, mIf, mChain, mVar, mC, mCall, mCallF, mCallC, argsOf, argOf, ptrs, putBack, aNil, aCons, mTup, mLst, mV, mTell, xLst, xToList, xsNil, xsCons, mLenS, mIxS, mDict1, mSl, oNone, oSome, mFor, mIt, mRng1, mRng2, mEnum, xLc, ownOk, wp, unwp, startS, ixD, atI, addD_int, addD_str, addD_list, addD_tuple, subD, mulD_l, mulD_r, fdivD_pos, modD_pos, ltD_int, leD_int, gtD_int, geD_int, eqD_int, neD_int, eqD_tupE, eqD_strs, neD_strs, isND, isNotND, intF, absF, lenF, joinF, negD, List.map, List.length_cons, List.length_nil, List.cons_append, List.nil_append, List.append_nil, List.replicate, List.getElem?_cons_zero, List.getElem?_cons_succ, List.set_cons_zero, List.set_cons_succ, putAt, SL.put, stables, derefs, stable, deref, heldAt, SL.held, Int.reduceLT, Int.reduceLE, Int.reduceNeg, Nat.reduceAdd, Nat.reduceLeDiff, and_self, true_and, and_true, ite_true, if_true, List.nodup_cons, List.nodup_nil, List.not_mem_nil, not_false_eq_true, Nat.succ_ne_zero, eq_self, Option.bind_some, Option.bind, Option.map, id, asOut]) (fun d hd S => by
      rintro ⟨t2, t3, rfl, _⟩
      rw [← hds] at hd
      obtain ⟨i, y, rfl, hy⟩ := enumS_mem hd
      have hly := hr y hy
      have er := row_of_signs_ok hly
      refine ⟨[some (.v (.str z)), some (.v (.list ds)), some (.v (.int (i : Nat))), some (.v (.str y))], [some (.v (.str z)), some (.v (.list ds)), some (.v (.int (i : Nat))), some (.v (.str y))], rfl, ⟨_, _, rfl, fun x hx => ⟨_, (Option.some.inj hx).symm⟩, fun x hx => ⟨_, (Option.some.inj hx).symm⟩⟩, ?_⟩
      by_cases h1 : lineB y = true
      · rw [h1] at er
        by_cases h2 : y.length = r0.length
        · simp only [defM, defMc, defMX, mExprX, mSetX2, mRetX2, mCallX, mValX, mRaise, mTryK, mIsE, mFld, mIsN, mIsNN, mIsE2, mFStr, mJoin, mEnumA, mNil, mSeq, mSeqC, mRetC, mIfS, mRet, mRetN, mBk, mCt, mSet, mSetX, mPut, mApp, mFrz, mAug, mDrop, mIns, mPopAt, mPar, setAll, mUnp, gSet, gTupM, gsCons, gsNil, tVal, tAndM, tOrM, tNotM, tYesM, mBin, mUn, mAnd, mOr, mNot, mIf, mChain, mVar, mC, mCall, mCallF, mCallC, argsOf, argOf, ptrs, putBack, aNil, aCons, mTup, mLst, mV, mTell, xLst, xToList, xsNil, xsCons, mLenS, mIxS, mDict1, mSl, oNone, oSome, mFor, mIt, mRng1, mRng2, mEnum, xLc, ownOk, wp, unwp, startS, ixD, atI, addD_int, addD_str, addD_list, addD_tuple, subD, mulD_l, mulD_r, fdivD_pos, modD_pos, ltD_int, leD_int, gtD_int, geD_int, eqD_int, neD_int, eqD_tupE, eqD_strs, neD_strs, isND, isNotND, intF, absF, lenF, joinF, negD, List.map, List.length_cons, List.length_nil, List.cons_append, List.nil_append, List.append_nil, List.replicate, List.getElem?_cons_zero, List.getElem?_cons_succ, List.set_cons_zero, List.set_cons_succ, putAt, SL.put, stables, derefs, stable, deref, heldAt, SL.held, Int.reduceLT, Int.reduceLE, Int.reduceNeg, Nat.reduceAdd, Nat.reduceLeDiff, and_self, true_and, and_true, ite_true, if_true, List.nodup_cons, List.nodup_nil, List.not_mem_nil, not_false_eq_true, Nat.succ_ne_zero, eq_self, Option.bind_some, Option.bind, Option.map, id, asOut, B3_read_page, er, Bool.not_true, hly, hl0, hix, hd0, lenDec, decide_eq_true h2, rowT, h1, Bool.and_self, neD_int]
        · simp only [defM, defMc, defMX, mExprX, mSetX2, mRetX2, mCallX, mValX, mRaise, mTryK, mIsE, mFld, mIsN, mIsNN, mIsE2, mFStr, mJoin, mEnumA, mNil, mSeq, mSeqC, mRetC, mIfS, mRet, mRetN, mBk, mCt, mSet, mSetX, mPut, mApp, mFrz, mAug, mDrop, mIns, mPopAt, mPar, setAll, mUnp, gSet, gTupM, gsCons, gsNil, tVal, tAndM, tOrM, tNotM, tYesM, mBin, mUn, mAnd, mOr, mNot, mIf, mChain, mVar, mC, mCall, mCallF, mCallC, argsOf, argOf, ptrs, putBack, aNil, aCons, mTup, mLst, mV, mTell, xLst, xToList, xsNil, xsCons, mLenS, mIxS, mDict1, mSl, oNone, oSome, mFor, mIt, mRng1, mRng2, mEnum, xLc, ownOk, wp, unwp, startS, ixD, atI, addD_int, addD_str, addD_list, addD_tuple, subD, mulD_l, mulD_r, fdivD_pos, modD_pos, ltD_int, leD_int, gtD_int, geD_int, eqD_int, neD_int, eqD_tupE, eqD_strs, neD_strs, isND, isNotND, intF, absF, lenF, joinF, negD, List.map, List.length_cons, List.length_nil, List.cons_append, List.nil_append, List.append_nil, List.replicate, List.getElem?_cons_zero, List.getElem?_cons_succ, List.set_cons_zero, List.set_cons_succ, putAt, SL.put, stables, derefs, stable, deref, heldAt, SL.held, Int.reduceLT, Int.reduceLE, Int.reduceNeg, Nat.reduceAdd, Nat.reduceLeDiff, and_self, true_and, and_true, ite_true, if_true, List.nodup_cons, List.nodup_nil, List.not_mem_nil, not_false_eq_true, Nat.succ_ne_zero, eq_self, Option.bind_some, Option.bind, Option.map, id, asOut, B3_read_page, er, Bool.not_true, Bool.not_false, hly, hl0, hix, hd0, lenDec, decide_eq_false h2, rowT, h1, Bool.true_and, neD_int, mRaise, rowN, Bool.false_eq_true, if_false]
      · have h1 : lineB y = false := by simpa using h1
        rw [h1] at er
        simp only [defM, defMc, defMX, mExprX, mSetX2, mRetX2, mCallX, mValX, mRaise, mTryK, mIsE, mFld, mIsN, mIsNN, mIsE2, mFStr, mJoin, mEnumA, mNil, mSeq, mSeqC, mRetC, mIfS, mRet, mRetN, mBk, mCt, mSet, mSetX, mPut, mApp, mFrz, mAug, mDrop, mIns, mPopAt, mPar, setAll, mUnp, gSet, gTupM, gsCons, gsNil, tVal, tAndM, tOrM, tNotM, tYesM, mBin, mUn, mAnd, mOr, mNot, mIf, mChain, mVar, mC, mCall, mCallF, mCallC, argsOf, argOf, ptrs, putBack, aNil, aCons, mTup, mLst, mV, mTell, xLst, xToList, xsNil, xsCons, mLenS, mIxS, mDict1, mSl, oNone, oSome, mFor, mIt, mRng1, mRng2, mEnum, xLc, ownOk, wp, unwp, startS, ixD, atI, addD_int, addD_str, addD_list, addD_tuple, subD, mulD_l, mulD_r, fdivD_pos, modD_pos, ltD_int, leD_int, gtD_int, geD_int, eqD_int, neD_int, eqD_tupE, eqD_strs, neD_strs, isND, isNotND, intF, absF, lenF, joinF, negD, List.map, List.length_cons, List.length_nil, List.cons_append, List.nil_append, List.append_nil, List.replicate, List.getElem?_cons_zero, List.getElem?_cons_succ, List.set_cons_zero, List.set_cons_succ, putAt, SL.put, stables, derefs, stable, deref, heldAt, SL.held, Int.reduceLT, Int.reduceLE, Int.reduceNeg, Nat.reduceAdd, Nat.reduceLeDiff, and_self, true_and, and_true, ite_true, if_true, List.nodup_cons, List.nodup_nil, List.not_mem_nil, not_false_eq_true, Nat.succ_ne_zero, eq_self, Option.bind_some, Option.bind, Option.map, id, asOut, B3_read_page, er, Bool.not_false, rowT, h1, Bool.false_and, mRaise, rowN, Bool.false_eq_true, if_false]) ⟨_, _, rfl, fun x hx => (by cases hx), fun x hx => (by cases hx)⟩
  obtain ⟨t2, t3, rfl, ht3, ht2⟩ := hZ
  have eL' : L4_read_page [some (.v (.str z)), some (.v (.list ds)), none, none] = _ := eL
  unfold toldL
  rw [hh, hds]
  cases hf : (enumD ds).find? (fun d => !rowT r0.length d) with
  | some d =>
    rw [hf] at eL'
    simp only [defM, defMc, defMX, mExprX, mSetX2, mRetX2, mCallX, mValX, mRaise, mTryK, mIsE, mFld, mIsN, mIsNN, mIsE2, mFStr, mJoin, mEnumA, mNil, mSeq, mSeqC, mRetC, mIfS, mRet, mRetN, mBk, mCt, mSet, mSetX, mPut, mApp, mFrz, mAug, mDrop, mIns, mPopAt, mPar, setAll, mUnp, gSet, gTupM, gsCons, gsNil, tVal, tAndM, tOrM, tNotM, tYesM, mBin, mUn, mAnd, mOr, mNot, mIf, mChain, mVar, mC, mCall, mCallF, mCallC, argsOf, argOf, ptrs, putBack, aNil, aCons, mTup, mLst, mV, mTell, xLst, xToList, xsNil, xsCons, mLenS, mIxS, mDict1, mSl, oNone, oSome, mFor, mIt, mRng1, mRng2, mEnum, xLc, ownOk, wp, unwp, startS, ixD, atI, addD_int, addD_str, addD_list, addD_tuple, subD, mulD_l, mulD_r, fdivD_pos, modD_pos, ltD_int, leD_int, gtD_int, geD_int, eqD_int, neD_int, eqD_tupE, eqD_strs, neD_strs, isND, isNotND, intF, absF, lenF, joinF, negD, List.map, List.length_cons, List.length_nil, List.cons_append, List.nil_append, List.append_nil, List.replicate, List.getElem?_cons_zero, List.getElem?_cons_succ, List.set_cons_zero, List.set_cons_succ, putAt, SL.put, stables, derefs, stable, deref, heldAt, SL.held, Int.reduceLT, Int.reduceLE, Int.reduceNeg, Nat.reduceAdd, Nat.reduceLeDiff, and_self, true_and, and_true, ite_true, if_true, List.nodup_cons, List.nodup_nil, List.not_mem_nil, not_false_eq_true, Nat.succ_ne_zero, eq_self, Option.bind_some, Option.bind, Option.map, id, asOut, F_read_page, m_read_page, e0, eL']
  | none =>
    rw [hf] at eL'
    have eC : C2_read_page [some (.v (.str z)), some (.v (.list ds)), t2, t3] = some (.c (mapD innerD ds), [some (.v (.str z)), some (.v (.list ds)), t2, t3]) := lcm innerD rfl (by
        cases t3 with
        | none => rfl
        | some x => obtain ⟨d, rfl⟩ := ht3 x rfl; rfl) hdl fun d hd => by
      rw [← hds] at hd
      obtain ⟨y, hy, rfl⟩ := List.mem_map.mp hd
      show E1_read_page [some (.v (.str z)), some (.v (.list ds)), t2, some (.v (.str y))] = _
      simp only [defM, defMc, defMX, mExprX, mSetX2, mRetX2, mCallX, mValX, mRaise, mTryK, mIsE, mFld, mIsN, mIsNN, mIsE2, mFStr, mJoin, mEnumA, mNil, mSeq, mSeqC, mRetC, mIfS, mRet, mRetN, mBk, mCt, mSet, mSetX, mPut, mApp, mFrz, mAug, mDrop, mIns, mPopAt, mPar, setAll, mUnp, gSet, gTupM, gsCons, gsNil, tVal, tAndM, tOrM, tNotM, tYesM, mBin, mUn, mAnd, mOr, mNot, mIf, mChain, mVar, mC, mCall, mCallF, mCallC, argsOf, argOf, ptrs, putBack, aNil, aCons, mTup, mLst, mV, mTell, xLst, xToList, xsNil, xsCons, mLenS, mIxS, mDict1, mSl, oNone, oSome, mFor, mIt, mRng1, mRng2, mEnum, xLc, ownOk, wp, unwp, startS, ixD, atI, addD_int, addD_str, addD_list, addD_tuple, subD, mulD_l, mulD_r, fdivD_pos, modD_pos, ltD_int, leD_int, gtD_int, geD_int, eqD_int, neD_int, eqD_tupE, eqD_strs, neD_strs, isND, isNotND, intF, absF, lenF, joinF, negD, List.map, List.length_cons, List.length_nil, List.cons_append, List.nil_append, List.append_nil, List.replicate, List.getElem?_cons_zero, List.getElem?_cons_succ, List.set_cons_zero, List.set_cons_succ, putAt, SL.put, stables, derefs, stable, deref, heldAt, SL.held, Int.reduceLT, Int.reduceLE, Int.reduceNeg, Nat.reduceAdd, Nat.reduceLeDiff, and_self, true_and, and_true, ite_true, if_true, List.nodup_cons, List.nodup_nil, List.not_mem_nil, not_false_eq_true, Nat.succ_ne_zero, eq_self, Option.bind_some, Option.bind, Option.map, id, asOut, E1_read_page, sl_inner (hr y hy), innerD]
    simp only [defM, defMc, defMX, mExprX, mSetX2, mRetX2, mCallX, mValX, mRaise, mTryK, mIsE, mFld, mIsN, mIsNN, mIsE2, mFStr, mJoin, mEnumA, mNil, mSeq, mSeqC, mRetC, mIfS, mRet, mRetN, mBk, mCt, mSet, mSetX, mPut, mApp, mFrz, mAug, mDrop, mIns, mPopAt, mPar, setAll, mUnp, gSet, gTupM, gsCons, gsNil, tVal, tAndM, tOrM, tNotM, tYesM, mBin, mUn, mAnd, mOr, mNot, mIf, mChain, mVar, mC, mCall, mCallF, mCallC, argsOf, argOf, ptrs, putBack, aNil, aCons, mTup, mLst, mV, mTell, xLst, xToList, xsNil, xsCons, mLenS, mIxS, mDict1, mSl, oNone, oSome, mFor, mIt, mRng1, mRng2, mEnum, xLc, ownOk, wp, unwp, startS, ixD, atI, addD_int, addD_str, addD_list, addD_tuple, subD, mulD_l, mulD_r, fdivD_pos, modD_pos, ltD_int, leD_int, gtD_int, geD_int, eqD_int, neD_int, eqD_tupE, eqD_strs, neD_strs, isND, isNotND, intF, absF, lenF, joinF, negD, List.map, List.length_cons, List.length_nil, List.cons_append, List.nil_append, List.append_nil, List.replicate, List.getElem?_cons_zero, List.getElem?_cons_succ, List.set_cons_zero, List.set_cons_succ, putAt, SL.put, stables, derefs, stable, deref, heldAt, SL.held, Int.reduceLT, Int.reduceLE, Int.reduceNeg, Nat.reduceAdd, Nat.reduceLeDiff, and_self, true_and, and_true, ite_true, if_true, List.nodup_cons, List.nodup_nil, List.not_mem_nil, not_false_eq_true, Nat.succ_ne_zero, eq_self, Option.bind_some, Option.bind, Option.map, id, asOut, F_read_page, m_read_page, e0, eL', eC, tupleF_list]
/-! k74: the law's own look *)-/
def toldP : PyData ⊕ PyData → PyData
  | .inl i => .tuple [.str "row", i]
  | .inr d => .tuple [.str "told", d]
theorem due_turn {z r0 y : Str} {ds : List PyData} {i : Nat} {t4 : Option SL} (ht4 : ∀ x, t4 = some x → ∃ d, x = .v d) (hly : y.length ≤ 100000) (hl0 : r0.length ≤ 100000) (hix : ixN ds.length 0 = some 0) (hd0 : ds[0]? = some (.str r0)) :
    B5__law_due [some (.v (.str z)), some (.v (.list ds)), some (.v (.int (i : Nat))), some (.v (.str y)), t4] = some (if rowT r0.length (.tuple [.int (i : Nat), .str y]) = true then .nx else .rt (.v (.tuple [.str "row", .int (i : Nat)])), [some (.v (.str z)), some (.v (.list ds)), some (.v (.int (i : Nat))), some (.v (.str y)), t4]) := by
  by_cases h3 : 3 ≤ y.length
  · obtain ⟨a, mid, b, ez, hm⟩ := long_text h3
    have ein : inner y = mid := by
      unfold inner
      rw [ez, List.tail_cons, List.dropLast_concat]
    have li : (inner y).length ≤ 100000 := by rw [inner_len]; omega
    have e0 := sl_inner hly
    have n3 : ¬ ((y.length : Int) < 3) := by omega
    have e1 : ixD (.str y) (.int 0) = some (.str ⟨#[a]⟩) := ix_str hly (by rw [ez, atI_0])
    have e2 : ixD (.str y) (.int ((y.length : Int) - 1)) = some (.str ⟨#[b]⟩) := ix_str hly (by
      have : ((y.length : Int) - 1) = ((y.length - 1 : Nat) : Int) := by omega
      rw [this, atI_nat, len_sg, ez, ← List.cons_append, ← List.getLast?_eq_getElem?, List.getLast?_concat])
    have eg : (sg y).getLast? = some b := by rw [ez, ← List.cons_append, List.getLast?_concat]
    have ea : (sg y)[0]? = some a := by rw [ez]; rfl
    have el : lineB y = (decide (a = 124) && (decide (b = 124) && mid.all signB)) := by
      unfold lineB
      rw [decide_eq_true h3, ea, eg, ein, Bool.true_and]
      simp only [Option.some.injEq]
    rw [ein] at e0 li
    have ll : (txt mid).length ≤ 100000 := by rw [txt_len]; exact li
    have eC : C4__law_due [some (.v (.str z)), some (.v (.list ds)), some (.v (.int (i : Nat))), some (.v (.str y)), t4] = some (.c (blist signP (signsD (txt mid))), [some (.v (.str z)), some (.v (.list ds)), some (.v (.int (i : Nat))), some (.v (.str y)), t4]) := by
      refine lcb signP (S1 := [some (.v (.str z)), some (.v (.list ds)), some (.v (.int (i : Nat))), some (.v (.str y)), t4]) (by simp only [defM, defMc, defMX, mExprX, mSetX2, mRetX2, mCallX, mValX, mRaise, mTryK, mIsE, mFld, mIsN, mIsNN, mIsE2, mFStr, mJoin, mEnumA, mNil, mSeq, mSeqC, mRetC, mIfS, mRet, mRetN, mBk, mCt, mSet, mSetX, mPut, mApp, mFrz, mAug, mDrop, mIns, mPopAt, mPar, setAll, mUnp, gSet, gTupM, gsCons, gsNil, tVal, tAndM, tOrM, tNotM, tYesM, mBin, mUn, mAnd, mOr, mNot, mIf, mChain, mVar, mC, mCall, mCallF, mCallC, argsOf, argOf, ptrs, putBack, aNil, aCons, mTup, mLst, mV, mTell, xLst, xToList, xsNil, xsCons, mLenS, mIxS, mDict1, mSl, oNone, oSome, mFor, mIt, mRng1, mRng2, mEnum, xLc, ownOk, wp, unwp, startS, ixD, atI, addD_int, addD_str, addD_list, addD_tuple, subD, mulD_l, mulD_r, fdivD_pos, modD_pos, ltD_int, leD_int, gtD_int, geD_int, eqD_int, neD_int, eqD_tupE, eqD_strs, neD_strs, isND, isNotND, intF, absF, lenF, joinF, negD, List.map, List.length_cons, List.length_nil, List.cons_append, List.nil_append, List.append_nil, List.replicate, List.getElem?_cons_zero, List.getElem?_cons_succ, List.set_cons_zero, List.set_cons_succ, putAt, SL.put, stables, derefs, stable, deref, heldAt, SL.held, Int.reduceLT, Int.reduceLE, Int.reduceNeg, Nat.reduceAdd, Nat.reduceLeDiff, and_self, true_and, and_true, ite_true, if_true, List.nodup_cons, List.nodup_nil, List.not_mem_nil, not_false_eq_true, Nat.succ_ne_zero, eq_self, Option.bind_some, Option.bind, Option.map, id, asOut, e0]) ?_ (by rw [signsD_length]; exact ll) fun d hd => ?_
      · cases t4 with
        | none => rfl
        | some x => obtain ⟨d, rfl⟩ := ht4 x rfl; rfl
      · obtain ⟨c, _, rfl⟩ := signsD_mem hd
        exact inSignB rfl
    have eall : (signsD (txt mid)).all signP = mid.all signB := signP_all (txt mid)
    have er : rowT r0.length (.tuple [.int (i : Nat), .str y]) = ((decide (a = 124) && (decide (b = 124) && mid.all signB)) && decide (y.length = r0.length)) := by rw [← el]; rfl
    rw [er]
    by_cases ha : a = 124
    · by_cases hb : b = 124
      · by_cases hw : y.length = r0.length
        · cases hs : mid.all signB with
          | true => simp only [defM, defMc, defMX, mExprX, mSetX2, mRetX2, mCallX, mValX, mRaise, mTryK, mIsE, mFld, mIsN, mIsNN, mIsE2, mFStr, mJoin, mEnumA, mNil, mSeq, mSeqC, mRetC, mIfS, mRet, mRetN, mBk, mCt, mSet, mSetX, mPut, mApp, mFrz, mAug, mDrop, mIns, mPopAt, mPar, setAll, mUnp, gSet, gTupM, gsCons, gsNil, tVal, tAndM, tOrM, tNotM, tYesM, mBin, mUn, mAnd, mOr, mNot, mIf, mChain, mVar, mC, mCall, mCallF, mCallC, argsOf, argOf, ptrs, putBack, aNil, aCons, mTup, mLst, mV, mTell, xLst, xToList, xsNil, xsCons, mLenS, mIxS, mDict1, mSl, oNone, oSome, mFor, mIt, mRng1, mRng2, mEnum, xLc, ownOk, wp, unwp, startS, ixD, atI, addD_int, addD_str, addD_list, addD_tuple, subD, mulD_l, mulD_r, fdivD_pos, modD_pos, ltD_int, leD_int, gtD_int, geD_int, eqD_int, neD_int, eqD_tupE, eqD_strs, neD_strs, isND, isNotND, intF, absF, lenF, joinF, negD, List.map, List.length_cons, List.length_nil, List.cons_append, List.nil_append, List.append_nil, List.replicate, List.getElem?_cons_zero, List.getElem?_cons_succ, List.set_cons_zero, List.set_cons_succ, putAt, SL.put, stables, derefs, stable, deref, heldAt, SL.held, Int.reduceLT, Int.reduceLE, Int.reduceNeg, Nat.reduceAdd, Nat.reduceLeDiff, and_self, true_and, and_true, ite_true, if_true, List.nodup_cons, List.nodup_nil, List.not_mem_nil, not_false_eq_true, Nat.succ_ne_zero, eq_self, Option.bind_some, Option.bind, Option.map, id, asOut, B5__law_due, hly, hl0, decide_eq_false n3, ↓e1, ↓e2, neD_strs, sign_bar, decide_eq_true ha, decide_eq_true hb, Bool.not_true, hix, hd0, neD_int, lenDec, decide_eq_true hw, eC, allF_blist, eall, hs, Bool.and_self]
          | false => simp only [defM, defMc, defMX, mExprX, mSetX2, mRetX2, mCallX, mValX, mRaise, mTryK, mIsE, mFld, mIsN, mIsNN, mIsE2, mFStr, mJoin, mEnumA, mNil, mSeq, mSeqC, mRetC, mIfS, mRet, mRetN, mBk, mCt, mSet, mSetX, mPut, mApp, mFrz, mAug, mDrop, mIns, mPopAt, mPar, setAll, mUnp, gSet, gTupM, gsCons, gsNil, tVal, tAndM, tOrM, tNotM, tYesM, mBin, mUn, mAnd, mOr, mNot, mIf, mChain, mVar, mC, mCall, mCallF, mCallC, argsOf, argOf, ptrs, putBack, aNil, aCons, mTup, mLst, mV, mTell, xLst, xToList, xsNil, xsCons, mLenS, mIxS, mDict1, mSl, oNone, oSome, mFor, mIt, mRng1, mRng2, mEnum, xLc, ownOk, wp, unwp, startS, ixD, atI, addD_int, addD_str, addD_list, addD_tuple, subD, mulD_l, mulD_r, fdivD_pos, modD_pos, ltD_int, leD_int, gtD_int, geD_int, eqD_int, neD_int, eqD_tupE, eqD_strs, neD_strs, isND, isNotND, intF, absF, lenF, joinF, negD, List.map, List.length_cons, List.length_nil, List.cons_append, List.nil_append, List.append_nil, List.replicate, List.getElem?_cons_zero, List.getElem?_cons_succ, List.set_cons_zero, List.set_cons_succ, putAt, SL.put, stables, derefs, stable, deref, heldAt, SL.held, Int.reduceLT, Int.reduceLE, Int.reduceNeg, Nat.reduceAdd, Nat.reduceLeDiff, and_self, true_and, and_true, ite_true, if_true, List.nodup_cons, List.nodup_nil, List.not_mem_nil, not_false_eq_true, Nat.succ_ne_zero, eq_self, Option.bind_some, Option.bind, Option.map, id, asOut, B5__law_due, hly, hl0, decide_eq_false n3, ↓e1, ↓e2, neD_strs, sign_bar, decide_eq_true ha, decide_eq_true hb, Bool.not_true, hix, hd0, neD_int, lenDec, decide_eq_true hw, eC, allF_blist, eall, hs, Bool.and_self, Bool.and_false, Bool.false_and, Bool.not_false, Bool.false_eq_true, if_false]
        · simp only [defM, defMc, defMX, mExprX, mSetX2, mRetX2, mCallX, mValX, mRaise, mTryK, mIsE, mFld, mIsN, mIsNN, mIsE2, mFStr, mJoin, mEnumA, mNil, mSeq, mSeqC, mRetC, mIfS, mRet, mRetN, mBk, mCt, mSet, mSetX, mPut, mApp, mFrz, mAug, mDrop, mIns, mPopAt, mPar, setAll, mUnp, gSet, gTupM, gsCons, gsNil, tVal, tAndM, tOrM, tNotM, tYesM, mBin, mUn, mAnd, mOr, mNot, mIf, mChain, mVar, mC, mCall, mCallF, mCallC, argsOf, argOf, ptrs, putBack, aNil, aCons, mTup, mLst, mV, mTell, xLst, xToList, xsNil, xsCons, mLenS, mIxS, mDict1, mSl, oNone, oSome, mFor, mIt, mRng1, mRng2, mEnum, xLc, ownOk, wp, unwp, startS, ixD, atI, addD_int, addD_str, addD_list, addD_tuple, subD, mulD_l, mulD_r, fdivD_pos, modD_pos, ltD_int, leD_int, gtD_int, geD_int, eqD_int, neD_int, eqD_tupE, eqD_strs, neD_strs, isND, isNotND, intF, absF, lenF, joinF, negD, List.map, List.length_cons, List.length_nil, List.cons_append, List.nil_append, List.append_nil, List.replicate, List.getElem?_cons_zero, List.getElem?_cons_succ, List.set_cons_zero, List.set_cons_succ, putAt, SL.put, stables, derefs, stable, deref, heldAt, SL.held, Int.reduceLT, Int.reduceLE, Int.reduceNeg, Nat.reduceAdd, Nat.reduceLeDiff, and_self, true_and, and_true, ite_true, if_true, List.nodup_cons, List.nodup_nil, List.not_mem_nil, not_false_eq_true, Nat.succ_ne_zero, eq_self, Option.bind_some, Option.bind, Option.map, id, asOut, B5__law_due, hly, hl0, decide_eq_false n3, ↓e1, ↓e2, neD_strs, sign_bar, decide_eq_true ha, decide_eq_true hb, Bool.not_true, hix, hd0, neD_int, lenDec, decide_eq_false hw, Bool.and_false, Bool.not_false, Bool.false_eq_true, if_false]
      · simp only [defM, defMc, defMX, mExprX, mSetX2, mRetX2, mCallX, mValX, mRaise, mTryK, mIsE, mFld, mIsN, mIsNN, mIsE2, mFStr, mJoin, mEnumA, mNil, mSeq, mSeqC, mRetC, mIfS, mRet, mRetN, mBk, mCt, mSet, mSetX, mPut, mApp, mFrz, mAug, mDrop, mIns, mPopAt, mPar, setAll, mUnp, gSet, gTupM, gsCons, gsNil, tVal, tAndM, tOrM, tNotM, tYesM, mBin, mUn, mAnd, mOr, mNot, mIf, mChain, mVar, mC, mCall, mCallF, mCallC, argsOf, argOf, ptrs, putBack, aNil, aCons, mTup, mLst, mV, mTell, xLst, xToList, xsNil, xsCons, mLenS, mIxS, mDict1, mSl, oNone, oSome, mFor, mIt, mRng1, mRng2, mEnum, xLc, ownOk, wp, unwp, startS, ixD, atI, addD_int, addD_str, addD_list, addD_tuple, subD, mulD_l, mulD_r, fdivD_pos, modD_pos, ltD_int, leD_int, gtD_int, geD_int, eqD_int, neD_int, eqD_tupE, eqD_strs, neD_strs, isND, isNotND, intF, absF, lenF, joinF, negD, List.map, List.length_cons, List.length_nil, List.cons_append, List.nil_append, List.append_nil, List.replicate, List.getElem?_cons_zero, List.getElem?_cons_succ, List.set_cons_zero, List.set_cons_succ, putAt, SL.put, stables, derefs, stable, deref, heldAt, SL.held, Int.reduceLT, Int.reduceLE, Int.reduceNeg, Nat.reduceAdd, Nat.reduceLeDiff, and_self, true_and, and_true, ite_true, if_true, List.nodup_cons, List.nodup_nil, List.not_mem_nil, not_false_eq_true, Nat.succ_ne_zero, eq_self, Option.bind_some, Option.bind, Option.map, id, asOut, B5__law_due, hly, hl0, decide_eq_false n3, ↓e1, ↓e2, neD_strs, sign_bar, decide_eq_true ha, decide_eq_false hb, Bool.not_true, Bool.not_false, Bool.and_false, Bool.false_and, Bool.false_eq_true, if_false]
    · simp only [defM, defMc, defMX, mExprX, mSetX2, mRetX2, mCallX, mValX, mRaise, mTryK, mIsE, mFld, mIsN, mIsNN, mIsE2, mFStr, mJoin, mEnumA, mNil, mSeq, mSeqC, mRetC, mIfS, mRet, mRetN, mBk, mCt, mSet, mSetX, mPut, mApp, mFrz, mAug, mDrop, mIns, mPopAt, mPar, setAll, mUnp, gSet, gTupM, gsCons, gsNil, tVal, tAndM, tOrM, tNotM, tYesM, mBin, mUn, mAnd, mOr, mNot, mIf, mChain, mVar, mC, mCall, mCallF, mCallC, argsOf, argOf, ptrs, putBack, aNil, aCons, mTup, mLst, mV, mTell, xLst, xToList, xsNil, xsCons, mLenS, mIxS, mDict1, mSl, oNone, oSome, mFor, mIt, mRng1, mRng2, mEnum, xLc, ownOk, wp, unwp, startS, ixD, atI, addD_int, addD_str, addD_list, addD_tuple, subD, mulD_l, mulD_r, fdivD_pos, modD_pos, ltD_int, leD_int, gtD_int, geD_int, eqD_int, neD_int, eqD_tupE, eqD_strs, neD_strs, isND, isNotND, intF, absF, lenF, joinF, negD, List.map, List.length_cons, List.length_nil, List.cons_append, List.nil_append, List.append_nil, List.replicate, List.getElem?_cons_zero, List.getElem?_cons_succ, List.set_cons_zero, List.set_cons_succ, putAt, SL.put, stables, derefs, stable, deref, heldAt, SL.held, Int.reduceLT, Int.reduceLE, Int.reduceNeg, Nat.reduceAdd, Nat.reduceLeDiff, and_self, true_and, and_true, ite_true, if_true, List.nodup_cons, List.nodup_nil, List.not_mem_nil, not_false_eq_true, Nat.succ_ne_zero, eq_self, Option.bind_some, Option.bind, Option.map, id, asOut, B5__law_due, hly, hl0, decide_eq_false n3, ↓e1, ↓e2, neD_strs, sign_bar, decide_eq_false ha, Bool.not_true, Bool.not_false, Bool.and_false, Bool.false_and, Bool.false_eq_true, if_false]
  · have n3 : (y.length : Int) < 3 := by omega
    have el : lineB y = false := by
      unfold lineB
      rw [decide_eq_false h3, Bool.false_and]
    have er : rowT r0.length (.tuple [.int (i : Nat), .str y]) = (lineB y && decide (y.length = r0.length)) := rfl
    rw [er, el, Bool.false_and]
    simp only [defM, defMc, defMX, mExprX, mSetX2, mRetX2, mCallX, mValX, mRaise, mTryK, mIsE, mFld, mIsN, mIsNN, mIsE2, mFStr, mJoin, mEnumA, mNil, mSeq, mSeqC, mRetC, mIfS, mRet, mRetN, mBk, mCt, mSet, mSetX, mPut, mApp, mFrz, mAug, mDrop, mIns, mPopAt, mPar, setAll, mUnp, gSet, gTupM, gsCons, gsNil, tVal, tAndM, tOrM, tNotM, tYesM, mBin, mUn, mAnd, mOr, mNot, mIf, mChain, mVar, mC, mCall, mCallF, mCallC, argsOf, argOf, ptrs, putBack, aNil, aCons, mTup, mLst, mV, mTell, xLst, xToList, xsNil, xsCons, mLenS, mIxS, mDict1, mSl, oNone, oSome, mFor, mIt, mRng1, mRng2, mEnum, xLc, ownOk, wp, unwp, startS, ixD, atI, addD_int, addD_str, addD_list, addD_tuple, subD, mulD_l, mulD_r, fdivD_pos, modD_pos, ltD_int, leD_int, gtD_int, geD_int, eqD_int, neD_int, eqD_tupE, eqD_strs, neD_strs, isND, isNotND, intF, absF, lenF, joinF, negD, List.map, List.length_cons, List.length_nil, List.cons_append, List.nil_append, List.append_nil, List.replicate, List.getElem?_cons_zero, List.getElem?_cons_succ, List.set_cons_zero, List.set_cons_succ, putAt, SL.put, stables, derefs, stable, deref, heldAt, SL.held, Int.reduceLT, Int.reduceLE, Int.reduceNeg, Nat.reduceAdd, Nat.reduceLeDiff, and_self, true_and, and_true, ite_true, if_true, List.nodup_cons, List.nodup_nil, List.not_mem_nil, not_false_eq_true, Nat.succ_ne_zero, eq_self, Option.bind_some, Option.bind, Option.map, id, asOut, B5__law_due, hly, decide_eq_true n3, Bool.false_eq_true, if_false]
theorem law_due_ok {z r0 : Str} {rs : List Str} (h : z.length ≤ 100000) (hs : Txt.split z "\n" = r0 :: rs) (hr : ∀ r ∈ r0 :: rs, r.length ≤ 100000) (hl : (r0 :: rs).length ≤ 100000) :
    F__law_due [.v (.str z)] = some (toldP (toldL (r0 :: rs)), [.v (.str z)]) := by
  have e0 : onStr splitF (.str z) (.str "\n") = some (.list ((r0 :: rs).map .str)) := (splitN h).trans (by rw [hs])
  generalize hds : (r0 :: rs).map PyData.str = ds at *
  have hdl : ds.length ≤ 100000 := by rw [← hds, List.length_map]; exact hl
  have hix : ixN ds.length 0 = some 0 := by rw [← hds, List.map_cons, List.length_cons]; exact ix_0 _
  have hd0 : ds[0]? = some (.str r0) := by rw [← hds]; rfl
  have hl0 := hr r0 List.mem_cons_self
  have hh : ((r0 :: rs).map (·.length)).headD 0 = r0.length := rfl
  obtain ⟨S', hZ, eL⟩ := for_find (mi := mEnumA (aCons (mVar 1) (aNil))) (g := gTupM 2 (gsCons (gSet 2) (gsCons (gSet 3) (gsNil)))) (mb := B5__law_due) (S := [some (.v (.str z)), some (.v (.list ds)), none, none, none]) (S1 := [some (.v (.str z)), some (.v (.list ds)), none, none, none]) (ds := enumD ds)
    (rowT r0.length) (fun d => .rt (.v (.tuple [.str "row", rowN d]))) (fun d => .inl ⟨_, rfl⟩) (fun S => ∃ t2 t3 : Option SL, S = [some (.v (.str z)), some (.v (.list ds)), t2, t3, none] ∧ (∀ x, t3 = some x → ∃ d, x = .v d))
    (by simp only [defM, defMc, defMX, mExprX, mSetX2, mRetX2, mCallX, mValX, mRaise, mTryK, mIsE, mFld, mIsN, mIsNN, mIsE2, mFStr, mJoin, mEnumA, mNil, mSeq, mSeqC, mRetC, mIfS, mRet, mRetN, mBk, mCt, mSet, mSetX, mPut, mApp, mFrz, mAug, mDrop, mIns, mPopAt, mPar, setAll, mUnp, gSet, gTupM, gsCons, gsNil, tVal, tAndM, tOrM, tNotM, tYesM, mBin, mUn, mAnd, mOr, mNot, mIf, mChain, mVar, mC, mCall, mCallF, mCallC, argsOf, argOf, ptrs, putBack, aNil, aCons, mTup, mLst, mV, mTell, xLst, xToList, xsNil, xsCons, mLenS, mIxS, mDict1, mSl, oNone, oSome, mFor, mIt, mRng1, mRng2, mEnum, xLc, ownOk, wp, unwp, startS, ixD, atI, addD_int, addD_str, addD_list, addD_tuple, subD, mulD_l, mulD_r, fdivD_pos, modD_pos, ltD_int, leD_int, gtD_int, geD_int, eqD_int, neD_int, eqD_tupE, eqD_strs, neD_strs, isND, isNotND, intF, absF, lenF, joinF, negD, List.map, List.length_cons, List.length_nil, List.cons_append, List.nil_append, List.append_nil, List.replicate, List.getElem?_cons_zero, List.getElem?_cons_succ, List.set_cons_zero, List.set_cons_succ, putAt, SL.put, stables, derefs, stable, deref, heldAt, SL.held, Int.reduceLT, Int.reduceLE, Int.reduceNeg, Nat.reduceAdd, Nat.reduceLeDiff, and_self, true_and, and_true, ite_true, if_true, List.nodup_cons, List.nodup_nil, List.not_mem_nil, not_false_eq_true, Nat.succ_ne_zero, eq_self, Option.bind_some, Option.bind, Option.map, id, asOut]) (fun d hd S => by
      rintro ⟨t2, t3, rfl, _⟩
      rw [← hds] at hd
      obtain ⟨i, y, rfl, hy⟩ := enumS_mem hd
      exact ⟨[some (.v (.str z)), some (.v (.list ds)), some (.v (.int (i : Nat))), some (.v (.str y)), none], [some (.v (.str z)), some (.v (.list ds)), some (.v (.int (i : Nat))), some (.v (.str y)), none], rfl, ⟨_, _, rfl, fun x hx => ⟨_, (Option.some.inj hx).symm⟩⟩, due_turn (fun x hx => (by cases hx)) (hr y hy) hl0 hix hd0⟩) ⟨_, _, rfl, fun x hx => (by cases hx)⟩
  obtain ⟨t2, t3, rfl, ht3⟩ := hZ
  have eL' : L6__law_due [some (.v (.str z)), some (.v (.list ds)), none, none, none] = _ := eL
  unfold toldL
  rw [hh, hds]
  cases hf : (enumD ds).find? (fun d => !rowT r0.length d) with
  | some d =>
    rw [hf] at eL'
    simp only [defM, defMc, defMX, mExprX, mSetX2, mRetX2, mCallX, mValX, mRaise, mTryK, mIsE, mFld, mIsN, mIsNN, mIsE2, mFStr, mJoin, mEnumA, mNil, mSeq, mSeqC, mRetC, mIfS, mRet, mRetN, mBk, mCt, mSet, mSetX, mPut, mApp, mFrz, mAug, mDrop, mIns, mPopAt, mPar, setAll, mUnp, gSet, gTupM, gsCons, gsNil, tVal, tAndM, tOrM, tNotM, tYesM, mBin, mUn, mAnd, mOr, mNot, mIf, mChain, mVar, mC, mCall, mCallF, mCallC, argsOf, argOf, ptrs, putBack, aNil, aCons, mTup, mLst, mV, mTell, xLst, xToList, xsNil, xsCons, mLenS, mIxS, mDict1, mSl, oNone, oSome, mFor, mIt, mRng1, mRng2, mEnum, xLc, ownOk, wp, unwp, startS, ixD, atI, addD_int, addD_str, addD_list, addD_tuple, subD, mulD_l, mulD_r, fdivD_pos, modD_pos, ltD_int, leD_int, gtD_int, geD_int, eqD_int, neD_int, eqD_tupE, eqD_strs, neD_strs, isND, isNotND, intF, absF, lenF, joinF, negD, List.map, List.length_cons, List.length_nil, List.cons_append, List.nil_append, List.append_nil, List.replicate, List.getElem?_cons_zero, List.getElem?_cons_succ, List.set_cons_zero, List.set_cons_succ, putAt, SL.put, stables, derefs, stable, deref, heldAt, SL.held, Int.reduceLT, Int.reduceLE, Int.reduceNeg, Nat.reduceAdd, Nat.reduceLeDiff, and_self, true_and, and_true, ite_true, if_true, List.nodup_cons, List.nodup_nil, List.not_mem_nil, not_false_eq_true, Nat.succ_ne_zero, eq_self, Option.bind_some, Option.bind, Option.map, id, asOut, F__law_due, m__law_due, isi_str, Bool.not_true, e0, eL', toldP]
  | none =>
    rw [hf] at eL'
    have eC : C2__law_due [some (.v (.str z)), some (.v (.list ds)), t2, t3, none] = some (.c (mapD innerD ds), [some (.v (.str z)), some (.v (.list ds)), t2, t3, none]) := lcm innerD rfl (by
        cases t3 with
        | none => rfl
        | some x => obtain ⟨d, rfl⟩ := ht3 x rfl; rfl) hdl fun d hd => by
      rw [← hds] at hd
      obtain ⟨y, hy, rfl⟩ := List.mem_map.mp hd
      show E1__law_due [some (.v (.str z)), some (.v (.list ds)), t2, some (.v (.str y)), none] = _
      simp only [defM, defMc, defMX, mExprX, mSetX2, mRetX2, mCallX, mValX, mRaise, mTryK, mIsE, mFld, mIsN, mIsNN, mIsE2, mFStr, mJoin, mEnumA, mNil, mSeq, mSeqC, mRetC, mIfS, mRet, mRetN, mBk, mCt, mSet, mSetX, mPut, mApp, mFrz, mAug, mDrop, mIns, mPopAt, mPar, setAll, mUnp, gSet, gTupM, gsCons, gsNil, tVal, tAndM, tOrM, tNotM, tYesM, mBin, mUn, mAnd, mOr, mNot, mIf, mChain, mVar, mC, mCall, mCallF, mCallC, argsOf, argOf, ptrs, putBack, aNil, aCons, mTup, mLst, mV, mTell, xLst, xToList, xsNil, xsCons, mLenS, mIxS, mDict1, mSl, oNone, oSome, mFor, mIt, mRng1, mRng2, mEnum, xLc, ownOk, wp, unwp, startS, ixD, atI, addD_int, addD_str, addD_list, addD_tuple, subD, mulD_l, mulD_r, fdivD_pos, modD_pos, ltD_int, leD_int, gtD_int, geD_int, eqD_int, neD_int, eqD_tupE, eqD_strs, neD_strs, isND, isNotND, intF, absF, lenF, joinF, negD, List.map, List.length_cons, List.length_nil, List.cons_append, List.nil_append, List.append_nil, List.replicate, List.getElem?_cons_zero, List.getElem?_cons_succ, List.set_cons_zero, List.set_cons_succ, putAt, SL.put, stables, derefs, stable, deref, heldAt, SL.held, Int.reduceLT, Int.reduceLE, Int.reduceNeg, Nat.reduceAdd, Nat.reduceLeDiff, and_self, true_and, and_true, ite_true, if_true, List.nodup_cons, List.nodup_nil, List.not_mem_nil, not_false_eq_true, Nat.succ_ne_zero, eq_self, Option.bind_some, Option.bind, Option.map, id, asOut, E1__law_due, sl_inner (hr y hy), innerD]
    simp only [defM, defMc, defMX, mExprX, mSetX2, mRetX2, mCallX, mValX, mRaise, mTryK, mIsE, mFld, mIsN, mIsNN, mIsE2, mFStr, mJoin, mEnumA, mNil, mSeq, mSeqC, mRetC, mIfS, mRet, mRetN, mBk, mCt, mSet, mSetX, mPut, mApp, mFrz, mAug, mDrop, mIns, mPopAt, mPar, setAll, mUnp, gSet, gTupM, gsCons, gsNil, tVal, tAndM, tOrM, tNotM, tYesM, mBin, mUn, mAnd, mOr, mNot, mIf, mChain, mVar, mC, mCall, mCallF, mCallC, argsOf, argOf, ptrs, putBack, aNil, aCons, mTup, mLst, mV, mTell, xLst, xToList, xsNil, xsCons, mLenS, mIxS, mDict1, mSl, oNone, oSome, mFor, mIt, mRng1, mRng2, mEnum, xLc, ownOk, wp, unwp, startS, ixD, atI, addD_int, addD_str, addD_list, addD_tuple, subD, mulD_l, mulD_r, fdivD_pos, modD_pos, ltD_int, leD_int, gtD_int, geD_int, eqD_int, neD_int, eqD_tupE, eqD_strs, neD_strs, isND, isNotND, intF, absF, lenF, joinF, negD, List.map, List.length_cons, List.length_nil, List.cons_append, List.nil_append, List.append_nil, List.replicate, List.getElem?_cons_zero, List.getElem?_cons_succ, List.set_cons_zero, List.set_cons_succ, putAt, SL.put, stables, derefs, stable, deref, heldAt, SL.held, Int.reduceLT, Int.reduceLE, Int.reduceNeg, Nat.reduceAdd, Nat.reduceLeDiff, and_self, true_and, and_true, ite_true, if_true, List.nodup_cons, List.nodup_nil, List.not_mem_nil, not_false_eq_true, Nat.succ_ne_zero, eq_self, Option.bind_some, Option.bind, Option.map, id, asOut, F__law_due, m__law_due, isi_str, Bool.not_true, e0, eL', toldP, eC, tupleF_list]
/-- what is heard is what is due -/
def told (d : PyData) : PyData := match d with
  | .str z => toldP (toldL (Txt.split z "\n"))
  | _ => .tuple [.str "row", .int 0]
structure Lines (z : Str) : Prop where
  l : z.length ≤ 100000
  ex : ∃ r0 rs, Txt.split z "\n" = r0 :: rs ∧ (∀ r ∈ r0 :: rs, r.length ≤ 100000) ∧ (r0 :: rs).length ≤ 100000
theorem due_told {d : PyData} (h : ∀ z, d = .str z → Lines z) : F__law_due [.v d] = some (told d, [.v d]) := by
  cases d with
  | str z =>
    obtain ⟨hl, r0, rs, e, h1, h2⟩ := h z rfl
    have := law_due_ok hl e h1 h2
    show _ = some (toldP (toldL (Txt.split z "\n")), _)
    rw [e]
    exact this
  | _ => simp only [defM, defMc, defMX, mExprX, mSetX2, mRetX2, mCallX, mValX, mRaise, mTryK, mIsE, mFld, mIsN, mIsNN, mIsE2, mFStr, mJoin, mEnumA, mNil, mSeq, mSeqC, mRetC, mIfS, mRet, mRetN, mBk, mCt, mSet, mSetX, mPut, mApp, mFrz, mAug, mDrop, mIns, mPopAt, mPar, setAll, mUnp, gSet, gTupM, gsCons, gsNil, tVal, tAndM, tOrM, tNotM, tYesM, mBin, mUn, mAnd, mOr, mNot, mIf, mChain, mVar, mC, mCall, mCallF, mCallC, argsOf, argOf, ptrs, putBack, aNil, aCons, mTup, mLst, mV, mTell, xLst, xToList, xsNil, xsCons, mLenS, mIxS, mDict1, mSl, oNone, oSome, mFor, mIt, mRng1, mRng2, mEnum, xLc, ownOk, wp, unwp, startS, ixD, atI, addD_int, addD_str, addD_list, addD_tuple, subD, mulD_l, mulD_r, fdivD_pos, modD_pos, ltD_int, leD_int, gtD_int, geD_int, eqD_int, neD_int, eqD_tupE, eqD_strs, neD_strs, isND, isNotND, intF, absF, lenF, joinF, negD, List.map, List.length_cons, List.length_nil, List.cons_append, List.nil_append, List.append_nil, List.replicate, List.getElem?_cons_zero, List.getElem?_cons_succ, List.set_cons_zero, List.set_cons_succ, putAt, SL.put, stables, derefs, stable, deref, heldAt, SL.held, Int.reduceLT, Int.reduceLE, Int.reduceNeg, Nat.reduceAdd, Nat.reduceLeDiff, and_self, true_and, and_true, ite_true, if_true, List.nodup_cons, List.nodup_nil, List.not_mem_nil, not_false_eq_true, Nat.succ_ne_zero, eq_self, Option.bind_some, Option.bind, Option.map, id, asOut, F__law_due, m__law_due, isi_str, Bool.not_false, told]
theorem kx1 : kx [("BadPage", true), ("BadText", true)] "BadText" = some true := rfl
theorem kx3 : kx [("BadPage", false), ("BadText", true)] "BadText" = some true := rfl
theorem kx4 : kx2 [("BadPage", true), ("BadText", false)] [("BadPage", false), ("BadText", false)] "BadText" = some false := rfl
theorem kok1 : kok [("BadPage", false), ("BadText", true)] "BadText" = true := rfl
theorem read_no {d : PyData} (h : ∀ z, d ≠ .str z) : F_read_page [.v d] = some (.exc "BadText" [("line", .int 0)], [.v d]) := by
  cases d with
  | str z => exact absurd rfl (h z)
  | _ => simp only [defM, defMc, defMX, mExprX, mSetX2, mRetX2, mCallX, mValX, mRaise, mTryK, mIsE, mFld, mIsN, mIsNN, mIsE2, mFStr, mJoin, mEnumA, mNil, mSeq, mSeqC, mRetC, mIfS, mRet, mRetN, mBk, mCt, mSet, mSetX, mPut, mApp, mFrz, mAug, mDrop, mIns, mPopAt, mPar, setAll, mUnp, gSet, gTupM, gsCons, gsNil, tVal, tAndM, tOrM, tNotM, tYesM, mBin, mUn, mAnd, mOr, mNot, mIf, mChain, mVar, mC, mCall, mCallF, mCallC, argsOf, argOf, ptrs, putBack, aNil, aCons, mTup, mLst, mV, mTell, xLst, xToList, xsNil, xsCons, mLenS, mIxS, mDict1, mSl, oNone, oSome, mFor, mIt, mRng1, mRng2, mEnum, xLc, ownOk, wp, unwp, startS, ixD, atI, addD_int, addD_str, addD_list, addD_tuple, subD, mulD_l, mulD_r, fdivD_pos, modD_pos, ltD_int, leD_int, gtD_int, geD_int, eqD_int, neD_int, eqD_tupE, eqD_strs, neD_strs, isND, isNotND, intF, absF, lenF, joinF, negD, List.map, List.length_cons, List.length_nil, List.cons_append, List.nil_append, List.append_nil, List.replicate, List.getElem?_cons_zero, List.getElem?_cons_succ, List.set_cons_zero, List.set_cons_succ, putAt, SL.put, stables, derefs, stable, deref, heldAt, SL.held, Int.reduceLT, Int.reduceLE, Int.reduceNeg, Nat.reduceAdd, Nat.reduceLeDiff, and_self, true_and, and_true, ite_true, if_true, List.nodup_cons, List.nodup_nil, List.not_mem_nil, not_false_eq_true, Nat.succ_ne_zero, eq_self, Option.bind_some, Option.bind, Option.map, id, asOut, F_read_page, m_read_page, F_lines_in, m_lines_in, isi_str, Bool.not_false, mRaise]
theorem heard_no {d : PyData} (h : ∀ z, d ≠ .str z) : F__law_heard [.v d] = some (told d, [.v d]) := by
  have er := read_no h
  have lk : ∀ i : PyData, List.lookup ("line" : Str) [(("line" : Str), i)] = some i := fun i => rfl
  have et : told d = .tuple [.str "row", .int 0] := by
    cases d with
    | str z => exact absurd rfl (h z)
    | _ => rfl
  rw [et]
  simp only [defM, defMc, defMX, mExprX, mSetX2, mRetX2, mCallX, mValX, mRaise, mTryK, mIsE, mFld, mIsN, mIsNN, mIsE2, mFStr, mJoin, mEnumA, mNil, mSeq, mSeqC, mRetC, mIfS, mRet, mRetN, mBk, mCt, mSet, mSetX, mPut, mApp, mFrz, mAug, mDrop, mIns, mPopAt, mPar, setAll, mUnp, gSet, gTupM, gsCons, gsNil, tVal, tAndM, tOrM, tNotM, tYesM, mBin, mUn, mAnd, mOr, mNot, mIf, mChain, mVar, mC, mCall, mCallF, mCallC, argsOf, argOf, ptrs, putBack, aNil, aCons, mTup, mLst, mV, mTell, xLst, xToList, xsNil, xsCons, mLenS, mIxS, mDict1, mSl, oNone, oSome, mFor, mIt, mRng1, mRng2, mEnum, xLc, ownOk, wp, unwp, startS, ixD, atI, addD_int, addD_str, addD_list, addD_tuple, subD, mulD_l, mulD_r, fdivD_pos, modD_pos, ltD_int, leD_int, gtD_int, geD_int, eqD_int, neD_int, eqD_tupE, eqD_strs, neD_strs, isND, isNotND, intF, absF, lenF, joinF, negD, List.map, List.length_cons, List.length_nil, List.cons_append, List.nil_append, List.append_nil, List.replicate, List.getElem?_cons_zero, List.getElem?_cons_succ, List.set_cons_zero, List.set_cons_succ, putAt, SL.put, stables, derefs, stable, deref, heldAt, SL.held, Int.reduceLT, Int.reduceLE, Int.reduceNeg, Nat.reduceAdd, Nat.reduceLeDiff, and_self, true_and, and_true, ite_true, if_true, List.nodup_cons, List.nodup_nil, List.not_mem_nil, not_false_eq_true, Nat.succ_ne_zero, eq_self, Option.bind_some, Option.bind, Option.map, id, asOut, F__law_heard, m__law_heard, er, Nat.reduceLT, Bool.and_true, decide_true, kx1, kx3, kx4, kok1, lk, Bool.not_false]
theorem heard_told {d : PyData} (h : ∀ z, d = .str z → Lines z) : F__law_heard [.v d] = some (told d, [.v d]) := by
  have lk : ∀ i : PyData, List.lookup ("line" : Str) [(("line" : Str), i)] = some i := fun i => rfl
  cases d with
  | str z =>
    obtain ⟨hl, r0, rs, e, h1, h2⟩ := h z rfl
    have er := read_page_ok hl e h1 h2
    show _ = some (toldP (toldL (Txt.split z "\n")), _)
    rw [e]
    cases ht : toldL (r0 :: rs) with
    | inl i =>
      rw [ht] at er
      simp only [defM, defMc, defMX, mExprX, mSetX2, mRetX2, mCallX, mValX, mRaise, mTryK, mIsE, mFld, mIsN, mIsNN, mIsE2, mFStr, mJoin, mEnumA, mNil, mSeq, mSeqC, mRetC, mIfS, mRet, mRetN, mBk, mCt, mSet, mSetX, mPut, mApp, mFrz, mAug, mDrop, mIns, mPopAt, mPar, setAll, mUnp, gSet, gTupM, gsCons, gsNil, tVal, tAndM, tOrM, tNotM, tYesM, mBin, mUn, mAnd, mOr, mNot, mIf, mChain, mVar, mC, mCall, mCallF, mCallC, argsOf, argOf, ptrs, putBack, aNil, aCons, mTup, mLst, mV, mTell, xLst, xToList, xsNil, xsCons, mLenS, mIxS, mDict1, mSl, oNone, oSome, mFor, mIt, mRng1, mRng2, mEnum, xLc, ownOk, wp, unwp, startS, ixD, atI, addD_int, addD_str, addD_list, addD_tuple, subD, mulD_l, mulD_r, fdivD_pos, modD_pos, ltD_int, leD_int, gtD_int, geD_int, eqD_int, neD_int, eqD_tupE, eqD_strs, neD_strs, isND, isNotND, intF, absF, lenF, joinF, negD, List.map, List.length_cons, List.length_nil, List.cons_append, List.nil_append, List.append_nil, List.replicate, List.getElem?_cons_zero, List.getElem?_cons_succ, List.set_cons_zero, List.set_cons_succ, putAt, SL.put, stables, derefs, stable, deref, heldAt, SL.held, Int.reduceLT, Int.reduceLE, Int.reduceNeg, Nat.reduceAdd, Nat.reduceLeDiff, and_self, true_and, and_true, ite_true, if_true, List.nodup_cons, List.nodup_nil, List.not_mem_nil, not_false_eq_true, Nat.succ_ne_zero, eq_self, Option.bind_some, Option.bind, Option.map, id, asOut, F__law_heard, m__law_heard, er, Nat.reduceLT, Bool.and_true, decide_true, kx1, kx3, kx4, kok1, lk, toldP, Bool.not_false, isNo]
    | inr d =>
      rw [ht] at er
      simp only [defM, defMc, defMX, mExprX, mSetX2, mRetX2, mCallX, mValX, mRaise, mTryK, mIsE, mFld, mIsN, mIsNN, mIsE2, mFStr, mJoin, mEnumA, mNil, mSeq, mSeqC, mRetC, mIfS, mRet, mRetN, mBk, mCt, mSet, mSetX, mPut, mApp, mFrz, mAug, mDrop, mIns, mPopAt, mPar, setAll, mUnp, gSet, gTupM, gsCons, gsNil, tVal, tAndM, tOrM, tNotM, tYesM, mBin, mUn, mAnd, mOr, mNot, mIf, mChain, mVar, mC, mCall, mCallF, mCallC, argsOf, argOf, ptrs, putBack, aNil, aCons, mTup, mLst, mV, mTell, xLst, xToList, xsNil, xsCons, mLenS, mIxS, mDict1, mSl, oNone, oSome, mFor, mIt, mRng1, mRng2, mEnum, xLc, ownOk, wp, unwp, startS, ixD, atI, addD_int, addD_str, addD_list, addD_tuple, subD, mulD_l, mulD_r, fdivD_pos, modD_pos, ltD_int, leD_int, gtD_int, geD_int, eqD_int, neD_int, eqD_tupE, eqD_strs, neD_strs, isND, isNotND, intF, absF, lenF, joinF, negD, List.map, List.length_cons, List.length_nil, List.cons_append, List.nil_append, List.append_nil, List.replicate, List.getElem?_cons_zero, List.getElem?_cons_succ, List.set_cons_zero, List.set_cons_succ, putAt, SL.put, stables, derefs, stable, deref, heldAt, SL.held, Int.reduceLT, Int.reduceLE, Int.reduceNeg, Nat.reduceAdd, Nat.reduceLeDiff, and_self, true_and, and_true, ite_true, if_true, List.nodup_cons, List.nodup_nil, List.not_mem_nil, not_false_eq_true, Nat.succ_ne_zero, eq_self, Option.bind_some, Option.bind, Option.map, id, asOut, F__law_heard, m__law_heard, er, toldP, isNo]
  | _ => exact heard_no fun z hz => by cases hz
/-! k74: a text with a line otherwise -/
theorem lines_of {N : Nat} {z : Str} (h : TxN N z) : ∃ rs : List Str, Txt.split z "\n" = rs ∧ rs ≠ [] ∧ (rs.map (·.length)).sum + rs.length ≤ N + 1 ∧ (∀ r ∈ rs, TxN N r) := by
  refine ⟨_, split_one z sg_feed (by decide +kernel), by simpa using spl_ne 10 (sg z) [], ?_, fun r hr => ?_⟩
  · have := spl_sum 10 (sg z) []
    rw [List.map_map, List.length_map]
    have e : ((fun x : Str => x.length) ∘ txt) = fun l : List Nat => l.length := funext fun l => txt_len l
    rw [e]
    have hl := h.l
    rw [len_sg] at hl
    rw [List.length_nil] at this
    omega
  · obtain ⟨l, hl, rfl⟩ := List.mem_map.mp hr
    obtain ⟨h1, h2⟩ := spl_mem 10 (sg z) [] l hl
    refine ⟨?_, ok_txt.mpr fun c hc => okS_iff.mp h.o c ((h2 c hc).resolve_left (by simp))⟩
    rw [txt_len]
    rw [List.length_nil, ← len_sg] at h1
    have := h.l
    omega
theorem lenS_append (a b : List Str) : ((a ++ b).map (·.length)).sum = (a.map (·.length)).sum + (b.map (·.length)).sum := by rw [List.map_append, List.sum_append]
theorem lenS_take (a : List Str) (k : Nat) : ((a.take k).map (·.length)).sum + ((a.drop k).map (·.length)).sum = (a.map (·.length)).sum := by
  rw [← lenS_append, List.take_append_drop]
theorem bent_ok {p : Pot} {n N : Nat} {z : Str} (hz : TxN N z) (hN : N ≤ 10000) (hb : Bud (n + 4) p) :
    ∃ z' p', F__law_bent_row [.q (potD p), .v (.str z)] = some (.str z', [.q (potD p'), .v (.str z)]) ∧ TxN (2 * N + 10) z' ∧ Bud n p' := by
  have hl := hz.l
  have hl5 : z.length ≤ 100000 := by omega
  obtain ⟨rs, hsp, hne, hsum, hrs⟩ := lines_of hz
  have esp := splitN hl5
  rw [hsp] at esp
  obtain ⟨w, p1, e1, w0, w1, b1⟩ := take_ok (n := n + 3) (many := 7) (hb.le (by omega)) (by omega) (by omega)
  obtain ⟨at_, p2, e2, a0, a1, b2⟩ := take_ok (n := n + 2) (many := (z.length : Int) + 1) (b1.le (by omega)) (by omega) (by omega)
  have hrl : 0 < rs.length := List.length_pos_iff.mpr hne
  obtain ⟨here, p3, e3, h0, h1, b3⟩ := take_ok (n := n + 1) (many := (rs.length : Int)) (b2.le (by omega)) (by omega) (by omega)
  obtain ⟨w, rfl⟩ := Int.eq_ofNat_of_zero_le w0
  obtain ⟨k, rfl⟩ := Int.eq_ofNat_of_zero_le a0
  obtain ⟨m, rfl⟩ := Int.eq_ofNat_of_zero_le h0
  have c1 : ((k : Int) + 1) = ((k + 1 : Nat) : Int) := by omega
  have c2 : ((k : Int) + (w : Int)) = ((k + w : Nat) : Int) := by omega
  have c3 : ((m : Int) + 1) = ((m + 1 : Nat) : Int) := by omega
  have tk := hz.take k
  by_cases hw : (w : Int) < 2
  · obtain ⟨d, p4, e4, hd, b4⟩ := of_ok (n := n) (ds := [.str "|", .str " ", .str "a", .str "\n", .str "A", .str "1", .str "-"]) b3 (by simp only [List.length_cons]; omega) (by simp only [List.length_cons, List.length_nil]; omega)
    obtain ⟨y, rfl, hy⟩ : ∃ y : Str, d = .str y ∧ TxN 1 y := by
      simp only [List.mem_cons, List.not_mem_nil, or_false] at hd
      rcases hd with rfl | rfl | rfl | rfl | rfl | rfl | rfl <;> exact ⟨_, rfl, TxN.by (by decide +kernel)⟩
    clear hd
    have td := hz.drop (k + w)
    have l1 := tk.l
    have l2 := hy.l
    have l3 := td.l
    have l4 := (tk.append hy).l
    refine ⟨_, p4, ?_, ((tk.append hy).append td).mono (by omega), b4⟩
    simp only [defM, defMc, defMX, mExprX, mSetX2, mRetX2, mCallX, mValX, mRaise, mTryK, mIsE, mFld, mIsN, mIsNN, mIsE2, mFStr, mJoin, mEnumA, mNil, mSeq, mSeqC, mRetC, mIfS, mRet, mRetN, mBk, mCt, mSet, mSetX, mPut, mApp, mFrz, mAug, mDrop, mIns, mPopAt, mPar, setAll, mUnp, gSet, gTupM, gsCons, gsNil, tVal, tAndM, tOrM, tNotM, tYesM, mBin, mUn, mAnd, mOr, mNot, mIf, mChain, mVar, mC, mCall, mCallF, mCallC, argsOf, argOf, ptrs, putBack, aNil, aCons, mTup, mLst, mV, mTell, xLst, xToList, xsNil, xsCons, mLenS, mIxS, mDict1, mSl, oNone, oSome, mFor, mIt, mRng1, mRng2, mEnum, xLc, ownOk, wp, unwp, startS, ixD, atI, addD_int, addD_str, addD_list, addD_tuple, subD, mulD_l, mulD_r, fdivD_pos, modD_pos, ltD_int, leD_int, gtD_int, geD_int, eqD_int, neD_int, eqD_tupE, eqD_strs, neD_strs, isND, isNotND, intF, absF, lenF, joinF, negD, List.map, List.length_cons, List.length_nil, List.cons_append, List.nil_append, List.append_nil, List.replicate, List.getElem?_cons_zero, List.getElem?_cons_succ, List.set_cons_zero, List.set_cons_succ, putAt, SL.put, stables, derefs, stable, deref, heldAt, SL.held, Int.reduceLT, Int.reduceLE, Int.reduceNeg, Nat.reduceAdd, Nat.reduceLeDiff, and_self, true_and, and_true, ite_true, if_true, List.nodup_cons, List.nodup_nil, List.not_mem_nil, not_false_eq_true, Nat.succ_ne_zero, eq_self, Option.bind_some, Option.bind, Option.map, id, asOut, F__law_bent_row, m__law_bent_row, hl5, e1, e2, onStr, esp, List.length_map, e3, decide_eq_true hw, slS_take hl5, c2, slS_drop hl5, e4, addD_str (a := txt ((sg z).take k)) (b := y) (by omega), addD_str (a := txt ((sg z).take k) ++ y) (b := txt ((sg z).drop (k + w))) (by omega)]
  · by_cases hw2 : (w : Int) = 2
    · have td := hz.drop (k + 1)
      have l1 := tk.l
      have l3 := td.l
      refine ⟨_, p3, ?_, (tk.append td).mono (by omega), b3.le (by omega)⟩
      simp only [defM, defMc, defMX, mExprX, mSetX2, mRetX2, mCallX, mValX, mRaise, mTryK, mIsE, mFld, mIsN, mIsNN, mIsE2, mFStr, mJoin, mEnumA, mNil, mSeq, mSeqC, mRetC, mIfS, mRet, mRetN, mBk, mCt, mSet, mSetX, mPut, mApp, mFrz, mAug, mDrop, mIns, mPopAt, mPar, setAll, mUnp, gSet, gTupM, gsCons, gsNil, tVal, tAndM, tOrM, tNotM, tYesM, mBin, mUn, mAnd, mOr, mNot, mIf, mChain, mVar, mC, mCall, mCallF, mCallC, argsOf, argOf, ptrs, putBack, aNil, aCons, mTup, mLst, mV, mTell, xLst, xToList, xsNil, xsCons, mLenS, mIxS, mDict1, mSl, oNone, oSome, mFor, mIt, mRng1, mRng2, mEnum, xLc, ownOk, wp, unwp, startS, ixD, atI, addD_int, addD_str, addD_list, addD_tuple, subD, mulD_l, mulD_r, fdivD_pos, modD_pos, ltD_int, leD_int, gtD_int, geD_int, eqD_int, neD_int, eqD_tupE, eqD_strs, neD_strs, isND, isNotND, intF, absF, lenF, joinF, negD, List.map, List.length_cons, List.length_nil, List.cons_append, List.nil_append, List.append_nil, List.replicate, List.getElem?_cons_zero, List.getElem?_cons_succ, List.set_cons_zero, List.set_cons_succ, putAt, SL.put, stables, derefs, stable, deref, heldAt, SL.held, Int.reduceLT, Int.reduceLE, Int.reduceNeg, Nat.reduceAdd, Nat.reduceLeDiff, and_self, true_and, and_true, ite_true, if_true, List.nodup_cons, List.nodup_nil, List.not_mem_nil, not_false_eq_true, Nat.succ_ne_zero, eq_self, Option.bind_some, Option.bind, Option.map, id, asOut, F__law_bent_row, m__law_bent_row, hl5, e1, e2, onStr, esp, List.length_map, e3, decide_eq_false hw, decide_eq_true hw2, slS_take hl5, c1, slS_drop hl5, addD_str (a := txt ((sg z).take k)) (b := txt ((sg z).drop (k + 1))) (by omega)]
    · have hm : m < rs.length := by omega
      have bm : ∀ ys : List Str, (ys.map (·.length)).sum + ys.length ≤ 2 * N + 10 → (∀ r ∈ ys, PyData.strOk r = true) → joinF "\n" (.list (ys.map .str)) = some (.str (Txt.join "\n" ys)) ∧ TxN (2 * N + 10) (Txt.join "\n" ys) := fun ys h1 h2 =>
        joinS (by rw [show ("\n" : Str).length = 1 by decide +kernel, Nat.mul_one]; exact h1) (by omega) (by decide +kernel) h2
      have ok : ∀ r ∈ rs, PyData.strOk r = true := fun r hr => (hrs r hr).o
      have okt : ∀ (j : Nat), ∀ r ∈ rs.take j, PyData.strOk r = true := fun j r hr => ok r ((List.take_sublist _ _).subset hr)
      have okd : ∀ (j : Nat), ∀ r ∈ rs.drop j, PyData.strOk r = true := fun j r hr => ok r ((List.drop_sublist _ _).subset hr)
      obtain ⟨rm, erm, hrm⟩ : ∃ rm, rs[m]? = some rm ∧ rm ∈ rs := ⟨rs[m], by simp [hm], List.getElem_mem hm⟩
      have lrm := (hrs rm hrm).l
      have s0 := lenS_take rs m
      have s1 := lenS_take rs (m + 1)
      have t1 : (rs.take (m + 1)) = rs.take m ++ [rm] := by rw [List.take_add_one, erm]; rfl
      have s2 : ((rs.take (m + 1)).map (·.length)).sum = ((rs.take m).map (·.length)).sum + rm.length := by rw [t1, lenS_append]; simp
      have bar1 : ((("||" : Str))).length = 2 := by decide +kernel
      have bar2 : ((("|" : Str))).length = 1 := by decide +kernel
      have emp : ((("" : Str))).length = 0 := by decide +kernel
      let A : List (List Str) := [rs.take m ++ rs.drop (m + 1), rs.take (m + 1) ++ rs.drop m, rs.take m ++ [("||" : Str)] ++ rs.drop m, rs ++ [("" : Str)], rs.take m ++ [rm ++ "|"] ++ rs.drop (m + 1)]
      have hA : ∀ ys ∈ A, (ys.map (·.length)).sum + ys.length ≤ 2 * N + 10 ∧ ∀ r ∈ ys, PyData.strOk r = true := by
        intro ys hys
        simp only [A, List.mem_cons, List.not_mem_nil, or_false] at hys
        rcases hys with rfl | rfl | rfl | rfl | rfl
        · refine ⟨by rw [lenS_append, List.length_append, List.length_take, List.length_drop]; omega, fun r hr => ?_⟩
          rcases List.mem_append.mp hr with q | q
          · exact okt _ r q
          · exact okd _ r q
        · refine ⟨by rw [lenS_append, List.length_append, List.length_take, List.length_drop]; omega, fun r hr => ?_⟩
          rcases List.mem_append.mp hr with q | q
          · exact okt _ r q
          · exact okd _ r q
        · refine ⟨by simp only [lenS_append, List.length_append, List.length_take, List.length_drop, List.map_cons, List.map_nil, List.sum_cons, List.sum_nil, List.length_cons, List.length_nil, bar1]; omega, fun r hr => ?_⟩
          rcases List.mem_append.mp hr with q | q
          · rcases List.mem_append.mp q with q | q
            · exact okt _ r q
            · rw [List.mem_singleton.mp q]; decide +kernel
          · exact okd _ r q
        · refine ⟨by simp only [lenS_append, List.length_append, List.map_cons, List.map_nil, List.sum_cons, List.sum_nil, List.length_cons, List.length_nil, emp]; omega, fun r hr => ?_⟩
          rcases List.mem_append.mp hr with q | q
          · exact ok r q
          · rw [List.mem_singleton.mp q]; decide +kernel
        · refine ⟨by simp only [lenS_append, List.length_append, List.length_take, List.length_drop, List.map_cons, List.map_nil, List.sum_cons, List.sum_nil, List.length_cons, List.length_nil, len_append, bar2]; omega, fun r hr => ?_⟩
          rcases List.mem_append.mp hr with q | q
          · rcases List.mem_append.mp q with q | q
            · exact okt _ r q
            · rw [List.mem_singleton.mp q]; exact ok_append (ok rm hrm) (by decide +kernel)
          · exact okd _ r q
      obtain ⟨d, p4, e4, hd, b4⟩ := of_ok (n := n) (ds := A.map fun ys => .list (ys.map .str)) b3 (by simp only [A, List.map_cons, List.length_cons]; omega) (by simp only [A, List.map_cons, List.length_cons, List.map_nil, List.length_nil]; omega)
      obtain ⟨ys, hys, rfl⟩ := List.mem_map.mp hd
      obtain ⟨q1, q2⟩ := bm ys (hA ys hys).1 (hA ys hys).2
      refine ⟨_, p4, ?_, q2, b4⟩
      have lr : rs.length ≤ 10001 := by omega
      have ltk : ∀ j, (rs.take j).length ≤ 10001 := fun j => by rw [List.length_take]; omega
      have ldr : ∀ j, (rs.drop j).length ≤ 10001 := fun j => by rw [List.length_drop]; omega
      have tkm : ∀ j, (rs.map PyData.str).take j = (rs.take j).map .str := fun j => (List.map_take ..).symm
      have drm : ∀ j, (rs.map PyData.str).drop j = (rs.drop j).map .str := fun j => (List.map_drop ..).symm
      have ad : ∀ a b : List Str, a.length ≤ 20010 → b.length ≤ 20010 → addD (.list (a.map .str)) (.list (b.map .str)) = some (.list ((a ++ b).map .str)) := fun a b ha hb => by
        rw [List.map_append]
        exact addD_list (by rw [List.length_map, List.length_map]; omega)
      have g1 : (PyData.list [.str "||"]) = .list (([("||" : Str)] : List Str).map .str) := rfl
      have g2 : (PyData.list [.str ""]) = .list (([""] : List Str).map .str) := rfl
      have g3 : (PyData.list [.str (rm ++ "|")]) = .list (([rm ++ "|"] : List Str).map .str) := rfl
      have hix : ixD (.list (rs.map .str)) (.int (m : Int)) = some (.str rm) := by
        show atI _ _ = _
        rw [atI_nat, List.getElem?_map, erm]
        rfl
      have x1 := ad (rs.take m) (rs.drop (m + 1)) (by have := ltk m; omega) (by have := ldr (m + 1); omega)
      have x2 := ad (rs.take (m + 1)) (rs.drop m) (by have := ltk (m + 1); omega) (by have := ldr m; omega)
      have x3 := ad (rs.take m) [("||" : Str)] (by have := ltk m; omega) (by simp)
      have x4 := ad (rs.take m ++ [("||" : Str)]) (rs.drop m) (by have := ltk m; rw [List.length_append, List.length_singleton]; omega) (by have := ldr m; omega)
      have x5 := ad rs [("" : Str)] (by omega) (by simp)
      have x6 := ad (rs.take m) [rm ++ "|"] (by have := ltk m; omega) (by simp)
      have x7 := ad (rs.take m ++ [rm ++ "|"]) (rs.drop (m + 1)) (by have := ltk m; rw [List.length_append, List.length_singleton]; omega) (by have := ldr (m + 1); omega)
      have x8 : addD (.str rm) (.str "|") = some (.str (rm ++ "|")) := addD_str (by rw [bar2]; omega)
      have x9 : addD (.list [.list ((rs.take m ++ rs.drop (m + 1)).map .str), .list ((rs.take (m + 1) ++ rs.drop m).map .str), .list ((rs.take m ++ [("||" : Str)] ++ rs.drop m).map .str)]) (.list [.list ((rs ++ [("" : Str)]).map .str), .list ((rs.take m ++ [rm ++ "|"] ++ rs.drop (m + 1)).map .str)]) = some (.list (A.map fun ys => .list (ys.map .str))) := addD_list (by simp only [List.length_cons, List.length_nil]; omega)
      generalize (A.map fun ys => PyData.list (ys.map .str)) = AA at *
      generalize eds : rs.map PyData.str = ds at *
      have slt : ∀ j : Nat, slD (.list ds) none (some (j : Int)) = some (.list ((rs.take j).map .str)) := fun j => by rw [slL_take, tkm]
      have sld : ∀ j : Nat, slD (.list ds) (some (j : Int)) none = some (.list ((rs.drop j).map .str)) := fun j => by rw [slL_drop, drm]
      have hdl : ds.length = rs.length := by rw [← eds, List.length_map]
      have u1 := slt m
      have u2 := slt (m + 1)
      have u3 := sld m
      have u4 := sld (m + 1)
      clear slt sld tkm drm
      generalize (rs.take m ++ rs.drop (m + 1)).map PyData.str = L1 at *
      generalize (rs.take (m + 1) ++ rs.drop m).map PyData.str = L2 at *
      generalize (rs.take m ++ [("||" : Str)] ++ rs.drop m).map PyData.str = L3 at *
      generalize (rs ++ [("" : Str)]).map PyData.str = L4 at *
      generalize (rs.take m ++ [rm ++ "|"] ++ rs.drop (m + 1)).map PyData.str = L5 at *
      have g1' : ([("||" : Str)] : List Str).map PyData.str = [.str "||"] := rfl
      have g2' : ([""] : List Str).map PyData.str = [.str ""] := rfl
      have g3' : ([rm ++ "|"] : List Str).map PyData.str = [.str (rm ++ "|")] := rfl
      rw [g1'] at x3
      rw [g2'] at x5
      rw [g3'] at x6
      generalize (rs.take m).map PyData.str = R1 at *
      generalize (rs.drop (m + 1)).map PyData.str = R2 at *
      generalize (rs.take (m + 1)).map PyData.str = R3 at *
      generalize (rs.drop m).map PyData.str = R4 at *
      generalize (rs.take m ++ [("||" : Str)]).map PyData.str = R5 at *
      generalize (rs.take m ++ [rm ++ "|"]).map PyData.str = R6 at *
      simp only [defM, defMc, defMX, mExprX, mSetX2, mRetX2, mCallX, mValX, mRaise, mTryK, mIsE, mFld, mIsN, mIsNN, mIsE2, mFStr, mJoin, mEnumA, mNil, mSeq, mSeqC, mRetC, mIfS, mRet, mRetN, mBk, mCt, mSet, mSetX, mPut, mApp, mFrz, mAug, mDrop, mIns, mPopAt, mPar, setAll, mUnp, gSet, gTupM, gsCons, gsNil, tVal, tAndM, tOrM, tNotM, tYesM, mBin, mUn, mAnd, mOr, mNot, mIf, mChain, mVar, mC, mCall, mCallF, mCallC, argsOf, argOf, ptrs, putBack, aNil, aCons, mTup, mLst, mV, mTell, xLst, xToList, xsNil, xsCons, mLenS, mIxS, mDict1, mSl, oNone, oSome, mFor, mIt, mRng1, mRng2, mEnum, xLc, ownOk, wp, unwp, startS, ixD, atI, addD_int, addD_str, addD_list, addD_tuple, subD, mulD_l, mulD_r, fdivD_pos, modD_pos, ltD_int, leD_int, gtD_int, geD_int, eqD_int, neD_int, eqD_tupE, eqD_strs, neD_strs, isND, isNotND, intF, absF, lenF, joinF, negD, List.map, List.length_cons, List.length_nil, List.cons_append, List.nil_append, List.append_nil, List.replicate, List.getElem?_cons_zero, List.getElem?_cons_succ, List.set_cons_zero, List.set_cons_succ, putAt, SL.put, stables, derefs, stable, deref, heldAt, SL.held, Int.reduceLT, Int.reduceLE, Int.reduceNeg, Nat.reduceAdd, Nat.reduceLeDiff, and_self, true_and, and_true, ite_true, if_true, List.nodup_cons, List.nodup_nil, List.not_mem_nil, not_false_eq_true, Nat.succ_ne_zero, eq_self, Option.bind_some, Option.bind, Option.map, id, asOut, F__law_bent_row, m__law_bent_row, hl5, e1, e2, onStr, esp, hdl, e3, decide_eq_false hw, decide_eq_false hw2, u1, u2, u3, u4, c3, ↓hix, x8, ↓x1, ↓x2, ↓x3, ↓x4, ↓x5, ↓x6, ↓x7, ↓x9, e4, ↓q1]
/-! k74: what is told may be shown -/
theorem lines_text {N : Nat} {z : Str} (h : TxN N z) (hN : N ≤ 50000) : Lines z := by
  obtain ⟨rs, e, hne, hsum, hrs⟩ := lines_of h
  refine ⟨by have := h.l; omega, ?_⟩
  cases rs with
  | nil => exact absurd rfl hne
  | cons r0 rs => exact ⟨r0, rs, e, fun r hr => by have := (hrs r hr).l; omega, by omega⟩
theorem fin_strs {zs : List Str} {M : Nat} (hz : ∀ z ∈ zs, PyData.strOk z = true) (h : 10 * (zs.map (·.length)).sum + 4 * zs.length ≤ M) : FinA 0 M (zs.map .str) := by
  induction zs generalizing M with
  | nil => exact FinA.nil
  | cons z zs ih =>
    simp only [List.map_cons, List.sum_cons, List.length_cons] at h
    exact (FinA.cons (Fin.str (B := 10 * z.length + 2) (hz z List.mem_cons_self) (Nat.le_refl _)) (ih (M := 10 * (zs.map (·.length)).sum + 4 * zs.length) (fun y hy => hz y (List.mem_cons_of_mem _ hy)) (Nat.le_refl _))).mono (Nat.le_refl _) (by omega)
theorem innerD_map (zs : List Str) : mapD innerD (zs.map .str) = (zs.map fun z => txt (inner z)).map .str := by
  unfold mapD
  rw [List.map_map, List.map_map]
  rfl
theorem told_fin {N : Nat} {z : Str} (h : TxN N z) (hN : N ≤ 5000) : Fin 3 200000 (told (.str z)) := by
  obtain ⟨rs, e, hne, hsum, hrs⟩ := lines_of h
  show Fin 3 200000 (toldP (toldL (Txt.split z "\n")))
  rw [e]
  have hr : rs.length ≤ 5001 := by omega
  have f1 : Fin 0 50 (.str "row") := Fin.by (by decide +kernel)
  have f2 : Fin 0 50 (.str "told") := Fin.by (by decide +kernel)
  unfold toldL
  cases hf : (enumD (rs.map .str)).find? (fun d => !rowT ((rs.map (·.length)).headD 0) d) with
  | some d =>
    obtain ⟨i, x, rfl, hx⟩ := enumD_mem (List.mem_of_find?_eq_some hf)
    have hi := (List.getElem?_eq_some_iff.mp hx).1
    rw [List.length_map] at hi
    exact ((FinA.cons f1 (FinA.cons (Fin.int (B := 19) (by omega) (by omega) (Nat.le_refl _)) (FinA.nil (B := 0)))).tuple).mono (by omega) (by omega)
  | none =>
    have fa : FinA 0 100000 (mapD innerD (rs.map .str)) := by
      rw [innerD_map]
      refine fin_strs (fun y hy => ?_) ?_
      · obtain ⟨r, hr, rfl⟩ := List.mem_map.mp hy
        exact ok_txt.mpr fun c hc => okS_iff.mp (hrs r hr).o c (List.mem_of_mem_tail ((List.dropLast_sublist _).subset hc))
      · rw [List.map_map, List.length_map]
        have : (rs.map ((fun x => x.length) ∘ fun z => txt (inner z))).sum ≤ (rs.map (·.length)).sum := by
          clear hsum hrs e hne hr hf
          induction rs with
          | nil => exact Nat.le_refl _
          | cons r rs ih =>
            simp only [List.map_cons, List.sum_cons, Function.comp]
            rw [txt_len, inner_len]
            have := ih
            simp only [Function.comp] at this
            omega
        omega
    exact ((FinA.cons (f2.mono (Nat.zero_le 1) (Nat.le_refl _)) (FinA.cons (fa.tuple) (FinA.nil (B := 0)))).tuple).mono (by omega) (by omega)
/-! a page's text -/
def bars (z : Str) : Str := "|" ++ z ++ "|"
theorem sg_bars (z : Str) : sg (bars z) = 124 :: (sg z ++ [124]) := by
  unfold bars
  rw [sg_append, sg_append, sg_bar]
  rfl
theorem bars_len (z : Str) : (bars z).length = z.length + 2 := by rw [len_sg, sg_bars, List.length_cons, List.length_append, ← len_sg]; rfl
theorem inner_bars (z : Str) : inner (bars z) = sg z := by
  unfold inner
  rw [sg_bars, List.tail_cons, List.dropLast_concat]
theorem lineB_bars {z : Str} (h : 0 < z.length) (hs : ∀ c ∈ sg z, signB c = true) : lineB (bars z) = true := by
  unfold lineB
  rw [inner_bars, bars_len, sg_bars, ← List.cons_append, List.getLast?_concat, decide_eq_true (by omega)]
  simp only [List.cons_append, List.getElem?_cons_zero, decide_true, Bool.true_and]
  exact List.all_eq_true.mpr hs
/-- a drawn page -/
structure Leaf (h w : Nat) (rs : List Str) : Prop where
  ne : 0 < rs.length
  hi : rs.length ≤ h
  wide : ∃ k, 0 < k ∧ k ≤ w ∧ ∀ z ∈ rs, z.length = k
  sign : ∀ z ∈ rs, ∀ c ∈ sg z, signB c = true
theorem signs_ok {z : Str} (h : ∀ c ∈ sg z, signB c = true) : PyData.strOk z = true := okS_iff.mpr fun c hc => by
  have := (signB_iff c).mp (h c hc)
  omega
theorem Leaf.toldL {h w : Nat} {rs : List Str} (L : Leaf h w rs) : toldL (rs.map bars) = .inr (.tuple (rs.map .str)) := by
  obtain ⟨k, k0, kw, hk⟩ := L.wide
  have hd : ((rs.map bars).map (·.length)).headD 0 = k + 2 := by
    have := L.ne
    cases rs with
    | nil => simp at this
    | cons r rs =>
      show (bars r).length = _
      rw [bars_len, hk r List.mem_cons_self]
  unfold VL.toldL
  rw [hd]
  have hf : (enumD ((rs.map bars).map .str)).find? (fun d => !rowT (k + 2) d) = none := by
    rw [List.find?_eq_none]
    intro d hd
    obtain ⟨i, z, rfl, hz⟩ := enumS_mem hd
    obtain ⟨r, hr, rfl⟩ := List.mem_map.mp hz
    have e1 : rowT (k + 2) (.tuple [.int (i : Nat), .str (bars r)]) = (lineB (bars r) && decide ((bars r).length = k + 2)) := rfl
    rw [e1, lineB_bars (by rw [hk r hr]; exact k0) (L.sign r hr), bars_len, hk r hr]
    simp
  rw [hf]
  show Sum.inr (PyData.tuple (mapD innerD ((rs.map bars).map .str))) = _
  rw [innerD_map]
  have : ((fun z => txt (inner z)) ∘ bars) = id := by
    funext z
    show txt (inner (bars z)) = z
    rw [inner_bars, txt_sg]
  rw [List.map_map (g := fun z => txt (inner z)), this, List.map_id]
/-- the text of a page -/
def leafT (rs : List Str) : Str := Txt.join "\n" (rs.map bars)
theorem Leaf.split {h w : Nat} {rs : List Str} (L : Leaf h w rs) : Txt.split (leafT rs) "\n" = rs.map bars :=
  split_join sg_feed (by decide +kernel) (by have := L.ne; intro q; rw [List.map_eq_nil_iff] at q; rw [q] at this; simp at this) fun z hz hc => by
    obtain ⟨r, hr, rfl⟩ := List.mem_map.mp hz
    rw [sg_bars] at hc
    rcases List.mem_cons.mp hc with q | q
    · omega
    · rcases List.mem_append.mp q with q | q
      · have := (signB_iff 10).mp (L.sign r hr 10 q)
        omega
      · have := List.mem_singleton.mp q
        omega
theorem Leaf.page {h w : Nat} {rs : List Str} (L : Leaf h w rs) : pageB (.tuple (rs.map .str)) = true := by
  obtain ⟨k, k0, kw, hk⟩ := L.wide
  have hne := L.ne
  cases rs with
  | nil => simp at hne
  | cons r rs =>
    show ((PyData.str r :: rs.map .str).all rowB && (PyData.str r :: rs.map .str).all (fun y => decide (lenB y = lenB (.str r)))) = true
    rw [Bool.and_eq_true]
    have mem : ∀ d ∈ PyData.str r :: rs.map .str, ∃ z, d = .str z ∧ z ∈ r :: rs := fun d hd => by
      have : d ∈ (r :: rs).map PyData.str := hd
      obtain ⟨z, hz, rfl⟩ := List.mem_map.mp this
      exact ⟨z, rfl, hz⟩
    refine ⟨List.all_eq_true.mpr fun d hd => ?_, List.all_eq_true.mpr fun d hd => ?_⟩
    · obtain ⟨z, rfl, hz⟩ := mem d hd
      show (!decide (z = "") && (sg z).all signB) = true
      rw [Bool.and_eq_true]
      refine ⟨?_, List.all_eq_true.mpr (L.sign z hz)⟩
      have : ¬ z = "" := fun q => by
        have h1 := hk z hz
        rw [q] at h1
        have : ("" : Str).length = 0 := by decide +kernel
        omega
      rw [decide_eq_false this]
      rfl
    · obtain ⟨z, rfl, hz⟩ := mem d hd
      show decide (z.length = r.length) = true
      rw [hk z hz, hk r List.mem_cons_self]
      exact decide_eq_true rfl
theorem Leaf.fin {h w : Nat} {rs : List Str} (L : Leaf h w rs) : FinA 0 (h * (10 * w + 4)) (rs.map .str) := by
  obtain ⟨k, _, hk, hz⟩ := L.wide
  refine (FinA.all (D := 0) (B := 10 * w + 2) h (by rw [List.length_map]; exact L.hi) fun x hx => ?_).mono (Nat.le_refl _) (Nat.le_refl _)
  obtain ⟨z, hm, rfl⟩ := List.mem_map.mp hx
  exact Fin.str (signs_ok (L.sign z hm)) (by rw [hz z hm]; omega)
theorem Leaf.sum {h w : Nat} {rs : List Str} (L : Leaf h w rs) : ((rs.map bars).map (·.length)).sum + (rs.map bars).length * ("\n" : Str).length ≤ h * (w + 3) := by
  obtain ⟨k, _, hk, hz⟩ := L.wide
  have e1 : ("\n" : Str).length = 1 := by decide +kernel
  have hi := L.hi
  rw [e1, Nat.mul_one, List.length_map]
  have : ∀ l : List Str, (∀ z ∈ l, z.length = k) → ((l.map bars).map (·.length)).sum + l.length = l.length * (k + 3) := by
    intro l
    induction l with
    | nil => intro _; simp
    | cons r l ih =>
      intro hl
      have := ih fun z hz => hl z (List.mem_cons_of_mem _ hz)
      simp only [List.map_cons, List.sum_cons, List.length_cons, bars_len, hl r List.mem_cons_self, Nat.succ_mul]
      omega
  rw [this rs hz]
  exact Nat.mul_le_mul hi (by omega)
theorem Leaf.text {h w : Nat} {rs : List Str} (L : Leaf h w rs) (hh : h ≤ 20) (hw : w ≤ 30) : joinF "\n" (.list ((rs.map bars).map .str)) = some (.str (leafT rs)) ∧ TxN (h * (w + 3)) (leafT rs) := by
  have b : h * (w + 3) ≤ 20 * 33 := Nat.mul_le_mul hh (by omega)
  refine joinS L.sum (by omega) (by decide +kernel) fun z hz => ?_
  obtain ⟨r, hr, rfl⟩ := List.mem_map.mp hz
  exact ok_append (ok_append (by decide +kernel) (signs_ok (L.sign r hr))) (by decide +kernel)
/-! k74: one turn *)-/
theorem check_page_good {D B : Nat} {d : PyData} (h : Fin D B d) (hB : B ≤ 200000) (hp : pageB d = true) : F_check_page [.v d] = some (.val .none, [.v d]) := by
  have e := is_page_ok h hB
  rw [hp] at e
  simp only [defM, defMc, defMX, mExprX, mSetX2, mRetX2, mCallX, mValX, mRaise, mTryK, mIsE, mFld, mIsN, mIsNN, mIsE2, mFStr, mJoin, mEnumA, mNil, mSeq, mSeqC, mRetC, mIfS, mRet, mRetN, mBk, mCt, mSet, mSetX, mPut, mApp, mFrz, mAug, mDrop, mIns, mPopAt, mPar, setAll, mUnp, gSet, gTupM, gsCons, gsNil, tVal, tAndM, tOrM, tNotM, tYesM, mBin, mUn, mAnd, mOr, mNot, mIf, mChain, mVar, mC, mCall, mCallF, mCallC, argsOf, argOf, ptrs, putBack, aNil, aCons, mTup, mLst, mV, mTell, xLst, xToList, xsNil, xsCons, mLenS, mIxS, mDict1, mSl, oNone, oSome, mFor, mIt, mRng1, mRng2, mEnum, xLc, ownOk, wp, unwp, startS, ixD, atI, addD_int, addD_str, addD_list, addD_tuple, subD, mulD_l, mulD_r, fdivD_pos, modD_pos, ltD_int, leD_int, gtD_int, geD_int, eqD_int, neD_int, eqD_tupE, eqD_strs, neD_strs, isND, isNotND, intF, absF, lenF, joinF, negD, List.map, List.length_cons, List.length_nil, List.cons_append, List.nil_append, List.append_nil, List.replicate, List.getElem?_cons_zero, List.getElem?_cons_succ, List.set_cons_zero, List.set_cons_succ, putAt, SL.put, stables, derefs, stable, deref, heldAt, SL.held, Int.reduceLT, Int.reduceLE, Int.reduceNeg, Nat.reduceAdd, Nat.reduceLeDiff, and_self, true_and, and_true, ite_true, if_true, List.nodup_cons, List.nodup_nil, List.not_mem_nil, not_false_eq_true, Nat.succ_ne_zero, eq_self, Option.bind_some, Option.bind, Option.map, id, asOut, F_check_page, m_check_page, e, Bool.not_true]
def barD : PyData → PyData
  | .str z => .str (bars z)
  | _ => .none
theorem barD_map (zs : List Str) : mapD barD (zs.map .str) = (zs.map bars).map .str := by
  unfold mapD
  rw [List.map_map, List.map_map]
  rfl
theorem empty_app (y : Str) : Str.empty ++ y = y := sg_ext (by rw [sg_append]; rfl)
theorem show_page_ok {h w : Nat} {rs : List Str} (L : Leaf h w rs) (hh : h ≤ 20) (hw : w ≤ 30) : F_show_page [.v (.tuple (rs.map .str))] = some (.val (.str (leafT rs)), [.v (.tuple (rs.map .str))]) := by
  have b : h * (10 * w + 4) ≤ 20 * 304 := Nat.mul_le_mul hh (by omega)
  have ec := check_page_good (L.fin.tuple) (by omega) L.page
  have bl : (("|" : Str)).length = 1 := by decide +kernel
  have el : Str.empty.length = 0 := rfl
  have eC : C2_show_page [some (.v (.tuple (rs.map .str))), none] = some (.c (mapD barD (rs.map .str)), [some (.v (.tuple (rs.map .str))), none]) := lcm barD rfl rfl (by have := L.hi; rw [List.length_map]; omega) fun d hd => by
    obtain ⟨z, hz, rfl⟩ := List.mem_map.mp hd
    obtain ⟨k, k0, kw, hk⟩ := L.wide
    have hl : z.length ≤ 30 := by rw [hk z hz]; omega
    show E1_show_page [some (.v (.tuple (rs.map .str))), some (.v (.str z))] = _
    simp only [defM, defMc, defMX, mExprX, mSetX2, mRetX2, mCallX, mValX, mRaise, mTryK, mIsE, mFld, mIsN, mIsNN, mIsE2, mFStr, mJoin, mEnumA, mNil, mSeq, mSeqC, mRetC, mIfS, mRet, mRetN, mBk, mCt, mSet, mSetX, mPut, mApp, mFrz, mAug, mDrop, mIns, mPopAt, mPar, setAll, mUnp, gSet, gTupM, gsCons, gsNil, tVal, tAndM, tOrM, tNotM, tYesM, mBin, mUn, mAnd, mOr, mNot, mIf, mChain, mVar, mC, mCall, mCallF, mCallC, argsOf, argOf, ptrs, putBack, aNil, aCons, mTup, mLst, mV, mTell, xLst, xToList, xsNil, xsCons, mLenS, mIxS, mDict1, mSl, oNone, oSome, mFor, mIt, mRng1, mRng2, mEnum, xLc, ownOk, wp, unwp, startS, ixD, atI, addD_int, addD_str, addD_list, addD_tuple, subD, mulD_l, mulD_r, fdivD_pos, modD_pos, ltD_int, leD_int, gtD_int, geD_int, eqD_int, neD_int, eqD_tupE, eqD_strs, neD_strs, isND, isNotND, intF, absF, lenF, joinF, negD, List.map, List.length_cons, List.length_nil, List.cons_append, List.nil_append, List.append_nil, List.replicate, List.getElem?_cons_zero, List.getElem?_cons_succ, List.set_cons_zero, List.set_cons_succ, putAt, SL.put, stables, derefs, stable, deref, heldAt, SL.held, Int.reduceLT, Int.reduceLE, Int.reduceNeg, Nat.reduceAdd, Nat.reduceLeDiff, and_self, true_and, and_true, ite_true, if_true, List.nodup_cons, List.nodup_nil, List.not_mem_nil, not_false_eq_true, Nat.succ_ne_zero, eq_self, Option.bind_some, Option.bind, Option.map, id, asOut, E1_show_page, fmtD, bl, el, empty_app, len_append, show z.length ≤ 100000 by omega, show 1 + z.length ≤ 100000 by omega, show 1 + z.length + 1 ≤ 100000 by omega, barD]
    exact rfl
  have ej := (L.text hh hw).1
  rw [← barD_map] at ej
  simp only [defM, defMc, defMX, mExprX, mSetX2, mRetX2, mCallX, mValX, mRaise, mTryK, mIsE, mFld, mIsN, mIsNN, mIsE2, mFStr, mJoin, mEnumA, mNil, mSeq, mSeqC, mRetC, mIfS, mRet, mRetN, mBk, mCt, mSet, mSetX, mPut, mApp, mFrz, mAug, mDrop, mIns, mPopAt, mPar, setAll, mUnp, gSet, gTupM, gsCons, gsNil, tVal, tAndM, tOrM, tNotM, tYesM, mBin, mUn, mAnd, mOr, mNot, mIf, mChain, mVar, mC, mCall, mCallF, mCallC, argsOf, argOf, ptrs, putBack, aNil, aCons, mTup, mLst, mV, mTell, xLst, xToList, xsNil, xsCons, mLenS, mIxS, mDict1, mSl, oNone, oSome, mFor, mIt, mRng1, mRng2, mEnum, xLc, ownOk, wp, unwp, startS, ixD, atI, addD_int, addD_str, addD_list, addD_tuple, subD, mulD_l, mulD_r, fdivD_pos, modD_pos, ltD_int, leD_int, gtD_int, geD_int, eqD_int, neD_int, eqD_tupE, eqD_strs, neD_strs, isND, isNotND, intF, absF, lenF, joinF, negD, List.map, List.length_cons, List.length_nil, List.cons_append, List.nil_append, List.append_nil, List.replicate, List.getElem?_cons_zero, List.getElem?_cons_succ, List.set_cons_zero, List.set_cons_succ, putAt, SL.put, stables, derefs, stable, deref, heldAt, SL.held, Int.reduceLT, Int.reduceLE, Int.reduceNeg, Nat.reduceAdd, Nat.reduceLeDiff, and_self, true_and, and_true, ite_true, if_true, List.nodup_cons, List.nodup_nil, List.not_mem_nil, not_false_eq_true, Nat.succ_ne_zero, eq_self, Option.bind_some, Option.bind, Option.map, id, asOut, F_show_page, m_show_page, ec, eC, onStr, ↓ej]
theorem read_back {h w : Nat} {rs : List Str} (L : Leaf h w rs) (hh : h ≤ 20) (hw : w ≤ 30) : F_read_page [.v (.str (leafT rs))] = some (.val (.tuple (rs.map .str)), [.v (.str (leafT rs))]) := by
  have b : h * (w + 3) ≤ 20 * 33 := Nat.mul_le_mul hh (by omega)
  have ht := (L.text hh hw).2
  have hs := L.split
  have hL := L.toldL
  obtain ⟨rs', e, hne, hsum, hrs⟩ := lines_of ht
  rw [hs] at e
  rw [← e] at hne hsum hrs
  have hl := ht.l
  cases hm : rs.map bars with
  | nil => exact absurd hm hne
  | cons r0 rr =>
    rw [hm] at hs hL hsum hrs
    have er := read_page_ok (z := leafT rs) (by omega) hs (fun r hr => by have := (hrs r hr).l; omega) (by omega)
    rw [hL] at er
    exact er
theorem turn_ok {p : Pot} {n N : Nat} {z : Str} {x1 x2 x3 x4 x5 x6 x7 x9 x10 : Option SL} (hz : TxN N z) (hN : N ≤ 1000) (hb : Bud (n + 9) p) :
    ∃ p' y, B1__law_right [some (.q (potD p)), x1, x2, x3, x4, x5, x6, x7, some (.v (.str z)), x9, x10] = some (.nx, [some (.q (potD p')), x1, x2, x3, x4, x5, x6, x7, some (.v (.str z)), x9, some (.v (.str y))]) ∧ Bud n p' := by
  obtain ⟨z1, p1, e1, h1, b1⟩ := bent_ok (n := n + 5) hz (by omega) (hb.le (by omega))
  obtain ⟨r, p2, e2, r0, r1, b2⟩ := take_ok (n := n + 4) (many := 3) b1 (by omega) (by omega)
  have fin : ∀ {y : Str}, TxN (4 * N + 30) y → ∃ s : Str, reprF [told (.str y)] = some (.str s) ∧ F__law_heard [.v (.str y)] = some (told (.str y), [.v (.str y)]) ∧ F__law_due [.v (.str y)] = some (told (.str y), [.v (.str y)]) := fun {y} hy => by
    have hL : ∀ u, PyData.str y = .str u → Lines u := fun u hu => by cases hu; exact lines_text hy (by omega)
    exact ⟨_, (told_fin hy (by omega)).repr (by omega) (by omega), heard_told hL, due_told hL⟩
  by_cases hr : r = 0
  · obtain ⟨z2, p3, e3, h2, b3⟩ := bent_ok (n := n) h1 (by omega) b2
    obtain ⟨s, q1, q2, q3⟩ := fin (h2.mono (by omega))
    refine ⟨p3, z2, ?_, b3⟩
    simp only [defM, defMc, defMX, mExprX, mSetX2, mRetX2, mCallX, mValX, mRaise, mTryK, mIsE, mFld, mIsN, mIsNN, mIsE2, mFStr, mJoin, mEnumA, mNil, mSeq, mSeqC, mRetC, mIfS, mRet, mRetN, mBk, mCt, mSet, mSetX, mPut, mApp, mFrz, mAug, mDrop, mIns, mPopAt, mPar, setAll, mUnp, gSet, gTupM, gsCons, gsNil, tVal, tAndM, tOrM, tNotM, tYesM, mBin, mUn, mAnd, mOr, mNot, mIf, mChain, mVar, mC, mCall, mCallF, mCallC, argsOf, argOf, ptrs, putBack, aNil, aCons, mTup, mLst, mV, mTell, xLst, xToList, xsNil, xsCons, mLenS, mIxS, mDict1, mSl, oNone, oSome, mFor, mIt, mRng1, mRng2, mEnum, xLc, ownOk, wp, unwp, startS, ixD, atI, addD_int, addD_str, addD_list, addD_tuple, subD, mulD_l, mulD_r, fdivD_pos, modD_pos, ltD_int, leD_int, gtD_int, geD_int, eqD_int, neD_int, eqD_tupE, eqD_strs, neD_strs, isND, isNotND, intF, absF, lenF, joinF, negD, List.map, List.length_cons, List.length_nil, List.cons_append, List.nil_append, List.append_nil, List.replicate, List.getElem?_cons_zero, List.getElem?_cons_succ, List.set_cons_zero, List.set_cons_succ, putAt, SL.put, stables, derefs, stable, deref, heldAt, SL.held, Int.reduceLT, Int.reduceLE, Int.reduceNeg, Nat.reduceAdd, Nat.reduceLeDiff, and_self, true_and, and_true, ite_true, if_true, List.nodup_cons, List.nodup_nil, List.not_mem_nil, not_false_eq_true, Nat.succ_ne_zero, eq_self, Option.bind_some, Option.bind, Option.map, id, asOut, B1__law_right, e1, e2, decide_eq_true hr, e3, q2, q3, ↓q1, neD_strs, decide_true, Bool.not_true]
  · obtain ⟨s, q1, q2, q3⟩ := fin (h1.mono (by omega))
    refine ⟨p2, z1, ?_, b2.le (by omega)⟩
    simp only [defM, defMc, defMX, mExprX, mSetX2, mRetX2, mCallX, mValX, mRaise, mTryK, mIsE, mFld, mIsN, mIsNN, mIsE2, mFStr, mJoin, mEnumA, mNil, mSeq, mSeqC, mRetC, mIfS, mRet, mRetN, mBk, mCt, mSet, mSetX, mPut, mApp, mFrz, mAug, mDrop, mIns, mPopAt, mPar, setAll, mUnp, gSet, gTupM, gsCons, gsNil, tVal, tAndM, tOrM, tNotM, tYesM, mBin, mUn, mAnd, mOr, mNot, mIf, mChain, mVar, mC, mCall, mCallF, mCallC, argsOf, argOf, ptrs, putBack, aNil, aCons, mTup, mLst, mV, mTell, xLst, xToList, xsNil, xsCons, mLenS, mIxS, mDict1, mSl, oNone, oSome, mFor, mIt, mRng1, mRng2, mEnum, xLc, ownOk, wp, unwp, startS, ixD, atI, addD_int, addD_str, addD_list, addD_tuple, subD, mulD_l, mulD_r, fdivD_pos, modD_pos, ltD_int, leD_int, gtD_int, geD_int, eqD_int, neD_int, eqD_tupE, eqD_strs, neD_strs, isND, isNotND, intF, absF, lenF, joinF, negD, List.map, List.length_cons, List.length_nil, List.cons_append, List.nil_append, List.append_nil, List.replicate, List.getElem?_cons_zero, List.getElem?_cons_succ, List.set_cons_zero, List.set_cons_succ, putAt, SL.put, stables, derefs, stable, deref, heldAt, SL.held, Int.reduceLT, Int.reduceLE, Int.reduceNeg, Nat.reduceAdd, Nat.reduceLeDiff, and_self, true_and, and_true, ite_true, if_true, List.nodup_cons, List.nodup_nil, List.not_mem_nil, not_false_eq_true, Nat.succ_ne_zero, eq_self, Option.bind_some, Option.bind, Option.map, id, asOut, B1__law_right, e1, e2, decide_eq_false hr, q2, q3, ↓q1, neD_strs, decide_true, Bool.not_true]
def leafTexts : List PyData := [.str "ab ", .str "   ", .str "xyz  ", .str "z"]
theorem leafTexts_ok {d : PyData} (h : d ∈ leafTexts) : ∃ z : Str, d = .str z ∧ 0 < z.length ∧ z.length ≤ 100000 ∧ ∀ c ∈ sg z, signB c = true := by
  have aux : ∀ z : Str, (decide (0 < z.length) && decide (z.length ≤ 100000) && z.cps.toList.all signB) = true → 0 < z.length ∧ z.length ≤ 100000 ∧ ∀ c ∈ sg z, signB c = true := fun z h => by
    simp only [Bool.and_eq_true, decide_eq_true_eq, List.all_eq_true] at h
    exact ⟨h.1.1, h.1.2, fun c hc => h.2 c hc⟩
  unfold leafTexts at h
  simp only [List.mem_cons, List.not_mem_nil, or_false] at h
  rcases h with rfl | rfl | rfl | rfl <;> exact ⟨_, rfl, aux _ (by decide +kernel)⟩
/-- signs drawn one by one, put together -/
theorem signs_join {zs : List PyData} {n : Nat} (hl : zs.length = n) (hn : n ≤ 1000) (hz : ∀ d ∈ zs, ∃ c, d = .str ⟨#[c]⟩ ∧ signB c = true) : ∃ z : Str, joinF "" (.list zs) = some (.str z) ∧ z.length = n ∧ ∀ c ∈ sg z, signB c = true := by
  obtain ⟨cs, rfl, hc⟩ : ∃ cs : List Nat, zs = (cs.map fun c => (⟨#[c]⟩ : Str)).map .str ∧ ∀ c ∈ cs, signB c = true := by
    clear hl hn
    induction zs with
    | nil => exact ⟨[], rfl, by simp⟩
    | cons d zs ih =>
      obtain ⟨cs, rfl, hc⟩ := ih fun d hd => hz d (List.mem_cons_of_mem _ hd)
      obtain ⟨c, rfl, h2⟩ := hz d List.mem_cons_self
      exact ⟨c :: cs, rfl, fun x hx => (List.mem_cons.mp hx).elim (fun q => by rw [q]; exact h2) (hc x)⟩
  rw [List.length_map, List.length_map] at hl
  have sum : (((cs.map fun c => (⟨#[c]⟩ : Str))).map (·.length)).sum = cs.length := by
    clear hl hz hc
    induction cs with
    | nil => rfl
    | cons c r ih =>
      have e : (⟨#[c]⟩ : Str).length = 1 := rfl
      simp only [List.map_cons, List.sum_cons, List.length_cons, ih, e]
      omega
  have e0 : ("" : Str).length = 0 := by decide +kernel
  refine ⟨⟨cs.toArray⟩, ?_, by rw [len_sg, sg_mk, hl], by rw [sg_mk]; exact hc⟩
  rw [joinD (by rw [sum, e0]; omega), join_signs]
theorem leaf_loop {p : Pot} {n : Nat} {h w : Int} (h0 : 0 < h) (h1 : h ≤ 10) (w0 : 0 < w) (w1 : w ≤ 22) (hb : Bud (n + 300) p) :
    ∃ p' rs t4 t5, L8__law_right [some (.q (potD p)), some (.v (.int h)), some (.v (.int w)), some (.c []), none, none, none, none, none, none, none] = some (.nx, [some (.q (potD p')), some (.v (.int h)), some (.v (.int w)), some (.c (rs.map .str)), t4, t5, none, none, none, none, none]) ∧ (∀ x, t4 = some x → ∃ d, x = .v d) ∧ Leaf 10 22 rs ∧ Bud n p' := by
  obtain ⟨S', e, p', rs, t4, t5, rfl, ht, hl, hz, hs, hb'⟩ := for_all (mi := mRng1 (aCons (mVar 1) (aNil))) (g := gSet 4) (mb := B7__law_right) (S := [some (.q (potD p)), some (.v (.int h)), some (.v (.int w)), some (.c []), none, none, none, none, none, none, none]) (ds := rngD 0 h.toNat)
    (fun j S => ∃ (p : Pot) (rs : List Str) (t4 t5 : Option SL), S = [some (.q (potD p)), some (.v (.int h)), some (.v (.int w)), some (.c (rs.map .str)), t4, t5, none, none, none, none, none] ∧ (∀ x, t4 = some x → ∃ d, x = .v d) ∧ rs.length = j ∧ (∀ z ∈ rs, z.length = w.toNat) ∧ (∀ z ∈ rs, ∀ c ∈ sg z, signB c = true) ∧ Bud (n + (10 - j) * 30) p)
    (by simp only [defM, defMc, defMX, mExprX, mSetX2, mRetX2, mCallX, mValX, mRaise, mTryK, mIsE, mFld, mIsN, mIsNN, mIsE2, mFStr, mJoin, mEnumA, mNil, mSeq, mSeqC, mRetC, mIfS, mRet, mRetN, mBk, mCt, mSet, mSetX, mPut, mApp, mFrz, mAug, mDrop, mIns, mPopAt, mPar, setAll, mUnp, gSet, gTupM, gsCons, gsNil, tVal, tAndM, tOrM, tNotM, tYesM, mBin, mUn, mAnd, mOr, mNot, mIf, mChain, mVar, mC, mCall, mCallF, mCallC, argsOf, argOf, ptrs, putBack, aNil, aCons, mTup, mLst, mV, mTell, xLst, xToList, xsNil, xsCons, mLenS, mIxS, mDict1, mSl, oNone, oSome, mFor, mIt, mRng1, mRng2, mEnum, xLc, ownOk, wp, unwp, startS, ixD, atI, addD_int, addD_str, addD_list, addD_tuple, subD, mulD_l, mulD_r, fdivD_pos, modD_pos, ltD_int, leD_int, gtD_int, geD_int, eqD_int, neD_int, eqD_tupE, eqD_strs, neD_strs, isND, isNotND, intF, absF, lenF, joinF, negD, List.map, List.length_cons, List.length_nil, List.cons_append, List.nil_append, List.append_nil, List.replicate, List.getElem?_cons_zero, List.getElem?_cons_succ, List.set_cons_zero, List.set_cons_succ, putAt, SL.put, stables, derefs, stable, deref, heldAt, SL.held, Int.reduceLT, Int.reduceLE, Int.reduceNeg, Nat.reduceAdd, Nat.reduceLeDiff, and_self, true_and, and_true, ite_true, if_true, List.nodup_cons, List.nodup_nil, List.not_mem_nil, not_false_eq_true, Nat.succ_ne_zero, eq_self, Option.bind_some, Option.bind, Option.map, id, asOut]; exact if_pos ⟨by omega, by omega⟩) ⟨p, [], none, none, rfl, fun x hx => (by cases hx), rfl, by simp, by simp, hb⟩ (by
      rintro j d S hd ⟨p1, rs, t4, t5, rfl, ht, hl, hz, hs, b1⟩
      obtain ⟨hj, rfl⟩ := rngD_get hd
      obtain ⟨d, p2, e2, hd2, b2⟩ := of_ok (n := n + (10 - (j + 1)) * 30 + 29) (ds := leafTexts) (b1.le (by omega)) (by decide) (by decide)
      obtain ⟨y, rfl, y0, y1, hy⟩ := leafTexts_ok hd2
      obtain ⟨zs, p3, e3, hl3, hP, b3⟩ := lc_draw (fun d => ∃ c, d = .str ⟨#[c]⟩ ∧ signB c = true) (mi := mRng1 (aCons (mVar 2) (aNil))) (me := E5__law_right) (i := 5) (p := p2) (ds := rngD 0 w.toNat) (S := [some (.q (potD p2)), some (.v (.int h)), some (.v (.int w)), some (.c (rs.map .str)), some (.v (.int (0 + (j : Nat)))), some (.v (.str y)), none, none, none, none, none]) (rest := [some (.v (.int h)), some (.v (.int w)), some (.c (rs.map .str)), some (.v (.int (0 + (j : Nat)))), some (.v (.str y)), none, none, none, none, none])
        (n + (10 - (j + 1)) * 30) 1 (by simp only [defM, defMc, defMX, mExprX, mSetX2, mRetX2, mCallX, mValX, mRaise, mTryK, mIsE, mFld, mIsN, mIsNN, mIsE2, mFStr, mJoin, mEnumA, mNil, mSeq, mSeqC, mRetC, mIfS, mRet, mRetN, mBk, mCt, mSet, mSetX, mPut, mApp, mFrz, mAug, mDrop, mIns, mPopAt, mPar, setAll, mUnp, gSet, gTupM, gsCons, gsNil, tVal, tAndM, tOrM, tNotM, tYesM, mBin, mUn, mAnd, mOr, mNot, mIf, mChain, mVar, mC, mCall, mCallF, mCallC, argsOf, argOf, ptrs, putBack, aNil, aCons, mTup, mLst, mV, mTell, xLst, xToList, xsNil, xsCons, mLenS, mIxS, mDict1, mSl, oNone, oSome, mFor, mIt, mRng1, mRng2, mEnum, xLc, ownOk, wp, unwp, startS, ixD, atI, addD_int, addD_str, addD_list, addD_tuple, subD, mulD_l, mulD_r, fdivD_pos, modD_pos, ltD_int, leD_int, gtD_int, geD_int, eqD_int, neD_int, eqD_tupE, eqD_strs, neD_strs, isND, isNotND, intF, absF, lenF, joinF, negD, List.map, List.length_cons, List.length_nil, List.cons_append, List.nil_append, List.append_nil, List.replicate, List.getElem?_cons_zero, List.getElem?_cons_succ, List.set_cons_zero, List.set_cons_succ, putAt, SL.put, stables, derefs, stable, deref, heldAt, SL.held, Int.reduceLT, Int.reduceLE, Int.reduceNeg, Nat.reduceAdd, Nat.reduceLeDiff, and_self, true_and, and_true, ite_true, if_true, List.nodup_cons, List.nodup_nil, List.not_mem_nil, not_false_eq_true, Nat.succ_ne_zero, eq_self, Option.bind_some, Option.bind, Option.map, id, asOut]; exact if_pos ⟨by omega, by omega⟩) rfl (by rw [rngD_length]; omega) (b2.le (by rw [rngD_length]; omega)) fun d hd q m hq => by
          obtain ⟨c, q', e, hc, hb⟩ := of_text (n := m) hq y0 y1
          refine ⟨_, q', ?_, ⟨c, rfl, hy c hc⟩, hb⟩
          simp only [defM, defMc, defMX, mExprX, mSetX2, mRetX2, mCallX, mValX, mRaise, mTryK, mIsE, mFld, mIsN, mIsNN, mIsE2, mFStr, mJoin, mEnumA, mNil, mSeq, mSeqC, mRetC, mIfS, mRet, mRetN, mBk, mCt, mSet, mSetX, mPut, mApp, mFrz, mAug, mDrop, mIns, mPopAt, mPar, setAll, mUnp, gSet, gTupM, gsCons, gsNil, tVal, tAndM, tOrM, tNotM, tYesM, mBin, mUn, mAnd, mOr, mNot, mIf, mChain, mVar, mC, mCall, mCallF, mCallC, argsOf, argOf, ptrs, putBack, aNil, aCons, mTup, mLst, mV, mTell, xLst, xToList, xsNil, xsCons, mLenS, mIxS, mDict1, mSl, oNone, oSome, mFor, mIt, mRng1, mRng2, mEnum, xLc, ownOk, wp, unwp, startS, ixD, atI, addD_int, addD_str, addD_list, addD_tuple, subD, mulD_l, mulD_r, fdivD_pos, modD_pos, ltD_int, leD_int, gtD_int, geD_int, eqD_int, neD_int, eqD_tupE, eqD_strs, neD_strs, isND, isNotND, intF, absF, lenF, joinF, negD, List.map, List.length_cons, List.length_nil, List.cons_append, List.nil_append, List.append_nil, List.replicate, List.getElem?_cons_zero, List.getElem?_cons_succ, List.set_cons_zero, List.set_cons_succ, putAt, SL.put, stables, derefs, stable, deref, heldAt, SL.held, Int.reduceLT, Int.reduceLE, Int.reduceNeg, Nat.reduceAdd, Nat.reduceLeDiff, and_self, true_and, and_true, ite_true, if_true, List.nodup_cons, List.nodup_nil, List.not_mem_nil, not_false_eq_true, Nat.succ_ne_zero, eq_self, Option.bind_some, Option.bind, Option.map, id, asOut, E5__law_right, e]
      rw [rngD_length] at hl3
      obtain ⟨z, ej, lz, hsz⟩ := signs_join hl3 (by omega) hP
      have e3' : C6__law_right [some (.q (potD p2)), some (.v (.int h)), some (.v (.int w)), some (.c (rs.map .str)), some (.v (.int (0 + (j : Nat)))), some (.v (.str y)), none, none, none, none, none] = _ := e3
      have hla : (rs.map PyData.str).length < 100000 := by rw [List.length_map]; omega
      have em : (rs.map PyData.str) ++ [.str z] = (rs ++ [z]).map .str := by rw [List.map_append]; rfl
      refine ⟨_, _, rfl, .inl ?_, p3, rs ++ [z], some (.v (.int (0 + (j : Nat)))), some (.v (.str y)), rfl, fun x hx => ⟨_, (Option.some.inj hx).symm⟩, by rw [List.length_append, List.length_singleton, hl], fun u hu => ?_, fun u hu => ?_, b3⟩
      · have e2' : F__law_of [.q (potD p1), .v (.list [.str "ab ", .str "   ", .str "xyz  ", .str "z"])] = some (.str y, [.q (potD p2), .v (.list [.str "ab ", .str "   ", .str "xyz  ", .str "z"])]) := e2
        generalize (rs.map PyData.str) = ds at *
        simp only [defM, defMc, defMX, mExprX, mSetX2, mRetX2, mCallX, mValX, mRaise, mTryK, mIsE, mFld, mIsN, mIsNN, mIsE2, mFStr, mJoin, mEnumA, mNil, mSeq, mSeqC, mRetC, mIfS, mRet, mRetN, mBk, mCt, mSet, mSetX, mPut, mApp, mFrz, mAug, mDrop, mIns, mPopAt, mPar, setAll, mUnp, gSet, gTupM, gsCons, gsNil, tVal, tAndM, tOrM, tNotM, tYesM, mBin, mUn, mAnd, mOr, mNot, mIf, mChain, mVar, mC, mCall, mCallF, mCallC, argsOf, argOf, ptrs, putBack, aNil, aCons, mTup, mLst, mV, mTell, xLst, xToList, xsNil, xsCons, mLenS, mIxS, mDict1, mSl, oNone, oSome, mFor, mIt, mRng1, mRng2, mEnum, xLc, ownOk, wp, unwp, startS, ixD, atI, addD_int, addD_str, addD_list, addD_tuple, subD, mulD_l, mulD_r, fdivD_pos, modD_pos, ltD_int, leD_int, gtD_int, geD_int, eqD_int, neD_int, eqD_tupE, eqD_strs, neD_strs, isND, isNotND, intF, absF, lenF, joinF, negD, List.map, List.length_cons, List.length_nil, List.cons_append, List.nil_append, List.append_nil, List.replicate, List.getElem?_cons_zero, List.getElem?_cons_succ, List.set_cons_zero, List.set_cons_succ, putAt, SL.put, stables, derefs, stable, deref, heldAt, SL.held, Int.reduceLT, Int.reduceLE, Int.reduceNeg, Nat.reduceAdd, Nat.reduceLeDiff, and_self, true_and, and_true, ite_true, if_true, List.nodup_cons, List.nodup_nil, List.not_mem_nil, not_false_eq_true, Nat.succ_ne_zero, eq_self, Option.bind_some, Option.bind, Option.map, id, asOut, B7__law_right, e2', e3', onStr, ↓ej, hla, em]
      · rcases List.mem_append.mp hu with q | q
        · exact hz u q
        · rw [List.mem_singleton.mp q, lz]
      · rcases List.mem_append.mp hu with q | q
        · exact hs u q
        · rw [List.mem_singleton.mp q]; exact hsz)
  rw [rngD_length] at hl hb'
  exact ⟨p', rs, t4, t5, e, ht, ⟨by omega, by omega, ⟨w.toNat, by omega, by omega, hz⟩, hs⟩, hb'.le (by omega)⟩
/-! k74: whole *)-/
theorem right_ok {p : Pot} {n : Nat} (hb : Bud (n + 400) p) : ∃ p', F__law_right [.q (potD p)] = some (.bool true, [.q (potD p')]) ∧ Bud n p' := by
  obtain ⟨r1, p1, e1, a0, a1, b1⟩ := take_ok (n := n + 399) (many := 10) (hb.le (by omega)) (by omega) (by omega)
  obtain ⟨r2, p2, e2, c0, c1, b2⟩ := take_ok (n := n + 398) (many := 22) (b1.le (by omega)) (by omega) (by omega)
  obtain ⟨p3, rs, t4, t5, e3, ht, L, b3⟩ := leaf_loop (n := n + 90) (h := 1 + r1) (w := 1 + r2) (p := p2) (by omega) (by omega) (by omega) (by omega) (b2.le (by omega))
  have es := show_page_ok L (by omega) (by omega)
  have er := read_back L (by omega) (by omega)
  obtain ⟨et, tN⟩ := L.text (by omega) (by omega)
  have ft := L.fin.tuple
  have rp := ft.repr (by omega) (by omega)
  have rt := (tN.fin (D := 0) (B := 100000) (by omega)).repr (by omega) (by omega)
  have eC : C4__law_right [some (.q (potD p3)), some (.v (.int (1 + r1))), some (.v (.int (1 + r2))), some (.v (.list (rs.map .str))), t4, t5, none, none, none, none, none] = some (.c (mapD barD (rs.map .str)), [some (.q (potD p3)), some (.v (.int (1 + r1))), some (.v (.int (1 + r2))), some (.v (.list (rs.map .str))), t4, t5, none, none, none, none, none]) := lcm barD rfl (by
      cases t4 with
      | none => rfl
      | some x => obtain ⟨d, rfl⟩ := ht x rfl; rfl) (by have := L.hi; rw [List.length_map]; omega) fun d hd => by
    obtain ⟨z, hz, rfl⟩ := List.mem_map.mp hd
    obtain ⟨k, k0, kw, hk⟩ := L.wide
    have hl : z.length ≤ 30 := by rw [hk z hz]; omega
    have bl : (("|" : Str)).length = 1 := by decide +kernel
    have x1 : addD (.str "|") (.str z) = some (.str ("|" ++ z)) := addD_str (by rw [bl]; omega)
    have x2 : addD (.str ("|" ++ z)) (.str "|") = some (.str (bars z)) := addD_str (by rw [len_append, bl]; omega)
    show E3__law_right [some (.q (potD p3)), some (.v (.int (1 + r1))), some (.v (.int (1 + r2))), some (.v (.list (rs.map .str))), some (.v (.str z)), t5, none, none, none, none, none] = _
    simp only [defM, defMc, defMX, mExprX, mSetX2, mRetX2, mCallX, mValX, mRaise, mTryK, mIsE, mFld, mIsN, mIsNN, mIsE2, mFStr, mJoin, mEnumA, mNil, mSeq, mSeqC, mRetC, mIfS, mRet, mRetN, mBk, mCt, mSet, mSetX, mPut, mApp, mFrz, mAug, mDrop, mIns, mPopAt, mPar, setAll, mUnp, gSet, gTupM, gsCons, gsNil, tVal, tAndM, tOrM, tNotM, tYesM, mBin, mUn, mAnd, mOr, mNot, mIf, mChain, mVar, mC, mCall, mCallF, mCallC, argsOf, argOf, ptrs, putBack, aNil, aCons, mTup, mLst, mV, mTell, xLst, xToList, xsNil, xsCons, mLenS, mIxS, mDict1, mSl, oNone, oSome, mFor, mIt, mRng1, mRng2, mEnum, xLc, ownOk, wp, unwp, startS, ixD, atI, addD_int, addD_str, addD_list, addD_tuple, subD, mulD_l, mulD_r, fdivD_pos, modD_pos, ltD_int, leD_int, gtD_int, geD_int, eqD_int, neD_int, eqD_tupE, eqD_strs, neD_strs, isND, isNotND, intF, absF, lenF, joinF, negD, List.map, List.length_cons, List.length_nil, List.cons_append, List.nil_append, List.append_nil, List.replicate, List.getElem?_cons_zero, List.getElem?_cons_succ, List.set_cons_zero, List.set_cons_succ, putAt, SL.put, stables, derefs, stable, deref, heldAt, SL.held, Int.reduceLT, Int.reduceLE, Int.reduceNeg, Nat.reduceAdd, Nat.reduceLeDiff, and_self, true_and, and_true, ite_true, if_true, List.nodup_cons, List.nodup_nil, List.not_mem_nil, not_false_eq_true, Nat.succ_ne_zero, eq_self, Option.bind_some, Option.bind, Option.map, id, asOut, E3__law_right, ↓x1, ↓x2, barD]
  rw [← barD_map] at et
  generalize hds : rs.map PyData.str = ds at *
  obtain ⟨S', eL, p4, t9, t10, rfl, b4⟩ := for_all (mi := mRng1 (aCons (mC (.int 8)) (aNil))) (g := gSet 9) (mb := B1__law_right) (S := [some (.q (potD p3)), some (.v (.int (1 + r1))), some (.v (.int (1 + r2))), some (.v (.list ds)), t4, t5, none, some (.v (.str (PyData.tuple ds).shown)), some (.v (.str (leafT rs))), none, none]) (ds := rngD 0 8)
    (fun j S => ∃ (p : Pot) (t9 t10 : Option SL), S = [some (.q (potD p)), some (.v (.int (1 + r1))), some (.v (.int (1 + r2))), some (.v (.list ds)), t4, t5, none, some (.v (.str (PyData.tuple ds).shown)), some (.v (.str (leafT rs))), t9, t10] ∧ Bud (n + (8 - j) * 9) p)
    (by simp only [defM, defMc, defMX, mExprX, mSetX2, mRetX2, mCallX, mValX, mRaise, mTryK, mIsE, mFld, mIsN, mIsNN, mIsE2, mFStr, mJoin, mEnumA, mNil, mSeq, mSeqC, mRetC, mIfS, mRet, mRetN, mBk, mCt, mSet, mSetX, mPut, mApp, mFrz, mAug, mDrop, mIns, mPopAt, mPar, setAll, mUnp, gSet, gTupM, gsCons, gsNil, tVal, tAndM, tOrM, tNotM, tYesM, mBin, mUn, mAnd, mOr, mNot, mIf, mChain, mVar, mC, mCall, mCallF, mCallC, argsOf, argOf, ptrs, putBack, aNil, aCons, mTup, mLst, mV, mTell, xLst, xToList, xsNil, xsCons, mLenS, mIxS, mDict1, mSl, oNone, oSome, mFor, mIt, mRng1, mRng2, mEnum, xLc, ownOk, wp, unwp, startS, ixD, atI, addD_int, addD_str, addD_list, addD_tuple, subD, mulD_l, mulD_r, fdivD_pos, modD_pos, ltD_int, leD_int, gtD_int, geD_int, eqD_int, neD_int, eqD_tupE, eqD_strs, neD_strs, isND, isNotND, intF, absF, lenF, joinF, negD, List.map, List.length_cons, List.length_nil, List.cons_append, List.nil_append, List.append_nil, List.replicate, List.getElem?_cons_zero, List.getElem?_cons_succ, List.set_cons_zero, List.set_cons_succ, putAt, SL.put, stables, derefs, stable, deref, heldAt, SL.held, Int.reduceLT, Int.reduceLE, Int.reduceNeg, Nat.reduceAdd, Nat.reduceLeDiff, and_self, true_and, and_true, ite_true, if_true, List.nodup_cons, List.nodup_nil, List.not_mem_nil, not_false_eq_true, Nat.succ_ne_zero, eq_self, Option.bind_some, Option.bind, Option.map, id, asOut]; exact if_pos ⟨by decide, by decide⟩) ⟨p3, none, none, rfl, b3.le (by omega)⟩ (by
      rintro j d S hd ⟨p, t9, t10, rfl, hq⟩
      obtain ⟨hj, rfl⟩ := rngD_get hd
      obtain ⟨p', y, e, hb'⟩ := turn_ok (n := n + (8 - (j + 1)) * 9) (x1 := some (.v (.int (1 + r1)))) (x2 := some (.v (.int (1 + r2)))) (x3 := some (.v (.list ds))) (x4 := t4) (x5 := t5) (x6 := none) (x7 := some (.v (.str (PyData.tuple ds).shown))) (x9 := some (.v (.int (0 + (j : Nat))))) (x10 := t10) tN (by omega) (hq.le (by omega))
      exact ⟨_, _, rfl, .inl e, p', _, _, rfl, hb'⟩)
  rw [rngD_length] at b4
  have eL' : L2__law_right [some (.q (potD p3)), some (.v (.int (1 + r1))), some (.v (.int (1 + r2))), some (.v (.list ds)), t4, t5, none, some (.v (.str (PyData.tuple ds).shown)), some (.v (.str (leafT rs))), none, none] = _ := eL
  refine ⟨p4, ?_, b4.le (by omega)⟩
  simp only [defM, defMc, defMX, mExprX, mSetX2, mRetX2, mCallX, mValX, mRaise, mTryK, mIsE, mFld, mIsN, mIsNN, mIsE2, mFStr, mJoin, mEnumA, mNil, mSeq, mSeqC, mRetC, mIfS, mRet, mRetN, mBk, mCt, mSet, mSetX, mPut, mApp, mFrz, mAug, mDrop, mIns, mPopAt, mPar, setAll, mUnp, gSet, gTupM, gsCons, gsNil, tVal, tAndM, tOrM, tNotM, tYesM, mBin, mUn, mAnd, mOr, mNot, mIf, mChain, mVar, mC, mCall, mCallF, mCallC, argsOf, argOf, ptrs, putBack, aNil, aCons, mTup, mLst, mV, mTell, xLst, xToList, xsNil, xsCons, mLenS, mIxS, mDict1, mSl, oNone, oSome, mFor, mIt, mRng1, mRng2, mEnum, xLc, ownOk, wp, unwp, startS, ixD, atI, addD_int, addD_str, addD_list, addD_tuple, subD, mulD_l, mulD_r, fdivD_pos, modD_pos, ltD_int, leD_int, gtD_int, geD_int, eqD_int, neD_int, eqD_tupE, eqD_strs, neD_strs, isND, isNotND, intF, absF, lenF, joinF, negD, List.map, List.length_cons, List.length_nil, List.cons_append, List.nil_append, List.append_nil, List.replicate, List.getElem?_cons_zero, List.getElem?_cons_succ, List.set_cons_zero, List.set_cons_succ, putAt, SL.put, stables, derefs, stable, deref, heldAt, SL.held, Int.reduceLT, Int.reduceLE, Int.reduceNeg, Nat.reduceAdd, Nat.reduceLeDiff, and_self, true_and, and_true, ite_true, if_true, List.nodup_cons, List.nodup_nil, List.not_mem_nil, not_false_eq_true, Nat.succ_ne_zero, eq_self, Option.bind_some, Option.bind, Option.map, id, asOut, F__law_right, m__law_right, e1, e2, e3, tupleF_list, ↓rp, eC, onStr, ↓et, es, ↓rt, er, neD_strs, decide_true, Bool.not_true, eL']
theorem sample_ok : ∀ d ∈ ([.str "", .str "||", .str "|", .none, .int 0, .tuple [.str "|a|"], .str "|a|\n", .str "|a|\n|ab|"] : List PyData), ∃ s : Str, reprF [told d] = some (.str s) ∧ F__law_heard [.v d] = some (told d, [.v d]) ∧ F__law_due [.v d] = some (told d, [.v d]) := by
  have go : ∀ y : Str, (decide (y.length ≤ 10) && PyData.strOk y) = true → ∃ s : Str, reprF [told (.str y)] = some (.str s) ∧ F__law_heard [.v (.str y)] = some (told (.str y), [.v (.str y)]) ∧ F__law_due [.v (.str y)] = some (told (.str y), [.v (.str y)]) := fun y hy => by
    have ty : TxN 10 y := TxN.by hy
    have hL : ∀ u, PyData.str y = .str u → Lines u := fun u hu => by cases hu; exact lines_text ty (by omega)
    exact ⟨_, (told_fin ty (by omega)).repr (by omega) (by omega), heard_told hL, due_told hL⟩
  have no : ∀ d : PyData, (∀ z, d ≠ .str z) → told d = .tuple [.str "row", .int 0] → ∃ s : Str, reprF [told d] = some (.str s) ∧ F__law_heard [.v d] = some (told d, [.v d]) ∧ F__law_due [.v d] = some (told d, [.v d]) := fun d hd et => by
    refine ⟨(PyData.tuple [.str "row", .int 0]).shown, ?_, heard_told fun z hz => absurd hz (hd z), due_told fun z hz => absurd hz (hd z)⟩
    rw [et]
    exact (Fin.by (D := 3) (B := 1000) (by decide +kernel)).repr (by omega) (by omega)
  intro d hd
  simp only [List.mem_cons, List.not_mem_nil, or_false] at hd
  rcases hd with rfl | rfl | rfl | rfl | rfl | rfl | rfl | rfl
  · exact go _ (by decide +kernel)
  · exact go _ (by decide +kernel)
  · exact go _ (by decide +kernel)
  · exact no _ (fun z hz => by cases hz) rfl
  · exact no _ (fun z hz => by cases hz) rfl
  · exact no _ (fun z hz => by cases hz) rfl
  · exact go _ (by decide +kernel)
  · exact go _ (by decide +kernel)
theorem law_true {ns : List Int} (hns : ns.length ≤ 63) : F_law [.s (.ns ns)] = some (.bool true, [.s (.ns ns)]) := by
  obtain ⟨m, hm, hm0, hm3⟩ : ∃ m : Int, (if (if (ns.length : Int) < 3 then (ns.length : Int) else 3) > 1 then (if (ns.length : Int) < 3 then (ns.length : Int) else 3) else 1) = m ∧ 0 ≤ m ∧ m ≤ 3 := ⟨_, rfl, by split <;> split <;> omega, by split <;> split <;> omega⟩
  generalize hxs : ([.str "", .str "||", .str "|", .none, .int 0, .tuple [.str "|a|"], .str "|a|\n", .str "|a|\n|ab|"] : List PyData) = xs
  have hs : ∀ d ∈ xs, ∃ s : Str, reprF [told d] = some (.str s) ∧ F__law_heard [.v d] = some (told d, [.v d]) ∧ F__law_due [.v d] = some (told d, [.v d]) := by rw [← hxs]; exact sample_ok
  have hxl : xs.length ≤ 100000 := by rw [← hxs]; simp only [List.length_cons, List.length_nil]; omega
  have eC : C6_law [some (.s (.ns ns)), some (.v (.list xs)), none, none, none, none] = some (.c (blist (fun _ => true) xs), [some (.s (.ns ns)), some (.v (.list xs)), none, none, none, none]) := lcb (fun _ => true) rfl rfl hxl fun d hd => by
    obtain ⟨s, q1, q2, q3⟩ := hs d hd
    show E5_law [some (.s (.ns ns)), some (.v (.list xs)), some (.v d), none, none, none] = _
    simp only [defM, defMc, defMX, mExprX, mSetX2, mRetX2, mCallX, mValX, mRaise, mTryK, mIsE, mFld, mIsN, mIsNN, mIsE2, mFStr, mJoin, mEnumA, mNil, mSeq, mSeqC, mRetC, mIfS, mRet, mRetN, mBk, mCt, mSet, mSetX, mPut, mApp, mFrz, mAug, mDrop, mIns, mPopAt, mPar, setAll, mUnp, gSet, gTupM, gsCons, gsNil, tVal, tAndM, tOrM, tNotM, tYesM, mBin, mUn, mAnd, mOr, mNot, mIf, mChain, mVar, mC, mCall, mCallF, mCallC, argsOf, argOf, ptrs, putBack, aNil, aCons, mTup, mLst, mV, mTell, xLst, xToList, xsNil, xsCons, mLenS, mIxS, mDict1, mSl, oNone, oSome, mFor, mIt, mRng1, mRng2, mEnum, xLc, ownOk, wp, unwp, startS, ixD, atI, addD_int, addD_str, addD_list, addD_tuple, subD, mulD_l, mulD_r, fdivD_pos, modD_pos, ltD_int, leD_int, gtD_int, geD_int, eqD_int, neD_int, eqD_tupE, eqD_strs, neD_strs, isND, isNotND, intF, absF, lenF, joinF, negD, List.map, List.length_cons, List.length_nil, List.cons_append, List.nil_append, List.append_nil, List.replicate, List.getElem?_cons_zero, List.getElem?_cons_succ, List.set_cons_zero, List.set_cons_succ, putAt, SL.put, stables, derefs, stable, deref, heldAt, SL.held, Int.reduceLT, Int.reduceLE, Int.reduceNeg, Nat.reduceAdd, Nat.reduceLeDiff, and_self, true_and, and_true, ite_true, if_true, List.nodup_cons, List.nodup_nil, List.not_mem_nil, not_false_eq_true, Nat.succ_ne_zero, eq_self, Option.bind_some, Option.bind, Option.map, id, asOut, E5_law, q2, q3, ↓q1, eqD_strs, decide_true]
  have allT : ∀ l : List PyData, l.all (fun _ => true) = true := fun l => List.all_eq_true.mpr fun _ _ => rfl
  obtain ⟨S', eL, t3, t4, t5, rfl⟩ := for_all (mi := mRng1 (aCons (mCall max2F (aCons (mC (.int 1)) (aCons (mCall min2F (aCons (mC (.int 3)) (aCons (mLenS (mVar 0)) (aNil)))) (aNil)))) (aNil))) (g := gSet 3) (mb := B3_law) (S := [some (.s (.ns ns)), some (.v (.list xs)), none, none, none, none]) (ds := rngD 0 m.toNat)
    (fun j S => ∃ (t3 t4 t5 : Option SL), S = [some (.s (.ns ns)), some (.v (.list xs)), none, t3, t4, none]) (by simp only [defM, defMc, defMX, mExprX, mSetX2, mRetX2, mCallX, mValX, mRaise, mTryK, mIsE, mFld, mIsN, mIsNN, mIsE2, mFStr, mJoin, mEnumA, mNil, mSeq, mSeqC, mRetC, mIfS, mRet, mRetN, mBk, mCt, mSet, mSetX, mPut, mApp, mFrz, mAug, mDrop, mIns, mPopAt, mPar, setAll, mUnp, gSet, gTupM, gsCons, gsNil, tVal, tAndM, tOrM, tNotM, tYesM, mBin, mUn, mAnd, mOr, mNot, mIf, mChain, mVar, mC, mCall, mCallF, mCallC, argsOf, argOf, ptrs, putBack, aNil, aCons, mTup, mLst, mV, mTell, xLst, xToList, xsNil, xsCons, mLenS, mIxS, mDict1, mSl, oNone, oSome, mFor, mIt, mRng1, mRng2, mEnum, xLc, ownOk, wp, unwp, startS, ixD, atI, addD_int, addD_str, addD_list, addD_tuple, subD, mulD_l, mulD_r, fdivD_pos, modD_pos, ltD_int, leD_int, gtD_int, geD_int, eqD_int, neD_int, eqD_tupE, eqD_strs, neD_strs, isND, isNotND, intF, absF, lenF, joinF, negD, List.map, List.length_cons, List.length_nil, List.cons_append, List.nil_append, List.append_nil, List.replicate, List.getElem?_cons_zero, List.getElem?_cons_succ, List.set_cons_zero, List.set_cons_succ, putAt, SL.put, stables, derefs, stable, deref, heldAt, SL.held, Int.reduceLT, Int.reduceLE, Int.reduceNeg, Nat.reduceAdd, Nat.reduceLeDiff, and_self, true_and, and_true, ite_true, if_true, List.nodup_cons, List.nodup_nil, List.not_mem_nil, not_false_eq_true, Nat.succ_ne_zero, eq_self, Option.bind_some, Option.bind, Option.map, id, asOut, max2F, min2F, hm]; exact if_pos ⟨by omega, by omega⟩) ⟨none, none, none, rfl⟩ (by
      rintro j d S hd ⟨t3, t4, t5, rfl⟩
      obtain ⟨hj, rfl⟩ := rngD_get hd
      obtain ⟨p, ep, bp⟩ := pot_ok (ns := ns) (k := 0 + (j : Nat)) (by omega) (by omega)
      obtain ⟨acc, T, eD, hl, p', rfl, hacc, b'⟩ := lc_all (mi := mRng1 (aCons (mC (.int 8)) (aNil))) (g := gSet 5) (mt := tYesM) (me := E1_law) (vs := [5]) (S := [some (.s (.ns ns)), some (.v (.list xs)), none, some (.v (.int (0 + (j : Nat)))), some (.c (potD p)), none]) (ds := rngD 0 8)
        (fun k T acc => ∃ p, T = [some (.s (.ns ns)), some (.v (.list xs)), none, some (.v (.int (0 + (j : Nat)))), some (.c (potD p)), none] ∧ acc = (List.replicate k true).map .bool ∧ Bud (400 * (8 - k)) p) (S1 := [some (.s (.ns ns)), some (.v (.list xs)), none, some (.v (.int (0 + (j : Nat)))), some (.c (potD p)), none]) (by simp only [defM, defMc, defMX, mExprX, mSetX2, mRetX2, mCallX, mValX, mRaise, mTryK, mIsE, mFld, mIsN, mIsNN, mIsE2, mFStr, mJoin, mEnumA, mNil, mSeq, mSeqC, mRetC, mIfS, mRet, mRetN, mBk, mCt, mSet, mSetX, mPut, mApp, mFrz, mAug, mDrop, mIns, mPopAt, mPar, setAll, mUnp, gSet, gTupM, gsCons, gsNil, tVal, tAndM, tOrM, tNotM, tYesM, mBin, mUn, mAnd, mOr, mNot, mIf, mChain, mVar, mC, mCall, mCallF, mCallC, argsOf, argOf, ptrs, putBack, aNil, aCons, mTup, mLst, mV, mTell, xLst, xToList, xsNil, xsCons, mLenS, mIxS, mDict1, mSl, oNone, oSome, mFor, mIt, mRng1, mRng2, mEnum, xLc, ownOk, wp, unwp, startS, ixD, atI, addD_int, addD_str, addD_list, addD_tuple, subD, mulD_l, mulD_r, fdivD_pos, modD_pos, ltD_int, leD_int, gtD_int, geD_int, eqD_int, neD_int, eqD_tupE, eqD_strs, neD_strs, isND, isNotND, intF, absF, lenF, joinF, negD, List.map, List.length_cons, List.length_nil, List.cons_append, List.nil_append, List.append_nil, List.replicate, List.getElem?_cons_zero, List.getElem?_cons_succ, List.set_cons_zero, List.set_cons_succ, putAt, SL.put, stables, derefs, stable, deref, heldAt, SL.held, Int.reduceLT, Int.reduceLE, Int.reduceNeg, Nat.reduceAdd, Nat.reduceLeDiff, and_self, true_and, and_true, ite_true, if_true, List.nodup_cons, List.nodup_nil, List.not_mem_nil, not_false_eq_true, Nat.succ_ne_zero, eq_self, Option.bind_some, Option.bind, Option.map, id, asOut]; exact if_pos ⟨by decide, by decide⟩) rfl (by rw [rngD_length]; omega) ⟨p, rfl, rfl, bp.le (by omega)⟩ (by
          rintro k d T acc hd ⟨p1, rfl, rfl, b1⟩
          obtain ⟨hk, rfl⟩ := rngD_get hd
          obtain ⟨p2, e2, b2⟩ := right_ok (n := 400 * (8 - (k + 1))) (b1.le (by omega))
          refine ⟨_, [some (.s (.ns ns)), some (.v (.list xs)), none, some (.v (.int (0 + (j : Nat)))), some (.c (potD p2)), some (.v (.int (0 + (k : Nat))))], .bool true, rfl, rfl, ?_, p2, rfl, ?_, b2⟩
          · simp only [defM, defMc, defMX, mExprX, mSetX2, mRetX2, mCallX, mValX, mRaise, mTryK, mIsE, mFld, mIsN, mIsNN, mIsE2, mFStr, mJoin, mEnumA, mNil, mSeq, mSeqC, mRetC, mIfS, mRet, mRetN, mBk, mCt, mSet, mSetX, mPut, mApp, mFrz, mAug, mDrop, mIns, mPopAt, mPar, setAll, mUnp, gSet, gTupM, gsCons, gsNil, tVal, tAndM, tOrM, tNotM, tYesM, mBin, mUn, mAnd, mOr, mNot, mIf, mChain, mVar, mC, mCall, mCallF, mCallC, argsOf, argOf, ptrs, putBack, aNil, aCons, mTup, mLst, mV, mTell, xLst, xToList, xsNil, xsCons, mLenS, mIxS, mDict1, mSl, oNone, oSome, mFor, mIt, mRng1, mRng2, mEnum, xLc, ownOk, wp, unwp, startS, ixD, atI, addD_int, addD_str, addD_list, addD_tuple, subD, mulD_l, mulD_r, fdivD_pos, modD_pos, ltD_int, leD_int, gtD_int, geD_int, eqD_int, neD_int, eqD_tupE, eqD_strs, neD_strs, isND, isNotND, intF, absF, lenF, joinF, negD, List.map, List.length_cons, List.length_nil, List.cons_append, List.nil_append, List.append_nil, List.replicate, List.getElem?_cons_zero, List.getElem?_cons_succ, List.set_cons_zero, List.set_cons_succ, putAt, SL.put, stables, derefs, stable, deref, heldAt, SL.held, Int.reduceLT, Int.reduceLE, Int.reduceNeg, Nat.reduceAdd, Nat.reduceLeDiff, and_self, true_and, and_true, ite_true, if_true, List.nodup_cons, List.nodup_nil, List.not_mem_nil, not_false_eq_true, Nat.succ_ne_zero, eq_self, Option.bind_some, Option.bind, Option.map, id, asOut, E1_law, e2]
          · rw [List.replicate_succ', List.map_append]
            rfl)
      have eD' : C2_law [some (.s (.ns ns)), some (.v (.list xs)), none, some (.v (.int (0 + (j : Nat)))), some (.c (potD p)), none] = some (.c ((List.replicate (rngD 0 8).length true).map .bool), [some (.s (.ns ns)), some (.v (.list xs)), none, some (.v (.int (0 + (j : Nat)))), some (.c (potD p')), none]) := by
        show xLc _ _ _ _ _ _ = _
        rw [eD, hacc]
        rfl
      have ea : allF [.list ((List.replicate (rngD 0 8).length true).map .bool)] = some (.bool true) := rfl
      exact ⟨_, [some (.s (.ns ns)), some (.v (.list xs)), none, some (.v (.int (0 + (j : Nat)))), some (.c (potD p')), none], rfl, .inl (by simp only [defM, defMc, defMX, mExprX, mSetX2, mRetX2, mCallX, mValX, mRaise, mTryK, mIsE, mFld, mIsN, mIsNN, mIsE2, mFStr, mJoin, mEnumA, mNil, mSeq, mSeqC, mRetC, mIfS, mRet, mRetN, mBk, mCt, mSet, mSetX, mPut, mApp, mFrz, mAug, mDrop, mIns, mPopAt, mPar, setAll, mUnp, gSet, gTupM, gsCons, gsNil, tVal, tAndM, tOrM, tNotM, tYesM, mBin, mUn, mAnd, mOr, mNot, mIf, mChain, mVar, mC, mCall, mCallF, mCallC, argsOf, argOf, ptrs, putBack, aNil, aCons, mTup, mLst, mV, mTell, xLst, xToList, xsNil, xsCons, mLenS, mIxS, mDict1, mSl, oNone, oSome, mFor, mIt, mRng1, mRng2, mEnum, xLc, ownOk, wp, unwp, startS, ixD, atI, addD_int, addD_str, addD_list, addD_tuple, subD, mulD_l, mulD_r, fdivD_pos, modD_pos, ltD_int, leD_int, gtD_int, geD_int, eqD_int, neD_int, eqD_tupE, eqD_strs, neD_strs, isND, isNotND, intF, absF, lenF, joinF, negD, List.map, List.length_cons, List.length_nil, List.cons_append, List.nil_append, List.append_nil, List.replicate, List.getElem?_cons_zero, List.getElem?_cons_succ, List.set_cons_zero, List.set_cons_succ, putAt, SL.put, stables, derefs, stable, deref, heldAt, SL.held, Int.reduceLT, Int.reduceLE, Int.reduceNeg, Nat.reduceAdd, Nat.reduceLeDiff, and_self, true_and, and_true, ite_true, if_true, List.nodup_cons, List.nodup_nil, List.not_mem_nil, not_false_eq_true, Nat.succ_ne_zero, eq_self, Option.bind_some, Option.bind, Option.map, id, asOut, B3_law, ep, eD', ↓ea, Bool.not_true]), _, _, none, rfl⟩)
  have eL' : L4_law [some (.s (.ns ns)), some (.v (.list xs)), none, none, none, none] = _ := eL
  simp only [defM, defMc, defMX, mExprX, mSetX2, mRetX2, mCallX, mValX, mRaise, mTryK, mIsE, mFld, mIsN, mIsNN, mIsE2, mFStr, mJoin, mEnumA, mNil, mSeq, mSeqC, mRetC, mIfS, mRet, mRetN, mBk, mCt, mSet, mSetX, mPut, mApp, mFrz, mAug, mDrop, mIns, mPopAt, mPar, setAll, mUnp, gSet, gTupM, gsCons, gsNil, tVal, tAndM, tOrM, tNotM, tYesM, mBin, mUn, mAnd, mOr, mNot, mIf, mChain, mVar, mC, mCall, mCallF, mCallC, argsOf, argOf, ptrs, putBack, aNil, aCons, mTup, mLst, mV, mTell, xLst, xToList, xsNil, xsCons, mLenS, mIxS, mDict1, mSl, oNone, oSome, mFor, mIt, mRng1, mRng2, mEnum, xLc, ownOk, wp, unwp, startS, ixD, atI, addD_int, addD_str, addD_list, addD_tuple, subD, mulD_l, mulD_r, fdivD_pos, modD_pos, ltD_int, leD_int, gtD_int, geD_int, eqD_int, neD_int, eqD_tupE, eqD_strs, neD_strs, isND, isNotND, intF, absF, lenF, joinF, negD, List.map, List.length_cons, List.length_nil, List.cons_append, List.nil_append, List.append_nil, List.replicate, List.getElem?_cons_zero, List.getElem?_cons_succ, List.set_cons_zero, List.set_cons_succ, putAt, SL.put, stables, derefs, stable, deref, heldAt, SL.held, Int.reduceLT, Int.reduceLE, Int.reduceNeg, Nat.reduceAdd, Nat.reduceLeDiff, and_self, true_and, and_true, ite_true, if_true, List.nodup_cons, List.nodup_nil, List.not_mem_nil, not_false_eq_true, Nat.succ_ne_zero, eq_self, Option.bind_some, Option.bind, Option.map, id, asOut, F_law, m_law, hxs, hxl, eC, allF_blist, allT, Bool.not_true, eL']
end VL

set_option Elab.async false
set_option linter.all false
set_option maxRecDepth 100000
set_option maxHeartbeats 4000000
namespace VL
open PySem PySem.Spec PyProof.Rows L2
theorem all_mk {l : PySem.W.OpenLaw} {w : World} {K : PySem.W.Frag} {h : Heap} {mg : Str → Option Value} {fa f__law_pot f__law_take f__law_of f__law_bent_row f_is_row f_is_page f_check_page f_show_page f_lines_in f_is_row_of_signs f_read_page f__law_heard f__law_due f__law_right f_law C_BadPage C_BadText C_SetbackError C_BadDocument I_BadPage I_BadText : Addr} {t_BAR t_BLANK_lines t_BLANK_pages t_FEED t_LETTERS_documents t_LETTERS_lines : Tok} (X : K.In h) (G : h.Ns mainGlobals mg) (hfa : mg "law" = some (.ref fa))
    {od0 an0 od1 an1 od2 an2 od3 an3 od4 an4 od5 an5 od6 an6 od7 an7 od8 an8 od9 an9 od10 an10 od11 an11 od12 an12 od13 an13 od14 an14 : Option Addr} {sl0 sl1 sl2 sl3 sl4 sl5 sl6 sl7 sl8 sl9 sl10 sl11 sl12 sl13 sl14 : Array (Option Value)} {oc0 kV0 dc0 pm0 cd0 ct0 oc1 kV1 dc1 pm1 cd1 ct1 oc2 kV2 dc2 pm2 cd2 ct2 oc3 kV3 dc3 pm3 cd3 ct3 oc4 kV4 dc4 pm4 cd4 ct4 oc5 kV5 dc5 pm5 cd5 ct5 oc6 kV6 dc6 pm6 cd6 ct6 oc7 kV7 dc7 pm7 cd7 ct7 oc8 kV8 dc8 pm8 cd8 ct8 oc9 kV9 dc9 pm9 cd9 ct9 oc10 kV10 dc10 pm10 cd10 ct10 oc11 kV11 dc11 pm11 cd11 ct11 oc12 kV12 dc12 pm12 cd12 ct12 oc13 kV13 dc13 pm13 cd13 ct13 oc14 kV14 dc14 pm14 cd14 ct14 : Value}
    {cnm_BadPage : Str} {cq_BadPage : Str} {cN_BadPage : Addr} {cbs_BadPage cbm_BadPage : List Value} {csn_BadPage : List Str} {csub_BadPage : List Value} {cab_BadPage : Bool} {ccol_BadPage : Option Bool} {cdd_BadPage : Option Addr} {ck0_BadPage ck1_BadPage ck2_BadPage ck3_BadPage ck5_BadPage : Option Value}
    {ioc_BadPage idoc_BadPage ipm_BadPage ict_BadPage iccl_BadPage icl_BadPage : Value} {iod_BadPage ian_BadPage icdd_BadPage icld_BadPage : Option Addr} {iosl_BadPage iccs_BadPage icsl_BadPage : Array (Option Value)} {a1_BadPage a2_BadPage p0_BadPage p1_BadPage p2_BadPage p3_BadPage p4_BadPage p5_BadPage q1_BadPage q2_BadPage q3_BadPage q4_BadPage : Pos} {iq_BadPage ifile_BadPage : Str} {icc_BadPage icda_BadPage : Addr} {ivs_BadPage : Array Value} {itf_BadPage : Tok}
    {cnm_BadText : Str} {cq_BadText : Str} {cN_BadText : Addr} {cbs_BadText cbm_BadText : List Value} {csn_BadText : List Str} {csub_BadText : List Value} {cab_BadText : Bool} {ccol_BadText : Option Bool} {cdd_BadText : Option Addr} {ck0_BadText ck1_BadText ck2_BadText ck3_BadText ck5_BadText : Option Value}
    {ioc_BadText idoc_BadText ipm_BadText ict_BadText iccl_BadText icl_BadText : Value} {iod_BadText ian_BadText icdd_BadText icld_BadText : Option Addr} {iosl_BadText iccs_BadText icsl_BadText : Array (Option Value)} {a1_BadText a2_BadText p0_BadText p1_BadText p2_BadText p3_BadText p4_BadText p5_BadText q1_BadText q2_BadText q3_BadText q4_BadText : Pos} {iq_BadText ifile_BadText : Str} {icc_BadText icda_BadText : Addr} {ivs_BadText : Array Value} {itf_BadText : Tok}
    (a0 : PySem.W.nsIn K mainGlobals "_law_pot" = some (some (.ref f__law_pot)))
    (l0 : K.lookup f__law_pot = some ⟨oc0, od0, .func (PySem.W.fnOf "_law_pot" "_law_pot" (defArgs s__law_pot) (defBody s__law_pot) (defScope s__law_pot) .none kV0 dc0 pm0 an0 cd0 ct0), sl0⟩)
    (c0 : PySem.W.codeIn K cd0 "_law_pot" = true)
    (k0 : PySem.W.keepIn K (.ref f__law_pot) = true)
    (a1 : PySem.W.nsIn K mainGlobals "_law_take" = some (some (.ref f__law_take)))
    (l1 : K.lookup f__law_take = some ⟨oc1, od1, .func (PySem.W.fnOf "_law_take" "_law_take" (defArgs s__law_take) (defBody s__law_take) (defScope s__law_take) .none kV1 dc1 pm1 an1 cd1 ct1), sl1⟩)
    (c1 : PySem.W.codeIn K cd1 "_law_take" = true)
    (k1 : PySem.W.keepIn K (.ref f__law_take) = true)
    (a2 : PySem.W.nsIn K mainGlobals "_law_of" = some (some (.ref f__law_of)))
    (l2 : K.lookup f__law_of = some ⟨oc2, od2, .func (PySem.W.fnOf "_law_of" "_law_of" (defArgs s__law_of) (defBody s__law_of) (defScope s__law_of) .none kV2 dc2 pm2 an2 cd2 ct2), sl2⟩)
    (c2 : PySem.W.codeIn K cd2 "_law_of" = true)
    (k2 : PySem.W.keepIn K (.ref f__law_of) = true)
    (a3 : PySem.W.nsIn K mainGlobals "_law_bent_row" = some (some (.ref f__law_bent_row)))
    (l3 : K.lookup f__law_bent_row = some ⟨oc3, od3, .func (PySem.W.fnOf "_law_bent_row" "_law_bent_row" (defArgs s__law_bent_row) (defBody s__law_bent_row) (defScope s__law_bent_row) .none kV3 dc3 pm3 an3 cd3 ct3), sl3⟩)
    (c3 : PySem.W.codeIn K cd3 "_law_bent_row" = true)
    (k3 : PySem.W.keepIn K (.ref f__law_bent_row) = true)
    (a4 : PySem.W.nsIn K mainGlobals "is_row" = some (some (.ref f_is_row)))
    (l4 : K.lookup f_is_row = some ⟨oc4, od4, .func (PySem.W.fnOf "is_row" "is_row" (defArgs s_is_row) (defBody s_is_row) (defScope s_is_row) .none kV4 dc4 pm4 an4 cd4 ct4), sl4⟩)
    (c4 : PySem.W.codeIn K cd4 "is_row" = true)
    (k4 : PySem.W.keepIn K (.ref f_is_row) = true)
    (a5 : PySem.W.nsIn K mainGlobals "is_page" = some (some (.ref f_is_page)))
    (l5 : K.lookup f_is_page = some ⟨oc5, od5, .func (PySem.W.fnOf "is_page" "is_page" (defArgs s_is_page) (defBody s_is_page) (defScope s_is_page) .none kV5 dc5 pm5 an5 cd5 ct5), sl5⟩)
    (c5 : PySem.W.codeIn K cd5 "is_page" = true)
    (k5 : PySem.W.keepIn K (.ref f_is_page) = true)
    (a6 : PySem.W.nsIn K mainGlobals "check_page" = some (some (.ref f_check_page)))
    (l6 : K.lookup f_check_page = some ⟨oc6, od6, .func (PySem.W.fnOf "check_page" "check_page" (defArgs s_check_page) (defBody s_check_page) (defScope s_check_page) .none kV6 dc6 pm6 an6 cd6 ct6), sl6⟩)
    (c6 : PySem.W.codeIn K cd6 "check_page" = true)
    (k6 : PySem.W.keepIn K (.ref f_check_page) = true)
    (a7 : PySem.W.nsIn K mainGlobals "show_page" = some (some (.ref f_show_page)))
    (l7 : K.lookup f_show_page = some ⟨oc7, od7, .func (PySem.W.fnOf "show_page" "show_page" (defArgs s_show_page) (defBody s_show_page) (defScope s_show_page) .none kV7 dc7 pm7 an7 cd7 ct7), sl7⟩)
    (c7 : PySem.W.codeIn K cd7 "show_page" = true)
    (k7 : PySem.W.keepIn K (.ref f_show_page) = true)
    (a8 : PySem.W.nsIn K mainGlobals "lines_in" = some (some (.ref f_lines_in)))
    (l8 : K.lookup f_lines_in = some ⟨oc8, od8, .func (PySem.W.fnOf "lines_in" "lines_in" (defArgs s_lines_in) (defBody s_lines_in) (defScope s_lines_in) .none kV8 dc8 pm8 an8 cd8 ct8), sl8⟩)
    (c8 : PySem.W.codeIn K cd8 "lines_in" = true)
    (k8 : PySem.W.keepIn K (.ref f_lines_in) = true)
    (a9 : PySem.W.nsIn K mainGlobals "is_row_of_signs" = some (some (.ref f_is_row_of_signs)))
    (l9 : K.lookup f_is_row_of_signs = some ⟨oc9, od9, .func (PySem.W.fnOf "is_row_of_signs" "is_row_of_signs" (defArgs s_is_row_of_signs) (defBody s_is_row_of_signs) (defScope s_is_row_of_signs) .none kV9 dc9 pm9 an9 cd9 ct9), sl9⟩)
    (c9 : PySem.W.codeIn K cd9 "is_row_of_signs" = true)
    (k9 : PySem.W.keepIn K (.ref f_is_row_of_signs) = true)
    (a10 : PySem.W.nsIn K mainGlobals "read_page" = some (some (.ref f_read_page)))
    (l10 : K.lookup f_read_page = some ⟨oc10, od10, .func (PySem.W.fnOf "read_page" "read_page" (defArgs s_read_page) (defBody s_read_page) (defScope s_read_page) .none kV10 dc10 pm10 an10 cd10 ct10), sl10⟩)
    (c10 : PySem.W.codeIn K cd10 "read_page" = true)
    (k10 : PySem.W.keepIn K (.ref f_read_page) = true)
    (a11 : PySem.W.nsIn K mainGlobals "_law_heard" = some (some (.ref f__law_heard)))
    (l11 : K.lookup f__law_heard = some ⟨oc11, od11, .func (PySem.W.fnOf "_law_heard" "_law_heard" (defArgs s__law_heard) (defBody s__law_heard) (defScope s__law_heard) .none kV11 dc11 pm11 an11 cd11 ct11), sl11⟩)
    (c11 : PySem.W.codeIn K cd11 "_law_heard" = true)
    (k11 : PySem.W.keepIn K (.ref f__law_heard) = true)
    (a12 : PySem.W.nsIn K mainGlobals "_law_due" = some (some (.ref f__law_due)))
    (l12 : K.lookup f__law_due = some ⟨oc12, od12, .func (PySem.W.fnOf "_law_due" "_law_due" (defArgs s__law_due) (defBody s__law_due) (defScope s__law_due) .none kV12 dc12 pm12 an12 cd12 ct12), sl12⟩)
    (c12 : PySem.W.codeIn K cd12 "_law_due" = true)
    (k12 : PySem.W.keepIn K (.ref f__law_due) = true)
    (a13 : PySem.W.nsIn K mainGlobals "_law_right" = some (some (.ref f__law_right)))
    (l13 : K.lookup f__law_right = some ⟨oc13, od13, .func (PySem.W.fnOf "_law_right" "_law_right" (defArgs s__law_right) (defBody s__law_right) (defScope s__law_right) .none kV13 dc13 pm13 an13 cd13 ct13), sl13⟩)
    (c13 : PySem.W.codeIn K cd13 "_law_right" = true)
    (k13 : PySem.W.keepIn K (.ref f__law_right) = true)
    (a14 : PySem.W.nsIn K mainGlobals "law" = some (some (.ref f_law)))
    (l14 : K.lookup f_law = some ⟨oc14, od14, .func (PySem.W.fnOf "law" "law" (defArgs s_law) (defBody s_law) (defScope s_law) .none kV14 dc14 pm14 an14 cd14 ct14), sl14⟩)
    (c14 : PySem.W.codeIn K cd14 "law" = true)
    (k14 : PySem.W.keepIn K (.ref f_law) = true)
    (b_ValueError : PySem.W.nsIn K mainGlobals "ValueError" = some none)
    (b_abs : PySem.W.nsIn K mainGlobals "abs" = some none)
    (b_all : PySem.W.nsIn K mainGlobals "all" = some none)
    (b_enumerate : PySem.W.nsIn K mainGlobals "enumerate" = some none)
    (b_int : PySem.W.nsIn K mainGlobals "int" = some none)
    (b_isinstance : PySem.W.nsIn K mainGlobals "isinstance" = some none)
    (b_len : PySem.W.nsIn K mainGlobals "len" = some none)
    (b_max : PySem.W.nsIn K mainGlobals "max" = some none)
    (b_min : PySem.W.nsIn K mainGlobals "min" = some none)
    (b_range : PySem.W.nsIn K mainGlobals "range" = some none)
    (b_repr : PySem.W.nsIn K mainGlobals "repr" = some none)
    (b_str : PySem.W.nsIn K mainGlobals "str" = some none)
    (b_super : PySem.W.nsIn K mainGlobals "super" = some none)
    (b_tuple : PySem.W.nsIn K mainGlobals "tuple" = some none)
    (g_BAR : PySem.W.nsIn K mainGlobals "BAR" = some (some (.str "|" t_BAR)))
    (g_BLANK_lines : PySem.W.nsIn K mainGlobals "BLANK_lines" = some (some (.str " " t_BLANK_lines)))
    (g_BLANK_pages : PySem.W.nsIn K mainGlobals "BLANK_pages" = some (some (.str " " t_BLANK_pages)))
    (g_FEED : PySem.W.nsIn K mainGlobals "FEED" = some (some (.str "\n" t_FEED)))
    (g_LETTERS_documents : PySem.W.nsIn K mainGlobals "LETTERS_documents" = some (some (.str "abcdefghijklmnopqrstuvwxyz" t_LETTERS_documents)))
    (g_LETTERS_lines : PySem.W.nsIn K mainGlobals "LETTERS_lines" = some (some (.str "abcdefghijklmnopqrstuvwxyz" t_LETTERS_lines)))
    (nC_BadPage : PySem.W.nsIn K mainGlobals "BadPage" = some (some (.ref C_BadPage)))
    (nC_BadText : PySem.W.nsIn K mainGlobals "BadText" = some (some (.ref C_BadText)))
    (nC_SetbackError : PySem.W.nsIn K mainGlobals "SetbackError" = some (some (.ref C_SetbackError)))
    (nC_BadDocument : PySem.W.nsIn K mainGlobals "BadDocument" = some (some (.ref C_BadDocument)))
    (th : PySem.W.nsIn K PySem.cStatics "thirdparty.any" = some none)
    (cl_BadPage : K.lookup C_BadPage = some (excClassObj cnm_BadPage cq_BadPage C_BadPage cN_BadPage cbs_BadPage cbm_BadPage true csn_BadPage csub_BadPage cab_BadPage ccol_BadPage cdd_BadPage ck0_BadPage ck1_BadPage ck2_BadPage ck3_BadPage ck5_BadPage "ValueError.__new__"))
    (rv_BadPage : PySem.HandSPX.refsVE cbm_BadPage = true)
    (sa_BadPage : PySem.W.findIn K (.ref C_BadPage) "__setattr__" = some (some (.builtin "object.__setattr__")))
    (ga_BadPage : PySem.W.findIn K (.ref C_BadPage) "__getattribute__" = some (some (.builtin "BaseException.__getattribute__")))
    (gg_BadPage : PySem.W.findIn K (.ref C_BadPage) "__getattr__" = some none)
    (no_BadPage : PySem.W.findIn K (.ref C_BadPage) "value" = some none)
    (ic_BadPage : PySem.W.findIn K (.ref C_BadPage) "__init__" = some (some (.ref I_BadPage)))
    (ti_BadPage : PySem.W.typeIn K (.ref I_BadPage) = some (.type "function"))
    (kc_BadPage : PySem.W.keepIn K (.ref C_BadPage) = true)
    (ex_BadPage : PySem.W.subIn K (.ref C_BadPage) (.type "BaseException") = some true)
    (ve_BadPage : PySem.W.subIn K (.ref C_BadPage) (.type "ValueError") = some true)
    (ty_BadPage : PySem.W.typeIn K (.ref C_BadPage) = some (.type "type"))
    (hd_BadPage : PySem.W.hasDictIn K C_BadPage = true)
    (su_BadPage : PySem.W.ks_superIn K C_BadPage C_BadPage "__init__" = some (some (.builtin "ValueError.__init__")))
    (mc_BadPage : PySem.W.mroIn K C_BadPage (.ref C_BadPage) = some true)
    (fi_BadPage : K.lookup I_BadPage = some ⟨ioc_BadPage, iod_BadPage, .func (PySem.W.ksFn "__init__" iq_BadPage (VX.xA "value" a1_BadPage a2_BadPage) (VX.xB "value" p0_BadPage p1_BadPage p2_BadPage p3_BadPage p4_BadPage p5_BadPage q1_BadPage q2_BadPage q3_BadPage q4_BadPage) (VX.xS "value") .none .none idoc_BadPage ipm_BadPage ian_BadPage (.ref icda_BadPage) ict_BadPage icc_BadPage), iosl_BadPage⟩)
    (co_BadPage : PySem.W.codeIn K (.ref icda_BadPage) iq_BadPage = true)
    (lc_BadPage : K.lookup icda_BadPage = some ⟨iccl_BadPage, icdd_BadPage, .fields ivs_BadPage, iccs_BadPage⟩)
    (vf_BadPage : ivs_BadPage[2]? = some (.str ifile_BadPage itf_BadPage))
    (fl_BadPage : ((l.prog.main.file : Str) == ifile_BadPage) = true)
    (tp_BadPage : (l.prog.main.scope.names.lookup ("super" : Str)).isSome = false)
    (cc_BadPage : K.lookup icc_BadPage = some ⟨icl_BadPage, icld_BadPage, .cell (some (.ref C_BadPage)), icsl_BadPage⟩)
    (lt_BadPage : VX.Late "value" p0_BadPage p1_BadPage p2_BadPage p3_BadPage p4_BadPage)
    (xa_BadPage : PySem.W.findIn K (.ref C_BadPage) "__class__" = some (some (.builtin "object.__class__")))
    (xo_BadPage : PySem.W.mroIn K C_BadPage (.type "object") = some true)
    (xn : PySem.W.specialIn K (.builtin "object.__class__") "__get__" = some (some (.builtin "getset_descriptor.__get__")))
    (xt : PySem.W.takesIn K (.builtin "object.__class__") = some true)
    (cl_BadText : K.lookup C_BadText = some (excClassObj cnm_BadText cq_BadText C_BadText cN_BadText cbs_BadText cbm_BadText true csn_BadText csub_BadText cab_BadText ccol_BadText cdd_BadText ck0_BadText ck1_BadText ck2_BadText ck3_BadText ck5_BadText "ValueError.__new__"))
    (rv_BadText : PySem.HandSPX.refsVE cbm_BadText = true)
    (sa_BadText : PySem.W.findIn K (.ref C_BadText) "__setattr__" = some (some (.builtin "object.__setattr__")))
    (ga_BadText : PySem.W.findIn K (.ref C_BadText) "__getattribute__" = some (some (.builtin "BaseException.__getattribute__")))
    (gg_BadText : PySem.W.findIn K (.ref C_BadText) "__getattr__" = some none)
    (no_BadText : PySem.W.findIn K (.ref C_BadText) "line" = some none)
    (ic_BadText : PySem.W.findIn K (.ref C_BadText) "__init__" = some (some (.ref I_BadText)))
    (ti_BadText : PySem.W.typeIn K (.ref I_BadText) = some (.type "function"))
    (kc_BadText : PySem.W.keepIn K (.ref C_BadText) = true)
    (ex_BadText : PySem.W.subIn K (.ref C_BadText) (.type "BaseException") = some true)
    (ve_BadText : PySem.W.subIn K (.ref C_BadText) (.type "ValueError") = some true)
    (ty_BadText : PySem.W.typeIn K (.ref C_BadText) = some (.type "type"))
    (hd_BadText : PySem.W.hasDictIn K C_BadText = true)
    (su_BadText : PySem.W.ks_superIn K C_BadText C_BadText "__init__" = some (some (.builtin "ValueError.__init__")))
    (mc_BadText : PySem.W.mroIn K C_BadText (.ref C_BadText) = some true)
    (fi_BadText : K.lookup I_BadText = some ⟨ioc_BadText, iod_BadText, .func (PySem.W.ksFn "__init__" iq_BadText (VX.xA "line" a1_BadText a2_BadText) (VX.xB "line" p0_BadText p1_BadText p2_BadText p3_BadText p4_BadText p5_BadText q1_BadText q2_BadText q3_BadText q4_BadText) (VX.xS "line") .none .none idoc_BadText ipm_BadText ian_BadText (.ref icda_BadText) ict_BadText icc_BadText), iosl_BadText⟩)
    (co_BadText : PySem.W.codeIn K (.ref icda_BadText) iq_BadText = true)
    (lc_BadText : K.lookup icda_BadText = some ⟨iccl_BadText, icdd_BadText, .fields ivs_BadText, iccs_BadText⟩)
    (vf_BadText : ivs_BadText[2]? = some (.str ifile_BadText itf_BadText))
    (fl_BadText : ((l.prog.main.file : Str) == ifile_BadText) = true)
    (tp_BadText : (l.prog.main.scope.names.lookup ("super" : Str)).isSome = false)
    (cc_BadText : K.lookup icc_BadText = some ⟨icl_BadText, icld_BadText, .cell (some (.ref C_BadText)), icsl_BadText⟩)
    (lt_BadText : VX.Late "line" p0_BadText p1_BadText p2_BadText p3_BadText p4_BadText)
    (xa_BadText : PySem.W.findIn K (.ref C_BadText) "__class__" = some (some (.builtin "object.__class__")))
    (xo_BadText : PySem.W.mroIn K C_BadText (.type "object") = some true)
    (ik_SetbackError : PySem.W.isClsIn K C_SetbackError = true)
    (tk_SetbackError : PySem.W.typeIn K (.ref C_SetbackError) = some (.type "type"))
    (bx_SetbackError : PySem.W.subIn K (.ref C_SetbackError) (.type "BaseException") = some true)
    (sub_BadText_SetbackError : PySem.W.subIn K (.ref C_BadText) (.ref C_SetbackError) = some true)
    (sub_BadPage_SetbackError : PySem.W.subIn K (.ref C_BadPage) (.ref C_SetbackError) = some true)
    (sub_BadText_ValueError : PySem.W.subIn K (.ref C_BadText) (.type "ValueError") = some true)
    (sub_BadPage_ValueError : PySem.W.subIn K (.ref C_BadPage) (.type "ValueError") = some true)
    (sub_NoneType_ValueError : PySem.W.subIn K (.type "NoneType") (.type "ValueError") = some false)
    (sub_BadPage_BadText : PySem.W.subIn K (.ref C_BadPage) (.ref C_BadText) = some false)
    (ik_BadText : PySem.W.isClsIn K C_BadText = true)
    (tk_BadText : PySem.W.typeIn K (.ref C_BadText) = some (.type "type"))
    (ne_BadPage_BadText : (((.ref C_BadPage) : Value) == (.ref C_BadText)) = false)
    (sub_NoneType_BadText : PySem.W.subIn K (.type "NoneType") (.ref C_BadText) = some false)
    (ne_NoneType_BadText : (((.type "NoneType") : Value) == (.ref C_BadText)) = false)
    (sub_BadText_BadPage : PySem.W.subIn K (.ref C_BadText) (.ref C_BadPage) = some false)
    (ik_BadPage : PySem.W.isClsIn K C_BadPage = true)
    (tk_BadPage : PySem.W.typeIn K (.ref C_BadPage) = some (.type "type"))
    (ne_BadText_BadPage : (((.ref C_BadText) : Value) == (.ref C_BadPage)) = false)
    (sub_NoneType_BadPage : PySem.W.subIn K (.type "NoneType") (.ref C_BadPage) = some false)
    (ne_NoneType_BadPage : (((.type "NoneType") : Value) == (.ref C_BadPage)) = false)
    (sub_BadText_BadDocument : PySem.W.subIn K (.ref C_BadText) (.ref C_BadDocument) = some false)
    (ik_BadDocument : PySem.W.isClsIn K C_BadDocument = true)
    (tk_BadDocument : PySem.W.typeIn K (.ref C_BadDocument) = some (.type "type"))
    (ne_BadText_BadDocument : (((.ref C_BadText) : Value) == (.ref C_BadDocument)) = false)
    (sub_BadPage_BadDocument : PySem.W.subIn K (.ref C_BadPage) (.ref C_BadDocument) = some false)
    (ne_BadPage_BadDocument : (((.ref C_BadPage) : Value) == (.ref C_BadDocument)) = false)
    (sub_NoneType_BadDocument : PySem.W.subIn K (.type "NoneType") (.ref C_BadDocument) = some false)
    (ne_NoneType_BadDocument : (((.type "NoneType") : Value) == (.ref C_BadDocument)) = false)
    (nf_BadPage_line : PySem.W.findIn K (.ref C_BadPage) "line" = some none)
    : ∃ fd : FuncData, (∀ (s : Shared) (v : Value), BindsTo s fd ⟨[v], []⟩ [("_law_script", v)]) ∧ ∀ base : Heap, K.In base → base.Ns mainGlobals mg → FnG l.prog w K mg base CX0 6 fa fd ["_law_script"] (spM K 1 F_law) := by
  have q := hfa.symm.trans (PySem.W.mg_of X G a14)
  cases q
  have d0 : DefR K mg "_law_pot" s__law_pot f__law_pot _ ["_law_script", "_law_k"] :=
    have F := fun_mk (st := s__law_pot) l0 c0 k0
    ⟨F, PySem.W.mg_of X G a0, F.binds fun _ _ _ _ _ _ us hl => (match us, hl with | [_, _], _ => rfl), KB.of F fun _ _ _ _ _ _ us hl => (match us, hl with | [_, _], _ => rfl)⟩
  have d1 : DefR K mg "_law_take" s__law_take f__law_take _ ["_law_pot_here", "_law_upto"] :=
    have F := fun_mk (st := s__law_take) l1 c1 k1
    ⟨F, PySem.W.mg_of X G a1, F.binds fun _ _ _ _ _ _ us hl => (match us, hl with | [_, _], _ => rfl), KB.of F fun _ _ _ _ _ _ us hl => (match us, hl with | [_, _], _ => rfl)⟩
  have d2 : DefR K mg "_law_of" s__law_of f__law_of _ ["_law_pot_here", "_law_some"] :=
    have F := fun_mk (st := s__law_of) l2 c2 k2
    ⟨F, PySem.W.mg_of X G a2, F.binds fun _ _ _ _ _ _ us hl => (match us, hl with | [_, _], _ => rfl), KB.of F fun _ _ _ _ _ _ us hl => (match us, hl with | [_, _], _ => rfl)⟩
  have d3 : DefR K mg "_law_bent_row" s__law_bent_row f__law_bent_row _ ["_law_pot_here", "_law_sample"] :=
    have F := fun_mk (st := s__law_bent_row) l3 c3 k3
    ⟨F, PySem.W.mg_of X G a3, F.binds fun _ _ _ _ _ _ us hl => (match us, hl with | [_, _], _ => rfl), KB.of F fun _ _ _ _ _ _ us hl => (match us, hl with | [_, _], _ => rfl)⟩
  have d4 : DefR K mg "is_row" s_is_row f_is_row _ ["value"] :=
    have F := fun_mk (st := s_is_row) l4 c4 k4
    ⟨F, PySem.W.mg_of X G a4, F.binds fun _ _ _ _ _ _ us hl => (match us, hl with | [_], _ => rfl), KB.of F fun _ _ _ _ _ _ us hl => (match us, hl with | [_], _ => rfl)⟩
  have d5 : DefR K mg "is_page" s_is_page f_is_page _ ["value"] :=
    have F := fun_mk (st := s_is_page) l5 c5 k5
    ⟨F, PySem.W.mg_of X G a5, F.binds fun _ _ _ _ _ _ us hl => (match us, hl with | [_], _ => rfl), KB.of F fun _ _ _ _ _ _ us hl => (match us, hl with | [_], _ => rfl)⟩
  have d6 : DefR K mg "check_page" s_check_page f_check_page _ ["value"] :=
    have F := fun_mk (st := s_check_page) l6 c6 k6
    ⟨F, PySem.W.mg_of X G a6, F.binds fun _ _ _ _ _ _ us hl => (match us, hl with | [_], _ => rfl), KB.of F fun _ _ _ _ _ _ us hl => (match us, hl with | [_], _ => rfl)⟩
  have d7 : DefR K mg "show_page" s_show_page f_show_page _ ["page"] :=
    have F := fun_mk (st := s_show_page) l7 c7 k7
    ⟨F, PySem.W.mg_of X G a7, F.binds fun _ _ _ _ _ _ us hl => (match us, hl with | [_], _ => rfl), KB.of F fun _ _ _ _ _ _ us hl => (match us, hl with | [_], _ => rfl)⟩
  have d8 : DefR K mg "lines_in" s_lines_in f_lines_in _ ["text"] :=
    have F := fun_mk (st := s_lines_in) l8 c8 k8
    ⟨F, PySem.W.mg_of X G a8, F.binds fun _ _ _ _ _ _ us hl => (match us, hl with | [_], _ => rfl), KB.of F fun _ _ _ _ _ _ us hl => (match us, hl with | [_], _ => rfl)⟩
  have d9 : DefR K mg "is_row_of_signs" s_is_row_of_signs f_is_row_of_signs _ ["line"] :=
    have F := fun_mk (st := s_is_row_of_signs) l9 c9 k9
    ⟨F, PySem.W.mg_of X G a9, F.binds fun _ _ _ _ _ _ us hl => (match us, hl with | [_], _ => rfl), KB.of F fun _ _ _ _ _ _ us hl => (match us, hl with | [_], _ => rfl)⟩
  have d10 : DefR K mg "read_page" s_read_page f_read_page _ ["text"] :=
    have F := fun_mk (st := s_read_page) l10 c10 k10
    ⟨F, PySem.W.mg_of X G a10, F.binds fun _ _ _ _ _ _ us hl => (match us, hl with | [_], _ => rfl), KB.of F fun _ _ _ _ _ _ us hl => (match us, hl with | [_], _ => rfl)⟩
  have d11 : DefR K mg "_law_heard" s__law_heard f__law_heard _ ["_law_sample"] :=
    have F := fun_mk (st := s__law_heard) l11 c11 k11
    ⟨F, PySem.W.mg_of X G a11, F.binds fun _ _ _ _ _ _ us hl => (match us, hl with | [_], _ => rfl), KB.of F fun _ _ _ _ _ _ us hl => (match us, hl with | [_], _ => rfl)⟩
  have d12 : DefR K mg "_law_due" s__law_due f__law_due _ ["_law_sample"] :=
    have F := fun_mk (st := s__law_due) l12 c12 k12
    ⟨F, PySem.W.mg_of X G a12, F.binds fun _ _ _ _ _ _ us hl => (match us, hl with | [_], _ => rfl), KB.of F fun _ _ _ _ _ _ us hl => (match us, hl with | [_], _ => rfl)⟩
  have d13 : DefR K mg "_law_right" s__law_right f__law_right _ ["_law_pot_here"] :=
    have F := fun_mk (st := s__law_right) l13 c13 k13
    ⟨F, PySem.W.mg_of X G a13, F.binds fun _ _ _ _ _ _ us hl => (match us, hl with | [_], _ => rfl), KB.of F fun _ _ _ _ _ _ us hl => (match us, hl with | [_], _ => rfl)⟩
  have d14 : DefR K mg "law" s_law fa _ ["_law_script"] :=
    have F := fun_mk (st := s_law) l14 c14 k14
    ⟨F, PySem.W.mg_of X G a14, F.binds fun _ _ _ _ _ _ us hl => (match us, hl with | [_], _ => rfl), KB.of F fun _ _ _ _ _ _ us hl => (match us, hl with | [_], _ => rfl)⟩
  have T : AllD l.prog K mg f__law_pot f__law_take f__law_of f__law_bent_row f_is_row f_is_page f_check_page f_show_page f_lines_in f_is_row_of_signs f_read_page f__law_heard f__law_due f__law_right fa _ _ _ _ _ _ _ _ _ _ _ _ _ _ _ C_BadPage C_BadText C_SetbackError C_BadDocument I_BadPage I_BadText t_BAR t_BLANK_lines t_BLANK_pages t_FEED t_LETTERS_documents t_LETTERS_lines := ⟨d0, d1, d2, d3, d4, d5, d6, d7, d8, d9, d10, d11, d12, d13, d14, PySem.W.mg_none_of X G b_ValueError, PySem.W.mg_none_of X G b_abs, PySem.W.mg_none_of X G b_all, PySem.W.mg_none_of X G b_enumerate, PySem.W.mg_none_of X G b_int, PySem.W.mg_none_of X G b_isinstance, PySem.W.mg_none_of X G b_len, PySem.W.mg_none_of X G b_max, PySem.W.mg_none_of X G b_min, PySem.W.mg_none_of X G b_range, PySem.W.mg_none_of X G b_repr, PySem.W.mg_none_of X G b_str, PySem.W.mg_none_of X G b_super, PySem.W.mg_none_of X G b_tuple, PySem.W.mg_of X G g_BAR, PySem.W.mg_of X G g_BLANK_lines, PySem.W.mg_of X G g_BLANK_pages, PySem.W.mg_of X G g_FEED, PySem.W.mg_of X G g_LETTERS_documents, PySem.W.mg_of X G g_LETTERS_lines, PySem.W.mg_of X G nC_BadPage, PySem.W.mg_of X G nC_BadText, PySem.W.mg_of X G nC_SetbackError, PySem.W.mg_of X G nC_BadDocument, { gC := PySem.W.mg_of X G nC_BadPage, nC := nC_BadPage, cls := ⟨_, _, _, _, _, _, _, _, _, _, _, _, _, _, _, cl_BadPage, rv_BadPage⟩, sa := sa_BadPage, ga := ga_BadPage, gg := gg_BadPage, noN := no_BadPage, iC := ic_BadPage, tC := ti_BadPage, kC := kc_BadPage, exC := ex_BadPage, veC := ve_BadPage, tyC := ty_BadPage, hdC := hd_BadPage, su := su_BadPage, mC := mc_BadPage, no := th, sup := b_super, pl := ⟨by decide, by decide, by decide, by decide, by decide, by decide, by decide⟩, bd := (fun _ _ _ _ _ _ _ _ _ _ _ _ _ _ _ _ _ _ _ _ _ => rfl), fn := ⟨_, _, _, _, _, _, _, _, _, _, _, _, _, _, _, _, _, _, _, _, _, _, _, _, _, _, _, _, _, _, _, fi_BadPage, co_BadPage, lc_BadPage, vf_BadPage, fl_BadPage, tp_BadPage, cc_BadPage, lt_BadPage⟩ }, { gC := PySem.W.mg_of X G nC_BadText, nC := nC_BadText, cls := ⟨_, _, _, _, _, _, _, _, _, _, _, _, _, _, _, cl_BadText, rv_BadText⟩, sa := sa_BadText, ga := ga_BadText, gg := gg_BadText, noN := no_BadText, iC := ic_BadText, tC := ti_BadText, kC := kc_BadText, exC := ex_BadText, veC := ve_BadText, tyC := ty_BadText, hdC := hd_BadText, su := su_BadText, mC := mc_BadText, no := th, sup := b_super, pl := ⟨by decide, by decide, by decide, by decide, by decide, by decide, by decide⟩, bd := (fun _ _ _ _ _ _ _ _ _ _ _ _ _ _ _ _ _ _ _ _ _ => rfl), fn := ⟨_, _, _, _, _, _, _, _, _, _, _, _, _, _, _, _, _, _, _, _, _, _, _, _, _, _, _, _, _, _, _, fi_BadText, co_BadText, lc_BadText, vf_BadText, fl_BadText, tp_BadText, cc_BadText, lt_BadText⟩ }, .cons nC_BadPage (exm_own bx_SetbackError ik_SetbackError tk_SetbackError sub_BadPage_SetbackError) (.cons nC_BadText (exm_own bx_SetbackError ik_SetbackError tk_SetbackError sub_BadText_SetbackError) (.nil)), .cons nC_BadPage (⟨kit_ne rfl (kitc_ty (by decide +kernel) sub_BadPage_ValueError), ⟨ga_BadPage, gg_BadPage, ex_BadPage, hd_BadPage, xa_BadPage, xn, xt, xo_BadPage⟩⟩) (.cons nC_BadText (⟨kit_ne rfl (kitc_ty (by decide +kernel) sub_BadText_ValueError), ⟨ga_BadText, gg_BadText, ex_BadText, hd_BadText, xa_BadText, xn, xt, xo_BadText⟩⟩) (.nil)), kit_ne rfl (kitc_ty (by decide +kernel) sub_NoneType_ValueError), .cons nC_BadPage (⟨kit_ne ne_BadPage_BadText (kitc_own ik_BadText tk_BadText sub_BadPage_BadText), ⟨ga_BadPage, gg_BadPage, ex_BadPage, hd_BadPage, xa_BadPage, xn, xt, xo_BadPage⟩⟩) (.cons nC_BadText (⟨kit_same, ⟨ga_BadText, gg_BadText, ex_BadText, hd_BadText, xa_BadText, xn, xt, xo_BadText⟩⟩) (.nil)), kit_ne ne_NoneType_BadText (kitc_own ik_BadText tk_BadText sub_NoneType_BadText), .cons nC_BadPage (⟨kit_same, ⟨ga_BadPage, gg_BadPage, ex_BadPage, hd_BadPage, xa_BadPage, xn, xt, xo_BadPage⟩⟩) (.cons nC_BadText (⟨kit_ne ne_BadText_BadPage (kitc_own ik_BadPage tk_BadPage sub_BadText_BadPage), ⟨ga_BadText, gg_BadText, ex_BadText, hd_BadText, xa_BadText, xn, xt, xo_BadText⟩⟩) (.nil)), kit_ne ne_NoneType_BadPage (kitc_own ik_BadPage tk_BadPage sub_NoneType_BadPage), .cons nC_BadPage (⟨kit_ne ne_BadPage_BadDocument (kitc_own ik_BadDocument tk_BadDocument sub_BadPage_BadDocument), ⟨ga_BadPage, gg_BadPage, ex_BadPage, hd_BadPage, xa_BadPage, xn, xt, xo_BadPage⟩⟩) (.cons nC_BadText (⟨kit_ne ne_BadText_BadDocument (kitc_own ik_BadDocument tk_BadDocument sub_BadText_BadDocument), ⟨ga_BadText, gg_BadText, ex_BadText, hd_BadText, xa_BadText, xn, xt, xo_BadText⟩⟩) (.nil)), kit_ne ne_NoneType_BadDocument (kitc_own ik_BadDocument tk_BadDocument sub_NoneType_BadDocument), .cons nC_BadPage (⟨⟨ga_BadPage, gg_BadPage, ex_BadPage, hd_BadPage⟩, nf_BadPage_line⟩) (.cons nC_BadText (⟨⟨ga_BadText, gg_BadText, ex_BadText, hd_BadText⟩, no_BadText⟩) (.nil))⟩
  exact ⟨_, fun s v => .of_eq rfl, fun base _ _ => g_law T⟩
theorem walk {l : PySem.W.OpenLaw} {q : Program} {loose : List Str} {XP : (Str → Option Value) → Heap → Prop} {YP : World → Heap → Prop} {d : DefRec} {K : Params → PySem.W.Frag} (hn : l.most = some 63) (hdf : d.params.defaults = [])
    (hY : ∀ (w : World) (h : Heap), YP w h → (K w.params).In h)
    (F : ∀ (w : World) (mg : Str → Option Value) (fa : Addr) (h : Heap), (K w.params).In h → h.Ns mainGlobals mg → mg d.name = some (.ref fa) →
      ∃ fd : FuncData, (∀ (s : Shared) (u : Value), BindsTo s fd ⟨[u], []⟩ [("_law_script", u)]) ∧ ∀ base : Heap, (K w.params).In base → base.Ns mainGlobals mg → FnG l.prog w (K w.params) mg base CX0 6 fa fd ["_law_script"] (spM (K w.params) 1 F_law)) :
    PySem.W.WalkO q loose XP YP l.row.toRowW d [] (fun f vs => PySem.call f vs) :=
  walk_ofG (n := 63) (k := 6) (x := "_law_script") (CX := fun _ => CX0) (sp := fun w => spM (K w.params) 1 F_law) hn (by decide) hdf ⟨rfl, by decide, by decide⟩ hY F (fun w H a ns hl _ hS =>
    ⟨rfl, H, [.s (.ns ns)], .bool true, [.s (.ns ns)], Same.refl _, ⟨rfl, fun j x e => by
      cases j with
      | zero =>
        cases e
        exact ⟨_, rfl, a, rfl, hS⟩
      | succ j => simp at e, fun i j x y c h1 h2 h3 h4 => by
      cases i with
      | zero => cases h1
      | succ i => simp at h1⟩, law_true hl, fun v F' H' B => by
      cases B.dv
      rfl⟩) fun _ _ _ _ _ z => z
end VL

open PySem PySem.W PyProof.Rows in
set_option maxRecDepth 100000 in
set_option maxHeartbeats 0 in
theorem PySem.Challenge.cw_setback_k74_pages_written_holds : PySem.Challenge.rw_setback_k74_pages_written.Holds := by
  w_on; o_law; k_head; (case hw => w_witness2)
  k_fill
  refine VL.walk (l := PySem.Challenge.rw_setback_k74_pages_written) rfl rfl (fun w h Y => PySem.W.kIn_of Y) ?F
  case F =>
    intro w mg fa h KX G hmg
    refine' VL.all_mk KX G hmg ?a0 ?l0 ?c0 ?k0 ?a1 ?l1 ?c1 ?k1 ?a2 ?l2 ?c2 ?k2 ?a3 ?l3 ?c3 ?k3 ?a4 ?l4 ?c4 ?k4 ?a5 ?l5 ?c5 ?k5 ?a6 ?l6 ?c6 ?k6 ?a7 ?l7 ?c7 ?k7 ?a8 ?l8 ?c8 ?k8 ?a9 ?l9 ?c9 ?k9 ?a10 ?l10 ?c10 ?k10 ?a11 ?l11 ?c11 ?k11 ?a12 ?l12 ?c12 ?k12 ?a13 ?l13 ?c13 ?k13 ?a14 ?l14 ?c14 ?k14 ?b_ValueError ?b_abs ?b_all ?b_enumerate ?b_int ?b_isinstance ?b_len ?b_max ?b_min ?b_range ?b_repr ?b_str ?b_super ?b_tuple ?g_BAR ?g_BLANK_lines ?g_BLANK_pages ?g_FEED ?g_LETTERS_documents ?g_LETTERS_lines ?nC_BadPage ?nC_BadText ?nC_SetbackError ?nC_BadDocument ?th ?cl_BadPage ?rv_BadPage ?sa_BadPage ?ga_BadPage ?gg_BadPage ?no_BadPage ?ic_BadPage ?ti_BadPage ?kc_BadPage ?ex_BadPage ?ve_BadPage ?ty_BadPage ?hd_BadPage ?su_BadPage ?mc_BadPage ?fi_BadPage ?co_BadPage ?lc_BadPage ?vf_BadPage ?fl_BadPage ?tp_BadPage ?cc_BadPage ?lt_BadPage ?xa_BadPage ?xo_BadPage ?xn ?xt ?cl_BadText ?rv_BadText ?sa_BadText ?ga_BadText ?gg_BadText ?no_BadText ?ic_BadText ?ti_BadText ?kc_BadText ?ex_BadText ?ve_BadText ?ty_BadText ?hd_BadText ?su_BadText ?mc_BadText ?fi_BadText ?co_BadText ?lc_BadText ?vf_BadText ?fl_BadText ?tp_BadText ?cc_BadText ?lt_BadText ?xa_BadText ?xo_BadText ?ik_SetbackError ?tk_SetbackError ?bx_SetbackError ?sub_BadText_SetbackError ?sub_BadPage_SetbackError ?sub_BadText_ValueError ?sub_BadPage_ValueError ?sub_NoneType_ValueError ?sub_BadPage_BadText ?ik_BadText ?tk_BadText ?ne_BadPage_BadText ?sub_NoneType_BadText ?ne_NoneType_BadText ?sub_BadText_BadPage ?ik_BadPage ?tk_BadPage ?ne_BadText_BadPage ?sub_NoneType_BadPage ?ne_NoneType_BadPage ?sub_BadText_BadDocument ?ik_BadDocument ?tk_BadDocument ?ne_BadText_BadDocument ?sub_BadPage_BadDocument ?ne_BadPage_BadDocument ?sub_NoneType_BadDocument ?ne_NoneType_BadDocument ?nf_BadPage_line
    (case a0 => k_is)
    (case l0 => k_is)
    (case c0 => k_is)
    (case k0 => k_is)
    (case a1 => k_is)
    (case l1 => k_is)
    (case c1 => k_is)
    (case k1 => k_is)
    (case a2 => k_is)
    (case l2 => k_is)
    (case c2 => k_is)
    (case k2 => k_is)
    (case a3 => k_is)
    (case l3 => k_is)
    (case c3 => k_is)
    (case k3 => k_is)
    (case a4 => k_is)
    (case l4 => k_is)
    (case c4 => k_is)
    (case k4 => k_is)
    (case a5 => k_is)
    (case l5 => k_is)
    (case c5 => k_is)
    (case k5 => k_is)
    (case a6 => k_is)
    (case l6 => k_is)
    (case c6 => k_is)
    (case k6 => k_is)
    (case a7 => k_is)
    (case l7 => k_is)
    (case c7 => k_is)
    (case k7 => k_is)
    (case a8 => k_is)
    (case l8 => k_is)
    (case c8 => k_is)
    (case k8 => k_is)
    (case a9 => k_is)
    (case l9 => k_is)
    (case c9 => k_is)
    (case k9 => k_is)
    (case a10 => k_is)
    (case l10 => k_is)
    (case c10 => k_is)
    (case k10 => k_is)
    (case a11 => k_is)
    (case l11 => k_is)
    (case c11 => k_is)
    (case k11 => k_is)
    (case a12 => k_is)
    (case l12 => k_is)
    (case c12 => k_is)
    (case k12 => k_is)
    (case a13 => k_is)
    (case l13 => k_is)
    (case c13 => k_is)
    (case k13 => k_is)
    (case a14 => k_is)
    (case l14 => k_is)
    (case c14 => k_is)
    (case k14 => k_is)
    (case b_ValueError => k_is)
    (case b_abs => k_is)
    (case b_all => k_is)
    (case b_enumerate => k_is)
    (case b_int => k_is)
    (case b_isinstance => k_is)
    (case b_len => k_is)
    (case b_max => k_is)
    (case b_min => k_is)
    (case b_range => k_is)
    (case b_repr => k_is)
    (case b_str => k_is)
    (case b_super => k_is)
    (case b_tuple => k_is)
    (case g_BAR => k_is)
    (case g_BLANK_lines => k_is)
    (case g_BLANK_pages => k_is)
    (case g_FEED => k_is)
    (case g_LETTERS_documents => k_is)
    (case g_LETTERS_lines => k_is)
    (case nC_BadPage => k_is)
    (case nC_BadText => k_is)
    (case nC_SetbackError => k_is)
    (case nC_BadDocument => k_is)
    (case th => k_is)
    (case cl_BadPage => k_is)
    (case rv_BadPage => decide +kernel)
    (case sa_BadPage => k_is)
    (case ga_BadPage => k_is)
    (case gg_BadPage => k_is)
    (case no_BadPage => k_is)
    (case ic_BadPage => k_is)
    (case ti_BadPage => k_is)
    (case kc_BadPage => k_is)
    (case ex_BadPage => k_is)
    (case ve_BadPage => k_is)
    (case ty_BadPage => k_is)
    (case hd_BadPage => k_is)
    (case su_BadPage => ks_is)
    (case mc_BadPage => k_is)
    (case fi_BadPage => k_is)
    (case co_BadPage => k_is)
    (case lc_BadPage => k_is)
    (case vf_BadPage => rfl)
    (case fl_BadPage => decide +kernel)
    (case tp_BadPage => decide +kernel)
    (case cc_BadPage => k_is)
    (case lt_BadPage => exact ⟨_, fun _ => rfl⟩)
    (case xa_BadPage => k_is)
    (case xo_BadPage => k_is)
    (case xn => k_is)
    (case xt => k_is)
    (case cl_BadText => k_is)
    (case rv_BadText => decide +kernel)
    (case sa_BadText => k_is)
    (case ga_BadText => k_is)
    (case gg_BadText => k_is)
    (case no_BadText => k_is)
    (case ic_BadText => k_is)
    (case ti_BadText => k_is)
    (case kc_BadText => k_is)
    (case ex_BadText => k_is)
    (case ve_BadText => k_is)
    (case ty_BadText => k_is)
    (case hd_BadText => k_is)
    (case su_BadText => ks_is)
    (case mc_BadText => k_is)
    (case fi_BadText => k_is)
    (case co_BadText => k_is)
    (case lc_BadText => k_is)
    (case vf_BadText => rfl)
    (case fl_BadText => decide +kernel)
    (case tp_BadText => decide +kernel)
    (case cc_BadText => k_is)
    (case lt_BadText => exact ⟨_, fun _ => rfl⟩)
    (case xa_BadText => k_is)
    (case xo_BadText => k_is)
    (case ik_SetbackError => k_is)
    (case tk_SetbackError => k_is)
    (case bx_SetbackError => k_is)
    (case sub_BadText_SetbackError => k_is)
    (case sub_BadPage_SetbackError => k_is)
    (case sub_BadText_ValueError => k_is)
    (case sub_BadPage_ValueError => k_is)
    (case sub_NoneType_ValueError => k_is)
    (case sub_BadPage_BadText => k_is)
    (case ik_BadText => k_is)
    (case tk_BadText => k_is)
    (case ne_BadPage_BadText => decide)
    (case sub_NoneType_BadText => k_is)
    (case ne_NoneType_BadText => decide)
    (case sub_BadText_BadPage => k_is)
    (case ik_BadPage => k_is)
    (case tk_BadPage => k_is)
    (case ne_BadText_BadPage => decide)
    (case sub_NoneType_BadPage => k_is)
    (case ne_NoneType_BadPage => decide)
    (case sub_BadText_BadDocument => k_is)
    (case ik_BadDocument => k_is)
    (case tk_BadDocument => k_is)
    (case ne_BadText_BadDocument => decide)
    (case sub_BadPage_BadDocument => k_is)
    (case ne_BadPage_BadDocument => decide)
    (case sub_NoneType_BadDocument => k_is)
    (case ne_NoneType_BadDocument => decide)
    (case nf_BadPage_line => k_is)

