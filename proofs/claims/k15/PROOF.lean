import PyProof.Rows.All
import Wide.All
import OpenK.AllK
import Wide.FinOn
import HandS.ForMost
import HandS.Walk
import HandS.IsInst
import HandS.Wide
import HandS.TupAny
import HandS.StrMore
import HandS.Zip
import HandS.Style
import HandS.EndTab
import HandS.Flow
import HandS.FStr
import HandS.Exc
import KE.KExcSuper
import KE.KExcStr
import HandS.ExcOwn
import HandS.ExcValue
import HandS.ExcIs
import HandS.ExcField
import HandS.Steps
import HandS.TupMul
import HandS.Text
import HandS.WideBits
import KE.KRevSl
import HandS.More
import KE.GoesEnum
import KE.GoesZip
import HandS.Star
import PyProof.RulesMatch
import HandS.ReplaceLit
import HandS.SortRule
import KE.KNestM
import KE.DataFind
import HandS.Deep
import HandS.TryOnly
import HandS.ExcInit
import HandS.Property
import HandS.Defaults
import PySem.Challenge.RW_setback_k15_words_at_places
set_option Elab.async false
set_option linter.all false
set_option maxRecDepth 100000
set_option maxHeartbeats 4000000
namespace VL
open PySem PySem.Spec PyProof.Rows L2
structure FnG (P : Program) (w : World) (K : PySem.W.Frag) (mg : Str → Option Value) (base : Heap) (CX : CXT) (k : Nat) (f : Addr) (fd : FuncData) (ps : List Str) (sp : Sp) : Prop where
  len : ∀ vs H Q E, sp vs H Q E → vs.length = ps.length
  run : ∀ (A : Around) (outer : List Env) (s : Shared) (H : Hp) (args : Args) (us : List Value) (vs : List V) (Q : VK) (E : XK), A.guards = some [] → Room k A → Env0 P w K mg base A outer s H → BindsTo s fd args (ps.zip us) → Vals vs us → sp vs H Q E →
    codeAny (model P w) A (.call (.ref f) args) (CR CX outer P w H s Q E) s
theorem FnG.mono {P : Program} {w : World} {K : PySem.W.Frag} {mg : Str → Option Value} {base : Heap} {CX : CXT} {j k : Nat} {f : Addr} {fd : FuncData} {ps : List Str} {sp : Sp} (F : FnG P w K mg base CX j f fd ps sp) (h : j ≤ k) :
    FnG P w K mg base CX k f fd ps sp := ⟨F.len, fun A outer s H args us vs Q E hg hr => F.run A outer s H args us vs Q E hg (hr.mono h)⟩
theorem FnG.imp {P : Program} {w : World} {K : PySem.W.Frag} {mg : Str → Option Value} {base : Heap} {CX : CXT} {k : Nat} {f : Addr} {fd : FuncData} {ps : List Str} {sp sp' : Sp} (F : FnG P w K mg base CX k f fd ps sp)
    (h : ∀ vs H Q E, sp' vs H Q E → sp vs H Q E) : FnG P w K mg base CX k f fd ps sp' :=
  ⟨fun vs H Q E q => F.len vs H Q E (h _ _ _ _ q), fun A outer s H args us vs Q E hg hr he hb hv hs => F.run A outer s H args us vs Q E hg hr he hb hv (h _ _ _ _ hs)⟩
theorem FnG.of {P : Program} {w : World} {K : PySem.W.Frag} {mg : Str → Option Value} {base : Heap} {CX : CXT} {k : Nat} {f : Addr} {fd : FuncData} {ps : List Str} {sp : Sp} (F : FnOk P w K mg base CX k f fd ps sp) : FnG P w K mg base CX k f fd ps sp :=
  ⟨F.len, fun A outer s H args us vs Q E _ => F.run A outer s H args us vs Q E⟩
section
variable {X : Cx} {CX : CXT} {k : Nat} {f C : Addr} {fd : FuncData} {ps ks : List Str} {sp : Sp} {dvs : List V} {ds : List Value} {E : XK} {x m : Str} {p pos apos : Pos} {e o : Expr} {es : List Expr} {kws : List Keyword} {ta : TE} {t tk : TA}
theorem run_fg {pins : List (Addr × Obj)} {σ : L2.St} {H : Hp} {s : Shared} {Q : VK} {us : List Value} {vs : List V} (F : FnG X.prog X.w X.K X.mg X.base CX k f fd ps sp) (gd : X.A.guards = some []) (hr : Room k X.A) (hb : Binds X.K fd ps ds) (hd : Vals dvs ds) (hx : Passes CX X E)
    (I : Inv X pins σ H s) (r : Vals vs us) (h : sp (vs ++ dvs) H Q E) : wpAny (model X.prog X.w) X.A (call (.ref f) us) (EP X pins σ Q) X.xe s := by
  have r2 : Vals (vs ++ dvs) (us ++ ds) := r.append hd
  have hl : (us ++ ds).length = ps.length := by rw [← r2.length]; exact F.len _ _ _ _ h
  refine wpAny_call (codeAny_mono (F.run X.A X.stack s H ⟨us, []⟩ (us ++ ds) (vs ++ dvs) Q E gd hr I.env0 (hb s us I.kIn hl) r2 h) fun r s' hq => ?_)
  cases r with
  | error e => exact hx pins σ H s e s' I hq
  | ok fl =>
    cases fl with
    | ret u => exact I.after hq
    | next => exact False.elim hq
    | brk => exact False.elim hq
    | cont => exact False.elim hq
theorem pe_callG (F : FnG X.prog X.w X.K X.mg X.base CX k f fd ps sp) (gd : X.A.guards = some []) (hr : Room k X.A) (hg : Gl X x) (hm : X.mg x = some (.ref f)) (hk : PySem.W.keepIn X.K (.ref f) = true) (hb : Binds X.K fd ps ds) (hd : Vals dvs ds) (hx : Passes CX X E)
    (ha : PA X (e :: es) t) (hdb : (x == ("__debug__" : Str)) = false := by decide) (he : starEach (e :: es) X.env = (false, eval e X.env) :: starEach es X.env := by rfl) (hpl : (backTo pos (starEach es X.env)).any (·.1) = false := by rfl) :
    PE X (.Call (.Name x p) (e :: es) [] pos) (tCall sp dvs E t) := by
  refine ⟨fun pins s σ H Q I h => ?_⟩
  refine wpAny_Call_Name_kw (ld_glob I hg hm ?_ hdb)
  refine PySem.W.callWith_K (h₀ := X.base) I.ok.mod.kin hk (thn (ha.run pos pins s σ H _ I h) fun us s1 ⟨vs, H1, I1, r, q⟩ => ⟨I1.kIn, ?_⟩) he hpl
  exact run_fg F gd hr hb hd hx I1 r q
variable {g : List Value → List Value → List Value} {gV : List V → List V → List V}
end
theorem fn_ofG {CX : CXT} {P : Program} {w : World} {K : PySem.W.Frag} {mg : Str → Option Value} {base : Heap} {k : Nat} {f : Addr} {name qual : Str} {params : Arguments} {body : List Stmt} {scope : Scope} {dV kV doc pm cdv ct oc : Value} {an od : Option Addr}
    {osl : Array (Option Value)} {N ps : List Str} {sp : Sp} (lk : K.lookup f = some ⟨oc, od, .func (PySem.W.fnOf name qual params body scope dV kV doc pm an cdv ct), osl⟩) (hcd : PySem.W.codeIn K cdv qual = true) (S : FnScope N ps scope)
    (len : ∀ vs H Q E, sp vs H Q E → vs.length = ps.length)
    (hbody : ∀ (A : Around) (outer : List Env) (s : Shared) (H : Hp) (vs : List V) (Q : VK) (E : XK), A.guards = some [] → Room k (A.deeper (envOfC qual scope s.heap.objs.size f cdv)) → sp vs H Q E →
      ∃ t, PSs (cxOf CX P w K mg base N qual scope f cdv A outer s H E) body t ∧ t { nx := fun _ H' => Q .non H', rt := Q } (start N vs) H) :
    FnG P w K mg base CX (k + 1) f (PySem.W.fnOf name qual params body scope dV kV doc pm an cdv ct) ps sp := by
  refine ⟨len, fun A outer s H args us vs Q E hgd hr e0 hb r hsp => ?_⟩
  have hl := len _ _ _ _ hsp
  have KX : K.In s.heap := e0.mod.kin.keeps fun b o e => (e0.bs b o e).1
  have lim : s.heap.NoLimit := e0.mod.nolimit.keeps fun b o e => (e0.bs b o e).1
  have hkind : ∀ y ∈ ps.zip us, scope.names.lookup y.1 = some .local ∨ (scope.names.lookup y.1 = some .cell ∧ ((cellsFrom (s.heap.objs.size + 1) scope.names []).lookup y.1).isSome = true) := fun ⟨n, v⟩ hy => by
    rcases S.par n (List.of_mem_zip hy).1 with q | q
    · exact .inl q
    · exact .inr ⟨q, PySem.W.cellsFrom_some _ _ _ (.inl q)⟩
  refine codeAny_call_function hr.depth (KX _ _ lk) rfl S.co S.gen rfl (PySem.W.codeRec_of KX hcd) (hb _ _ _ _ ?_)
  refine wpAny_newFunctionEnv_cells S.kind hkind fun env he s1 x => ?_
  subst he
  refine ⟨lim.keeps x.toInCall.keep, codeAny_func ?_⟩
  obtain ⟨t, ht, hq⟩ := hbody A outer s H vs Q E hgd (hr.deeper _) hsp
  have I : Inv (cxOf CX P w K mg base N qual scope f cdv A outer s H E) [] (start N vs) H s1 := inv_start S hr.hd e0 hl r x
  refine wpAny_mono (ht.run [] s1 (start N vs) H _ I hq) (fun fl s' hs => ?_) fun e s' hs => hs
  have fin : ∀ {σ' : L2.St} {H' : Hp} {v : V} {u : Value}, Inv (cxOf CX P w K mg base N qual scope f cdv A outer s H E) [] σ' H' s' → RelV v u → Q v H' → CE outer P w H s Q u s' :=
    fun {σ' H' v u} J rv q => ⟨v, H', J.os, J.bare, J.base, J.hok, rv, q⟩
  cases fl with
  | ret u =>
    obtain ⟨v, σ', H', J, rv, q⟩ := hs
    exact fin J rv q
  | next =>
    obtain ⟨σ', H', J, q⟩ := hs
    exact fin (v := V.non) (u := Value.none) J rfl q
  | brk =>
    obtain ⟨_, _, _, q⟩ := hs
    exact False.elim q
  | cont =>
    obtain ⟨_, _, _, q⟩ := hs
    exact False.elim q
section
variable {P : Program} {w : World} {K : PySem.W.Frag} {mg : Str → Option Value} {base : Heap}
theorem okGc {x qual : Str} {st : Stmt} {f : Addr} {fd : FuncData} {N ps : List Str} {k : Nat} {sp : Sp} (F : Fun K x qual st f fd) (S : FnScope N ps (defScope st)) (len : ∀ vs H Q E, sp vs H Q E → vs.length = ps.length)
    (hbody : ∀ (cdv : Value) (A : Around) (outer : List Env) (s : Shared) (H : Hp) (vs : List V) (Q : VK) (E : XK), fd.code = cdv → A.guards = some [] → Room k (A.deeper (envOfC qual (defScope st) s.heap.objs.size f cdv)) → sp vs H Q E →
      ∃ t, PSs (cxOf CX0 P w K mg base N qual (defScope st) f cdv A outer s H E).nox (defBody st) t ∧ t { nx := fun _ H' => Q .non H', rt := Q } (start N vs) H) : FnG P w K mg base CX0 (k + 1) f fd ps sp := by
  obtain ⟨oc, od, kV, doc, pm, an, cdv, ct, osl, rfl, lk, hcd⟩ := F.ex
  refine fn_ofG lk hcd S len fun A outer s H vs Q E hgd hr hsp => ?_
  obtain ⟨t, h, q⟩ := hbody cdv A outer s H vs Q E rfl hgd hr hsp
  exact ⟨t, h.nox, q⟩
theorem okG {x qual : Str} {st : Stmt} {f : Addr} {fd : FuncData} {N ps : List Str} {k : Nat} {sp : Sp} (F : Fun K x qual st f fd) (S : FnScope N ps (defScope st)) (len : ∀ vs H Q E, sp vs H Q E → vs.length = ps.length)
    (hbody : ∀ (cdv : Value) (A : Around) (outer : List Env) (s : Shared) (H : Hp) (vs : List V) (Q : VK) (E : XK), A.guards = some [] → Room k (A.deeper (envOfC qual (defScope st) s.heap.objs.size f cdv)) → sp vs H Q E →
      ∃ t, PSs (cxOf CX0 P w K mg base N qual (defScope st) f cdv A outer s H E).nox (defBody st) t ∧ t { nx := fun _ H' => Q .non H', rt := Q } (start N vs) H) : FnG P w K mg base CX0 (k + 1) f fd ps sp :=
  okGc F S len fun cdv A outer s H vs Q E _ => hbody cdv A outer s H vs Q E
theorem okGX {x qual : Str} {st : Stmt} {f : Addr} {fd : FuncData} {N ps : List Str} {k : Nat} {sp : Sp} {CX : CXT} (F : Fun K x qual st f fd) (S : FnScope N ps (defScope st)) (len : ∀ vs H Q E, sp vs H Q E → vs.length = ps.length)
    (hbody : ∀ (cdv : Value) (A : Around) (outer : List Env) (s : Shared) (H : Hp) (vs : List V) (Q : VK) (E : XK), A.guards = some [] → Room k (A.deeper (envOfC qual (defScope st) s.heap.objs.size f cdv)) → sp vs H Q E →
      ∃ t, PSs (cxOf CX P w K mg base N qual (defScope st) f cdv A outer s H E) (defBody st) t ∧ t { nx := fun _ H' => Q .non H', rt := Q } (start N vs) H) : FnG P w K mg base CX (k + 1) f fd ps sp := by
  obtain ⟨oc, od, kV, doc, pm, an, cdv, ct, osl, rfl, lk, hcd⟩ := F.ex
  exact fn_ofG lk hcd S len fun A outer s H vs Q E hgd hr hsp => hbody cdv A outer s H vs Q E hgd hr hsp
end
theorem law_callG {P : Program} {w : World} {K : PySem.W.Frag} {mg mb : Str → Option Value} {CX : CXT} {k : Nat} {fa a : Addr} {fd : FuncData} {x : Str} {sp : Sp} {s₁ : Shared} {vs : List Value} {ns : List Int}
    (KX : K.In s₁.heap) (hns : s₁.heap.Ns mainGlobals mg) (hb : s₁.heap.Ns builtinsNs mb) (hbb : ∀ x : Str, x ≠ "__name__" → mb x = bootBuiltins x) (hlim : s₁.heap.NoLimit) (hg : s₁.gens = #[])
    (ha : s₁.heap.get? a = some { cls := .type "list", data := .seq vs.toArray }) (hi : IntsAre vs ns) (hl : ns.length ≤ sizeLine) (hr : Room k callerA)
    (F : ∀ base : Heap, K.In base → base.Ns mainGlobals mg → FnG P w K mg base CX k fa fd [x] sp) (hbind : ∀ (s : Shared) (u : Value), BindsTo s fd ⟨[u], []⟩ [(x, u)])
    (hsp : ∀ H : Hp, Only H → SqL K H a (ns.map V.int) → sp [.ref a] H (fun v _ => v = .bl true) fun _ _ _ => False)
    (hCX : ∀ H e s', CX [] H s₁ (fun _ _ _ => False) e s' → False) :
    codeAny (model P w) callerA (.call (.ref fa) ⟨[.ref a], []⟩) (fun r s' => r = .ok (.ret (.bool true)) ∧ OldK s₁.heap s'.heap ∧ s'.os = s₁.os ∧ AllBare s'.gens) s₁ := by
  let sp' : Sp := sp
  have rv := vals_ints hi
  have lenV := hi.length
  have core : ∀ H : Hp, Only H → SqL K H a (ns.map V.int) → HOk P w H s₁.heap → (∀ b, H b ≠ none → b = a) → (H a ≠ none → K.lookup a = none) →
      codeAny (model P w) callerA (.call (.ref fa) ⟨[.ref a], []⟩) (fun r s' => r = .ok (.ret (.bool true)) ∧ OldK s₁.heap s'.heap ∧ s'.os = s₁.os ∧ AllBare s'.gens) s₁ := by
    intro H hO hS hok hA hK
    have base_of : ∀ {b : Addr} {o : Obj}, s₁.heap.get? b = some o → H b = none → (hidT s₁.heap H).get? b = some o := fun e n => hidT_get e n
    have noA : ∀ {b : Addr} {o : Obj} {es : Array DictEntry} {ep : Nat}, s₁.heap.get? b = some o → o.data = .dict es ep → H b = none := fun {b o es ep} e d => by
      cases q : H b with
      | none => rfl
      | some u =>
        have e' : b = a := hA b (by rw [q]; simp)
        subst e'
        rw [ha] at e; cases e
        have d' : Data.seq vs.toArray _ = Data.dict es ep := d
        cases d'
    have nsK : ∀ {b : Addr} {m : Str → Option Value}, s₁.heap.Ns b m → (hidT s₁.heap H).Ns b m := fun {b m} ⟨o, es, ep, e, d, r⟩ => ⟨o, es, ep, base_of e (noA e d), d, r⟩
    have hKb : K.In (hidT s₁.heap H) := fun b o e => base_of (KX b o e) (by
      cases q : H b with
      | none => rfl
      | some u =>
        have e' : b = a := hA b (by rw [q]; simp)
        subst e'
        rw [hK (by rw [q]; simp)] at e; cases e)
    have hM : Mod K mg (hidT s₁.heap H) := ⟨hKb, nsK hns, ⟨mb, nsK hb, hbb⟩, let ⟨mc, h1, h2⟩ := hlim; ⟨mc, nsK h1, h2⟩⟩
    have e0 : Env0 P w K mg (hidT s₁.heap H) callerA [] s₁ H := ⟨rfl, hM, fun b o e => of_hidT e, Nat.le_of_eq (hidT_size _ _), trivial, fun b hb => absurd (show b ∈ ([] : List Addr) from hb) (by simp), hok, .of_eq hg⟩
    refine codeAny_mono ((F _ hKb (nsK hns)).run callerA [] s₁ H ⟨[.ref a], []⟩ [.ref a] [.ref a] _ _ rfl hr e0 (hbind s₁ (.ref a)) (.cons rfl .nil) (hsp H hO hS)) fun r s' h => ?_
    cases r with
    | error e => exact (hCX H e s' h).elim
    | ok fl =>
      cases fl with
      | next => exact False.elim h
      | brk => exact False.elim h
      | cont => exact False.elim h
      | ret u =>
        obtain ⟨v, H', os, bare, un, hok', r', q⟩ := h
        have q' : v = .bl true := q
        subst q'
        obtain rfl : u = Value.bool true := r'
        refine ⟨rfl, OldK.of_keep fun b o e => ?_, os, bare⟩
        cases q : H b with
        | none => exact un.keep b o e q (by intro z; exact absurd (show b ∈ ([] : List Addr) from z) (by simp)) (by simp)
        | some u =>
          rcases hO b with z | ⟨ob, xs, z⟩
          · rw [q] at z; cases z
          · have z2 := un.frzs b ob _ z
            obtain ⟨e1, _⟩ := hok b _ z
            obtain ⟨e2, _⟩ := hok' b _ z2
            rw [e] at e1; cases e1
            exact e2
  cases hk : K.lookup a with
  | some o =>
    have e := KX a o hk
    rw [ha] at e
    cases e
    refine core (fun _ => none) (fun _ => .inl rfl) (.inr ⟨_, vs.toArray, _, hk, rfl, rfl, rfl, by rw [List.size_toArray, lenV]; exact hl, by simpa using rv⟩) (fun b u z => by have z' : (none : Option HO) = some u := z; cases z') (fun b z => absurd rfl z) fun z => absurd rfl z
  | none =>
    refine core (fun b => if b = a then some (.frz { cls := .type "list", data := .seq vs.toArray } (.lst (ns.map V.int))) else none) (fun b => ?_) (.inl (.inr ⟨{ cls := .type "list", data := .seq vs.toArray }, if_pos rfl⟩)) (fun b u z => ?_) (fun b z => ?_) fun _ => hk
    · by_cases hb : b = a
      · exact .inr ⟨_, _, if_pos hb⟩
      · exact .inl (if_neg hb)
    · by_cases hb : b = a
      · have z' := (if_pos hb).symm.trans z
        cases z'
        subst hb
        exact ⟨ha, by rw [List.length_map]; exact hl, vs, _, rv, ha⟩
      · have z' := (if_neg hb).symm.trans z
        cases z'
    · by_cases hb : b = a
      · exact hb
      · exact absurd (if_neg hb) z
end VL
namespace VX
open PySem PySem.W PySem.Calls PyProof.Rows PySem.HandSPX PySem.Spec
def xA (f : Str) (a1 a2 : Pos) : Arguments := { posonlyargs := [], args := [{ arg := "self", annotation := none, pos := a1 }, { arg := f, annotation := none, pos := a2 }], vararg := none, kwonlyargs := [], kw_defaults := [], kwarg := none, defaults := [] }
def xB (f : Str) (p0 p1 p2 p3 p4 p5 q1 q2 q3 q4 : Pos) : List Stmt :=
  [.Expr (.Call (.Attribute (.Call (.Name "super" p0) [] [] p1) "__init__" p2) [.Name f p3] [] p4) p5, .Assign [.Attribute (.Name "self" q1) f q2] (.Name f q3) q4]
def xS (f : Str) : Scope := { kind := .function, names := [("self", .local), (f, .local), ("__class__", .free), ("super", .globalImplicit)], isGenerator := false, isCoroutine := false, more := [] }
structure Plain (f : Str) : Prop where
  a : (f == ("self" : Str)) = false
  b : (f == ("__class__" : Str)) = false
  c : (f == ("super" : Str)) = false
  d : (f == ("__debug__" : Str)) = false
  a' : (("self" : Str) == f) = false
  b' : (("__class__" : Str) == f) = false
  c' : (("super" : Str) == f) = false
def Late (f : Str) (p0 p1 p2 p3 p4 : Pos) : Prop := ∃ pl : Sem Bool, ∀ env : Env, eval (.Call (.Attribute (.Call (.Name "super" p0) [] [] p1) "__init__" p2) [.Name f p3] [] p4) env = (do
  let ov ← attributeBase (.Call (.Name "super" p0) [] [] p1) "__init__" env (eval (.Call (.Name "super" p0) [] [] p1) env)
  standAt p2.atName
  let (g, first) ← holding [ov] (getMethod ov "__init__" pl)
  callWith p4 g first (backTo p4 (starEach [.Name f p3] env)) [])
structure XTxt (prog : Program) (K : Frag) (mg : Str → Option Value) (x f : Str) (C fI : Addr) : Prop where
  gC : mg x = some (.ref C)
  nC : nsIn K mainGlobals x = some (some (.ref C))
  cls : ∃ nm q N bs bm sn sub ab col dd k0 k1 k2 k3 k5, K.lookup C = some (excClassObj nm q C N bs bm true sn sub ab col dd k0 k1 k2 k3 k5 "ValueError.__new__") ∧ refsVE bm = true
  sa : findIn K (.ref C) "__setattr__" = some (some (.builtin "object.__setattr__"))
  ga : findIn K (.ref C) "__getattribute__" = some (some (.builtin "BaseException.__getattribute__"))
  gg : findIn K (.ref C) "__getattr__" = some none
  noN : findIn K (.ref C) f = some none
  iC : findIn K (.ref C) "__init__" = some (some (.ref fI))
  tC : typeIn K (.ref fI) = some (.type "function")
  kC : keepIn K (.ref C) = true
  exC : subIn K (.ref C) (.type "BaseException") = some true
  veC : subIn K (.ref C) (.type "ValueError") = some true
  tyC : typeIn K (.ref C) = some (.type "type")
  hdC : hasDictIn K C = true
  su : ks_superIn K C C "__init__" = some (some (.builtin "ValueError.__init__"))
  mC : mroIn K C (.ref C) = some true
  no : nsIn K cStatics "thirdparty.any" = some none
  sup : nsIn K mainGlobals "super" = some none
  pl : Plain f
  bd : ∀ (qual : Str) (a1 a2 p0 p1 p2 p3 p4 p5 q1 q2 q3 q4 : Pos) (doc pm : Value) (an : Option Addr) (cda : Addr) (ct : Value) (cc : Addr) (u v : Value), bindArgs (ksFn "__init__" qual (xA f a1 a2) (xB f p0 p1 p2 p3 p4 p5 q1 q2 q3 q4) (xS f) .none .none doc pm an (.ref cda) ct cc) ⟨[u, v], []⟩ = pure [(("self" : Str), u), (f, v)]
  fn : ∃ (oc : Value) (od : Option Addr) (doc pm : Value) (an : Option Addr) (ct : Value) (osl : Array (Option Value)) (a1 a2 p0 p1 p2 p3 p4 p5 q1 q2 q3 q4 : Pos) (qual : Str) (cc cda : Addr) (ccl cl : Value) (cdd cld : Option Addr) (ccs csl : Array (Option Value)) (vs : Array Value) (file : Str) (tf : Tok),
    K.lookup fI = some ⟨oc, od, .func (ksFn "__init__" qual (xA f a1 a2) (xB f p0 p1 p2 p3 p4 p5 q1 q2 q3 q4) (xS f) .none .none doc pm an (.ref cda) ct cc), osl⟩ ∧ codeIn K (.ref cda) qual = true ∧
    K.lookup cda = some ⟨ccl, cdd, .fields vs, ccs⟩ ∧ vs[2]? = some (.str file tf) ∧ ((prog.main.file : Str) == file) = true ∧ (prog.main.scope.names.lookup ("super" : Str)).isSome = false ∧ K.lookup cc = some ⟨cl, cld, .cell (some (.ref C)), csl⟩ ∧ Late f p0 p1 p2 p3 p4
structure XEnd (h h' : Heap) (f : Str) (x C dx t1 : Addr) (v : Value) : Prop where
  keep : ∀ b o, b ≠ x → h.get? b = some o → h'.get? b = some o
  obj : h'.get? x = some { cls := .ref C, dict := some dx, data := .fields #[.ref t1, .none, .none, .none, .bool false, .none] }
  dbig : h.objs.size ≤ dx
  dne : dx ≠ x
  ns : h'.Ns1 dx (fun y => if y = f then some v else none)
section
variable {prog : Program} {w : World} {A : Around} {E : Value → Shared → Prop} {R : Result → Shared → Prop} {s : Shared} {K : Frag} {mg mb : Str → Option Value} {C fI : Addr} {nm f : Str}
theorem ld_own {M : Model} {s : Shared} {q : Str} {scope : Scope} {L a cc : Addr} {cd : Value} {m : Str → Option Value} {x : Str} {pos : Pos} {v : Value} {Q : Value → Shared → Prop} (hn : s.heap.Ns L m) (hv : m x = some v) (h : Q v s)
    (hk : scope.kind = .function) (hl : (ksEnv q scope L a cd cc).kindOf x = some .local) (hd : (x == ("__debug__" : Str)) = false) : wpAny M A (eval (.Name x pos) (ksEnv q scope L a cd cc)) Q E s := wpAny_Name (wpAny_loadName_local hk hl hn hv h) hd
theorem look_f (P : Plain f) : (xS f).names.lookup f = some .local := by
  show List.lookup f [(("self" : Str), NameKind.local), (f, .local), ("__class__", .free), ("super", .globalImplicit)] = _
  rw [List.lookup_cons, P.a]
  simp
theorem look_self : (xS f).names.lookup ("self" : Str) = some .local := by
  show List.lookup ("self" : Str) [(("self" : Str), NameKind.local), (f, .local), ("__class__", .free), ("super", .globalImplicit)] = _
  simp
theorem look_class (P : Plain f) : (xS f).names.lookup ("__class__" : Str) = some .free := by
  show List.lookup ("__class__" : Str) [(("self" : Str), NameKind.local), (f, .local), ("__class__", .free), ("super", .globalImplicit)] = _
  rw [List.lookup_cons, show (("__class__" : Str) == "self") = false by decide, List.lookup_cons, P.b']
  simp
theorem look_super (P : Plain f) : (xS f).names.lookup ("super" : Str) = some .globalImplicit := by
  show List.lookup ("super" : Str) [(("self" : Str), NameKind.local), (f, .local), ("__class__", .free), ("super", .globalImplicit)] = _
  rw [List.lookup_cons, show (("super" : Str) == "self") = false by decide, List.lookup_cons, P.c', List.lookup_cons, show (("super" : Str) == "__class__") = false by decide]
  simp
theorem x_init (T : XTxt prog K mg nm f C fI) {x t0 : Addr} {v : Value} (X : K.In s.heap) (hlim : s.heap.NoLimit) (hg : s.heap.Ns mainGlobals mg) (hb : s.heap.Ns builtinsNs mb) (hbb : ∀ x : Str, x ≠ "__name__" → mb x = bootBuiltins x) (hmg : mg "super" = none)
    (hx : s.heap.get? x = some (excO C t0)) (hnx : K.lookup x = none) (hroom : A.depth < recursionLimit)
    (hq : ∀ h' tk dx t1, XEnd s.heap h' f x C dx t1 v → R (.ok (.ret .none)) { s with heap := h', toks := tk }) :
    codeAny (model prog w) A (.call (.ref fI) ⟨[.ref x, v], []⟩) R s := by
  obtain ⟨oc, od, doc, pm, an, ct, osl, a1, a2, p0, p1, p2, p3, p4, p5, q1, q2, q3, q4, qual, cc, cda, ccl, cl, cdd, cld, ccs, csl, vs, file, tf, ho, hcd, hcode, hvs, hfile, htop, hcell, pl, hlate⟩ := T.fn
  obtain ⟨cnm, q, N, bs, bm, sn, sub, ab, col, dd, k0, k1, k2, k3, k5, hC, hbm⟩ := T.cls
  have P := T.pl
  have hcl : clsIn K C = some { name := cnm, bases := bs, mro := .ref C :: bm, ns := N, qualname := q, hasDict := true, slotNames := sn, subclasses := sub, abstract := ab, collection := col, hasDel := false } := by unfold clsIn; rw [hC] <;> rfl
  refine ks_codeAny_call_defAt (fd := ksFn "__init__" qual (xA f a1 a2) (xB f p0 p1 p2 p3 p4 p5 q1 q2 q3 q4) (xS f) .none .none doc pm an (.ref cda) ct cc) (binds := [("self", .ref x), (f, v)]) hroom (X _ _ ho) rfl hlim (codeRec_of X hcd) rfl (BindsTo.of_eq (T.bd _ _ _ _ _ _ _ _ _ _ _ _ _ _ _ _ _ _ _ _ _)) ?_ ?_ (fun h₁ hn k => ?_) rfl rfl rfl
  · intro y hy
    simp only [xS,List.mem_cons,List.not_mem_nil,or_false] at hy
    rcases hy with rfl | rfl | rfl | rfl <;> (intro z; cases z)
  · intro y hy
    simp only [List.mem_cons,List.not_mem_nil,or_false] at hy
    rcases hy with rfl | rfl
    · exact look_self
    · exact look_f P
  have X₁ : K.In h₁ := X.keeps k
  have hx₁ := k _ _ hx
  have ne : x ≠ C := fun z => by
    have y := X _ _ hC
    rw [← z, hx] at y
    cases y
  have mv : (List.lookup f ([(("self" : Str), Value.ref x), (f, v)].reverse)) = some v := by
    show List.lookup f [(f, v), (("self" : Str), Value.ref x)] = _
    simp
  have mx : (List.lookup ("self" : Str) ([(("self" : Str), Value.ref x), (f, v)].reverse)) = some (.ref x) := by
    show List.lookup ("self" : Str) [(f, v), (("self" : Str), Value.ref x)] = _
    rw [List.lookup_cons, P.a']
    simp
  refine ks_wpAt_execs_cons (ks_wpAt_Expr_any (ks_wpAt_MethodCall (pl := pl) ?_ (hlate _)) rfl rfl)
  · refine ks_wpAt_super_base (fd := ksFn "__init__" qual (xA f a1 a2) (xB f p0 p1 p2 p3 p4 p5 q1 q2 q3 q4) (xS f) .none .none doc pm an (.ref cda) ct cc) (look_super P) (look_class P) (by decide) rfl (k _ _ (X _ _ ho)) rfl rfl rfl (k _ _ (X _ _ hcode)) rfl hvs hfile htop ?_
    refine ks_loadName_global rfl (look_super P) (loadGlobal_builtin (hg.keeps k) hmg (hb.keeps k) ((hbb _ (by decide +kernel)).trans (by first | boot_by_name | rfl | kernel_rfl)) ⟨rfl, ?_⟩)
    refine wpAny_loadName_free rfl (look_class P) rfl ⟨_, X₁ _ _ hcell, rfl⟩ ?_
    refine wpAny_loadName_local rfl look_self hn mx ?_
    refine ks_wpAny_isType_cls (X₁ _ _ hC) rfl ⟨rfl, ?_⟩
    refine ks_wpAny_call_super (X₁ _ _ hC) rfl hx₁ rfl (fun c z => by cases z) (looks_mroIn X₁ T.mC) (fun h₂ e₂ k₂ => ?_)
    have X₂ : K.In h₂ := X₁.keeps k₂
    have hx₂ := k₂ _ _ hx₁
    have I₂ : InstAt h₂ x (excO C t0) C none := ⟨hx₂, rfl, rfl, trivial⟩
    have su : alongIn K "__init__" (((Value.ref C :: bm).dropWhile (· != .ref C)).drop 1) = some (some (.builtin "ValueError.__init__")) := by
      have y := T.su
      unfold ks_superIn at y
      rw [hcl] at y
      exact y
    refine kxs_getMethod kxs_ValueError e₂ (looks_opaque X₂ T.no) (l₀ := .ref C :: bm) (fun A Q E s k q => wpAny_bind ((looks_clsIn X₂ hcl) A _ E s k (wpAny_pure q))) rfl X₂ su (I₂.type.andThen (looks_subIn X₂ T.veC)) ne (by decide) ?_
    have k₃ : ∀ b o, h₂.get? b = some o → (h₂.push (kxs_mw "ValueError.__init__" x)).get? b = some o := fun b o e => Heap.get?_push_of_some _ e
    have hu : (h₂.push (kxs_mw "ValueError.__init__" x)).get? h₂.objs.size = some (kxs_mw "ValueError.__init__" x) := Heap.get?_push_at rfl rfl
    have hn₃ := (hn.keeps k₂).keeps k₃
    refine kxs_callWith (i := "ValueError.__init__") (x := x) rfl (evalArgs_plain (spliced_cons ?_))
    refine ld_own hn₃ mv ?_ rfl (look_f P) P.d
    refine spliced_nil ⟨hu, ?_⟩
    refine wpAny_call (codeAny_of_tree ?_)
    show wpAny _ _ (callAny (.ref h₂.objs.size) ⟨[v], []⟩) _ _ _
    simp only [callAny]
    refine wpAny_bind (wpAny_load hu ?_)
    simp only [kxs_mw,show (Value.type "method-wrapper" == Value.type "method" || Value.type "method-wrapper" == Value.type "builtin_function_or_method" || Value.type "method-wrapper" == Value.type "method-wrapper") = true by decide,if_true]
    refine KFB.if_so (by decide) ?_
    refine wpAny_bind (check_bound_init F.excBase_ValueError.toExcCallFacts (k₃ _ _ (k₂ _ _ (X₁ _ _ hC))) (k₃ _ _ hx₂) rfl ?_)
    refine wpAny_bind (wpAny_pure (wpAny_pure ?_))
    refine ⟨plainId_quiet F.excBase_ValueError.init.plain _, codeAny_builtin F.excBase_ValueError.initEntry ?_⟩
    refine exc_init_tree (cls := .ref C) (t0 := t0) (dv := none) (c2 := .none) (c3 := .none) (b4 := .bool false) (k₃ _ _ hx₂) (by rw [sizeLine_eq]; exact (by decide : 1 ≤ 16777216)) (fun h₄ k₄ hx₄ ht₄ => ?_)
    have k04 : ∀ b o, b ≠ x → s.heap.get? b = some o → h₄.get? b = some o := fun b o z e => k₄ b o z (k₃ _ _ (k₂ _ _ (k _ _ e)))
    have X₄ : K.In h₄ := fun a o e => k04 a o (fun z => by rw [z, hnx] at e; cases e) (X _ _ e)
    have nL : s.heap.objs.size ≠ x := Nat.ne_of_gt (Heap.lt_size hx)
    have hn₄ : h₄.Ns s.heap.objs.size (fun y => List.lookup y ([(("self" : Str), Value.ref x), (f, v)].reverse)) := by
      obtain ⟨oL, es, ep, e, r⟩ := hn₃
      exact ⟨oL, es, ep, k₄ _ _ nL e, r⟩
    show _root_.PySem.wpAt _ _ _ (execs _ _) _ _ _
    refine ks_wpAt_execs_cons (ks_wpAt_Assign_Attr (wpAt_of_wpAny ?_) ?_)
    · refine ld_own (q := qual) (scope := xS f) hn₄ mv ?_ rfl (look_f P) P.d
      refine ld_own (q := qual) (scope := xS f) hn₄ mx ?_ rfl look_self (by decide)
      refine set_plain X₄ (ox := excO C (h₂.push (kxs_mw "ValueError.__init__" x)).objs.size) (od := none) ⟨hx₄, rfl, rfl, trivial⟩ T.sa ?_
      refine exc_osa X₄ hx₄ hcl (show refsVE (.ref C :: bm) = true from hbm) rfl T.noN (fun h₅ tk₅ dx k₅ dn dne hx₅ hn₅ => ?_)
      show _root_.PySem.wpAt _ _ _ (execs _ _) _ _ _
      refine wpAt_of_wpAny (wpAny_execs_nil ?_)
      refine hq h₅ tk₅ dx _ ⟨fun b o hb e => k₅ b o hb (k04 b o hb e), hx₅, ?_, dne, hn₅⟩
      have z : s.heap.objs.size < h₄.objs.size := hn₄.lt
      exact Nat.le_of_lt (Nat.lt_of_lt_of_le z dn)
    · rfl
end
end VX
namespace VX
open PySem PySem.W PySem.Calls PyProof.Rows PySem.HandSPX PySem.Spec
section
variable {prog : Program} {w : World} {A : Around} {R : Result → Shared → Prop} {s : Shared} {K : Frag} {mg mb : Str → Option Value} {C fI : Addr} {nm f : Str}
structure XMade (h h' : Heap) (f : Str) (e C d : Addr) (v : Value) : Prop where
  keep : ∀ b o, h.get? b = some o → h'.get? b = some o
  new : h.objs.size ≤ e
  obj : ∃ oe vs, h'.get? e = some oe ∧ oe.cls = .ref C ∧ oe.dict = some d ∧ oe.data = .fields vs ∧ vs[1]? = some .none
  dbig : h.objs.size ≤ d
  dne : d ≠ e
  ns : h'.Ns1 d (fun y => if y = f then some v else none)
theorem x_made (T : XTxt prog K mg nm f C fI) {v : Value} (X : K.In s.heap) (hlim : s.heap.NoLimit) (hg : s.heap.Ns mainGlobals mg) (hb : s.heap.Ns builtinsNs mb) (hbb : ∀ x : Str, x ≠ "__name__" → mb x = bootBuiltins x) (hmg : mg "super" = none)
    (hroom : A.depth + 1 < recursionLimit) (hq : ∀ h' tk e d, XMade s.heap h' f e C d v → R (.ok (.ret (.ref e))) { s with heap := h', toks := tk }) :
    codeAny (model prog w) A (.call (.ref C) ⟨[v], []⟩) R s := by
  obtain ⟨cn, q, N, bs, bm, sn, sub, ab, col, dd, k0, k1, k2, k3, k5, hC, hbm⟩ := T.cls
  obtain ⟨hp, g, dr, tk, os⟩ := s
  generalize e2 : (hp.push (kdv_tup [v])).push (excO C hp.objs.size) = h2
  have k : ∀ b o, hp.get? b = some o → h2.get? b = some o := fun b o e => by
    rw [← e2]
    exact Heap.get?_push_of_some _ (Heap.get?_push_of_some _ e)
  have at2 : h2.get? (hp.objs.size + 1) = some (excO C hp.objs.size) := by
    rw [← e2]
    heap_get
  have sz2 : h2.objs.size = hp.objs.size + 1 + 1 := by rw [← e2, Heap.size_push, Heap.size_push]
  have free : K.lookup (hp.objs.size + 1) = none := by
    cases e : K.lookup (hp.objs.size + 1) with
    | none => rfl
    | some o => exact absurd (Nat.lt_of_succ_lt (Heap.lt_size (show hp.get? (hp.objs.size + 1) = some o from X _ _ e))) (Nat.lt_irrefl _)
  refine call_own F.excBase_ValueError (fun Y => refsVE_contains Y bm hbm) (X _ _ hC) (looks_findIn X T.iC) (fun self => bind_fn X self T.tC) (by rw [sizeLine_eq]; exact (by decide : 1 ≤ 16777216)) ?_
  rw [e2]
  refine x_init (s := ⟨h2, g, dr, tk, os⟩) (mb := mb) T (X.keeps k) (hlim.keeps k) (hg.keeps k) (hb.keeps k) hbb hmg at2 free hroom fun h' tk' dx t1 Z => ?_
  have old : ∀ b o, hp.get? b = some o → h'.get? b = some o := fun b o e => Z.keep b o (Nat.ne_of_lt (Nat.lt_succ_of_lt (Heap.lt_size e))) (k b o e)
  have big : h2.objs.size ≤ dx := Z.dbig
  exact ⟨rfl, hq h' tk' (hp.objs.size + 1) dx ⟨old, Nat.le_succ _, ⟨_, _, Z.obj, rfl, rfl, rfl, rfl⟩, (by show hp.objs.size ≤ dx; omega), Z.dne, Z.ns⟩⟩
end
end VX
namespace VX
open PySem PySem.Spec PyProof.Rows L2
section
variable {X : Cx} {C fI : Addr} {nm f : Str}
theorem relO_one {v : V} {u : Value} (r : RelV v u) (g : Str) : RelO (List.lookup g [(f, v)]) (if g = f then some u else none) := by
  by_cases hw : g = f
  · subst hw
    rw [if_pos rfl, show List.lookup g [(g, v)] = some v by simp [List.lookup]]
    exact r
  · rw [if_neg hw, show List.lookup g [(f, v)] = none by simp [List.lookup, show (g == f) = false by simpa using hw]]
    trivial
def tMkX (C : Addr) (f : Str) (ta : TA) : L2.St → Hp → XK → Prop := fun σ H Q => ta σ H fun vs H1 => ∃ v, vs = [v] ∧ ∀ d, H1 d = none → Q (.ref C) (some d) (upd H1 d (.xd [(f, v)]))
theorem pmk_x {a : Expr} {ta : TA} {p pos : Pos} {k : Nat} (T : XTxt X.prog X.K X.mg nm f C fI) (hmg : X.mg "super" = none) (hr : Room k X.A) (ha : PA X [a] ta) (hg : Gl X nm) (hd : (nm == ("__debug__" : Str)) = false)
    (he : starEach (a :: []) X.env = (false, eval a X.env) :: starEach [] X.env) (hpl : (backTo pos (starEach [] X.env)).any (·.1) = false) :
    PMk X (.Call (.Name nm p) [a] [] pos) (tMkX C f ta) := by
  intro pins s σ H Q I h
  refine wpAny_Call_Name_kw (ld_glob I hg T.gC ?_ hd)
  refine PySem.W.callWith_K (h₀ := X.base) I.ok.mod.kin T.kC (thn (ha.run pos pins s σ H _ I h) fun us s1 hh => ?_) he hpl
  obtain ⟨vs, H1, I1, r1, v, rfl, q1⟩ := hh
  refine ⟨I1.kIn, ?_⟩
  obtain ⟨u, rfl, ru⟩ := vals1 r1
  obtain ⟨mb, hb1, hb2⟩ := I1.mod.blt
  obtain ⟨hp, g, dr, tk, os⟩ := s1
  have kp : ∀ b o, X.base.get? b = some o → hp.get? b = some o := I1.bk
  refine wpAny_call (x_made (mb := mb) T I1.kIn I1.nolimit (I1.mod.glob.keeps kp) (hb1.keeps kp) hb2 hmg (by have := hr.dp; omega) fun h' tk' e d M => ?_)
  show MkP X pins σ Q (.ref e) ⟨h', g, dr, tk', os⟩
  obtain ⟨oe, fv, hoe, hc, hdi, hdat, h1⟩ := M.obj
  obtain ⟨G, g1, g2⟩ := restrict h' fun b => decide (b ≠ e)
  have gk : ∀ b, b ≠ e → G.get? b = h'.get? b := fun b hb => g1 b (decide_eq_true hb)
  have ge : G.get? e = none := g2 e (by simp)
  have ob : ObjOk X.prog X.w (upd H1 d (.xd [(f, v)])) G d (.xd [(f, v)]) := ⟨_, M.ns.at (fun o q => (gk d M.dne).trans q), fun g => relO_one ru g⟩
  have J : Inv X pins σ (upd H1 d (.xd [(f, v)])) ⟨G, g, dr, tk', os⟩ :=
    I1.laid (t' := tk') (fun b o q => (gk b (Nat.ne_of_lt (Nat.lt_of_lt_of_le (Heap.lt_size q) M.new))).trans (M.keep b o q)) M.dbig ob
  refine ⟨e, oe, fv, ⟨G, g, dr, tk', os⟩, _, .ref C, some d, rfl, J, fun b o q => ?_, ge, hoe, ⟨hc, hdi⟩, hdat, h1, ?_, rfl, I1.bare, raises_own T.exC T.tyC, q1 d (I1.hok.fresh M.dbig)⟩
  · by_cases hb : b = e
    · have z : G.get? b = some o := q
      rw [hb, ge] at z
      cases z
    · exact (gk b hb).symm.trans q
  · rw [upd_ne (Ne.symm M.dne)]
    exact I1.hok.fresh M.new
end
def ExF (cls : Value) (d : Option Addr) (a : Addr) : HO := .ext fun h => ∃ (oe : Obj) (vs : Array Value), h.get? a = some oe ∧ Zc cls d oe ∧ oe.data = .fields vs
theorem exF_ok {P : Program} {w : World} {H : Hp} {h : Heap} {a : Addr} {cls : Value} {d : Option Addr} {oe : Obj} {vs : Array Value} (e : h.get? a = some oe) (z : Zc cls d oe) (dt : oe.data = .fields vs) : ObjOk P w H h a (ExF cls d a) :=
  ⟨⟨oe, vs, e, z, dt⟩, ⟨oe, e⟩, fun h1 h2 ⟨o, us, e1, z1, d1⟩ k => ⟨o, us, k _ e1, z1, d1⟩⟩
section
variable {X : Cx} {pins : List (Addr × Obj)} {σ : L2.St} {H : Hp} {s : Shared} {a : Addr} {oe : Obj} {cls : Value} {d : Option Addr}
theorem tell_pin (I : Inv X ((a, oe) :: pins) σ H s) (hz : Zc cls d oe) (hf : ∃ vs, oe.data = .fields vs) (h0 : X.s_0.heap.get? a = none) (hp : ∀ p ∈ X.pn ++ pins, p.1 ≠ a) : Inv X pins σ (upd H a (ExF cls d a)) s := by
  obtain ⟨vs, hd⟩ := hf
  obtain ⟨ha, na, nL, nF, ncell⟩ := I.pin (a, oe) (List.mem_append_right _ List.mem_cons_self)
  have keep : ∀ {b : Addr} {o : HO}, H b = some o → upd H a (ExF cls d a) b = some o := fun {b o} e => by
    rw [upd_ne (ne_of_none e na)]
    exact e
  refine ⟨I.ok, I.os, I.bare, ⟨I.base.keep, I.base.slot, fun b o e n x => ?_, I.base.there, fun b xs e => keep (I.base.tups b xs e), fun b o u e => keep (I.base.frzs b o u e), fun b ps e => ?_⟩, I.loc, I.cell, ?_, fun x c e => ?_, fun p hm => ?_, HOk.laidN I.hok (fun _ _ q => q) na (exF_ok ha hz hd), I.len⟩
  · rw [upd_ne (fun z => by rw [z, h0] at e; cases e)]
    exact I.base.free b o e n x
  · obtain ⟨more, q⟩ := I.base.tbls b ps e
    exact ⟨more, keep q⟩
  · rw [upd_ne (Ne.symm nL)]
    exact I.free
  · have ne : c ≠ a := fun z => by
      obtain ⟨v, o, q1, q2⟩ := I.cell x c e
      rw [z, ha] at q1
      cases q1
      exact ncell v q2
    rw [upd_ne ne]
    exact I.freeC x c e
  · have hm' : p ∈ X.pn ++ (a, oe) :: pins := by
      rcases List.mem_append.mp hm with q | q
      · exact List.mem_append_left _ q
      · exact List.mem_append_right _ (List.mem_cons_of_mem _ q)
    obtain ⟨q1, q2, q3⟩ := I.pin p hm'
    exact ⟨q1, by rw [upd_ne (hp p hm)]; exact q2, q3⟩
end
end VX
namespace VX
open PySem PySem.Spec PyProof.Rows L2
def endsK (i : Nat) (a : Addr) (cls : Value) (d : Option Addr) (D : Ends) : Ends :=
  { nx := fun σ H => D.nx (σ.set i none) (upd H a (ExF cls d a)), rt := fun v H => D.rt v (upd H a (ExF cls d a)), bk := fun σ H => D.bk (σ.set i none) (upd H a (ExF cls d a)), ct := fun σ H => D.ct (σ.set i none) (upd H a (ExF cls d a)) }
def wKeep (K : PySem.W.Frag) (c : Value) (i : Nat) (ts : Addr → Value → Option Addr → TS) (Wout : WX) (D : Ends) : WX := fun cls d σ H =>
  ∃ b, PySem.W.exmOne K cls c = some b ∧ (b = true → ∀ a, H a = none → ts a cls d (endsK i a cls d D) (σ.set i (some (.ref a))) H) ∧ (b = false → Wout cls d σ H)
section
variable {X : Cx} {x n : Str} {c : Value} {i : Nat} {body suite : List Stmt} {b₀ : Stmt} {np pos pos' : Pos} {tb : WX → TS} {ts : Addr → Value → Option Addr → TS} {Wout : WX}
theorem ps_try_keep (hs : X.stack = X.env :: X.outer) (hf : X.env.frame = some X.env.locals) (hN : X.N.Nodup) (hi : X.N[i]? = some n) (hln : X.env.kindOf n = some .local) (hc : Names X x c) (tk : Takes X Wout) (hex : X.ex = [])
    (hb : ∀ (W : WX) (pn : List (Addr × Obj)) (xe : Value → Shared → Prop), Takes (X.tr pn xe) W → PassesOwn (model X.prog X.w) X.A X.env xe → PSs (X.tr pn xe) body (tb W))
    (hsu : ∀ (a : Addr) (oe : Obj) (cls : Value) (d : Option Addr) (pn : List (Addr × Obj)), Zc cls d oe → (∃ vs, oe.data = .fields vs) → PSs (X.suite a ((a, oe) :: pn)) (b₀ :: suite) (ts a cls d)) :
    PS X (.Try body [.ExceptHandler (some (.Name x np)) (some n) (b₀ :: suite) pos'] [] [] pos) (fun D σ H => tb (wKeep X.K c i ts Wout D) D σ H) := by
  constructor
  intro pins s σ H D I h
  have ok := I.ok
  have frm : X.A.frames = some (X.env :: X.outer) := ok.frames.trans (congrArg some hs)
  apply wpAny_Try_except
  have clause : ∀ (u : Value) (s1 : Shared), XE (X.tr (X.pn ++ pins) fun e s₁ => wpAny (model X.prog X.w) X.A (noteFrame e X.env) (fun _ s₂ => wpAny (model X.prog X.w) X.A (setFlight e none) (fun _ s₃ =>
      wpAny (model X.prog X.w) X.A (handleBy e X.env [.ExceptHandler (some (.Name x np)) (some n) (b₀ :: suite) pos']) (SP X pins D) X.xe s₃) X.xe s₂) X.xe s₁) (wKeep X.K c i ts Wout D) u s1 →
      wpAny (model X.prog X.w) X.A (noteFrame u X.env) (fun _ s₂ => wpAny (model X.prog X.w) X.A (setFlight u none) (fun _ s₃ =>
      wpAny (model X.prog X.w) X.A (handleBy u X.env [.ExceptHandler (some (.Name x np)) (some n) (b₀ :: suite) pos']) (SP X pins D) X.xe s₃) X.xe s₂) X.xe s1 := by
    rintro u s1 ⟨a, B, sI, ps, τ, G, cls, d, rfl, J0, nb, up, sky, na, os, ag, b, hb1, yes, no⟩
    have J : Inv X pins τ G sI := J0.ofTry ok
    have sky1 : Sky B (X.env :: X.outer) a (Zc cls d) X.env.locals s1.heap := hs ▸ sky
    apply Sky.land Zc.steady frm hf sky1
    intro h2 fly up2
    have J2 : Inv X pins τ G { s1 with heap := h2 } := J.landed nb fly.1 (up.trans up2) os ag
    obtain ⟨o2, v2, e2, z2, d2⟩ := fly.there
    have nfr : a ∉ frs (X.env :: X.outer) := fun hm => by
      obtain ⟨_, o', e', hnf⟩ := fly.2.2.1.mem hm
      rw [e2] at e'
      cases e'
      exact hnf _ d2
    have nL : a ≠ X.env.locals := fun z => nfr (List.mem_filterMap.mpr ⟨X.env, List.mem_cons_self, by rw [hf, z]⟩)
    have nF : a ∉ X.fs := fun hm => by
      obtain ⟨e, he, q⟩ := List.mem_filterMap.mp hm
      exact nfr (List.mem_filterMap.mpr ⟨e, List.mem_cons_of_mem _ he, q⟩)
    have nI : sI.heap.get? a = none := by
      cases q : sI.heap.get? a with
      | none => rfl
      | some o =>
        have y := nb a o q (by rw [show (X.tr _ _ : Cx).stack = X.stack from rfl, hs]; exact nfr)
        rw [fly.2.1] at y
        cases y
    have n0 : X.s_0.heap.get? a = none := by
      cases q : X.s_0.heap.get? a with
      | none => rfl
      | some o =>
        obtain ⟨o', y⟩ := J.base.there a o q (by rw [hex]; simp)
        rw [nI] at y
        cases y
    have nP : ∀ p ∈ X.pn ++ pins, p.1 ≠ a := fun p hp z => by
      have y := (J.pin p hp).1
      rw [z, nI] at y
      cases y
    have S2 := J2.suite e2 d2 na nL nF
    refine wpAny_handleBy_cons (codeAny_handlers_test ?_) (by intro q; cases q)
    have tyA : PySem.W.Looks (model X.prog X.w) h2 (typeOf (.ref a)) cls := fun A Q E s k q => wpAny_typeOf_ref (k _ _ e2) (by rw [z2.1]; exact q)
    have tst : PySem.W.Looks (model X.prog X.w) h2 (excMatches (.ref a) c) b := PySem.W.exm_one (M := model X.prog X.w) J2.kIn tyA hb1
    have cname : ∀ {Q : Value → Shared → Prop} {E : Value → Shared → Prop}, Q c { s1 with heap := h2 } → wpAny (model X.prog X.w) (X.A.mark (some (.ref a))) (eval (.Name x np) X.env) Q E { s1 with heap := h2 } := fun {Q E} q => by
      obtain ⟨g1, g2, g3 | ⟨g3, g4, g5⟩⟩ := hc
      · exact ld_glob (X := X.suite a ((a, o2) :: (X.pn ++ pins))) S2 g1 g3 q g2
      · exact ld_blt (X := X.suite a ((a, o2) :: (X.pn ++ pins))) S2 g1 g3 g4 q g5 g2
    refine cname (tst.here ?_)
    cases b with
    | true =>
      refine codeAny_handlers_suite_as (HandSPX.lands_againZ fly fun h3 fly3 up3 => ?_)
      have J3 : Inv X pins τ G { s1 with heap := h3 } := J.landed nb fly3.1 ((up.trans up2).trans up3) os ag
      obtain ⟨o3, v3, e3, z3, d3⟩ := fly3.there
      have S3 := J3.suite e3 d3 na nL nF
      refine store_ok (X := X.suite a ((a, o3) :: (X.pn ++ pins))) (v := .ref a) S3 hN hi (.inl hln) rfl (fun s4 S4 => ?_) (.inr hln)
      have out : ∀ {τ5 : L2.St} {G5 : Hp} {s5 : Shared} {Q : Shared → Prop}, Inv (X.suite a ((a, o3) :: (X.pn ++ pins))) [] τ5 G5 s5 → (∀ s6, Inv X pins (τ5.set i none) (upd G5 a (ExF cls d a)) s6 → Q s6) →
          wpAny (model X.prog X.w) X.A (do bindName X.env n .none; unbindBehindTheSuite X.env n pos') (fun _ s6 => Q s6) X.xe s5 := fun {τ5 G5 s5 Q} S5 hq => by
        have K5 : Inv X ((a, o3) :: pins) τ5 G5 s5 := ⟨ok, S5.os, S5.bare, S5.base, S5.loc, S5.cell, S5.free, S5.freeC, fun p hp => S5.pin p (by
          rw [List.append_nil]
          rcases List.mem_append.mp hp with q | q
          · exact List.mem_cons_of_mem _ (List.mem_append_left _ q)
          · rcases List.mem_cons.mp q with q | q
            · rw [q]; exact List.mem_cons_self
            · exact List.mem_cons_of_mem _ (List.mem_append_right _ q)), S5.hok, S5.len⟩
        exact gone_ok K5 hN hi hln fun s6 K6 => hq s6 (tell_pin K6 z3 ⟨_, d3⟩ n0 nP)
      refine wpAny_mono ((hsu a o3 cls d (X.pn ++ pins) z3 ⟨_, d3⟩).run [] s4 _ G _ S4 (yes rfl a na)) (fun fl s5 hsp => ?_) (fun _ _ z => False.elim z)
      cases fl with
      | next => obtain ⟨τ5, G5, S5, q5⟩ := hsp; exact out S5 fun s6 J6 => ⟨_, _, J6, q5⟩
      | brk => obtain ⟨τ5, G5, S5, q5⟩ := hsp; exact out S5 fun s6 J6 => ⟨_, _, J6, q5⟩
      | cont => obtain ⟨τ5, G5, S5, q5⟩ := hsp; exact out S5 fun s6 J6 => ⟨_, _, J6, q5⟩
      | ret u => obtain ⟨v5, τ5, G5, S5, r5, q5⟩ := hsp; exact out S5 fun s6 J6 => ⟨_, _, _, J6, r5, q5⟩
    | false =>
      show wpAny _ X.A (handleBy (.ref a) X.env []) _ _ _
      refine wpAny_handleBy_nil ?_
      obtain ⟨_, _, _, oe, us, tb0, ot, rest, he, hz, hd, hh, hr⟩ := id fly
      unfold PySem.passOn
      refine wpAny_bind (wpAny_field he hd hh ?_)
      rw [if_neg (show ¬ ((Value.ref tb0 == Value.none) = true) by simp)]
      have go : wpAny (model X.prog X.w) X.A (setFlight (.ref a) X.env.frame) (fun _ s4 => wpAny (model X.prog X.w) X.A (throw (.ref a) : Sem Flow) (SP X pins D) X.xe s4) X.xe { s1 with heap := h2 } := by
        rw [hf]
        exact HandSPX.setFlight_upZ fly fun h4 held up4 => wpAny_throw (tk _ _ ⟨a, B, sI, pins, τ, G, cls, d, rfl, J, nb, (up.trans up2).trans up4, .inr (.inr (by rw [hs]; exact held)), na, os, ag, no rfl⟩)
      first
        | exact wpAny_bind (wpAny_pure (wpAny_bind go))
        | exact wpAny_bind go
  refine wpAny_mono ((hb (wKeep X.K c i ts Wout D) (X.pn ++ pins) _ clause PassesOwn.looking).run [] s σ H D (I.toTry _) h) (fun fl s1 hsp => ?_) (fun e s1 he => he)
  cases fl with
  | next => obtain ⟨τ, G, J, q⟩ := hsp; exact wpAny_execs_nil ⟨τ, G, J.ofTry ok, q⟩
  | brk => obtain ⟨τ, G, J, q⟩ := hsp; exact ⟨τ, G, J.ofTry ok, q⟩
  | cont => obtain ⟨τ, G, J, q⟩ := hsp; exact ⟨τ, G, J.ofTry ok, q⟩
  | ret u => obtain ⟨v, τ, G, J, r, q⟩ := hsp; exact ⟨v, τ, G, J.ofTry ok, r, q⟩
end
end VX
namespace VX
open PySem PySem.W PySem.Calls PyProof.Rows PySem.Spec
section
variable {prog : Program} {w : World} {A : Around} {E : Value → Shared → Prop} {s : Shared} {K : Frag} {x D : Addr} {ox : Obj} {od : Option Obj}
theorem class_of {Q : Option Value → Shared → Prop} (C : L2.ExcC K D) (X : K.In s.heap) (I : InstAt s.heap x ox D od) (h : Q (some (.ref D)) { s with toks := s.toks + 1 }) : wpAny (model prog w) A (getAttr? (.ref x) "__class__") Q E s := by
  have found : findObj K D od "__class__" = some (.bind (.builtin "getset_descriptor.__get__") (.builtin "object.__class__")) := by
    obtain ⟨cd, hc, _⟩ := any_some C.hd
    unfold findObj
    rw [hc, Option.bind_some, C.ha, Option.bind_some]
    simp [C.hn, C.ht]
  obtain ⟨hp, g, d, t, os⟩ := s
  have tyL := I.type (M := model prog w)
  have gaL := looks_findIn (M := model prog w) X C.hg
  have ggL := looks_findIn (M := model prog w) X C.hk
  have fiL := looks_find (M := model prog w) X I found
  have isL : Looks (model prog w) hp (isInstance (.ref x) (.type "BaseException")) true := tyL.andThen (looks_subIn X C.hs)
  have n1 : (Value.builtin "BaseException.__getattribute__" == Value.builtin "object.__getattribute__") = false := by decide +kernel
  have n2 : (onTheHeap (Value.ref D) && Value.builtin "BaseException.__getattribute__" == Value.builtin "object.__getattribute__") = false := by
    rw [n1]
    rfl
  unfold getAttr? getAttrBy? getAttrBy
  apply wpAny_bind
  apply wpAny_mkText
  apply wpAny_bind
  apply wpAny_attempt
  apply wpAny_holding
  apply wpAny_bind
  apply tyL.at
  apply wpAny_bind
  apply gaL.at
  show wpAny _ _ (if (onTheHeap (Value.ref D) && Value.builtin "BaseException.__getattribute__" == Value.builtin "object.__getattribute__") = true then _ else _) _ _ (_ : Shared)
  rw [n2, if_neg (fun z => Bool.noConfusion z)]
  unfold getAttrByItsOwn hookBefore callGetattribute
  apply wpAny_bind
  have oh : onTheHeap (Value.ref D) = true := rfl
  rw [if_pos oh]
  apply ggL.at
  apply wpAny_bind
  apply wpAny_attempt
  apply wpAny_holding
  rw [show (false && onTheHeap (Value.builtin "BaseException.__getattribute__")) = false from rfl, if_neg (fun z => Bool.noConfusion z)]
  unfold boundAndCalled
  rw [PySem.F.excAttr_ValueError.ga.bind (.ref x)]
  apply wpAny_bind
  apply wpAny_pure
  show wpAny _ _ (call (.builtin "BaseException.__getattribute__") [.ref x, .str "__class__" t]) _ _ (_ : Shared)
  apply wpAny_call
  refine codeAny_call_builtin PySem.F.excAttr_ValueError.ga.plain PySem.F.entry_bexc_ga (@check_slot (model prog w) _ _ ⟨hp, g, d, t + 1, os⟩ "BaseException.__getattribute__" "BaseException" "__getattribute__" (.ref x) [.str "__class__" t] [] _ (by decide +kernel) (by decide +kernel) isL (PySem.F.args_bexc_ga (.ref x) (.str "__class__" t)) ?_)
  unfold Builtin.«object.__getattribute__»
  refine wpAny_bind (wpAny_of_eq (a := ((Value.ref x : Value), [Value.str "__class__" t])) (by first | rfl | simp only [slotArgs]) ?_)
  apply wpAny_bind
  apply wpAny_pure
  apply wpAny_bind
  apply tyL.at
  apply wpAny_bind
  apply fiL.at
  show wpAny _ _ (holding [Value.builtin "object.__class__"] (call (.builtin "getset_descriptor.__get__") [.builtin "object.__class__", .ref x, .ref D]) >>= ret) _ _ (_ : Shared)
  refine wpAny_bind (wpAny_holding (wpAny_call (class_get (s := ⟨hp, g, d, t + 1, os⟩) (ox := ox) (od := od) X I C.hm ?_)))
  apply wpAny_pure
  show wpAny _ _ (handedOut (.ref D)) _ _ (_ : Shared)
  rw [handedOut_of (v := .ref D) rfl]
  first
    | exact wpAny_pure (wpAny_pure h)
    | exact wpAny_pure h
    | exact wpAny_pure (wpAny_bind (wpAny_pure (wpAny_pure h)))
theorem kit_own (C : L2.ExcC K D) : KitX K (.ref x) (.ref D) (fun h => ∃ ox od, InstAt h x ox D od) where
  ty := fun _ _ _ ⟨_, _, I⟩ => I.type
  it := fun _ _ X _ => by
    obtain ⟨cd, hc, _⟩ := any_some C.hd
    unfold clsIn at hc
    split at hc
    · rename_i ho
      exact fun A' Q' E' s' k q => by
        unfold isType loadHead
        exact wpAny_bind (wpAny_loadPart (k _ _ (X _ _ ho)) (wpAny_pure q))
    · cases hc
  ne := fun h tp dd its n sl X htp => by
    obtain ⟨cd, hc, _⟩ := any_some C.hd
    rw [Bool.eq_false_iff]
    intro q
    obtain rfl : D = tp := Value.ref.inj (beq_iff_eq.mp q)
    unfold clsIn at hc
    split at hc
    · rename_i ho
      cases (X _ _ ho).symm.trans htp
    · cases hc
  ca := fun X ⟨_, _, I⟩ k => class_of C X I k
end
end VX
namespace VX
open PySem PySem.Spec PyProof.Rows L2
theorem exF_at {P : Program} {w : World} {H : Hp} {h : Heap} {a : Addr} {cls : Value} {d : Option Addr} (hok : HOk P w H h) (e : H a = some (ExF cls d a)) : ∃ (oe : Obj) (vs : Array Value), h.get? a = some oe ∧ Zc cls d oe ∧ oe.data = .fields vs := by
  have z : ObjOk P w H h a (ExF cls d a) := hok a _ e
  exact z.1
def XDA (H : Hp) : Option Addr → List (Str × V) → Prop
  | some dd, fs => H dd = some (.xd fs)
  | none, fs => fs = []
theorem XDA.mono {H H' : Hp} (e : Same H H') : ∀ {d : Option Addr} {fs : List (Str × V)}, XDA H d fs → XDA H' d fs
  | some _, _, h => e _ _ h
  | none, _, h => h
theorem exF_inst {P : Program} {w : World} {H : Hp} {h : Heap} {a D : Addr} {d : Option Addr} {fs : List (Str × V)} (hok : HOk P w H h) (ha : H a = some (ExF (.ref D) d a)) (hd : XDA H d fs) : ∃ oe od, PySem.W.InstAt h a oe D od := by
  obtain ⟨oe, vs, hget, hz, hv⟩ := exF_at hok ha
  cases d with
  | none => exact ⟨oe, none, hget, hz.1, by unfold PySem.W.notCls; rw [hv], by rw [hz.2]; trivial⟩
  | some dd =>
    obtain ⟨mA, hns, _⟩ : ObjOk P w H h dd (.xd fs) := hok dd _ hd
    obtain ⟨od, ho, _⟩ := lookIn_ns hns
    exact ⟨oe, some od, hget, hz.1, by unfold PySem.W.notCls; rw [hv], by rw [hz.2]; exact ho⟩
def rIsT (K : PySem.W.Frag) : List V → Hp → VK → Prop := fun xs H Q => ∃ (a D : Addr) (dd : Option Addr) (fs : List (Str × V)) (c : V) (cv : Value) (b : Bool), xs = [.ref a, c] ∧ H a = some (ExF (.ref D) dd a) ∧ XDA H dd fs ∧ ExcC K D ∧ (∀ u, RelV c u → u = cv) ∧ PySem.W.kitOne K (.ref D) cv = some b ∧ Q (.bl b) H
theorem call_isT {X : Cx} : CallR X (.builtin "isinstance") (rIsT X.K) := by
  intro pins s σ H xs us Q I r h
  obtain ⟨a, D, dd, fs, c, cv, b, rfl, ha, hd, C, hcv, e, q⟩ := h
  obtain ⟨u1, u2, rfl, r1, r2⟩ := r.two
  cases r1
  cases hcv _ r2
  obtain ⟨oe, od, J⟩ := exF_inst I.hok ha hd
  exact PySem.W.kia_one (kit_own C) I.kIn ⟨_, _, J⟩ e (fun z => nomatch z) fun tk => ⟨.bl b, H, I.kept (t' := tk) fun _ _ z => z, rfl, q⟩
def tXt (K : PySem.W.Frag) (f : Str) (te : TE) : TE := fun σ H Q => te σ H fun x H1 => ∃ (a C dd : Addr) (fs : List (Str × V)) (v : V), x = .ref a ∧ H1 a = some (ExF (.ref C) (some dd) a) ∧ H1 dd = some (.xd fs) ∧ XfC K C ∧ PySem.W.findIn K (.ref C) f = some none ∧ fs.lookup f = some v ∧ Q v H1
theorem pe_xt {X : Cx} {e : Expr} {te : TE} {pos : Pos} {f : Str} (he : PE X e te) (hb : attributeBase e f X.env (eval e X.env) = eval e X.env) : PE X (.Attribute e f pos) (tXt X.K f te) := by
  refine ⟨fun pins s σ H Q I h => ?_⟩
  refine attr_of hb (thn (he.run pins s σ H _ I h) fun u s1 hh => ?_)
  obtain ⟨x, H1, I1, rx, a, C, dd, fs, v, rfl, ha, hd, T, hno, l, q⟩ := hh
  cases rx
  obtain ⟨oe, vs, hget, hz, hv⟩ := exF_at I1.hok ha
  obtain ⟨mA, hns, hr⟩ : ObjOk X.prog X.w H1 s1.heap dd (.xd fs) := I1.hok dd _ hd
  obtain ⟨od, ho, hl⟩ := lookIn_ns hns
  obtain ⟨u, hu, ru⟩ := RelO.some_of (v := v) (o := mA f) (by rw [← l]; exact hr f)
  have J : PySem.W.InstAt s1.heap a oe C (some od) := ⟨hget, hz.1, by unfold PySem.W.notCls; rw [hv], by rw [hz.2]; exact ho⟩
  exact HandSPX.exc_get I1.kIn J T.ga T.gg T.exC (PySem.W.findObj_own T.hdC hno rfl (by rw [hl, hu])) (handed_of ru) ⟨v, H1, I1.tok _, ru, q⟩
end VX
namespace VL
open PySem PySem.Spec PyProof.Rows L2
mutual
inductive DV (K : PySem.W.Frag) (F : Hp) : V → PyData → Prop
  | non : DV K F .non .none
  | bl (b : Bool) : DV K F (.bl b) (.bool b)
  | int (i : Int) : DV K F (.int i) (.int i)
  | str (x : Str) : DV K F (.str x) (.str x)
  | lst {a : Addr} {vs : List V} {ds : List PyData} : F a = some (.lst vs) → DVs K F vs ds → DV K F (.ref a) (.list ds)
  | tup {a : Addr} {vs : List V} {ds : List PyData} : SqT K F a vs → DVs K F vs ds → DV K F (.ref a) (.tuple ds)
  | dct {a : Addr} {kvs : List (Key × V)} {ks : List PyData} {es : List PyData} : F a = some (.dK kvs) → DVs K F (kvs.map fun p => kV p.1) ks → DVs K F (kvs.map fun p => p.2) es → DV K F (.ref a) (.dict (ks.zip es))
inductive DVs (K : PySem.W.Frag) (F : Hp) : List V → List PyData → Prop
  | nil : DVs K F [] []
  | cons {v : V} {vs : List V} {d : PyData} {ds : List PyData} : DV K F v d → DVs K F vs ds → DVs K F (v :: vs) (d :: ds)
end
section
variable {K : PySem.W.Frag} {F F' : Hp}
theorem sqT_mono {a : Addr} {vs : List V} (e : Same F F') (h : SqT K F a vs) : SqT K F' a vs := by
  rcases h with (h | ⟨o, h⟩) | h
  · exact .inl (.inl (e _ _ h))
  · exact .inl (.inr ⟨o, e _ _ h⟩)
  · exact .inr h
mutual
theorem DV.mono (e : Same F F') : ∀ {v : V} {d : PyData}, DV K F v d → DV K F' v d
  | _, _, .non => .non
  | _, _, .bl b => .bl b
  | _, _, .int i => .int i
  | _, _, .str x => .str x
  | _, _, .lst h hs => .lst (e _ _ h) (DVs.mono e hs)
  | _, _, .tup h hs => .tup (sqT_mono e h) (DVs.mono e hs)
  | _, _, .dct h h1 h2 => .dct (e _ _ h) (DVs.mono e h1) (DVs.mono e h2)
theorem DVs.mono (e : Same F F') : ∀ {vs : List V} {ds : List PyData}, DVs K F vs ds → DVs K F' vs ds
  | _, _, .nil => .nil
  | _, _, .cons h t => .cons (DV.mono e h) (DVs.mono e t)
end
theorem DVs.length : ∀ {vs : List V} {ds : List PyData}, DVs K F vs ds → vs.length = ds.length
  | _, _, .nil => rfl
  | _, _, .cons _ t => by simp [DVs.length t]
theorem DVs.get : ∀ {vs : List V} {ds : List PyData} {i : Nat} {d : PyData}, DVs K F vs ds → ds[i]? = some d → ∃ v, vs[i]? = some v ∧ DV K F v d
  | _, _, _, _, .nil, e => by simp at e
  | _, _, 0, d, .cons h _, e => by
    simp at e
    subst e
    exact ⟨_, rfl, h⟩
  | _, _, i + 1, d, .cons _ t, e => by
    obtain ⟨v, h1, h2⟩ := DVs.get (i := i) (d := d) t (by simpa using e)
    exact ⟨v, by simpa using h1, h2⟩
theorem DVs.got : ∀ {vs : List V} {ds : List PyData} {i : Nat} {v : V}, DVs K F vs ds → vs[i]? = some v → ∃ d, ds[i]? = some d ∧ DV K F v d
  | _, _, _, _, .nil, e => by simp at e
  | _, _, 0, v, .cons h _, e => by
    simp at e
    subst e
    exact ⟨_, rfl, h⟩
  | _, _, i + 1, v, .cons _ t, e => by
    obtain ⟨d, h1, h2⟩ := DVs.got (i := i) (v := v) t (by simpa using e)
    exact ⟨d, by simpa using h1, h2⟩
theorem DVs.append : ∀ {vs ws : List V} {ds es : List PyData}, DVs K F vs ds → DVs K F ws es → DVs K F (vs ++ ws) (ds ++ es)
  | _, _, _, _, .nil, h => h
  | _, _, _, _, .cons h t, r => .cons h (DVs.append t r)
theorem DVs.set {v : V} {d : PyData} (h : DV K F v d) : ∀ {vs : List V} {ds : List PyData} (i : Nat), DVs K F vs ds → DVs K F (vs.set i v) (ds.set i d)
  | _, _, _, .nil => .nil
  | _, _, 0, .cons _ t => .cons h t
  | _, _, i + 1, .cons q t => .cons q (DVs.set h i t)
theorem DVs.take : ∀ {vs : List V} {ds : List PyData} (n : Nat), DVs K F vs ds → DVs K F (vs.take n) (ds.take n)
  | _, _, 0, _ => .nil
  | _, _, _ + 1, .nil => .nil
  | _, _, n + 1, .cons r t => .cons r (DVs.take n t)
theorem DVs.drop : ∀ {vs : List V} {ds : List PyData} (n : Nat), DVs K F vs ds → DVs K F (vs.drop n) (ds.drop n)
  | _, _, 0, r => r
  | _, _, _ + 1, .nil => .nil
  | _, _, n + 1, .cons _ t => DVs.drop n t
theorem DVs.eraseIdx : ∀ {vs : List V} {ds : List PyData} (n : Nat), DVs K F vs ds → DVs K F (vs.eraseIdx n) (ds.eraseIdx n)
  | _, _, _, .nil => .nil
  | _, _, 0, .cons _ t => t
  | _, _, n + 1, .cons r t => .cons r (DVs.eraseIdx n t)
theorem DVs.ints : ∀ (ns : List Int) {vs : List V}, DVs K F vs (ns.map PyData.int) → vs = ns.map V.int
  | [], _, .nil => rfl
  | n :: ns, _, .cons h t => by
    cases h
    rw [DVs.ints ns t]
    rfl
theorem DVs.bools : ∀ (ns : List Bool) {vs : List V}, DVs K F vs (ns.map PyData.bool) → vs = ns.map V.bl
  | [], _, .nil => rfl
  | n :: ns, _, .cons h t => by
    cases h
    rw [DVs.bools ns t]
    rfl
theorem DVs.strs : ∀ (ns : List Str) {vs : List V}, DVs K F vs (ns.map PyData.str) → vs = ns.map V.str
  | [], _, .nil => rfl
  | n :: ns, _, .cons h t => by
    cases h
    rw [DVs.strs ns t]
    rfl
theorem DVs.ofStrs : ∀ (ns : List Str), DVs K F (ns.map V.str) (ns.map PyData.str)
  | [] => .nil
  | n :: ns => .cons (.str n) (DVs.ofStrs ns)
end
inductive Opq where
  | ns (l : List Int) | ex (c : Str) (fs : List (Str × PyData)) | ptr (k : Nat) (a : Addr) | fn (a : Addr) (F0 : Hp) | glb (x : Str) | ob (b : Str) (fs : List (Str × PyData)) (hs : List Str) (raw : Option (Addr × List (Str × V)))
def OR (K : PySem.W.Frag) (F : Hp) : Opq → V → Prop
  | .ns l, v => ∃ a, v = .ref a ∧ SqL K F a (l.map V.int)
  | .ptr _ a, v => v = .ref a
  | .fn a F0, v => v = .ref a ∧ Same F0 F
  | .glb x, v => ∃ a, v = .ref a ∧ PySem.W.nsIn K mainGlobals x = some (some (.ref a))
  | .ob b fs hs raw, v => ∃ (a C : Addr) (dx : Addr) (fv : List (Str × V)), v = .ref a ∧ PySem.W.nsIn K mainGlobals b = some (some (.ref C)) ∧ F a = some (.ins C dx fv) ∧ fv.map (·.1) = fs.map (·.1) ++ hs ∧ (∀ f d, fs.lookup f = some d → ∃ u, fv.lookup f = some u ∧ DV K F u d) ∧ ∀ r, raw = some r → r = (a, fv)
  | .ex c fs, v => ∃ (a C : Addr) (dd : Option Addr) (vs : List V), v = .ref a ∧ PySem.W.nsIn K mainGlobals c = some (some (.ref C)) ∧ F a = some (VX.ExF (.ref C) dd a) ∧ VX.XDA F dd ((fs.map (·.1)).zip vs) ∧ DVs K F vs (fs.map (·.2))
inductive CT where
  | l (xs : List PyData) | o (b : Str) (fs : List (Str × PyData))
instance : Coe (List PyData) CT := ⟨CT.l⟩
instance : Append CT := ⟨fun a b => match a, b with
  | .l xs, .l ys => .l (xs ++ ys)
  | a, _ => a⟩
theorem CT.app (xs ys : List PyData) : CT.l xs ++ CT.l ys = CT.l (xs ++ ys) := rfl
def CT.At (K : PySem.W.Frag) (F H : Hp) (a : Addr) : CT → Prop
  | .l xs => ∃ vs, H a = some (.lst vs) ∧ DVs K F vs xs
  | .o b fs => ∃ C dx vs, PySem.W.nsIn K mainGlobals b = some (some (.ref C)) ∧ H a = some (.ins C dx ((fs.map (·.1)).zip vs)) ∧ DVs K F vs (fs.map (·.2))
def CO (o : HO) : Prop := (∃ vs, o = .lst vs) ∨ ∃ C dx fs, o = .ins C dx fs
theorem CT.At.is {K : PySem.W.Frag} {F H : Hp} {a : Addr} : ∀ {x : CT}, CT.At K F H a x → ∃ o, H a = some o ∧ CO o
  | .l _, ⟨vs, h, _⟩ => ⟨_, h, .inl ⟨vs, rfl⟩⟩
  | .o _ _, ⟨C, dx, vs, _, h, _⟩ => ⟨_, h, .inr ⟨C, dx, _, rfl⟩⟩
theorem CT.At.step {K : PySem.W.Frag} {F F' H H' : Hp} {a : Addr} (e : Same F F') (k : ∀ o, H a = some o → CO o → H' a = some o) : ∀ {x : CT}, CT.At K F H a x → CT.At K F' H' a x
  | .l _, ⟨vs, h, d⟩ => ⟨vs, k _ h (.inl ⟨vs, rfl⟩), d.mono e⟩
  | .o _ _, ⟨C, dx, vs, n, h, d⟩ => ⟨C, dx, vs, n, k _ h (.inr ⟨C, dx, _, rfl⟩), d.mono e⟩
def CT.data : CT → Option PyData
  | .l xs => some (.list xs)
  | .o _ _ => none
inductive SL where
  | v (d : PyData) | c (xs : CT) | q (xs : CT) | s (o : Opq)
inductive SV where
  | v (d : PyData) | p (i : Nat) | s (o : Opq)
abbrev Sl := List (Option SL)
abbrev ME := Sl → Option (SV × Sl)
abbrev MA := Sl → Option (List SV × Sl)
abbrev MT := Sl → Option (Bool × Sl)
inductive Fl where
  | nx | bk | ct | rt (r : SV) | rz (c : Str) (fs : List (Str × PyData))
abbrev MS := Sl → Option (Fl × Sl)
def SL.held : SL → Option CT
  | .c xs => some xs
  | .q xs => some xs
  | _ => none
def heldAt (S : Sl) (i : Nat) : Option CT := (S[i]?.bind id).bind SL.held
def deref (S : Sl) : SV → Option PyData
  | .v d => some d
  | .p i => (heldAt S i).bind CT.data
  | .s _ => none
def stable : SV → Option PyData
  | .v d => some d
  | _ => none
structure Ext (F H F' H' : Hp) : Prop where
  f : Same F F'
  fh : Same F' H'
  h : Same H H'
  fr : ∀ b, F' b ≠ none → F b ≠ none ∨ H b = none
  nt : ∀ b ps, F' b = some (.tbl ps) → F b = some (.tbl ps)
theorem Ext.refl {F H : Hp} (h : Same F H) : Ext F H F H := ⟨Same.refl _, h, Same.refl _, fun b z => .inl z, fun _ _ z => z⟩
theorem Ext.trans {F H F1 H1 F2 H2 : Hp} (a : Ext F H F1 H1) (b : Ext F1 H1 F2 H2) : Ext F H F2 H2 :=
  ⟨a.f.trans b.f, b.fh, a.h.trans b.h, fun x z => by
    rcases b.fr x z with z | z
    · exact a.fr x z
    · exact .inr (a.h.free z), fun x ps z => a.nt x ps (b.nt x ps z)⟩
theorem same_new {H : Hp} {p : Addr} {o : HO} (h : H p = none) : Same H (upd H p o) := fun a u e => by
  rw [upd_ne (ne_of_none e h)]
  exact e
theorem same_upd2 {F H : Hp} {p : Addr} {o : HO} (h : Same F H) : Same (upd F p o) (upd H p o) := fun a u e => by
  by_cases q : a = p
  · subst q
    rw [upd_same] at e ⊢
    exact e
  · rw [upd_ne q] at e ⊢
    exact h _ _ e
theorem Ext.new {F H : Hp} {p : Addr} {o : HO} (fh : Same F H) (h : H p = none) (ho : ∀ ps, o ≠ .tbl ps := by intro ps h; cases h) : Ext F H (upd F p o) (upd H p o) :=
  ⟨same_new (fh.free h), same_upd2 fh, same_new h, fun b z => by
    by_cases q : b = p
    · subst q
      exact .inr h
    · rw [upd_ne q] at z
      exact .inl z, fun b ps z => by
    by_cases q : b = p
    · subst q
      rw [upd_same] at z
      exact absurd (Option.some.inj z) (ho ps)
    · rw [upd_ne q] at z
      exact z⟩
theorem Ext.aside {F H : Hp} {p : Addr} {o : HO} (fh : Same F H) (h : H p = none) : Ext F H F (upd H p o) :=
  ⟨Same.refl _, fh.trans (same_new h), same_new h, fun b z => .inl z, fun _ _ z => z⟩
class LT where
  T : List (Addr × Str)
instance (priority := low) noLT : LT := ⟨[]⟩
def NB (o : HO) : Prop := (∀ ps, o ≠ .tbl ps) ∧ ∀ f, o ≠ .ext f
theorem tabs_upd {T : List (Addr × Str)} {H : Hp} {p : Addr} {o o' : HO} (h : LamX.Tabs T H) (hp : H p = some o) (ho : NB o) : LamX.Tabs T (upd H p o') := fun x hx => by
  obtain ⟨ps, h1, h2, h3⟩ := h x hx
  refine ⟨ps, by rw [upd_ne (fun q => by rw [q, hp] at h1; exact ho.1 ps (Option.some.inj h1))]; exact h1, h2, fun pos cv hc => ?_⟩
  obtain ⟨c, e1, e2⟩ := h3 pos cv hc
  exact ⟨c, e1, by rw [upd_ne (fun q => by rw [q, hp] at e2; exact ho.2 _ (Option.some.inj e2))]; exact e2⟩
theorem nf_lst {F : Hp} (h : ∀ b ps, F b ≠ some (.tbl ps)) {p : Addr} {vs : List V} : ∀ b ps, upd F p (.lst vs) b ≠ some (.tbl ps) := fun b ps z => by
  by_cases q : b = p
  · subst q
    rw [upd_same] at z
    cases z
  · rw [upd_ne q] at z
    exact h b ps z
def noT : Option HO → Option HO
  | some (.tbl _) => none
  | o => o
theorem noT_tbl (o : Option HO) (ps : Array Value) : noT o ≠ some (.tbl ps) := by
  intro h
  unfold noT at h
  split at h
  · cases h
  · rename_i hn
    exact hn ps h
theorem noT_some {o : Option HO} {u : HO} (h : noT o = some u) : o = some u := by
  unfold noT at h
  split at h
  · cases h
  · exact h
theorem noT_of {u : HO} (h : ∀ ps, u ≠ .tbl ps) : noT (some u) = some u := by
  unfold noT
  split
  · rename_i ps e
    exact absurd (Option.some.inj e) (h ps)
  · rfl
theorem noT_none {o : Option HO} (h : noT o = none) : o = none ∨ ∃ ps, o = some (.tbl ps) := by
  unfold noT at h
  split at h
  · exact .inr ⟨_, rfl⟩
  · exact .inl h
variable [LT]
structure RC (K : PySem.W.Frag) (P F0 : Hp) (qc : Nat → Addr) (F : Hp) (cell : Nat → Addr) (S : Sl) (σ : L2.St) (H : Hp) : Prop where
  len : S.length = σ.length
  f0 : Same F0 F
  fh : Same F H
  ph : Same P H
  fr : ∀ b, F b ≠ none → F0 b ≠ none ∨ P b = none
  vl : ∀ (i : Nat) (d : PyData), S[i]? = some (some (.v d)) → ∃ v, σ[i]? = some (some v) ∧ DV K F v d
  sc : ∀ (i : Nat) (o : Opq), S[i]? = some (some (.s o)) → ∃ v, σ[i]? = some (some v) ∧ OR K F o v
  cl : ∀ (i : Nat) (x : SL) (xs : CT), S[i]? = some (some x) → x.held = some xs → σ[i]? = some (some (.ref (cell i))) ∧ F (cell i) = none ∧ P (cell i) = none ∧ CT.At K F H (cell i) xs
  qs : ∀ (i : Nat) (xs : CT), S[i]? = some (some (.q xs)) → cell i = qc i
  inj : ∀ (i j : Nat) (x y : SL), S[i]? = some (some x) → S[j]? = some (some y) → x.held.isSome = true → y.held.isSome = true → cell i = cell j → i = j
  np : ∀ b ps, P b ≠ some (.tbl ps)
  nf : ∀ b ps, F b ≠ some (.tbl ps)
  tb : LamX.Tabs LT.T H
def VR (K : PySem.W.Frag) (F : Hp) (cell : Nat → Addr) : SV → V → Prop
  | .v d, v => DV K F v d
  | .p i, v => v = .ref (cell i)
  | .s o, v => OR K F o v
section
variable {K : PySem.W.Frag} {P F0 F F' : Hp} {qc cell : Nat → Addr} {S : Sl} {σ : L2.St} {H H' : Hp}
theorem sqL_mono {a : Addr} {vs : List V} (e : Same F F') (h : SqL K F a vs) : SqL K F' a vs := Same.seq e h
theorem OR.mono (e : Same F F') {o : Opq} {v : V} (h : OR K F o v) : OR K F' o v := by
  cases o with
  | ns l =>
    obtain ⟨a, h1, h2⟩ := h
    exact ⟨a, h1, sqL_mono e h2⟩
  | ex c fs =>
    obtain ⟨a, C, dd, vs, h1, h2, h3, h4, h5⟩ := h
    exact ⟨a, C, dd, vs, h1, h2, e _ _ h3, h4.mono e, h5.mono e⟩
  | ptr k a => exact h
  | fn a F0 => exact ⟨h.1, h.2.trans e⟩
  | glb x => exact h
  | ob b fs hs raw =>
    obtain ⟨a, C, dx, fv, h1, h2, h3, h4, h5, h6⟩ := h
    exact ⟨a, C, dx, fv, h1, h2, e _ _ h3, h4, fun f d q => by
      obtain ⟨u, q1, q2⟩ := h5 f d q
      exact ⟨u, q1, q2.mono e⟩, h6⟩
theorem VR.mono (e : Same F F') {r : SV} {v : V} (h : VR K F cell r v) : VR K F' cell r v := by
  cases r with
  | v d => exact DV.mono e h
  | p i => exact h
  | s o => exact OR.mono e h
theorem RC.ext (R : RC K P F0 qc F cell S σ H) (e : Ext F H F' H') : RC K P F0 qc F' cell S σ H' where
  len := R.len
  f0 := R.f0.trans e.f
  fh := e.fh
  ph := R.ph.trans e.h
  fr := fun b z => by
    rcases e.fr b z with z | z
    · exact R.fr b z
    · exact .inr (R.ph.free z)
  vl := fun i d h => by
    obtain ⟨v, h1, h2⟩ := R.vl i d h
    exact ⟨v, h1, h2.mono e.f⟩
  sc := fun i ns h => by
    obtain ⟨a, h1, h2⟩ := R.sc i ns h
    exact ⟨a, h1, h2.mono e.f⟩
  cl := fun i x xs h hx => by
    obtain ⟨h1, h2, h3, h4⟩ := R.cl i x xs h hx
    refine ⟨h1, ?_, h3, h4.step e.f fun o q _ => e.h _ _ q⟩
    cases q : F' (cell i) with
    | none => rfl
    | some o =>
      obtain ⟨u, h5, _⟩ := h4.is
      rcases e.fr (cell i) (by rw [q]; simp) with z | z
      · exact absurd h2 z
      · rw [h5] at z; cases z
  qs := R.qs
  inj := R.inj
  np := R.np
  nf := fun b ps z => R.nf b ps (e.nt b ps z)
  tb := R.tb.ext e.h
theorem RC.at (R : RC K P F0 qc F cell S σ H) {i : Nat} {xs : CT} (h : heldAt S i = some xs) : σ[i]? = some (some (.ref (cell i))) ∧ F (cell i) = none ∧ P (cell i) = none ∧ CT.At K F H (cell i) xs := by
  unfold heldAt at h
  cases e : S[i]? with
  | none => rw [e] at h; cases h
  | some o =>
    cases o with
    | none => rw [e] at h; cases h
    | some x =>
      rw [e] at h
      exact R.cl i x xs e h
def DX (K : PySem.W.Frag) (F H : Hp) (v : V) (d : PyData) : Prop := DV K F v d ∨ ∃ a vs ds, v = .ref a ∧ d = .list ds ∧ H a = some (.lst vs) ∧ DVs K F vs ds
theorem RC.deref (R : RC K P F0 qc F cell S σ H) {r : SV} {v : V} {d : PyData} (h : VR K F cell r v) (e : deref S r = some d) : DX K F H v d := by
  cases r with
  | v d' =>
    cases e
    exact .inl h
  | p i =>
    unfold VL.deref at e
    obtain ⟨x, e1, e2⟩ := Option.bind_eq_some_iff.mp e
    cases x with
    | l xs =>
      cases e2
      obtain ⟨_, _, _, vs, h1, h2⟩ := R.at e1
      exact .inr ⟨_, vs, xs, h, rfl, h1, h2⟩
    | o b fs => cases e2
  | s ns => cases e
theorem DX.mono (fh : Same F H) (e : Ext F H F' H') {v : V} {d : PyData} (h : DX K F H v d) : DX K F' H' v d := by
  rcases h with h | ⟨a, vs, ds, h1, h2, h3, h4⟩
  · exact .inl (h.mono e.f)
  · exact .inr ⟨a, vs, ds, h1, h2, e.h _ _ h3, h4.mono e.f⟩
theorem DX.dv (fh : Same F H) {v : V} {d : PyData} (h : DX K F H v d) : DV K H v d := by
  rcases h with h | ⟨a, vs, ds, rfl, rfl, h3, h4⟩
  · exact h.mono fh
  · exact .lst h3 (h4.mono fh)
theorem DX.list {v : V} {ds : List PyData} (fh : Same F H) (h : DX K F H v (.list ds)) : ∃ a vs, v = .ref a ∧ H a = some (.lst vs) ∧ DVs K F vs ds := by
  rcases h with h | ⟨a, vs, ds', h1, h2, h3, h4⟩
  · cases h with
    | lst h1 h2 => exact ⟨_, _, rfl, fh _ _ h1, h2⟩
  · cases h2
    exact ⟨a, vs, h1, h3, h4⟩
theorem DX.tuple {v : V} {ds : List PyData} (h : DX K F H v (.tuple ds)) : ∃ a vs, v = .ref a ∧ SqT K F a vs ∧ DVs K F vs ds := by
  rcases h with h | ⟨a, vs, ds', h1, h2, h3, h4⟩
  · cases h with
    | tup h1 h2 => exact ⟨_, _, rfl, h1, h2⟩
  · cases h2
theorem DX.int {v : V} {i : Int} (h : DX K F H v (.int i)) : v = .int i := by
  rcases h with h | ⟨a, vs, ds', h1, h2, h3, h4⟩
  · cases h
    rfl
  · cases h2
theorem DX.bool {v : V} {i : Bool} (h : DX K F H v (.bool i)) : v = .bl i := by
  rcases h with h | ⟨a, vs, ds', h1, h2, h3, h4⟩
  · cases h
    rfl
  · cases h2
theorem DX.str {v : V} {i : Str} (h : DX K F H v (.str i)) : v = .str i := by
  rcases h with h | ⟨a, vs, ds', h1, h2, h3, h4⟩
  · cases h
    rfl
  · cases h2
theorem DX.non {v : V} (h : DX K F H v .none) : v = .non := by
  rcases h with h | ⟨a, vs, ds', h1, h2, h3, h4⟩
  · cases h
    rfl
  · cases h2
end
end VL
namespace VL
open PySem PySem.Spec PyProof.Rows L2
variable [LT]
def OpS (K : PySem.W.Frag) (r : R2) (f : PyData → PyData → Option PyData) : Prop :=
  ∀ (F H : Hp) (x y : V) (d e z : PyData) (Q : VK), Same F H → DX K F H x d → DX K F H y e → f d e = some z → (∀ v F' H', Ext F H F' H' → DV K F' v z → Q v H') → r x y H Q
section
variable {K : PySem.W.Frag}
end
section
variable {X : Cx}
theorem isTuple_of {h : Heap} {a : Addr} {its : Array Value} (p : IsTup h a its) : h.IsTuple a its := p
def rEqE (K : PySem.W.Frag) : R2 := fun x y H Q => ∃ a b xs ys, x = .ref a ∧ y = .ref b ∧ SqT K H a xs ∧ SqT K H b ys ∧ (xs = [] ∨ ys = []) ∧ Q (.bl (xs.isEmpty && ys.isEmpty)) H
theorem op_eqE (hu : X.A.units < cLine) : OpR X (compareOp .Eq) (rEqE X.K) := by
  intro pins s σ H x y v u Q I rx ry h
  obtain ⟨a, b, xs, ys, rfl, rfl, ha, hb, hz, q⟩ := h
  obtain rfl : v = Value.ref a := rx
  obtain rfl : u = Value.ref b := ry
  obtain ⟨its, rv, p1, _⟩ := I.tuple ha
  obtain ⟨its2, rv2, p2, _⟩ := I.tuple hb
  have l1 := rv.length
  have l2 := rv2.length
  refine PySem.SeqAt.eq_tupleAt (e := fun _ => true) (isTuple_of p1) (isTuple_of p2) hu (fun j h1 h2 => ?_) ?_
  · exfalso
    have h1' : j < its.length := by simpa using h1
    have h2' : j < its2.length := by simpa using h2
    rcases hz with z | z
    · subst z
      simp at l1
      omega
    · subst z
      simp at l2
      omega
  · have e : ((List.range (min its.toArray.size its2.toArray.size)).all (fun _ => true) && its.toArray.size == its2.toArray.size) = (xs.isEmpty && ys.isEmpty) := by
      have a1 : (List.range (min its.toArray.size its2.toArray.size)).all (fun _ => true) = true := by simp
      rw [a1, Bool.true_and]
      have s1 : its.toArray.size = xs.length := by simp [l1]
      have s2 : its2.toArray.size = ys.length := by simp [l2]
      rw [s1, s2]
      rcases hz with z | z
      · subst z
        cases ys <;> simp
      · subst z
        cases xs <;> simp
    rw [e]
    exact ⟨.bl _, H, I, rfl, q⟩
def rMulS : R2 := fun x y H Q => ∃ a n, x = .str a ∧ y = .int n ∧ MulOk a n ∧ Q (.str (Txt.mul a n)) H
theorem op_mulS : OpR X (binaryOp .Mult) rMulS := by
  intro pins s σ H x y v u Q I rx ry h
  obtain ⟨a, n, rfl, rfl, ok, q⟩ := h
  obtain ⟨t, rfl⟩ := rx
  obtain ⟨t', rfl⟩ := ry
  exact PySem.SB.mul ok fun t' k => ⟨.str _, H, I.tok _, ⟨_, rfl⟩, q⟩
theorem op_powW : OpR X (binaryOp .Pow) (rI (fun i j => 0 ≤ j ∧ (Builtin.Int.intBits i : Int) * j ≤ 2 ^ 27) fun i j => .int (i ^ j.toNat)) := by
  intro pins s σ H x y v u Q I rx ry h
  obtain ⟨i, j, rfl, rfl, ⟨c1, c2⟩, q⟩ := h
  obtain ⟨t, rfl⟩ := rx
  obtain ⟨t', rfl⟩ := ry
  exact PyProof.Rows.pow_int c1 c2 ⟨.int _, H, I.tok _, ⟨_, rfl⟩, q⟩
end
def addD : PyData → PyData → Option PyData
  | .int i, .int j => some (.int (i + j))
  | .str a, .str b => if a.length + b.length ≤ 100000 then some (.str (a ++ b)) else none
  | .list a, .list b => if a.length + b.length ≤ 100000 then some (.list (a ++ b)) else none
  | .tuple a, .tuple b => if a.length + b.length ≤ 100000 then some (.tuple (a ++ b)) else none
  | _, _ => none
def subD : PyData → PyData → Option PyData
  | .int i, .int j => some (.int (i - j))
  | _, _ => none
def mulD : PyData → PyData → Option PyData
  | .int i, .int j => if (-(2 ^ 64) < i ∧ i < 2 ^ 64) ∨ (-(2 ^ 64) < j ∧ j < 2 ^ 64) then some (.int (i * j)) else none
  | .str a, .int n => if 0 ≤ n ∧ n ≤ 100000 ∧ a.length * n.toNat ≤ 100000 then some (.str (Txt.mul a n)) else none
  | .list a, .int n => if 0 ≤ n ∧ n ≤ 100000 ∧ a.length * n.toNat ≤ 100000 then some (.list (List.replicate n.toNat a).flatten) else none
  | .tuple a, .int n => if a ≠ [] ∧ 2 ≤ n ∧ n ≤ 1000 ∧ a.length ≤ 1000 then some (.tuple (List.replicate n.toNat a).flatten) else none
  | _, _ => none
def fdivD : PyData → PyData → Option PyData
  | .int i, .int j => if 0 < j ∧ j < 1073741824 then some (.int (i / j)) else none
  | _, _ => none
def modD : PyData → PyData → Option PyData
  | .int i, .int j => if 0 < j then some (.int (i % j)) else none
  | _, _ => none
def powD : PyData → PyData → Option PyData
  | .int i, .int j => if 0 ≤ j ∧ (Builtin.Int.intBits i : Int) * j ≤ 2 ^ 27 then some (.int (i ^ j.toNat)) else none
  | _, _ => none
def ltD : PyData → PyData → Option PyData
  | .int i, .int j => some (.bool (decide (i < j)))
  | .str a, .str b => some (.bool (decide (a.cps.toList < b.cps.toList)))
  | _, _ => none
def leD : PyData → PyData → Option PyData
  | .int i, .int j => some (.bool (decide (i ≤ j)))
  | .str a, .str b => some (.bool (!decide (b.cps.toList < a.cps.toList)))
  | _, _ => none
def gtD : PyData → PyData → Option PyData
  | .int i, .int j => some (.bool (decide (j < i)))
  | .str a, .str b => some (.bool (decide (b.cps.toList < a.cps.toList)))
  | _, _ => none
def geD : PyData → PyData → Option PyData
  | .int i, .int j => some (.bool (decide (j ≤ i)))
  | .str a, .str b => some (.bool (!decide (a.cps.toList < b.cps.toList)))
  | _, _ => none
def eqD (d e : PyData) : Option Bool :=
  match d, e with
  | .str a, .str b => some (decide (a = b))
  | .tuple xs, .tuple [] => some xs.isEmpty
  | .tuple [], .tuple ys => some ys.isEmpty
  | d, e => if SeqAt.shaped d = true ∧ SeqAt.shaped e = true then some (PyData.eqv d e) else none
def eqDD (d e : PyData) : Option PyData := (eqD d e).map .bool
def neDD (d e : PyData) : Option PyData := match d, e with
  | .str a, .str b => some (.bool (!decide (a = b)))
  | d, e => if SeqAt.shaped d = true ∧ SeqAt.shaped e = true then some (.bool (!PyData.eqv d e)) else none
def inD : PyData → PyData → Option PyData
  | .str a, .str b => if a.cps.size = 1 then some (.bool (decide (a.cps.getD 0 0 ∈ b.cps.toList))) else none
  | _, _ => none
def isNo : PyData → Bool
  | .none => true
  | _ => false
def isND : PyData → PyData → Option PyData
  | d, .none => some (.bool (isNo d))
  | _, _ => none
def isNotND : PyData → PyData → Option PyData
  | d, .none => some (.bool (!isNo d))
  | _, _ => none
section
variable {X : Cx} {K : PySem.W.Frag}
theorem small5 {n : Nat} (h : n ≤ 100000) : n ≤ sizeLine := Nat.le_trans h (by decide)
abbrev rAddA (K : PySem.W.Frag) : R2 := fun x y H Q => (∃ i j, x = V.int i ∧ y = V.int j ∧ Q (V.int (i + j)) H) ∨ ((∃ i j, x = .str i ∧ y = .str j ∧ i.length + j.length ≤ sizeLine ∧ Q (.str (i ++ j)) H) ∨ (rCat x y H Q ∨ rCatA K x y H Q))
theorem op_addA : OpR X (binaryOp .Add) (rAddA X.K) := OpR.or op_add (OpR.or op_add_str (OpR.or op_cat op_catA))
theorem ops_add : OpS K (rAddA K) addD := by
  intro F H x y d e z Q fh hx hy hf k
  unfold addD at hf
  split at hf
  · cases hf
    exact .inl ⟨_, _, hx.int, hy.int, k _ _ _ (Ext.refl fh) (.int _)⟩
  · split at hf
    · rename_i hl
      cases hf
      exact .inr (.inl ⟨_, _, hx.str, hy.str, small5 hl, k _ _ _ (Ext.refl fh) (.str _)⟩)
    · cases hf
  · split at hf
    · rename_i hl
      cases hf
      obtain ⟨a, vs, rfl, h1, h2⟩ := hx.list fh
      obtain ⟨b, ws, rfl, h3, h4⟩ := hy.list fh
      refine .inr (.inr (.inl ⟨a, b, vs, ws, rfl, rfl, h1, h3, by rw [h2.length, h4.length]; exact small5 hl, fun p hp => ?_⟩))
      have ex : Ext F H (upd F p (.lst (vs ++ ws))) (upd H p (.lst (vs ++ ws))) := Ext.new fh hp
      exact k _ _ _ ex (.lst upd_same ((h2.append h4).mono ex.f))
    · cases hf
  · split at hf
    · rename_i hl
      cases hf
      obtain ⟨a, vs, rfl, h1, h2⟩ := hx.tuple
      obtain ⟨b, ws, rfl, h3, h4⟩ := hy.tuple
      refine .inr (.inr (.inr ⟨a, b, vs, ws, rfl, rfl, sqT_mono fh h1, sqT_mono fh h3, by rw [h2.length, h4.length]; exact small5 hl, fun e0 => ?_, fun _ e1 => ?_, fun _ _ p hp => ?_⟩))
      · subst e0
        cases h2
        exact k _ _ _ (Ext.refl fh) (.tup h3 h4)
      · subst e1
        cases h4
        rw [List.append_nil] at k
        exact k _ _ _ (Ext.refl fh) (.tup h1 h2)
      · have ex : Ext F H (upd F p (.tup (vs ++ ws))) (upd H p (.tup (vs ++ ws))) := Ext.new fh hp
        exact k _ _ _ ex (.tup (SqT.of upd_same) ((h2.append h4).mono ex.f))
    · cases hf
  · cases hf
theorem ops_sub : OpS K (rI0 fun i j => .int (i - j)) subD := by
  intro F H x y d e z Q fh hx hy hf k
  unfold subD at hf
  split at hf
  · cases hf
    exact ⟨_, _, hx.int, hy.int, k _ _ _ (Ext.refl fh) (.int _)⟩
  · cases hf
theorem DVs.rep {F : Hp} {vs : List V} {ds : List PyData} (h : DVs K F vs ds) : ∀ n : Nat, DVs K F (List.replicate n vs).flatten (List.replicate n ds).flatten
  | 0 => .nil
  | n + 1 => by
    rw [List.replicate_succ, List.replicate_succ, List.flatten_cons, List.flatten_cons]
    exact h.append (DVs.rep h n)
abbrev rMulA (K : PySem.W.Frag) : R2 := fun x y H Q => rI CMul (fun i j => V.int (i * j)) x y H Q ∨ (rMulS x y H Q ∨ (rRep x y H Q ∨ rRepT K x y H Q))
theorem op_mulA : OpR X (binaryOp .Mult) (rMulA X.K) := OpR.or op_mul (OpR.or op_mulS (OpR.or op_rep op_repT))
theorem mulOk_of {a : Str} {n : Int} (h0 : 0 ≤ n) (h1 : n ≤ 100000) (h2 : a.length * n.toNat ≤ 100000) : MulOk a n := by
  refine ⟨?_, fun h3 _ h4 => ?_, fun _ _ => ?_⟩
  · rw [Bool.or_eq_false_iff]
    exact ⟨decide_eq_false (by omega), decide_eq_false (by omega)⟩
  · have hn : 0 < n := by omega
    have h5 : (a.length : Int) * n ≤ 100000 := by
      have e : (n.toNat : Int) = n := Int.toNat_of_nonneg h0
      have : ((a.length * n.toNat : Nat) : Int) ≤ ((100000 : Nat) : Int) := Int.ofNat_le.mpr h2
      rw [Int.natCast_mul, e] at this
      exact this
    have h6 : (a.length : Int) ≤ (2 ^ 63 - 1) / n := by
      rw [Int.le_ediv_iff_mul_le hn]
      omega
    omega
  · show decide (a.length * n.toNat > sizeLine) = false
    have : a.length * n.toNat ≤ sizeLine := small5 h2
    exact decide_eq_false (by omega)
theorem ops_mul : OpS K (rMulA K) mulD := by
  intro F H x y d e z Q fh hx hy hf k
  unfold mulD at hf
  split at hf
  · split at hf
    · rename_i hl
      cases hf
      exact .inl ⟨_, _, hx.int, hy.int, hl, k _ _ _ (Ext.refl fh) (.int _)⟩
    · cases hf
  · split at hf
    · rename_i hl
      cases hf
      exact .inr (.inl ⟨_, _, hx.str, hy.int, mulOk_of hl.1 hl.2.1 hl.2.2, k _ _ _ (Ext.refl fh) (.str _)⟩)
    · cases hf
  · split at hf
    · rename_i n hl
      cases hf
      obtain ⟨a, vs, rfl, h1, h2⟩ := hx.list fh
      refine .inr (.inr (.inl ⟨a, n, vs, rfl, hy.int, h1, by omega, by omega, by rw [h2.length]; exact small5 hl.2.2, fun p hp => ?_⟩))
      have ex : Ext F H (upd F p (.lst (List.replicate n.toNat vs).flatten)) (upd H p (.lst (List.replicate n.toNat vs).flatten)) := Ext.new fh hp
      exact k _ _ _ ex (.lst upd_same ((h2.rep _).mono ex.f))
    · cases hf
  · split at hf
    · rename_i n hl
      cases hf
      obtain ⟨a, vs, rfl, h1, h2⟩ := hx.tuple
      have hne : vs ≠ [] := fun q => by
        subst q
        cases h2
        exact hl.1 rfl
      refine .inr (.inr (.inr ⟨a, n, vs, rfl, hy.int, sqT_mono fh h1, hne, hl.2.1, hl.2.2.1, by rw [h2.length]; exact hl.2.2.2, fun p hp => ?_⟩))
      have ex : Ext F H (upd F p (.tup (List.replicate n.toNat vs).flatten)) (upd H p (.tup (List.replicate n.toNat vs).flatten)) := Ext.new fh hp
      exact k _ _ _ ex (.tup (SqT.of upd_same) ((h2.rep _).mono ex.f))
    · cases hf
  · cases hf
theorem ops_fdiv : OpS K (rI CDiv fun i j => .int (i / j)) fdivD := by
  intro F H x y d e z Q fh hx hy hf k
  unfold fdivD at hf
  split at hf
  · split at hf
    · rename_i hl
      cases hf
      exact ⟨_, _, hx.int, hy.int, hl, k _ _ _ (Ext.refl fh) (.int _)⟩
    · cases hf
  · cases hf
theorem ops_mod : OpS K (rI (fun _ j => 0 < j) fun i j => .int (i % j)) modD := by
  intro F H x y d e z Q fh hx hy hf k
  unfold modD at hf
  split at hf
  · split at hf
    · rename_i hl
      cases hf
      exact ⟨_, _, hx.int, hy.int, hl, k _ _ _ (Ext.refl fh) (.int _)⟩
    · cases hf
  · cases hf
theorem ops_pow : OpS K (rI (fun i j => 0 ≤ j ∧ (Builtin.Int.intBits i : Int) * j ≤ 2 ^ 27) fun i j => .int (i ^ j.toNat)) powD := by
  intro F H x y d e z Q fh hx hy hf k
  unfold powD at hf
  split at hf
  · split at hf
    · rename_i hl
      cases hf
      exact ⟨_, _, hx.int, hy.int, hl, k _ _ _ (Ext.refl fh) (.int _)⟩
    · cases hf
  · cases hf
abbrev rLtA : R2 := fun x y H Q => (∃ i j, x = V.int i ∧ y = V.int j ∧ Q (V.bl (decide (i < j))) H) ∨ (∃ i j, x = V.str i ∧ y = V.str j ∧ Q (.bl (decide (i.cps.toList < j.cps.toList))) H)
theorem op_ltA : OpR X (compareOp .Lt) rLtA := OpR.or op_lt op_lt_str
abbrev rLeA : R2 := fun x y H Q => (∃ i j, x = V.int i ∧ y = V.int j ∧ Q (V.bl (decide (i ≤ j))) H) ∨ (∃ i j, x = V.str i ∧ y = V.str j ∧ Q (.bl (!decide (j.cps.toList < i.cps.toList))) H)
theorem op_leA : OpR X (compareOp .LtE) rLeA := OpR.or op_le op_le_str
abbrev rGtA : R2 := fun x y H Q => (∃ i j, x = V.int i ∧ y = V.int j ∧ Q (V.bl (decide (j < i))) H) ∨ (∃ i j, x = V.str i ∧ y = V.str j ∧ Q (.bl (decide (j.cps.toList < i.cps.toList))) H)
theorem op_gtA : OpR X (compareOp .Gt) rGtA := OpR.or op_gt op_gt_str
abbrev rGeA : R2 := fun x y H Q => (∃ i j, x = V.int i ∧ y = V.int j ∧ Q (V.bl (decide (j ≤ i))) H) ∨ (∃ i j, x = V.str i ∧ y = V.str j ∧ Q (.bl (!decide (i.cps.toList < j.cps.toList))) H)
theorem op_geA : OpR X (compareOp .GtE) rGeA := OpR.or op_ge op_ge_str
theorem ops_lt : OpS K rLtA ltD := by
  intro F H x y d e z Q fh hx hy hf k
  unfold ltD at hf
  split at hf
  · cases hf
    exact .inl ⟨_, _, hx.int, hy.int, k _ _ _ (Ext.refl fh) (.bl _)⟩
  · cases hf
    exact .inr ⟨_, _, hx.str, hy.str, k _ _ _ (Ext.refl fh) (.bl _)⟩
  · cases hf
theorem ops_le : OpS K rLeA leD := by
  intro F H x y d e z Q fh hx hy hf k
  unfold leD at hf
  split at hf
  · cases hf
    exact .inl ⟨_, _, hx.int, hy.int, k _ _ _ (Ext.refl fh) (.bl _)⟩
  · cases hf
    exact .inr ⟨_, _, hx.str, hy.str, k _ _ _ (Ext.refl fh) (.bl _)⟩
  · cases hf
theorem ops_gt : OpS K rGtA gtD := by
  intro F H x y d e z Q fh hx hy hf k
  unfold gtD at hf
  split at hf
  · cases hf
    exact .inl ⟨_, _, hx.int, hy.int, k _ _ _ (Ext.refl fh) (.bl _)⟩
  · cases hf
    exact .inr ⟨_, _, hx.str, hy.str, k _ _ _ (Ext.refl fh) (.bl _)⟩
  · cases hf
theorem ops_ge : OpS K rGeA geD := by
  intro F H x y d e z Q fh hx hy hf k
  unfold geD at hf
  split at hf
  · cases hf
    exact .inl ⟨_, _, hx.int, hy.int, k _ _ _ (Ext.refl fh) (.bl _)⟩
  · cases hf
    exact .inr ⟨_, _, hx.str, hy.str, k _ _ _ (Ext.refl fh) (.bl _)⟩
  · cases hf
theorem DVs.empty {F : Hp} {vs : List V} {ds : List PyData} (h : DVs K F vs ds) : vs.isEmpty = ds.isEmpty := by
  cases h <;> rfl
mutual
theorem DV.dp {F : Hp} : ∀ {v : V} {d : PyData}, DV K F v d → d.canLay0 = true → Dp K F v d
  | _, _, .non, _ => .non
  | _, _, .bl b, _ => .bl b
  | _, _, .int i, _ => .int i
  | _, _, .str x, _ => .str x
  | _, _, .lst h hs, c => .lst (SqL.of h) (DVs.dp hs (by simpa [PyData.canLay0] using c))
  | _, _, .tup h hs, c => .tup h (DVs.dp hs (by simpa [PyData.canLay0] using c))
  | _, _, .dct h h1 h2, c => by simp [PyData.canLay0] at c
theorem DVs.dp {F : Hp} : ∀ {vs : List V} {ds : List PyData}, DVs K F vs ds → PyData.canLayAll0 ds = true → DpAll K F vs ds
  | _, _, .nil, _ => .nil
  | _, _, .cons h t, c => by
    have c' := c
    simp [PyData.canLayAll0] at c'
    exact .cons (DV.dp h c'.1) (DVs.dp t c'.2)
end
abbrev rEqA (K : PySem.W.Frag) : R2 := fun x y H Q => rEq x y H Q ∨ (rEqE K x y H Q ∨ rEqD K x y H Q)
theorem op_eqA (hu : X.A.units + 64 < cLine) : OpR X (compareOp .Eq) (rEqA X.K) := OpR.or op_eq (OpR.or (op_eqE (by omega)) (op_eqD hu))
abbrev rNeA (K : PySem.W.Frag) : R2 := fun x y H Q => rNe x y H Q ∨ rNeD K x y H Q
theorem op_neA (hu : X.A.units + 64 < cLine) : OpR X (compareOp .NotEq) (rNeA X.K) := OpR.or op_ne (op_neD hu)
theorem dec_strs {i j : Str} : decide (V.str i = V.str j) = decide (i = j) := by
  rw [Bool.eq_iff_iff]
  simp
theorem ops_eq : OpS K (rEqA K) eqDD := by
  intro F H x y d e z Q fh hx hy hf k
  unfold eqDD at hf
  obtain ⟨b, hb, rfl⟩ := Option.map_eq_some_iff.mp hf
  unfold eqD at hb
  split at hb
  · cases hb
    cases hx.str
    cases hy.str
    refine .inl ⟨rfl, ?_⟩
    rw [dec_strs]
    exact k _ _ _ (Ext.refl fh) (.bl _)
  · cases hb
    obtain ⟨a, vs, rfl, h1, h2⟩ := hx.tuple
    obtain ⟨c, ws, rfl, h3, h4⟩ := hy.tuple
    cases h4
    refine .inr (.inl ⟨a, c, vs, [], rfl, rfl, sqT_mono fh h1, sqT_mono fh h3, .inr rfl, ?_⟩)
    rw [show (vs.isEmpty && ([] : List V).isEmpty) = vs.isEmpty by rw [List.isEmpty_nil, Bool.and_true], h2.empty]
    exact k _ _ _ (Ext.refl fh) (.bl _)
  · cases hb
    obtain ⟨a, vs, rfl, h1, h2⟩ := hx.tuple
    obtain ⟨c, ws, rfl, h3, h4⟩ := hy.tuple
    cases h2
    refine .inr (.inl ⟨a, c, [], ws, rfl, rfl, sqT_mono fh h1, sqT_mono fh h3, .inl rfl, ?_⟩)
    rw [show (([] : List V).isEmpty && ws.isEmpty) = ws.isEmpty by rw [List.isEmpty_nil, Bool.true_and], h4.empty]
    exact k _ _ _ (Ext.refl fh) (.bl _)
  · split at hb
    · rename_i hs
      cases hb
      exact .inr (.inr ⟨_, _, (hx.dv fh).dp (SeqAt.canLay_of_shaped hs.1), (hy.dv fh).dp (SeqAt.canLay_of_shaped hs.2), hs.1, hs.2, k _ _ _ (Ext.refl fh) (.bl _)⟩)
    · cases hb
theorem ops_ne : OpS K (rNeA K) neDD := by
  intro F H x y d e z Q fh hx hy hf k
  unfold neDD at hf
  split at hf
  · cases hf
    cases hx.str
    cases hy.str
    refine .inl ⟨rfl, ?_⟩
    rw [dec_strs]
    exact k _ _ _ (Ext.refl fh) (.bl _)
  · split at hf
    · rename_i hs
      cases hf
      exact .inr ⟨_, _, (hx.dv fh).dp (SeqAt.canLay_of_shaped hs.1), (hy.dv fh).dp (SeqAt.canLay_of_shaped hs.2), hs.1, hs.2, k _ _ _ (Ext.refl fh) (.bl _)⟩
    · cases hf
theorem one_sign {a : Str} (h : a.cps.size = 1) : a = ⟨#[a.cps.getD 0 0]⟩ := by
  obtain ⟨⟨l⟩⟩ := a
  have h' : l.length = 1 := h
  match l, h' with
  | [c], _ => rfl
theorem ops_in : OpS K rInS inD := by
  intro F H x y d e z Q fh hx hy hf k
  unfold inD at hf
  split at hf
  · split at hf
    · rename_i hs
      cases hf
      exact ⟨_, _, hx.str.trans (congrArg V.str (one_sign hs)), hy.str, k _ _ _ (Ext.refl fh) (.bl _)⟩
    · cases hf
  · cases hf
theorem dx_non {F H : Hp} {x : V} {d : PyData} (hx : DX K F H x d) : decide (x = V.non) = isNo d := by
  rcases hx with h | ⟨a, vs, ds', rfl, rfl, h3, h4⟩
  · cases h <;> rfl
  · rfl
end
end VL
namespace VL
open PySem PySem.Spec PyProof.Rows L2
variable [LT]
def SndE (K : PySem.W.Frag) (t : TE) (m : ME) : Prop :=
  ∀ (P F0 : Hp) (qc : Nat → Addr) (F : Hp) (cell : Nat → Addr) (S : Sl) (σ : L2.St) (H : Hp) (Q : VK) (r : SV) (S' : Sl), RC K P F0 qc F cell S σ H → m S = some (r, S') →
    (∀ v F' H', Same F F' → RC K P F0 qc F' cell S' σ H' → VR K F' cell r v → Q v H') → t σ H Q
def SndT (K : PySem.W.Frag) (t : TT) (m : MT) : Prop :=
  ∀ (P F0 : Hp) (qc : Nat → Addr) (F : Hp) (cell : Nat → Addr) (S : Sl) (σ : L2.St) (H : Hp) (Q : Bool → Hp → Prop) (r : Bool) (S' : Sl), RC K P F0 qc F cell S σ H → m S = some (r, S') →
    (∀ F' H', Same F F' → RC K P F0 qc F' cell S' σ H' → Q r H') → t σ H Q
def VRs (K : PySem.W.Frag) (F : Hp) (cell : Nat → Addr) : List SV → List V → Prop
  | [], vs => vs = []
  | r :: rs, vs => ∃ v ws, vs = v :: ws ∧ VR K F cell r v ∧ VRs K F cell rs ws
theorem VRs.mono {K : PySem.W.Frag} {F F' : Hp} {cell : Nat → Addr} (e : Same F F') : ∀ {rs : List SV} {vs : List V}, VRs K F cell rs vs → VRs K F' cell rs vs
  | [], _, h => h
  | _ :: _, _, ⟨v, ws, h1, h2, h3⟩ => ⟨v, ws, h1, h2.mono e, VRs.mono e h3⟩
theorem VRs.length {K : PySem.W.Frag} {F : Hp} {cell : Nat → Addr} : ∀ {rs : List SV} {vs : List V}, VRs K F cell rs vs → vs.length = rs.length
  | [], _, h => by rw [show _ = [] from h]; rfl
  | _ :: _, _, ⟨v, ws, h1, h2, h3⟩ => by rw [h1, List.length_cons, List.length_cons, VRs.length h3]
def SndA (K : PySem.W.Frag) (t : TA) (m : MA) : Prop :=
  ∀ (P F0 : Hp) (qc : Nat → Addr) (F : Hp) (cell : Nat → Addr) (S : Sl) (σ : L2.St) (H : Hp) (Q : List V → Hp → Prop) (rs : List SV) (S' : Sl), RC K P F0 qc F cell S σ H → m S = some (rs, S') →
    (∀ vs F' H', Same F F' → RC K P F0 qc F' cell S' σ H' → VRs K F' cell rs vs → Q vs H') → t σ H Q
structure JE (X : Cx) (e : Expr) (m : ME) : Prop where
  ex : ∃ t, PE X e t ∧ SndE X.K t m
structure JT (X : Cx) (e : Expr) (m : MT) : Prop where
  ex : ∃ t, PT X e t ∧ SndT X.K t m
structure JW (X : Cx) (e : Expr) (m : MT) : Prop where
  ex : ∃ t, PW X e t ∧ SndT X.K t m
structure JA (X : Cx) (es : List Expr) (m : MA) : Prop where
  ex : ∃ t, PA X es t ∧ SndA X.K t m
def mVar (i : Nat) : ME := fun S => match S[i]? with
  | some (some (.v d)) => some (.v d, S)
  | some (some (.c _)) => some (.p i, S)
  | some (some (.q _)) => some (.p i, S)
  | some (some (.s ns)) => some (.s ns, S)
  | _ => none
def mC (d : PyData) : ME := fun S => some (.v d, S)
def mBin (f : PyData → PyData → Option PyData) (ma mb : ME) : ME := fun S =>
  match ma S with
  | none => none
  | some (r1, S1) => match mb S1 with
    | none => none
    | some (r2, S2) => match deref S2 r1, deref S2 r2 with
      | some d, some e => match f d e with
        | some z => some (.v z, S2)
        | none => none
      | _, _ => none
def mUn (f : PyData → Option PyData) (ma : ME) : ME := fun S =>
  match ma S with
  | none => none
  | some (r1, S1) => match deref S1 r1 with
    | some d => match f d with
      | some z => some (.v z, S1)
      | none => none
    | none => none
def mAnd (ma mb : ME) : ME := fun S =>
  match ma S with
  | some (.v (.bool true), S1) => mb S1
  | some (.v (.bool false), S1) => some (.v (.bool false), S1)
  | _ => none
def mOr (ma mb : ME) : ME := fun S =>
  match ma S with
  | some (.v (.bool true), S1) => some (.v (.bool true), S1)
  | some (.v (.bool false), S1) => mb S1
  | _ => none
def mNot (ma : ME) : ME := fun S =>
  match ma S with
  | some (.v (.bool b), S1) => some (.v (.bool (!b)), S1)
  | _ => none
def mIf (mt : MT) (ma mb : ME) : ME := fun S =>
  match mt S with
  | some (true, S1) => ma S1
  | some (false, S1) => mb S1
  | none => none
def mChain (f g : PyData → PyData → Option PyData) (ma mb mc : ME) : ME := fun S =>
  match ma S with
  | none => none
  | some (r1, S1) => match mb S1 with
    | none => none
    | some (r2, S2) => match deref S2 r1, stable r2 with
      | some d, some e => match f d e with
        | some (.bool true) => match mc S2 with
          | some (r3, S3) => match deref S3 r3 with
            | some h => match g e h with
              | some (.bool b) => some (.v (.bool b), S3)
              | _ => none
            | none => none
          | none => none
        | some (.bool false) => some (.v (.bool false), S2)
        | _ => none
      | _, _ => none
def tVal (ma : ME) : MT := fun S =>
  match ma S with
  | some (.v (.bool b), S1) => some (b, S1)
  | _ => none
def tAndM (ma mb : MT) : MT := fun S =>
  match ma S with
  | some (true, S1) => mb S1
  | some (false, S1) => some (false, S1)
  | none => none
def tOrM (ma mb : MT) : MT := fun S =>
  match ma S with
  | some (true, S1) => some (true, S1)
  | some (false, S1) => mb S1
  | none => none
def tNotM (ma : MT) : MT := fun S =>
  match ma S with
  | some (b, S1) => some (!b, S1)
  | none => none
def aNil : MA := fun S => some ([], S)
def aCons (me : ME) (ma : MA) : MA := fun S =>
  match me S with
  | none => none
  | some (r, S1) => match ma S1 with
    | none => none
    | some (rs, S2) => some (r :: rs, S2)
section
variable {X : Cx} {e a b c : Expr} {es rest : List Expr} {ma mb mc : ME} {mt mu : MT} {mas : MA} {pos : Pos} {x : Str}
theorem je_var (i : Nat) (hN : X.N[i]? = some x := by rfl) (hv : Vis X.env.scope x := by first | exact Or.inl rfl | exact Or.inr (Or.inl rfl) | exact Or.inr (Or.inr rfl)) (hd : (x == ("__debug__" : Str)) = false := by decide)
    (hcd : (x == ("__classdict__" : Str)) = false := by decide) : JE X (.Name x pos) (mVar i) := by
  refine ⟨_, pe_var hN hv hd hcd, fun P F0 qc F cell S σ H Q r S' R hm k => ?_⟩
  unfold mVar at hm
  split at hm
  · rename_i d hs
    cases hm
    obtain ⟨v, h1, h2⟩ := R.vl i d hs
    exact ⟨v, h1, k v F H (Same.refl _) R h2⟩
  · rename_i xs hs
    cases hm
    obtain ⟨h1, _⟩ := R.cl i _ xs hs rfl
    exact ⟨_, h1, k _ F H (Same.refl _) R rfl⟩
  · rename_i xs hs
    cases hm
    obtain ⟨h1, _⟩ := R.cl i _ xs hs rfl
    exact ⟨_, h1, k _ F H (Same.refl _) R rfl⟩
  · rename_i ns hs
    cases hm
    obtain ⟨a, h1, h2⟩ := R.sc i ns hs
    exact ⟨_, h1, k _ F H (Same.refl _) R h2⟩
  · cases hm
theorem snd_c {K : PySem.W.Frag} {v : V} {d : PyData} (h : ∀ F, DV K F v d) : SndE K (tC v) (mC d) := fun P F0 qc F cell S σ H Q r S' R hm k => by
  cases hm
  exact k v F H (Same.refl _) R (h F)
theorem je_int {i : Int} {j} : JE X (.Constant (.int i) j pos) (mC (.int i)) := ⟨_, pe_int, snd_c fun _ => .int i⟩
theorem je_bl {i : Bool} {j} : JE X (.Constant (.bool i) j pos) (mC (.bool i)) := ⟨_, pe_bl, snd_c fun _ => .bl i⟩
theorem je_non {j} : JE X (.Constant .none j pos) (mC .none) := ⟨_, pe_non, snd_c fun _ => .non⟩
theorem je_str {z : Str} {j} : JE X (.Constant (.str z) j pos) (mC (.str z)) := ⟨_, pe_str, snd_c fun _ => .str z⟩
theorem je_gstr {z : Str} {t : Tok} (hm : X.mg x = some (.str z t)) (hg : Gl X x := by rfl) (hd : (x == ("__debug__" : Str)) = false := by decide) : JE X (.Name x pos) (mC (.str z)) := ⟨_, pe_glob (v := .str z) hg hm ⟨t, rfl⟩ hd, snd_c fun _ => .str z⟩
theorem snd_bin {K : PySem.W.Frag} {r : R2} {f : PyData → PyData → Option PyData} {ta tb : TE} (hs : OpS K r f) (ha : SndE K ta ma) (hb : SndE K tb mb) : SndE K (tOp r ta tb) (mBin f ma mb) := by
  intro P F0 qc F cell S σ H Q z S' R hm k
  unfold mBin at hm
  split at hm
  · cases hm
  · rename_i r1 S1 e1
    split at hm
    · cases hm
    · rename_i r2 S2 e2
      split at hm
      · rename_i d e hd he
        split at hm
        · rename_i z' hz
          cases hm
          refine ha P F0 qc F cell S σ H _ r1 S1 R e1 fun v1 F1 H1 s1 R1 q1 => ?_
          refine hb P F0 qc F1 cell S1 σ H1 _ r2 S' R1 e2 fun v2 F2 H2 s2 R2 q2 => ?_
          refine hs F2 H2 v1 v2 d e z' Q R2.fh (R2.deref (q1.mono s2) hd) (R2.deref q2 he) hz fun v F' H' ex dv => ?_
          exact k v F' H' ((s1.trans s2).trans ex.f) (R2.ext ex) dv
        · cases hm
      · cases hm
theorem je_bin {op : Operator} {r : R2} {f : PyData → PyData → Option PyData} (ho : OpR X (binaryOp op) r) (hs : OpS X.K r f) (ha : JE X a ma) (hb : JE X b mb) : JE X (.BinOp a op b pos) (mBin f ma mb) := by
  obtain ⟨ta, pa, sa⟩ := ha.ex
  obtain ⟨tb, pb, sb⟩ := hb.ex
  exact ⟨_, pe_op ho pa pb, snd_bin hs sa sb⟩
theorem je_add (ha : JE X a ma) (hb : JE X b mb) : JE X (.BinOp a .Add b pos) (mBin addD ma mb) := je_bin op_addA ops_add ha hb
theorem je_sub (ha : JE X a ma) (hb : JE X b mb) : JE X (.BinOp a .Sub b pos) (mBin subD ma mb) := je_bin op_sub ops_sub ha hb
theorem je_mul (ha : JE X a ma) (hb : JE X b mb) : JE X (.BinOp a .Mult b pos) (mBin mulD ma mb) := je_bin op_mulA ops_mul ha hb
theorem je_fdiv (ha : JE X a ma) (hb : JE X b mb) : JE X (.BinOp a .FloorDiv b pos) (mBin fdivD ma mb) := je_bin op_fdiv ops_fdiv ha hb
theorem je_mod (ha : JE X a ma) (hb : JE X b mb) : JE X (.BinOp a .Mod b pos) (mBin modD ma mb) := je_bin op_mod ops_mod ha hb
theorem je_pow (ha : JE X a ma) (hb : JE X b mb) : JE X (.BinOp a .Pow b pos) (mBin powD ma mb) := je_bin op_powW ops_pow ha hb
theorem je_cmp {op : CmpOp} {r : R2} {f : PyData → PyData → Option PyData} (ho : OpR X (compareOp op) r) (hs : OpS X.K r f) (hm : behindInMarks op b = false) (ha : JE X a ma) (hb : JE X b mb) : JE X (.Compare a [op] [b] pos) (mBin f ma mb) := by
  obtain ⟨ta, pa, sa⟩ := ha.ex
  obtain ⟨tb, pb, sb⟩ := hb.ex
  exact ⟨_, pe_cmpR ho pa pb hm, snd_bin hs sa sb⟩
theorem je_ge (ha : JE X a ma) (hb : JE X b mb) : JE X (.Compare a [.GtE] [b] pos) (mBin geD ma mb) := je_cmp op_geA ops_ge (nomark _) ha hb
theorem je_eq {k : Nat} (hr : Room k X.A) (ha : JE X a ma) (hb : JE X b mb) : JE X (.Compare a [.Eq] [b] pos) (mBin eqDD ma mb) := je_cmp (op_eqA hr.units) ops_eq (nomark _) ha hb
theorem je_ne {k : Nat} (hr : Room k X.A) (ha : JE X a ma) (hb : JE X b mb) : JE X (.Compare a [.NotEq] [b] pos) (mBin neDD ma mb) := je_cmp (op_neA hr.units) ops_ne (nomark _) ha hb
theorem snd_chain {K : PySem.W.Frag} {r r' : R2} {f g : PyData → PyData → Option PyData} {ta tb tc : TE} (hs : OpS K r f) (hs' : OpS K r' g) (sa : SndE K ta ma) (sb : SndE K tb mb) (sc : SndE K tc mc) : SndE K (tChain r r' ta tb tc) (mChain f g ma mb mc) := by
  intro P F0 qc F cell S σ H Q z S' R hm k
  unfold mChain at hm
  split at hm
  · cases hm
  · rename_i r1 S1 e1
    split at hm
    · cases hm
    · rename_i r2 S2 e2
      split at hm
      · rename_i d e hd he
        have q2' : r2 = .v e := by
          cases r2 with
          | v d' => cases he; rfl
          | p i => cases he
          | s ns => cases he
        subst q2'
        refine sa P F0 qc F cell S σ H _ r1 S1 R e1 fun v1 F1 H1 s1 R1 q1 => ?_
        refine sb P F0 qc F1 cell S1 σ H1 _ _ S2 R1 e2 fun v2 F2 H2 s2 R2 q2 => ?_
        split at hm
        · rename_i hz
          split at hm
          · rename_i r3 S3 e3
            split at hm
            · rename_i h hh
              split at hm
              · rename_i bb hg
                cases hm
                refine hs F2 H2 v1 v2 d e _ _ R2.fh (R2.deref (q1.mono s2) hd) (.inl q2) hz fun v F' H' ex dv => ?_
                cases dv
                refine ⟨true, rfl, ?_⟩
                rw [if_pos rfl]
                refine sc P F0 qc F' cell S2 σ H' _ r3 S' (R2.ext ex) e3 fun v3 F3 H3 s3 R3 q3 => ?_
                refine hs' F3 H3 v2 v3 e h _ _ R3.fh (.inl (DV.mono s3 (DV.mono ex.f q2))) (R3.deref q3 hh) hg fun v F4 H4 ex4 dv4 => ?_
                exact k v F4 H4 (((s1.trans s2).trans ex.f).trans (s3.trans ex4.f)) (R3.ext ex4) dv4
              · cases hm
            · cases hm
          · cases hm
        · rename_i hz
          cases hm
          refine hs F2 H2 v1 v2 d e _ _ R2.fh (R2.deref (q1.mono s2) hd) (.inl q2) hz fun v F' H' ex dv => ?_
          cases dv
          refine ⟨false, rfl, ?_⟩
          rw [if_neg Bool.false_ne_true]
          exact k _ F' H' ((s1.trans s2).trans ex.f) (R2.ext ex) (.bl false)
        · cases hm
      · cases hm
theorem je_chain {op op' : CmpOp} {r r' : R2} {f g : PyData → PyData → Option PyData} (ho : OpR X (compareOp op) r) (hs : OpS X.K r f) (ho' : OpR X (compareOp op') r') (hs' : OpS X.K r' g) (ha : JE X a ma) (hb : JE X b mb) (hc : JE X c mc)
    (hl : lastMarks [op, op'] [b, c] = false := by rfl) : JE X (.Compare a [op, op'] [b, c] pos) (mChain f g ma mb mc) := by
  obtain ⟨ta, pa, sa⟩ := ha.ex
  obtain ⟨tb, pb, sb⟩ := hb.ex
  obtain ⟨tc, pc, sc⟩ := hc.ex
  exact ⟨_, pe_chain ho ho' pa pb pc hl, snd_chain hs hs' sa sb sc⟩
theorem je_one {op} (ha : JE X a ma) : JE X (.BoolOp op [a] pos) ma := by
  obtain ⟨ta, pa, sa⟩ := ha.ex
  exact ⟨_, pe_one pa, sa⟩
theorem je_and (ha : JE X a ma) (hb : JE X (.BoolOp .And (b :: rest) pos) mb) : JE X (.BoolOp .And (a :: b :: rest) pos) (mAnd ma mb) := by
  obtain ⟨ta, pa, sa⟩ := ha.ex
  obtain ⟨tb, pb, sb⟩ := hb.ex
  refine ⟨_, pe_and pa pb, fun P F0 qc F cell S σ H Q z S' R hm k => ?_⟩
  unfold mAnd at hm
  split at hm
  · rename_i S1 e1
    refine sa P F0 qc F cell S σ H _ _ S1 R e1 fun v1 F1 H1 s1 R1 q1 => ?_
    cases (show DV X.K F1 v1 (.bool true) from q1)
    refine ⟨true, rfl, ?_⟩
    rw [if_pos rfl]
    exact sb P F0 qc F1 cell S1 σ H1 Q z S' R1 hm fun v F' H' s2 R2 q2 => k v F' H' (s1.trans s2) R2 q2
  · rename_i S1 e1
    cases hm
    refine sa P F0 qc F cell S σ H _ _ S' R e1 fun v1 F1 H1 s1 R1 q1 => ?_
    cases (show DV X.K F1 v1 (.bool false) from q1)
    refine ⟨false, rfl, ?_⟩
    rw [if_neg Bool.false_ne_true]
    exact k _ F1 H1 s1 R1 (.bl false)
  · cases hm
theorem je_or (ha : JE X a ma) (hb : JE X (.BoolOp .Or (b :: rest) pos) mb) : JE X (.BoolOp .Or (a :: b :: rest) pos) (mOr ma mb) := by
  obtain ⟨ta, pa, sa⟩ := ha.ex
  obtain ⟨tb, pb, sb⟩ := hb.ex
  refine ⟨_, pe_or pa pb, fun P F0 qc F cell S σ H Q z S' R hm k => ?_⟩
  unfold mOr at hm
  split at hm
  · rename_i S1 e1
    cases hm
    refine sa P F0 qc F cell S σ H _ _ S' R e1 fun v1 F1 H1 s1 R1 q1 => ?_
    cases (show DV X.K F1 v1 (.bool true) from q1)
    refine ⟨true, rfl, ?_⟩
    rw [if_pos rfl]
    exact k _ F1 H1 s1 R1 (.bl true)
  · rename_i S1 e1
    refine sa P F0 qc F cell S σ H _ _ S1 R e1 fun v1 F1 H1 s1 R1 q1 => ?_
    cases (show DV X.K F1 v1 (.bool false) from q1)
    refine ⟨false, rfl, ?_⟩
    rw [if_neg Bool.false_ne_true]
    exact sb P F0 qc F1 cell S1 σ H1 Q z S' R1 hm fun v F' H' s2 R2 q2 => k v F' H' (s1.trans s2) R2 q2
  · cases hm
theorem je_not (ha : JE X a ma) : JE X (.UnaryOp .Not a pos) (mNot ma) := by
  obtain ⟨ta, pa, sa⟩ := ha.ex
  refine ⟨_, pe_not pa, fun P F0 qc F cell S σ H Q z S' R hm k => ?_⟩
  unfold mNot at hm
  split at hm
  · rename_i bb S1 e1
    cases hm
    refine sa P F0 qc F cell S σ H _ _ S' R e1 fun v1 F1 H1 s1 R1 q1 => ?_
    cases (show DV X.K F1 v1 (.bool bb) from q1)
    exact ⟨bb, rfl, k _ F1 H1 s1 R1 (.bl _)⟩
  · cases hm
def negD : PyData → Option PyData
  | .int i => some (.int (-i))
  | _ => none
theorem je_neg (ha : JE X a ma) : JE X (.UnaryOp .USub a pos) (mUn negD ma) := by
  obtain ⟨ta, pa, sa⟩ := ha.ex
  refine ⟨_, pe_un un_neg pa, fun P F0 qc F cell S σ H Q z S' R hm k => ?_⟩
  unfold mUn at hm
  split at hm
  · cases hm
  · rename_i r1 S1 e1
    split at hm
    · rename_i d hd
      split at hm
      · rename_i z' hz
        cases hm
        unfold negD at hz
        split at hz
        · cases hz
          refine sa P F0 qc F cell S σ H _ r1 S' R e1 fun v1 F1 H1 s1 R1 q1 => ?_
          exact ⟨_, (R1.deref q1 hd).int, k _ F1 H1 s1 R1 (.int _)⟩
        · cases hz
      · cases hm
    · cases hm
theorem je_if (hc : JT X c mt) (ha : JE X a ma) (hb : JE X b mb) : JE X (.IfExp c a b pos) (mIf mt ma mb) := by
  obtain ⟨tc, pc, sc⟩ := hc.ex
  obtain ⟨ta, pa, sa⟩ := ha.ex
  obtain ⟨tb, pb, sb⟩ := hb.ex
  refine ⟨_, pe_ifExp pc pa pb, fun P F0 qc F cell S σ H Q z S' R hm k => ?_⟩
  unfold mIf at hm
  split at hm
  · rename_i S1 e1
    refine sc P F0 qc F cell S σ H _ _ S1 R e1 fun F1 H1 s1 R1 => ?_
    rw [if_pos rfl]
    exact sa P F0 qc F1 cell S1 σ H1 Q z S' R1 hm fun v F' H' s2 R2 q2 => k v F' H' (s1.trans s2) R2 q2
  · rename_i S1 e1
    refine sc P F0 qc F cell S σ H _ _ S1 R e1 fun F1 H1 s1 R1 => ?_
    rw [if_neg Bool.false_ne_true]
    exact sb P F0 qc F1 cell S1 σ H1 Q z S' R1 hm fun v F' H' s2 R2 q2 => k v F' H' (s1.trans s2) R2 q2
  · cases hm
theorem snd_tval {K : PySem.W.Frag} {ta : TE} (sa : SndE K ta ma) : SndT K (tB ta) (tVal ma) := by
  intro P F0 qc F cell S σ H Q z S' R hm k
  unfold tVal at hm
  split at hm
  · rename_i bb S1 e1
    cases hm
    refine sa P F0 qc F cell S σ H _ _ S' R e1 fun v1 F1 H1 s1 R1 q1 => ?_
    cases (show DV K F1 v1 (.bool z) from q1)
    exact ⟨z, rfl, k F1 H1 s1 R1⟩
  · cases hm
theorem jt_val (ha : JE X a ma) (he : ∀ whole, isTrue a X.env whole = (do let v ← whole; standAt a.pos; holding [v] (truthy v)) := by intro _; rfl) : JT X a (tVal ma) := by
  obtain ⟨ta, pa, sa⟩ := ha.ex
  exact ⟨_, pt_val pa he, snd_tval sa⟩
theorem snd_tcmp {K : PySem.W.Frag} {t : TE} (sa : SndE K t ma) : SndT K (tTest t) (tVal ma) := by
  intro P F0 qc F cell S σ H Q z S' R hm k
  unfold tVal at hm
  split at hm
  · rename_i bb S1 e1
    cases hm
    refine sa P F0 qc F cell S σ H _ _ S' R e1 fun v1 F1 H1 s1 R1 q1 => ?_
    cases (show DV K F1 v1 (.bool z) from q1)
    exact ⟨z, rfl, k F1 H1 s1 R1⟩
  · cases hm
theorem jt_cmp {op : CmpOp} {r : R2} {f : PyData → PyData → Option PyData} (ho : OpR X (compareOp op) r) (hs : OpS X.K r f) (hm : behindInMarks op b = false) (ha : JE X a ma) (hb : JE X b mb) : JT X (.Compare a [op] [b] pos) (tVal (mBin f ma mb)) := by
  obtain ⟨ta, pa, sa⟩ := ha.ex
  obtain ⟨tb, pb, sb⟩ := hb.ex
  exact ⟨_, pt_cmpR ho pa pb hm, snd_tcmp (snd_bin hs sa sb)⟩
theorem jt_chain {op op' : CmpOp} {r r' : R2} {f g : PyData → PyData → Option PyData} (ho : OpR X (compareOp op) r) (hs : OpS X.K r f) (ho' : OpR X (compareOp op') r') (hs' : OpS X.K r' g) (ha : JE X a ma) (hb : JE X b mb) (hc : JE X c mc)
    (hl : lastMarks [op, op'] [b, c] = false := by rfl) : JT X (.Compare a [op, op'] [b, c] pos) (tVal (mChain f g ma mb mc)) := by
  obtain ⟨ta, pa, sa⟩ := ha.ex
  obtain ⟨tb, pb, sb⟩ := hb.ex
  obtain ⟨tc, pc, sc⟩ := hc.ex
  exact ⟨_, pt_chain ho ho' pa pb pc hl, snd_tcmp (snd_chain hs hs' sa sb sc)⟩
theorem jt_lt (ha : JE X a ma) (hb : JE X b mb) : JT X (.Compare a [.Lt] [b] pos) (tVal (mBin ltD ma mb)) := jt_cmp op_ltA ops_lt (nomark _) ha hb
theorem jt_gt (ha : JE X a ma) (hb : JE X b mb) : JT X (.Compare a [.Gt] [b] pos) (tVal (mBin gtD ma mb)) := jt_cmp op_gtA ops_gt (nomark _) ha hb
theorem jt_eq {k : Nat} (hr : Room k X.A) (ha : JE X a ma) (hb : JE X b mb) : JT X (.Compare a [.Eq] [b] pos) (tVal (mBin eqDD ma mb)) := jt_cmp (op_eqA hr.units) ops_eq (nomark _) ha hb
theorem jt_ne {k : Nat} (hr : Room k X.A) (ha : JE X a ma) (hb : JE X b mb) : JT X (.Compare a [.NotEq] [b] pos) (tVal (mBin neDD ma mb)) := jt_cmp (op_neA hr.units) ops_ne (nomark _) ha hb
theorem snd_and {K : PySem.W.Frag} {ta tb : TT} (sa : SndT K ta mt) (sb : SndT K tb mu) : SndT K (tAnd ta tb) (tAndM mt mu) := by
  intro P F0 qc F cell S σ H Q z S' R hm k
  unfold tAndM at hm
  split at hm
  · rename_i S1 e1
    refine sa P F0 qc F cell S σ H _ _ S1 R e1 fun F1 H1 s1 R1 => ?_
    rw [if_pos rfl]
    exact sb P F0 qc F1 cell S1 σ H1 Q z S' R1 hm fun F' H' s2 R2 => k F' H' (s1.trans s2) R2
  · rename_i S1 e1
    cases hm
    refine sa P F0 qc F cell S σ H _ _ S' R e1 fun F1 H1 s1 R1 => ?_
    rw [if_neg Bool.false_ne_true]
    exact k F1 H1 s1 R1
  · cases hm
theorem snd_or {K : PySem.W.Frag} {ta tb : TT} (sa : SndT K ta mt) (sb : SndT K tb mu) : SndT K (tOr ta tb) (tOrM mt mu) := by
  intro P F0 qc F cell S σ H Q z S' R hm k
  unfold tOrM at hm
  split at hm
  · rename_i S1 e1
    cases hm
    refine sa P F0 qc F cell S σ H _ _ S' R e1 fun F1 H1 s1 R1 => ?_
    rw [if_pos rfl]
    exact k F1 H1 s1 R1
  · rename_i S1 e1
    refine sa P F0 qc F cell S σ H _ _ S1 R e1 fun F1 H1 s1 R1 => ?_
    rw [if_neg Bool.false_ne_true]
    exact sb P F0 qc F1 cell S1 σ H1 Q z S' R1 hm fun F' H' s2 R2 => k F' H' (s1.trans s2) R2
  · cases hm
theorem jw_and1 (ha : JT X a mt) : JW X (.BoolOp .And [a] pos) mt := by
  obtain ⟨ta, pa, sa⟩ := ha.ex
  exact ⟨_, pw_and1 pa, sa⟩
theorem jw_or1 (ha : JT X a mt) : JW X (.BoolOp .Or [a] pos) mt := by
  obtain ⟨ta, pa, sa⟩ := ha.ex
  exact ⟨_, pw_or1 pa, sa⟩
theorem jw_and (ha : JT X a mt) (hb : JW X (.BoolOp .And (b :: rest) pos) mu) : JW X (.BoolOp .And (a :: b :: rest) pos) (tAndM mt mu) := by
  obtain ⟨ta, pa, sa⟩ := ha.ex
  obtain ⟨tb, pb, sb⟩ := hb.ex
  exact ⟨_, pw_and pa pb, snd_and sa sb⟩
theorem jw_or (ha : JT X a mt) (hb : JW X (.BoolOp .Or (b :: rest) pos) mu) : JW X (.BoolOp .Or (a :: b :: rest) pos) (tOrM mt mu) := by
  obtain ⟨ta, pa, sa⟩ := ha.ex
  obtain ⟨tb, pb, sb⟩ := hb.ex
  exact ⟨_, pw_or pa pb, snd_or sa sb⟩
theorem JW.jt (h : JW X a mt) : JT X a mt := by
  obtain ⟨t, p, s⟩ := h.ex
  exact ⟨t, p.pt, s⟩
theorem jt_not (ha : JT X a mt) : JT X (.UnaryOp .Not a pos) (tNotM mt) := by
  obtain ⟨ta, pa, sa⟩ := ha.ex
  refine ⟨_, pt_not pa, fun P F0 qc F cell S σ H Q z S' R hm k => ?_⟩
  unfold tNotM at hm
  split at hm
  · rename_i bb S1 e1
    cases hm
    exact sa P F0 qc F cell S σ H _ _ S' R e1 fun F1 H1 s1 R1 => k F1 H1 s1 R1
  · cases hm
theorem ja_nil : JA X [] aNil := ⟨_, pa_nil, fun P F0 qc F cell S σ H Q rs S' R hm k => by
  cases hm
  exact k [] F H (Same.refl _) R rfl⟩
theorem ja_cons (ha : JE X e ma) (hr : JA X es mas) (hs : starEach (e :: es) X.env = (false, eval e X.env) :: starEach es X.env := by rfl) : JA X (e :: es) (aCons ma mas) := by
  obtain ⟨ta, pa, sa⟩ := ha.ex
  obtain ⟨tr, pr, sr⟩ := hr.ex
  refine ⟨_, pa_cons pa pr hs, fun P F0 qc F cell S σ H Q rs S' R hm k => ?_⟩
  unfold aCons at hm
  split at hm
  · cases hm
  · rename_i r S1 e1
    split at hm
    · cases hm
    · rename_i rs' S2 e2
      cases hm
      refine sa P F0 qc F cell S σ H _ r S1 R e1 fun v1 F1 H1 s1 R1 q1 => ?_
      exact sr P F0 qc F1 cell S1 σ H1 _ rs' S' R1 e2 fun vs F2 H2 s2 R2 q2 => k _ F2 H2 (s1.trans s2) R2 ⟨v1, vs, rfl, q1.mono s2, q2⟩
end
def stables : List SV → Option (List PyData)
  | [] => some []
  | r :: rs => match stable r, stables rs with
    | some d, some ds => some (d :: ds)
    | _, _ => none
def derefs (S : Sl) : List SV → Option (List PyData)
  | [] => some []
  | r :: rs => match deref S r, derefs S rs with
    | some d, some ds => some (d :: ds)
    | _, _ => none
def DXs (K : PySem.W.Frag) (F H : Hp) : List V → List PyData → Prop
  | vs, [] => vs = []
  | vs, d :: ds => ∃ v ws, vs = v :: ws ∧ DX K F H v d ∧ DXs K F H ws ds
theorem VRs.stable {K : PySem.W.Frag} {F : Hp} {cell : Nat → Addr} : ∀ {rs : List SV} {vs : List V} {ds : List PyData}, VRs K F cell rs vs → stables rs = some ds → DVs K F vs ds
  | [], _, _, h, e => by
    cases e
    rw [show _ = [] from h]
    exact .nil
  | r :: rs, _, ds, ⟨v, ws, h1, h2, h3⟩, e => by
    unfold stables at e
    split at e
    · rename_i d ds' e1 e2
      cases e
      subst h1
      refine .cons ?_ (VRs.stable h3 e2)
      cases r with
      | v d' => cases e1; exact h2
      | p i => cases e1
      | s ns => cases e1
    · cases e
section
variable {K : PySem.W.Frag} {P F0 F F' : Hp} {qc cell : Nat → Addr} {S : Sl} {σ : L2.St} {H H' : Hp}
theorem RC.derefs (R : RC K P F0 qc F cell S σ H) : ∀ {rs : List SV} {vs : List V} {ds : List PyData}, VRs K F cell rs vs → VL.derefs S rs = some ds → DXs K F H vs ds
  | [], _, _, h, e => by
    cases e
    exact h
  | r :: rs, _, ds, ⟨v, ws, h1, h2, h3⟩, e => by
    unfold VL.derefs at e
    split at e
    · rename_i d ds' e1 e2
      cases e
      exact ⟨v, ws, h1, R.deref h2 e1, RC.derefs R h3 e2⟩
    · cases e
end
def mTup (ma : MA) : ME := fun S =>
  match ma S with
  | none => none
  | some (rs, S1) => match stables rs with
    | some ds => if ds.length ≤ 100000 then some (.v (.tuple ds), S1) else none
    | none => none
def mLst (ma : MA) : ME := fun S =>
  match ma S with
  | none => none
  | some (rs, S1) => match stables rs with
    | some ds => if ds.length ≤ 100000 then some (.v (.list ds), S1) else none
    | none => none
section
variable {X : Cx} {e a b c : Expr} {es rest : List Expr} {ma mb mc : ME} {mt mu : MT} {mas : MA} {pos : Pos} {x : Str}
theorem je_tup {j} (h : JA X es mas) : JE X (.Tuple es j pos) (mTup mas) := by
  obtain ⟨ta, pa, sa⟩ := h.ex
  refine ⟨_, pe_tup pa, fun P F0 qc F cell S σ H Q z S' R hm k => ?_⟩
  unfold mTup at hm
  split at hm
  · cases hm
  · rename_i rs S1 e1
    split at hm
    · rename_i ds e2
      split at hm
      · rename_i hl
        cases hm
        refine sa P F0 qc F cell S σ H _ rs S' R e1 fun vs F1 H1 s1 R1 q1 => ?_
        have dv := VRs.stable q1 e2
        refine ⟨by rw [dv.length]; exact small5 hl, fun p hp => ?_⟩
        have ex : Ext F1 H1 (upd F1 p (.tup vs)) (upd H1 p (.tup vs)) := Ext.new R1.fh hp
        exact k _ _ _ (s1.trans ex.f) (R1.ext ex) (.tup (SqT.of upd_same) (dv.mono ex.f))
      · cases hm
    · cases hm
theorem je_lst (h : JA X es mas) : JE X (.List es pos) (mLst mas) := by
  obtain ⟨ta, pa, sa⟩ := h.ex
  refine ⟨_, pe_lst pa, fun P F0 qc F cell S σ H Q z S' R hm k => ?_⟩
  unfold mLst at hm
  split at hm
  · cases hm
  · rename_i rs S1 e1
    split at hm
    · rename_i ds e2
      split at hm
      · rename_i hl
        cases hm
        refine sa P F0 qc F cell S σ H _ rs S' R e1 fun vs F1 H1 s1 R1 q1 => ?_
        have dv := VRs.stable q1 e2
        refine ⟨by rw [dv.length]; exact small5 hl, fun p hp => ?_⟩
        have ex : Ext F1 H1 (upd F1 p (.lst vs)) (upd H1 p (.lst vs)) := Ext.new R1.fh hp
        exact k _ _ _ (s1.trans ex.f) (R1.ext ex) (.lst upd_same (dv.mono ex.f))
      · cases hm
    · cases hm
end
end VL
namespace VL
open PySem PySem.Spec PyProof.Rows L2
variable [LT]
def CS (K : PySem.W.Frag) (r : List V → Hp → VK → Prop) (f : List PyData → Option PyData) : Prop :=
  ∀ (F H : Hp) (xs : List V) (ds : List PyData) (z : PyData) (Q : VK), Same F H → DXs K F H xs ds → f ds = some z → (∀ v F' H', Ext F H F' H' → DV K F' v z → Q v H') → r xs H Q
def mCall (f : List PyData → Option PyData) (ma : MA) : ME := fun S =>
  match ma S with
  | none => none
  | some (rs, S1) => match derefs S1 rs with
    | some ds => match f ds with
      | some z => some (.v z, S1)
      | none => none
    | none => none
section
variable {X : Cx} {e a b c : Expr} {es rest : List Expr} {ma mb mc : ME} {mt mu : MT} {mas : MA} {pos p : Pos} {x : Str} {f : List PyData → Option PyData} {id T : String} {r : List V → Hp → VK → Prop}
theorem snd_call {K : PySem.W.Frag} {ta : TA} (hs : CS K r f) (sa : SndA K ta mas) : SndE K (tCB r ta) (mCall f mas) := by
  intro P F0 qc F cell S σ H Q z S' R hm k
  unfold mCall at hm
  split at hm
  · cases hm
  · rename_i rs S1 e1
    split at hm
    · rename_i ds e2
      split at hm
      · rename_i z' e3
        cases hm
        refine sa P F0 qc F cell S σ H _ rs S' R e1 fun vs F1 H1 s1 R1 q1 => ?_
        refine hs F1 H1 vs ds z' Q R1.fh (R1.derefs q1 e2) e3 fun v F' H' ex dv => ?_
        exact k v F' H' (s1.trans ex.f) (R1.ext ex) dv
      · cases hm
    · cases hm
theorem je_callB (hc : CallR X (.builtin id) r) (hs : CS X.K r f) (hm : X.mg x = none) (hv : bootBuiltins x = some (.builtin id)) (ha : JA X (e :: es) mas) (hg : Gl X x := by rfl) (hn : x ≠ "__name__" := by decide) (hdb : (x == ("__debug__" : Str)) = false := by decide)
    (he : starEach (e :: es) X.env = (false, eval e X.env) :: starEach es X.env := by rfl) (hpl : (backTo pos (starEach es X.env)).any (·.1) = false := by rfl) : JE X (.Call (.Name x p) (e :: es) [] pos) (mCall f mas) := by
  obtain ⟨ta, pa, sa⟩ := ha.ex
  exact ⟨_, pe_callB hc hg hm hv pa hn hdb he hpl, snd_call hs sa⟩
theorem je_callT (hc : CallR X (.type T) r) (hs : CS X.K r f) (hm : X.mg x = none) (hv : bootBuiltins x = some (.type T)) (ha : JA X (e :: es) mas) (hg : Gl X x := by rfl) (hn : x ≠ "__name__" := by decide) (hdb : (x == ("__debug__" : Str)) = false := by decide)
    (he : starEach (e :: es) X.env = (false, eval e X.env) :: starEach es X.env := by rfl) (hpl : (backTo pos (starEach es X.env)).any (·.1) = false := by rfl) : JE X (.Call (.Name x p) (e :: es) [] pos) (mCall f mas) := by
  obtain ⟨ta, pa, sa⟩ := ha.ex
  exact ⟨_, pe_callTy hc hg hm hv pa hn hdb he hpl, snd_call hs sa⟩
end
def lenF : List PyData → Option PyData
  | [.str a] => if a.length ≤ 100000 then some (.int a.length) else none
  | [.list xs] => some (.int xs.length)
  | [.tuple xs] => some (.int xs.length)
  | _ => none
def absF : List PyData → Option PyData
  | [.int i] => some (.int (if i < 0 then -i else i))
  | _ => none
def intF : List PyData → Option PyData
  | [.int i] => some (.int i)
  | [.bool k] => some (.int (if k = true then 1 else 0))
  | _ => none
def max2F : List PyData → Option PyData
  | [.int i, .int j] => some (.int (if j > i then j else i))
  | _ => none
def min2F : List PyData → Option PyData
  | [.int i, .int j] => some (.int (if j < i then j else i))
  | _ => none
def boolsOf : List PyData → Option (List Bool)
  | [] => some []
  | .bool b :: ds => (boolsOf ds).map (b :: ·)
  | _ :: _ => none
def strsOf : List PyData → Option (List Str)
  | [] => some []
  | .str b :: ds => (strsOf ds).map (b :: ·)
  | _ :: _ => none
theorem boolsOf_some : ∀ {ds : List PyData} {bs : List Bool}, boolsOf ds = some bs → ds = bs.map .bool
  | [], _, h => by cases h; rfl
  | d :: ds, bs, h => by
    cases d <;> simp only [boolsOf] at h <;> try cases h
    obtain ⟨cs, h1, rfl⟩ := Option.map_eq_some_iff.mp h
    rw [boolsOf_some h1]
    rfl
theorem strsOf_some : ∀ {ds : List PyData} {bs : List Str}, strsOf ds = some bs → ds = bs.map .str
  | [], _, h => by cases h; rfl
  | d :: ds, bs, h => by
    cases d <;> simp only [strsOf] at h <;> try cases h
    obtain ⟨cs, h1, rfl⟩ := Option.map_eq_some_iff.mp h
    rw [strsOf_some h1]
    rfl
theorem boolsOf_map : ∀ bs : List Bool, boolsOf (bs.map .bool) = some bs
  | [] => rfl
  | b :: bs => by rw [List.map_cons, boolsOf, boolsOf_map bs]; rfl
theorem strsOf_map : ∀ bs : List Str, strsOf (bs.map .str) = some bs
  | [] => rfl
  | b :: bs => by rw [List.map_cons, strsOf, strsOf_map bs]; rfl
def allF : List PyData → Option PyData
  | [.list ds] => (boolsOf ds).map fun bs => .bool (bs.all id)
  | _ => none
def tupleF : List PyData → Option PyData
  | [.list ds] => some (.tuple ds)
  | [.tuple ds] => some (.tuple ds)
  | _ => none
def listF : List PyData → Option PyData
  | [.list ds] => some (.list ds)
  | [.tuple ds] => some (.list ds)
  | _ => none
section
variable {X : Cx} {K : PySem.W.Frag}
theorem dxs1 {F H : Hp} {xs : List V} {d : PyData} (h : DXs K F H xs [d]) : ∃ v, xs = [v] ∧ DX K F H v d := by
  obtain ⟨v, ws, rfl, h1, h2⟩ := h
  rw [show ws = [] from h2]
  exact ⟨v, rfl, h1⟩
theorem dxs2 {F H : Hp} {xs : List V} {d e : PyData} (h : DXs K F H xs [d, e]) : ∃ v w, xs = [v, w] ∧ DX K F H v d ∧ DX K F H w e := by
  obtain ⟨v, ws, rfl, h1, h2⟩ := h
  obtain ⟨w, rfl, h3⟩ := dxs1 h2
  exact ⟨v, w, rfl, h1, h3⟩
theorem cs_len : CS K (fun xs H Q => ∃ x n, xs = [x] ∧ LenV K x H n ∧ Q (.int n) H) lenF := by
  intro F H xs ds z Q fh hx hf k
  unfold lenF at hf
  split at hf
  · split at hf
    · rename_i hl
      cases hf
      obtain ⟨v, rfl, h1⟩ := dxs1 hx
      rw [h1.str]
      exact ⟨_, _, rfl, ⟨small5 hl, rfl⟩, k _ _ _ (Ext.refl fh) (.int _)⟩
    · cases hf
  · cases hf
    obtain ⟨v, rfl, h1⟩ := dxs1 hx
    obtain ⟨a, vs, rfl, h2, h3⟩ := h1.list fh
    refine ⟨_, _, rfl, .inl ⟨vs, SqL.of h2, h3.length.symm⟩, k _ _ _ (Ext.refl fh) (.int _)⟩
  · cases hf
    obtain ⟨v, rfl, h1⟩ := dxs1 hx
    obtain ⟨a, vs, rfl, h2, h3⟩ := h1.tuple
    refine ⟨_, _, rfl, .inr ⟨vs, sqT_mono fh h2, h3.length.symm⟩, k _ _ _ (Ext.refl fh) (.int _)⟩
  · cases hf
theorem cs_abs : CS K (fun xs H Q => ∃ i, xs = [.int i] ∧ Q (.int (if i < 0 then -i else i)) H) absF := by
  intro F H xs ds z Q fh hx hf k
  unfold absF at hf
  split at hf
  · cases hf
    obtain ⟨v, rfl, h1⟩ := dxs1 hx
    rw [h1.int]
    exact ⟨_, rfl, k _ _ _ (Ext.refl fh) (.int _)⟩
  · cases hf
theorem cs_int : CS K (fun xs H Q => (∃ i, xs = [.int i] ∧ Q (.int i) H) ∨ ∃ k, xs = [.bl k] ∧ Q (.int (if k then 1 else 0)) H) intF := by
  intro F H xs ds z Q fh hx hf k
  unfold intF at hf
  split at hf
  · cases hf
    obtain ⟨v, rfl, h1⟩ := dxs1 hx
    rw [h1.int]
    exact .inl ⟨_, rfl, k _ _ _ (Ext.refl fh) (.int _)⟩
  · cases hf
    obtain ⟨v, rfl, h1⟩ := dxs1 hx
    rw [h1.bool]
    exact .inr ⟨_, rfl, k _ _ _ (Ext.refl fh) (.int _)⟩
  · cases hf
theorem cs_max2 : CS K (fun xs H Q => ∃ i j, xs = [.int i, .int j] ∧ Q (.int (if j > i then j else i)) H) max2F := by
  intro F H xs ds z Q fh hx hf k
  unfold max2F at hf
  split at hf
  · cases hf
    obtain ⟨v, w, rfl, h1, h2⟩ := dxs2 hx
    rw [h1.int, h2.int]
    exact ⟨_, _, rfl, k _ _ _ (Ext.refl fh) (.int _)⟩
  · cases hf
theorem cs_min2 : CS K (fun xs H Q => ∃ i j, xs = [.int i, .int j] ∧ Q (.int (if j < i then j else i)) H) min2F := by
  intro F H xs ds z Q fh hx hf k
  unfold min2F at hf
  split at hf
  · cases hf
    obtain ⟨v, w, rfl, h1, h2⟩ := dxs2 hx
    rw [h1.int, h2.int]
    exact ⟨_, _, rfl, k _ _ _ (Ext.refl fh) (.int _)⟩
  · cases hf
theorem cs_all : CS K (rAll K) allF := by
  intro F H xs ds z Q fh hx hf k
  unfold allF at hf
  split at hf
  · obtain ⟨bs, hb, rfl⟩ := Option.map_eq_some_iff.mp hf
    obtain ⟨v, rfl, h1⟩ := dxs1 hx
    obtain ⟨a, vs, rfl, h2, h3⟩ := h1.list fh
    rw [boolsOf_some hb] at h3
    rw [DVs.bools bs h3] at h2
    exact ⟨a, bs, rfl, SqL.of h2, k _ _ _ (Ext.refl fh) (.bl _)⟩
  · cases hf
theorem cs_tuple : CS K (fun xs H Q => ∃ p ys, xs = [.ref p] ∧ ((SqL K H p ys ∧ ∀ l, H l = none → Q (.ref l) (upd H l (.tup ys))) ∨ (SqT K H p ys ∧ Q (.ref p) H))) tupleF := by
  intro F H xs ds z Q fh hx hf k
  unfold tupleF at hf
  split at hf
  · cases hf
    obtain ⟨v, rfl, h1⟩ := dxs1 hx
    obtain ⟨a, vs, rfl, h2, h3⟩ := h1.list fh
    refine ⟨a, vs, rfl, .inl ⟨SqL.of h2, fun l hl => ?_⟩⟩
    have ex : Ext F H (upd F l (.tup vs)) (upd H l (.tup vs)) := Ext.new fh hl
    exact k _ _ _ ex (.tup (SqT.of upd_same) (h3.mono ex.f))
  · cases hf
    obtain ⟨v, rfl, h1⟩ := dxs1 hx
    obtain ⟨a, vs, rfl, h2, h3⟩ := h1.tuple
    exact ⟨a, vs, rfl, .inr ⟨sqT_mono fh h2, k _ _ _ (Ext.refl fh) (.tup h2 h3)⟩⟩
  · cases hf
theorem cs_list : CS K (fun xs H Q => ∃ p ys, xs = [.ref p] ∧ (SqL K H p ys ∨ SqT K H p ys) ∧ ∀ l, H l = none → Q (.ref l) (upd H l (.lst ys))) listF := by
  intro F H xs ds z Q fh hx hf k
  unfold listF at hf
  split at hf
  · cases hf
    obtain ⟨v, rfl, h1⟩ := dxs1 hx
    obtain ⟨a, vs, rfl, h2, h3⟩ := h1.list fh
    refine ⟨a, vs, rfl, .inl (SqL.of h2), fun l hl => ?_⟩
    have ex : Ext F H (upd F l (.lst vs)) (upd H l (.lst vs)) := Ext.new fh hl
    exact k _ _ _ ex (.lst upd_same (h3.mono ex.f))
  · cases hf
    obtain ⟨v, rfl, h1⟩ := dxs1 hx
    obtain ⟨a, vs, rfl, h2, h3⟩ := h1.tuple
    refine ⟨a, vs, rfl, .inr (sqT_mono fh h2), fun l hl => ?_⟩
    have ex : Ext F H (upd F l (.lst vs)) (upd H l (.lst vs)) := Ext.new fh hl
    exact k _ _ _ ex (.lst upd_same (h3.mono ex.f))
  · cases hf
end
section
variable {X : Cx} {e : Expr} {es : List Expr} {mas : MA} {pos p : Pos}
theorem je_len (hm : X.mg "len" = none) (ha : JA X [e] mas) (hg : Gl X "len" := by rfl) (he : starEach [e] X.env = (false, eval e X.env) :: starEach [] X.env := by rfl) (hpl : (backTo pos (starEach [] X.env)).any (·.1) = false := by rfl) : JE X (.Call (.Name "len" p) [e] [] pos) (mCall lenF mas) := je_callB call_len cs_len hm PySem.boot_len ha hg (by decide) (by decide) he hpl
theorem je_abs (hm : X.mg "abs" = none) (ha : JA X [e] mas) (hg : Gl X "abs" := by rfl) (he : starEach [e] X.env = (false, eval e X.env) :: starEach [] X.env := by rfl) (hpl : (backTo pos (starEach [] X.env)).any (·.1) = false := by rfl) : JE X (.Call (.Name "abs" p) [e] [] pos) (mCall absF mas) := je_callB call_abs cs_abs hm (by decide +kernel) ha hg (by decide) (by decide) he hpl
theorem je_toint (hm : X.mg "int" = none) (ha : JA X [e] mas) (hg : Gl X "int" := by rfl) (he : starEach [e] X.env = (false, eval e X.env) :: starEach [] X.env := by rfl) (hpl : (backTo pos (starEach [] X.env)).any (·.1) = false := by rfl) : JE X (.Call (.Name "int" p) [e] [] pos) (mCall intF mas) := je_callT call_int1 cs_int hm (by decide +kernel) ha hg (by decide) (by decide) he hpl
theorem je_max2 {a b : Expr} (hc : X.calm = true) (hm : X.mg "max" = none) (ha : JA X [a, b] mas) (hg : Gl X "max" := by rfl) (he : starEach [a, b] X.env = (false, eval a X.env) :: starEach [b] X.env := by rfl) (hpl : (backTo pos (starEach [b] X.env)).any (·.1) = false := by rfl) : JE X (.Call (.Name "max" p) [a, b] [] pos) (mCall max2F mas) := je_callB (call_max2 hc) cs_max2 hm (by decide +kernel) ha hg (by decide) (by decide) he hpl
theorem je_min2 {a b : Expr} (hc : X.calm = true) (hm : X.mg "min" = none) (ha : JA X [a, b] mas) (hg : Gl X "min" := by rfl) (he : starEach [a, b] X.env = (false, eval a X.env) :: starEach [b] X.env := by rfl) (hpl : (backTo pos (starEach [b] X.env)).any (·.1) = false := by rfl) : JE X (.Call (.Name "min" p) [a, b] [] pos) (mCall min2F mas) := je_callB (call_min2 hc) cs_min2 hm (by decide +kernel) ha hg (by decide) (by decide) he hpl
theorem je_all (hc : X.calm = true) (hm : X.mg "all" = none) (ha : JA X [e] mas) (hg : Gl X "all" := by rfl) (he : starEach [e] X.env = (false, eval e X.env) :: starEach [] X.env := by rfl) (hpl : (backTo pos (starEach [] X.env)).any (·.1) = false := by rfl) : JE X (.Call (.Name "all" p) [e] [] pos) (mCall allF mas) := je_callB (cr_all hc) cs_all hm (by decide +kernel) ha hg (by decide) (by decide) he hpl
theorem je_totuple (hm : X.mg "tuple" = none) (ha : JA X [e] mas) (hg : Gl X "tuple" := by rfl) (he : starEach [e] X.env = (false, eval e X.env) :: starEach [] X.env := by rfl) (hpl : (backTo pos (starEach [] X.env)).any (·.1) = false := by rfl) : JE X (.Call (.Name "tuple" p) [e] [] pos) (mCall tupleF mas) := je_callT call_tuple_of cs_tuple hm (by decide +kernel) ha hg (by decide) (by decide) he hpl
theorem je_tolist (hm : X.mg "list" = none) (ha : JA X [e] mas) (hg : Gl X "list" := by rfl) (he : starEach [e] X.env = (false, eval e X.env) :: starEach [] X.env := by rfl) (hpl : (backTo pos (starEach [] X.env)).any (·.1) = false := by rfl) : JE X (.Call (.Name "list" p) [e] [] pos) (mCall listF mas) := je_callT call_list_of cs_list hm (by decide +kernel) ha hg (by decide) (by decide) he hpl
end
def mLenS (ma : ME) : ME := fun S => match ma S with
  | some (.s (.ns ns), S1) => some (.v (.int ns.length), S1)
  | _ => none
def mIxS (ma mb : ME) : ME := fun S => match ma S with
  | some (.s (.ns ns), S1) => match mb S1 with
    | some (.v (.int i), S2) => match atI ns i with
      | some n => some (.v (.int n), S2)
      | none => none
    | _ => none
  | _ => none
section
variable {X : Cx} {e a b : Expr} {ma mb : ME} {pos p : Pos}
theorem je_lenS (hm : X.mg "len" = none) (ha : JE X e ma) (hg : Gl X "len" := by rfl) (he : starEach [e] X.env = (false, eval e X.env) :: starEach [] X.env := by rfl) (hpl : (backTo pos (starEach [] X.env)).any (·.1) = false := by rfl) : JE X (.Call (.Name "len" p) [e] [] pos) (mLenS ma) := by
  obtain ⟨ta, pa, sa⟩ := ha.ex
  refine ⟨_, pe_callB call_len hg hm PySem.boot_len (pa_cons pa pa_nil he) (by decide) (by decide) he hpl, fun P F0 qc F cell S σ H Q z S' R hz k => ?_⟩
  unfold mLenS at hz
  split at hz
  · rename_i ns S1 e1
    cases hz
    refine sa P F0 qc F cell S σ H _ _ S' R e1 fun v1 F1 H1 s1 R1 q1 => ?_
    obtain ⟨a, rfl, hl⟩ := q1
    exact ⟨_, _, rfl, .inl ⟨_, sqL_mono R1.fh hl, by rw [List.length_map]⟩, k _ F1 H1 s1 R1 (.int _)⟩
  · cases hz
theorem atI_map {α β : Type} {f : α → β} {xs : List α} {i : Int} {v : α} (h : atI xs i = some v) : atI (xs.map f) i = some (f v) := by
  unfold atI at h ⊢
  rw [List.length_map]
  cases q : ixN xs.length i with
  | none => rw [q] at h; cases h
  | some j =>
    rw [q] at h
    show (xs.map f)[j]? = some (f v)
    rw [List.getElem?_map, show xs[j]? = some v from h]
    rfl
theorem je_ixS (ha : JE X a ma) (hb : JE X b mb) (hs : PlainIx b := by exact fun _ _ => rfl) : JE X (.Subscript a b pos) (mIxS ma mb) := by
  obtain ⟨ta, pa, sa⟩ := ha.ex
  obtain ⟨tb, pb, sb⟩ := hb.ex
  refine ⟨_, pe_ix ix_list pa pb hs, fun P F0 qc F cell S σ H Q z S' R hz k => ?_⟩
  unfold mIxS at hz
  split at hz
  · rename_i ns S1 e1
    split at hz
    · rename_i i S2 e2
      split at hz
      · rename_i n hn
        cases hz
        refine sa P F0 qc F cell S σ H _ _ S1 R e1 fun v1 F1 H1 s1 R1 q1 => ?_
        refine sb P F0 qc F1 cell S1 σ H1 _ _ S' R1 e2 fun v2 F2 H2 s2 R2 q2 => ?_
        obtain ⟨c, rfl, hl⟩ := q1
        cases (show DV X.K F2 v2 (.int i) from q2)
        exact ⟨c, _, i, _, rfl, rfl, sqL_mono (s2.trans R2.fh) hl, atI_map hn, k _ F2 H2 (s1.trans s2) R2 (.int _)⟩
      · cases hz
    · cases hz
  · cases hz
end
def ixD : PyData → PyData → Option PyData
  | .list xs, .int i => atI xs i
  | .tuple xs, .int i => atI xs i
  | .str z, .int i => if z.length ≤ 100000 then (atI z.cps.toList i).map fun c => .str ⟨#[c]⟩ else none
  | _, _ => none
def cutL {α : Type} (xs : List α) (lo hi : Option Int) : List α := (xs.drop (HT.sIx xs.length 0 lo)).take (HT.sIx xs.length xs.length hi - HT.sIx xs.length 0 lo)
def slD : PyData → Option Int → Option Int → Option PyData
  | .list xs, lo, hi => some (.list (cutL xs lo hi))
  | .tuple xs, lo, hi => some (.tuple (cutL xs lo hi))
  | .str z, lo, hi => if z.length ≤ 100000 then some (.str (cutS z lo hi)) else none
  | _, _, _ => none
abbrev MO := Sl → Option (Option Int × Sl)
def oNone : MO := fun S => some (none, S)
def oSome (ma : ME) : MO := fun S => match ma S with
  | some (.v (.int i), S1) => some (some i, S1)
  | _ => none
def mSl (ma : ME) (ml mh : MO) : ME := fun S => match ma S with
  | none => none
  | some (r, S1) => match ml S1 with
    | none => none
    | some (lo, S2) => match mh S2 with
      | none => none
      | some (hi, S3) => match deref S3 r with
        | none => none
        | some d => match slD d lo hi with
          | some z => some (.v z, S3)
          | none => none
def SndO (K : PySem.W.Frag) (t : TO) (m : MO) : Prop :=
  ∀ (P F0 : Hp) (qc : Nat → Addr) (F : Hp) (cell : Nat → Addr) (S : Sl) (σ : L2.St) (H : Hp) (Q : Option Int → Hp → Prop) (r : Option Int) (S' : Sl), RC K P F0 qc F cell S σ H → m S = some (r, S') →
    (∀ F' H', Same F F' → RC K P F0 qc F' cell S' σ H' → Q r H') → t σ H Q
structure JO (X : Cx) (e : Option Expr) (m : MO) : Prop where
  ex : ∃ t, PO X e t ∧ SndO X.K t m
section
variable {X : Cx} {e a b : Expr} {ma mb : ME} {ml mh : MO} {pos p p2 : Pos} {lo hi : Option Expr} {K : PySem.W.Frag}
theorem dvs_atI {F : Hp} {vs : List V} {ds : List PyData} {i : Int} {d : PyData} (h : DVs K F vs ds) (e : atI ds i = some d) : ∃ v, atI vs i = some v ∧ DV K F v d := by
  unfold atI at e ⊢
  rw [h.length]
  cases q : ixN ds.length i with
  | none => rw [q] at e; cases e
  | some j =>
    rw [q] at e
    exact h.get e
theorem ops_ix : OpS K (rIx K) ixD := by
  intro F H x y d e z Q fh hx hy hf k
  unfold ixD at hf
  split at hf
  · obtain ⟨a, vs, rfl, h1, h2⟩ := hx.list fh
    obtain ⟨v, h3, h4⟩ := dvs_atI h2 hf
    exact .inl ⟨a, vs, _, v, rfl, hy.int, SqL.of h1, h3, k _ _ _ (Ext.refl fh) h4⟩
  · obtain ⟨a, vs, rfl, h1, h2⟩ := hx.tuple
    obtain ⟨v, h3, h4⟩ := dvs_atI h2 hf
    exact .inr (.inl ⟨a, vs, _, v, rfl, hy.int, sqT_mono fh h1, h3, k _ _ _ (Ext.refl fh) h4⟩)
  · split at hf
    · rename_i hl
      obtain ⟨c, h3, rfl⟩ := Option.map_eq_some_iff.mp hf
      exact .inr (.inr ⟨_, _, c, hx.str, hy.int, small5 hl, h3, k _ _ _ (Ext.refl fh) (.str _)⟩)
    · cases hf
  · cases hf
theorem je_ix (ha : JE X a ma) (hb : JE X b mb) (hs : PlainIx b := by exact fun _ _ => rfl) : JE X (.Subscript a b pos) (mBin ixD ma mb) := by
  obtain ⟨ta, pa, sa⟩ := ha.ex
  obtain ⟨tb, pb, sb⟩ := hb.ex
  exact ⟨_, pe_ix ix_seq pa pb hs, snd_bin ops_ix sa sb⟩
theorem DVs.cut {F : Hp} {vs : List V} {ds : List PyData} (h : DVs K F vs ds) (lo hi : Option Int) : DVs K F (cutV vs lo hi) (cutL ds lo hi) := by
  unfold cutV cutL
  rw [h.length]
  exact (h.drop _).take _
end
end VL
namespace VL
open PySem PySem.Spec PyProof.Rows L2
variable [LT]
def MS1 (K : PySem.W.Frag) (r : V → List V → Hp → VK → Prop) (f : Str → PyData → Option PyData) : Prop :=
  ∀ (F H : Hp) (a : Str) (y : V) (d z : PyData) (Q : VK), Same F H → DX K F H y d → f a d = some z → (∀ v F' H', Ext F H F' H' → DV K F' v z → Q v H') → r (.str a) [y] H Q
def onStr (f : Str → PyData → Option PyData) : PyData → PyData → Option PyData
  | .str a, d => f a d
  | _, _ => none
section
variable {X : Cx} {o e : Expr} {mo me : ME} {id : String} {name : Str} {apos pos : Pos} {r : V → List V → Hp → VK → Prop} {f : Str → PyData → Option PyData} {f0 : Str → Option PyData}
theorem je_m1 (slot : Slot "str" name id) (ty : typeOf (.builtin id) = pure (.type "method_descriptor")) (rule : MtR X id r) (hs : MS1 X.K r f) (ho : JE X o mo) (he : JE X e me)
    (hst : starEach [e] X.env = [(false, eval e X.env)] := by rfl) (hbase : attributeBase o name X.env (eval o X.env) = eval o X.env := by rfl) (hline : (apos.endLine == pos.line) = true := by rfl) :
    JE X (.Call (.Attribute o name apos) [e] [] pos) (mBin (onStr f) mo me) := by
  obtain ⟨to, po, so⟩ := ho.ex
  obtain ⟨te, pe, se⟩ := he.ex
  refine ⟨_, pe_m1 slot ty rule po pe hst hbase hline, fun P F0 qc F cell S σ H Q z S' R hm k => ?_⟩
  unfold mBin at hm
  split at hm
  · cases hm
  · rename_i r1 S1 e1
    split at hm
    · cases hm
    · rename_i r2 S2 e2
      split at hm
      · rename_i d e hd he
        split at hm
        · rename_i z' hz
          cases hm
          cases d with
          | str a =>
            have hz : f a e = some z' := hz
            refine so P F0 qc F cell S σ H _ r1 S1 R e1 fun v1 F1 H1 s1 R1 q1 => ?_
            have q1' : r1 = .v (.str a) := by
              cases r1 with
              | v x => cases hd; rfl
              | p i =>
                obtain ⟨xs, _, hx⟩ := Option.bind_eq_some_iff.mp (show (heldAt S' i).bind CT.data = some (.str a) from hd)
                cases xs <;> cases hx
              | s ns => cases hd
            subst q1'
            cases (show DV X.K F1 v1 (.str a) from q1)
            refine ⟨⟨a, rfl⟩, se P F0 qc F1 cell S1 σ H1 _ r2 S' R1 e2 fun v2 F2 H2 s2 R2 q2 => ?_⟩
            refine hs F2 H2 a v2 _ z' Q R2.fh (R2.deref q2 he) hz fun v F' H' ex dv => ?_
            exact k v F' H' ((s1.trans s2).trans ex.f) (R2.ext ex) dv
          | _ => cases hz
        · cases hm
      · cases hm
end
def joinF (a : Str) : PyData → Option PyData
  | .list ds => match strsOf ds with
    | some ys => if (ys.map (·.length)).sum + ys.length * a.length ≤ 100000 then some (.str (Txt.join a ys)) else none
    | none => none
  | .tuple ds => match strsOf ds with
    | some ys => if (ys.map (·.length)).sum + ys.length * a.length ≤ 100000 then some (.str (Txt.join a ys)) else none
    | none => none
  | _ => none
def splitF (a : Str) : PyData → Option PyData
  | .str b => if (b.length == 0) = false ∧ a.length ≤ 100000 then some (.list ((Txt.split a b).map .str)) else none
  | _ => none
section
variable {K : PySem.W.Frag}
theorem ms_join : MS1 K (fun x xs H Q => ∃ a p, ∃ ys : List Str, x = .str a ∧ xs = [.ref p] ∧ (SqL K H p (ys.map V.str) ∨ SqT K H p (ys.map V.str)) ∧
    (ys.map (·.length)).sum + ys.length * a.length ≤ 16777216 ∧ Q (.str (Txt.join a ys)) H) joinF := by
  intro F H a y d z Q fh hy hf k
  unfold joinF at hf
  split at hf
  · split at hf
    · rename_i ys hys
      split at hf
      · rename_i hl
        cases hf
        obtain ⟨c, vs, rfl, h2, h3⟩ := hy.list fh
        rw [strsOf_some hys] at h3
        rw [DVs.strs ys h3] at h2
        exact ⟨a, c, ys, rfl, rfl, .inl (SqL.of h2), Nat.le_trans hl (by decide), k _ _ _ (Ext.refl fh) (.str _)⟩
      · cases hf
    · cases hf
  · split at hf
    · rename_i ys hys
      split at hf
      · rename_i hl
        cases hf
        obtain ⟨c, vs, rfl, h2, h3⟩ := hy.tuple
        rw [strsOf_some hys] at h3
        rw [DVs.strs ys h3] at h2
        exact ⟨a, c, ys, rfl, rfl, .inr (sqT_mono fh h2), Nat.le_trans hl (by decide), k _ _ _ (Ext.refl fh) (.str _)⟩
      · cases hf
    · cases hf
  · cases hf
theorem ms_split : MS1 K (fun x xs H Q => ∃ a b, x = .str a ∧ xs = [.str b] ∧ (b.length == 0) = false ∧ a.length + 2 ≤ sizeLine ∧ rNewStrs (Txt.split a b) H Q) splitF := by
  intro F H a y d z Q fh hy hf k
  unfold splitF at hf
  split at hf
  · split at hf
    · rename_i b hl
      cases hf
      rw [hy.str]
      have hz : a.length + 2 ≤ sizeLine := Nat.le_trans (Nat.add_le_add_right hl.2 2) (by decide)
      refine ⟨a, b, rfl, rfl, hl.1, hz, fun p hp => ?_⟩
      have ex : Ext F H (upd F p (.lst ((Txt.split a b).map V.str))) (upd H p (.lst ((Txt.split a b).map V.str))) := Ext.new fh hp
      exact k _ _ _ ex (.lst upd_same (DVs.ofStrs _))
    · cases hf
  · cases hf
end
section
variable {X : Cx} {o e : Expr} {mo me : ME} {apos pos : Pos}
theorem je_join (ho : JE X o mo) (he : JE X e me) (hst : starEach [e] X.env = [(false, eval e X.env)] := by rfl) (hbase : attributeBase o "join" X.env (eval o X.env) = eval o X.env := by rfl) (hline : (apos.endLine == pos.line) = true := by rfl) :
    JE X (.Call (.Attribute o "join" apos) [e] [] pos) (mBin (onStr joinF) mo me) := je_m1 F.slot_str_join F.type_str_join mt_join ms_join ho he hst hbase hline
theorem je_split (ho : JE X o mo) (he : JE X e me) (hst : starEach [e] X.env = [(false, eval e X.env)] := by rfl) (hbase : attributeBase o "split" X.env (eval o X.env) = eval o X.env := by rfl) (hline : (apos.endLine == pos.line) = true := by rfl) :
    JE X (.Call (.Attribute o "split" apos) [e] [] pos) (mBin (onStr splitF) mo me) := je_m1 F.slot_str_split F.type_str_split mt_split ms_split ho he hst hbase hline
end
def tyName : PyData → String
  | .none => "NoneType"
  | .bool _ => "bool"
  | .int _ => "int"
  | .str _ => "str"
  | .list _ => "list"
  | .tuple _ => "tuple"
  | .dict _ => "dict"
def isiF (T : String) (d : PyData) : Option PyData := (kitB (tyName d) T).map .bool
section
variable {X : Cx} {e : Expr} {me : ME} {pos p p2 : Pos} {tn : Str} {T : String}
theorem dx_ty {K : PySem.W.Frag} {F H : Hp} {v : V} {d : PyData} (fh : Same F H) (h : DX K F H v d) : TyX K H v (.type (tyName d)) := by
  rcases h with h | ⟨a, vs, ds, rfl, rfl, h3, h4⟩
  · cases h with
    | non => exact .base .non
    | bl b => exact .base (.bl b)
    | int i => exact .base (.int i)
    | str x => exact .base (.str x)
    | lst h _ => exact .base (.lst (fh _ _ h))
    | tup h _ =>
      rcases h with (h | ⟨o, h⟩) | ⟨o, its, n, h1, h2, _⟩
      · exact .base (.tup (fh _ _ h))
      · exact .fTuple (fh _ _ h)
      · exact .kTuple h1 h2
    | dct h _ _ => exact .base (.dK (fh _ _ h))
  · exact .base (.lst h3)
theorem je_isi (T : String) (hm : X.mg "isinstance" = none) (hT : X.mg tn = none) (hv : bootBuiltins tn = some (.type T)) (he : JE X e me) (hg : Gl X "isinstance" := by rfl) (hgT : Gl X tn := by rfl) (hn : tn ≠ "__name__" := by decide) (hdb : (tn == ("__debug__" : Str)) = false := by decide)
    (hst : starEach [e, .Name tn p2] X.env = (false, eval e X.env) :: starEach [.Name tn p2] X.env := by rfl) (hpl : (backTo pos (starEach [.Name tn p2] X.env)).any (·.1) = false := by rfl) :
    JE X (.Call (.Name "isinstance" p) [e, .Name tn p2] [] pos) (mUn (isiF T) me) := by
  obtain ⟨te, pe, se⟩ := he.ex
  refine ⟨_, pe_callB call_isi hg hm (by decide +kernel) (pa_cons pe (pa_cons (pe_bltn (v := .ty T) hgT hT hv rfl hn hdb) pa_nil) hst) (by decide) (by decide) hst hpl, fun P F0 qc F cell S σ H Q z S' R hz k => ?_⟩
  unfold mUn at hz
  split at hz
  · cases hz
  · rename_i r1 S1 e1
    split at hz
    · rename_i d hd
      split at hz
      · rename_i z' hf
        cases hz
        refine se P F0 qc F cell S σ H _ r1 S' R e1 fun v1 F1 H1 s1 R1 q1 => ?_
        obtain ⟨b, hb, rfl⟩ := Option.map_eq_some_iff.mp hf
        exact ⟨v1, _, _, _, b, rfl, .ty T, dx_ty R1.fh (R1.deref q1 hd), kit_ty hb, k _ F1 H1 s1 R1 (.bl b)⟩
      · cases hz
    · cases hz
end
mutual
inductive RdD (h : Heap) : Value → PyData → Prop
  | none : RdD h .none .none
  | bool (b) : RdD h (.bool b) (.bool b)
  | int (i t) : RdD h (.int i t) (.int i)
  | str (x t) : RdD h (.str x t) (.str x)
  | list {a o vs n xs} : h.get? a = some o → o.cls = .type "list" → o.data = .seq vs n → RdsD h vs.toList xs → RdD h (.ref a) (.list xs)
  | tuple {a o vs n xs} : h.get? a = some o → o.cls = .type "tuple" → o.data = .seq vs n → RdsD h vs.toList xs → RdD h (.ref a) (.tuple xs)
  | dict {a o} {es : Array DictEntry} {n} {kvs : List (PyData × PyData)} : h.get? a = some o → o.cls = .type "dict" → o.data = .dict es n → (a == sysModules) = false → RdsD h (es.toList.map (·.key)) (kvs.map (·.1)) → RdsD h (es.toList.map (·.val)) (kvs.map (·.2)) → RdD h (.ref a) (.dict kvs)
inductive RdsD (h : Heap) : List Value → List PyData → Prop
  | nil : RdsD h [] []
  | cons {v vs d ds} : RdD h v d → RdsD h vs ds → RdsD h (v :: vs) (d :: ds)
end
section
variable {prog : Program} {w : World} {h₀ : Heap}
mutual
theorem RdD.reads : ∀ {v : Value} {d : PyData}, RdD h₀ v d → ∃ as, Reads h₀ v d as
  | _, _, .none => ⟨_, .none⟩
  | _, _, .bool b => ⟨_, .bool b⟩
  | _, _, .int i t => ⟨_, .int i t⟩
  | _, _, .str x t => ⟨_, .str x t⟩
  | _, _, .list h1 h2 h3 h4 => let ⟨_, r⟩ := RdsD.reads h4; ⟨_, .list h1 h2 h3 r⟩
  | _, _, .tuple h1 h2 h3 h4 => let ⟨_, r⟩ := RdsD.reads h4; ⟨_, .tuple h1 h2 h3 r⟩
  | _, _, .dict h1 h2 h3 _ h4 h5 => let ⟨_, r⟩ := RdsD.reads h4; let ⟨_, r2⟩ := RdsD.reads h5; ⟨_, .dict h1 h2 h3 r r2⟩
theorem RdsD.reads : ∀ {vs : List Value} {ds : List PyData}, RdsD h₀ vs ds → ∃ as, ReadsAll h₀ vs ds as
  | _, _, .nil => ⟨_, .nil⟩
  | _, _, .cons h t => let ⟨_, r⟩ := RdD.reads h; let ⟨_, r2⟩ := RdsD.reads t; ⟨_, .cons r r2⟩
end
mutual
theorem RdD.reprK : ∀ {v : Value} {d : PyData}, RdD h₀ v d → d.showable = true → d.shown.length ≤ sizeLine → ∃ bs, ReadAtMost h₀ d.depth bs ∧ ReprK prog w bs h₀ d.depth v d.shown
  | _, _, .none, _, _ => ⟨[], (fun _ h => nomatch h), by simp only [PyData.shown]; exact .of_is ReprIs.none _ _ _⟩
  | _, _, .bool b, _, _ => ⟨[], (fun _ h => nomatch h), by simp only [PyData.shown]; exact .of_is (ReprIs.bool b) _ _ _⟩
  | _, _, .int i t, hs, _ => ⟨[], (fun _ h => nomatch h), by simp only [PyData.shown]; exact .of_is (ReprIs.int t (by simpa [PyData.showable] using hs)) _ _ _⟩
  | _, _, .str x t, _, hz => ⟨[], (fun _ h => nomatch h), by simp only [PyData.shown]; exact .of_is (ReprIs.str x t (by simpa only [PyData.shown] using hz)) _ _ _⟩
  | _, _, .list (a := a) (vs := vs) (xs := xs) h1 h2 h3 h4, hs, hz => by
    have hz' : (listText (PyData.shownAll xs)).length ≤ sizeLine := by simpa only [PyData.shown] using hz
    obtain ⟨bs, hb, hk⟩ := RdsD.reprK h4 (by simpa [PyData.showable] using hs) (fun t ht => Nat.le_trans (listText_mem_le ht) hz')
    obtain ⟨as, r4⟩ := RdsD.reads h4
    have r : Reads h₀ (.ref a) (.list xs) _ := .list h1 h2 h3 r4
    have hna : a ∉ bs := not_mem_of_deeper r (by simp only [PyData.depth]; omega) hb
    refine ⟨a :: bs, ReadAtMost.cons r (by simp only [PyData.depth]; omega) hb, ?_⟩
    simp only [PyData.depth,PyData.shown]
    obtain ⟨l⟩ := vs
    cases l with
    | nil =>
      have h4' : RdsD h₀ [] xs := h4
      cases h4'
      simp only [PyData.shownAll,listText_nil]
      exact ReprK.listEmpty h1 h2 h3
    | cons x l => exact ReprK.list h1 h2 h3 hna (by simpa using hk.length_eq) (fun i y e => hk.item i y (by simpa using e))
  | _, _, .tuple (a := a) (xs := xs) h1 h2 h3 h4, hs, hz => by
    have hz' : (tupleText (PyData.shownAll xs)).length ≤ sizeLine := by simpa only [PyData.shown] using hz
    obtain ⟨bs, hb, hk⟩ := RdsD.reprK h4 (by simpa [PyData.showable] using hs) (fun t ht => Nat.le_trans (tupleText_mem_le ht) hz')
    obtain ⟨as, r4⟩ := RdsD.reads h4
    have r : Reads h₀ (.ref a) (.tuple xs) _ := .tuple h1 h2 h3 r4
    have hna : a ∉ bs := not_mem_of_deeper r (by simp only [PyData.depth]; omega) hb
    refine ⟨a :: bs, ReadAtMost.cons r (by simp only [PyData.depth]; omega) hb, ?_⟩
    simp only [PyData.depth,PyData.shown]
    exact ReprK.tuple h1 h2 h3 hna hk
  | _, _, .dict (a := a) (es := es) (kvs := kvs) h1 h2 h3 hsys h4 h5, hs, hz => by
    have hz' : (dictText (PyData.shownKv kvs)).length ≤ sizeLine := by simpa only [PyData.shown] using hz
    obtain ⟨hs1, hs2⟩ := PyData.showableKv_split kvs (by simpa [PyData.showable] using hs)
    obtain ⟨b1, hb1, k1⟩ := RdsD.reprK h4 hs1 (fun t ht => let ⟨p, hp, hl⟩ := PyData.shownKv_key_le kvs t ht; Nat.le_trans hl (Nat.le_trans (dictText_mem_le hp) hz'))
    obtain ⟨b2, hb2, k2⟩ := RdsD.reprK h5 hs2 (fun t ht => let ⟨p, hp, hl⟩ := PyData.shownKv_val_le kvs t ht; Nat.le_trans hl (Nat.le_trans (dictText_mem_le hp) hz'))
    obtain ⟨as, r4⟩ := RdsD.reads h4
    obtain ⟨as2, r5⟩ := RdsD.reads h5
    have r : Reads h₀ (.ref a) (.dict kvs) _ := .dict h1 h2 h3 r4 r5
    have hb : ReadAtMost h₀ (PyData.depthKv kvs) (b1 ++ b2) := (hb1.mono (PyData.depthAll_keys_le kvs)).append (hb2.mono (PyData.depthAll_vals_le kvs))
    have hna : a ∉ b1 ++ b2 := not_mem_of_deeper r (by simp only [PyData.depth]; omega) hb
    refine ⟨a :: (b1 ++ b2), ReadAtMost.cons r (by simp only [PyData.depth]; omega) hb, ?_⟩
    simp only [PyData.depth,PyData.shown,PyData.shownKv_eq]
    exact ReprK.dict h1 h2 h3 hsys hna (ReprEntriesK.of_two es.toList _ _
      (k1.more_le (fun b hb => List.mem_append_left _ hb) (PyData.depthAll_keys_le kvs)) (k2.more_le (fun b hb => List.mem_append_right _ hb) (PyData.depthAll_vals_le kvs)))
theorem RdsD.reprK : ∀ {vs : List Value} {ds : List PyData}, RdsD h₀ vs ds → PyData.showableAll ds = true → (∀ t ∈ PyData.shownAll ds, t.length ≤ sizeLine) →
    ∃ bs, ReadAtMost h₀ (PyData.depthAll ds) bs ∧ ReprAllK prog w bs h₀ (PyData.depthAll ds) vs (PyData.shownAll ds)
  | _, _, .nil, _, _ => ⟨[], (fun _ h => nomatch h), by simp only [PyData.shownAll]; exact .nil⟩
  | _, _, .cons (d := d) (ds := ds) r rs, hs, hz => by
    have hs' : d.showable = true ∧ PyData.showableAll ds = true := by simpa [PyData.showableAll] using hs
    obtain ⟨b1, hb1, k1⟩ := RdD.reprK r hs'.1 (hz _ (by simp only [PyData.shownAll]; exact List.mem_cons_self ..))
    obtain ⟨b2, hb2, k2⟩ := RdsD.reprK rs hs'.2 (fun t ht => hz t (by simp only [PyData.shownAll]; exact List.mem_cons_of_mem _ ht))
    refine ⟨b1 ++ b2, ?_, ?_⟩
    · simp only [PyData.depthAll]
      exact (hb1.mono (Nat.le_max_left _ _)).append (hb2.mono (Nat.le_max_right _ _))
    · simp only [PyData.depthAll,PyData.shownAll]
      exact .cons ((k1.more fun b hb => List.mem_append_left _ hb).level_le (Nat.le_max_left _ _)) (k2.more_le (fun b hb => List.mem_append_right _ hb) (Nat.le_max_right _ _))
end
end
end VL
namespace VL
open PySem PySem.Spec PyProof.Rows L2
variable [LT]
section
variable {prog : Program} {w : World} {h₀ : Heap}
theorem call_repr_rd {A : Around} {E : Value → Shared → Prop} {s : Shared} {Q : Value → Shared → Prop} : ∀ {u : Value} {d : PyData}, RdD s.heap u d → d.showable = true → d.shown.length ≤ sizeLine → A.guards = some [] → A.units + (d.depth + 1) < cLine →
    (∀ h' t tk, (∀ b o, s.heap.get? b = some o → h'.get? b = some o) → Q (.str d.shown t) { s with heap := h', toks := tk }) → wpAny (model prog w) A (call (.builtin "repr") [u]) Q E s
  | _, _, .none, _, _, _, _, hQ => by
    simp only [PyData.shown] at hQ
    exact PySem.P.repr_of_none (hQ s.heap _ _ fun _ _ e => e)
  | _, _, .bool b, _, _, _, _, hQ => by
    simp only [PyData.shown] at hQ
    exact PySem.P.repr_of_bool (hQ s.heap _ _ fun _ _ e => e)
  | _, _, .int i t, hs, _, _, _, hQ => by
    simp only [PyData.shown] at hQ
    exact PySem.P.repr_of_int (by simpa [PyData.showable] using hs) (hQ s.heap _ _ fun _ _ e => e)
  | _, _, .str x t, _, hz, _, _, hQ => by
    simp only [PyData.shown] at hQ
    exact PySem.P.repr_of_str (hQ s.heap _ _ fun _ _ e => e) (by simpa only [PyData.shown] using hz)
  | _, _, .list (a := a) (o := o) (vs := vs) (xs := xs) h1 h2 h3 h4, hs, hz, hg, hu, hQ => by
    have hz' : (listText (PyData.shownAll xs)).length ≤ sizeLine := by simpa only [PyData.shown] using hz
    obtain ⟨bs, hb, hk⟩ := RdsD.reprK (prog := prog) (w := w) h4 (by simpa [PyData.showable] using hs) (fun t ht => Nat.le_trans (listText_mem_le ht) hz')
    obtain ⟨as, r4⟩ := RdsD.reads h4
    have r : Reads s.heap (.ref a) (.list xs) _ := .list h1 h2 h3 r4
    have hna : a ∉ bs := not_mem_of_deeper r (by simp only [PyData.depth]; omega) hb
    simp only [PyData.depth] at hu
    simp only [PyData.shown] at hQ
    have hui : A.in1.units + (PyData.depthAll xs + 1) < cLine := by show A.units + 1 + (PyData.depthAll xs + 1) < cLine; omega
    refine call_repr_slot (by omega) ⟨o, h1, h2⟩ F.slot_list_repr.toG ?_
    obtain ⟨l⟩ := vs
    cases l with
    | nil =>
      have h4' : RdsD s.heap [] xs := h4
      cases h4'
      simp only [PyData.shownAll,listText_nil] at hQ
      exact call_list_repr_empty ⟨o, h1, h2⟩ h1 h3 ⟨_, _, rfl, hQ s.heap _ _ fun _ _ e => e⟩
    | cons x l =>
      exact call_list_reprK h1 h2 h3 hna (by simpa using hk.length_eq) (fun i y e => hk.item i y (by simpa using e)) (show A.in1.guards = some [] from hg) (fun b _ => Clear.nil b) hui (fun _ _ e => e) (fun h' u tk hk' => ⟨_, _, rfl, hQ h' u tk hk'⟩) hz'
  | _, _, .tuple (a := a) (o := o) (xs := xs) h1 h2 h3 h4, hs, hz, hg, hu, hQ => by
    have hz' : (tupleText (PyData.shownAll xs)).length ≤ sizeLine := by simpa only [PyData.shown] using hz
    obtain ⟨bs, hb, hk⟩ := RdsD.reprK (prog := prog) (w := w) h4 (by simpa [PyData.showable] using hs) (fun t ht => Nat.le_trans (tupleText_mem_le ht) hz')
    obtain ⟨as, r4⟩ := RdsD.reads h4
    have r : Reads s.heap (.ref a) (.tuple xs) _ := .tuple h1 h2 h3 r4
    have hna : a ∉ bs := not_mem_of_deeper r (by simp only [PyData.depth]; omega) hb
    simp only [PyData.depth] at hu
    simp only [PyData.shown] at hQ
    have hui : A.in1.units + (PyData.depthAll xs + 1) < cLine := by show A.units + 1 + (PyData.depthAll xs + 1) < cLine; omega
    refine call_repr_slot (by omega) ⟨o, h1, h2⟩ F.slot_tuple_repr ?_
    exact call_tuple_reprK h1 h2 h3 hna hk (show A.in1.guards = some [] from hg) (fun b _ => Clear.nil b) hui (fun _ _ e => e) (fun h' u tk hk' => ⟨_, _, rfl, hQ h' u tk hk'⟩) hz'
  | _, _, .dict (a := a) (o := o) (es := es) (kvs := kvs) h1 h2 h3 hsys h4 h5, hs, hz, hg, hu, hQ => by
    have hz' : (dictText (PyData.shownKv kvs)).length ≤ sizeLine := by simpa only [PyData.shown] using hz
    obtain ⟨hs1, hs2⟩ := PyData.showableKv_split kvs (by simpa [PyData.showable] using hs)
    obtain ⟨b1, hb1, k1⟩ := RdsD.reprK (prog := prog) (w := w) h4 hs1 (fun t ht => let ⟨p, hp, hl⟩ := PyData.shownKv_key_le kvs t ht; Nat.le_trans hl (Nat.le_trans (dictText_mem_le hp) hz'))
    obtain ⟨b2, hb2, k2⟩ := RdsD.reprK (prog := prog) (w := w) h5 hs2 (fun t ht => let ⟨p, hp, hl⟩ := PyData.shownKv_val_le kvs t ht; Nat.le_trans hl (Nat.le_trans (dictText_mem_le hp) hz'))
    obtain ⟨as, r4⟩ := RdsD.reads h4
    obtain ⟨as2, r5⟩ := RdsD.reads h5
    have r : Reads s.heap (.ref a) (.dict kvs) _ := .dict h1 h2 h3 r4 r5
    have hb : ReadAtMost s.heap (PyData.depthKv kvs) (b1 ++ b2) := (hb1.mono (PyData.depthAll_keys_le kvs)).append (hb2.mono (PyData.depthAll_vals_le kvs))
    have hna : a ∉ b1 ++ b2 := not_mem_of_deeper r (by simp only [PyData.depth]; omega) hb
    simp only [PyData.depth] at hu
    simp only [PyData.shown,PyData.shownKv_eq] at hQ
    have hui : A.in1.units + (PyData.depthKv kvs + 1) < cLine := by show A.units + 1 + (PyData.depthKv kvs + 1) < cLine; omega
    refine call_repr_slot (by omega) ⟨o, h1, h2⟩ F.slot_dict_repr ?_
    exact call_dict_reprK h1 h2 h3 hsys hna (ReprEntriesK.of_two es.toList _ _
      (k1.more_le (fun b hb => List.mem_append_left _ hb) (PyData.depthAll_keys_le kvs)) (k2.more_le (fun b hb => List.mem_append_right _ hb) (PyData.depthAll_vals_le kvs))) (show A.in1.guards = some [] from hg) (fun b _ => Clear.nil b) hui (fun _ _ e => e) (fun h' u tk hk' => ⟨_, _, rfl, hQ h' u tk hk'⟩) (by rw [← PyData.shownKv_eq]; exact hz')
end
section
variable {X : Cx} {pins : List (Addr × Obj)} {σ : L2.St} {H : Hp} {s : Shared}
theorem key_rel {k : Key} {u : Value} (h : keyIs k u = true) : RelV (kV k) u := by
  rcases keyIs_shape h with ⟨i, t, rfl, rfl⟩ | ⟨x, t, rfl, rfl⟩
  · exact ⟨t, rfl⟩
  · exact ⟨t, rfl⟩
theorem pairs_vals {prog : Program} {w : World} : ∀ {es : List DictEntry} {kvs : List (Key × V)} {vs : List (Key × Value)}, PySem.Pairs (mixKind prog w) es vs → KV kvs vs → Vals (kvs.map fun p => kV p.1) (es.map (·.key)) ∧ Vals (kvs.map fun p => p.2) (es.map (·.val))
  | [], _, _, .nil, .nil => ⟨.nil, .nil⟩
  | e :: es, _, _, .cons h1 h2 h3, .cons r t => by
    obtain ⟨a, b⟩ := pairs_vals h3 t
    obtain ⟨r1, r2⟩ := r
    refine ⟨.cons ?_ a, .cons ?_ b⟩
    · show RelV (kV _) _
      rw [r1]
      exact key_rel h1
    · show RelV _ e.val
      rw [h2]
      exact r2
mutual
theorem DV.rd (I : Inv X pins σ H s) : ∀ {v : V} {d : PyData} {u : Value}, DV X.K H v d → RelV v u → RdD s.heap u d
  | _, _, _, .non, r => by
    cases r
    exact .none
  | _, _, _, .bl b, r => by
    cases r
    exact .bool b
  | _, _, _, .int i, r => by
    obtain ⟨t, rfl⟩ := r
    exact .int i t
  | _, _, _, .str x, r => by
    obtain ⟨t, rfl⟩ := r
    exact .str x t
  | _, _, _, .lst h hs, r => by
    cases r
    obtain ⟨its, rv, ⟨o, n, ho, hc, _, hd⟩, _⟩ := I.list (SqL.of h)
    exact .list ho hc hd (DVs.rd I hs rv)
  | _, _, _, .tup h hs, r => by
    cases r
    obtain ⟨its, rv, ⟨o, ho, hc, n, hd⟩, _⟩ := I.tuple h
    exact .tuple ho hc hd (DVs.rd I hs rv)
  | _, _, _, .dct (kvs := kvs) (ks := ks) (es := es') h h1 h2, r => by
    cases r
    obtain ⟨_, hd, vs, rel, o, es, ep, ho, hx, hde, _, hp, _⟩ := dk_of I.hok h
    obtain ⟨p1, p2⟩ := pairs_vals hp rel
    have l1 := h1.length
    have l2 := h2.length
    rw [List.length_map] at l1 l2
    have q1 := DVs.rd I h1 p1
    have q2 := DVs.rd I h2 p2
    refine .dict ho hx.1 hde hd ?_ ?_
    · rw [List.map_fst_zip (by omega)]
      exact q1
    · rw [List.map_snd_zip (by omega)]
      exact q2
theorem DVs.rd (I : Inv X pins σ H s) : ∀ {vs : List V} {ds : List PyData} {us : List Value}, DVs X.K H vs ds → Vals vs us → RdsD s.heap us ds
  | _, _, _, .nil, .nil => .nil
  | _, _, _, .cons h t, .cons r rs => .cons (DV.rd I h r) (DVs.rd I t rs)
end
end
def rRepr (K : PySem.W.Frag) : List V → Hp → VK → Prop := fun xs H Q => ∃ v d, xs = [v] ∧ DV K H v d ∧ d.showable = true ∧ d.shown.length ≤ sizeLine ∧ d.depth ≤ 60 ∧ Q (.str d.shown) H
theorem call_reprD {X : Cx} (gd : X.A.guards = some []) (hu : X.A.units + 64 < cLine) : CallR X (.builtin "repr") (rRepr X.K) := by
  intro pins s σ H xs us Q I r h
  obtain ⟨v, d, rfl, hd, hs, hz, hp, q⟩ := h
  obtain ⟨u, rfl, r1⟩ := vals1 r
  exact call_repr_rd (DV.rd I hd r1) hs hz gd (by omega) fun h' t tk hk => ⟨.str _, H, I.kept hk, ⟨t, rfl⟩, q⟩
def reprF : List PyData → Option PyData
  | [d] => if d.showable = true ∧ d.shown.length ≤ 1000000 ∧ d.depth ≤ 60 then some (.str d.shown) else none
  | _ => none
theorem cs_repr {K : PySem.W.Frag} : CS K (rRepr K) reprF := by
  intro F H xs ds z Q fh hx hf k
  unfold reprF at hf
  split at hf
  · split at hf
    · rename_i d hl
      cases hf
      obtain ⟨v, rfl, h1⟩ := dxs1 hx
      exact ⟨v, d, rfl, h1.dv fh, hl.1, Nat.le_trans hl.2.1 (by decide), hl.2.2, k _ _ _ (Ext.refl fh) (.str _)⟩
    · cases hf
  · cases hf
section
variable {X : Cx} {e : Expr} {mas : MA} {pos p : Pos}
theorem je_repr {k : Nat} (gd : X.A.guards = some []) (hr : Room k X.A) (hm : X.mg "repr" = none) (ha : JA X [e] mas) (hg : Gl X "repr" := by rfl) (he : starEach [e] X.env = (false, eval e X.env) :: starEach [] X.env := by rfl) (hpl : (backTo pos (starEach [] X.env)).any (·.1) = false := by rfl) :
    JE X (.Call (.Name "repr" p) [e] [] pos) (mCall reprF mas) := je_callB (call_reprD gd hr.units) cs_repr hm (by decide +kernel) ha hg (by decide) (by decide) he hpl
end
section
variable {X : Cx} {e : Expr} {me : ME}
end
end VL
namespace VL
open PySem PySem.Spec PyProof.Rows L2
variable [LT]
section
variable {K : PySem.W.Frag} {P F0 F F' : Hp} {qc cell : Nat → Addr} {S : Sl} {σ : L2.St} {H H' : Hp} {p : Addr} {o o' : HO}
def Apart (S : Sl) (cell : Nat → Addr) (p : Addr) : Prop := ∀ (i : Nat) (x : SL), S[i]? = some (some x) → x.held.isSome = true → cell i ≠ p
theorem RC.apart_new (R : RC K P F0 qc F cell S σ H) (hp : H p = none) : Apart S cell p := fun i x h hx e => by
  obtain ⟨xs, hx'⟩ := Option.isSome_iff_exists.mp hx
  obtain ⟨_, _, _, h4⟩ := R.cl i x xs h hx'
  obtain ⟨o, h5, _⟩ := h4.is
  rw [e, hp] at h5
  cases h5
theorem RC.lay (R : RC K P F0 qc F cell S σ H) (hp : H p = none) (ho : ∀ ps, o ≠ .tbl ps := by intro ps h; cases h) : RC K (upd P p o) F0 qc F cell S σ (upd H p o) where
  len := R.len
  f0 := R.f0
  fh := R.fh.trans (same_new hp)
  ph := same_upd2 R.ph
  fr := fun b z => by
    by_cases q : b = p
    · subst q
      exact absurd (R.fh.free hp) z
    · rcases R.fr b z with z | z
      · exact .inl z
      · exact .inr (by rw [upd_ne q]; exact z)
  vl := R.vl
  sc := R.sc
  cl := fun i x xs h hx => by
    obtain ⟨h1, h2, h3, h4⟩ := R.cl i x xs h hx
    have ne : cell i ≠ p := R.apart_new hp i x h (by rw [hx]; rfl)
    exact ⟨h1, h2, by rw [upd_ne ne]; exact h3, h4.step (Same.refl _) fun o q _ => by rw [upd_ne ne]; exact q⟩
  qs := R.qs
  inj := R.inj
  np := fun b ps z => by
    by_cases q : b = p
    · subst q
      rw [upd_same] at z
      exact ho ps (Option.some.inj z)
    · rw [upd_ne q] at z
      exact R.np b ps z
  nf := R.nf
  tb := R.tb.ext (same_new hp)
theorem RC.laid_at (R : RC K (upd P p o) F0 qc F cell S σ H) : H p = some o := R.ph p o upd_same
theorem RC.laid_apart (R : RC K (upd P p o) F0 qc F cell S σ H) : Apart S cell p := fun i x h hx e => by
  obtain ⟨xs, hx'⟩ := Option.isSome_iff_exists.mp hx
  obtain ⟨_, _, h3, _⟩ := R.cl i x xs h hx'
  rw [e, upd_same] at h3
  cases h3
theorem RC.laid_untold (R : RC K (upd P p o) F0 qc F cell S σ H) (hp : F0 p = none) : F p = none := by
  cases q : F p with
  | none => rfl
  | some u =>
    rcases R.fr p (by rw [q]; simp) with z | z
    · exact absurd hp z
    · rw [upd_same] at z; cases z
theorem RC.adopt (R : RC K (upd P p o) F0 qc F cell S σ H) (hp : F0 p = none) (hP : P p = none) (ho : ∀ f, o ≠ .ext f := by intro f h; cases h) (ho' : ∀ ps, o' ≠ .tbl ps := by intro ps h; cases h) : RC K P F0 qc (upd F p o') cell S σ (upd H p o') ∧ Same F (upd F p o') := by
  have hF := R.laid_untold hp
  have sF : Same F (upd F p o') := same_new hF
  have ap := R.laid_apart
  refine ⟨⟨R.len, R.f0.trans sF, same_upd2 R.fh, fun b u e => ?_, fun b z => ?_, fun i d h => ?_, fun i ns h => ?_, fun i x xs h hx => ?_, R.qs, R.inj, fun b ps z => ?_, fun b ps z => ?_, tabs_upd R.tb R.laid_at ⟨fun ps e => R.np p ps (by rw [upd_same, e]), ho⟩⟩, sF⟩
  · have ne : b ≠ p := fun q => by subst q; rw [hP] at e; cases e
    rw [upd_ne ne]
    exact R.ph b u (by rw [upd_ne ne]; exact e)
  · by_cases q : b = p
    · subst q
      exact .inr hP
    · rw [upd_ne q] at z
      rcases R.fr b z with z | z
      · exact .inl z
      · rw [upd_ne q] at z
        exact .inr z
  · obtain ⟨v, h1, h2⟩ := R.vl i d h
    exact ⟨v, h1, h2.mono sF⟩
  · obtain ⟨a, h1, h2⟩ := R.sc i ns h
    exact ⟨a, h1, h2.mono sF⟩
  · obtain ⟨h1, h2, h3, h4⟩ := R.cl i x xs h hx
    have ne := ap i x h (by rw [hx]; rfl)
    rw [upd_ne ne] at h3
    exact ⟨h1, by rw [upd_ne ne]; exact h2, h3, h4.step sF fun o q _ => by rw [upd_ne ne]; exact q⟩
  · have ne : b ≠ p := fun q => by subst q; rw [hP] at z; cases z
    exact R.np b ps (by rw [upd_ne ne]; exact z)
  · by_cases q : b = p
    · subst q
      rw [upd_same] at z
      exact ho' ps (Option.some.inj z)
    · rw [upd_ne q] at z
      exact R.nf b ps z
theorem RC.relay (R : RC K (upd P p o) F0 qc F cell S σ H) (hp : F0 p = none) (ho : ∀ f, o ≠ .ext f := by intro f h; cases h) (ho' : ∀ ps, o' ≠ .tbl ps := by intro ps h; cases h) : RC K (upd P p o') F0 qc F cell S σ (upd H p o') := by
  have hF := R.laid_untold hp
  have ap := R.laid_apart
  refine ⟨R.len, R.f0, fun b u e => ?_, fun b u e => ?_, fun b z => ?_, R.vl, R.sc, fun i x xs h hx => ?_, R.qs, R.inj, fun b ps z => ?_, R.nf, tabs_upd R.tb R.laid_at ⟨fun ps e => R.np p ps (by rw [upd_same, e]), ho⟩⟩
  · have ne : b ≠ p := fun q => by subst q; rw [hF] at e; cases e
    rw [upd_ne ne]
    exact R.fh b u e
  · by_cases q : b = p
    · subst q
      rw [upd_same] at e ⊢
      exact e
    · rw [upd_ne q] at e ⊢
      exact R.ph b u (by rw [upd_ne q]; exact e)
  · rcases R.fr b z with z | z
    · exact .inl z
    · by_cases q : b = p
      · subst q
        rw [upd_same] at z; cases z
      · rw [upd_ne q] at z ⊢
        exact .inr z
  · obtain ⟨h1, h2, h3, h4⟩ := R.cl i x xs h hx
    have ne := ap i x h (by rw [hx]; rfl)
    rw [upd_ne ne] at h3
    exact ⟨h1, h2, by rw [upd_ne ne]; exact h3, h4.step (Same.refl _) fun o q _ => by rw [upd_ne ne]; exact q⟩
  · by_cases q : b = p
    · subst q
      rw [upd_same] at z
      exact ho' ps (Option.some.inj z)
    · rw [upd_ne q] at z
      exact R.np b ps (by rw [upd_ne q]; exact z)
end
def mDict1 (z : Str) (me : ME) : ME := fun S => match me S with
  | none => none
  | some (r, S1) => match stable r with
    | some d => some (.v (.dict [(.str z, d)]), S1)
    | none => none
section
variable {X : Cx} {e : Expr} {me : ME} {pos p1 : Pos}
theorem je_dict0 : JE X (.Dict [] [] pos) (mC (.dict [])) := by
  refine ⟨_, pe_dnewK, fun P F0 qc F cell S σ H Q z S' R hm k => ?_⟩
  cases hm
  intro p hp
  have ex : Ext F H (upd F p (.dK [])) (upd H p (.dK [])) := Ext.new R.fh hp
  exact k _ _ _ ex.f (R.ext ex) (.dct (kvs := []) (ks := []) (es := []) upd_same .nil .nil)
theorem je_dict1 {z : Str} {j} (he : JE X e me) : JE X (.Dict [some (.Constant (.str z) j p1)] [e] pos) (mDict1 z me) := by
  obtain ⟨te, pe, se⟩ := he.ex
  refine ⟨_, pe_disp (pps_cons pe_str pe pps_nil) (by rfl) (by rfl) (fun z => by cases z) (by show 1 ≤ 15; decide), fun P F0 qc F cell S σ H Q r S' R hm k => ?_⟩
  unfold mDict1 at hm
  split at hm
  · cases hm
  · rename_i r1 S1 e1
    split at hm
    · rename_i d hd
      cases hm
      intro p hp
      show te σ (upd H p (.dK [])) _
      refine se (upd P p (.dK [])) F0 qc F cell S σ _ _ r1 S' (R.lay hp) e1 fun v1 F1 H1 s1 R1 q1 => ?_
      have hF0 : F0 p = none := (R.f0.trans R.fh).free hp
      have hP : P p = none := R.ph.free hp
      have q1' : DV X.K F1 v1 d := by
        cases r1 with
        | v d' => cases hd; exact q1
        | p i => cases hd
        | s ns => cases hd
      refine ⟨R1.laid_at, [(.inr z, v1)], rfl, by show 1 ≤ 15; decide, ?_⟩
      obtain ⟨R2, s2⟩ := R1.adopt (o' := .dK (mergeK [] [(.inr z, v1)])) hF0 hP
      refine k _ _ _ (s1.trans s2) R2 ?_
      exact .dct (kvs := [(.inr z, v1)]) (ks := [.str z]) (es := [d]) upd_same (.cons (.str z) .nil) (.cons (q1'.mono s2) .nil)
    · cases hm
end
abbrev MF := List SL → Option (PyData × List SL)
def ArgR (K : PySem.W.Frag) (F H : Hp) : SL → V → Prop
  | .v d, v => DV K F v d
  | .q xs, v => ∃ c, v = .ref c ∧ F c = none ∧ CT.At K F H c xs
  | .s o, v => OR K F o v
  | .c _, _ => False
structure Fits (K : PySem.W.Frag) (F H : Hp) (as : List SL) (vs : List V) : Prop where
  len : vs.length = as.length
  arg : ∀ (j : Nat) (a : SL), as[j]? = some a → ∃ v, vs[j]? = some v ∧ ArgR K F H a v
  dist : ∀ (i j : Nat) (x y : CT) (c : Addr), as[i]? = some (.q x) → as[j]? = some (.q y) → vs[i]? = some (.ref c) → vs[j]? = some (.ref c) → i = j
  nf : ∀ b ps, F b ≠ some (.tbl ps)
  tb : LamX.Tabs LT.T H
structure Back (K : PySem.W.Frag) (F H F' H' : Hp) (as : List SL) (vs : List V) (as' : List SL) (v : V) (d : PyData) : Prop where
  f : Same F F'
  fh : Same F' H'
  keep : ∀ b o, H b = some o → (∀ ps, o ≠ .tbl ps) → (∀ (j : Nat) (xs : CT), as[j]? = some (.q xs) → vs[j]? ≠ some (.ref b)) → H' b = some o
  fr : ∀ b, F' b ≠ none → F b ≠ none ∨ H b = none ∨ ∃ ps, H b = some (.tbl ps)
  nf : ∀ b ps, F' b ≠ some (.tbl ps)
  tb : LamX.Tabs LT.T H'
  dv : DV K F' v d
  qs : ∀ (j : Nat) (xs : CT), as'[j]? = some (.q xs) → ∃ c, vs[j]? = some (.ref c) ∧ CT.At K F' H' c xs
def spM (K : PySem.W.Frag) (n : Nat) (m : MF) : Sp := fun vs H Q _ => vs.length = n ∧ ∃ F as d as', Same F H ∧ Fits K F H as vs ∧ m as = some (d, as') ∧ ∀ v F' H', Back K F H F' H' as vs as' v d → Q v H'
def argOf (S : Sl) : SV → Option SL
  | .v d => some (.v d)
  | .p i => (heldAt S i).map .q
  | .s ns => some (.s ns)
def argsOf (S : Sl) : List SV → Option (List SL)
  | [] => some []
  | r :: rs => match argOf S r, argsOf S rs with
    | some a, some as => some (a :: as)
    | _, _ => none
def ptrs : List SV → List Nat
  | [] => []
  | .p i :: rs => i :: ptrs rs
  | _ :: rs => ptrs rs
def SL.put (xs : CT) : SL → SL
  | .c _ => .c xs
  | .q _ => .q xs
  | x => x
def putAt (S : Sl) (i : Nat) (xs : CT) : Sl := S.set i ((S[i]?.bind id).map (SL.put xs))
def putBack (S : Sl) : List SV → List SL → Option Sl
  | [], [] => some S
  | .p i :: rs, .q xs :: as => putBack (putAt S i xs) rs as
  | .v _ :: rs, _ :: as => putBack S rs as
  | .s _ :: rs, _ :: as => putBack S rs as
  | _, _ => none
def mCallF (n : Nat) (m : MF) (ma : MA) : ME := fun S => match ma S with
  | none => none
  | some (rs, S1) => if rs.length = n ∧ (ptrs rs).Nodup then match argsOf S1 rs with
      | none => none
      | some as => match m as with
        | none => none
        | some (d, as') => match putBack S1 rs as' with
          | none => none
          | some S2 => some (.v d, S2)
    else none
theorem mem_ptrs : ∀ {rs : List SV} {i : Nat}, i ∈ ptrs rs ↔ ∃ j : Nat, rs[j]? = some (.p i)
  | [], i => by simp [ptrs]
  | .p k :: rs, i => by
    unfold ptrs
    rw [List.mem_cons, mem_ptrs]
    constructor
    · rintro (rfl | ⟨j, h⟩)
      · exact ⟨0, rfl⟩
      · exact ⟨j + 1, h⟩
    · rintro ⟨j, h⟩
      cases j with
      | zero => simp at h; exact .inl h.symm
      | succ j => exact .inr ⟨j, by simpa using h⟩
  | .v d :: rs, i => by
    unfold ptrs
    rw [mem_ptrs]
    constructor
    · rintro ⟨j, h⟩
      exact ⟨j + 1, h⟩
    · rintro ⟨j, h⟩
      cases j with
      | zero => simp at h
      | succ j => exact ⟨j, by simpa using h⟩
  | .s d :: rs, i => by
    unfold ptrs
    rw [mem_ptrs]
    constructor
    · rintro ⟨j, h⟩
      exact ⟨j + 1, h⟩
    · rintro ⟨j, h⟩
      cases j with
      | zero => simp at h
      | succ j => exact ⟨j, by simpa using h⟩
theorem ptrs_inj : ∀ {rs : List SV} {i j k : Nat}, (ptrs rs).Nodup → rs[i]? = some (.p k) → rs[j]? = some (.p k) → i = j
  | [], _, _, _, _, h, _ => by simp at h
  | r :: rs, i, j, k, nd, h1, h2 => by
    have tail : (ptrs rs).Nodup := by
      cases r with
      | p m => exact (List.nodup_cons.mp nd).2
      | v d => exact nd
      | s d => exact nd
    have no : r = .p k → ∀ m : Nat, rs[m]? ≠ some (.p k) := fun e m h => by
      subst e
      exact (List.nodup_cons.mp nd).1 (mem_ptrs.mpr ⟨m, h⟩)
    cases i with
    | zero =>
      have e1 : r = .p k := by simpa using h1
      cases j with
      | zero => rfl
      | succ j => exact absurd (by simpa using h2) (no e1 j)
    | succ i =>
      cases j with
      | zero => exact absurd (by simpa using h1) (no (by simpa using h2) i)
      | succ j => rw [ptrs_inj tail (i := i) (j := j) (k := k) (by simpa using h1) (by simpa using h2)]
theorem putAt_len (S : Sl) (i : Nat) (xs : CT) : (putAt S i xs).length = S.length := by unfold putAt; rw [List.length_set]
theorem putAt_same {S : Sl} {i : Nat} {xs : CT} {x : SL} (h : S[i]? = some (some x)) : (putAt S i xs)[i]? = some (some (x.put xs)) := by
  unfold putAt
  have hi : i < S.length := (List.getElem?_eq_some_iff.mp h).1
  rw [List.getElem?_set_self hi, h]
  rfl
theorem putAt_ne {S : Sl} {i j : Nat} {xs : CT} (h : i ≠ j) : (putAt S i xs)[j]? = S[j]? := by
  unfold putAt
  rw [List.getElem?_set_ne h]
theorem putBack_len : ∀ {rs : List SV} {as : List SL} {S S2 : Sl}, putBack S rs as = some S2 → S2.length = S.length
  | [], [], _, _, h => by cases h; rfl
  | [], _ :: _, _, _, h => by simp [putBack] at h
  | .p i :: rs, [], _, _, h => by simp [putBack] at h
  | .v d :: rs, [], _, _, h => by simp [putBack] at h
  | .s d :: rs, [], _, _, h => by simp [putBack] at h
  | .p i :: rs, a :: as, S, S2, h => by
    cases a with
    | q xs =>
      have h' : putBack (putAt S i xs) rs as = some S2 := h
      rw [putBack_len h', putAt_len]
    | _ => simp [putBack] at h
  | .v d :: rs, a :: as, S, S2, h => putBack_len (show putBack S rs as = some S2 from h)
  | .s d :: rs, a :: as, S, S2, h => putBack_len (show putBack S rs as = some S2 from h)
theorem putBack_out : ∀ {rs : List SV} {as : List SL} {S S2 : Sl} {i : Nat}, putBack S rs as = some S2 → i ∉ ptrs rs → S2[i]? = S[i]?
  | [], [], _, _, _, h, _ => by cases h; rfl
  | [], _ :: _, _, _, _, h, _ => by simp [putBack] at h
  | .p i :: rs, [], _, _, _, h, _ => by simp [putBack] at h
  | .v d :: rs, [], _, _, _, h, _ => by simp [putBack] at h
  | .s d :: rs, [], _, _, _, h, _ => by simp [putBack] at h
  | .p k :: rs, a :: as, S, S2, i, h, hn => by
    cases a with
    | q xs =>
      have h' : putBack (putAt S k xs) rs as = some S2 := h
      have hn' : i ≠ k ∧ i ∉ ptrs rs := by
        have q : i ∉ k :: ptrs rs := hn
        exact ⟨fun e => q (e ▸ List.mem_cons_self), fun e => q (List.mem_cons_of_mem _ e)⟩
      rw [putBack_out h' hn'.2, putAt_ne (Ne.symm hn'.1)]
    | _ => simp [putBack] at h
  | .v d :: rs, a :: as, S, S2, i, h, hn => putBack_out (show putBack S rs as = some S2 from h) hn
  | .s d :: rs, a :: as, S, S2, i, h, hn => putBack_out (show putBack S rs as = some S2 from h) hn
theorem putBack_in : ∀ {rs : List SV} {as : List SL} {S S2 : Sl} {i j : Nat} {x : SL}, putBack S rs as = some S2 → (ptrs rs).Nodup → rs[j]? = some (.p i) → S[i]? = some (some x) → ∃ xs, as[j]? = some (.q xs) ∧ S2[i]? = some (some (x.put xs))
  | [], [], _, _, _, _, _, _, _, h, _ => by simp at h
  | [], _ :: _, _, _, _, _, _, h, _, _, _ => by simp [putBack] at h
  | .p i :: rs, [], _, _, _, _, _, h, _, _, _ => by simp [putBack] at h
  | .v d :: rs, [], _, _, _, _, _, h, _, _, _ => by simp [putBack] at h
  | .s d :: rs, [], _, _, _, _, _, h, _, _, _ => by simp [putBack] at h
  | .p k :: rs, a :: as, S, S2, i, j, x, h, nd, hj, hx => by
    cases a with
    | q xs =>
      have h' : putBack (putAt S k xs) rs as = some S2 := h
      obtain ⟨n1, n2⟩ := List.nodup_cons.mp (show (k :: ptrs rs).Nodup from nd)
      cases j with
      | zero =>
        have e : k = i := by simpa using hj
        subst e
        exact ⟨xs, rfl, by rw [putBack_out h' n1]; exact putAt_same hx⟩
      | succ j =>
        have hj' : rs[j]? = some (.p i) := by simpa using hj
        have ne : k ≠ i := fun e => n1 (e ▸ mem_ptrs.mpr ⟨j, hj'⟩)
        obtain ⟨ys, h1, h2⟩ := putBack_in h' n2 hj' (x := x) (by rw [putAt_ne ne]; exact hx)
        exact ⟨ys, by simpa using h1, h2⟩
    | _ => simp [putBack] at h
  | .v d :: rs, a :: as, S, S2, i, j, x, h, nd, hj, hx => by
    cases j with
    | zero => simp at hj
    | succ j =>
      obtain ⟨ys, h1, h2⟩ := putBack_in (show putBack S rs as = some S2 from h) nd (show rs[j]? = some (.p i) by simpa using hj) hx
      exact ⟨ys, by simpa using h1, h2⟩
  | .s d :: rs, a :: as, S, S2, i, j, x, h, nd, hj, hx => by
    cases j with
    | zero => simp at hj
    | succ j =>
      obtain ⟨ys, h1, h2⟩ := putBack_in (show putBack S rs as = some S2 from h) nd (show rs[j]? = some (.p i) by simpa using hj) hx
      exact ⟨ys, by simpa using h1, h2⟩
theorem argsOf_len : ∀ {rs : List SV} {S : Sl} {as : List SL}, argsOf S rs = some as → as.length = rs.length
  | [], _, _, h => by cases h; rfl
  | r :: rs, S, as, h => by
    unfold argsOf at h
    split at h
    · rename_i a as' h1 h2
      cases h
      rw [List.length_cons, List.length_cons, argsOf_len h2]
    · cases h
theorem argsOf_at : ∀ {rs : List SV} {S : Sl} {as : List SL} {j : Nat} {a : SL}, argsOf S rs = some as → as[j]? = some a → ∃ r, rs[j]? = some r ∧ argOf S r = some a
  | [], _, _, _, _, h, e => by cases h; simp at e
  | r :: rs, S, as, j, a, h, e => by
    unfold argsOf at h
    split at h
    · rename_i a' as' h1 h2
      cases h
      cases j with
      | zero =>
        simp at e
        subst e
        exact ⟨r, rfl, h1⟩
      | succ j =>
        obtain ⟨r', h3, h4⟩ := argsOf_at h2 (j := j) (a := a) (by simpa using e)
        exact ⟨r', by simpa using h3, h4⟩
    · cases h
theorem argsOf_got : ∀ {rs : List SV} {S : Sl} {as : List SL} {j : Nat} {r : SV}, argsOf S rs = some as → rs[j]? = some r → ∃ a, as[j]? = some a ∧ argOf S r = some a
  | [], _, _, _, _, h, e => by simp at e
  | r' :: rs, S, as, j, r, h, e => by
    unfold argsOf at h
    split at h
    · rename_i a' as' h1 h2
      cases h
      cases j with
      | zero =>
        simp at e
        subst e
        exact ⟨a', rfl, h1⟩
      | succ j =>
        obtain ⟨a, h3, h4⟩ := argsOf_got h2 (j := j) (r := r) (by simpa using e)
        exact ⟨a, by simpa using h3, h4⟩
    · cases h
section
variable {K : PySem.W.Frag} {P F0 F F' : Hp} {qc cell : Nat → Addr} {S : Sl} {σ : L2.St} {H H' : Hp}
theorem VRs.at : ∀ {rs : List SV} {vs : List V} {j : Nat} {r : SV}, VRs K F cell rs vs → rs[j]? = some r → ∃ v, vs[j]? = some v ∧ VR K F cell r v
  | [], _, _, _, _, e => by simp at e
  | r' :: rs, _, j, r, ⟨v, ws, h1, h2, h3⟩, e => by
    subst h1
    cases j with
    | zero =>
      simp at e
      subst e
      exact ⟨v, rfl, h2⟩
    | succ j =>
      obtain ⟨u, h4, h5⟩ := VRs.at h3 (j := j) (r := r) (by simpa using e)
      exact ⟨u, by simpa using h4, h5⟩
theorem held_of {i : Nat} {xs : CT} (h : heldAt S i = some xs) : ∃ x : SL, S[i]? = some (some x) ∧ x.held = some xs := by
  unfold heldAt at h
  cases e : S[i]? with
  | none => rw [e] at h; cases h
  | some o =>
    cases o with
    | none => rw [e] at h; cases h
    | some x =>
      rw [e] at h
      exact ⟨x, rfl, h⟩
theorem SL.put_held {x : SL} {xs ys : CT} (h : x.held = some xs) : (x.put ys).held = some ys := by
  cases x with
  | c z => rfl
  | q z => rfl
  | v d => cases h
  | s ns => cases h
theorem SL.put_q {x : SL} {xs ys : CT} (h : x.put ys = .q xs) : ∃ z, x = .q z := by
  cases x with
  | q z => exact ⟨z, rfl⟩
  | c z => cases h
  | v d => cases h
  | s ns => cases h
theorem RC.fits (R : RC K P F0 qc F cell S σ H) {rs : List SV} {vs : List V} {as : List SL} (hv : VRs K F cell rs vs) (ha : argsOf S rs = some as) (nd : (ptrs rs).Nodup) : Fits K F H as vs := by
  refine ⟨by rw [hv.length, argsOf_len ha], fun j a e => ?_, fun i j x y c h1 h2 h3 h4 => ?_, R.nf, R.tb⟩
  · obtain ⟨r, hr, hra⟩ := argsOf_at ha e
    obtain ⟨v, h1, h2⟩ := hv.at hr
    refine ⟨v, h1, ?_⟩
    cases r with
    | v d => cases hra; exact h2
    | s ns => cases hra; exact h2
    | p i =>
      obtain ⟨xs, hx, rfl⟩ := Option.map_eq_some_iff.mp (show (heldAt S i).map SL.q = some a from hra)
      obtain ⟨_, h3, _, h4⟩ := R.at hx
      exact ⟨cell i, h2, h3, h4⟩
  · obtain ⟨r1, hr1, hra1⟩ := argsOf_at ha h1
    obtain ⟨r2, hr2, hra2⟩ := argsOf_at ha h2
    obtain ⟨v1, q1, q2⟩ := hv.at hr1
    obtain ⟨v2, q3, q4⟩ := hv.at hr2
    rw [h3] at q1
    rw [h4] at q3
    cases q1
    cases q3
    cases r1 with
    | v d => cases hra1
    | s ns => cases hra1
    | p k1 =>
      cases r2 with
      | v d => cases hra2
      | s ns => cases hra2
      | p k2 =>
        obtain ⟨xs, hx, _⟩ := Option.map_eq_some_iff.mp (show (heldAt S k1).map SL.q = some _ from hra1)
        obtain ⟨ys, hy, _⟩ := Option.map_eq_some_iff.mp (show (heldAt S k2).map SL.q = some _ from hra2)
        obtain ⟨x', e1, e2⟩ := held_of hx
        obtain ⟨y', e3, e4⟩ := held_of hy
        have c1 : V.ref c = .ref (cell k1) := q2
        have c2 : V.ref c = .ref (cell k2) := q4
        have e : cell k1 = cell k2 := by
          have := c1.symm.trans c2
          injection this
        have := R.inj k1 k2 x' y' e1 e3 (by rw [e2]; rfl) (by rw [e4]; rfl) e
        subst this
        exact ptrs_inj nd hr1 hr2
theorem RC.no_tbl (R : RC K P F0 qc F cell S σ H) {b : Addr} {ps : Array Value} (h : H b = some (.tbl ps)) : P b = none := by
  cases q : P b with
  | none => rfl
  | some o =>
    have := R.ph b o q
    rw [h] at this
    cases this
    exact absurd q (R.np b ps)
def FreeT (H : Hp) (p : Addr) : Prop := H p = none ∨ ∃ ps, H p = some (.tbl ps)
theorem RC.freeP (R : RC K P F0 qc F cell S σ H) {p : Addr} (h : FreeT H p) : P p = none := h.elim R.ph.free fun ⟨_, z⟩ => R.no_tbl z
theorem RC.free0 (R : RC K P F0 qc F cell S σ H) {p : Addr} (h : FreeT H p) : F0 p = none := by
  rcases h with h | ⟨ps, h⟩
  · exact (R.f0.trans R.fh).free h
  · cases q : F0 p with
    | none => rfl
    | some o =>
      have e := R.f0 p o q
      have e2 := R.fh p o e
      rw [h] at e2
      cases e2
      exact absurd e (R.nf p ps)
theorem RC.apart_newT (R : RC K P F0 qc F cell S σ H) {p : Addr} (hp : FreeT H p) : Apart S cell p := fun i x h hx e => by
  obtain ⟨xs, hx'⟩ := Option.isSome_iff_exists.mp hx
  obtain ⟨_, _, _, h4⟩ := R.cl i x xs h hx'
  obtain ⟨o, h5, h6⟩ := h4.is
  rcases hp with hp | ⟨ps, hp⟩
  · rw [e, hp] at h5
    cases h5
  · rw [e, hp] at h5
    cases h5
    rcases h6 with ⟨vs, z⟩ | ⟨C, dx, fs, z⟩ <;> cases z
theorem RC.back (R : RC K P F0 qc F cell S σ H) {rs : List SV} {vs : List V} {as as' : List SL} {v : V} {d : PyData} {S2 : Sl} (hv : VRs K F cell rs vs) (ha : argsOf S rs = some as) (nd : (ptrs rs).Nodup) (B : Back K F H F' H' as vs as' v d)
    (hb : putBack S rs as' = some S2) : RC K P F0 qc F' cell S2 σ H' := by
  have lent : ∀ {i : Nat} {j : Nat}, rs[j]? = some (.p i) → vs[j]? = some (.ref (cell i)) := fun {i j} h => by
    obtain ⟨u, h1, h2⟩ := hv.at h
    rw [h1, show u = .ref (cell i) from h2]
  have isq : ∀ {j : Nat} {xs : CT} {b : Addr}, as[j]? = some (.q xs) → vs[j]? = some (.ref b) → ∃ i, rs[j]? = some (.p i) ∧ b = cell i := fun {j xs b} h1 h2 => by
    obtain ⟨r, hr, hra⟩ := argsOf_at ha h1
    cases r with
    | v d => cases hra
    | s ns => cases hra
    | p i =>
      refine ⟨i, hr, ?_⟩
      have := (lent hr).symm.trans h2
      injection this with this
      injection this with this
      exact this.symm
  have stay : ∀ b o, H b = some o → (∀ ps, o ≠ .tbl ps) → (∀ i, i ∈ ptrs rs → b ≠ cell i) → H' b = some o := fun b o h ho hn => by
    refine B.keep b o h ho fun j xs h1 h2 => ?_
    obtain ⟨i, h3, h4⟩ := isq h1 h2
    exact hn i (mem_ptrs.mpr ⟨j, h3⟩) h4
  have heldP : ∀ i, i ∈ ptrs rs → ∃ x xs, S[i]? = some (some x) ∧ x.held = some xs := fun i hi => by
    obtain ⟨j, hj⟩ := mem_ptrs.mp hi
    obtain ⟨a, h1, h2⟩ := argsOf_got ha hj
    obtain ⟨xs, hx, _⟩ := Option.map_eq_some_iff.mp (show (heldAt S i).map SL.q = some a from h2)
    obtain ⟨x, e1, e2⟩ := held_of hx
    exact ⟨x, xs, e1, e2⟩
  have look : ∀ {i : Nat} {y : SL}, S2[i]? = some (some y) → (i ∉ ptrs rs ∧ S[i]? = some (some y)) ∨ (i ∈ ptrs rs ∧ ∃ (x : SL) (xs ys : CT) (j : Nat), S[i]? = some (some x) ∧ x.held = some xs ∧ rs[j]? = some (.p i) ∧ as'[j]? = some (.q ys) ∧ y = x.put ys) := fun {i y} h => by
    by_cases hi : i ∈ ptrs rs
    · obtain ⟨x, xs, e1, e2⟩ := heldP i hi
      obtain ⟨j, hj⟩ := mem_ptrs.mp hi
      obtain ⟨ys, h1, h2⟩ := putBack_in hb nd hj e1
      rw [h] at h2
      cases h2
      exact .inr ⟨hi, x, xs, ys, j, e1, e2, hj, h1, rfl⟩
    · exact .inl ⟨hi, by rw [← putBack_out hb hi]; exact h⟩
  refine ⟨by rw [putBack_len hb]; exact R.len, R.f0.trans B.f, B.fh, fun b o e => ?_, fun b z => ?_, fun i d' h => ?_, fun i ns h => ?_, fun i y ys h hy => ?_, fun i xs h => ?_, fun i j x y h1 h2 hx hy e => ?_, R.np, B.nf, B.tb⟩
  · refine stay b o (R.ph b o e) (fun ps q => R.np b ps (by rw [e, q])) fun i hi q => ?_
    obtain ⟨x, xs, e1, e2⟩ := heldP i hi
    obtain ⟨_, _, h3, _⟩ := R.cl i x xs e1 e2
    subst q
    rw [h3] at e; cases e
  · rcases B.fr b z with z | z | ⟨ps, z⟩
    · exact R.fr b z
    · exact .inr (R.ph.free z)
    · exact .inr (R.no_tbl z)
  · rcases look h with ⟨_, h'⟩ | ⟨_, x, xs, ys, j, e1, e2, _, _, e5⟩
    · obtain ⟨u, h1, h2⟩ := R.vl i d' h'
      exact ⟨u, h1, h2.mono B.f⟩
    · have q := SL.put_held (ys := ys) e2
      rw [← e5] at q
      cases q
  · rcases look h with ⟨_, h'⟩ | ⟨_, x, xs, ys, j, e1, e2, _, _, e5⟩
    · obtain ⟨u, h1, h2⟩ := R.sc i ns h'
      exact ⟨u, h1, h2.mono B.f⟩
    · have q := SL.put_held (ys := ys) e2
      rw [← e5] at q
      cases q
  · have untold : ∀ {a : Addr} {x : CT}, F a = none → CT.At K F H a x → F' a = none := fun {a x} h1 hx => by
      obtain ⟨o, h2, h3⟩ := hx.is
      cases q : F' a with
      | none => rfl
      | some u =>
        rcases B.fr a (by rw [q]; simp) with z | z | ⟨ps, z⟩
        · exact absurd h1 z
        · rw [h2] at z; cases z
        · rw [h2] at z
          cases z
          rcases h3 with ⟨vs, z⟩ | ⟨C, dx, fs, z⟩ <;> cases z
    rcases look h with ⟨hi, h'⟩ | ⟨hi, x, xs, zs, j, e1, e2, e3, e4, e5⟩
    · obtain ⟨h1, h2, h3, h4⟩ := R.cl i y ys h' hy
      refine ⟨h1, untold h2 h4, h3, h4.step B.f fun o q co => stay _ _ q (fun _ z => by rw [z] at co; rcases co with ⟨vs, z⟩ | ⟨C, dx, fs, z⟩ <;> cases z) fun k hk q => ?_⟩
      obtain ⟨x, xs, e1, e2⟩ := heldP k hk
      have := R.inj i k y x h' e1 (by rw [hy]; rfl) (by rw [e2]; rfl) q
      subst this
      exact hi hk
    · obtain ⟨h1, h2, h3, h4⟩ := R.cl i x xs e1 e2
      obtain ⟨c, g1, g2⟩ := B.qs j zs e4
      rw [lent e3] at g1
      cases g1
      have hz : zs = ys := by
        have q := SL.put_held (ys := zs) e2
        rw [← e5, hy] at q
        exact (Option.some.inj q).symm
      subst hz
      exact ⟨h1, untold h2 h4, h3, g2⟩
  · rcases look h with ⟨_, h'⟩ | ⟨_, x, ws, ys, j, e1, e2, _, _, e5⟩
    · exact R.qs i xs h'
    · obtain ⟨z, hz⟩ := SL.put_q e5.symm
      subst hz
      exact R.qs i z e1
  · have old : ∀ {i : Nat} {y : SL}, S2[i]? = some (some y) → y.held.isSome = true → ∃ x : SL, S[i]? = some (some x) ∧ x.held.isSome = true := fun {i y} h hy => by
      rcases look h with ⟨_, h'⟩ | ⟨_, x, ws, ys, j, e1, e2, _, _, e5⟩
      · exact ⟨y, h', hy⟩
      · exact ⟨x, e1, by rw [e2]; rfl⟩
    obtain ⟨x', g1, g2⟩ := old h1 hx
    obtain ⟨y', g3, g4⟩ := old h2 hy
    exact R.inj i j x' y' g1 g3 g2 g4 e
end
section
variable {X : Cx} {CX : CXT} {k n : Nat} {f : Addr} {fd : FuncData} {ps ks : List Str} {x : Str} {p pos : Pos} {e : Expr} {es : List Expr} {kws : List Keyword} {m : MF} {mas : MA}
theorem snd_callF {K : PySem.W.Frag} {ta : TA} (sa : SndA K ta mas) : SndE K (tCall (spM K n m) [] E0 ta) (mCallF n m mas) := by
  intro P F0 qc F cell S σ H Q z S' R hm k
  unfold mCallF at hm
  split at hm
  · cases hm
  · rename_i rs S1 e1
    split at hm
    · rename_i hc
      split at hm
      · cases hm
      · rename_i as ha
        split at hm
        · cases hm
        · rename_i d as' hd
          split at hm
          · cases hm
          · rename_i S2 hb
            cases hm
            refine sa P F0 qc F cell S σ H _ rs S1 R e1 fun vs F1 H1 s1 R1 q1 => ?_
            show spM K n m (vs ++ []) H1 Q E0
            rw [List.append_nil]
            refine ⟨by rw [q1.length]; exact hc.1, F1, as, d, as', R1.fh, R1.fits q1 ha hc.2, hd, fun v F' H' B => ?_⟩
            exact k v F' H' (s1.trans B.f) (R1.back q1 ha hc.2 B hb) B.dv
    · cases hm
theorem je_callF (G : FnG X.prog X.w X.K X.mg X.base CX0 k f fd ps (spM X.K n m)) (gd : X.A.guards = some []) (hr : Room k X.A) (hm : X.mg x = some (.ref f)) (hk : PySem.W.keepIn X.K (.ref f) = true) (hb : Binds X.K fd ps []) (ha : JA X (e :: es) mas)
    (hg : Gl X x := by rfl) (hdb : (x == ("__debug__" : Str)) = false := by decide) (he : starEach (e :: es) X.env = (false, eval e X.env) :: starEach es X.env := by rfl) (hpl : (backTo pos (starEach es X.env)).any (·.1) = false := by rfl) :
    JE X (.Call (.Name x p) (e :: es) [] pos) (mCallF n m mas) := by
  obtain ⟨ta, pa, sa⟩ := ha.ex
  exact ⟨_, pe_callG G gd hr hg hm hk hb .nil pass0 pa hdb he hpl, snd_callF sa⟩
end
end VL
namespace VL
open PySem PySem.Spec PyProof.Rows L2
variable [LT]
def FlK (K : PySem.W.Frag) (W : WX) (F : Hp) (cell : Nat → Addr) (fl : Fl) (D : Ends) (σ : L2.St) (H : Hp) : Prop :=
  match fl with
  | .nx => D.nx σ H
  | .bk => D.bk σ H
  | .ct => D.ct σ H
  | .rt r => ∀ v, VR K F cell r v → D.rt v H
  | .rz c fs => ∀ (C : Addr) (dd : Option Addr) (vs : List V), PySem.W.nsIn K mainGlobals c = some (some (.ref C)) → VX.XDA F dd ((fs.map (·.1)).zip vs) → DVs K F vs (fs.map (·.2)) → W (.ref C) dd σ H
def SndS (K : PySem.W.Frag) (W : WX) (t : TS) (m : MS) : Prop :=
  ∀ (P F0 : Hp) (qc : Nat → Addr) (F : Hp) (cell : Nat → Addr) (S : Sl) (σ : L2.St) (H : Hp) (D : Ends) (fl : Fl) (S' : Sl), RC K P F0 qc F cell S σ H → m S = some (fl, S') →
    (∀ F' cell' σ' H', Same F F' → RC K P F0 qc F' cell' S' σ' H' → FlK K W F' cell' fl D σ' H') → t D σ H
structure JS (X : Cx) (W : WX) (st : Stmt) (m : MS) : Prop where
  ex : ∃ t, PS X st t ∧ SndS X.K W t m
structure JB (X : Cx) (W : WX) (sts : List Stmt) (m : MS) : Prop where
  ex : ∃ t, PSs X sts t ∧ SndS X.K W t m
def W0 : WX := fun _ _ _ _ => False
section
variable {K : PySem.W.Frag} {P F0 F F' : Hp} {qc cell : Nat → Addr} {S : Sl} {σ : L2.St} {H H' : Hp}
theorem get_set {α : Type} {l : List α} {i j : Nat} {a b : α} (h : (l.set i a)[j]? = some b) : (i = j ∧ b = a ∧ i < l.length) ∨ (i ≠ j ∧ l[j]? = some b) := by
  rw [List.getElem?_set] at h
  by_cases e : i = j
  · subst e
    rw [if_pos rfl] at h
    split at h
    · cases h
      exact .inl ⟨rfl, rfl, by assumption⟩
    · cases h
  · rw [if_neg e] at h
    exact .inr ⟨e, h⟩
theorem RC.setV (R : RC K P F0 qc F cell S σ H) {i : Nat} {v : V} {d : PyData} (h : DV K F v d) : RC K P F0 qc F cell (S.set i (some (.v d))) (σ.set i (some v)) H := by
  refine ⟨by rw [List.length_set, List.length_set]; exact R.len, R.f0, R.fh, R.ph, R.fr, fun j d' e => ?_, fun j ns e => ?_, fun j x xs e hx => ?_, fun j xs e => ?_, fun j k x y e1 e2 hx hy => ?_, R.np, R.nf, R.tb⟩
  · rcases get_set e with ⟨rfl, e2, hl⟩ | ⟨ne, e⟩
    · cases e2
      exact ⟨v, by rw [List.getElem?_set_self (by rw [← R.len]; exact hl)], h⟩
    · obtain ⟨u, h1, h2⟩ := R.vl j d' e
      exact ⟨u, by rw [List.getElem?_set_ne ne]; exact h1, h2⟩
  · rcases get_set e with ⟨rfl, e2, hl⟩ | ⟨ne, e⟩
    · cases e2
    · obtain ⟨u, h1, h2⟩ := R.sc j ns e
      exact ⟨u, by rw [List.getElem?_set_ne ne]; exact h1, h2⟩
  · rcases get_set e with ⟨rfl, e2, hl⟩ | ⟨ne, e⟩
    · cases e2
      cases hx
    · obtain ⟨h1, h2⟩ := R.cl j x xs e hx
      exact ⟨by rw [List.getElem?_set_ne ne]; exact h1, h2⟩
  · rcases get_set e with ⟨rfl, e2, hl⟩ | ⟨ne, e⟩
    · cases e2
    · exact R.qs j xs e
  · rcases get_set e1 with ⟨rfl, e3, hl⟩ | ⟨ne, e1⟩
    · cases e3
      cases hx
    · rcases get_set e2 with ⟨rfl, e4, hl⟩ | ⟨ne2, e2⟩
      · cases e4
        cases hy
      · exact R.inj j k x y e1 e2 hx hy
theorem RC.setCT (R : RC K P F0 qc F cell S σ H) {i : Nat} {p : Addr} {x : CT} (hF : F p = none) (hP : P p = none) (ap : Apart S cell p) (h : CT.At K F H p x) :
    RC K P F0 qc F (fun j => if j = i then p else cell j) (S.set i (some (.c x))) (σ.set i (some (.ref p))) H := by
  refine ⟨by rw [List.length_set, List.length_set]; exact R.len, R.f0, R.fh, R.ph, R.fr, fun j d' e => ?_, fun j ns e => ?_, fun j x xs e hx => ?_, fun j xs e => ?_, fun j k x y e1 e2 hx hy he => ?_, R.np, R.nf, R.tb⟩
  · rcases get_set e with ⟨rfl, e2, hl⟩ | ⟨ne, e⟩
    · cases e2
    · obtain ⟨u, h1, h2⟩ := R.vl j d' e
      exact ⟨u, by rw [List.getElem?_set_ne ne]; exact h1, h2⟩
  · rcases get_set e with ⟨rfl, e2, hl⟩ | ⟨ne, e⟩
    · cases e2
    · obtain ⟨u, h1, h2⟩ := R.sc j ns e
      exact ⟨u, by rw [List.getElem?_set_ne ne]; exact h1, h2⟩
  · rcases get_set e with ⟨rfl, e2, hl⟩ | ⟨ne, e⟩
    · cases e2
      cases hx
      rw [if_pos rfl]
      exact ⟨by rw [List.getElem?_set_self (by rw [← R.len]; exact hl)], hF, hP, h⟩
    · obtain ⟨h1, h2⟩ := R.cl j x xs e hx
      rw [if_neg (Ne.symm ne)]
      exact ⟨by rw [List.getElem?_set_ne ne]; exact h1, h2⟩
  · rcases get_set e with ⟨rfl, e2, hl⟩ | ⟨ne, e⟩
    · cases e2
    · rw [if_neg (Ne.symm ne)]
      exact R.qs j xs e
  · rcases get_set e1 with ⟨rfl, e3, hl⟩ | ⟨ne, e1⟩
    · rcases get_set e2 with ⟨rfl, e4, hl⟩ | ⟨ne2, e2⟩
      · rfl
      · rw [if_pos rfl, if_neg (Ne.symm ne2)] at he
        exact absurd he.symm (ap k y e2 hy)
    · rcases get_set e2 with ⟨rfl, e4, hl⟩ | ⟨ne2, e2⟩
      · rw [if_pos rfl, if_neg (Ne.symm ne)] at he
        exact absurd he (ap j x e1 hx)
      · rw [if_neg (Ne.symm ne), if_neg (Ne.symm ne2)] at he
        exact R.inj j k x y e1 e2 hx hy he
theorem RC.setC (R : RC K P F0 qc F cell S σ H) {i : Nat} {p : Addr} {vs : List V} {ds : List PyData} (hF : F p = none) (hP : P p = none) (ap : Apart S cell p) (hH : H p = some (.lst vs)) (h : DVs K F vs ds) :
    RC K P F0 qc F (fun j => if j = i then p else cell j) (S.set i (some (.c (.l ds)))) (σ.set i (some (.ref p))) H := R.setCT hF hP ap ⟨vs, hH, h⟩
theorem RC.freeze (R : RC K P F0 qc F cell S σ H) {i : Nat} {xs : List PyData} (h : S[i]? = some (some (.c (.l xs)))) : ∃ F' v, Same F F' ∧ DV K F' v (.list xs) ∧ v = .ref (cell i) ∧ RC K P F0 qc F' cell (S.set i (some (.v (.list xs)))) σ H := by
  obtain ⟨h1, h2, h3, vs, h4, h5⟩ := R.cl i _ xs h rfl
  have sF : Same F (upd F (cell i) (.lst vs)) := same_new h2
  have dv : DV K (upd F (cell i) (.lst vs)) (.ref (cell i)) (.list xs) := .lst upd_same (h5.mono sF)
  refine ⟨_, _, sF, dv, rfl, ⟨by rw [List.length_set]; exact R.len, R.f0.trans sF, fun b o e => ?_, R.ph, fun b z => ?_, fun j d' e => ?_, fun j ns e => ?_, fun j x ys e hx => ?_, fun j ys e => ?_, fun j k x y e1 e2 hx hy he => ?_, R.np, nf_lst R.nf, R.tb⟩⟩
  · by_cases q : b = cell i
    · subst q
      rw [upd_same] at e
      cases e
      exact h4
    · rw [upd_ne q] at e
      exact R.fh b o e
  · by_cases q : b = cell i
    · subst q
      exact .inr h3
    · rw [upd_ne q] at z
      exact R.fr b z
  · rcases get_set e with ⟨rfl, e2, hl⟩ | ⟨ne, e⟩
    · cases e2
      exact ⟨_, h1, dv⟩
    · obtain ⟨u, h1, h2⟩ := R.vl j d' e
      exact ⟨u, h1, h2.mono sF⟩
  · rcases get_set e with ⟨rfl, e2, hl⟩ | ⟨ne, e⟩
    · cases e2
    · obtain ⟨u, h1, h2⟩ := R.sc j ns e
      exact ⟨u, h1, h2.mono sF⟩
  · rcases get_set e with ⟨rfl, e2, hl⟩ | ⟨ne, e⟩
    · cases e2
      cases hx
    · obtain ⟨g1, g2, g3, g4⟩ := R.cl j x ys e hx
      have nc : cell j ≠ cell i := fun q => ne (R.inj i j _ x h e rfl (by rw [hx]; rfl) q.symm)
      exact ⟨g1, by rw [upd_ne nc]; exact g2, g3, g4.step sF fun o q _ => q⟩
  · rcases get_set e with ⟨rfl, e2, hl⟩ | ⟨ne, e⟩
    · cases e2
    · exact R.qs j ys e
  · rcases get_set e1 with ⟨rfl, e3, hl⟩ | ⟨ne, e1⟩
    · cases e3
      cases hx
    · rcases get_set e2 with ⟨rfl, e4, hl⟩ | ⟨ne2, e2⟩
      · cases e4
        cases hy
      · exact R.inj j k x y e1 e2 hx hy he
theorem RC.mutateO (R : RC K P F0 qc F cell S σ H) {i : Nat} {xs ys : CT} {o : HO} (h : heldAt S i = some xs) (hw : CT.At K F (upd H (cell i) o) (cell i) ys) : RC K P F0 qc F cell (putAt S i ys) σ (upd H (cell i) o) := by
  obtain ⟨x0, hx0, hh0⟩ := held_of h
  obtain ⟨h1, h2, h3, h5⟩ := R.cl i x0 xs hx0 hh0
  obtain ⟨o0, h4, co⟩ := h5.is
  have nb : NB o0 := by
    rcases co with ⟨vs, z⟩ | ⟨C, dx, fs, z⟩ <;> (rw [z]; exact ⟨fun _ h => (by cases h), fun _ h => (by cases h)⟩)
  have look : ∀ {j : Nat} {y : SL}, (putAt S i ys)[j]? = some (some y) → (i = j ∧ y = x0.put ys) ∨ (i ≠ j ∧ S[j]? = some (some y)) := fun {j y} e => by
    by_cases q : i = j
    · subst q
      rw [putAt_same hx0] at e
      cases e
      exact .inl ⟨rfl, rfl⟩
    · rw [putAt_ne q] at e
      exact .inr ⟨q, e⟩
  have hp : (x0.put ys).held = some ys := SL.put_held hh0
  refine ⟨by rw [putAt_len]; exact R.len, R.f0, fun b o e => ?_, fun b o e => ?_, R.fr, fun j d' e => ?_, fun j ns e => ?_, fun j y zs e hy => ?_, fun j zs e => ?_, fun j k x y e1 e2 hx hy he => ?_, R.np, R.nf, tabs_upd R.tb h4 nb⟩
  · have ne : b ≠ cell i := fun q => by subst q; rw [h2] at e; cases e
    rw [upd_ne ne]
    exact R.fh b o e
  · have ne : b ≠ cell i := fun q => by subst q; rw [h3] at e; cases e
    rw [upd_ne ne]
    exact R.ph b o e
  · rcases look e with ⟨rfl, e2⟩ | ⟨ne, e⟩
    · rw [← e2] at hp; cases hp
    · exact R.vl j d' e
  · rcases look e with ⟨rfl, e2⟩ | ⟨ne, e⟩
    · rw [← e2] at hp; cases hp
    · exact R.sc j ns e
  · rcases look e with ⟨rfl, e2⟩ | ⟨ne, e⟩
    · rw [e2, hp] at hy
      cases hy
      exact ⟨h1, h2, h3, hw⟩
    · obtain ⟨g1, g2, g3, g4⟩ := R.cl j y zs e hy
      have nc : cell j ≠ cell i := fun q => ne (R.inj i j _ y hx0 e (by rw [hh0]; rfl) (by rw [hy]; rfl) q.symm)
      exact ⟨g1, g2, g3, g4.step (Same.refl _) fun o q _ => by rw [upd_ne nc]; exact q⟩
  · rcases look e with ⟨rfl, e2⟩ | ⟨ne, e⟩
    · obtain ⟨z, hz⟩ := SL.put_q e2.symm
      subst hz
      exact R.qs i z hx0
    · exact R.qs j zs e
  · have old : ∀ {j : Nat} {y : SL}, (putAt S i ys)[j]? = some (some y) → y.held.isSome = true → ∃ x : SL, S[j]? = some (some x) ∧ x.held.isSome = true := fun {j y} e hy => by
      rcases look e with ⟨rfl, e2⟩ | ⟨ne, e⟩
      · exact ⟨x0, hx0, by rw [hh0]; rfl⟩
      · exact ⟨y, e, hy⟩
    obtain ⟨x', g1, g2⟩ := old e1 hx
    obtain ⟨y', g3, g4⟩ := old e2 hy
    exact R.inj j k x' y' g1 g3 g2 g4 he
theorem RC.mutate (R : RC K P F0 qc F cell S σ H) {i : Nat} {xs : CT} {ys : List PyData} {ws : List V} (h : heldAt S i = some xs) (hw : DVs K F ws ys) : RC K P F0 qc F cell (putAt S i ys) σ (upd H (cell i) (.lst ws)) := R.mutateO h ⟨ws, upd_same, hw⟩
end
def mNil : MS := fun S => some (.nx, S)
def mSeq (m n : MS) : MS := fun S => match m S with
  | some (.nx, S1) => n S1
  | some (.bk, S1) => some (.bk, S1)
  | some (.ct, S1) => some (.ct, S1)
  | some (.rt r, S1) => some (.rt r, S1)
  | some (.rz c fs, S1) => some (.rz c fs, S1)
  | none => none
def mDrop (me : ME) : MS := fun S => match me S with
  | some (_, S1) => some (.nx, S1)
  | none => none
def mRet (me : ME) : MS := fun S => match me S with
  | some (.v d, S1) => some (.rt (.v d), S1)
  | some (.p i, S1) => match S1[i]? with
    | some (some (.c (.l xs))) => some (.rt (.v (.list xs)), S1.set i (some (.v (.list xs))))
    | _ => none
  | _ => none
def mRetN : MS := fun S => some (.rt (.v .none), S)
def mBk : MS := fun S => some (.bk, S)
def mCt : MS := fun S => some (.ct, S)
def mIfS (mt : MT) (ma mb : MS) : MS := fun S => match mt S with
  | some (true, S1) => ma S1
  | some (false, S1) => mb S1
  | none => none
def mSet (i : Nat) (me : ME) : MS := fun S => match me S with
  | some (.v d, S1) => some (.nx, S1.set i (some (.v d)))
  | _ => none
def mFrz (i : Nat) (m : MS) : MS := fun S => match S[i]? with
  | some (some (.c (.l xs))) => m (S.set i (some (.v (.list xs))))
  | _ => none
def mAug (i : Nat) (f : PyData → PyData → Option PyData) (me : ME) : MS := fun S => match S[i]? with
  | some (some (.v d)) => match me S with
    | some (r, S1) => match deref S1 r with
      | some e => match f d e with
        | some z => some (.nx, S1.set i (some (.v z)))
        | none => none
      | none => none
    | none => none
  | _ => none
def mPut (j : Nat) (mi me : ME) : MS := fun S => match me S with
  | some (.v d, S1) => match mi S1 with
    | some (.v (.int k), S2) => match heldAt S1 j, heldAt S2 j with
      | some _, some (.l xs) => match ixN xs.length k with
        | some n => some (.nx, putAt S2 j (.l (xs.set n d)))
        | none => none
      | _, _ => none
    | _ => none
  | _ => none
def mApp (j : Nat) (me : ME) : MS := fun S => match heldAt S j with
  | some (.l _) => match me S with
    | some (.v d, S1) => match heldAt S1 j with
      | some (.l xs) => if xs.length < 100000 then some (.nx, putAt S1 j (.l (xs ++ [d]))) else none
      | _ => none
    | _ => none
  | _ => none
def mPopAt (j : Nat) (me : ME) : MS := fun S => match heldAt S j with
  | some (.l _) => match me S with
    | some (.v (.int k), S1) => match heldAt S1 j with
      | some (.l xs) => match ixN xs.length k with
        | some n => if xs.length ≤ 100000 then some (.nx, putAt S1 j (.l (xs.eraseIdx n))) else none
        | none => none
      | _ => none
    | _ => none
  | _ => none
def mIns (j : Nat) (mi me : ME) : MS := fun S => match heldAt S j with
  | some (.l _) => match mi S with
    | some (.v (.int k), S1) => match me S1 with
      | some (.v d, S2) => match heldAt S2 j with
        | some (.l xs) => if xs.length < 100000 ∧ 0 ≤ k ∧ k ≤ 100000 then some (.nx, putAt S2 j (.l (xs.take k.toNat ++ [d] ++ xs.drop k.toNat))) else none
        | _ => none
      | _ => none
    | _ => none
  | _ => none
section
variable {X : Cx} {W : WX} {st : Stmt} {rest : List Stmt} {e c a b o : Expr} {me mi : ME} {mt : MT} {m n : MS} {x : Str} {pos pos' : Pos} {as bs : List Stmt}
theorem jb_nil : JB X W [] mNil := ⟨_, pss_nil, fun P F0 qc F cell S σ H D fl S' R hm k => by
  cases hm
  exact k F cell σ H (Same.refl _) R⟩
theorem jb_cons (h1 : JS X W st m) (h2 : JB X W rest n) : JB X W (st :: rest) (mSeq m n) := by
  obtain ⟨t, p1, s1⟩ := h1.ex
  obtain ⟨u, p2, s2⟩ := h2.ex
  refine ⟨_, pss_cons p1 p2, fun P F0 qc F cell S σ H D fl S' R hm k => ?_⟩
  unfold mSeq at hm
  split at hm
  · rename_i S1 e1
    refine s1 P F0 qc F cell S σ H { D with nx := u D } .nx S1 R e1 fun F1 c1 σ1 H1 f1 R1 => ?_
    exact s2 P F0 qc F1 c1 S1 σ1 H1 D fl S' R1 hm fun F2 c2 σ2 H2 f2 R2 => k F2 c2 σ2 H2 (f1.trans f2) R2
  · rename_i S1 e1
    cases hm
    exact s1 P F0 qc F cell S σ H { D with nx := u D } .bk S' R e1 fun F1 c1 σ1 H1 f1 R1 => k F1 c1 σ1 H1 f1 R1
  · rename_i S1 e1
    cases hm
    exact s1 P F0 qc F cell S σ H { D with nx := u D } .ct S' R e1 fun F1 c1 σ1 H1 f1 R1 => k F1 c1 σ1 H1 f1 R1
  · rename_i r S1 e1
    cases hm
    exact s1 P F0 qc F cell S σ H { D with nx := u D } (.rt r) S' R e1 fun F1 c1 σ1 H1 f1 R1 => k F1 c1 σ1 H1 f1 R1
  · rename_i c fs S1 e1
    cases hm
    exact s1 P F0 qc F cell S σ H { D with nx := u D } (.rz c fs) S' R e1 fun F1 c1 σ1 H1 f1 R1 => k F1 c1 σ1 H1 f1 R1
  · cases hm
theorem jb_frz (i : Nat) (h : JB X W rest n) : JB X W rest (mFrz i n) := by
  obtain ⟨t, p, s⟩ := h.ex
  refine ⟨t, p, fun P F0 qc F cell S σ H D fl S' R hm k => ?_⟩
  unfold mFrz at hm
  split at hm
  · rename_i xs e1
    obtain ⟨F', v, f1, _, _, R1⟩ := R.freeze e1
    exact s P F0 qc F' cell _ σ H D fl S' R1 hm fun F2 c2 σ2 H2 f2 R2 => k F2 c2 σ2 H2 (f1.trans f2) R2
  · cases hm
theorem js_ret (he : JE X e me) : JS X W (.Return (some e) pos) (mRet me) := by
  obtain ⟨t, p, s⟩ := he.ex
  refine ⟨_, ps_ret p, fun P F0 qc F cell S σ H D fl S' R hm k => ?_⟩
  unfold mRet at hm
  split at hm
  · rename_i d S1 e1
    cases hm
    exact s P F0 qc F cell S σ H _ _ S' R e1 fun v F1 H1 f1 R1 q1 => k F1 cell σ H1 f1 R1 v q1
  · rename_i i S1 e1
    split at hm
    · rename_i xs e2
      cases hm
      refine s P F0 qc F cell S σ H _ _ S1 R e1 fun v F1 H1 f1 R1 q1 => ?_
      obtain ⟨F2, u, f2, dv, rfl, R2⟩ := R1.freeze e2
      rw [show v = .ref (cell i) from q1]
      exact k F2 cell σ H1 (f1.trans f2) R2 _ dv
    · cases hm
  · cases hm
theorem js_if (hc : JT X c mt) (ha : JB X W as m) (hb : JB X W bs n) : JS X W (.If c as bs pos) (mIfS mt m n) := by
  obtain ⟨tc, pc, sc⟩ := hc.ex
  obtain ⟨ta, pa, sa⟩ := ha.ex
  obtain ⟨tb, pb, sb⟩ := hb.ex
  refine ⟨_, ps_if pc pa pb, fun P F0 qc F cell S σ H D fl S' R hm k => ?_⟩
  unfold mIfS at hm
  split at hm
  · rename_i S1 e1
    refine sc P F0 qc F cell S σ H _ _ S1 R e1 fun F1 H1 f1 R1 => ?_
    rw [if_pos rfl]
    exact sa P F0 qc F1 cell S1 σ H1 D fl S' R1 hm fun F2 c2 σ2 H2 f2 R2 => k F2 c2 σ2 H2 (f1.trans f2) R2
  · rename_i S1 e1
    refine sc P F0 qc F cell S σ H _ _ S1 R e1 fun F1 H1 f1 R1 => ?_
    rw [if_neg Bool.false_ne_true]
    exact sb P F0 qc F1 cell S1 σ H1 D fl S' R1 hm fun F2 c2 σ2 H2 f2 R2 => k F2 c2 σ2 H2 (f1.trans f2) R2
  · cases hm
theorem js_set (i : Nat) (hN : X.N.Nodup) (he : JE X e me) (hi : X.N[i]? = some x := by rfl) (hx : Loc X.env.scope x := by first | exact Or.inl rfl | exact Or.inr rfl) (hs : swapsWith e (some (.Name x pos')) pos.line X.env = pure false := by rfl)
    (hf : X.fn x = true ∨ X.env.scope.names.lookup x = some .local := by first | exact .inl rfl | exact .inr rfl) : JS X W (.Assign [.Name x pos'] e pos) (mSet i me) := by
  obtain ⟨t, p, s⟩ := he.ex
  refine ⟨_, ps_set hN hi hx p hs hf, fun P F0 qc F cell S σ H D fl S' R hm k => ?_⟩
  unfold mSet at hm
  split at hm
  · rename_i d S1 e1
    cases hm
    exact s P F0 qc F cell S σ H _ _ S1 R e1 fun v F1 H1 f1 R1 q1 => k F1 cell _ H1 f1 (R1.setV q1)
  · cases hm
theorem js_aug (i : Nat) {op : Operator} {r : R2} {f : PyData → PyData → Option PyData} (ho : OpR X (inplaceOp op) r) (hs : OpS X.K r f) (hN : X.N.Nodup) (he : JE X e me) (hi : X.N[i]? = some x := by rfl) (hx : Loc X.env.scope x := by first | exact Or.inl rfl | exact Or.inr rfl)
    (hf : X.fn x = true ∨ X.env.scope.names.lookup x = some .local := by first | exact .inl rfl | exact .inr rfl) : JS X W (.AugAssign (.Name x pos') op e pos) (mAug i f me) := by
  obtain ⟨t, p, s⟩ := he.ex
  refine ⟨_, ps_aug (ti := r) hN hi hx p ho hf, fun P F0 qc F cell S σ H D fl S' R hm k => ?_⟩
  unfold mAug at hm
  split at hm
  · rename_i d e0
    split at hm
    · rename_i rr S1 e1
      split at hm
      · rename_i dd e2
        split at hm
        · rename_i z e3
          cases hm
          obtain ⟨v0, h1, h2⟩ := R.vl i d e0
          refine ⟨v0, h1, s P F0 qc F cell S σ H _ _ S1 R e1 fun v F1 H1 f1 R1 q1 => ?_⟩
          refine hs F1 H1 v0 v d dd z _ R1.fh (.inl (h2.mono f1)) (R1.deref q1 e2) e3 fun w F2 H2 ex dv => ?_
          exact k F2 cell _ H2 (f1.trans ex.f) ((R1.ext ex).setV dv)
        · cases hm
      · cases hm
    · cases hm
  · cases hm
abbrev rIAddA : R2 := fun x y H Q => (∃ i j, x = V.int i ∧ y = V.int j ∧ Q (V.int (i + j)) H) ∨ (∃ i j, x = .str i ∧ y = .str j ∧ i.length + j.length ≤ sizeLine ∧ Q (.str (i ++ j)) H)
theorem iop_addA : OpR X (inplaceOp .Add) rIAddA := OpR.or iop_add iop_add_str
def iaddD : PyData → PyData → Option PyData
  | .int i, .int j => some (.int (i + j))
  | .str a, .str b => if a.length + b.length ≤ 100000 then some (.str (a ++ b)) else none
  | _, _ => none
theorem ops_iadd {K : PySem.W.Frag} : OpS K rIAddA iaddD := by
  intro F H x y d e z Q fh hx hy hf k
  unfold iaddD at hf
  split at hf
  · cases hf
    exact .inl ⟨_, _, hx.int, hy.int, k _ _ _ (Ext.refl fh) (.int _)⟩
  · split at hf
    · rename_i hl
      cases hf
      exact .inr ⟨_, _, hx.str, hy.str, small5 hl, k _ _ _ (Ext.refl fh) (.str _)⟩
    · cases hf
  · cases hf
theorem js_iadd (i : Nat) (hN : X.N.Nodup) (he : JE X e me) (hi : X.N[i]? = some x := by rfl) (hx : Loc X.env.scope x := by first | exact Or.inl rfl | exact Or.inr rfl)
    (hf : X.fn x = true ∨ X.env.scope.names.lookup x = some .local := by first | exact .inl rfl | exact .inr rfl) : JS X W (.AugAssign (.Name x pos') .Add e pos) (mAug i iaddD me) := js_aug i iop_addA ops_iadd hN he hi hx hf
theorem js_put {p1 : Pos} (j : Nat) (he : JE X e me) (hix : JE X a mi) (hN : X.N[j]? = some x := by rfl) (hv : Vis X.env.scope x := by first | exact Or.inl rfl | exact Or.inr (Or.inl rfl) | exact Or.inr (Or.inr rfl)) (hd : (x == ("__debug__" : Str)) = false := by decide)
    (hcd : (x == ("__classdict__" : Str)) = false := by decide)
    (hs : swapsWithSole [.Subscript (.Name x p1) a pos'] e pos.line X.env = pure false := by rfl) (hw : swappedStores [.Subscript (.Name x p1) a pos'] e X.env = pure none := by rfl)
    (h1 : (assignEach [.Subscript (.Name x p1) a pos'] X.env).map (·.2) = [assign (.Subscript (.Name x p1) a pos') X.env] := by rfl)
    (ha : ∀ v, assign (.Subscript (.Name x p1) a pos') X.env v = (do
      let ov ← holding [v] (eval (.Name x p1) X.env)
      let iv ← holding [v, ov] (eval a X.env)
      standAt pos'
      holding [v, ov, iv] (setItem ov iv v)
      release [v, ov, iv] []) := by intro _; rfl) : JS X W (.Assign [.Subscript (.Name x p1) a pos'] e pos) (mPut j mi me) := by
  obtain ⟨t, p, s⟩ := he.ex
  obtain ⟨ti, pi, si⟩ := hix.ex
  refine ⟨_, ps_asg p (pg_sub (pe_var hN hv hd hcd) pi set_list ha) hs hw h1, fun P F0 qc F cell S σ H D fl S' R hm k => ?_⟩
  unfold mPut at hm
  split at hm
  · rename_i d S1 e1
    split at hm
    · rename_i kk S2 e2
      split at hm
      · rename_i zs xs h3 h4
        split at hm
        · rename_i n h5
          cases hm
          refine s P F0 qc F cell S σ H _ _ S1 R e1 fun v F1 H1 f1 R1 q1 => ?_
          obtain ⟨g1, _⟩ := R1.at h3
          refine ⟨_, g1, si P F0 qc F1 cell S1 σ H1 _ _ S2 R1 e2 fun w F2 H2 f2 R2 q2 => ?_⟩
          obtain ⟨_, g2, g3, ws, g4, g5⟩ := R2.at h4
          cases (show DV X.K F2 w (.int kk) from q2)
          refine ⟨_, ws, kk, n, rfl, rfl, g4, by rw [g5.length]; exact h5, ?_⟩
          exact k F2 cell σ _ (f1.trans f2) (R2.mutate h4 (DVs.set (DV.mono f2 q1) n g5))
        · cases hm
      · cases hm
    · cases hm
  · cases hm
section
variable {p1 apos cpos : Pos}
theorem snd_bm1 {K : PySem.W.Frag} {id : String} {r : V → List V → Hp → VK → Prop} {te : TE} {j : Nat} {m : MS} (se : SndE K te me) (hmd : ∀ S fl S', m S = some (fl, S') → ∃ zs d S1, heldAt S j = some (.l zs) ∧ me S = some (.v d, S1) ∧ fl = .nx ∧ ∃ xs ys, heldAt S1 j = some (.l xs) ∧ S' = putAt S1 j (.l ys) ∧
    ∀ (F H : Hp) (c : Addr) (v : V) (ws : List V) (Q : VK), Same F H → H c = some (.lst ws) → DVs K F ws xs → DV K F v d → (∀ us u, DVs K F us ys → Q u (upd H c (.lst us))) → r (.ref c) [v] H Q) :
    SndS K W (tDrop (tBM K "list" r (tVar j) (tCons te tNil))) m := by
  intro P F0 qc F cell S σ H D fl S' R hm k
  obtain ⟨zs, d, S1, h1, h2, rfl, xs, ys, h3, rfl, hr⟩ := hmd S fl S' hm
  obtain ⟨g1, _, _, vs0, g0, _⟩ := R.at h1
  refine ⟨_, g1, .inl ⟨rfl, vs0, SqL.of g0⟩, ?_⟩
  refine se P F0 qc F cell S σ H _ _ S1 R h2 fun v F1 H1 f1 R1 q1 => ?_
  obtain ⟨_, _, _, ws, g4, g5⟩ := R1.at h3
  exact hr F1 H1 (cell j) v ws _ R1.fh g4 g5 q1 fun us u hu => k F1 cell σ _ f1 (R1.mutate h3 hu)
theorem js_app (j : Nat) (he : JE X e me) (hN : X.N[j]? = some x := by rfl) (hv : Vis X.env.scope x := by first | exact Or.inl rfl | exact Or.inr (Or.inl rfl) | exact Or.inr (Or.inr rfl)) (hd : (x == ("__debug__" : Str)) = false := by decide)
    (hcd : (x == ("__classdict__" : Str)) = false := by decide)
    (hbase : attributeBase (.Name x p1) "append" X.env (eval (.Name x p1) X.env) = eval (.Name x p1) X.env := by rfl)
    (hfew : ((backTo cpos (starEach [e] X.env)).all (fun x => !x.1) && (backToKw cpos (keywordEach [] X.env)).all (fun x => x.1.isSome)
      && decide ([e].length + ([] : List Keyword).length + (if ([] : List Keyword).isEmpty then 0 else 1) < 30)) = true := by rfl)
    (hline : (apos.endLine == cpos.line) = true := by rfl) (hst : starEach [e] X.env = (false, eval e X.env) :: starEach [] X.env := by rfl) (hplain : (backTo cpos (starEach [] X.env)).any (·.1) = false := by rfl)
    (hs : swapsWith (.Call (.Attribute (.Name x p1) "append" apos) [e] [] cpos) none pos.line X.env = pure false := by rfl) :
    JS X W (.Expr (.Call (.Attribute (.Name x p1) "append" apos) [e] [] cpos) pos) (mApp j me) := by
  obtain ⟨t, p, s⟩ := he.ex
  refine ⟨_, ps_expr (pe_bm PySem.F.plainAttrs_list PySem.F.slot_list_append PySem.F.type_list_append mt_append (pe_var hN hv hd hcd) (pa_cons p pa_nil hst) hbase hfew hline hst hplain) hs, snd_bm1 (id := "list.append") s fun S fl S' hm => ?_⟩
  unfold mApp at hm
  split at hm
  · rename_i zs h1
    split at hm
    · rename_i d S1 h2
      split at hm
      · rename_i xs h3
        split at hm
        · rename_i hl
          cases hm
          refine ⟨zs, d, S1, h1, h2, rfl, xs, _, h3, rfl, fun F H c v ws Q fh hc hws hv k => ?_⟩
          refine ⟨c, ws, v, rfl, rfl, hc, ?_, ?_⟩
          · rw [hws.length]
            exact Nat.lt_of_lt_of_le hl (by decide)
          · exact k _ _ (hws.append (.cons hv .nil))
        · cases hm
      · cases hm
    · cases hm
  · cases hm
end
end
end VL
namespace VL
open PySem PySem.Spec PyProof.Rows L2
variable [LT]
structure ItOk (K : PySem.W.Frag) (J : It) (F : Hp) (ds : List PyData) : Prop where
  ex : ∃ (G : Hp → Prop) (Y : Nat → Hp → V → Hp → Prop), Walk J ds.length G Y ∧ (∀ H, Same F H → G H) ∧
    ∀ (i : Nat) (H : Hp) (x : V) (H' F2 : Hp) (d : PyData), Same F F2 → Same F2 H → ds[i]? = some d → Y i H x H' → ∃ F3, Ext F2 H F3 H' ∧ DV K F3 x d
abbrev MI := Sl → Option (List PyData × Sl)
def SndI (K : PySem.W.Frag) (wi : TI) (m : MI) : Prop :=
  ∀ (P F0 : Hp) (qc : Nat → Addr) (F : Hp) (cell : Nat → Addr) (S : Sl) (σ : L2.St) (H : Hp) (R : It → Hp → Prop) (ds : List PyData) (S' : Sl), RC K P F0 qc F cell S σ H → m S = some (ds, S') →
    (∀ J F' H', Same F F' → RC K P F0 qc F' cell S' σ H' → ItOk K J F' ds → R J H') → wi σ H R
structure JI (X : Cx) (tg iter : Expr) (m : MI) : Prop where
  ex : ∃ wi, PI X tg iter wi ∧ SndI X.K wi m
theorem PI.or {X : Cx} {tg iter : Expr} {w1 w2 : TI} (h1 : PI X tg iter w1) (h2 : PI X tg iter w2) : PI X tg iter (fun σ H R => w1 σ H R ∨ w2 σ H R) :=
  ⟨fun pins s σ H R I h => by
    rcases h with h | h
    · exact h1.run pins s σ H R I h
    · exact h2.run pins s σ H R I h⟩
section
variable {K : PySem.W.Frag} {F : Hp} {vs : List V} {ds : List PyData} {a : Addr}
theorem itok_list (h : F a = some (.lst vs)) (hv : DVs K F vs ds) : ItOk K (Itl K a) F ds := by
  refine ⟨_, _, by rw [← hv.length]; exact walk_list (a := a) (xs := vs), fun H e => SqL.of (e _ _ h), fun i H x H' F2 d e1 e2 hd y => ?_⟩
  obtain ⟨rfl, hx⟩ := y
  obtain ⟨v, g1, g2⟩ := hv.get hd
  rw [hx] at g1
  cases g1
  exact ⟨F2, Ext.refl e2, g2.mono e1⟩
theorem itok_tup (h : SqT K F a vs) (hv : DVs K F vs ds) : ItOk K (Itt K a) F ds := by
  refine ⟨_, _, by rw [← hv.length]; exact walk_tup (a := a) (xs := vs), fun H e => sqT_mono e h, fun i H x H' F2 d e1 e2 hd y => ?_⟩
  obtain ⟨rfl, hx⟩ := y
  obtain ⟨v, g1, g2⟩ := hv.get hd
  rw [hx] at g1
  cases g1
  exact ⟨F2, Ext.refl e2, g2.mono e1⟩
def signsD (z : Str) : List PyData := z.cps.toList.map fun c => .str ⟨#[c]⟩
theorem itok_str (z : Str) : ItOk K (Its z) F (signsD z) := by
  refine ⟨_, _, by unfold signsD; rw [List.length_map, Array.length_toList]; exact walk_str, fun _ _ => trivial, fun i H x H' F2 d e1 e2 hd y => ?_⟩
  obtain ⟨rfl, c, hc, rfl⟩ := y
  unfold signsD at hd
  rw [List.getElem?_map, Array.getElem?_toList, hc] at hd
  cases hd
  exact ⟨F2, Ext.refl e2, .str _⟩
def rngD (lo : Int) (n : Nat) : List PyData := (List.range n).map fun i => .int (lo + (i : Nat))
theorem itok_rng (lo : Int) (n : Nat) : ItOk K (Itr lo n) F (rngD lo n) := by
  refine ⟨_, _, by unfold rngD; rw [List.length_map, List.length_range]; exact walk_range, fun _ _ => trivial, fun i H x H' F2 d e1 e2 hd y => ?_⟩
  obtain ⟨rfl, rfl⟩ := y
  unfold rngD at hd
  rw [List.getElem?_map] at hd
  cases q : (List.range n)[i]? with
  | none => rw [q] at hd; cases hd
  | some j =>
    rw [q] at hd
    have hj : j = i := by
      have := List.getElem?_eq_some_iff.mp q
      obtain ⟨h1, h2⟩ := this
      simpa using h2.symm
    subst hj
    cases hd
    exact ⟨F2, Ext.refl e2, .int _⟩
def enumD (ds : List PyData) : List PyData := ds.mapIdx fun i d => .tuple [.int (i : Nat), d]
theorem itok_enum (h : F a = some (.lst vs)) (hv : DVs K F vs ds) : ItOk K (Ite K a) F (enumD ds) := by
  have hl : (enumD ds).length = vs.length := by unfold enumD; rw [List.length_mapIdx, hv.length]
  refine ⟨_, _, by rw [hl]; exact walk_enum (a := a) (xs := vs), fun H e => SqL.of (e _ _ h), fun i H x H' F2 d e1 e2 hd y => ?_⟩
  obtain ⟨T, x1, x2, rfl, hT, rfl, g1, g2⟩ := y
  cases g1
  obtain ⟨dd, g3, g4⟩ := hv.got g2
  unfold enumD at hd
  rw [List.getElem?_mapIdx, g3] at hd
  cases hd
  refine ⟨upd F2 T (.tup [.int (i : Nat), x2]), Ext.new e2 hT, ?_⟩
  exact .tup (SqT.of upd_same) (.cons (.int _) (.cons ((g4.mono e1).mono (same_new (e2.free hT))) .nil))
end
def mIt (me : ME) : MI := fun S => match me S with
  | some (.v (.list ds), S1) => some (ds, S1)
  | some (.v (.tuple ds), S1) => some (ds, S1)
  | some (.v (.str z), S1) => some (signsD z, S1)
  | _ => none
def mRng1 (ma : MA) : MI := fun S => match ma S with
  | some ([.v (.int j)], S1) => if -(2 ^ 62) ≤ j ∧ j < 2 ^ 62 then some (rngD 0 j.toNat, S1) else none
  | _ => none
def mRng2 (ma : MA) : MI := fun S => match ma S with
  | some ([.v (.int i), .v (.int j)], S1) => if -(2 ^ 62) ≤ i ∧ i < 2 ^ 62 ∧ -(2 ^ 62) ≤ j ∧ j < 2 ^ 62 then some (rngD i (j - i).toNat, S1) else none
  | _ => none
def mEnum (ma : MA) : MI := fun S => match ma S with
  | some ([.v (.list ds)], S1) => some (enumD ds, S1)
  | _ => none
section
variable {X : Cx} {tg e a b : Expr} {me : ME} {mas : MA} {pos p tpos : Pos}
theorem ji_any (he : JE X e me) : JI X tg e (mIt me) := by
  obtain ⟨t, pe, s⟩ := he.ex
  refine ⟨_, PI.or (pi_list pe) (PI.or (pi_tup pe) (pi_str pe)), fun P F0 qc F cell S σ H R ds S' RR hm k => ?_⟩
  unfold mIt at hm
  split at hm
  · rename_i ds' S1 e1
    cases hm
    refine .inl (s P F0 qc F cell S σ H _ _ S' RR e1 fun v F1 H1 f1 R1 q1 => ?_)
    cases (show DV X.K F1 v (.list ds) from q1) with
    | lst g1 g2 => exact ⟨_, rfl, ⟨_, SqL.of (R1.fh _ _ g1)⟩, k _ F1 H1 f1 R1 (itok_list g1 g2)⟩
  · rename_i ds' S1 e1
    cases hm
    refine .inr (.inl (s P F0 qc F cell S σ H _ _ S' RR e1 fun v F1 H1 f1 R1 q1 => ?_))
    cases (show DV X.K F1 v (.tuple ds) from q1) with
    | tup g1 g2 => exact ⟨_, rfl, ⟨_, sqT_mono R1.fh g1⟩, k _ F1 H1 f1 R1 (itok_tup g1 g2)⟩
  · rename_i z S1 e1
    cases hm
    refine .inr (.inr (s P F0 qc F cell S σ H _ _ S' RR e1 fun v F1 H1 f1 R1 q1 => ?_))
    cases (show DV X.K F1 v (.str z) from q1)
    exact ⟨z, rfl, k _ F1 H1 f1 R1 (itok_str z)⟩
  · cases hm
theorem ji_rng1 (hm : X.mg "range" = none) (ha : JA X [a] mas) (hg : Gl X "range" := by rfl) (hs : starEach [a] X.env = [(false, eval a X.env)] := by rfl) : JI X tg (.Call (.Name "range" p) [a] [] pos) (mRng1 mas) := by
  obtain ⟨t, pa, s⟩ := ha.ex
  refine ⟨_, pi_range1 hg hm pa hs, fun P F0 qc F cell S σ H R ds S' RR hm k => ?_⟩
  unfold mRng1 at hm
  split at hm
  · rename_i j S1 e1
    split at hm
    · rename_i hl
      cases hm
      refine s P F0 qc F cell S σ H _ _ S' RR e1 fun vs F1 H1 f1 R1 q1 => ?_
      obtain ⟨v, ws, rfl, g1, g2⟩ := q1
      cases (show ws = [] from g2)
      cases (show DV X.K F1 v (.int j) from g1)
      exact ⟨j, rfl, hl.1, hl.2, k _ F1 H1 f1 R1 (itok_rng 0 _)⟩
    · cases hm
  · cases hm
end
abbrev MG := PyData → Sl → Option Sl
def SndG (K : PySem.W.Frag) (g : TG) (m : MG) (ts : List Nat) : Prop :=
  ∀ (P F0 : Hp) (qc : Nat → Addr) (F : Hp) (cell : Nat → Addr) (S : Sl) (σ : L2.St) (H : Hp) (Q : L2.St → Hp → Prop) (x : V) (d : PyData) (S' : Sl), RC K P F0 qc F cell S σ H → DV K F x d → m d S = some S' →
    (∀ σ', RC K P F0 qc F cell S' σ' H → (∀ vs : List Nat, (∀ i ∈ ts, i ∈ vs) → wipe σ' vs = wipe σ vs) → Q σ' H) → g x σ H Q
structure JG (X : Cx) (tg : Expr) (m : MG) (ts : List Nat) : Prop where
  ex : ∃ g, PG X tg g ∧ SndG X.K g m ts
structure JGs (X : Cx) (tgs : List Expr) (n : Nat) (m : List PyData → Sl → Option Sl) (ts : List Nat) : Prop where
  ex : tgs.length = n ∧ ∃ g, PGs X tgs g ∧ ∀ (P F0 : Hp) (qc : Nat → Addr) (F : Hp) (cell : Nat → Addr) (S : Sl) (σ : L2.St) (H : Hp) (Q : L2.St → Hp → Prop) (xs : List V) (ds : List PyData) (S' : Sl), RC X.K P F0 qc F cell S σ H → DVs X.K F xs ds → m ds S = some S' →
    (∀ σ', RC X.K P F0 qc F cell S' σ' H → (∀ vs : List Nat, (∀ i ∈ ts, i ∈ vs) → wipe σ' vs = wipe σ vs) → Q σ' H) → g xs σ H Q
def gSet (i : Nat) : MG := fun d S => some (S.set i (some (.v d)))
def gsNil : List PyData → Sl → Option Sl := fun ds S => match ds with
  | [] => some S
  | _ => none
def gsCons (m : MG) (ms : List PyData → Sl → Option Sl) : List PyData → Sl → Option Sl := fun ds S => match ds with
  | d :: ds => match m d S with
    | some S1 => ms ds S1
    | none => none
  | [] => none
def gTupM (n : Nat) (ms : List PyData → Sl → Option Sl) : MG := fun d S => match d with
  | .tuple ds => if ds.length = n then ms ds S else none
  | _ => none
theorem wipe_set {σ : L2.St} {i : Nat} {x : Option V} : ∀ {vs : List Nat}, i ∈ vs → wipe (σ.set i x) vs = wipe σ vs
  | [], h => by cases h
  | v :: vs, h => by
    unfold wipe
    by_cases hi : i ∈ vs
    · rw [wipe_set hi]
    · have e : i = v := by
        rcases List.mem_cons.mp h with e | e
        · exact e
        · exact absurd e hi
      subst e
      have aux : ∀ (vs : List Nat), i ∉ vs → wipe (σ.set i x) vs = (wipe σ vs).set i x := by
        intro vs
        induction vs with
        | nil => intro _; rfl
        | cons u vs ih =>
          intro hn
          unfold wipe
          have h1 : i ≠ u := fun e => hn (e ▸ List.mem_cons_self)
          have h2 : i ∉ vs := fun e => hn (List.mem_cons_of_mem _ e)
          rw [ih h2, List.set_comm _ _ h1]
      rw [aux vs hi, List.set_set]
section
variable {X : Cx} {tg : Expr} {tgs : List Expr} {x : Str} {pos : Pos} {m : MG} {ms : List PyData → Sl → Option Sl} {ts us : List Nat} {n : Nat}
theorem jg_name (i : Nat) (hN : X.N.Nodup) (hi : X.N[i]? = some x := by rfl) (hx : Loc X.env.scope x := by first | exact Or.inl rfl | exact Or.inr rfl) (hf : X.fn x = true ∨ X.env.scope.names.lookup x = some .local := by first | exact .inl rfl | exact .inr rfl) : JG X (.Name x pos) (gSet i) [i] :=
  ⟨_, pg_name hN hi hx hf, fun P F0 qc F cell S σ H Q y d S' R hd hm k => by
    cases hm
    exact k _ (R.setV hd) fun vs hv => wipe_set (hv i (by simp))⟩
theorem jgs_nil : JGs X [] 0 gsNil [] := ⟨rfl, _, pgs_nil, fun P F0 qc F cell S σ H Q xs ds S' R hd hm k => by
  cases hd with
  | nil =>
    cases hm
    exact ⟨rfl, k σ R fun _ _ => rfl⟩
  | cons _ _ => cases hm⟩
theorem jgs_cons (h : JG X tg m ts) (hs : JGs X tgs n ms us) (he : (assignEach (tg :: tgs) X.env).map (·.2) = assign tg X.env :: (assignEach tgs X.env).map (·.2) := by rfl) : JGs X (tg :: tgs) (n + 1) (gsCons m ms) (ts ++ us) := by
  obtain ⟨g, pg, sg⟩ := h.ex
  obtain ⟨hl, gs, pgs, sgs⟩ := hs.ex
  refine ⟨by rw [List.length_cons, hl], _, pgs_cons pg pgs he, fun P F0 qc F cell S σ H Q xs ds S' R hd hm k => ?_⟩
  cases hd with
  | nil => cases hm
  | cons h1 h2 =>
    rename_i x0 vs0 d0 ds0
    unfold gsCons at hm
    cases e1 : m d0 S with
    | none => simp only [e1] at hm; cases hm
    | some S1 =>
      simp only [e1] at hm
      refine ⟨_, _, rfl, sg P F0 qc F cell S σ H _ _ _ S1 R h1 e1 fun σ1 R1 w1 => ?_⟩
      refine sgs P F0 qc F cell S1 σ1 H Q _ _ S' R1 h2 hm fun σ2 R2 w2 => k σ2 R2 fun vs hv => ?_
      rw [w2 vs fun i hi => hv i (List.mem_append_right _ hi), w1 vs fun i hi => hv i (List.mem_append_left _ hi)]
theorem jg_tup {k : Nat} (hc : X.calm = true) (hs : JGs X tgs n ms ts) (hn : (assignEach tgs X.env).length = n := by rfl) (hst : (assignEach tgs X.env).findIdx? (·.1) = none := by rfl) : JG X (.Tuple tgs k pos) (gTupM n ms) ts := by
  obtain ⟨hl, gs, pgs, sgs⟩ := hs.ex
  refine ⟨_, pg_tup hc pgs hn hst, fun P F0 qc F cell S σ H Q y d S' R hd hm kk => ?_⟩
  unfold gTupM at hm
  split at hm
  · split at hm
    · rename_i hln
      cases hd with
      | tup h1 h2 =>
        exact ⟨_, _, rfl, sqT_mono R.fh h1, by rw [h2.length]; exact hln, sgs P F0 qc F cell S σ H Q _ _ S' R h2 hm kk⟩
    · cases hm
  · cases hm
end
def forM (g : MG) (mb : MS) : List PyData → Sl → Option (Fl × Sl)
  | [], S => some (.nx, S)
  | d :: ds, S => match g d S with
    | none => none
    | some S1 => match mb S1 with
      | some (.nx, S2) => forM g mb ds S2
      | some (.ct, S2) => forM g mb ds S2
      | some (.bk, S2) => some (.nx, S2)
      | some (.rt r, S2) => some (.rt r, S2)
      | some (.rz c fs, S2) => some (.rz c fs, S2)
      | none => none
def mFor (mi : MI) (g : MG) (mb : MS) : MS := fun S => match mi S with
  | some (ds, S1) => forM g mb ds S1
  | none => none
section
variable {X : Cx} {W : WX} {tg iter : Expr} {body : List Stmt} {mi : MI} {g : MG} {mb : MS} {ts : List Nat} {pos : Pos}
theorem drop_cons {α : Type} {l : List α} {i : Nat} (h : i < l.length) : ∃ d, l[i]? = some d ∧ l.drop i = d :: l.drop (i + 1) := ⟨l[i], by simp [h], (List.drop_eq_getElem_cons h)⟩
theorem js_for (hc : X.calm = true) (hi : JI X tg iter mi) (hg : JG X tg g ts) (hb : JB X W body mb) (hp : PassesOwn (model X.prog X.w) X.A X.env X.xe := by exact PassesOwn.never) (hs : ∀ x, foldedSetIterable iter X.env x = pure x := by intro _; rfl) : JS X W (.For tg iter body [] pos) (mFor mi g mb) := by
  obtain ⟨wi, pi, si⟩ := hi.ex
  obtain ⟨gg, pg, sg⟩ := hg.ex
  obtain ⟨tb, pb, sb⟩ := hb.ex
  refine ⟨_, ps_for hp hc pi pg pb hs, fun P F0 qc F cell S σ H D fl S' R hm k => ?_⟩
  unfold mFor at hm
  split at hm
  · rename_i ds S1 e1
    refine si P F0 qc F cell S σ H _ ds S1 R e1 fun J F1 H1 f1 R1 ok => ?_
    obtain ⟨G, Y, w, hG, hY⟩ := ok.ex
    refine for_it w (fun i σ' H' => ∃ F2 c2 S2, Same F1 F2 ∧ RC X.K P F0 qc F2 c2 S2 σ' H' ∧ forM g mb (ds.drop i) S2 = some (fl, S')) ⟨F1, cell, S1, Same.refl _, R1, hm⟩ (fun i σ' H' _ ⟨F2, c2, S2, f2, R2, _⟩ => hG H' (f2.trans R2.fh)) (fun i x σ' H' H'' hlt ⟨F2, c2, S2, f2, R2, e2⟩ y => ?_) fun σ' H' ⟨F2, c2, S2, f2, R2, e2⟩ => ?_
    · obtain ⟨d, hd, hdr⟩ := drop_cons hlt
      rw [hdr] at e2
      unfold forM at e2
      obtain ⟨F3, ex, dv⟩ := hY i H' x H'' F2 d f2 R2.fh hd y
      have R3 := R2.ext ex
      split at e2
      · cases e2
      · rename_i S3 e3
        refine sg P F0 qc F3 c2 S2 σ' H'' _ x d S3 R3 dv e3 fun σ3 R4 _ => ?_
        split at e2
        · rename_i S4 e4
          refine sb P F0 qc F3 c2 S3 σ3 H'' _ .nx S4 R4 e4 fun F5 c5 σ5 H5 f5 R5 => ?_
          exact ⟨F5, c5, S4, (f2.trans ex.f).trans f5, R5, e2⟩
        · rename_i S4 e4
          refine sb P F0 qc F3 c2 S3 σ3 H'' _ .ct S4 R4 e4 fun F5 c5 σ5 H5 f5 R5 => ?_
          exact ⟨F5, c5, S4, (f2.trans ex.f).trans f5, R5, e2⟩
        · rename_i S4 e4
          cases e2
          refine sb P F0 qc F3 c2 S3 σ3 H'' _ .bk S' R4 e4 fun F5 c5 σ5 H5 f5 R5 => ?_
          exact k F5 c5 σ5 H5 (f1.trans ((f2.trans ex.f).trans f5)) R5
        · rename_i r S4 e4
          cases e2
          refine sb P F0 qc F3 c2 S3 σ3 H'' _ (.rt r) S' R4 e4 fun F5 c5 σ5 H5 f5 R5 => ?_
          exact k F5 c5 σ5 H5 (f1.trans ((f2.trans ex.f).trans f5)) R5
        · rename_i c fs S4 e4
          cases e2
          refine sb P F0 qc F3 c2 S3 σ3 H'' _ (.rz c fs) S' R4 e4 fun F5 c5 σ5 H5 f5 R5 => ?_
          exact k F5 c5 σ5 H5 (f1.trans ((f2.trans ex.f).trans f5)) R5
        · cases e2
    · rw [List.drop_length] at e2
      cases e2
      exact k F2 c2 σ' H' (f1.trans f2) R2
  · cases hm
end
def startS (n : Nat) (as : List SL) : Sl := as.map some ++ List.replicate (n - as.length) none
def asOut : List SL → Sl → Option (List SL)
  | [], _ => some []
  | .q _ :: as, some (.q xs) :: S => (asOut as S).map (.q xs :: ·)
  | .q _ :: _, _ => none
  | a :: as, _ :: S => (asOut as S).map (a :: ·)
  | _ :: _, [] => none
def defM (n : Nat) (m : MS) : MF := fun as => match m (startS n as) with
  | some (.rt (.v d), S) => match asOut as S with
    | some as' => some (d, as')
    | none => none
  | some (.nx, S) => match asOut as S with
    | some as' => some (.none, as')
    | none => none
  | _ => none
theorem asOut_q : ∀ {as : List SL} {S : Sl} {as' : List SL} {j : Nat} {xs : CT}, asOut as S = some as' → as'[j]? = some (.q xs) → S[j]? = some (some (.q xs)) ∧ ∃ ys, as[j]? = some (.q ys)
  | [], S, as', j, xs, h, e => by cases h; simp at e
  | a :: as, [], as', j, xs, h, e => by
    cases a <;> simp [asOut] at h
  | a :: as, s :: S, as', j, xs, h, e => by
    have key : ∀ (b : SL), (asOut as S).map (b :: ·) = some as' → (b = .q xs ∨ j ≠ 0 → True) → (j = 0 → b = .q xs) ∧ (∀ j', j = j' + 1 → S[j']? = some (some (.q xs)) ∧ ∃ ys, as[j']? = some (.q ys)) := by
      intro b hb _
      obtain ⟨as2, h2, rfl⟩ := Option.map_eq_some_iff.mp hb
      refine ⟨fun hj => ?_, fun j' hj => ?_⟩
      · subst hj
        simpa using e
      · subst hj
        exact asOut_q h2 (by simpa using e)
    cases a with
    | q zs =>
      cases s with
      | none => simp [asOut] at h
      | some s =>
        cases s with
        | q ws =>
          obtain ⟨k1, k2⟩ := key (.q ws) (by simpa [asOut] using h) (fun _ => trivial)
          cases j with
          | zero =>
            have := k1 rfl
            cases this
            exact ⟨rfl, zs, rfl⟩
          | succ j =>
            obtain ⟨q1, ys, q2⟩ := k2 j rfl
            exact ⟨by simpa using q1, ys, by simpa using q2⟩
        | _ => simp [asOut] at h
    | v d =>
      obtain ⟨k1, k2⟩ := key (.v d) (by simpa [asOut] using h) (fun _ => trivial)
      cases j with
      | zero => cases k1 rfl
      | succ j =>
        obtain ⟨q1, ys, q2⟩ := k2 j rfl
        exact ⟨by simpa using q1, ys, by simpa using q2⟩
    | c d =>
      obtain ⟨k1, k2⟩ := key (.c d) (by simpa [asOut] using h) (fun _ => trivial)
      cases j with
      | zero => cases k1 rfl
      | succ j =>
        obtain ⟨q1, ys, q2⟩ := k2 j rfl
        exact ⟨by simpa using q1, ys, by simpa using q2⟩
    | s d =>
      obtain ⟨k1, k2⟩ := key (.s d) (by simpa [asOut] using h) (fun _ => trivial)
      cases j with
      | zero => cases k1 rfl
      | succ j =>
        obtain ⟨q1, ys, q2⟩ := k2 j rfl
        exact ⟨by simpa using q1, ys, by simpa using q2⟩
def adr (vs : List V) (j : Nat) : Addr := match vs[j]? with
  | some (.ref a) => a
  | _ => 0
open Classical in
theorem rc_start {K : PySem.W.Frag} {F H : Hp} {as : List SL} {vs : List V} {N : List Str} (fh : Same F H) (ft : Fits K F H as vs) (hn : as.length ≤ N.length) :
    ∃ P : Hp, (∀ b o, H b = some o → (∀ ps, o ≠ .tbl ps) → (∀ (j : Nat) (xs : CT), as[j]? = some (.q xs) → vs[j]? ≠ some (.ref b)) → P b = some o) ∧ (∀ b, P b = none → H b = none ∨ (∃ ps, H b = some (.tbl ps)) ∨ ∃ (j : Nat) (xs : CT), as[j]? = some (.q xs) ∧ vs[j]? = some (.ref b)) ∧
    RC K P F (adr vs) F (adr vs) (startS N.length as) (L2.start N vs) H := by
  refine ⟨fun b => if ∃ (j : Nat) (xs : CT), as[j]? = some (.q xs) ∧ vs[j]? = some (.ref b) then none else noT (H b), fun b o e ho hno => ?_, fun b e => ?_, ?_⟩
  · show (if _ then _ else _) = _
    rw [if_neg]
    · rw [e]
      exact noT_of ho
    · rintro ⟨j, xs, h1, h2⟩
      exact hno j xs h1 h2
  · by_cases q : ∃ (j : Nat) (xs : CT), as[j]? = some (.q xs) ∧ vs[j]? = some (.ref b)
    · exact .inr (.inr q)
    · replace e : (if _ then _ else _) = _ := e
      rw [if_neg q] at e
      rcases noT_none e with z | z
      · exact .inl z
      · exact .inr (.inl z)
  have at_ : ∀ {i : Nat} {x : SL}, (startS N.length as)[i]? = some (some x) → as[i]? = some x := fun {i x} h => by
    unfold startS at h
    by_cases hi : i < as.length
    · rw [List.getElem?_append_left (by simpa using hi), List.getElem?_map] at h
      cases e : as[i]? with
      | none => rw [e] at h; cases h
      | some a => rw [e] at h; cases h; rfl
    · rw [List.getElem?_append_right (by simpa using hi), List.getElem?_replicate] at h
      split at h <;> cases h
  have slot : ∀ {i : Nat} {v : V}, vs[i]? = some v → (L2.start N vs)[i]? = some (some v) := fun {i v} h => by
    unfold L2.start
    have hi : i < vs.length := (List.getElem?_eq_some_iff.mp h).1
    rw [List.getElem?_append_left (by simpa using hi), List.getElem?_map, h]
    rfl
  have isq : ∀ {x : SL} {xs : CT} {i : Nat} {v : V}, x.held = some xs → ArgR K F H x v → x = .q xs := fun {x xs i v} h ha => by
    cases x with
    | q zs => cases h; rfl
    | c zs => exact ha.elim
    | v d => cases h
    | s ns => cases h
  refine ⟨?_, Same.refl _, fh, fun b o e => ?_, fun b z => .inl z, fun i d h => ?_, fun i ns h => ?_, fun i x xs h hx => ?_, fun i xs h => rfl, fun i j x y h1 h2 hx hy he => ?_, fun b ps z => ?_, ft.nf, ft.tb⟩
  · unfold startS L2.start
    rw [List.length_append, List.length_append, List.length_map, List.length_map, List.length_replicate, List.length_replicate, ft.len]
  · by_cases q : ∃ (j : Nat) (xs : CT), as[j]? = some (.q xs) ∧ vs[j]? = some (.ref b)
    · replace e : (if _ then _ else _) = _ := e
      rw [if_pos q] at e
      cases e
    · replace e : (if _ then _ else _) = _ := e
      rw [if_neg q] at e
      exact noT_some e
  · obtain ⟨v, h1, h2⟩ := ft.arg i _ (at_ h)
    exact ⟨v, slot h1, h2⟩
  · obtain ⟨v, h1, h2⟩ := ft.arg i _ (at_ h)
    exact ⟨v, slot h1, h2⟩
  · obtain ⟨v, h1, h2⟩ := ft.arg i _ (at_ h)
    have e := isq (i := i) hx h2
    subst e
    obtain ⟨c, rfl, g1, g2⟩ := h2
    have ec : adr vs i = c := by unfold adr; rw [h1]
    rw [ec]
    exact ⟨slot h1, g1, (if_pos ⟨i, xs, at_ h, h1⟩), g2⟩
  · obtain ⟨v, g1, g2⟩ := ft.arg i _ (at_ h1)
    obtain ⟨u, g3, g4⟩ := ft.arg j _ (at_ h2)
    obtain ⟨xs, hx'⟩ := Option.isSome_iff_exists.mp hx
    obtain ⟨ys, hy'⟩ := Option.isSome_iff_exists.mp hy
    have e1 := isq (i := i) hx' g2
    have e2 := isq (i := j) hy' g4
    subst e1
    subst e2
    obtain ⟨c, rfl, _⟩ := g2
    obtain ⟨c', rfl, _⟩ := g4
    have ec : adr vs i = c := by unfold adr; rw [g1]
    have ec' : adr vs j = c' := by unfold adr; rw [g3]
    rw [ec, ec'] at he
    subst he
    exact ft.dist i j xs ys c (at_ h1) (at_ h2) g1 g3
  · replace z : (if _ then _ else _) = _ := z
    split at z
    · cases z
    · exact noT_tbl _ ps z
section
variable {P : Program} {w : World} {K : PySem.W.Frag} {mg : Str → Option Value} {base : Heap}
theorem jfL {x qual : Str} {st : Stmt} {f : Addr} {fd : FuncData} {N ps : List Str} {k : Nat} {m : MS} (F : Fun K x qual st f fd) (S : FnScope N ps (defScope st)) (hl : ps.length ≤ N.length)
    (hb : ∀ cdv A outer s H (E : _), fd.code = cdv → A.guards = some [] → Room k (cxOf CX0 P w K mg base N qual (defScope st) f cdv A outer s H E).nox.A → JB (cxOf CX0 P w K mg base N qual (defScope st) f cdv A outer s H E).nox W0 (defBody st) m) :
    FnG P w K mg base CX0 (k + 1) f fd ps (spM K ps.length (defM N.length m)) := by
  refine okGc F S (fun vs H Q E h => h.1) fun cdv A outer s H vs Q E hcd hg hr h => ?_
  obtain ⟨hv, F1, as, d, as', fh, ft, hm, kk⟩ := h
  obtain ⟨t, pt, stt⟩ := (hb cdv A outer s H E hcd hg hr).ex
  refine ⟨t, pt, ?_⟩
  obtain ⟨P1, hP1, hP2, R⟩ := rc_start (N := N) fh ft (by rw [← ft.len, hv]; exact hl)
  have fin : ∀ (v : V) (F' : Hp) (c' : Nat → Addr) (S' : Sl) (σ' : L2.St) (H' : Hp) (d : PyData) (as' : List SL), (∀ v F' H', Back K F1 H F' H' as vs as' v d → Q v H') → Same F1 F' → RC K P1 F1 (adr vs) F' c' S' σ' H' → DV K F' v d → asOut as S' = some as' → Q v H' := by
    intro v F' c' S' σ' H' d as' kk f1 R1 dv ho
    refine kk v F' H' ⟨f1, R1.fh, fun b o e ht hno => R1.ph b o (hP1 b o e ht hno), fun b z => ?_, R1.nf, R1.tb, dv, fun j xs e => ?_⟩
    · rcases R1.fr b z with z' | z'
      · exact .inl z'
      · rcases hP2 b z' with z2 | z2 | ⟨j, xs, h1, h2⟩
        · exact .inr (.inl z2)
        · exact .inr (.inr z2)
        · -- a lent list is not told as long as its slot holds it; here it must be shown from the slot
          by_cases q : F1 b = none
          · exact absurd q (by
              intro q
              obtain ⟨ys, e1⟩ : ∃ ys, S'[j]? = some (some (.q ys)) := by
                have aux : ∀ {as : List SL} {S : Sl} {as' : List SL} {j : Nat} {xs : CT}, asOut as S = some as' → as[j]? = some (.q xs) → ∃ ys, S[j]? = some (some (.q ys)) := by
                  intro as
                  induction as with
                  | nil => intro S as' j xs _ e; simp at e
                  | cons a as ih =>
                    intro S as' j xs h e
                    cases S with
                    | nil => cases a <;> simp [asOut] at h
                    | cons s S =>
                      cases j with
                      | zero =>
                        have ea : a = .q xs := by simpa using e
                        subst ea
                        cases s with
                        | none => simp [asOut] at h
                        | some s =>
                          cases s with
                          | q ws => exact ⟨ws, rfl⟩
                          | _ => simp [asOut] at h
                      | succ j =>
                        have e' : as[j]? = some (.q xs) := by simpa using e
                        have tl : ∃ as2, asOut as S = some as2 := by
                          cases a with
                          | q zs =>
                            cases s with
                            | none => simp [asOut] at h
                            | some s =>
                              cases s with
                              | q ws =>
                                obtain ⟨as2, h2, _⟩ := Option.map_eq_some_iff.mp (show (asOut as S).map (SL.q ws :: ·) = some as' by simpa [asOut] using h)
                                exact ⟨as2, h2⟩
                              | _ => simp [asOut] at h
                          | v d =>
                            obtain ⟨as2, h2, _⟩ := Option.map_eq_some_iff.mp (show (asOut as S).map (SL.v d :: ·) = some as' by simpa [asOut] using h)
                            exact ⟨as2, h2⟩
                          | c d =>
                            obtain ⟨as2, h2, _⟩ := Option.map_eq_some_iff.mp (show (asOut as S).map (SL.c d :: ·) = some as' by simpa [asOut] using h)
                            exact ⟨as2, h2⟩
                          | s d =>
                            obtain ⟨as2, h2, _⟩ := Option.map_eq_some_iff.mp (show (asOut as S).map (SL.s d :: ·) = some as' by simpa [asOut] using h)
                            exact ⟨as2, h2⟩
                        obtain ⟨as2, h2⟩ := tl
                        obtain ⟨ys, e3⟩ := ih h2 e'
                        exact ⟨ys, by simpa using e3⟩
                exact aux ho h1
              obtain ⟨_, g2, _⟩ := R1.cl j _ ys e1 rfl
              have ec : c' j = b := by
                rw [R1.qs j ys e1]
                unfold adr
                rw [h2]
              rw [ec] at g2
              exact z g2)
          · exact .inl q
    · obtain ⟨e1, ys, e2⟩ := asOut_q ho e
      obtain ⟨g1, _, _, g4⟩ := R1.cl j _ xs e1 rfl
      obtain ⟨v2, g6, c2, rfl, _⟩ := ft.arg j _ e2
      have ec : c' j = c2 := by
        rw [R1.qs j xs e1]
        unfold adr
        rw [g6]
      rw [ec] at g4
      exact ⟨c2, g6, g4⟩
  unfold defM at hm
  split at hm
  · rename_i d' S' e1
    split at hm
    · rename_i as2 e2
      cases hm
      exact stt P1 F1 (adr vs) F1 (adr vs) _ _ H _ _ S' R e1 fun F' c' σ' H' f1 R1 v q => fin v F' c' S' σ' H' _ _ kk f1 R1 q e2
    · cases hm
  · rename_i S' e1
    split at hm
    · rename_i as2 e2
      cases hm
      exact stt P1 F1 (adr vs) F1 (adr vs) _ _ H _ _ S' R e1 fun F' c' σ' H' f1 R1 => fin .non F' c' S' σ' H' _ _ kk f1 R1 .non e2
    · cases hm
  · cases hm
theorem jf {x qual : Str} {st : Stmt} {f : Addr} {fd : FuncData} {N ps : List Str} {k : Nat} {m : MS} (F : Fun K x qual st f fd) (S : FnScope N ps (defScope st)) (hl : ps.length ≤ N.length)
    (hb : ∀ cdv A outer s H (E : _), A.guards = some [] → Room k (cxOf CX0 P w K mg base N qual (defScope st) f cdv A outer s H E).nox.A → JB (cxOf CX0 P w K mg base N qual (defScope st) f cdv A outer s H E).nox W0 (defBody st) m) :
    FnG P w K mg base CX0 (k + 1) f fd ps (spM K ps.length (defM N.length m)) :=
  jfL F S hl fun cdv A outer s H E _ => hb cdv A outer s H E
end
end VL
namespace VL
open PySem PySem.Spec PyProof.Rows L2
variable [LT]
def denE (K : PySem.W.Frag) (m : ME) : TE := fun σ H Q => ∃ P F0 qc F cell S r S', RC K P F0 qc F cell S σ H ∧ m S = some (r, S') ∧ ∀ v F' H', Same F F' → RC K P F0 qc F' cell S' σ H' → VR K F' cell r v → Q v H'
def denT (K : PySem.W.Frag) (m : MT) : TT := fun σ H Q => ∃ P F0 qc F cell S r S', RC K P F0 qc F cell S σ H ∧ m S = some (r, S') ∧ ∀ F' H', Same F F' → RC K P F0 qc F' cell S' σ H' → Q r H'
def denG (K : PySem.W.Frag) (m : MG) (ts : List Nat) : TG := fun x σ H Q => ∃ P F0 qc F cell S d S', RC K P F0 qc F cell S σ H ∧ DV K F x d ∧ m d S = some S' ∧ ∀ σ', RC K P F0 qc F cell S' σ' H → (∀ vs : List Nat, (∀ i ∈ ts, i ∈ vs) → wipe σ' vs = wipe σ vs) → Q σ' H
theorem JE.den {X : Cx} {e : Expr} {m : ME} (h : JE X e m) : PE X e (denE X.K m) := by
  obtain ⟨t, p, s⟩ := h.ex
  exact ⟨fun pins s0 σ H Q I ⟨P, F0, qc, F, cell, S, r, S', R, hm, k⟩ => p.run pins s0 σ H Q I (s P F0 qc F cell S σ H Q r S' R hm k)⟩
theorem JG.den {X : Cx} {e : Expr} {m : MG} {ts : List Nat} (h : JG X e m ts) : PG X e (denG X.K m ts) := by
  obtain ⟨t, p, s⟩ := h.ex
  exact ⟨fun pins s0 σ H v u Q I r ⟨P, F0, qc, F, cell, S, d, S', R, hd, hm, k⟩ => p.run pins s0 σ H v u Q I r (s P F0 qc F cell S σ H Q v d S' R hd hm k)⟩
structure JTs (X : Cx) (ifs : List Expr) (m : MT) : Prop where
  ex : ∃ t, PTs X ifs t ∧ SndT X.K t m
theorem JTs.den {X : Cx} {ifs : List Expr} {m : MT} (h : JTs X ifs m) : PTs X ifs (denT X.K m) := by
  obtain ⟨t, p, s⟩ := h.ex
  exact ⟨fun pins s0 σ H Q I ⟨P, F0, qc, F, cell, S, r, S', R, hm, k⟩ => p.run pins s0 σ H Q I (s P F0 qc F cell S σ H Q r S' R hm k)⟩
def tYesM : MT := fun S => some (true, S)
theorem jts_nil {X : Cx} : JTs X [] tYesM := ⟨_, pts_nil, fun P F0 qc F cell S σ H Q r S' R hm k => by
  cases hm
  exact k F H (Same.refl _) R⟩
abbrev MX := Sl → Option (SL × Sl)
def SndX (K : PySem.W.Frag) (t : TE) (m : MX) : Prop :=
  ∀ (P F0 : Hp) (qc : Nat → Addr) (F : Hp) (cell : Nat → Addr) (S : Sl) (σ : L2.St) (H : Hp) (Q : VK) (r : SL) (S' : Sl), RC K P F0 qc F cell S σ H → m S = some (r, S') →
    (match r with
      | .v d => ∀ v F' H', Same F F' → RC K P F0 qc F' cell S' σ H' → DV K F' v d → Q v H'
      | .c (.l ds) => ∀ p vs F' H', Same F F' → P p = none → F0 p = none → RC K (upd P p (.lst vs)) F0 qc F' cell S' σ H' → DVs K F' vs ds → Q (.ref p) H'
      | .c (.o b fs) => ∀ p C dx vs F' H', Same F F' → P p = none → F0 p = none → PySem.W.nsIn K mainGlobals b = some (some (.ref C)) → RC K (upd P p (.ins C dx ((fs.map (·.1)).zip vs))) F0 qc F' cell S' σ H' → DVs K F' vs (fs.map (·.2)) → Q (.ref p) H'
      | _ => False) → t σ H Q
structure JX (X : Cx) (e : Expr) (m : MX) : Prop where
  ex : ∃ t, PE X e t ∧ SndX X.K t m
section
variable {K : PySem.W.Frag} {P F0 F F' : Hp} {qc cell : Nat → Addr} {S : Sl} {σ : L2.St} {H H' : Hp} {p : Addr} {o o' : HO}
theorem RC.unlay (R : RC K (upd P p o) F0 qc F cell S σ H) (hp : P p = none) : RC K P F0 qc F cell S σ H where
  len := R.len
  f0 := R.f0
  fh := R.fh
  ph := fun b u e => R.ph b u (by rw [upd_ne (fun q => by subst q; rw [hp] at e; cases e)]; exact e)
  fr := fun b z => by
    rcases R.fr b z with z | z
    · exact .inl z
    · by_cases q : b = p
      · subst q
        exact .inr hp
      · rw [upd_ne q] at z
        exact .inr z
  vl := R.vl
  sc := R.sc
  cl := fun i x xs h hx => by
    obtain ⟨h1, h2, h3, h4⟩ := R.cl i x xs h hx
    refine ⟨h1, h2, ?_, h4⟩
    by_cases q : cell i = p
    · rw [q]; exact hp
    · rw [upd_ne q] at h3; exact h3
  qs := R.qs
  inj := R.inj
  np := fun b ps z => R.np b ps (by rw [upd_ne (fun q => by subst q; rw [hp] at z; cases z)]; exact z)
  nf := R.nf
  tb := R.tb
theorem RC.own {vs : List V} {ds : List PyData} {i : Nat} (R : RC K (upd P p (.lst vs)) F0 qc F cell S σ H) (hp : P p = none) (h0 : F0 p = none) (hv : DVs K F vs ds) :
    RC K P F0 qc F (fun j => if j = i then p else cell j) (S.set i (some (.c (.l ds)))) (σ.set i (some (.ref p))) H :=
  (R.unlay hp).setC (R.laid_untold h0) hp R.laid_apart R.laid_at hv
theorem RC.ownO {b : Str} {fs : List (Str × PyData)} {C dx : Addr} {vs : List V} {i : Nat} (R : RC K (upd P p (.ins C dx ((fs.map (·.1)).zip vs))) F0 qc F cell S σ H) (hp : P p = none) (h0 : F0 p = none) (hn : PySem.W.nsIn K mainGlobals b = some (some (.ref C))) (hv : DVs K F vs (fs.map (·.2))) :
    RC K P F0 qc F (fun j => if j = i then p else cell j) (S.set i (some (.c (.o b fs)))) (σ.set i (some (.ref p))) H :=
  (R.unlay hp).setCT (R.laid_untold h0) hp R.laid_apart ⟨C, dx, vs, hn, R.laid_at, hv⟩
theorem RC.tell {vs : List V} {ds : List PyData} (R : RC K (upd P p (.lst vs)) F0 qc F cell S σ H) (hp : P p = none) (h0 : F0 p = none) (hv : DVs K F vs ds) :
    ∃ F', Same F F' ∧ RC K P F0 qc F' cell S σ H ∧ DV K F' (.ref p) (.list ds) := by
  obtain ⟨R2, s2⟩ := R.adopt (o' := .lst vs) h0 hp
  have e : upd H p (.lst vs) = H := by
    funext b
    by_cases q : b = p
    · subst q
      rw [upd_same]
      exact R.laid_at.symm
    · rw [upd_ne q]
  rw [e] at R2
  exact ⟨_, s2, R2, .lst upd_same (hv.mono s2)⟩
end
def mV (me : ME) : MX := fun S => match me S with
  | some (.v d, S1) => some (.v d, S1)
  | _ => none
def mTell (mx : MX) : ME := fun S => match mx S with
  | some (.v d, S1) => some (.v d, S1)
  | some (.c (.l ds), S1) => some (.v (.list ds), S1)
  | _ => none
def xLst (ma : MA) : MX := fun S => match ma S with
  | none => none
  | some (rs, S1) => match stables rs with
    | some ds => if ds.length ≤ 100000 then some (.c (.l ds), S1) else none
    | none => none
def xToList (me : ME) : MX := fun S => match me S with
  | none => none
  | some (r, S1) => match deref S1 r with
    | some (.list ds) => some (.c (.l ds), S1)
    | some (.tuple ds) => some (.c (.l ds), S1)
    | _ => none
section
variable {X : Cx} {W : WX} {e a b : Expr} {es : List Expr} {me : ME} {mx : MX} {mas : MA} {pos p : Pos}
theorem jx_je (h : JE X e me) : JX X e (mV me) := by
  obtain ⟨t, p, s⟩ := h.ex
  refine ⟨t, p, fun P F0 qc F cell S σ H Q r S' R hm k => ?_⟩
  unfold mV at hm
  split at hm
  · rename_i d S1 e1
    cases hm
    exact s P F0 qc F cell S σ H Q _ S' R e1 fun v F' H' f1 R1 q1 => k v F' H' f1 R1 q1
  · cases hm
theorem je_tell (h : JX X e mx) : JE X e (mTell mx) := by
  obtain ⟨t, p, s⟩ := h.ex
  refine ⟨t, p, fun P F0 qc F cell S σ H Q r S' R hm k => ?_⟩
  unfold mTell at hm
  split at hm
  · rename_i d S1 e1
    cases hm
    exact s P F0 qc F cell S σ H Q _ S' R e1 fun v F' H' f1 R1 q1 => k v F' H' f1 R1 q1
  · rename_i ds S1 e1
    cases hm
    refine s P F0 qc F cell S σ H Q _ S' R e1 fun p vs F' H' f1 hp h0 R1 q1 => ?_
    obtain ⟨F2, f2, R2, dv⟩ := R1.tell hp h0 q1
    exact k _ F2 H' (f1.trans f2) R2 dv
  · cases hm
theorem jx_lst (h : JA X es mas) : JX X (.List es pos) (xLst mas) := by
  obtain ⟨ta, pa, sa⟩ := h.ex
  refine ⟨_, pe_lst pa, fun P F0 qc F cell S σ H Q z S' R hm k => ?_⟩
  unfold xLst at hm
  split at hm
  · cases hm
  · rename_i rs S1 e1
    split at hm
    · rename_i ds e2
      split at hm
      · rename_i hl
        cases hm
        refine sa P F0 qc F cell S σ H _ rs S' R e1 fun vs F1 H1 s1 R1 q1 => ?_
        have dv := VRs.stable q1 e2
        refine ⟨by rw [dv.length]; exact small5 hl, fun p hp => ?_⟩
        exact k p vs F1 _ s1 (R1.ph.free hp) ((R1.f0.trans R1.fh).free hp) (R1.lay hp) dv
      · cases hm
    · cases hm
def mSetX (i : Nat) (mx : MX) : MS := fun S => match mx S with
  | some (.v d, S1) => some (.nx, S1.set i (some (.v d)))
  | some (.c d, S1) => some (.nx, S1.set i (some (.c d)))
  | _ => none
theorem snd_setX {W : WX} {K : PySem.W.Frag} {t : TE} {i : Nat} (s : SndX K t mx) : SndS K W (tAsg t (gName i)) (mSetX i mx) := by
  intro P F0 qc F cell S σ H D fl S' R hm k
  unfold mSetX at hm
  split at hm
  · rename_i d S1 e1
    cases hm
    exact s P F0 qc F cell S σ H _ _ S1 R e1 fun v F' H' f1 R1 q1 => k F' cell _ H' f1 (R1.setV q1)
  · rename_i x S1 e1
    cases hm
    cases x with
    | l ds => exact s P F0 qc F cell S σ H _ _ S1 R e1 fun p vs F' H' f1 hp h0 R1 q1 => k F' _ _ H' f1 (R1.own hp h0 q1)
    | o b fs => exact s P F0 qc F cell S σ H _ _ S1 R e1 fun p C dx vs F' H' f1 hp h0 hn R1 q1 => k F' _ _ H' f1 (R1.ownO hp h0 hn q1)
  · cases hm
theorem js_setX (i : Nat) {x : Str} {pos' : Pos} (hN : X.N.Nodup) (he : JX X e mx) (hi : X.N[i]? = some x := by rfl) (hx : Loc X.env.scope x := by first | exact Or.inl rfl | exact Or.inr rfl) (hs : swapsWith e (some (.Name x pos')) pos.line X.env = pure false := by rfl)
    (hf : X.fn x = true ∨ X.env.scope.names.lookup x = some .local := by first | exact .inl rfl | exact .inr rfl) : JS X W (.Assign [.Name x pos'] e pos) (mSetX i mx) := by
  obtain ⟨t, p, s⟩ := he.ex
  exact ⟨_, ps_set hN hi hx p hs hf, snd_setX s⟩
end
def wp : Sl → List Nat → Sl
  | S, [] => S
  | S, v :: vs => (wp S vs).set v none
def ownOk (S : Sl) (vs : List Nat) : Bool := vs.all fun v => match S[v]? with
  | some (some (.v _)) => true
  | some none => true
  | _ => false
def unwp (S T : Sl) : List Nat → Sl
  | [] => T
  | v :: vs => (unwp S T vs).set v (S[v]?.bind id)
theorem wp_length (S : Sl) : ∀ vs : List Nat, (wp S vs).length = S.length
  | [] => rfl
  | v :: vs => by unfold wp; rw [List.length_set, wp_length S vs]
theorem unwp_length (S T : Sl) : ∀ vs : List Nat, (unwp S T vs).length = T.length
  | [] => rfl
  | v :: vs => by unfold unwp; rw [List.length_set, unwp_length S T vs]
theorem unwp_at {S T : Sl} {i : Nat} {x : SL} : ∀ {vs : List Nat}, (unwp S T vs)[i]? = some (some x) → (i ∈ vs ∧ S[i]? = some (some x)) ∨ (i ∉ vs ∧ T[i]? = some (some x))
  | [], h => .inr ⟨by simp, h⟩
  | v :: vs, h => by
    unfold unwp at h
    rcases get_set h with ⟨rfl, e2, hl⟩ | ⟨ne, e⟩
    · refine .inl ⟨List.mem_cons_self, ?_⟩
      cases q : S[v]? with
      | none => rw [q] at e2; cases e2
      | some u =>
        rw [q] at e2
        cases u with
        | none => cases e2
        | some u => cases e2; rfl
    · rcases unwp_at e with ⟨h1, h2⟩ | ⟨h1, h2⟩
      · exact .inl ⟨List.mem_cons_of_mem _ h1, h2⟩
      · exact .inr ⟨fun z => (List.mem_cons.mp z).elim (fun z => ne z.symm) h1, h2⟩
section
variable {K : PySem.W.Frag} {P F0 F F' : Hp} {qc cell : Nat → Addr} {S T : Sl} {σ : L2.St} {H H' : Hp}
theorem RC.setN (R : RC K P F0 qc F cell S σ H) (i : Nat) : RC K P F0 qc F cell (S.set i none) (σ.set i none) H := by
  have at_ : ∀ {j : Nat} {x : SL}, (S.set i none)[j]? = some (some x) → i ≠ j ∧ S[j]? = some (some x) := fun {j x} h => by
    rcases get_set h with ⟨rfl, e2, hl⟩ | h
    · cases e2
    · exact h
  refine ⟨by rw [List.length_set, List.length_set]; exact R.len, R.f0, R.fh, R.ph, R.fr, fun j d e => ?_, fun j ns e => ?_, fun j x xs e hx => ?_, fun j xs e => R.qs j xs (at_ e).2, fun j k x y e1 e2 hx hy => R.inj j k x y (at_ e1).2 (at_ e2).2 hx hy, R.np, R.nf, R.tb⟩
  · obtain ⟨ne, e⟩ := at_ e
    obtain ⟨u, h1, h2⟩ := R.vl j d e
    exact ⟨u, by rw [List.getElem?_set_ne ne]; exact h1, h2⟩
  · obtain ⟨ne, e⟩ := at_ e
    obtain ⟨u, h1, h2⟩ := R.sc j ns e
    exact ⟨u, by rw [List.getElem?_set_ne ne]; exact h1, h2⟩
  · obtain ⟨ne, e⟩ := at_ e
    obtain ⟨h1, h2⟩ := R.cl j x xs e hx
    exact ⟨by rw [List.getElem?_set_ne ne]; exact h1, h2⟩
theorem RC.wipe (R : RC K P F0 qc F cell S σ H) : ∀ vs : List Nat, RC K P F0 qc F cell (wp S vs) (L2.wipe σ vs) H
  | [] => R
  | v :: vs => (RC.wipe R vs).setN v
theorem wipe_in {σ : L2.St} {i : Nat} (hl : i < σ.length) : ∀ {vs : List Nat}, i ∈ vs → (L2.wipe σ vs)[i]? = some none
  | v :: vs, h => by
    unfold L2.wipe
    by_cases q : v = i
    · subst q
      rw [List.getElem?_set_self (by rw [wipe_length]; exact hl)]
    · rw [List.getElem?_set_ne q]
      exact wipe_in hl ((List.mem_cons.mp h).elim (fun z => absurd z.symm q) id)
theorem wipe_idem (σ : L2.St) (vs : List Nat) : L2.wipe (L2.wipe σ vs) vs = L2.wipe σ vs := by
  refine List.ext_getElem? fun i => ?_
  by_cases h : i ∈ vs
  · by_cases hl : i < σ.length
    · rw [wipe_in (by rw [wipe_length]; exact hl) h, wipe_in hl h]
    · rw [List.getElem?_eq_none (by rw [wipe_length, wipe_length]; omega), List.getElem?_eq_none (by rw [wipe_length]; omega)]
  · rw [wipe_out h]
theorem RC.unwipe {S1 : Sl} {H1 F1 P1 F01 : Hp} {qc1 cell1 : Nat → Addr} {vs : List Nat} (R1 : RC K P1 F01 qc1 F1 cell1 S1 σ H1) (ho : ownOk S1 vs = true) (f : Same F1 F) (R : RC K P F0 qc F cell T (L2.wipe σ vs) H) : RC K P F0 qc F cell (unwp S1 T vs) σ H := by
  have data : ∀ {i : Nat} {x : SL}, i ∈ vs → S1[i]? = some (some x) → ∃ d, x = .v d := fun {i x} hi e => by
    have := List.all_eq_true.mp ho i hi
    rw [e] at this
    cases x with
    | v d => exact ⟨d, rfl⟩
    | c d => cases this
    | q d => cases this
    | s d => cases this
  have held : ∀ {i : Nat} {x : SL}, (unwp S1 T vs)[i]? = some (some x) → (∀ d, x ≠ .v d) → i ∉ vs ∧ T[i]? = some (some x) := fun {i x} h hx => by
    rcases unwp_at h with ⟨h1, h2⟩ | h
    · obtain ⟨d, rfl⟩ := data h1 h2
      exact absurd rfl (hx d)
    · exact h
  have noV : ∀ {x : SL}, x.held.isSome = true → ∀ d, x ≠ .v d := fun {x} h d e => by subst e; cases h
  refine ⟨by rw [unwp_length, R.len, wipe_length], R.f0, R.fh, R.ph, R.fr, fun j d e => ?_, fun j ns e => ?_, fun j x xs e hx => ?_, fun j xs e => ?_, fun j k x y e1 e2 hx hy => ?_, R.np, R.nf, R.tb⟩
  · rcases unwp_at e with ⟨h1, h2⟩ | ⟨h1, h2⟩
    · obtain ⟨v, h3, h4⟩ := R1.vl j d h2
      exact ⟨v, h3, h4.mono f⟩
    · obtain ⟨v, h3, h4⟩ := R.vl j d h2
      exact ⟨v, (wipe_some h3).1, h4⟩
  · obtain ⟨h1, h2⟩ := held e (fun d z => by cases z)
    obtain ⟨v, h3, h4⟩ := R.sc j ns h2
    exact ⟨v, (wipe_some h3).1, h4⟩
  · obtain ⟨h1, h2⟩ := held e (noV (by rw [hx]; rfl))
    obtain ⟨h3, h4⟩ := R.cl j x xs h2 hx
    exact ⟨(wipe_some h3).1, h4⟩
  · obtain ⟨h1, h2⟩ := held e (fun d z => by cases z)
    exact R.qs j xs h2
  · exact R.inj j k x y (held e1 (noV hx)).2 (held e2 (noV hy)).2 hx hy
end
def lcGo (g : MG) (mt : MT) (me : ME) (vs : List Nat) : List PyData → Sl → List PyData → Option (List PyData × Sl)
  | [], T, acc => some (acc, T)
  | d :: ds, T, acc => match g d T with
    | none => none
    | some T1 => match mt T1 with
      | none => none
      | some (false, T2) => lcGo g mt me vs ds (wp T2 vs) acc
      | some (true, T2) => match me T2 with
        | some (.v z, T3) => if acc.length < 100000 then lcGo g mt me vs ds (wp T3 vs) (acc ++ [z]) else none
        | _ => none
def xLc (mi : MI) (g : MG) (mt : MT) (me : ME) (vs : List Nat) : MX := fun S => match mi S with
  | none => none
  | some (ds, S1) => if ownOk S1 vs = true then match lcGo g mt me vs ds (wp S1 vs) [] with
      | some (acc, T) => some (.c (.l acc), unwp S1 T vs)
      | none => none
    else none
section
variable {X : Cx} {W : WX} {elt tg iter : Expr} {ifs : List Expr} {scope : Scope} {own : List (Str × Nat)} {pos : Pos} {mi : MI} {g : MG} {mt : MT} {me : ME} {ts : List Nat}
theorem snd_lc {K : PySem.W.Frag} {wi : TI} {vs : List Nat} (si : SndI K wi mi) (hv : ∀ i ∈ ts, i ∈ vs) : SndX K (tLc wi (denG K g ts) (denT K mt) (denE K me) vs) (xLc mi g mt me vs) := by
  intro P F0 qc F cell S σ H Q r S' R hm k
  unfold xLc at hm
  split at hm
  · cases hm
  · rename_i ds S1 e1
    split at hm
    · rename_i ho
      split at hm
      · rename_i acc T e2
        cases hm
        refine si P F0 qc F cell S σ H _ ds S1 R e1 fun J F1 H1 f1 R1 ok => ?_
        intro D hD
        obtain ⟨G, Y, w, hG, hY⟩ := ok.ex
        have hP : P D = none := R1.ph.free hD
        have h0 : F0 D = none := (R1.f0.trans R1.fh).free hD
        refine ⟨fun i m H => m = ds.length - i ∧ i ≤ ds.length ∧ ∃ F2 T2 acc2 ws, Same F1 F2 ∧ RC K (upd P D (.lst ws)) F0 qc F2 cell T2 (L2.wipe σ vs) H ∧ DVs K F2 ws acc2 ∧ lcGo g mt me vs (ds.drop i) T2 acc2 = some (acc, T),
          ⟨ds.length, by simp, Nat.zero_le _, F1, wp S1 vs, [], [], Same.refl _, (R1.lay hD).wipe vs, .nil, e2⟩, ?_⟩
        rintro i m H2 ⟨rfl, hi, F2, T2, acc2, ws, f2, R2, hw, e3⟩
        by_cases hlt : i < ds.length
        · refine .inr ⟨w.1 i H2 hlt (hG H2 (f2.trans R2.fh)), fun H' => i + 1 ≤ ds.length ∧ ∃ F2 T2 acc2 ws, Same F1 F2 ∧ RC K (upd P D (.lst ws)) F0 qc F2 cell T2 (L2.wipe σ vs) H' ∧ DVs K F2 ws acc2 ∧ lcGo g mt me vs (ds.drop (i + 1)) T2 acc2 = some (acc, T), fun H' q => ⟨ds.length - (i + 1), by omega, rfl, q⟩, fun x H' y => ?_⟩
          obtain ⟨d, hd, hdr⟩ := drop_cons hlt
          rw [hdr] at e3
          unfold lcGo at e3
          obtain ⟨F3, ex, dv⟩ := hY i H2 x H' F2 d f2 R2.fh hd (w.yields i H2 x H' hlt (hG H2 (f2.trans R2.fh)) y)
          have R3 := R2.ext ex
          cases e4 : g d T2 with
          | none => rw [e4] at e3; cases e3
          | some T3 =>
            rw [e4] at e3
            refine ⟨_, F0, qc, F3, cell, T2, d, T3, R3, dv, e4, fun σ4 R4 w4 => ⟨(w4 vs hv).trans (wipe_idem σ vs), ?_⟩⟩
            cases e5 : mt T3 with
            | none => simp only [e5] at e3; cases e3
            | some z =>
              obtain ⟨b, T4⟩ := z
              simp only [e5] at e3
              refine ⟨_, F0, qc, F3, cell, T3, b, T4, R4, e5, fun F5 H5 f5 R5 => ?_⟩
              cases b with
              | false =>
                rw [if_neg Bool.false_ne_true]
                have e3 : lcGo g mt me vs (ds.drop (i + 1)) (wp T4 vs) acc2 = some (acc, T) := e3
                refine ⟨hlt, F5, _, acc2, ws, (f2.trans ex.f).trans f5, ?_, (hw.mono ex.f).mono f5, e3⟩
                rw [← (w4 vs hv).trans (wipe_idem σ vs)]
                exact R5.wipe vs
              | true =>
                rw [if_pos rfl]
                have e3 : (match me T4 with
                  | some (.v z, T3) => if acc2.length < 100000 then lcGo g mt me vs (ds.drop (i + 1)) (wp T3 vs) (acc2 ++ [z]) else none
                  | _ => none) = some (acc, T) := e3
                split at e3
                · rename_i z T5 e6
                  split at e3
                  · rename_i hl
                    refine ⟨_, F0, qc, F5, cell, T4, .v z, T5, R5, e6, fun v F6 H6 f6 R6 q6 => ?_⟩
                    refine ⟨ws, R6.laid_at, ?_, hlt, F6, _, acc2 ++ [z], ws ++ [v], ((f2.trans ex.f).trans f5).trans f6, ?_, (((hw.mono ex.f).mono f5).mono f6).append (.cons q6 .nil), e3⟩
                    · rw [hw.length]
                      exact Nat.lt_of_lt_of_le hl (by decide)
                    · rw [← (w4 vs hv).trans (wipe_idem σ vs)]
                      exact (R6.relay h0).wipe vs
                  · cases e3
                · cases e3
        · have e : i = ds.length := by omega
          subst e
          rw [List.drop_length] at e3
          cases e3
          refine .inl ⟨w.2 H2 (hG H2 (f2.trans R2.fh)), ?_⟩
          exact k D ws F2 H2 (f1.trans f2) hP h0 (R1.unwipe ho f2 R2) hw
      · cases hm
    · cases hm
theorem jx_lc (hc : X.calm = true) (hN : X.N.Nodup) (hi : JI X tg iter mi) (ok : BlkOk X.N X.env.scope scope own)
    (hg : ∀ (s : Shared) (H : Hp) (C : Addr) (cl : List (Str × Addr)) (fp : List Addr), JG (X.blk s H scope (compEnvC scope cl C X.env) fp) tg g ts) (ht : ∀ (s : Shared) (H : Hp) (C : Addr) (cl : List (Str × Addr)) (fp : List Addr), JTs (X.blk s H scope (compEnvC scope cl C X.env) fp) ifs mt)
    (he : ∀ (s : Shared) (H : Hp) (C : Addr) (cl : List (Str × Addr)) (fp : List Addr), JE (X.blk s H scope (compEnvC scope cl C X.env) fp) elt me) (hv : ∀ i ∈ ts, i ∈ own.map (·.2) := by decide) (hs : ∀ x, foldedSetIterable iter X.env x = pure x := by intro _; rfl) :
    JX X (.ListComp elt [⟨tg, iter, ifs, 0⟩] scope pos) (xLc mi g mt me (own.map (·.2))) := by
  obtain ⟨wi, pi, si⟩ := hi.ex
  exact ⟨_, pe_lc hc hN pi ok (fun s H C cl fp => (hg s H C cl fp).den) (fun s H C cl fp => (ht s H C cl fp).den) (fun s H C cl fp => (he s H C cl fp).den) hs, snd_lc si hv⟩
theorem js_setLc (i : Nat) {y : Str} {py spos : Pos} (hc : X.calm = true) (hN : X.N.Nodup) (hi : JI X tg iter mi) (ok : BlkOk X.N X.env.scope scope own)
    (hg : ∀ (s : Shared) (H : Hp) (C : Addr) (cl : List (Str × Addr)) (fp : List Addr), JG (X.blk s H scope (compEnvC scope cl C X.env) fp) tg g ts) (ht : ∀ (s : Shared) (H : Hp) (C : Addr) (cl : List (Str × Addr)) (fp : List Addr), JTs (X.blk s H scope (compEnvC scope cl C X.env) fp) ifs mt)
    (he : ∀ (s : Shared) (H : Hp) (C : Addr) (cl : List (Str × Addr)) (fp : List Addr), JE (X.blk s H scope (compEnvC scope cl C X.env) fp) elt me) (hy : X.N[i]? = some y := by rfl) (hyl : X.env.scope.names.lookup y = some .local := by rfl)
    (hsw : swapsWith (.ListComp elt [⟨tg, iter, ifs, 0⟩] scope pos) (some (.Name y py)) spos.line X.env = pure true := by rfl) (hv : ∀ i ∈ ts, i ∈ own.map (·.2) := by decide) (hs : ∀ x, foldedSetIterable iter X.env x = pure x := by intro _; rfl) :
    JS X W (.Assign [.Name y py] (.ListComp elt [⟨tg, iter, ifs, 0⟩] scope pos) spos) (mSetX i (xLc mi g mt me (own.map (·.2)))) := by
  obtain ⟨wi, pi, si⟩ := hi.ex
  exact ⟨_, ps_setLc hc hN hy hyl hsw pi ok (fun s H C cl fp => (hg s H C cl fp).den) (fun s H C cl fp => (ht s H C cl fp).den) (fun s H C cl fp => (he s H C cl fp).den) hs, snd_setX (snd_lc si hv)⟩
end
abbrev MXs := Sl → Option (List SL × Sl)
inductive LD (K : PySem.W.Frag) (F0 F : Hp) : Hp → Hp → List SL → List V → Prop
  | nil {P : Hp} : LD K F0 F P P [] []
  | v {P P' : Hp} {d : PyData} {v : V} {rs : List SL} {vs : List V} : DV K F v d → LD K F0 F P P' rs vs → LD K F0 F P P' (.v d :: rs) (v :: vs)
  | c {P P' : Hp} {ds : List PyData} {p : Addr} {ws : List V} {rs : List SL} {vs : List V} : P p = none → F0 p = none → DVs K F ws ds → LD K F0 F (upd P p (.lst ws)) P' rs vs → LD K F0 F P P' (.c (.l ds) :: rs) (.ref p :: vs)
  | o {P P' : Hp} {b : Str} {fs : List (Str × PyData)} {C dx p : Addr} {ws : List V} {rs : List SL} {vs : List V} : P p = none → F0 p = none → PySem.W.nsIn K mainGlobals b = some (some (.ref C)) → DVs K F ws (fs.map (·.2)) → LD K F0 F (upd P p (.ins C dx ((fs.map (·.1)).zip ws))) P' rs vs → LD K F0 F P P' (.c (.o b fs) :: rs) (.ref p :: vs)
def SndXs (K : PySem.W.Frag) (t : TA) (m : MXs) : Prop :=
  ∀ (P F0 : Hp) (qc : Nat → Addr) (F : Hp) (cell : Nat → Addr) (S : Sl) (σ : L2.St) (H : Hp) (Q : List V → Hp → Prop) (rs : List SL) (S' : Sl), RC K P F0 qc F cell S σ H → m S = some (rs, S') →
    (∀ vs P' F' H', Same F F' → RC K P' F0 qc F' cell S' σ H' → LD K F0 F' P P' rs vs → Q vs H') → t σ H Q
structure JXs (X : Cx) (es : List Expr) (m : MXs) : Prop where
  ex : ∃ t, PA X es t ∧ SndXs X.K t m
def xsNil : MXs := fun S => some ([], S)
def xsCons (mx : MX) (ms : MXs) : MXs := fun S => match mx S with
  | some (.v d, S1) => match ms S1 with
    | some (rs, S2) => some (.v d :: rs, S2)
    | none => none
  | some (.c d, S1) => match ms S1 with
    | some (rs, S2) => some (.c d :: rs, S2)
    | none => none
  | _ => none
def setAll : List Nat → List SL → Sl → Sl
  | i :: is, r :: rs, S => (setAll is rs S).set i (some r)
  | _, _, S => S
def setAllV : List Nat → List V → L2.St → L2.St
  | i :: is, r :: rs, S => (setAllV is rs S).set i (some r)
  | _, _, S => S
def mPar (is : List Nat) (ms : MXs) : MS := fun S => match ms S with
  | some (rs, S1) => if rs.length = is.length then some (.nx, setAll is rs S1) else none
  | none => none
theorem LD.mono {K : PySem.W.Frag} {F0 F F' : Hp} (e : Same F F') : ∀ {P P' : Hp} {rs : List SL} {vs : List V}, LD K F0 F P P' rs vs → LD K F0 F' P P' rs vs
  | _, _, _, _, .nil => .nil
  | _, _, _, _, .v h t => .v (h.mono e) (LD.mono e t)
  | _, _, _, _, .c h1 h2 h3 t => .c h1 h2 (h3.mono e) (LD.mono e t)
  | _, _, _, _, .o h1 h2 hn h3 t => .o h1 h2 hn (h3.mono e) (LD.mono e t)
theorem LD.length {K : PySem.W.Frag} {F0 F : Hp} : ∀ {P P' : Hp} {rs : List SL} {vs : List V}, LD K F0 F P P' rs vs → vs.length = rs.length
  | _, _, _, _, .nil => rfl
  | _, _, _, _, .v h t => by rw [List.length_cons, List.length_cons, LD.length t]
  | _, _, _, _, .c h1 h2 h3 t => by rw [List.length_cons, List.length_cons, LD.length t]
  | _, _, _, _, .o h1 h2 hn h3 t => by rw [List.length_cons, List.length_cons, LD.length t]
theorem LD.all {K : PySem.W.Frag} {F0 F H : Hp} {qc : Nat → Addr} {σ : L2.St} {S : Sl} : ∀ {is : List Nat} {P P' : Hp} {rs : List SL} {vs : List V} {cell : Nat → Addr}, LD K F0 F P P' rs vs → rs.length = is.length → RC K P' F0 qc F cell S σ H →
    ∃ cell', RC K P F0 qc F cell' (setAll is rs S) (setAllV is vs σ) H
  | [], _, _, _, _, cell, .nil, _, R => ⟨cell, R⟩
  | i :: is, _, _, _, _, cell, .v h t, hl, R => by
    obtain ⟨c', R'⟩ := LD.all (is := is) t (by simpa using hl) R
    exact ⟨c', R'.setV h⟩
  | i :: is, _, _, _, _, cell, .c h1 h2 h3 t, hl, R => by
    obtain ⟨c', R'⟩ := LD.all (is := is) t (by simpa using hl) R
    exact ⟨_, R'.own h1 h2 h3⟩
  | i :: is, _, _, _, _, cell, .o h1 h2 hn h3 t, hl, R => by
    obtain ⟨c', R'⟩ := LD.all (is := is) t (by simpa using hl) R
    exact ⟨_, R'.ownO h1 h2 hn h3⟩
section
variable {X : Cx} {W : WX} {e a b c : Expr} {es : List Expr} {mx : MX} {ms : MXs} {pos : Pos}
theorem jxs_nil : JXs X [] xsNil := ⟨_, pa_nil, fun P F0 qc F cell S σ H Q rs S' R hm k => by
  cases hm
  exact k [] P F H (Same.refl _) R .nil⟩
theorem jxs_cons (he : JX X e mx) (hs : JXs X es ms) (hst : starEach (e :: es) X.env = (false, eval e X.env) :: starEach es X.env := by rfl) : JXs X (e :: es) (xsCons mx ms) := by
  obtain ⟨t, p, s⟩ := he.ex
  obtain ⟨u, q, sq⟩ := hs.ex
  refine ⟨_, pa_cons p q hst, fun P F0 qc F cell S σ H Q rs S' R hm k => ?_⟩
  unfold xsCons at hm
  split at hm
  · rename_i d S1 e1
    split at hm
    · rename_i rs' S2 e2
      cases hm
      refine s P F0 qc F cell S σ H _ _ S1 R e1 fun v F1 H1 f1 R1 q1 => ?_
      refine sq P F0 qc F1 cell S1 σ H1 _ rs' S' R1 e2 fun vs P2 F2 H2 f2 R2 l2 => ?_
      exact k (v :: vs) P2 F2 H2 (f1.trans f2) R2 (.v (q1.mono f2) l2)
    · cases hm
  · rename_i d S1 e1
    split at hm
    · rename_i rs' S2 e2
      cases hm
      cases d with
      | l ds =>
        refine s P F0 qc F cell S σ H _ _ S1 R e1 fun p ws F1 H1 f1 hp h0 R1 q1 => ?_
        refine sq _ F0 qc F1 cell S1 σ H1 _ rs' S' R1 e2 fun vs P2 F2 H2 f2 R2 l2 => ?_
        exact k (.ref p :: vs) P2 F2 H2 (f1.trans f2) R2 (.c hp h0 (q1.mono f2) l2)
      | o b fs =>
        refine s P F0 qc F cell S σ H _ _ S1 R e1 fun p C dx ws F1 H1 f1 hp h0 hn R1 q1 => ?_
        refine sq _ F0 qc F1 cell S1 σ H1 _ rs' S' R1 e2 fun vs P2 F2 H2 f2 R2 l2 => ?_
        exact k (.ref p :: vs) P2 F2 H2 (f1.trans f2) R2 (.o hp h0 hn (q1.mono f2) l2)
    · cases hm
  · cases hm
theorem js_par2 {i j : Nat} {x y : Str} {px py pt : Pos} {kt k2 pt2} (hc : X.calm = true) (hN : X.N.Nodup) (ha : JXs X [a, b] ms) (hi : X.N[i]? = some x := by rfl) (hj : X.N[j]? = some y := by rfl) (hij : i ≠ j := by decide)
    (hx : X.env.scope.names.lookup x = some .local := by rfl) (hy : X.env.scope.names.lookup y = some .local := by rfl)
    (hw : swappedStores [.Tuple [.Name x px, .Name y py] kt pt] (.Tuple [a, b] k2 pt2) X.env = pure (some [x, y]) := by rfl)
    (hs : swapsWithSole [.Tuple [.Name x px, .Name y py] kt pt] (.Tuple [a, b] k2 pt2) pos.line X.env = pure false := by rfl) :
    JS X W (.Assign [.Tuple [.Name x px, .Name y py] kt pt] (.Tuple [a, b] k2 pt2) pos) (mPar [i, j] ms) := by
  obtain ⟨t, p, s⟩ := ha.ex
  refine ⟨_, ps_par hc hN hi hj hij hx hy p hw hs, fun P F0 qc F cell S σ H D fl S' R hm k => ?_⟩
  unfold mPar at hm
  split at hm
  · rename_i rs S1 e1
    split at hm
    · rename_i hl
      cases hm
      refine s P F0 qc F cell S σ H _ rs S1 R e1 fun vs P' F' H' f1 R1 l => ?_
      obtain ⟨c', R2⟩ := l.all hl R1
      have hv : vs.length = 2 := l.length.trans hl
      match vs, hv with
      | [v, w], _ =>
        refine ⟨v, w, rfl, ?_⟩
        rw [List.set_comm _ _ hij]
        exact k F' c' _ H' f1 R2
    · cases hm
  · cases hm
theorem js_par3 {i j l : Nat} {x y z : Str} {px py pz pt : Pos} {kt k2 pt2} (hc : X.calm = true) (hN : X.N.Nodup) (ha : JXs X [a, b, c] ms) (hi : X.N[i]? = some x := by rfl) (hj : X.N[j]? = some y := by rfl) (hk : X.N[l]? = some z := by rfl) (hij : i ≠ j := by decide) (hil : i ≠ l := by decide) (hjl : j ≠ l := by decide)
    (hx : X.env.scope.names.lookup x = some .local := by rfl) (hy : X.env.scope.names.lookup y = some .local := by rfl) (hz : X.env.scope.names.lookup z = some .local := by rfl)
    (hw : swappedStores [.Tuple [.Name x px, .Name y py, .Name z pz] kt pt] (.Tuple [a, b, c] k2 pt2) X.env = pure (some [x, y, z]) := by rfl)
    (hs : swapsWithSole [.Tuple [.Name x px, .Name y py, .Name z pz] kt pt] (.Tuple [a, b, c] k2 pt2) pos.line X.env = pure false := by rfl) :
    JS X W (.Assign [.Tuple [.Name x px, .Name y py, .Name z pz] kt pt] (.Tuple [a, b, c] k2 pt2) pos) (mPar [i, j, l] ms) := by
  obtain ⟨t, p, s⟩ := ha.ex
  refine ⟨_, ps_par3 hc hN hi hj hk hij hil hjl hx hy hz p hw hs, fun P F0 qc F cell S σ H D fl S' R hm k => ?_⟩
  unfold mPar at hm
  split at hm
  · rename_i rs S1 e1
    split at hm
    · rename_i hl
      cases hm
      refine s P F0 qc F cell S σ H _ rs S1 R e1 fun vs P' F' H' f1 R1 l => ?_
      obtain ⟨c', R2⟩ := l.all hl R1
      have hv : vs.length = 3 := l.length.trans hl
      match vs, hv with
      | [v, w, u], _ =>
        refine ⟨v, w, u, rfl, ?_⟩
        rw [List.set_comm _ _ hjl, List.set_comm _ _ hil, List.set_comm _ _ hij]
        exact k F' c' _ H' f1 R2
    · cases hm
  · cases hm
def mUnp (m : ME) (g : MG) : MS := fun S => match m S with
  | some (.v d, S1) => match g d S1 with
    | some S2 => some (.nx, S2)
    | none => none
  | _ => none
theorem js_unp {tg : Expr} {me : ME} {g : MG} {ts : List Nat} (he : JE X e me) (hg : JG X tg g ts) (hs : swapsWithSole [tg] e pos.line X.env = pure false := by rfl) (hw : swappedStores [tg] e X.env = pure none := by rfl)
    (h1 : (assignEach [tg] X.env).map (·.2) = [assign tg X.env] := by rfl) : JS X W (.Assign [tg] e pos) (mUnp me g) := by
  obtain ⟨t, p, s⟩ := he.ex
  obtain ⟨gg, pg, sg⟩ := hg.ex
  refine ⟨_, ps_asg p pg hs hw h1, fun P F0 qc F cell S σ H D fl S' R hm k => ?_⟩
  unfold mUnp at hm
  split at hm
  · rename_i d S1 e1
    split at hm
    · rename_i S2 e2
      cases hm
      refine s P F0 qc F cell S σ H _ _ S1 R e1 fun v F1 H1 f1 R1 q1 => ?_
      exact sg P F0 qc F1 cell S1 σ H1 _ v d S' R1 q1 e2 fun σ' R2 _ => k F1 cell σ' H1 f1 R2
    · cases hm
  · cases hm
end
end VL
namespace VL
open PySem PySem.Spec PyProof.Rows L2
variable [LT]
section
variable {X : Cx} {W : WX} {e a : Expr} {me mi : ME} {x : Str} {pos p1 apos cpos : Pos}
end
structure KB (K : PySem.W.Frag) (fd : FuncData) (ps : List Str) : Prop where
  to : ∀ (s : Shared) (ws : List Value), K.In s.heap → ws.length = ps.length → BindsTo s fd ⟨[], ps.zip ws⟩ (ps.zip ws)
theorem KB.of {K : PySem.W.Frag} {x qual : Str} {st : Stmt} {f : Addr} {fd : FuncData} (F : Fun K x qual st f fd) {ps : List Str}
    (h : ∀ (kV doc pm : Value) (an : Option Addr) (cdv ct : Value) (ws : List Value), ws.length = ps.length → bindArgs (PySem.W.fnOf x qual (defArgs st) (defBody st) (defScope st) .none kV doc pm an cdv ct) ⟨[], ps.zip ws⟩ = pure (ps.zip ws)) : KB K fd ps := by
  obtain ⟨oc, od, kV, doc, pm, an, cdv, ct, osl, rfl, lk, hcd⟩ := F.ex
  exact ⟨fun s ws _ hl => .of_eq (h kV doc pm an cdv ct ws hl)⟩
def gK {α : Type} (us ws : List α) : List α := match us with
  | [] => ws
  | _ :: _ => []
theorem KB.kb {K : PySem.W.Frag} {fd : FuncData} {p0 : Str} {ps : List Str} (b : KB K fd (p0 :: ps)) : KBinds K fd (p0 :: ps) (p0 :: ps) gK gK :=
  ⟨fun s us ws h hl => by
    cases us with
    | nil => exact b.to s ws h hl
    | cons u us => simp [gK] at hl, fun {vs us zs ws} r rz => by
    cases r with
    | nil => exact rz
    | cons _ _ => exact .nil⟩
section
variable {X : Cx} {k n : Nat} {f : Addr} {fd : FuncData} {p0 : Str} {ps : List Str} {x : Str} {p pos : Pos} {e : Expr} {es : List Expr} {kws : List Keyword} {m : MF} {mas : MA}
structure JK (X : Cx) (kws : List Keyword) (m : MA) : Prop where
  ex : ∃ t, PK X kws t ∧ SndA X.K t m
theorem jk_nil : JK X [] aNil := by
  obtain ⟨t, _, s⟩ := (ja_nil (X := X)).ex
  exact ⟨_, pk_nil, fun P F0 qc F cell S σ H Q rs S' R hm k => by
    cases hm
    exact k [] F H (Same.refl _) R rfl⟩
theorem snd_cons {K : PySem.W.Frag} {t : TE} {u : TA} {ma : ME} (s : SndE K t ma) (su : SndA K u mas) : SndA K (tCons t u) (aCons ma mas) := by
  intro P F0 qc F cell S σ H Q rs S' R hm k
  unfold aCons at hm
  split at hm
  · cases hm
  · rename_i r S1 e1
    split at hm
    · cases hm
    · rename_i rs' S2 e2
      cases hm
      refine s P F0 qc F cell S σ H _ r S1 R e1 fun v F1 H1 f1 R1 q1 => ?_
      refine su P F0 qc F1 cell S1 σ H1 _ rs' S' R1 e2 fun vs F2 H2 f2 R2 q2 => ?_
      exact k (v :: vs) F2 H2 (f1.trans f2) R2 ⟨v, vs, rfl, q1.mono f2, q2⟩
theorem jk_cons {nm} {kpos : Pos} {me : ME} (ha : JE X e me) (hr : JK X kws mas) : JK X (⟨nm, e, kpos⟩ :: kws) (aCons me mas) := by
  obtain ⟨t, p, s⟩ := ha.ex
  obtain ⟨u, q, su⟩ := hr.ex
  exact ⟨_, pk_cons p q, snd_cons s su⟩
end
abbrev MFc := List SL → Option (List PyData × List SL)
def spC (K : PySem.W.Frag) (n : Nat) (m : MFc) : Sp := fun vs H Q _ => vs.length = n ∧ ∃ F as ds as', Same F H ∧ Fits K F H as vs ∧ m as = some (ds, as') ∧
  ∀ p ws F' H', Back K F H F' H' as vs as' .non .none → FreeT H p → F' p = none → H' p = some (.lst ws) → DVs K F' ws ds → Q (.ref p) H'
abbrev MC := Sl → Option (List PyData × Sl)
def SndC (K : PySem.W.Frag) (W : WX) (t : TS) (m : MC) : Prop :=
  ∀ (P F0 : Hp) (qc : Nat → Addr) (F : Hp) (cell : Nat → Addr) (S : Sl) (σ : L2.St) (H : Hp) (D : Ends) (ds : List PyData) (S' : Sl), RC K P F0 qc F cell S σ H → m S = some (ds, S') →
    (∀ p ws F' cell' σ' H', Same F F' → P p = none → F0 p = none → RC K (upd P p (.lst ws)) F0 qc F' cell' S' σ' H' → DVs K F' ws ds → D.rt (.ref p) H') → t D σ H
structure JC (X : Cx) (W : WX) (sts : List Stmt) (m : MC) : Prop where
  ex : ∃ t, PSs X sts t ∧ SndC X.K W t m
def mSeqC (m : MS) (n : MC) : MC := fun S => match m S with
  | some (.nx, S1) => n S1
  | _ => none
def mRetC (mx : MX) : MC := fun S => match mx S with
  | some (.c (.l ds), S1) => some (ds, S1)
  | _ => none
section
variable {X : Cx} {W : WX} {st : Stmt} {rest : List Stmt} {e : Expr} {m : MS} {n : MC} {mx : MX} {pos : Pos}
theorem jc_cons (h1 : JS X W st m) (h2 : JC X W rest n) : JC X W (st :: rest) (mSeqC m n) := by
  obtain ⟨t, p1, s1⟩ := h1.ex
  obtain ⟨u, p2, s2⟩ := h2.ex
  refine ⟨_, pss_cons p1 p2, fun P F0 qc F cell S σ H D ds S' R hm k => ?_⟩
  unfold mSeqC at hm
  split at hm
  · rename_i S1 e1
    refine s1 P F0 qc F cell S σ H { D with nx := u D } .nx S1 R e1 fun F1 c1 σ1 H1 f1 R1 => ?_
    exact s2 P F0 qc F1 c1 S1 σ1 H1 D ds S' R1 hm fun p ws F2 c2 σ2 H2 f2 hp h0 R2 q => k p ws F2 c2 σ2 H2 (f1.trans f2) hp h0 R2 q
  · cases hm
theorem jc_ret (he : JX X e mx) : JC X W [.Return (some e) pos] (mRetC mx) := by
  obtain ⟨t, p, s⟩ := he.ex
  refine ⟨_, pss_one (ps_ret p), fun P F0 qc F cell S σ H D ds S' R hm k => ?_⟩
  unfold mRetC at hm
  split at hm
  · rename_i ds' S1 e1
    cases hm
    exact s P F0 qc F cell S σ H _ _ S' R e1 fun p ws F' H' f1 hp h0 R1 q1 => k p ws F' cell σ H' f1 hp h0 R1 q1
  · cases hm
end
theorem asOut_still : ∀ {as : List SL} {S : Sl} {as' : List SL} {j : Nat} {xs : CT}, asOut as S = some as' → as[j]? = some (.q xs) → ∃ ys, S[j]? = some (some (.q ys)) := by
  intro as
  induction as with
  | nil => intro S as' j xs _ e; simp at e
  | cons a as ih =>
    intro S as' j xs h e
    cases S with
    | nil => cases a <;> simp [asOut] at h
    | cons s S =>
      cases j with
      | zero =>
        have ea : a = .q xs := by simpa using e
        subst ea
        cases s with
        | none => simp [asOut] at h
        | some s =>
          cases s with
          | q ws => exact ⟨ws, rfl⟩
          | _ => simp [asOut] at h
      | succ j =>
        have e' : as[j]? = some (.q xs) := by simpa using e
        have tl : ∃ as2, asOut as S = some as2 := by
          cases a with
          | q zs =>
            cases s with
            | none => simp [asOut] at h
            | some s =>
              cases s with
              | q ws =>
                obtain ⟨as2, h2, _⟩ := Option.map_eq_some_iff.mp (show (asOut as S).map (SL.q ws :: ·) = some as' by simpa [asOut] using h)
                exact ⟨as2, h2⟩
              | _ => simp [asOut] at h
          | v d =>
            obtain ⟨as2, h2, _⟩ := Option.map_eq_some_iff.mp (show (asOut as S).map (SL.v d :: ·) = some as' by simpa [asOut] using h)
            exact ⟨as2, h2⟩
          | c d =>
            obtain ⟨as2, h2, _⟩ := Option.map_eq_some_iff.mp (show (asOut as S).map (SL.c d :: ·) = some as' by simpa [asOut] using h)
            exact ⟨as2, h2⟩
          | s d =>
            obtain ⟨as2, h2, _⟩ := Option.map_eq_some_iff.mp (show (asOut as S).map (SL.s d :: ·) = some as' by simpa [asOut] using h)
            exact ⟨as2, h2⟩
        obtain ⟨as2, h2⟩ := tl
        obtain ⟨ys, e3⟩ := ih h2 e'
        exact ⟨ys, by simpa using e3⟩
theorem back_end {K : PySem.W.Frag} {F1 H P1 : Hp} {as as' : List SL} {vs : List V} {v : V} {d : PyData} {F' H' : Hp} {c' : Nat → Addr} {S' : Sl} {σ' : L2.St} (ft : Fits K F1 H as vs)
    (hP1 : ∀ b o, H b = some o → (∀ ps, o ≠ .tbl ps) → (∀ (j : Nat) (xs : CT), as[j]? = some (.q xs) → vs[j]? ≠ some (.ref b)) → P1 b = some o) (hP2 : ∀ b, P1 b = none → H b = none ∨ (∃ ps, H b = some (.tbl ps)) ∨ ∃ (j : Nat) (xs : CT), as[j]? = some (.q xs) ∧ vs[j]? = some (.ref b))
    (f1 : Same F1 F') (R1 : RC K P1 F1 (adr vs) F' c' S' σ' H') (dv : DV K F' v d) (ho : asOut as S' = some as') : Back K F1 H F' H' as vs as' v d := by
  refine ⟨f1, R1.fh, fun b o e ht hno => R1.ph b o (hP1 b o e ht hno), fun b z => ?_, R1.nf, R1.tb, dv, fun j xs e => ?_⟩
  · rcases R1.fr b z with z' | z'
    · exact .inl z'
    · rcases hP2 b z' with z2 | z2 | ⟨j, xs, h1, h2⟩
      · exact .inr (.inl z2)
      · exact .inr (.inr z2)
      · -- a lent list is not told as long as its slot holds it; here it must be shown from the slot
        by_cases q : F1 b = none
        · exact absurd q (by
            intro q
            obtain ⟨ys, e1⟩ : ∃ ys, S'[j]? = some (some (.q ys)) := by
              have aux : ∀ {as : List SL} {S : Sl} {as' : List SL} {j : Nat} {xs : CT}, asOut as S = some as' → as[j]? = some (.q xs) → ∃ ys, S[j]? = some (some (.q ys)) := by
                intro as
                induction as with
                | nil => intro S as' j xs _ e; simp at e
                | cons a as ih =>
                  intro S as' j xs h e
                  cases S with
                  | nil => cases a <;> simp [asOut] at h
                  | cons s S =>
                    cases j with
                    | zero =>
                      have ea : a = .q xs := by simpa using e
                      subst ea
                      cases s with
                      | none => simp [asOut] at h
                      | some s =>
                        cases s with
                        | q ws => exact ⟨ws, rfl⟩
                        | _ => simp [asOut] at h
                    | succ j =>
                      have e' : as[j]? = some (.q xs) := by simpa using e
                      have tl : ∃ as2, asOut as S = some as2 := by
                        cases a with
                        | q zs =>
                          cases s with
                          | none => simp [asOut] at h
                          | some s =>
                            cases s with
                            | q ws =>
                              obtain ⟨as2, h2, _⟩ := Option.map_eq_some_iff.mp (show (asOut as S).map (SL.q ws :: ·) = some as' by simpa [asOut] using h)
                              exact ⟨as2, h2⟩
                            | _ => simp [asOut] at h
                        | v d =>
                          obtain ⟨as2, h2, _⟩ := Option.map_eq_some_iff.mp (show (asOut as S).map (SL.v d :: ·) = some as' by simpa [asOut] using h)
                          exact ⟨as2, h2⟩
                        | c d =>
                          obtain ⟨as2, h2, _⟩ := Option.map_eq_some_iff.mp (show (asOut as S).map (SL.c d :: ·) = some as' by simpa [asOut] using h)
                          exact ⟨as2, h2⟩
                        | s d =>
                          obtain ⟨as2, h2, _⟩ := Option.map_eq_some_iff.mp (show (asOut as S).map (SL.s d :: ·) = some as' by simpa [asOut] using h)
                          exact ⟨as2, h2⟩
                      obtain ⟨as2, h2⟩ := tl
                      obtain ⟨ys, e3⟩ := ih h2 e'
                      exact ⟨ys, by simpa using e3⟩
              exact aux ho h1
            obtain ⟨_, g2, _⟩ := R1.cl j _ ys e1 rfl
            have ec : c' j = b := by
              rw [R1.qs j ys e1]
              unfold adr
              rw [h2]
            rw [ec] at g2
            exact z g2)
        · exact .inl q
  · obtain ⟨e1, ys, e2⟩ := asOut_q ho e
    obtain ⟨g1, _, _, g4⟩ := R1.cl j _ xs e1 rfl
    obtain ⟨v2, g6, c2, rfl, _⟩ := ft.arg j _ e2
    have ec : c' j = c2 := by
      rw [R1.qs j xs e1]
      unfold adr
      rw [g6]
    rw [ec] at g4
    exact ⟨c2, g6, g4⟩
def defMc (n : Nat) (m : MC) : MFc := fun as => match m (startS n as) with
  | some (ds, S) => match asOut as S with
    | some as' => some (ds, as')
    | none => none
  | none => none
section
variable {P : Program} {w : World} {K : PySem.W.Frag} {mg : Str → Option Value} {base : Heap}
theorem jfC {x qual : Str} {st : Stmt} {f : Addr} {fd : FuncData} {N ps : List Str} {k : Nat} {m : MC} (F : Fun K x qual st f fd) (S : FnScope N ps (defScope st)) (hl : ps.length ≤ N.length)
    (hb : ∀ cdv A outer s H (E : _), A.guards = some [] → Room k (cxOf CX0 P w K mg base N qual (defScope st) f cdv A outer s H E).nox.A → JC (cxOf CX0 P w K mg base N qual (defScope st) f cdv A outer s H E).nox W0 (defBody st) m) :
    FnG P w K mg base CX0 (k + 1) f fd ps (spC K ps.length (defMc N.length m)) := by
  refine okG F S (fun vs H Q E h => h.1) fun cdv A outer s H vs Q E hg hr h => ?_
  obtain ⟨hv, F1, as, ds, as', fh, ft, hm, kk⟩ := h
  obtain ⟨t, pt, stt⟩ := (hb cdv A outer s H E hg hr).ex
  refine ⟨t, pt, ?_⟩
  obtain ⟨P1, hP1, hP2, R⟩ := rc_start (N := N) fh ft (by rw [← ft.len, hv]; exact hl)
  unfold defMc at hm
  split at hm
  · rename_i ds' S' e1
    split at hm
    · rename_i as2 e2
      cases hm
      refine stt P1 F1 (adr vs) F1 (adr vs) _ _ H _ _ S' R e1 fun p ws F' c' σ' H' f1 hp h0 R1 q => ?_
      have B := back_end ft hP1 hP2 f1 (R1.unlay hp) .non e2
      refine kk p ws F' H' B ?_ (R1.laid_untold h0) R1.laid_at q
      rcases hP2 p hp with z | z | ⟨j, xs, z1, z2⟩
      · exact .inl z
      · exact .inr z
      · exfalso
        obtain ⟨ys, e3⟩ := asOut_still e2 z1
        have e4 : c' j = p := by
          rw [R1.qs j ys e3]
          unfold adr
          rw [z2]
        exact R1.laid_apart j _ e3 rfl e4
    · cases hm
  · cases hm
end
def mCallC (n : Nat) (m : MFc) (ma : MA) : MX := fun S => match ma S with
  | none => none
  | some (rs, S1) => if rs.length = n ∧ (ptrs rs).Nodup then match argsOf S1 rs with
      | none => none
      | some as => match m as with
        | none => none
        | some (ds, as') => match putBack S1 rs as' with
          | none => none
          | some S2 => some (.c (.l ds), S2)
    else none
section
variable {K : PySem.W.Frag} {P F0 F F' : Hp} {qc cell : Nat → Addr} {S : Sl} {σ : L2.St} {H H' : Hp} {p : Addr} {o : HO}
theorem RC.lay_old (R : RC K P F0 qc F cell S σ H) (hp : H p = some o) (hF : F p = none) (ap : Apart S cell p) (ho : ∀ ps, o ≠ .tbl ps := by intro ps h; cases h) : RC K (upd P p o) F0 qc F cell S σ H where
  len := R.len
  f0 := R.f0
  fh := R.fh
  ph := fun b u e => by
    by_cases q : b = p
    · subst q
      rw [upd_same] at e
      cases e
      exact hp
    · rw [upd_ne q] at e
      exact R.ph b u e
  fr := fun b z => by
    by_cases q : b = p
    · subst q
      exact absurd hF z
    · rcases R.fr b z with z | z
      · exact .inl z
      · exact .inr (by rw [upd_ne q]; exact z)
  vl := R.vl
  sc := R.sc
  cl := fun i x xs h hx => by
    obtain ⟨h1, h2, h3, h4⟩ := R.cl i x xs h hx
    exact ⟨h1, h2, by rw [upd_ne (ap i x h (by rw [hx]; rfl))]; exact h3, h4⟩
  qs := R.qs
  inj := R.inj
  np := fun b ps z => by
    by_cases q : b = p
    · subst q
      rw [upd_same] at z
      exact ho ps (Option.some.inj z)
    · rw [upd_ne q] at z
      exact R.np b ps z
  nf := R.nf
  tb := R.tb
theorem putBack_old {rs : List SV} {as as' : List SL} {S S2 : Sl} (hb : putBack S rs as' = some S2) (ha : argsOf S rs = some as) {i : Nat} {y : SL} (h : S2[i]? = some (some y)) (hy : y.held.isSome = true) : ∃ x : SL, S[i]? = some (some x) ∧ x.held.isSome = true := by
  by_cases hi : i ∈ ptrs rs
  · obtain ⟨j, hj⟩ := mem_ptrs.mp hi
    obtain ⟨a, h1, h2⟩ := argsOf_got ha hj
    obtain ⟨xs, hx, _⟩ := Option.map_eq_some_iff.mp (show (heldAt S i).map SL.q = some a from h2)
    obtain ⟨x, e1, e2⟩ := held_of hx
    exact ⟨x, e1, by rw [e2]; rfl⟩
  · rw [putBack_out hb hi] at h
    exact ⟨y, h, hy⟩
end
section
variable {X : Cx} {k n : Nat} {f : Addr} {fd : FuncData} {ps : List Str} {x : Str} {p pos : Pos} {e : Expr} {es : List Expr} {m : MFc} {mas : MA}
theorem jx_callC (G : FnG X.prog X.w X.K X.mg X.base CX0 k f fd ps (spC X.K n m)) (gd : X.A.guards = some []) (hr : Room k X.A) (hm : X.mg x = some (.ref f)) (hk : PySem.W.keepIn X.K (.ref f) = true) (hb : Binds X.K fd ps []) (ha : JA X (e :: es) mas)
    (hg : Gl X x := by rfl) (hdb : (x == ("__debug__" : Str)) = false := by decide) (he : starEach (e :: es) X.env = (false, eval e X.env) :: starEach es X.env := by rfl) (hpl : (backTo pos (starEach es X.env)).any (·.1) = false := by rfl) :
    JX X (.Call (.Name x p) (e :: es) [] pos) (mCallC n m mas) := by
  obtain ⟨ta, pa, sa⟩ := ha.ex
  refine ⟨_, pe_callG G gd hr hg hm hk hb .nil pass0 pa hdb he hpl, fun P F0 qc F cell S σ H Q z S' R hm k => ?_⟩
  unfold mCallC at hm
  split at hm
  · cases hm
  · rename_i rs S1 e1
    split at hm
    · rename_i hc
      split at hm
      · cases hm
      · rename_i as ha
        split at hm
        · cases hm
        · rename_i ds as' hd
          split at hm
          · cases hm
          · rename_i S2 hb
            cases hm
            refine sa P F0 qc F cell S σ H _ rs S1 R e1 fun vs F1 H1 s1 R1 q1 => ?_
            show spC X.K n m (vs ++ []) H1 Q E0
            rw [List.append_nil]
            refine ⟨by rw [q1.length]; exact hc.1, F1, as, ds, as', R1.fh, R1.fits q1 ha hc.2, hd, fun p ws F' H' B hp hF hH q => ?_⟩
            have R2 := R1.back q1 ha hc.2 B hb
            have ap : Apart S' cell p := fun i y h hy => by
              obtain ⟨x, h1, h2⟩ := putBack_old hb ha h hy
              exact R1.apart_newT hp i x h1 h2
            exact k p ws F' H' (s1.trans B.f) (R1.freeP hp) (R1.free0 hp) (R2.lay_old hH hF ap) q
    · cases hm
end
end VL
namespace VX
open PySem PySem.Spec PyProof.Rows L2
theorem meets_enum1 {v : Value} {o : Obj} {H : Heap → Prop} (B : Begins v o H) :
    Meets (Builtin.«enumerate.__new__» ⟨[.type "enumerate", v], []⟩) (fun _ R s => H s.heap ∧
      R (.ok (.ret (.ref (s.heap.push o).objs.size))) { s with heap := (s.heap.push o).push { cls := .type "enumerate", data := .fields #[.none, .bool false, .ref s.heap.objs.size, rawInt 0, .none, .none] } }) :=
  .of_wp fun prog w A R s h => by
    obtain ⟨hp, g, d, tk, os⟩ := s; obtain ⟨h1, h⟩ := h
    have hsub := sub_enumerate
    have q1 : ∀ {A' : Around} {E : Value → Shared → Prop} {Q : Value → Shared → Prop}, Q (.ref hp.objs.size) ⟨hp.push o, g, d, tk, os⟩ → wpAny (model prog w) A' (pyIter v) Q E ⟨hp, g, d, tk, os⟩ :=
      fun q => B.iter prog w _ _ ⟨hp, g, d, tk, os⟩ _ h1 q
    wp_walk using q1
    refine wpAny_stack_any fun st => wpAny_pure ?_
    split
    · rename_i c _ _ _ _ _
      cases (c == Value.type "enumerate")
      · wp_walk using q1
        exact ⟨_, rfl, h⟩
      · wp_walk using q1
        exact ⟨_, rfl, h⟩
    · wp_walk using q1
      exact ⟨_, rfl, h⟩
section
variable {prog : Program} {w : World} {A : Around} {E : Value → Shared → Prop} {s : Shared}
theorem enum_begins1 {v : Value} {o : Obj} {H : Heap → Prop} {Q : Value → Shared → Prop} (B : Begins v o H) (h1 : H s.heap)
    (h : ∀ h', IsEnum h' (s.heap.objs.size + 1) s.heap.objs.size 0 .none → h'.get? s.heap.objs.size = some o → h'.objs.size = s.heap.objs.size + 2 →
      (∀ b o, s.heap.get? b = some o → h'.get? b = some o) → Q (.ref (s.heap.objs.size + 1)) { s with heap := h' }) :
    wpAny (model prog w) A (call (.type "enumerate") [v]) Q E s := by
  refine callType_new F.called_enumerate (by decide) (F.typeCall_enumerate_1 _) (F.newCall_enumerate_1 _) (fun obj => F.args_object_init_2 obj _) F.entry_enumerate_new
    (meets_enum1 B) ⟨h1, ?_⟩
  have hz : (s.heap.push o).objs.size = s.heap.objs.size + 1 := Heap.size_push ..
  show _ ∧ _
  rw [hz]
  have he : IsEnum ((s.heap.push o).push { cls := .type "enumerate", data := .fields #[.none, .bool false, .ref s.heap.objs.size, rawInt 0, .none, .none] }) (s.heap.objs.size + 1) s.heap.objs.size 0 .none := by
    have := Heap.get?_push_size (s.heap.push o) (o := { cls := .type "enumerate", data := .fields #[.none, .bool false, .ref s.heap.objs.size, rawInt 0, .none, .none] }) rfl
    rw [hz] at this; exact this
  refine ⟨⟨_, he, rfl⟩, h _ he (Heap.get?_push_of_some _ (Heap.get?_push_size _ B.free)) (by rw [Heap.size_push, hz]) fun b o x => Heap.get?_push_of_some _ (Heap.get?_push_of_some _ x)⟩
end
def Iten (xs : List V) (G : Hp → Prop) : It :=
  ⟨fun i H => G H ∧ i < xs.length, fun i H v H' => ∃ T x, v = .ref T ∧ H T = none ∧ H' = upd H T (.tup [.int (i : Nat), x]) ∧ xs[i]? = some x, fun i H => G H ∧ i = xs.length⟩
theorem walk_en {xs : List V} {G : Hp → Prop} : Walk (Iten xs G) xs.length G (YPair (fun i => some (.int (i : Nat))) (fun i => xs[i]?)) := by
  refine ⟨fun i _ hi q => ⟨q, hi⟩, fun _ q => ⟨q, rfl⟩, fun i H v H' _ q y => ?_⟩
  obtain ⟨T, x, h1, h2, h3, h4⟩ := y
  exact ⟨T, .int (i : Nat), x, h1, h2, h3, rfl, h4⟩
structure Src (P : Program) (w : World) (K : PySem.W.Frag) (xs : List V) (G : Hp → Prop) (it : Addr) (St : Nat → Heap → Prop) : Prop where
  obj : ∀ i h, St i h → ∃ o, h.get? it = some o ∧ ∀ v, o.data ≠ .cell v
  keep : ∀ i h h', St i h → (∀ o, h.get? it = some o → h'.get? it = some o) → St i h'
  draw : ∀ (X : Cx) (pins : List (Addr × Obj)) (σ : L2.St) (H : Hp) (s : Shared) (e : Addr) (old : Value) (j : Int), X.prog = P → X.w = w → X.K = K → X.A.handled = none → Inv X pins σ H s → G H → IsEnum s.heap e it j old →
    ∃ fp PP ST, Draws X.prog X.w X.A.in1 it fp xs.length PP ST ∧ (e ≠ it → e ∉ fp) ∧ (∀ i, St i s.heap → ST i s.heap) ∧ (∀ i h', ST i h' → St i h') ∧ ∀ i u, PP i u → ∃ x, xs[i]? = some x ∧ RelV x u
section
variable {P : Program} {w : World} {K : PySem.W.Frag} {xs : List V} {G : Hp → Prop} {it : Addr} {St : Nat → Heap → Prop}
theorem turn_en {elts : List Expr} {kk : Nat} {tpos : Pos} (R : Src P w K xs G it St) (hG : ∀ H T o, G H → H T = none → G (upd H T o)) (e : Addr) :
    Turn P w K (.Tuple elts kk tpos) (Iten xs G) [e, it] e (fun i h => (∃ old, IsEnum h e it ((i : Nat) : Int) old) ∧ St i h ∧ e ≠ it) where
  mem := by simp
  obj := fun i h st b hb => by
    obtain ⟨⟨old, he⟩, hs, _⟩ := st
    have e' : b = e ∨ b = it := by simpa using hb
    rcases e' with z | z
    · rw [z]; exact ⟨_, he, fun v q => nomatch q⟩
    · rw [z]; exact R.obj i h hs
  keep := fun i h h' st k => let ⟨⟨old, he⟩, hs, hne⟩ := st; ⟨⟨old, k e (by simp) _ he⟩, R.keep i h h' hs fun o q => k it (by simp) o q, hne⟩
  item := by
    intro X hP hw hK hc i pins s σ H E I hf st hg
    obtain ⟨⟨old, he⟩, hs, hne⟩ := st
    obtain ⟨hG1, hi⟩ := hg
    obtain ⟨fp, PP, ST, D, hef, h1, h2, h3⟩ := R.draw X pins σ H s e old _ hP hw hK (I.ok.hd hc) I hG1 he
    subst hP hw hK
    have hel : e < s.heap.objs.size := Heap.lt_size he
    have hil : it < s.heap.objs.size := by obtain ⟨_, q, _⟩ := R.obj i _ hs; exact Heap.lt_size q
    refine wpAny_pyNext_enum_itemC D he (h1 i hs) hi hne (hef hne) fun u h' tk hP ho hs' hT hsz hk => ?_
    obtain ⟨x, hx, ru⟩ := h3 i u hP
    refine ⟨_, rfl, wpAny_letOwnedTupleGo_enum (s := { s with heap := h', toks := tk + 1 }) ho fun h'' he' sb => ?_⟩
    have hT2 : h''.get? s.heap.objs.size = some { cls := .type "tuple", data := .seq #[.int i tk, u] } := (sb.2 _ (Nat.ne_of_gt hel)).trans hT
    have new : ObjOk X.prog X.w (upd H s.heap.objs.size (.tup [.int (i : Nat), x])) h'' s.heap.objs.size (.tup [.int (i : Nat), x]) :=
      ⟨by show 2 ≤ sizeLine; decide, [.int i tk, u], .cons ⟨_, rfl⟩ (.cons ru .nil), ⟨_, hT2, rfl, _, rfl⟩⟩
    have I1 : Inv X pins σ (upd H s.heap.objs.size (.tup [.int (i : Nat), x])) { s with heap := h'', toks := tk + 1 } :=
      I.turnedNew (ch := [e, it]) (fun b ob hb q => (sb.2 b (fun z => hb (by simp [z]))).trans (hk b ob (fun z => hb (by simp [z])) (fun z => hb (by simp [z])) q)) hf (Nat.le_refl _) new
    refine ⟨.ref s.heap.objs.size, _, I1, rfl, ⟨_, x, rfl, I.hok.fresh (Nat.le_refl _), rfl, hx⟩, ⟨⟨u, ?_⟩, R.keep _ _ _ (h2 _ _ hs') fun o q => (sb.2 it (Ne.symm hne)).trans q, hne⟩, fun b hb => ?_⟩
    · have e1 : ((i + 1 : Nat) : Int) = (i : Int) + 1 := by omega
      rw [e1]; exact he'
    · have hb' : b < s.heap.objs.size := by
        have e' : b = e ∨ b = it := by simpa using hb
        rcases e' with z | z
        · rw [z]; exact hel
        · rw [z]; exact hil
      rw [upd_ne (Nat.ne_of_lt hb')]
      exact (hf b hb).1
  done := by
    intro X hP hw hK hc i pins s σ H E I hf st hg
    obtain ⟨⟨old, he⟩, hs, hne⟩ := st
    obtain ⟨hG1, hi⟩ := hg
    obtain ⟨fp, PP, ST, D, hef, h1, h2, h3⟩ := R.draw X pins σ H s e old _ hP hw hK (I.ok.hd hc) I hG1 he
    subst hP hw hK
    obtain ⟨f0, f1, f2, f3, f4, f5⟩ := hf it (by simp)
    subst hi
    exact wpAny_pyNext_enum_endD D he (h1 _ hs) fun h' eb => ⟨rfl, I.turned (t' := s.toks) (fun b o hb q => eb b o hb q) f0 f1 f3 f4 f5⟩
  self := fun A i s Q E st h => let ⟨⟨_, he⟩, _⟩ := st; wpAny_pyIter_enum he h
end
theorem src_tup {P : Program} {w : World} {K : PySem.W.Frag} {a it : Addr} {xs : List V} (hne : a ≠ it) : Src P w K xs (fun H => SqT K H a xs) it (fun i h => h.IsTupleIter it a i) where
  obj := fun i h ⟨o, e, c, d⟩ => ⟨o, e, fun v z => by rw [d] at z; cases z⟩
  keep := fun i h h' st k => st.at fun o e => k o e
  draw := by
    intro X pins σ H s e old j hP hw hK hh I hG he
    subst hP hw hK
    obtain ⟨its, rv, p, hz⟩ := I.tuple hG
    have p' : s.heap.IsTuple a its.toArray := p
    have D := Draws.tuple (prog := X.prog) (w := X.w) (A := X.A.in1) hh it a hne its.toArray
    rw [List.size_toArray, ← rv.length] at D
    refine ⟨[it, a], _, _, D, fun hei hm => ?_, fun i st => ⟨st, p'⟩, fun i h' st => st.1, fun i u hu => ?_⟩
    · rcases List.mem_cons.mp hm with z | z
      · exact hei z
      · rw [List.mem_singleton] at z
        subst z
        obtain ⟨o, e1, e2, _⟩ := p'
        unfold IsEnum at he
        rw [he] at e1
        cases e1
        exact absurd e2 (by simp)
    · have hu' : its[i]? = some u := by simpa using hu
      obtain ⟨hl, hu2⟩ := List.getElem?_eq_some_iff.mp hu'
      have hl2 : i < xs.length := by rw [rv.length]; exact hl
      obtain ⟨u2, h1, h2⟩ := rv.get (List.getElem?_eq_getElem hl2)
      rw [hu'] at h1
      cases h1
      exact ⟨_, List.getElem?_eq_getElem hl2, h2⟩
theorem src_str {P : Program} {w : World} {K : PySem.W.Frag} {it : Addr} (x : Str) (t : Tok) : Src P w K (x.cps.toList.map fun c => V.str ⟨#[c]⟩) (fun _ => True) it (fun i h => h.IsStrIter it (strIterType x) x t i) where
  obj := fun i h ⟨o, e, c, d⟩ => ⟨o, e, fun v z => by rw [d] at z; cases z⟩
  keep := fun i h h' ⟨o, ho, r⟩ k => ⟨o, k o ho, r⟩
  draw := by
    intro X pins σ H s e old j hP hw hK hh I hG he
    subst hP hw hK
    have D := Draws.text (prog := X.prog) (w := X.w) (A := X.A.in1) hh it x t
    rw [show x.cps.size = (x.cps.toList.map fun c => V.str ⟨#[c]⟩).length by rw [List.length_map, Array.length_toList]] at D
    refine ⟨[it], _, _, D, fun hei hm => hei (List.mem_singleton.mp hm), fun i st => st, fun i h' st => st, ?_⟩
    rintro i u ⟨c, v, hc, rfl⟩
    exact ⟨.str ⟨#[c]⟩, by rw [List.getElem?_map, Array.getElem?_toList, hc]; rfl, ⟨v, rfl⟩⟩
def iEnT (K : PySem.W.Frag) (ta : TA) : TI := fun σ H R => ta σ H fun vs H1 => ∃ a xs, vs = [.ref a] ∧ SqT K H1 a xs ∧ R (Iten xs fun H => SqT K H a xs) H1
def iEnS (ta : TA) : TI := fun σ H R => ta σ H fun vs H1 => ∃ x : Str, vs = [.str x] ∧ R (Iten (x.cps.toList.map fun c => V.str ⟨#[c]⟩) fun _ => True) H1
section
variable {X : Cx} {e : Expr} {ta : TA} {p pos tpos : Pos} {elts : List Expr} {kk : Nat}
theorem en_land {pins : List (Addr × Obj)} {σ : L2.St} {H1 : Hp} {s1 : Shared} {R : It → Hp → Prop} {v : Value} {o : Obj} {HH : Heap → Prop} {xs : List V} {G : Hp → Prop} {St : Nat → Heap → Prop} (I1 : Inv X pins σ H1 s1) (B : Begins v o HH) (hB : HH s1.heap)
    (S : Src X.prog X.w X.K xs G s1.heap.objs.size St) (hG : ∀ H T o, G H → H T = none → G (upd H T o)) (h0 : ∀ h', h'.get? s1.heap.objs.size = some o → St 0 h') (q : R (Iten xs G) H1) {E : Value → Shared → Prop} :
    wpAny (model X.prog X.w) X.A (call (.type "enumerate") [v]) (fun v2 s2 => wpAny (model X.prog X.w) X.A (pyIter v2) (PIE X pins σ (.Tuple elts kk tpos) R) E s2) E s1 := by
  refine enum_begins1 B hB fun h' he hit hsz hk => wpAny_pyIter_enum he ?_
  have I2 : Inv X pins σ H1 { s1 with heap := h' } := I1.kept (t' := s1.toks) hk
  refine ⟨s1.heap.objs.size + 1, [s1.heap.objs.size + 1, s1.heap.objs.size], _, _, H1, rfl, I2, turn_en S hG (s1.heap.objs.size + 1), ⟨⟨.none, he⟩, h0 h' hit, Nat.succ_ne_self _⟩, fun b hb => ?_, q⟩
  have e' : b = s1.heap.objs.size + 1 ∨ b = s1.heap.objs.size := by simpa using hb
  have hle : s1.heap.objs.size ≤ b := by
    rcases e' with z | z
    · rw [z]; exact Nat.le_add_right _ _
    · rw [z]; exact Nat.le_refl _
  exact I1.fpOk hle (I1.hok.fresh hle)
theorem pi_enT (hg : Gl X "enumerate") (hm : X.mg "enumerate" = none) (ha : PA X [e] ta) (hs : starEach [e] X.env = [(false, eval e X.env)] := by rfl) :
    PI X (.Tuple elts kk tpos) (.Call (.Name "enumerate" p) [e] [] pos) (iEnT X.K ta) := by
  refine ⟨fun pins s σ H R I h => ?_⟩
  refine Call_ (ld_blt I hg hm boot_enumerate (PyProof.Rows.callWith_type1 (thn (ha.run pos pins s σ H _ I h) fun us s1 ⟨vs, H1, I1, r1, q1⟩ => ?_) hs rfl))
  obtain ⟨a, xs, ex, hq, q⟩ := q1
  subst ex
  cases r1 with
  | cons r rr =>
    cases rr
    cases r
    obtain ⟨its, rv, p', hz⟩ := I1.tuple hq
    have p2 : s1.heap.IsTuple a its.toArray := p'
    have hal : a < s1.heap.objs.size := by obtain ⟨_, q, _⟩ := p2; exact Heap.lt_size q
    exact en_land I1 (begins_tuple a its.toArray) p2 (src_tup (Nat.ne_of_lt hal)) (fun H T o g hT => VL.sqT_mono (VL.same_new hT) g) (fun h' hit => ⟨_, hit, rfl, rfl⟩) q
theorem pi_enS (hg : Gl X "enumerate") (hm : X.mg "enumerate" = none) (ha : PA X [e] ta) (hs : starEach [e] X.env = [(false, eval e X.env)] := by rfl) :
    PI X (.Tuple elts kk tpos) (.Call (.Name "enumerate" p) [e] [] pos) (iEnS ta) := by
  refine ⟨fun pins s σ H R I h => ?_⟩
  refine Call_ (ld_blt I hg hm boot_enumerate (PyProof.Rows.callWith_type1 (thn (ha.run pos pins s σ H _ I h) fun us s1 ⟨vs, H1, I1, r1, q1⟩ => ?_) hs rfl))
  obtain ⟨x, ex, q⟩ := q1
  subst ex
  cases r1 with
  | cons r rr =>
    cases rr
    obtain ⟨t, rfl⟩ := r
    exact en_land I1 (begins_text x t) trivial (src_str x t) (fun H T o g hT => trivial) (fun h' hit => ⟨_, hit, rfl, rfl⟩) q
end
end VX
namespace VL
open PySem PySem.Spec PyProof.Rows L2
variable [LT]
def denS (K : PySem.W.Frag) (W : WX) (m : MS) : TS := fun D σ H => ∃ P F0 qc F cell S fl S', RC K P F0 qc F cell S σ H ∧ m S = some (fl, S') ∧ ∀ F' cell' σ' H', Same F F' → RC K P F0 qc F' cell' S' σ' H' → FlK K W F' cell' fl D σ' H'
theorem JB.den {X : Cx} {W : WX} {sts : List Stmt} {m : MS} (h : JB X W sts m) : PSs X sts (denS X.K W m) := by
  obtain ⟨t, p, s⟩ := h.ex
  exact ⟨fun pins s0 σ H D I ⟨P, F0, qc, F, cell, S, fl, S', R, hm, k⟩ => p.run pins s0 σ H D I (s P F0 qc F cell S σ H D fl S' R hm k)⟩
section
variable {K : PySem.W.Frag} {P F0 F F' : Hp} {qc cell : Nat → Addr} {S : Sl} {σ : L2.St} {H H' : Hp}
theorem RC.setO (R : RC K P F0 qc F cell S σ H) {i : Nat} {v : V} {o : Opq} (h : OR K F o v) : RC K P F0 qc F cell (S.set i (some (.s o))) (σ.set i (some v)) H := by
  have held : ∀ {j : Nat} {x : SL}, (S.set i (some (.s o)))[j]? = some (some x) → x.held.isSome = true → i ≠ j ∧ S[j]? = some (some x) := fun {j x} e hx => by
    rcases get_set e with ⟨rfl, e2, hl⟩ | q
    · cases e2
      cases hx
    · exact q
  refine ⟨by rw [List.length_set, List.length_set]; exact R.len, R.f0, R.fh, R.ph, R.fr, fun j d e => ?_, fun j o' e => ?_, fun j x xs e hx => ?_, fun j xs e => R.qs j xs (held e rfl).2, fun j k x y e1 e2 hx hy => R.inj j k x y (held e1 hx).2 (held e2 hy).2 hx hy, R.np, R.nf, R.tb⟩
  · rcases get_set e with ⟨rfl, e2, hl⟩ | ⟨ne, e⟩
    · cases e2
    · obtain ⟨u, h1, h2⟩ := R.vl j d e
      exact ⟨u, by rw [List.getElem?_set_ne ne]; exact h1, h2⟩
  · rcases get_set e with ⟨rfl, e2, hl⟩ | ⟨ne, e⟩
    · cases e2
      exact ⟨v, by rw [List.getElem?_set_self (by rw [← R.len]; exact hl)], h⟩
    · obtain ⟨u, h1, h2⟩ := R.sc j o' e
      exact ⟨u, by rw [List.getElem?_set_ne ne]; exact h1, h2⟩
  · obtain ⟨ne, e⟩ := held e (by rw [hx]; rfl)
    obtain ⟨h1, h2⟩ := R.cl j x xs e hx
    exact ⟨by rw [List.getElem?_set_ne ne]; exact h1, h2⟩
end
def mRaise (nm f : Str) (me : ME) : MS := fun S => match me S with
  | some (.v d, S1) => some (.rz nm [(f, d)], S1)
  | _ => none
section
variable {X : Cx} {W : WX} {e : Expr} {me : ME} {nm f : Str} {C fI : Addr} {k : Nat} {p pos pos2 : Pos}
theorem js_raise (tk : Takes X W) (T : VX.XTxt X.prog X.K X.mg nm f C fI) (hmg : X.mg "super" = none) (hr : Room k X.A) (hc : X.calm = true) (he : JE X e me) (hg : Gl X nm := by rfl) (hd : (nm == ("__debug__" : Str)) = false := by decide)
    (hs : starEach [e] X.env = (false, eval e X.env) :: starEach [] X.env := by rfl) (hpl : (backTo pos (starEach [] X.env)).any (·.1) = false := by rfl) : JS X W (.Raise (some (.Call (.Name nm p) [e] [] pos)) none pos2) (mRaise nm f me) := by
  obtain ⟨t, pe, s⟩ := he.ex
  refine ⟨_, ps_raise hc tk (VX.pmk_x T hmg hr (pa_cons pe pa_nil hs) hg hd hs hpl), fun P F0 qc F cell S σ H D fl S' R hm kk => ?_⟩
  unfold mRaise at hm
  split at hm
  · rename_i d S1 e1
    cases hm
    refine s P F0 qc F cell S σ H _ _ S' R e1 fun v F1 H1 f1 R1 q1 => ?_
    refine ⟨v, rfl, fun dd hdd => ?_⟩
    have ex : Ext F1 H1 (upd F1 dd (.xd [(f, v)])) (upd H1 dd (.xd [(f, v)])) := Ext.new R1.fh hdd
    exact kk _ cell σ _ (f1.trans ex.f) (R1.ext ex) C (some dd) [v] T.nC upd_same (.cons (DV.mono ex.f q1) .nil)
  · cases hm
end
inductive Out where
  | val (d : PyData) | exc (c : Str) (fs : List (Str × PyData))
abbrev MFX := List SL → Option (Out × List SL)
def OutK (K : PySem.W.Frag) (F H : Hp) (as : List SL) (vs : List V) (as' : List SL) (Q : VK) (E : XK) : Out → Prop
  | .val d => ∀ v F' H', Back K F H F' H' as vs as' v d → Q v H'
  | .exc c fs => ∀ (C : Addr) (dd : Option Addr) (us : List V) (F' H' : Hp), Back K F H F' H' as vs as' .non .none → PySem.W.nsIn K mainGlobals c = some (some (.ref C)) → VX.XDA F' dd ((fs.map (·.1)).zip us) → DVs K F' us (fs.map (·.2)) → E (.ref C) dd H'
def spX (K : PySem.W.Frag) (n : Nat) (m : MFX) : Sp := fun vs H Q E => vs.length = n ∧ ∃ F as o as', Same F H ∧ Fits K F H as vs ∧ m as = some (o, as') ∧ OutK K F H as vs as' Q E o
def defMX (n : Nat) (m : MS) : MFX := fun as => match m (startS n as) with
  | some (.rt (.v d), S) => match asOut as S with
    | some as' => some (.val d, as')
    | none => none
  | some (.nx, S) => match asOut as S with
    | some as' => some (.val .none, as')
    | none => none
  | some (.rz c fs, S) => match asOut as S with
    | some as' => some (.exc c fs, as')
    | none => none
  | _ => none
section
variable {P : Program} {w : World} {K : PySem.W.Frag} {mg : Str → Option Value} {base : Heap}
theorem jfX {x qual : Str} {st : Stmt} {f : Addr} {fd : FuncData} {N ps : List Str} {k : Nat} {m : MS} (F : Fun K x qual st f fd) (S : FnScope N ps (defScope st)) (hl : ps.length ≤ N.length)
    (hb : ∀ cdv A outer s H (E : _), A.guards = some [] → Room k (cxOf (L2.CX P w) P w K mg base N qual (defScope st) f cdv A outer s H E).A → JB (cxOf (L2.CX P w) P w K mg base N qual (defScope st) f cdv A outer s H E) (fun cls d _ H => E cls d H) (defBody st) m) :
    FnG P w K mg base (L2.CX P w) (k + 1) f fd ps (spX K ps.length (defMX N.length m)) := by
  refine okGX F S (fun vs H Q E h => h.1) fun cdv A outer s H vs Q E hg hr h => ?_
  obtain ⟨hv, F1, as, o, as', fh, ft, hm, kk⟩ := h
  obtain ⟨t, pt, stt⟩ := (hb cdv A outer s H E hg hr).ex
  refine ⟨t, pt, ?_⟩
  obtain ⟨P1, hP1, hP2, R⟩ := rc_start (N := N) fh ft (by rw [← ft.len, hv]; exact hl)
  unfold defMX at hm
  split at hm
  · rename_i d' S' e1
    split at hm
    · rename_i as2 e2
      cases hm
      exact stt P1 F1 (adr vs) F1 (adr vs) _ _ H _ _ S' R e1 fun F' c' σ' H' f1 R1 v q => kk v F' H' (back_end ft hP1 hP2 f1 R1 q e2)
    · cases hm
  · rename_i S' e1
    split at hm
    · rename_i as2 e2
      cases hm
      exact stt P1 F1 (adr vs) F1 (adr vs) _ _ H _ _ S' R e1 fun F' c' σ' H' f1 R1 => kk .non F' H' (back_end ft hP1 hP2 f1 R1 .non e2)
    · cases hm
  · rename_i c fs S' e1
    split at hm
    · rename_i as2 e2
      cases hm
      exact stt P1 F1 (adr vs) F1 (adr vs) _ _ H _ _ S' R e1 fun F' c' σ' H' f1 R1 C dd us h1 h2 h3 => kk C dd us F' H' (back_end ft hP1 hP2 f1 R1 .non e2) h1 h2 h3
    · cases hm
  · cases hm
end
abbrev MO2 := Sl → Option (Out × Sl)
def mCallX (n : Nat) (m : MFX) (ma : MA) : MO2 := fun S => match ma S with
  | none => none
  | some (rs, S1) => if rs.length = n ∧ (ptrs rs).Nodup then match argsOf S1 rs with
      | none => none
      | some as => match m as with
        | none => none
        | some (o, as') => match putBack S1 rs as' with
          | none => none
          | some S2 => some (o, S2)
    else none
def SndX2 (K : PySem.W.Frag) (W : WX) (t : TE) (m : MO2) : Prop :=
  ∀ (P F0 : Hp) (qc : Nat → Addr) (F : Hp) (cell : Nat → Addr) (S : Sl) (σ : L2.St) (H : Hp) (Q : VK) (o : Out) (S' : Sl), RC K P F0 qc F cell S σ H → m S = some (o, S') →
    (match o with
      | .val d => ∀ v F' H', Same F F' → RC K P F0 qc F' cell S' σ H' → DV K F' v d → Q v H'
      | .exc c fs => ∀ (C : Addr) (dd : Option Addr) (us : List V) (F' H' : Hp), Same F F' → RC K P F0 qc F' cell S' σ H' → PySem.W.nsIn K mainGlobals c = some (some (.ref C)) → VX.XDA F' dd ((fs.map (·.1)).zip us) → DVs K F' us (fs.map (·.2)) → W (.ref C) dd σ H') → t σ H Q
structure JO2 (X : Cx) (W : WX) (e : Expr) (m : MO2) : Prop where
  ex : ∃ t, PE X e t ∧ SndX2 X.K W t m
section
variable {X : Cx} {W : WX} {CX : CXT} {k n : Nat} {f : Addr} {fd : FuncData} {ps : List Str} {x : Str} {p pos : Pos} {e : Expr} {es : List Expr} {m : MFX} {mas : MA} {E : L2.St → XK}
theorem pe_callGS (G : FnG X.prog X.w X.K X.mg X.base CX k f fd ps (spX X.K n m)) (gd : X.A.guards = some []) (hr : Room k X.A) (hg : Gl X x) (hm : X.mg x = some (.ref f)) (hk : PySem.W.keepIn X.K (.ref f) = true) (hb : Binds X.K fd ps []) (hx : ∀ σ, PassesAt CX X σ (E σ)) {t : TA}
    (ha : PA X (e :: es) t) (hdb : (x == ("__debug__" : Str)) = false := by decide) (he : starEach (e :: es) X.env = (false, eval e X.env) :: starEach es X.env := by rfl) (hpl : (backTo pos (starEach es X.env)).any (·.1) = false := by rfl) :
    PE X (.Call (.Name x p) (e :: es) [] pos) (tCallS (spX X.K n m) E t) := by
  refine ⟨fun pins s σ H Q I h => ?_⟩
  refine wpAny_Call_Name_kw (ld_glob I hg hm ?_ hdb)
  refine PySem.W.callWith_K (h₀ := X.base) I.ok.mod.kin hk (thn (ha.run pos pins s σ H _ I h) fun us s1 ⟨vs, H1, I1, r, q⟩ => ⟨I1.kIn, ?_⟩) he hpl
  have hl : us.length = ps.length := by rw [← r.length]; exact G.len _ _ _ _ q
  have b := hb s1 us I1.kIn (by rw [List.append_nil]; exact hl)
  rw [List.append_nil] at b
  refine wpAny_call (codeAny_mono (G.run X.A X.stack s1 H1 ⟨us, []⟩ us vs Q (E σ) gd hr I1.env0 b r q) fun r s' hq => ?_)
  cases r with
  | error u => exact hx σ pins H1 s1 u s' I1 hq
  | ok fl =>
    cases fl with
    | ret u => exact I1.after hq
    | next => exact False.elim hq
    | brk => exact False.elim hq
    | cont => exact False.elim hq
theorem snd_callX {K : PySem.W.Frag} {ta : TA} (sa : SndA K ta mas) : SndX2 K W (tCallS (spX K n m) (WE W) ta) (mCallX n m mas) := by
  intro P F0 qc F cell S σ H Q o S' R hm k
  unfold mCallX at hm
  split at hm
  · cases hm
  · rename_i rs S1 e1
    split at hm
    · rename_i hc
      split at hm
      · cases hm
      · rename_i as ha
        split at hm
        · cases hm
        · rename_i o' as' hd
          split at hm
          · cases hm
          · rename_i S2 hb
            cases hm
            refine sa P F0 qc F cell S σ H _ rs S1 R e1 fun vs F1 H1 s1 R1 q1 => ?_
            refine ⟨by rw [q1.length]; exact hc.1, F1, as, o, as', R1.fh, R1.fits q1 ha hc.2, hd, ?_⟩
            cases o with
            | val d => exact fun v F' H' B => k v F' H' (s1.trans B.f) (R1.back q1 ha hc.2 B hb) B.dv
            | exc c fs => exact fun C dd us F' H' B h1 h2 h3 => k C dd us F' H' (s1.trans B.f) (R1.back q1 ha hc.2 B hb) h1 h2 h3
    · cases hm
theorem jo_callX (tk : Takes X W) (G : FnG X.prog X.w X.K X.mg X.base (L2.CX X.prog X.w) k f fd ps (spX X.K n m)) (gd : X.A.guards = some []) (hr : Room k X.A) (hm : X.mg x = some (.ref f)) (hk : PySem.W.keepIn X.K (.ref f) = true) (hb : Binds X.K fd ps []) (ha : JA X (e :: es) mas)
    (hg : Gl X x := by rfl) (hdb : (x == ("__debug__" : Str)) = false := by decide) (he : starEach (e :: es) X.env = (false, eval e X.env) :: starEach es X.env := by rfl) (hpl : (backTo pos (starEach es X.env)).any (·.1) = false := by rfl) :
    JO2 X W (.Call (.Name x p) (e :: es) [] pos) (mCallX n m mas) := by
  obtain ⟨ta, pa, sa⟩ := ha.ex
  exact ⟨_, pe_callGS G gd hr hg hm hk hb (fun σ => passAt tk σ) pa hdb he hpl, snd_callX sa⟩
def mExprX (m : MO2) : MS := fun S => match m S with
  | some (.val _, S1) => some (.nx, S1)
  | some (.exc c fs, S1) => some (.rz c fs, S1)
  | none => none
def mSetX2 (i : Nat) (m : MO2) : MS := fun S => match m S with
  | some (.val d, S1) => some (.nx, S1.set i (some (.v d)))
  | some (.exc c fs, S1) => some (.rz c fs, S1)
  | none => none
def mRetX2 (m : MO2) : MS := fun S => match m S with
  | some (.val d, S1) => some (.rt (.v d), S1)
  | some (.exc c fs, S1) => some (.rz c fs, S1)
  | none => none
variable {mo : MO2}
theorem js_exprX (he : JO2 X W e mo) (hs : swapsWith e none pos.line X.env = pure false := by rfl) : JS X W (.Expr e pos) (mExprX mo) := by
  obtain ⟨t, p, s⟩ := he.ex
  refine ⟨_, ps_expr p hs, fun P F0 qc F cell S σ H D fl S' R hm k => ?_⟩
  unfold mExprX at hm
  split at hm
  · rename_i d S1 e1
    cases hm
    exact s P F0 qc F cell S σ H _ _ S' R e1 fun v F' H' f1 R1 q => k F' cell σ H' f1 R1
  · rename_i c fs S1 e1
    cases hm
    exact s P F0 qc F cell S σ H _ _ S' R e1 fun C dd us F' H' f1 R1 h1 h2 h3 => k F' cell σ H' f1 R1 C dd us h1 h2 h3
  · cases hm
theorem js_setX2 (i : Nat) {y : Str} {pos' : Pos} (hN : X.N.Nodup) (he : JO2 X W e mo) (hi : X.N[i]? = some y := by rfl) (hx : Loc X.env.scope y := by first | exact Or.inl rfl | exact Or.inr rfl) (hs : swapsWith e (some (.Name y pos')) pos.line X.env = pure false := by rfl)
    (hf : X.fn y = true ∨ X.env.scope.names.lookup y = some .local := by first | exact .inl rfl | exact .inr rfl) : JS X W (.Assign [.Name y pos'] e pos) (mSetX2 i mo) := by
  obtain ⟨t, p, s⟩ := he.ex
  refine ⟨_, ps_set hN hi hx p hs hf, fun P F0 qc F cell S σ H D fl S' R hm k => ?_⟩
  unfold mSetX2 at hm
  split at hm
  · rename_i d S1 e1
    cases hm
    exact s P F0 qc F cell S σ H _ _ S1 R e1 fun v F' H' f1 R1 q => k F' cell _ H' f1 (R1.setV q)
  · rename_i c fs S1 e1
    cases hm
    exact s P F0 qc F cell S σ H _ _ S' R e1 fun C dd us F' H' f1 R1 h1 h2 h3 => k F' cell σ H' f1 R1 C dd us h1 h2 h3
  · cases hm
def mValX (m : MO2) : ME := fun S => match m S with
  | some (.val d, S1) => some (.v d, S1)
  | _ => none
theorem je_callFX (G : FnG X.prog X.w X.K X.mg X.base (L2.CX X.prog X.w) k f fd ps (spX X.K n m)) (gd : X.A.guards = some []) (hr : Room k X.A) (hm : X.mg x = some (.ref f)) (hk : PySem.W.keepIn X.K (.ref f) = true) (hb : Binds X.K fd ps []) (ha : JA X (e :: es) mas)
    (hg : Gl X x := by rfl) (hdb : (x == ("__debug__" : Str)) = false := by decide) (he : starEach (e :: es) X.env = (false, eval e X.env) :: starEach es X.env := by rfl) (hpl : (backTo pos (starEach es X.env)).any (·.1) = false := by rfl) :
    JE X (.Call (.Name x p) (e :: es) [] pos) (mValX (mCallX n m mas)) := by
  obtain ⟨ta, pa, sa⟩ := ha.ex
  have none_ : ∀ σ : L2.St, PassesAt (L2.CX X.prog X.w) X σ (WE W0 σ) := fun σ pins H s e s' I c => by
    obtain ⟨_, _, _, _, _, _, _, _, _, _, _, _, z⟩ := c
    exact z.elim
  refine ⟨_, pe_callGS G gd hr hg hm hk hb none_ pa hdb he hpl, fun P F0 qc F cell S σ H Q r S' R hz kk => ?_⟩
  unfold mValX at hz
  split at hz
  · rename_i d S1 e1
    cases hz
    exact snd_callX (W := W0) sa P F0 qc F cell S σ H Q _ S' R e1 fun v F' H' f1 R1 q => kk v F' H' f1 R1 q
  · cases hz
end
end VL
namespace VL
open PySem PySem.Spec PyProof.Rows L2
variable [LT]
def mTryK (sub : Str → Option Bool) (y i : Nat) (mb : MS) : MS := fun S => match mb S with
  | some (.nx, S1) => some (.nx, S1)
  | some (.bk, S1) => some (.bk, S1)
  | some (.ct, S1) => some (.ct, S1)
  | some (.rt r, S1) => some (.rt r, S1)
  | some (.rz c fs, S1) => match sub c with
    | some true => if i < S1.length then some (.nx, (S1.set y (some (.s (.ex c fs)))).set i none) else none
    | some false => some (.rz c fs, S1)
    | none => none
  | none => none
section
variable {X : Cx} {W : WX} {x n yn : Str} {c : Value} {body : List Stmt} {np pos pos' yp yp2 sp : Pos} {mb : MS} {sub : Str → Option Bool}
theorem js_try_keep (y i : Nat) (hN : X.N.Nodup) (hyi : i ≠ y) (tk : Takes X W) (hex : X.ex = []) (hs : X.stack = X.env :: X.outer) (hf : X.env.frame = some X.env.locals) (hc : Names X x c)
    (hsub : ∀ (k : Str) (C : Addr) (b : Bool), PySem.W.nsIn X.K mainGlobals k = some (some (.ref C)) → sub k = some b → PySem.W.exmOne X.K (.ref C) c = some b)
    (hb : ∀ (W' : WX) (pn : List (Addr × Obj)) (xe : Value → Shared → Prop), Takes (X.tr pn xe) W' → PassesOwn (model X.prog X.w) X.A X.env xe → JB (X.tr pn xe) W' body mb)
    (hi : X.N[i]? = some n := by rfl) (hln : X.env.kindOf n = some .local := by rfl) (hy : X.N[y]? = some yn := by rfl) (hyl : X.env.scope.names.lookup yn = some .local := by rfl)
    (hv : Vis X.env.scope n := by first | exact Or.inl rfl | exact Or.inr (Or.inl rfl) | exact Or.inr (Or.inr rfl)) (hd : (n == ("__debug__" : Str)) = false := by decide) (hcd : (n == ("__classdict__" : Str)) = false := by decide)
    (hsw : swapsWith (.Name n yp2) (some (.Name yn yp)) sp.line X.env = pure false := by rfl) :
    JS X W (.Try body [.ExceptHandler (some (.Name x np)) (some n) [.Assign [.Name yn yp] (.Name n yp2) sp] pos'] [] [] pos) (mTryK sub y i mb) := by
  refine ⟨_, VX.ps_try_keep (i := i) (tb := fun W' => denS X.K W' mb) (ts := fun a cls d => fun D σ H => tAsg (tVar i) (gName y) { D with nx := fun σ H => D.nx σ H } σ H) hs hf hN hi hln hc tk hex (fun W' pn xe tk' po => (hb W' pn xe tk' po).den) (fun a oe cls d pn hz hfl => ?_), fun P F0 qc F cell S σ H D fl S' R hm k => ?_⟩
  · refine pss_one (t := fun D σ H => tAsg (tVar i) (gName y) D σ H) ?_
    exact ps_set (X := X.suite a ((a, oe) :: pn)) hN hy (.inl hyl) (pe_var hi hv hd hcd) hsw (.inr hyl)
  · have go : ∀ (fl : Fl) (S1 : Sl), mb S = some (fl, S1) → (∀ F' cell' σ' H', Same F F' → RC X.K P F0 qc F' cell' S1 σ' H' → FlK X.K (VX.wKeep X.K c i (fun a cls d => fun D σ H => tAsg (tVar i) (gName y) { D with nx := fun σ H => D.nx σ H } σ H) W D) F' cell' fl D σ' H') →
        denS X.K (VX.wKeep X.K c i (fun a cls d => fun D σ H => tAsg (tVar i) (gName y) { D with nx := fun σ H => D.nx σ H } σ H) W D) mb D σ H := fun fl S1 e kk => ⟨P, F0, qc, F, cell, S, fl, S1, R, e, kk⟩
    unfold mTryK at hm
    split at hm
    · rename_i S1 e1
      cases hm
      exact go _ _ e1 fun F' c' σ' H' f1 R1 => k F' c' σ' H' f1 R1
    · rename_i S1 e1
      cases hm
      exact go _ _ e1 fun F' c' σ' H' f1 R1 => k F' c' σ' H' f1 R1
    · rename_i S1 e1
      cases hm
      exact go _ _ e1 fun F' c' σ' H' f1 R1 => k F' c' σ' H' f1 R1
    · rename_i r S1 e1
      cases hm
      exact go _ _ e1 fun F' c' σ' H' f1 R1 => k F' c' σ' H' f1 R1
    · rename_i cn fs S1 e1
      split at hm
      · rename_i hsc
        split at hm
        case isFalse => cases hm
        rename_i hlen
        cases hm
        refine go _ _ e1 fun F' c' σ' H' f1 R1 C dd vs h1 h2 h3 => ⟨true, hsub cn C true h1 hsc, fun _ a ha => ?_, fun z => by cases z⟩
        have li : i < σ'.length := by
          rw [← R1.len]
          exact hlen
        refine ⟨.ref a, List.getElem?_set_self li, ?_⟩
        show D.nx (((σ'.set i (some (V.ref a))).set y (some (.ref a))).set i none) (upd H' a (VX.ExF (.ref C) dd a))
        have ex : Ext F' H' (upd F' a (VX.ExF (.ref C) dd a)) (upd H' a (VX.ExF (.ref C) dd a)) := Ext.new R1.fh ha
        have or : OR X.K (upd F' a (VX.ExF (.ref C) dd a)) (.ex cn fs) (.ref a) := ⟨a, C, dd, vs, rfl, h1, upd_same, h2.mono ex.f, h3.mono ex.f⟩
        have R2 := ((R1.ext ex).setO (i := y) or).setN i
        rw [List.set_comm _ _ hyi, List.set_set]
        exact k _ c' _ _ (f1.trans ex.f) R2
      · rename_i hsc
        cases hm
        exact go _ _ e1 fun F' c' σ' H' f1 R1 C dd vs h1 h2 h3 => ⟨false, hsub cn C false h1 hsc, (fun z => by cases z), fun _ => k F' c' σ' H' f1 R1 C dd vs h1 h2 h3⟩
      · cases hm
    · cases hm
end
def mIsE (kx : Str → Option Bool) (kn : Option Bool) (me : ME) : ME := fun S => match me S with
  | some (.s (.ex c _), S1) => match kx c with
    | some b => some (.v (.bool b), S1)
    | none => none
  | some (.v .none, S1) => match kn with
    | some b => some (.v (.bool b), S1)
    | none => none
  | _ => none
def mFld (ok : Str → Bool) (f : Str) (me : ME) : ME := fun S => match me S with
  | some (.s (.ex c fs), S1) => if ok c = true then match fs.lookup f with
      | some d => some (.v d, S1)
      | none => none
    else none
  | _ => none
def mIsN (me : ME) : ME := fun S => match me S with
  | some (.v d, S1) => some (.v (.bool (isNo d)), S1)
  | some (.s _, S1) => some (.v (.bool false), S1)
  | _ => none
def mIsNN (me : ME) : ME := fun S => match me S with
  | some (.v d, S1) => some (.v (.bool (!isNo d)), S1)
  | some (.s _, S1) => some (.v (.bool true), S1)
  | _ => none
section
variable {X : Cx} {e ec : Expr} {me : ME} {pos p : Pos} {vc : V} {u : Value} {kx : Str → Option Bool} {kn : Option Bool} {f : Str} {ok : Str → Bool}
theorem je_isE (hm : X.mg "isinstance" = none) (he : JE X e me) (pc : PE X ec (tC vc)) (hcl : ClsV vc u)
    (hx : ∀ (c : Str) (C : Addr) (b : Bool), PySem.W.nsIn X.K mainGlobals c = some (some (.ref C)) → kx c = some b → PySem.W.kitOne X.K (.ref C) u = some b ∧ ExcC X.K C)
    (hn : ∀ b, kn = some b → PySem.W.kitOne X.K (.type "NoneType") u = some b) (hg : Gl X "isinstance" := by rfl)
    (hst : starEach [e, ec] X.env = (false, eval e X.env) :: starEach [ec] X.env := by rfl) (hst2 : starEach [ec] X.env = (false, eval ec X.env) :: starEach [] X.env := by rfl) (hpl : (backTo pos (starEach [ec] X.env)).any (·.1) = false := by rfl) :
    JE X (.Call (.Name "isinstance" p) [e, ec] [] pos) (mIsE kx kn me) := by
  obtain ⟨te, pe, se⟩ := he.ex
  refine ⟨_, pe_callB (CallR.or VX.call_isT call_isi) hg hm (by decide +kernel) (pa_cons pe (pa_cons pc pa_nil hst2) hst) (by decide) (by decide) hst hpl, fun P F0 qc F cell S σ H Q z S' R hz k => ?_⟩
  unfold mIsE at hz
  split at hz
  · rename_i c fs S1 e1
    split at hz
    · rename_i b hb
      cases hz
      refine se P F0 qc F cell S σ H _ _ S' R e1 fun v F1 H1 f1 R1 q1 => ?_
      obtain ⟨a, C, dd, vs, rfl, h1, h2, h3, h4⟩ := q1
      obtain ⟨y1, y2⟩ := hx c C b h1 hb
      exact .inl ⟨a, C, dd, _, vc, u, b, rfl, R1.fh _ _ h2, h3.mono R1.fh, y2, fun w r => hcl.eq r, y1, k _ F1 H1 f1 R1 (.bl b)⟩
    · cases hz
  · rename_i S1 e1
    split at hz
    · rename_i b
      cases hz
      refine se P F0 qc F cell S σ H _ _ S' R e1 fun v F1 H1 f1 R1 q1 => ?_
      cases (show DV X.K F1 v .none from q1)
      exact .inr ⟨.non, vc, _, u, b, rfl, hcl, .base .non, hn b rfl, k _ F1 H1 f1 R1 (.bl b)⟩
    · cases hz
  · cases hz
theorem je_fld (he : JE X e me) (hx : ∀ (c : Str) (C : Addr), PySem.W.nsIn X.K mainGlobals c = some (some (.ref C)) → ok c = true → XfC X.K C ∧ PySem.W.findIn X.K (.ref C) f = some none)
    (hb : attributeBase e f X.env (eval e X.env) = eval e X.env := by rfl) : JE X (.Attribute e f pos) (mFld ok f me) := by
  obtain ⟨te, pe, se⟩ := he.ex
  refine ⟨_, VX.pe_xt pe hb, fun P F0 qc F cell S σ H Q z S' R hz k => ?_⟩
  unfold mFld at hz
  split at hz
  · rename_i c fs S1 e1
    split at hz
    · rename_i ho
      split at hz
      · rename_i d hd
        cases hz
        refine se P F0 qc F cell S σ H _ _ S' R e1 fun v F1 H1 f1 R1 q1 => ?_
        obtain ⟨a, C, dd, vs, rfl, h1, h2, h3, h4⟩ := q1
        obtain ⟨y1, y2⟩ := hx c C h1 ho
        have aux : ∀ (fs : List (Str × PyData)) (vs : List V), DVs X.K F1 vs (fs.map (·.2)) → fs.lookup f = some d → ∃ v, ((fs.map (·.1)).zip vs).lookup f = some v ∧ DV X.K F1 v d := by
          intro fs
          induction fs with
          | nil => intro vs _ h; cases h
          | cons g fs ih =>
            intro vs hv h
            obtain ⟨g1, g2⟩ := g
            cases hv with
            | cons q qs =>
              rename_i v vs
              simp only [List.map_cons,List.zip_cons_cons,List.lookup_cons] at h ⊢
              cases t : f == g1 with
              | true =>
                simp only [t] at h ⊢
                cases h
                exact ⟨v, rfl, q⟩
              | false =>
                simp only [t] at h ⊢
                exact ih vs qs h
        obtain ⟨v, l, dv⟩ := aux fs vs h4 hd
        obtain ⟨dd, rfl⟩ : ∃ d, dd = some d := by
          cases dd with
          | none =>
            rw [show (fs.map (·.1)).zip vs = [] from h3] at l
            cases l
          | some d => exact ⟨d, rfl⟩
        exact ⟨a, C, dd, _, v, rfl, R1.fh _ _ h2, R1.fh _ _ h3, y1, y2, l, k v F1 H1 f1 R1 dv⟩
      · cases hz
    · cases hz
  · cases hz
end
end VL
namespace VL
open PySem PySem.Spec PyProof.Rows L2
variable [LT]
section
variable {K : PySem.W.Frag} {F : Hp} {vs : List V} {ds : List PyData} {a : Addr}
theorem itok_en {xs : List V} {G : Hp → Prop} (hv : DVs K F xs ds) (hG : ∀ H, Same F H → G H) : ItOk K (VX.Iten xs G) F (enumD ds) := by
  have hl : (enumD ds).length = xs.length := by unfold enumD; rw [List.length_mapIdx, hv.length]
  refine ⟨_, _, by rw [hl]; exact VX.walk_en, fun H e => hG H e, fun i H x H' F2 d e1 e2 hd y => ?_⟩
  obtain ⟨T, x1, x2, rfl, hT, rfl, g1, g2⟩ := y
  cases g1
  obtain ⟨dd, g3, g4⟩ := hv.got g2
  unfold enumD at hd
  rw [List.getElem?_mapIdx, g3] at hd
  cases hd
  refine ⟨upd F2 T (.tup [.int (i : Nat), x2]), Ext.new e2 hT, ?_⟩
  exact .tup (SqT.of upd_same) (.cons (.int _) (.cons ((g4.mono e1).mono (same_new (e2.free hT))) .nil))
theorem dvs_signs (z : Str) : DVs K F (z.cps.toList.map fun c => V.str ⟨#[c]⟩) (signsD z) := by
  unfold signsD
  generalize z.cps.toList = l
  induction l with
  | nil => exact .nil
  | cons c l ih => exact .cons (.str _) ih
end
def mEnumA (ma : MA) : MI := fun S => match ma S with
  | some ([.v (.list ds)], S1) => some (enumD ds, S1)
  | some ([.v (.tuple ds)], S1) => some (enumD ds, S1)
  | some ([.v (.str z)], S1) => some (enumD (signsD z), S1)
  | _ => none
section
variable {X : Cx} {e : Expr} {mas : MA} {pos p tpos : Pos} {elts : List Expr} {kk : Nat}
theorem ji_enumA (hm : X.mg "enumerate" = none) (ha : JA X [e] mas) (hg : Gl X "enumerate" := by rfl) (hs : starEach [e] X.env = [(false, eval e X.env)] := by rfl) : JI X (.Tuple elts kk tpos) (.Call (.Name "enumerate" p) [e] [] pos) (mEnumA mas) := by
  obtain ⟨t, pa, s⟩ := ha.ex
  refine ⟨_, PI.or (pi_enum hg hm pa hs) (PI.or (VX.pi_enT hg hm pa hs) (VX.pi_enS hg hm pa hs)), fun P F0 qc F cell S σ H R ds S' RR hm k => ?_⟩
  unfold mEnumA at hm
  split at hm
  · rename_i ds' S1 e1
    cases hm
    refine .inl (s P F0 qc F cell S σ H _ _ S' RR e1 fun vs F1 H1 f1 R1 q1 => ?_)
    obtain ⟨v, ws, rfl, g1, g2⟩ := q1
    cases (show ws = [] from g2)
    cases (show DV X.K F1 v (.list ds') from g1) with
    | lst g3 g4 => exact ⟨_, _, rfl, SqL.of (R1.fh _ _ g3), k _ F1 H1 f1 R1 (itok_enum g3 g4)⟩
  · rename_i ds' S1 e1
    cases hm
    refine .inr (.inl (s P F0 qc F cell S σ H _ _ S' RR e1 fun vs F1 H1 f1 R1 q1 => ?_))
    obtain ⟨v, ws, rfl, g1, g2⟩ := q1
    cases (show ws = [] from g2)
    cases (show DV X.K F1 v (.tuple ds') from g1) with
    | tup g3 g4 => exact ⟨_, _, rfl, sqT_mono R1.fh g3, k _ F1 H1 f1 R1 (itok_en g4 fun H e => sqT_mono e g3)⟩
  · rename_i z S1 e1
    cases hm
    refine .inr (.inr (s P F0 qc F cell S σ H _ _ S' RR e1 fun vs F1 H1 f1 R1 q1 => ?_))
    obtain ⟨v, ws, rfl, g1, g2⟩ := q1
    cases (show ws = [] from g2)
    cases (show DV X.K F1 v (.str z) from g1)
    exact ⟨z, rfl, k _ F1 H1 f1 R1 (itok_en (dvs_signs z) fun _ _ => trivial)⟩
  · cases hm
end
def lc2Go (g : MG) (mt : MT) (mi1 : MI) (g1 : MG) (mt1 : MT) (me : ME) (vs vs1 : List Nat) : List PyData → Sl → List PyData → Option (List PyData × Sl)
  | [], T, acc => some (acc, T)
  | d :: ds, T, acc => match g d T with
    | none => none
    | some T1 => match mt T1 with
      | none => none
      | some (false, T2) => lc2Go g mt mi1 g1 mt1 me vs vs1 ds (wp T2 vs) acc
      | some (true, T2) => match mi1 T2 with
        | none => none
        | some (ds1, T3) => match lcGo g1 mt1 me vs1 ds1 (wp T3 vs1) acc with
          | none => none
          | some (acc', T4) => lc2Go g mt mi1 g1 mt1 me vs vs1 ds (wp T4 vs) acc'
def xLc2 (mi : MI) (g : MG) (mt : MT) (mi1 : MI) (g1 : MG) (mt1 : MT) (me : ME) (vs vs1 : List Nat) : MX := fun S => match mi S with
  | none => none
  | some (ds, S1) => if ownOk S1 vs = true then match lc2Go g mt mi1 g1 mt1 me vs vs1 ds (wp S1 vs) [] with
      | some (acc, T) => some (.c acc, unwp S1 T vs)
      | none => none
    else none
theorem wipe_sub (σ : L2.St) {vs vs1 : List Nat} (h : ∀ i ∈ vs1, i ∈ vs) : L2.wipe (L2.wipe σ vs1) vs = L2.wipe σ vs := by
  refine List.ext_getElem? fun i => ?_
  by_cases hi : i ∈ vs
  · by_cases hl : i < σ.length
    · rw [wipe_in (by rw [wipe_length]; exact hl) hi, wipe_in hl hi]
    · rw [List.getElem?_eq_none (by rw [wipe_length, wipe_length]; omega), List.getElem?_eq_none (by rw [wipe_length]; omega)]
  · rw [wipe_out hi, wipe_out hi, wipe_out fun z => hi (h i z)]
section
variable {X : Cx} {W : WX} {elt tg iter tg1 iter1 : Expr} {ifs ifs1 : List Expr} {scope : Scope} {own : List (Str × Nat)} {pos : Pos} {mi mi1 : MI} {g g1 : MG} {mt mt1 : MT} {me : ME} {ts ts1 : List Nat}
theorem snd_lc2 {K : PySem.W.Frag} {wi wi1 : TI} {vs vs1 : List Nat} (si : SndI K wi mi) (si1 : SndI K wi1 mi1) (hv : ∀ i ∈ ts, i ∈ vs) (hv1 : ∀ i ∈ ts1, i ∈ vs1) (hss : ∀ i ∈ vs1, i ∈ vs) :
    SndX K (tLc2 wi (denG K g ts) (denT K mt) wi1 (denG K g1 ts1) (denT K mt1) (denE K me) vs vs1) (xLc2 mi g mt mi1 g1 mt1 me vs vs1) := by
  intro P F0 qc F cell S σ H Q r S' R hm k
  unfold xLc2 at hm
  split at hm
  · cases hm
  · rename_i ds S1 e1
    split at hm
    · rename_i ho
      split at hm
      · rename_i acc T e2
        cases hm
        refine si P F0 qc F cell S σ H _ ds S1 R e1 fun J F1 H1 f1 R1 ok => ?_
        intro D hD
        obtain ⟨G, Y, w, hG, hY⟩ := ok.ex
        have hP : P D = none := R1.ph.free hD
        have h0 : F0 D = none := (R1.f0.trans R1.fh).free hD
        refine ⟨fun i m H => m = ds.length - i ∧ i ≤ ds.length ∧ ∃ F2 T2 acc2 ws, Same F1 F2 ∧ RC K (upd P D (.lst ws)) F0 qc F2 cell T2 (L2.wipe σ vs) H ∧ DVs K F2 ws acc2 ∧ lc2Go g mt mi1 g1 mt1 me vs vs1 (ds.drop i) T2 acc2 = some (acc, T),
          ⟨ds.length, by simp, Nat.zero_le _, F1, wp S1 vs, [], [], Same.refl _, (R1.lay hD).wipe vs, .nil, e2⟩, ?_⟩
        rintro i m H2 ⟨rfl, hi, F2, T2, acc2, ws, f2, R2, hw, e3⟩
        by_cases hlt : i < ds.length
        · refine .inr ⟨w.1 i H2 hlt (hG H2 (f2.trans R2.fh)), fun H' => i + 1 ≤ ds.length ∧ ∃ F2 T2 acc2 ws, Same F1 F2 ∧ RC K (upd P D (.lst ws)) F0 qc F2 cell T2 (L2.wipe σ vs) H' ∧ DVs K F2 ws acc2 ∧ lc2Go g mt mi1 g1 mt1 me vs vs1 (ds.drop (i + 1)) T2 acc2 = some (acc, T), fun H' q => ⟨ds.length - (i + 1), by omega, rfl, q⟩, fun x H' y => ?_⟩
          obtain ⟨d, hd, hdr⟩ := drop_cons hlt
          rw [hdr] at e3
          unfold lc2Go at e3
          obtain ⟨F3, ex, dv⟩ := hY i H2 x H' F2 d f2 R2.fh hd (w.yields i H2 x H' hlt (hG H2 (f2.trans R2.fh)) y)
          have R3 := R2.ext ex
          cases e4 : g d T2 with
          | none => rw [e4] at e3; cases e3
          | some T3 =>
            rw [e4] at e3
            refine ⟨_, F0, qc, F3, cell, T2, d, T3, R3, dv, e4, fun σ4 R4 w4 => ⟨(w4 vs hv).trans (wipe_idem σ vs), ?_⟩⟩
            have wv : L2.wipe σ4 vs = L2.wipe σ vs := (w4 vs hv).trans (wipe_idem σ vs)
            cases e5 : mt T3 with
            | none => simp only [e5] at e3; cases e3
            | some z =>
              obtain ⟨b, T4⟩ := z
              simp only [e5] at e3
              refine ⟨_, F0, qc, F3, cell, T3, b, T4, R4, e5, fun F5 H5 f5 R5 => ?_⟩
              cases b with
              | false =>
                rw [if_neg Bool.false_ne_true]
                have e3 : lc2Go g mt mi1 g1 mt1 me vs vs1 (ds.drop (i + 1)) (wp T4 vs) acc2 = some (acc, T) := e3
                refine ⟨hlt, F5, _, acc2, ws, (f2.trans ex.f).trans f5, ?_, (hw.mono ex.f).mono f5, e3⟩
                rw [← wv]
                exact R5.wipe vs
              | true =>
                rw [if_pos rfl]
                have e3 : (match mi1 T4 with
                  | none => none
                  | some (ds1, T3) => match lcGo g1 mt1 me vs1 ds1 (wp T3 vs1) acc2 with
                    | none => none
                    | some (acc', T4) => lc2Go g mt mi1 g1 mt1 me vs vs1 (ds.drop (i + 1)) (wp T4 vs) acc') = some (acc, T) := e3
                split at e3
                · cases e3
                · rename_i ds1 T5 e6
                  split at e3
                  · cases e3
                  · rename_i acc' T6 e7
                    refine si1 _ F0 qc F5 cell T4 σ4 H5 _ ds1 T5 R5 e6 fun J1 F6 H6 f6 R6 ok1 => ?_
                    obtain ⟨G1, Y1, w1, hG1, hY1⟩ := ok1.ex
                    have f16 : Same F1 F6 := ((f2.trans ex.f).trans f5).trans f6
                    have hw6 : DVs K F6 ws acc2 := ((hw.mono ex.f).mono f5).mono f6
                    refine ⟨fun j m H => m = ds1.length - j ∧ j ≤ ds1.length ∧ ∃ F7 T7 acc7 ws7, Same F6 F7 ∧ RC K (upd P D (.lst ws7)) F0 qc F7 cell T7 (L2.wipe σ4 vs1) H ∧ DVs K F7 ws7 acc7 ∧ lcGo g1 mt1 me vs1 (ds1.drop j) T7 acc7 = some (acc', T6),
                      ⟨ds1.length, by simp, Nat.zero_le _, F6, wp T5 vs1, acc2, ws, Same.refl _, R6.wipe vs1, hw6, e7⟩, ?_⟩
                    rintro j m H7 ⟨rfl, hj, F7, T7, acc7, ws7, f7, R7, hw7, e8⟩
                    by_cases hlt1 : j < ds1.length
                    · refine .inr ⟨w1.1 j H7 hlt1 (hG1 H7 (f7.trans R7.fh)), fun H' => j + 1 ≤ ds1.length ∧ ∃ F7 T7 acc7 ws7, Same F6 F7 ∧ RC K (upd P D (.lst ws7)) F0 qc F7 cell T7 (L2.wipe σ4 vs1) H' ∧ DVs K F7 ws7 acc7 ∧ lcGo g1 mt1 me vs1 (ds1.drop (j + 1)) T7 acc7 = some (acc', T6), fun H' q => ⟨ds1.length - (j + 1), by omega, rfl, q⟩, fun x1 H8 y1 => ?_⟩
                      obtain ⟨d1, hd1, hdr1⟩ := drop_cons hlt1
                      rw [hdr1] at e8
                      unfold lcGo at e8
                      obtain ⟨F8, ex8, dv8⟩ := hY1 j H7 x1 H8 F7 d1 f7 R7.fh hd1 (w1.yields j H7 x1 H8 hlt1 (hG1 H7 (f7.trans R7.fh)) y1)
                      have R8 := R7.ext ex8
                      cases e9 : g1 d1 T7 with
                      | none => rw [e9] at e8; cases e8
                      | some T8 =>
                        rw [e9] at e8
                        refine ⟨_, F0, qc, F8, cell, T7, d1, T8, R8, dv8, e9, fun σ9 R9 w9 => ⟨(w9 vs1 hv1).trans (wipe_idem σ4 vs1), ?_⟩⟩
                        have wv1 : L2.wipe σ9 vs1 = L2.wipe σ4 vs1 := (w9 vs1 hv1).trans (wipe_idem σ4 vs1)
                        cases e10 : mt1 T8 with
                        | none => simp only [e10] at e8; cases e8
                        | some z1 =>
                          obtain ⟨b1, T9⟩ := z1
                          simp only [e10] at e8
                          refine ⟨_, F0, qc, F8, cell, T8, b1, T9, R9, e10, fun F10 H10 f10 R10 => ?_⟩
                          cases b1 with
                          | false =>
                            rw [if_neg Bool.false_ne_true]
                            have e8 : lcGo g1 mt1 me vs1 (ds1.drop (j + 1)) (wp T9 vs1) acc7 = some (acc', T6) := e8
                            refine ⟨hlt1, F10, _, acc7, ws7, (f7.trans ex8.f).trans f10, ?_, (hw7.mono ex8.f).mono f10, e8⟩
                            rw [← wv1]
                            exact R10.wipe vs1
                          | true =>
                            rw [if_pos rfl]
                            have e8 : (match me T9 with
                              | some (.v z, T3) => if acc7.length < 100000 then lcGo g1 mt1 me vs1 (ds1.drop (j + 1)) (wp T3 vs1) (acc7 ++ [z]) else none
                              | _ => none) = some (acc', T6) := e8
                            split at e8
                            · rename_i z T10 e11
                              split at e8
                              · rename_i hl
                                refine ⟨_, F0, qc, F10, cell, T9, .v z, T10, R10, e11, fun v F11 H11 f11 R11 q11 => ?_⟩
                                refine ⟨ws7, R11.laid_at, ?_, hlt1, F11, _, acc7 ++ [z], ws7 ++ [v], ((f7.trans ex8.f).trans f10).trans f11, ?_, (((hw7.mono ex8.f).mono f10).mono f11).append (.cons q11 .nil), e8⟩
                                · rw [hw7.length]
                                  exact Nat.lt_of_lt_of_le hl (by decide)
                                · rw [← wv1]
                                  exact (R11.relay h0).wipe vs1
                              · cases e8
                            · cases e8
                    · have e : j = ds1.length := by omega
                      subst e
                      rw [List.drop_length] at e8
                      cases e8
                      refine .inl ⟨w1.2 H7 (hG1 H7 (f7.trans R7.fh)), hlt, F7, _, _, ws7, f16.trans f7, ?_, hw7, e3⟩
                      rw [← wv, ← wipe_sub σ4 hss]
                      exact R7.wipe vs
        · have e : i = ds.length := by omega
          subst e
          rw [List.drop_length] at e3
          cases e3
          refine .inl ⟨w.2 H2 (hG H2 (f2.trans R2.fh)), ?_⟩
          exact k D ws F2 H2 (f1.trans f2) hP h0 (R1.unwipe ho f2 R2) hw
      · cases hm
    · cases hm
def denI (K : PySem.W.Frag) (m : MI) : TI := fun σ H R => ∃ P F0 qc F cell S ds S', RC K P F0 qc F cell S σ H ∧ m S = some (ds, S') ∧ ∀ J F' H', Same F F' → RC K P F0 qc F' cell S' σ H' → ItOk K J F' ds → R J H'
theorem JI.den1 {X : Cx} {tg iter : Expr} {m : MI} (h : JI X tg iter m) : PI X tg iter (denI X.K m) := by
  obtain ⟨t, p, s⟩ := h.ex
  exact ⟨fun pins s0 σ H R I ⟨P, F0, qc, F, cell, S, ds, S', RR, hm, k⟩ => p.run pins s0 σ H R I (s P F0 qc F cell S σ H R ds S' RR hm k)⟩
theorem snd_denI {K : PySem.W.Frag} {m : MI} : SndI K (denI K m) m := fun P F0 qc F cell S σ H R ds S' RR hm k => ⟨P, F0, qc, F, cell, S, ds, S', RR, hm, k⟩
theorem jx_lc2 (vs1 : List Nat) (hc : X.calm = true) (hN : X.N.Nodup) (hi : JI X tg iter mi) (ok : BlkOk X.N X.env.scope scope own)
    (hg : ∀ (s : Shared) (H : Hp) (C : Addr) (cl : List (Str × Addr)) (fp : List Addr), JG (X.blk s H scope (compEnvC scope cl C X.env) fp) tg g ts) (ht : ∀ (s : Shared) (H : Hp) (C : Addr) (cl : List (Str × Addr)) (fp : List Addr), JTs (X.blk s H scope (compEnvC scope cl C X.env) fp) ifs mt)
    (hi1 : ∀ (s : Shared) (H : Hp) (C : Addr) (cl : List (Str × Addr)) (fp : List Addr), JI (X.blk s H scope (compEnvC scope cl C X.env) fp) tg1 iter1 mi1)
    (hg1 : ∀ (s : Shared) (H : Hp) (C : Addr) (cl : List (Str × Addr)) (fp : List Addr), JG (X.blk s H scope (compEnvC scope cl C X.env) fp) tg1 g1 ts1) (ht1 : ∀ (s : Shared) (H : Hp) (C : Addr) (cl : List (Str × Addr)) (fp : List Addr), JTs (X.blk s H scope (compEnvC scope cl C X.env) fp) ifs1 mt1)
    (he : ∀ (s : Shared) (H : Hp) (C : Addr) (cl : List (Str × Addr)) (fp : List Addr), JE (X.blk s H scope (compEnvC scope cl C X.env) fp) elt me) (hv : ∀ i ∈ ts, i ∈ own.map (·.2) := by decide) (hv1 : ∀ i ∈ ts1, i ∈ vs1 := by decide) (hss : ∀ i ∈ vs1, i ∈ own.map (·.2) := by decide)
    (hs : ∀ x, foldedSetIterable iter X.env x = pure x := by intro _; rfl) (hs1 : ∀ env x, foldedSetIterable iter1 env x = pure x := by intro _ _; rfl) :
    JX X (.ListComp elt [⟨tg, iter, ifs, 0⟩, ⟨tg1, iter1, ifs1, 0⟩] scope pos) (xLc2 mi g mt mi1 g1 mt1 me (own.map (·.2)) vs1) := by
  obtain ⟨wi, pi, si⟩ := hi.ex
  exact ⟨_, pe_lc2 hc hN pi ok hss (fun s H C cl fp => (hg s H C cl fp).den) (fun s H C cl fp => (ht s H C cl fp).den) (fun s H C cl fp => (hi1 s H C cl fp).den1) (fun s H C cl fp => (hg1 s H C cl fp).den) (fun s H C cl fp => (ht1 s H C cl fp).den) (fun s H C cl fp => (he s H C cl fp).den) hs hs1, snd_lc2 si snd_denI hv hv1 hss⟩
end
section
variable {X : Cx} {k n : Nat} {f : Addr} {fd : FuncData} {p0 : Str} {ps : List Str} {x : Str} {p pos : Pos} {kws : List Keyword} {m : MFX} {mas : MA}
end
end VL
namespace VL
open PySem PySem.Spec PyProof.Rows L2
variable [LT]
theorem takes0 {X : Cx} : Takes X W0 := fun u s' ⟨a, B, sI, pins, σ, H, cls, d, e, I, nb, up, sky, na, os, ag, w⟩ => w.elim
inductive KX (K : PySem.W.Frag) (R : Addr → Bool → Prop) : List (Str × Bool) → Prop
  | nil : KX K R []
  | cons {c : Str} {C : Addr} {b : Bool} {l : List (Str × Bool)} : PySem.W.nsIn K mainGlobals c = some (some (.ref C)) → R C b → KX K R l → KX K R ((c, b) :: l)
def kx (l : List (Str × Bool)) : Str → Option Bool := fun c => l.lookup c
theorem KX.hx {K : PySem.W.Frag} {R : Addr → Bool → Prop} : ∀ {l : List (Str × Bool)}, KX K R l → ∀ (c : Str) (C : Addr) (b : Bool), PySem.W.nsIn K mainGlobals c = some (some (.ref C)) → kx l c = some b → R C b
  | _, .nil, c, C, b, h, e => by cases e
  | _, .cons (c := c0) (C := C0) (b := b0) (l := l) h0 r t, c, C, b, h, e => by
    unfold kx at e
    rw [List.lookup_cons] at e
    cases q : c == c0 with
    | true =>
      rw [q] at e
      have := beq_iff_eq.mp q
      subst this
      cases e
      rw [h0] at h
      cases h
      exact r
    | false =>
      rw [q] at e
      exact t.hx c C b h e
def kok (l : List (Str × Bool)) : Str → Bool := fun c => kx l c == some true
theorem KX.hok {K : PySem.W.Frag} {R : Addr → Bool → Prop} {l : List (Str × Bool)} (h : KX K R l) (c : Str) (C : Addr) (hc : PySem.W.nsIn K mainGlobals c = some (some (.ref C))) (e : kok l c = true) : R C true := h.hx c C true hc (beq_iff_eq.mp e)
section
variable {X : Cx} {e : Expr} {me : ME} {pos p p2 : Pos} {tn : Str} {kn : Option Bool} {l : List (Str × Bool)} {f : Str}
theorem je_isX (l : List (Str × Bool)) (hm : X.mg "isinstance" = none) {C0 : Addr} (hC : X.mg tn = some (.ref C0)) (he : JE X e me) (hx : KX X.K (fun C b => PySem.W.kitOne X.K (.ref C) (.ref C0) = some b ∧ ExcC X.K C) l)
    (hn : PySem.W.kitOne X.K (.type "NoneType") (.ref C0) = some false) (hg : Gl X "isinstance" := by rfl) (hgT : Gl X tn := by rfl) (hdb : (tn == ("__debug__" : Str)) = false := by decide)
    (hst : starEach [e, .Name tn p2] X.env = (false, eval e X.env) :: starEach [.Name tn p2] X.env := by rfl) (hst2 : starEach [.Name tn p2] X.env = (false, eval (.Name tn p2) X.env) :: starEach [] X.env := by rfl) (hpl : (backTo pos (starEach [.Name tn p2] X.env)).any (·.1) = false := by rfl) :
    JE X (.Call (.Name "isinstance" p) [e, .Name tn p2] [] pos) (mIsE (kx l) (some false) me) :=
  je_isE hm he (pe_glob (v := .ref C0) hgT hC rfl hdb) (.own C0) (fun c C b h1 h2 => hx.hx c C b h1 h2) (fun b hb => by cases hb; exact hn) hg hst hst2 hpl
theorem je_isXB (T : String) (l : List (Str × Bool)) (hm : X.mg "isinstance" = none) (hT : X.mg tn = none) (hv : bootBuiltins tn = some (.type T)) (he : JE X e me) (hx : KX X.K (fun C b => PySem.W.kitOne X.K (.ref C) (.type T) = some b ∧ ExcC X.K C) l)
    (hn : PySem.W.kitOne X.K (.type "NoneType") (.type T) = some false) (hg : Gl X "isinstance" := by rfl) (hgT : Gl X tn := by rfl) (hnn : tn ≠ "__name__" := by decide) (hdb : (tn == ("__debug__" : Str)) = false := by decide)
    (hst : starEach [e, .Name tn p2] X.env = (false, eval e X.env) :: starEach [.Name tn p2] X.env := by rfl) (hst2 : starEach [.Name tn p2] X.env = (false, eval (.Name tn p2) X.env) :: starEach [] X.env := by rfl) (hpl : (backTo pos (starEach [.Name tn p2] X.env)).any (·.1) = false := by rfl) :
    JE X (.Call (.Name "isinstance" p) [e, .Name tn p2] [] pos) (mIsE (kx l) (some false) me) :=
  je_isE hm he (pe_bltn (v := .ty T) hgT hT hv rfl hnn hdb) (.ty T) (fun c C b h1 h2 => hx.hx c C b h1 h2) (fun b hb => by cases hb; exact hn) hg hst hst2 hpl
theorem je_fldX (l : List (Str × Bool)) (he : JE X e me) (hx : KX X.K (fun C b => XfC X.K C ∧ PySem.W.findIn X.K (.ref C) f = some none) l) (hb : attributeBase e f X.env (eval e X.env) = eval e X.env := by rfl) : JE X (.Attribute e f pos) (mFld (kok l) f me) :=
  je_fld he (fun c C h1 h2 => hx.hok c C h1 h2) hb
end
section
variable {K : PySem.W.Frag} {C D : Addr} {b : Bool} {t : Value} {T : String}
theorem kitc_own (h1 : PySem.W.isClsIn K D = true) (h2 : PySem.W.typeIn K (.ref D) = some (.type "type")) (h3 : PySem.W.subIn K t (.ref D) = some b) : PySem.W.kitCls K t (.ref D) = some b := by
  have e : ((PySem.W.clsIn K D).isSome && PySem.W.typeIn K (.ref D) == some (.type "type")) = true := by
    have h1' : (PySem.W.clsIn K D).isSome = true := h1
    rw [h1', h2] <;> rfl
  show (if ((PySem.W.clsIn K D).isSome && PySem.W.typeIn K (.ref D) == some (.type "type")) = true then PySem.W.subIn K t (.ref D) else none) = some b
  rw [if_pos e]
  exact h3
theorem exm_own (h0 : PySem.W.subIn K (.ref D) (.type "BaseException") = some true) (h1 : PySem.W.isClsIn K D = true) (h2 : PySem.W.typeIn K (.ref D) = some (.type "type")) (h3 : PySem.W.subIn K (.ref C) (.ref D) = some b) : PySem.W.exmOne K (.ref C) (.ref D) = some b := by
  have e1 : (PySem.W.subIn K (.ref D) (.type "BaseException") == some true) = true := by rw [h0] <;> rfl
  show (if (PySem.W.subIn K (.ref D) (.type "BaseException") == some true) = true then PySem.W.kitCls K (.ref C) (.ref D) else none) = some b
  rw [if_pos e1]
  exact kitc_own h1 h2 h3
theorem kit_same : PySem.W.kitOne K t t = some true := by
  unfold PySem.W.kitOne
  rw [if_pos (beq_self_eq_true t)]
theorem kit_ne {c : Value} (hn : (t == c) = false) (h : PySem.W.kitCls K t c = some b) : PySem.W.kitOne K t c = some b := by
  unfold PySem.W.kitOne
  rw [hn, if_neg Bool.false_ne_true]
  exact h
theorem kitc_ty (hk : PySem.W.kitMeta T = true) (h : PySem.W.subIn K t (.type T) = some b) : PySem.W.kitCls K t (.type T) = some b := by
  show (if PySem.W.kitMeta T = true then PySem.W.subIn K t (.type T) else none) = some b
  rw [if_pos hk]
  exact h
end
end VL
namespace VL
open PySem PySem.Spec PyProof.Rows L2
variable [LT]
def mJoin : List ME → Str → Sl → Option (Str × Sl)
  | [], acc, S => some (acc, S)
  | m :: ms, acc, S => match m S with
    | some (.v (.str y), S1) => if acc.length + y.length ≤ 100000 then mJoin ms (acc ++ y) S1 else none
    | _ => none
def mFStr (ms : List ME) : ME := fun S => match mJoin ms Str.empty S with
  | some (z, S1) => some (.v (.str z), S1)
  | none => none
inductive SndEs (K : PySem.W.Frag) : List TE → List ME → Prop where
  | nil : SndEs K [] []
  | cons {t : TE} {m : ME} {ts : List TE} {ms : List ME} (h : SndE K t m) (r : SndEs K ts ms) : SndEs K (t :: ts) (m :: ms)
structure JFs (X : Cx) (es : List Expr) (ms : List ME) : Prop where
  ex : ∃ ts, PJ X es ts ∧ SndEs X.K ts ms
section
variable {X : Cx} {e : Expr} {es : List Expr} {me : ME} {ms : List ME} {pos p : Pos}
end
def mIsE2 (kx : Str → Option Bool) (me : ME) : ME := fun S => match me S with
  | some (.s (.ex c _), S1) => match kx c with
    | some b => some (.v (.bool b), S1)
    | none => none
  | _ => none
section
variable {X : Cx} {e e1 e2 : Expr} {me : ME} {pos p p1 : Pos} {v1 v2 : V} {u1 u2 : Value} {kx : Str → Option Bool}
end
section
variable {X : Cx} {e : Expr} {me : ME} {pos p p1 p2 p3 : Pos} {t1 t2 : Str}
end
section
variable {X : Cx} {e : Expr} {me : ME} {pos p2 : Pos}
theorem jt_isNO {j} (he : JE X e me) : JT X (.Compare e [.Is] [.Constant .none j p2] pos) (tVal (mIsN me)) := by
  obtain ⟨te, pe, se⟩ := he.ex
  refine ⟨_, pt_cmpR op_isN1 pe pe_non (nomark _), snd_tcmp ?_⟩
  intro P F0 qc F cell S σ H Q z S' R hz k
  unfold mIsN at hz
  split at hz
  · rename_i d S1 e1
    cases hz
    refine se P F0 qc F cell S σ H _ _ S' R e1 fun v F1 H1 f1 R1 q1 => ⟨rfl, ?_⟩
    rw [dx_non (F := F1) (H := H1) (.inl q1)]
    exact k _ F1 H1 f1 R1 (.bl _)
  · rename_i o S1 e1
    cases hz
    refine se P F0 qc F cell S σ H _ _ S' R e1 fun v F1 H1 f1 R1 q1 => ⟨rfl, ?_⟩
    have : decide (v = V.non) = false := by
      cases o with
      | ns l => obtain ⟨a, rfl, _⟩ := q1; simp
      | ex c fs => obtain ⟨a, _, _, _, rfl, _⟩ := q1; simp
      | ptr k a => cases (show v = V.ref a from q1); simp
      | fn a F0 => obtain ⟨rfl, _⟩ := q1; simp
      | glb x => obtain ⟨a, rfl, _⟩ := q1; simp
      | ob b fs hs raw => obtain ⟨a, _, _, _, rfl, _⟩ := q1; simp
    rw [this]
    exact k _ F1 H1 f1 R1 (.bl _)
  · cases hz
end
end VL
namespace VX
open PySem PySem.Spec PyProof.Rows L2
structure SrcZ (P : Program) (w : World) (K : PySem.W.Frag) (xs : List V) (G : Hp → Prop) (a it : Addr) (St : Nat → Heap → Prop) : Prop where
  obj : ∀ i h, St i h → ∃ o, h.get? it = some o ∧ ∀ v, o.data ≠ .cell v
  keep : ∀ i h h', St i h → (∀ o, h.get? it = some o → h'.get? it = some o) → St i h'
  draw : ∀ (X : Cx) (pins : List (Addr × Obj)) (σ : L2.St) (H : Hp) (s : Shared), X.prog = P → X.w = w → X.K = K → X.A.handled = none → Inv X pins σ H s → G H →
    ∃ PP ST, Draws X.prog X.w X.A.in1 it [it, a] xs.length PP ST ∧ (∀ i, St i s.heap → ST i s.heap) ∧ (∀ i h', ST i h' → St i h') ∧ ∀ i u, PP i u → ∃ x, xs[i]? = some x ∧ RelV x u
section
variable {P : Program} {w : World} {K : PySem.W.Frag} {xs ys us : List V} {G1 G2 G3 : Hp → Prop} {a1 a2 a3 z TI TO i1 i2 i3 : Addr} {St1 St2 St3 : Nat → Heap → Prop}
end
inductive Sqz (K : PySem.W.Frag) (H : Hp) (a : Addr) (xs : List V) (G : Hp → Prop) : Prop
  | l (h : SqL K H a xs) (e : G = fun H => SqL K H a xs)
  | t (h : SqT K H a xs) (e : G = fun H => SqT K H a xs)
structure Beg (X : Cx) (H : Hp) (s : Shared) (a : Addr) (xs : List V) (G : Hp → Prop) where
  lt : a < s.heap.objs.size
  g : G H
  ex : ∃ (o : Obj) (HH : Heap → Prop), Begins (.ref a) o HH ∧ HH s.heap ∧ ∀ it, a ≠ it → ∃ St, SrcZ X.prog X.w X.K xs G a it St ∧ ∀ h' : Heap, h'.get? it = some o → St 0 h'
section
variable {X : Cx} {e e2 e3 : Expr} {ta : TA} {p pos tpos : Pos} {elts : List Expr} {kk : Nat}
end
end VX
namespace VX
open PySem PySem.Spec PyProof.Rows L2
section
variable {prog : Program} {w : World} {A : Around} {E : Value → Shared → Prop} {s : Shared} {l : Addr} {its : List Value} {ns : List Int} {Q : Value → Shared → Prop}
end
section
variable {X : Cx}
end
abbrev TPat := V → Hp → (Bool → Hp → Prop) → Prop
structure PPat (X : Cx) (p : Pattern) (t : TPat) : Prop where
  run : ∀ (pins : List (Addr × Obj)) (s : Shared) (σ : L2.St) (H : Hp) (v : V) (u : Value) (Q : Bool → Hp → Prop), Inv X pins σ H s → RelV v u → t v H Q →
    wpAny (model X.prog X.w) X.A (matchPattern p X.env u) (fun r s1 => (r = none ∨ r = some []) ∧ ∃ H1, Inv X pins σ H1 s1 ∧ Q r.isSome H1) X.xe s
structure PFirst (X : Cx) (ps : List Pattern) (t : TPat) : Prop where
  run : ∀ (pins : List (Addr × Obj)) (s : Shared) (σ : L2.St) (H : Hp) (v : V) (u : Value) (Q : Bool → Hp → Prop), Inv X pins σ H s → RelV v u → t v H Q →
    wpAny (model X.prog X.w) X.A (matchFirst ps X.env u) (fun r s1 => (r = none ∨ r = some []) ∧ ∃ H1, Inv X pins σ H1 s1 ∧ Q r.isSome H1) X.xe s
structure PMC (X : Cx) (cs : List MatchCase) (t : V → TS) : Prop where
  run : ∀ (pins : List (Addr × Obj)) (s : Shared) (σ : L2.St) (H : Hp) (v : V) (u : Value) (D : Ends) (first : Bool), Inv X pins σ H s → RelV v u → t v D σ H → wpAny (model X.prog X.w) X.A (matchCases cs X.env u first) (SP X pins D) X.xe s
section
variable {X : Cx} {r : R2} {z : Str} {pos p1 p2 : Pos} {p : Pattern} {ps : List Pattern} {t tp : TPat} {cs : List MatchCase} {tr : V → TS} {body : List Stmt} {tb : TS} {e : Expr} {te : TE}
end
end VX
namespace VL
open PySem PySem.Spec PyProof.Rows L2
variable [LT]
section
variable {K : PySem.W.Frag} {F : Hp} {d : PyData} {ds : List PyData} {v : V}
end
section
variable {X : Cx} {e e2 e3 : Expr} {mas : MA} {pos p tpos : Pos} {elts : List Expr} {kk : Nat}
end
section
variable {X : Cx} {K : PySem.W.Frag} {e : Expr} {mas : MA} {pos p : Pos}
end
section
variable {X : Cx} {e : Expr} {es : List Expr} {me : ME} {mas : MA} {p : Pos}
end
section
variable {X : Cx} {K : PySem.W.Frag} {o : Expr} {mo : ME} {apos pos : Pos}
end
def mPat (d : PyData) : List Str → Option Bool
  | [] => some false
  | z :: zs => match eqD d (.str z) with
    | some true => some true
    | some false => mPat d zs
    | none => none
def mCases (d : PyData) : List (Option (List Str) × MS) → MS
  | [] => fun S => some (.nx, S)
  | (none, m) :: _ => m
  | (some zs, m) :: r => fun S => match mPat d zs with
    | some true => m S
    | some false => mCases d r S
    | none => none
def SndPat (K : PySem.W.Frag) (t : VX.TPat) (zs : List Str) : Prop :=
  ∀ (F H : Hp) (v : V) (d : PyData) (Q : Bool → Hp → Prop) (b : Bool), Same F H → DV K F v d → mPat d zs = some b → (∀ F' H', Ext F H F' H' → Q b H') → t v H Q
structure JPs (X : Cx) (ps : List Pattern) (zs : List Str) : Prop where
  ex : ∃ t, VX.PFirst X ps t ∧ SndPat X.K t zs
structure JMC (X : Cx) (W : WX) (cs : List MatchCase) (ms : List (Option (List Str) × MS)) : Prop where
  ex : ∃ t, VX.PMC X cs t ∧ ∀ (P F0 : Hp) (qc : Nat → Addr) (F : Hp) (cell : Nat → Addr) (S : Sl) (σ : L2.St) (H : Hp) (D : Ends) (fl : Fl) (S' : Sl) (v : V) (d : PyData), RC X.K P F0 qc F cell S σ H → DV X.K F v d → mCases d ms S = some (fl, S') →
    (∀ F' cell' σ' H', Same F F' → RC X.K P F0 qc F' cell' S' σ' H' → FlK X.K W F' cell' fl D σ' H') → t v D σ H
section
variable {X : Cx} {W : WX} {k : Nat} {z : Str} {zs : List Str} {ps : List Pattern} {pos p1 p2 p3 : Pos} {cs : List MatchCase} {ms : List (Option (List Str) × MS)} {body : List Stmt} {mb : MS} {e : Expr} {me : ME}
end
end VL
namespace VL
open PySem PySem.Spec PyProof.Rows L2
variable [LT]
def mPairs : List (Str × ME) → Sl → Option (List PyData × Sl)
  | [], S => some ([], S)
  | (_, m) :: r, S => match m S with
    | some (.v d, S1) => match mPairs r S1 with
      | some (ds, S2) => some (d :: ds, S2)
      | none => none
    | _ => none
structure JPairs (X : Cx) (pos : Pos) (ks : List (Option Expr)) (vs : List Expr) (ms : List (Str × ME)) : Prop where
  ex : ks.all (·.isSome) = true ∧ ks.length = vs.length ∧ ks.length = ms.length ∧ ∃ ts, PPs X pos ks vs ts ∧ ∀ (P F0 : Hp) (qc : Nat → Addr) (F : Hp) (cell : Nat → Addr) (S : Sl) (σ : L2.St) (H : Hp) (Q : List (V × V) → Hp → Prop) (ds : List PyData) (S' : Sl), RC X.K P F0 qc F cell S σ H → mPairs ms S = some (ds, S') →
    (∀ vs F' H', Same F F' → RC X.K P F0 qc F' cell S' σ H' → DVs X.K F' vs ds → Q ((ms.map fun m => V.str m.1).zip vs) H') → tPairs ts σ H Q
section
variable {X : Cx} {pos p1 : Pos} {z : Str} {ks : List (Option Expr)} {vs : List Expr} {ms : List (Str × ME)} {e : Expr} {me : ME}
end
section
variable {K : PySem.W.Frag} {F : Hp}
end
section
variable {X : Cx} {o e f : Expr} {md me mx : ME} {apos cpos : Pos} {k : Nat}
end
end VL
namespace VL
open PySem PySem.Spec PyProof.Rows L2
variable [LT]
inductive Itm where
  | d (x : PyData) | p (k : Nat)
inductive Node where
  | lst (its : List Itm) | obj (b : Str) (fs : List (Str × Itm))
structure Ent where
  a : Addr
  nd : Node
abbrev Mem := List Ent
def ItR (K : PySem.W.Frag) (F : Hp) (M : Mem) : Itm → V → Prop
  | .d x, v => DV K F v x
  | .p k, v => ∃ e, M[k]? = some e ∧ v = .ref e.a
def ItsR (K : PySem.W.Frag) (F : Hp) (M : Mem) : List Itm → List V → Prop
  | [], vs => vs = []
  | i :: is, vs => ∃ v ws, vs = v :: ws ∧ ItR K F M i v ∧ ItsR K F M is ws
def NodeV (K : PySem.W.Frag) (F : Hp) (M : Mem) : Node → HO → Prop
  | .lst its, o => ∃ vs, o = .lst vs ∧ ItsR K F M its vs
  | .obj b fs, o => ∃ C dx vs, PySem.W.nsIn K mainGlobals b = some (some (.ref C)) ∧ o = .ins C dx ((fs.map (·.1)).zip vs) ∧ ItsR K F M (fs.map (·.2)) vs
def NodeOK (K : PySem.W.Frag) (F : Hp) (M : Mem) (P : Hp) (e : Ent) : Prop := ∃ o, P e.a = some o ∧ NodeV K F M e.nd o
structure MOk (K : PySem.W.Frag) (P P' F0 F : Hp) (M : Mem) : Prop where
  sub : Same P P'
  fresh : ∀ (k : Nat) (e : Ent), M[k]? = some e → P e.a = none ∧ F0 e.a = none
  inj : ∀ (j k : Nat) (e f : Ent), M[j]? = some e → M[k]? = some f → e.a = f.a → j = k
  node : ∀ (k : Nat) (e : Ent), M[k]? = some e → NodeOK K F M P' e
def RM (K : PySem.W.Frag) (P F0 : Hp) (qc : Nat → Addr) (F : Hp) (cell : Nat → Addr) (S : Sl) (M : Mem) (σ : L2.St) (H : Hp) : Prop :=
  ∃ P', MOk K P P' F0 F M ∧ RC K P' F0 qc F cell S σ H
section
variable {K : PySem.W.Frag} {P P' F0 F F' : Hp} {qc cell : Nat → Addr} {S : Sl} {M M' : Mem} {σ : L2.St} {H H' : Hp} {p : Addr} {its : List Itm} {vs : List V}
theorem ItR.mono (e : Same F F') (hM : ∀ (k : Nat) (x : Ent), M[k]? = some x → ∃ y, M'[k]? = some y ∧ y.a = x.a) : ∀ {i : Itm} {v : V}, ItR K F M i v → ItR K F' M' i v
  | .d x, v, h => DV.mono e h
  | .p k, v, ⟨x, h1, h2⟩ => by
    obtain ⟨y, h3, h4⟩ := hM k x h1
    exact ⟨y, h3, by rw [h2, h4]⟩
theorem ItsR.mono (e : Same F F') (hM : ∀ (k : Nat) (x : Ent), M[k]? = some x → ∃ y, M'[k]? = some y ∧ y.a = x.a) : ∀ {is : List Itm} {vs : List V}, ItsR K F M is vs → ItsR K F' M' is vs
  | [], vs, h => h
  | i :: is, vs, ⟨v, ws, h1, h2, h3⟩ => ⟨v, ws, h1, h2.mono e hM, ItsR.mono e hM h3⟩
theorem ItsR.length : ∀ {is : List Itm} {vs : List V}, ItsR K F M is vs → vs.length = is.length
  | [], vs, h => by rw [show vs = [] from h]; rfl
  | i :: is, vs, ⟨v, ws, h1, h2, h3⟩ => by rw [h1, List.length_cons, List.length_cons, ItsR.length h3]
theorem ItsR.append : ∀ {is js : List Itm} {vs ws : List V}, ItsR K F M is vs → ItsR K F M js ws → ItsR K F M (is ++ js) (vs ++ ws)
  | [], js, vs, ws, h, h2 => by rw [show vs = [] from h]; exact h2
  | i :: is, js, vs, ws, ⟨v, us, h1, h3, h4⟩, h2 => ⟨v, us ++ ws, by rw [h1]; rfl, h3, ItsR.append h4 h2⟩
theorem ItsR.get : ∀ {is : List Itm} {vs : List V} {j : Nat} {i : Itm}, ItsR K F M is vs → is[j]? = some i → ∃ v, vs[j]? = some v ∧ ItR K F M i v
  | [], vs, j, i, h, e => by simp at e
  | i0 :: is, vs, 0, i, ⟨v, us, h1, h3, h4⟩, e => by
    simp at e
    subst e
    exact ⟨v, by rw [h1]; rfl, h3⟩
  | i0 :: is, vs, j + 1, i, ⟨v, us, h1, h3, h4⟩, e => by
    obtain ⟨u, h5, h6⟩ := ItsR.get h4 (j := j) (i := i) (by simpa using e)
    exact ⟨u, by rw [h1]; simpa using h5, h6⟩
theorem ItsR.set {i : Itm} {v : V} (h : ItR K F M i v) : ∀ {is : List Itm} {vs : List V} (j : Nat), ItsR K F M is vs → ItsR K F M (is.set j i) (vs.set j v)
  | [], vs, j, e => by rw [show vs = [] from e]; rfl
  | i0 :: is, vs, 0, ⟨w, us, h1, h3, h4⟩ => ⟨v, us, by rw [h1]; rfl, h, h4⟩
  | i0 :: is, vs, j + 1, ⟨w, us, h1, h3, h4⟩ => ⟨w, us.set j v, by rw [h1]; rfl, h3, ItsR.set h j h4⟩
theorem ItsR.take : ∀ {is : List Itm} {vs : List V} (n : Nat), ItsR K F M is vs → ItsR K F M (is.take n) (vs.take n)
  | [], vs, n, e => by rw [show vs = [] from e]; simp; rfl
  | i0 :: is, vs, 0, h => rfl
  | i0 :: is, vs, n + 1, ⟨w, us, h1, h3, h4⟩ => ⟨w, us.take n, by rw [h1]; rfl, h3, ItsR.take n h4⟩
theorem ItsR.drop : ∀ {is : List Itm} {vs : List V} (n : Nat), ItsR K F M is vs → ItsR K F M (is.drop n) (vs.drop n)
  | [], vs, n, e => by rw [show vs = [] from e]; simp; rfl
  | i0 :: is, vs, 0, h => h
  | i0 :: is, vs, n + 1, ⟨w, us, h1, h3, h4⟩ => by rw [h1]; exact ItsR.drop n h4
theorem ItsR.data : ∀ {ds : List PyData} {vs : List V}, DVs K F vs ds → ItsR K F M (ds.map .d) vs
  | _, _, .nil => rfl
  | _, _, .cons h t => ⟨_, _, rfl, h, ItsR.data t⟩
def SameA (M M' : Mem) : Prop := ∀ (k : Nat) (x : Ent), M[k]? = some x → ∃ y, M'[k]? = some y ∧ y.a = x.a
theorem SameA.refl (M : Mem) : SameA M M := fun k x h => ⟨x, h, rfl⟩
theorem NodeV.mono {nd : Node} {o : HO} (f : Same F F') (hM : SameA M M') (h : NodeV K F M nd o) : NodeV K F' M' nd o := by
  cases nd with
  | lst its =>
    obtain ⟨vs, h1, h2⟩ := h
    exact ⟨vs, h1, h2.mono f hM⟩
  | obj b fs =>
    obtain ⟨C, dx, vs, h1, h2, h3⟩ := h
    exact ⟨C, dx, vs, h1, h2, h3.mono f hM⟩
theorem NodeV.nt {nd : Node} {o : HO} (h : NodeV K F M nd o) : ∀ ps, o ≠ .tbl ps := by
  intro ps e
  cases nd with
  | lst its =>
    obtain ⟨vs, h1, _⟩ := h
    rw [h1] at e
    cases e
  | obj b fs =>
    obtain ⟨C, dx, vs, _, h1, _⟩ := h
    rw [h1] at e
    cases e
theorem NodeV.nx {nd : Node} {o : HO} (h : NodeV K F M nd o) : ∀ f, o ≠ .ext f := by
  intro ps e
  cases nd with
  | lst its =>
    obtain ⟨vs, h1, _⟩ := h
    rw [h1] at e
    cases e
  | obj b fs =>
    obtain ⟨C, dx, vs, _, h1, _⟩ := h
    rw [h1] at e
    cases e
theorem NodeOK.mono {e : Ent} (f : Same F F') (hM : SameA M M') (h : NodeOK K F M P e) (hp : ∀ o, P e.a = some o → P' e.a = some o) : NodeOK K F' M' P' e := by
  obtain ⟨o, h1, h2⟩ := h
  exact ⟨o, hp o h1, h2.mono f hM⟩
theorem MOk.mono (m : MOk K P P' F0 F M) (f : Same F F') : MOk K P P' F0 F' M := ⟨m.sub, m.fresh, m.inj, fun k e h => (m.node k e h).mono f (SameA.refl M) fun _ x => x⟩
theorem MOk.at (m : MOk K P P' F0 F M) {k : Nat} {e : Ent} (h : M[k]? = some e) : ∃ o, P' e.a = some o := by
  obtain ⟨o, h1, _⟩ := m.node k e h
  exact ⟨o, h1⟩
theorem MOk.lst (m : MOk K P P' F0 F M) {k : Nat} {e : Ent} {its : List Itm} (h : M[k]? = some e) (hn : e.nd = .lst its) : ∃ vs, P' e.a = some (.lst vs) ∧ ItsR K F M its vs := by
  obtain ⟨o, h1, h2⟩ := m.node k e h
  rw [hn] at h2
  obtain ⟨vs, rfl, h3⟩ := h2
  exact ⟨vs, h1, h3⟩
theorem MOk.obj (m : MOk K P P' F0 F M) {k : Nat} {e : Ent} {b : Str} {fs : List (Str × Itm)} (h : M[k]? = some e) (hn : e.nd = .obj b fs) : ∃ C dx vs, PySem.W.nsIn K mainGlobals b = some (some (.ref C)) ∧ P' e.a = some (.ins C dx ((fs.map (·.1)).zip vs)) ∧ ItsR K F M (fs.map (·.2)) vs := by
  obtain ⟨o, h1, h2⟩ := m.node k e h
  rw [hn] at h2
  obtain ⟨C, dx, vs, h3, rfl, h4⟩ := h2
  exact ⟨C, dx, vs, h3, h1, h4⟩
theorem RM.nil (R : RC K P F0 qc F cell S σ H) : RM K P F0 qc F cell S [] σ H := ⟨P, ⟨Same.refl _, fun k e h => by simp at h, fun j k e f h => by simp at h, fun k e h => by simp at h⟩, R⟩
theorem RC.sub (R : RC K P' F0 qc F cell S σ H) (s : Same P P') : RC K P F0 qc F cell S σ H where
  len := R.len
  f0 := R.f0
  fh := R.fh
  ph := s.trans R.ph
  fr := fun b z => by
    rcases R.fr b z with z | z
    · exact .inl z
    · exact .inr (s.free z)
  vl := R.vl
  sc := R.sc
  cl := fun i x xs h hx => by
    obtain ⟨h1, h2, h3, h4⟩ := R.cl i x xs h hx
    exact ⟨h1, h2, s.free h3, h4⟩
  qs := R.qs
  inj := R.inj
  np := fun b ps z => R.np b ps (s _ _ z)
  nf := R.nf
  tb := R.tb
theorem upd_id {P : Hp} {a : Addr} {o : HO} (h : P a = some o) : upd P a o = P := by
  funext b
  by_cases q : b = a
  · subst q
    rw [upd_same, h]
  · rw [upd_ne q]
theorem RM.changeN {nd : Node} {o : HO} (m : MOk K P P' F0 F M) (R : RC K P' F0 qc F cell S σ H) {k : Nat} {e : Ent} (hk : M[k]? = some e) (hv : NodeV K F M nd o) : RM K P F0 qc F cell S (M.set k ⟨e.a, nd⟩) σ (upd H e.a o) := by
  obtain ⟨o0, ho, hv0⟩ := m.node k e hk
  obtain ⟨g1, g2⟩ := m.fresh k e hk
  have hlt := (List.getElem?_eq_some_iff.mp hk).1
  have sA : SameA M (M.set k ⟨e.a, nd⟩) := fun j x h => by
    by_cases q : k = j
    · subst q
      rw [h] at hk
      cases hk
      exact ⟨⟨e.a, nd⟩, by rw [List.getElem?_set_self hlt], rfl⟩
    · exact ⟨x, by rw [List.getElem?_set_ne q]; exact h, rfl⟩
  have look : ∀ {j : Nat} {f : Ent}, (M.set k ⟨e.a, nd⟩)[j]? = some f → (j = k ∧ f = ⟨e.a, nd⟩) ∨ (j ≠ k ∧ M[j]? = some f) := fun {j f} h => by
    rcases get_set h with ⟨h1, h2, _⟩ | ⟨h1, h2⟩
    · exact .inl ⟨h1.symm, h2⟩
    · exact .inr ⟨fun q => h1 q.symm, h2⟩
  have R2 : RC K (upd P' e.a o) F0 qc F cell S σ (upd H e.a o) := RC.relay (o := o0) (by rw [upd_id ho]; exact R) g2 hv0.nx hv.nt
  refine ⟨upd P' e.a o, ⟨fun b u h => ?_, fun j f h => ?_, fun i j x y h1 h2 h3 => ?_, fun j f h => ?_⟩, R2⟩
  · have : b ≠ e.a := fun q => by rw [q, g1] at h; cases h
    rw [upd_ne this]
    exact m.sub _ _ h
  · rcases look h with ⟨_, rfl⟩ | ⟨_, h⟩
    · exact ⟨g1, g2⟩
    · exact m.fresh j f h
  · rcases look h1 with ⟨q1, rfl⟩ | ⟨q1, h1⟩
    · rcases look h2 with ⟨q2, rfl⟩ | ⟨q2, h2⟩
      · rw [q1, q2]
      · exact q1.trans (m.inj k j e y hk h2 h3)
    · rcases look h2 with ⟨q2, rfl⟩ | ⟨q2, h2⟩
      · exact (m.inj i k x e h1 hk h3).trans q2.symm
      · exact m.inj i j x y h1 h2 h3
  · rcases look h with ⟨_, rfl⟩ | ⟨q, h⟩
    · exact ⟨o, upd_same, hv.mono (Same.refl _) sA⟩
    · refine (m.node j f h).mono (Same.refl _) sA fun u hu => ?_
      have : f.a ≠ e.a := fun z => q (m.inj j k f e h hk z)
      rw [upd_ne this]
      exact hu
theorem RM.change (m : MOk K P P' F0 F M) (R : RC K P' F0 qc F cell S σ H) {k : Nat} {e : Ent} (hk : M[k]? = some e) (hv : ItsR K F M its vs) : RM K P F0 qc F cell S (M.set k ⟨e.a, .lst its⟩) σ (upd H e.a (.lst vs)) := RM.changeN m R hk ⟨vs, rfl, hv⟩
def dataI (f : Nat → Option PyData) : Itm → Option PyData
  | .d x => some x
  | .p k => f k
def dataIs (f : Nat → Option PyData) : List Itm → Option (List PyData)
  | [] => some []
  | i :: is => match dataI f i, dataIs f is with
    | some d, some ds => some (d :: ds)
    | _, _ => none
def dataOf (M : Mem) : Nat → Nat → Option PyData
  | 0, _ => none
  | n + 1, k => match M[k]? with
    | some ⟨_, .lst its⟩ => (dataIs (dataOf M n) its).map .list
    | _ => none
def tellR (M : Mem) : SV → Option PyData
  | .v d => some d
  | .s (.ptr k a) => match M[k]? with
    | some e => if e.a = a then dataOf M (M.length + 1) k else none
    | none => none
  | _ => none
open Classical in
theorem RM.tell (m : MOk K P P' F0 F M) (R : RC K P' F0 qc F cell S σ H) : ∃ F', Same F F' ∧ RC K P F0 qc F' cell S σ H ∧ ∀ (r : SV) (v : V) (d : PyData), VR K F cell r v → tellR M r = some d → DV K F' v d := by
  have isM : ∀ b, (∃ (k : Nat) (e : Ent), M[k]? = some e ∧ e.a = b) → ∃ o, P' b = some o ∧ H b = some o ∧ P b = none ∧ F0 b = none := fun b ⟨k, e, h1, h2⟩ => by
    obtain ⟨o, ho⟩ := m.at h1
    obtain ⟨g1, g2⟩ := m.fresh k e h1
    rw [h2] at ho g1 g2
    exact ⟨o, ho, R.ph _ _ ho, g1, g2⟩
  let F' : Hp := fun b => if ∃ (k : Nat) (e : Ent), M[k]? = some e ∧ e.a = b then H b else F b
  have atM : ∀ {k : Nat} {e : Ent}, M[k]? = some e → F' e.a = H e.a := fun {k e} h => if_pos ⟨k, e, h, rfl⟩
  have untold : ∀ {b : Addr}, (∃ (k : Nat) (e : Ent), M[k]? = some e ∧ e.a = b) → F b = none := fun {b} h => by
    obtain ⟨o, g1, g2, g3, g4⟩ := isM b h
    cases q : F b with
    | none => rfl
    | some u =>
      rcases R.fr b (by rw [q]; simp) with z | z
      · exact absurd g4 z
      · rw [g1] at z; cases z
  have sF : Same F F' := fun b o h => by
    show (if _ then _ else _) = _
    rw [if_neg]
    · exact h
    · intro q
      rw [untold q] at h
      cases h
  have R0 := R.sub m.sub
  refine ⟨F', sF, ⟨R.len, R.f0.trans sF, fun b o h => ?_, m.sub.trans R.ph, fun b z => ?_, fun i d h => ?_, fun i o h => ?_, fun i x xs h hx => ?_, R.qs, R.inj, R0.np, fun b ps z => ?_, R.tb⟩, fun r v d hr hd => ?_⟩
  · by_cases q : ∃ (k : Nat) (e : Ent), M[k]? = some e ∧ e.a = b
    · replace h : (if _ then _ else _) = _ := h
      rw [if_pos q] at h
      exact h
    · replace h : (if _ then _ else _) = _ := h
      rw [if_neg q] at h
      exact R.fh _ _ h
  · by_cases q : ∃ (k : Nat) (e : Ent), M[k]? = some e ∧ e.a = b
    · obtain ⟨o, g1, g2, g3, g4⟩ := isM b q
      exact .inr g3
    · have h : F' b = F b := if_neg q
      rw [h] at z
      exact R0.fr b z
  · obtain ⟨v, h1, h2⟩ := R.vl i d h
    exact ⟨v, h1, h2.mono sF⟩
  · obtain ⟨v, h1, h2⟩ := R.sc i o h
    exact ⟨v, h1, h2.mono sF⟩
  · obtain ⟨h1, h2, h3, h4⟩ := R.cl i x xs h hx
    refine ⟨h1, ?_, m.sub.free h3, h4.step sF fun o q _ => q⟩
    show (if _ then _ else _) = _
    rw [if_neg]
    · exact h2
    · intro q
      obtain ⟨o, g1, _⟩ := isM _ q
      rw [h3] at g1
      cases g1
  · by_cases q : ∃ (k : Nat) (e : Ent), M[k]? = some e ∧ e.a = b
    · obtain ⟨o, g1, g2, g3, g4⟩ := isM b q
      replace z : (if _ then _ else _) = _ := z
      rw [if_pos q, g2] at z
      exact R.np b ps (by rw [g1, z])
    · replace z : (if _ then _ else _) = _ := z
      rw [if_neg q] at z
      exact R.nf b ps z
  · have key : ∀ (n k : Nat) (d : PyData) (e : Ent), dataOf M n k = some d → M[k]? = some e → DV K F' (.ref e.a) d := by
      intro n
      induction n with
      | zero => intro k d e h; cases h
      | succ n ih =>
        intro k d e h hk
        unfold dataOf at h
        obtain ⟨a, nd⟩ := e
        cases nd with
        | obj b fs =>
          rw [hk] at h
          cases h
        | lst its =>
          rw [hk] at h
          simp only at h
          obtain ⟨ds, h1, rfl⟩ := Option.map_eq_some_iff.mp h
          obtain ⟨vs, h2, h3⟩ := m.lst hk rfl
          have hits : ∀ (its : List Itm) (vs : List V) (ds : List PyData), ItsR K F M its vs → dataIs (dataOf M n) its = some ds → DVs K F' vs ds := by
            intro its
            induction its with
            | nil =>
              intro vs ds hv hd
              cases hd
              rw [show vs = [] from hv]
              exact .nil
            | cons i its ih2 =>
              intro vs ds hv hd
              obtain ⟨v, ws, rfl, hi, hr⟩ := hv
              unfold dataIs at hd
              split at hd
              · rename_i d0 ds0 e1 e2
                cases hd
                refine .cons ?_ (ih2 ws ds0 hr e2)
                cases i with
                | d x =>
                  cases e1
                  exact DV.mono sF hi
                | p j =>
                  obtain ⟨f, g1, rfl⟩ := hi
                  exact ih j d0 f e1 g1
              · cases hd
          refine .lst ?_ (hits its vs ds h3 h1)
          rw [atM hk]
          exact R.ph _ _ h2
    cases r with
    | v x =>
      cases hd
      exact DV.mono sF hr
    | p i => cases hd
    | s o =>
      cases o with
      | ptr k a =>
        have hd : (match M[k]? with
          | some e => if e.a = a then dataOf M (M.length + 1) k else none
          | none => none) = some d := hd
        cases he : M[k]? with
        | none => rw [he] at hd; cases hd
        | some e =>
          rw [he] at hd
          replace hd : (if e.a = a then dataOf M (M.length + 1) k else none) = some d := hd
          split at hd
          · rename_i ha
            have : v = .ref a := hr
            rw [this, ← ha]
            exact key _ k d e hd he
          · cases hd
      | ns l => cases hd
      | ex c fs => cases hd
      | fn a F0 => cases hd
      | glb x => cases hd
      | ob b fs hs raw => cases hd
end
end VL
namespace VL
open PySem PySem.Spec PyProof.Rows L2
variable [LT]
abbrev UM (α : Type) := Sl → Mem → (α → Sl → Mem → Prop) → Prop
abbrev UE := UM SV
abbrev UT := UM Bool
abbrev UA := UM (List SV)
abbrev US := UM Fl
def UMono {α : Type} (u : UM α) : Prop := ∀ S M Q Q', (∀ a S' M', Q a S' M' → Q' a S' M') → u S M Q → u S M Q'
def SndUE (K : PySem.W.Frag) (t : TE) (u : UE) : Prop :=
  ∀ (P F0 : Hp) (qc : Nat → Addr) (F : Hp) (cell : Nat → Addr) (S : Sl) (M : Mem) (σ : L2.St) (H : Hp) (Q : VK), RM K P F0 qc F cell S M σ H →
    u S M (fun r S' M' => ∀ v F' H', Same F F' → RM K P F0 qc F' cell S' M' σ H' → VR K F' cell r v → Q v H') → t σ H Q
def SndUT (K : PySem.W.Frag) (t : TT) (u : UT) : Prop :=
  ∀ (P F0 : Hp) (qc : Nat → Addr) (F : Hp) (cell : Nat → Addr) (S : Sl) (M : Mem) (σ : L2.St) (H : Hp) (Q : Bool → Hp → Prop), RM K P F0 qc F cell S M σ H →
    u S M (fun r S' M' => ∀ F' H', Same F F' → RM K P F0 qc F' cell S' M' σ H' → Q r H') → t σ H Q
def SndUA (K : PySem.W.Frag) (t : TA) (u : UA) : Prop :=
  ∀ (P F0 : Hp) (qc : Nat → Addr) (F : Hp) (cell : Nat → Addr) (S : Sl) (M : Mem) (σ : L2.St) (H : Hp) (Q : List V → Hp → Prop), RM K P F0 qc F cell S M σ H →
    u S M (fun rs S' M' => ∀ vs F' H', Same F F' → RM K P F0 qc F' cell S' M' σ H' → VRs K F' cell rs vs → Q vs H') → t σ H Q
def SndUS (K : PySem.W.Frag) (W : WX) (t : TS) (u : US) : Prop :=
  ∀ (P F0 : Hp) (qc : Nat → Addr) (F : Hp) (cell : Nat → Addr) (S : Sl) (M : Mem) (σ : L2.St) (H : Hp) (D : Ends), RM K P F0 qc F cell S M σ H →
    u S M (fun fl S' M' => ∀ F' cell' σ' H', Same F F' → RM K P F0 qc F' cell' S' M' σ' H' → FlK K W F' cell' fl D σ' H') → t D σ H
structure UEJ (X : Cx) (e : Expr) (u : UE) : Prop where
  mono : UMono u
  ex : ∃ t, PE X e t ∧ SndUE X.K t u
structure UTJ (X : Cx) (e : Expr) (u : UT) : Prop where
  mono : UMono u
  ex : ∃ t, PT X e t ∧ SndUT X.K t u
structure UWJ (X : Cx) (e : Expr) (u : UT) : Prop where
  mono : UMono u
  ex : ∃ t, PW X e t ∧ SndUT X.K t u
structure UAJ (X : Cx) (es : List Expr) (u : UA) : Prop where
  mono : UMono u
  ex : ∃ t, PA X es t ∧ SndUA X.K t u
structure USJ (X : Cx) (W : WX) (st : Stmt) (u : US) : Prop where
  mono : UMono u
  ex : ∃ t, PS X st t ∧ SndUS X.K W t u
structure UBJ (X : Cx) (W : WX) (st : List Stmt) (u : US) : Prop where
  mono : UMono u
  ex : ∃ t, PSs X st t ∧ SndUS X.K W t u
section
variable {X : Cx} {W : WX} {e a b c : Expr} {es rest : List Expr} {st : Stmt} {sts bs : List Stmt} {pos pos' : Pos}
variable {ua ub : UE} {va vb : UT}
def IsLst (M : Mem) (r : SV) (k : Nat) (a : Addr) (its : List Itm) : Prop := r = .s (.ptr k a) ∧ M[k]? = some ⟨a, .lst its⟩
theorem RM.lst {K : PySem.W.Frag} {P P' F0 F : Hp} {qc cell : Nat → Addr} {S : Sl} {M : Mem} {σ : L2.St} {H : Hp} {r : SV} {v : V} {k : Nat} {ad : Addr} {its : List Itm} (mo : MOk K P P' F0 F M) (R : RC K P' F0 qc F cell S σ H) (q : VR K F cell r v) (h : IsLst M r k ad its) :
    v = .ref ad ∧ ∃ vs, H ad = some (.lst vs) ∧ ItsR K F M its vs := by
  obtain ⟨rfl, h2⟩ := h
  obtain ⟨vs, g1, g2⟩ := mo.lst h2 rfl
  exact ⟨q, vs, R.ph _ _ g1, g2⟩
end
section
variable {P : Program} {w : World} {K : PySem.W.Frag} {mg : Str → Option Value} {base : Heap}
end
end VL
namespace VX
open PySem PySem.Spec PyProof.Rows L2
section
variable {prog : Program} {w : World} {A : Around} {E : Value → Shared → Prop} {s : Shared} {l : Addr} {its : List Value} {ns : List Int} {Q : Value → Shared → Prop}
end
section
variable {X : Cx}
end
end VX
namespace VL
open PySem PySem.Spec PyProof.Rows L2
variable [LT]
section
variable {X : Cx} {K : PySem.W.Frag} {e a b : Expr} {mas : MA} {pos p : Pos} {ua ub : UE}
end
end VL
namespace VL
open PySem PySem.Spec PyProof.Rows L2
theorem ix_0 (n : Nat) : ixN (n + 1) 0 = some 0 := by unfold ixN; rw [if_pos (by omega), if_pos (by omega)]; rfl
theorem ix_int {n : Nat} {i : Int} (h0 : 0 ≤ i) (h : i < n) : ixN n i = some i.toNat := by unfold ixN; rw [if_pos h0, if_pos h]
theorem ltD_int (i j : Int) : ltD (.int i) (.int j) = some (.bool (decide (i < j))) := rfl
theorem leD_int (i j : Int) : leD (.int i) (.int j) = some (.bool (decide (i ≤ j))) := rfl
theorem gtD_int (i j : Int) : gtD (.int i) (.int j) = some (.bool (decide (j < i))) := rfl
theorem geD_int (i j : Int) : geD (.int i) (.int j) = some (.bool (decide (j ≤ i))) := rfl
theorem addD_int (i j : Int) : addD (.int i) (.int j) = some (.int (i + j)) := rfl
theorem addD_str {a b : Str} (h : a.length + b.length ≤ 100000) : addD (.str a) (.str b) = some (.str (a ++ b)) := if_pos h
theorem addD_list {a b : List PyData} (h : a.length + b.length ≤ 100000) : addD (.list a) (.list b) = some (.list (a ++ b)) := if_pos h
theorem addD_tuple {a b : List PyData} (h : a.length + b.length ≤ 100000) : addD (.tuple a) (.tuple b) = some (.tuple (a ++ b)) := if_pos h
theorem mulD_l {i j : Int} (h1 : -18446744073709551616 < i) (h2 : i < 18446744073709551616) : mulD (.int i) (.int j) = some (.int (i * j)) := if_pos (.inl ⟨h1, h2⟩)
theorem mulD_r {i j : Int} (h1 : -18446744073709551616 < j) (h2 : j < 18446744073709551616) : mulD (.int i) (.int j) = some (.int (i * j)) := if_pos (.inr ⟨h1, h2⟩)
theorem modD_pos {i j : Int} (h : 0 < j) : modD (.int i) (.int j) = some (.int (i % j)) := if_pos h
theorem fdivD_pos {i j : Int} (h : 0 < j) (h2 : j < 1073741824) : fdivD (.int i) (.int j) = some (.int (i / j)) := if_pos ⟨h, h2⟩
theorem powD_ok {i j : Int} (h : 0 ≤ j ∧ (Builtin.Int.intBits i : Int) * j ≤ 2 ^ 27) : powD (.int i) (.int j) = some (.int (i ^ j.toNat)) := if_pos h
end VL
namespace VL
open PySem PySem.Spec PyProof.Rows L2
mutual
def big : PyData → Nat
  | .none => 5
  | .bool _ => 5
  | .int i => (toString i : Str).length
  | .str x => 10 * x.length + 2
  | .list xs => bigAll xs + 2
  | .tuple xs => bigAll xs + 3
  | .dict kvs => bigKv kvs + 2
def bigAll : List PyData → Nat
  | [] => 0
  | x :: xs => big x + 2 + bigAll xs
def bigKv : List (PyData × PyData) → Nat
  | [] => 0
  | (k, v) :: r => big k + big v + 4 + bigKv r
end
mutual
def okc : PyData → Bool
  | .str x => PyData.strOk x
  | .list xs | .tuple xs => okcAll xs
  | .dict kvs => okcKv kvs
  | .none | .bool _ | .int _ => true
def okcAll : List PyData → Bool
  | [] => true
  | x :: xs => okc x && okcAll xs
def okcKv : List (PyData × PyData) → Bool
  | [] => true
  | (k, v) :: r => okc k && okc v && okcKv r
end
theorem piled_listText : ∀ ts : List Str, (listText ts).length ≤ piled ts + 2
  | [] => by decide
  | t :: r => by
    have h := textFrom_length_pos r 1 (("[" : Str) ++ (if (0 : Nat) > 0 then ", " else "" : String) ++ t) (Nat.succ_pos 0)
    have e : ((("[" : Str) ++ (if (0 : Nat) > 0 then ", " else "" : String) ++ t)).length = 1 + t.length := by
      rw [strLen_append, strLen_append]
      rfl
    have hX : (listText (t :: r)).length = (textFrom 0 "[" (t :: r)).length + 1 := by
      show (textFrom 0 "[" (t :: r) ++ "]").length = _
      rw [strLen_append]
      rfl
    have hY : (textFrom 0 "[" (t :: r)).length = (textFrom 1 (("[" : Str) ++ (if (0 : Nat) > 0 then ", " else "" : String) ++ t) r).length := rfl
    rw [hX, hY, h, e, piled_cons]
    omega
theorem join_le (ts : List Str) : (Str.join ", " ts).length ≤ piled ts := by
  by_cases h : ts = []
  · subst h
    decide
  · have := join_length_add ts h
    omega
theorem piled_tupleText (ts : List Str) : (tupleText ts).length ≤ piled ts + 3 := by
  unfold tupleText
  rw [strLen_append, strLen_append]
  have e1 : ((("(" : String) : Str)).length = 1 := rfl
  have e3 : (((if ts.length == 1 then ",)" else ")" : String) : Str)).length ≤ 2 := by split <;> decide
  have := join_le ts
  omega
theorem piled_dictText (ts : List Str) : (dictText ts).length ≤ piled ts + 2 := by
  unfold dictText
  rw [strLen_append, strLen_append]
  have e1 : ((("{" : String) : Str)).length = 1 := rfl
  have e2 : ((("}" : String) : Str)).length = 1 := rfl
  have := join_le ts
  omega
theorem strOk_lt {x : Str} (h : PyData.strOk x = true) : ∀ c ∈ x.cps.toList, c < 0x110000 := by
  unfold PyData.strOk at h
  intro c hc
  rw [Array.all_eq_true'] at h
  have := h c (by simpa using hc)
  simpa using this
mutual
theorem shown_big : ∀ d : PyData, okc d = true → d.shown.length ≤ big d
  | .none, _ => by simp only [PyData.shown, big]; decide
  | .bool b, _ => by simp only [PyData.shown, big]; cases b <;> decide
  | .int i, _ => by simp only [PyData.shown, big]; exact Nat.le_refl _
  | .str x, h => by
    simp only [PyData.shown,big]
    exact StrLaws.reprText_len x fun c hc => Nat.lt_trans (strOk_lt (by simpa [okc] using h) c hc) (by decide)
  | .list xs, h => by
    simp only [PyData.shown,big]
    have := shown_bigAll xs (by simpa [okc] using h)
    have := piled_listText (PyData.shownAll xs)
    omega
  | .tuple xs, h => by
    simp only [PyData.shown,big]
    have := shown_bigAll xs (by simpa [okc] using h)
    have := piled_tupleText (PyData.shownAll xs)
    omega
  | .dict kvs, h => by
    simp only [PyData.shown,big]
    have := shown_bigKv kvs (by simpa [okc] using h)
    have := piled_dictText (PyData.shownKv kvs)
    omega
theorem shown_bigAll : ∀ xs : List PyData, okcAll xs = true → piled (PyData.shownAll xs) ≤ bigAll xs
  | [], _ => by simp only [PyData.shownAll, bigAll]; decide
  | x :: xs, h => by
    have h' : okc x = true ∧ okcAll xs = true := by simpa [okcAll] using h
    simp only [PyData.shownAll,bigAll,piled_cons]
    have := shown_big x h'.1
    have := shown_bigAll xs h'.2
    omega
theorem shown_bigKv : ∀ xs : List (PyData × PyData), okcKv xs = true → piled (PyData.shownKv xs) ≤ bigKv xs
  | [], _ => by simp only [PyData.shownKv, bigKv]; decide
  | (k, v) :: r, h => by
    have h' : (okc k = true ∧ okc v = true) ∧ okcKv r = true := by simpa [okcKv] using h
    simp only [PyData.shownKv,bigKv,piled_cons,strLen_append]
    have := shown_big k h'.1.1
    have := shown_big v h'.1.2
    have := shown_bigKv r h'.2
    have e2 : (((": " : String) : Str)).length = 2 := rfl
    omega
end
structure Fin (D B : Nat) (d : PyData) : Prop where
  s : d.showable = true
  o : okc d = true
  dp : d.depth ≤ D
  b : big d ≤ B
theorem Fin.mono {D B D' B' : Nat} {d : PyData} (h : Fin D B d) (h1 : D ≤ D') (h2 : B ≤ B') : Fin D' B' d := ⟨h.s, h.o, Nat.le_trans h.dp h1, Nat.le_trans h.b h2⟩
theorem Fin.repr {D B : Nat} {d : PyData} (h : Fin D B d) (h1 : D ≤ 60) (h2 : B ≤ 1000000) : reprF [d] = some (.str d.shown) := if_pos ⟨h.s, Nat.le_trans (shown_big d h.o) (Nat.le_trans h.b h2), Nat.le_trans h.dp h1⟩
structure FinA (D B : Nat) (ds : List PyData) : Prop where
  s : PyData.showableAll ds = true
  o : okcAll ds = true
  dp : PyData.depthAll ds ≤ D
  b : bigAll ds ≤ B
theorem FinA.nil {D B : Nat} : FinA D B [] := ⟨rfl, rfl, Nat.zero_le _, Nat.zero_le _⟩
theorem FinA.cons {D B C : Nat} {x : PyData} {xs : List PyData} (h : Fin D B x) (t : FinA D C xs) : FinA D (B + 2 + C) (x :: xs) :=
  ⟨by simp [PyData.showableAll, h.s, t.s], by simp [okcAll, h.o, t.o], by simp only [PyData.depthAll]; exact Nat.max_le.mpr ⟨h.dp, t.dp⟩, by simp only [bigAll]; have := h.b; have := t.b; omega⟩
theorem FinA.mono {D B D' B' : Nat} {d : List PyData} (h : FinA D B d) (h1 : D ≤ D') (h2 : B ≤ B') : FinA D' B' d := ⟨h.s, h.o, Nat.le_trans h.dp h1, Nat.le_trans h.b h2⟩
theorem FinA.append {D B C : Nat} : ∀ {xs ys : List PyData}, FinA D B xs → FinA D C ys → FinA D (B + C) (xs ++ ys)
  | [], ys, _, t => t.mono (Nat.le_refl _) (by omega)
  | x :: xs, ys, h, t => by
    have h1 : x.showable = true ∧ PyData.showableAll xs = true := by simpa [PyData.showableAll] using h.s
    have h2 : okc x = true ∧ okcAll xs = true := by simpa [okcAll] using h.o
    have h3 := h.dp
    simp only [PyData.depthAll] at h3
    have h4 := h.b
    simp only [bigAll] at h4
    have r := FinA.append (B := bigAll xs) (xs := xs) ⟨h1.2, h2.2, by omega, Nat.le_refl _⟩ t
    exact (FinA.cons (B := big x) ⟨h1.1, h2.1, by omega, Nat.le_refl _⟩ r).mono (Nat.le_refl _) (by omega)
theorem FinA.all {D B : Nat} (n : Nat) : ∀ {xs : List PyData}, xs.length ≤ n → (∀ x ∈ xs, Fin D B x) → FinA D (n * (B + 2)) xs
  | [], _, _ => .nil
  | x :: xs, hl, h => by
    cases n with
    | zero => simp at hl
    | succ n =>
      refine (FinA.cons (h x List.mem_cons_self) (FinA.all n (by simpa using hl) fun y hy => h y (List.mem_cons_of_mem _ hy))).mono (Nat.le_refl _) ?_
      rw [Nat.succ_mul]
      omega
theorem FinA.mem {D B : Nat} : ∀ {xs : List PyData}, FinA D B xs → ∀ x ∈ xs, Fin D B x
  | y :: xs, h, x, hx => by
    have h1 : y.showable = true ∧ PyData.showableAll xs = true := by simpa [PyData.showableAll] using h.s
    have h2 : okc y = true ∧ okcAll xs = true := by simpa [okcAll] using h.o
    have h3 := h.dp
    simp only [PyData.depthAll] at h3
    have h4 := h.b
    simp only [bigAll] at h4
    rcases List.mem_cons.mp hx with rfl | hx
    · exact ⟨h1.1, h2.1, by omega, by omega⟩
    · exact FinA.mem (xs := xs) ⟨h1.2, h2.2, by omega, by omega⟩ x hx
theorem FinA.len {D B : Nat} : ∀ {xs : List PyData}, FinA D B xs → 2 * xs.length ≤ B
  | [], h => Nat.zero_le _
  | y :: xs, h => by
    have h1 : y.showable = true ∧ PyData.showableAll xs = true := by simpa [PyData.showableAll] using h.s
    have h2 : okc y = true ∧ okcAll xs = true := by simpa [okcAll] using h.o
    have h3 := h.dp
    simp only [PyData.depthAll] at h3
    have h4 := h.b
    simp only [bigAll] at h4
    have := FinA.len (D := D) (B := bigAll xs) (xs := xs) ⟨h1.2, h2.2, by omega, Nat.le_refl _⟩
    rw [List.length_cons]
    omega
theorem FinA.sub {D B : Nat} {xs ys : List PyData} (h : FinA D B xs) (hs : ys.Sublist xs) : FinA D B ys := by
  induction hs generalizing B with
  | slnil => exact h
  | @cons l1 l2 a _ ih =>
    have h1 : a.showable = true ∧ PyData.showableAll l2 = true := by simpa [PyData.showableAll] using h.s
    have h2 : okc a = true ∧ okcAll l2 = true := by simpa [okcAll] using h.o
    have h3 := h.dp
    simp only [PyData.depthAll] at h3
    have h4 := h.b
    simp only [bigAll] at h4
    exact ih ⟨h1.2, h2.2, by omega, by omega⟩
  | @cons_cons l1 l2 a _ ih =>
    have h1 : a.showable = true ∧ PyData.showableAll l2 = true := by simpa [PyData.showableAll] using h.s
    have h2 : okc a = true ∧ okcAll l2 = true := by simpa [okcAll] using h.o
    have h3 := h.dp
    simp only [PyData.depthAll] at h3
    have h4 := h.b
    simp only [bigAll] at h4
    have r := ih (B := bigAll l2) ⟨h1.2, h2.2, by omega, Nat.le_refl _⟩
    exact (FinA.cons (B := big a) ⟨h1.1, h2.1, by omega, Nat.le_refl _⟩ r).mono (Nat.le_refl _) (by omega)
theorem FinA.list {D B : Nat} {xs : List PyData} (h : FinA D B xs) : Fin (D + 1) (B + 2) (.list xs) := ⟨by simpa [PyData.showable] using h.s, by simpa [okc] using h.o, by simp only [PyData.depth]; have := h.dp; omega, by simp only [big]; have := h.b; omega⟩
theorem FinA.tuple {D B : Nat} {xs : List PyData} (h : FinA D B xs) : Fin (D + 1) (B + 3) (.tuple xs) := ⟨by simpa [PyData.showable] using h.s, by simpa [okc] using h.o, by simp only [PyData.depth]; have := h.dp; omega, by simp only [big]; have := h.b; omega⟩
theorem FinA.of_tuple {D B : Nat} {xs : List PyData} (h : Fin D B (.tuple xs)) : FinA D B xs := ⟨by simpa [PyData.showable] using h.s, by simpa [okc] using h.o, by have := h.dp; simp only [PyData.depth] at this; omega, by have := h.b; simp only [big] at this; omega⟩
theorem Fin.dict1 {D B : Nat} {x : PyData} {z : Str} (hz : PyData.strOk z = true) (h : Fin D B x) : Fin (D + 1) (B + (10 * z.length + 8)) (.dict [(.str z, x)]) :=
  ⟨by simp [PyData.showable, PyData.showableKv, h.s], by simp [okc, okcKv, h.o, hz], by simp only [PyData.depth, PyData.depthKv]; have := h.dp; omega, by simp only [big, bigKv]; have := h.b; omega⟩
theorem Fin.str {D B : Nat} {z : Str} (hz : PyData.strOk z = true) (h : 10 * z.length + 2 ≤ B) : Fin D B (.str z) := ⟨rfl, by simpa [okc] using hz, by simp only [PyData.depth]; exact Nat.zero_le _, by simpa [big] using h⟩
theorem Fin.of_str {D B : Nat} {z : Str} (h : Fin D B (.str z)) : PyData.strOk z = true ∧ 10 * z.length + 2 ≤ B := ⟨by simpa [okc] using h.o, by simpa [big] using h.b⟩
theorem Fin.bool {D B : Nat} {b : Bool} (h : 5 ≤ B) : Fin D B (.bool b) := ⟨rfl, rfl, by simp only [PyData.depth]; exact Nat.zero_le _, by simpa [big] using h⟩
theorem Fin.none {D B : Nat} (h : 5 ≤ B) : Fin D B .none := ⟨rfl, rfl, by simp only [PyData.depth]; exact Nat.zero_le _, by simpa [big] using h⟩
def finC (D B : Nat) (d : PyData) : Bool := d.showable && okc d && decide (d.depth ≤ D) && decide (big d ≤ B)
theorem Fin.by {D B : Nat} {d : PyData} (h : finC D B d = true) : Fin D B d := by
  unfold finC at h
  simp only [Bool.and_eq_true,decide_eq_true_eq] at h
  exact ⟨h.1.1.1, h.1.1.2, h.1.2, h.2⟩
theorem forM_all {g : MG} {mb : MS} (I : Nat → Sl → Prop) : ∀ (ds : List PyData) (i : Nat) (S : Sl), I i S →
    (∀ (j : Nat) (d : PyData) (S : Sl), ds[j]? = some d → I (i + j) S → ∃ S1 S2, g d S = some S1 ∧ (mb S1 = some (.nx, S2) ∨ mb S1 = some (.ct, S2)) ∧ I (i + j + 1) S2) → ∃ S', forM g mb ds S = some (.nx, S') ∧ I (i + ds.length) S'
  | [], i, S, h, _ => ⟨S, rfl, h⟩
  | d :: ds, i, S, h, hs => by
    obtain ⟨S1, S2, e1, e2, h2⟩ := hs 0 d S rfl h
    obtain ⟨S', e3, h3⟩ := forM_all I ds (i + 1) S2 h2 fun j x S hx hI => by
      obtain ⟨T1, T2, q1, q2, q3⟩ := hs (j + 1) x S (by simpa using hx) (by rw [show i + (j + 1) = i + 1 + j by omega]; exact hI)
      exact ⟨T1, T2, q1, q2, by rw [show i + 1 + j + 1 = i + (j + 1) + 1 by omega]; exact q3⟩
    refine ⟨S', ?_, by rw [List.length_cons, show i + (ds.length + 1) = i + 1 + ds.length by omega]; exact h3⟩
    unfold forM
    rw [e1]
    rcases e2 with e2 | e2
    · simp only [e2]
      exact e3
    · simp only [e2]
      exact e3
theorem lcGo_all {g : MG} {mt : MT} {me : ME} {vs : List Nat} (I : Nat → Sl → List PyData → Prop) : ∀ (ds : List PyData) (i : Nat) (T : Sl) (acc : List PyData), I i T acc →
    (∀ (j : Nat) (d : PyData) (T : Sl) (acc : List PyData), ds[j]? = some d → I (i + j) T acc → ∃ T1 T2 T3 z, g d T = some T1 ∧ mt T1 = some (true, T2) ∧ me T2 = some (.v z, T3) ∧ acc.length < 100000 ∧ I (i + j + 1) (wp T3 vs) (acc ++ [z])) →
    ∃ acc' T', lcGo g mt me vs ds T acc = some (acc', T') ∧ I (i + ds.length) T' acc'
  | [], i, T, acc, h, _ => ⟨acc, T, rfl, h⟩
  | d :: ds, i, T, acc, h, hs => by
    obtain ⟨T1, T2, T3, z, e1, e2, e3, e4, h2⟩ := hs 0 d T acc rfl h
    obtain ⟨acc', T', e5, h3⟩ := lcGo_all I ds (i + 1) (wp T3 vs) (acc ++ [z]) h2 fun j x S ac hx hI => by
      obtain ⟨U1, U2, U3, y, q1, q2, q3, q4, q5⟩ := hs (j + 1) x S ac (by simpa using hx) (by rw [show i + (j + 1) = i + 1 + j by omega]; exact hI)
      exact ⟨U1, U2, U3, y, q1, q2, q3, q4, by rw [show i + 1 + j + 1 = i + (j + 1) + 1 by omega]; exact q5⟩
    refine ⟨acc', T', ?_, by rw [List.length_cons, show i + (ds.length + 1) = i + 1 + ds.length by omega]; exact h3⟩
    unfold lcGo
    rw [e1]
    simp only [e2,e3]
    rw [if_pos e4]
    exact e5
theorem lcGo_map {g : MG} {mt : MT} {me : ME} {vs : List Nat} {T : Sl} (f : PyData → PyData) : ∀ (ds : List PyData) (acc : List PyData), acc.length + ds.length ≤ 100000 →
    (∀ d ∈ ds, ∃ T1 T2 T3, g d T = some T1 ∧ mt T1 = some (true, T2) ∧ me T2 = some (.v (f d), T3) ∧ wp T3 vs = T) → lcGo g mt me vs ds T acc = some (acc ++ ds.map f, T)
  | [], acc, _, _ => by simp [lcGo]
  | d :: ds, acc, hl, hs => by
    obtain ⟨T1, T2, T3, e1, e2, e3, e4⟩ := hs d List.mem_cons_self
    rw [List.length_cons] at hl
    unfold lcGo
    rw [e1]
    simp only [e2,e3]
    rw [if_pos (by omega), e4, lcGo_map f ds (acc ++ [f d]) (by rw [List.length_append, List.length_singleton]; omega) fun x hx => hs x (List.mem_cons_of_mem _ hx)]
    simp
theorem isi_str (d : PyData) : isiF "str" d = some (.bool (match d with | .str _ => true | _ => false)) := by
  cases d <;> (show (kitB _ "str").map PyData.bool = _; rfl)
end VL
namespace VL
open PySem PySem.Spec PyProof.Rows L2
def Run {α : Type} (r : Option (α × Sl)) (Q : α → Sl → Prop) : Prop := ∃ a S, r = some (a, S) ∧ Q a S
theorem run_eq {α : Type} {r : Option (α × Sl)} {a : α} {S : Sl} {Q : α → Sl → Prop} (h : r = some (a, S)) (q : Q a S) : Run r Q := ⟨a, S, h, q⟩
theorem Run.mono {α : Type} {r : Option (α × Sl)} {Q Q' : α → Sl → Prop} (h : Run r Q) (k : ∀ a S, Q a S → Q' a S) : Run r Q' := by
  obtain ⟨a, S, e, q⟩ := h
  exact ⟨a, S, e, k a S q⟩
section
variable {S S1 : Sl} {m n mb : MS} {me ma mc : ME} {mx : MX} {mt : MT} {mi : MI} {g : MG} {Q : Fl → Sl → Prop} {as : List SL} {k : Nat}
theorem run_def {P : PyData → List SL → Prop} (h : Run (m (startS k as)) fun fl S => ∃ d as', fl = .rt (.v d) ∧ asOut as S = some as' ∧ P d as') : ∃ d as', defM k m as = some (d, as') ∧ P d as' := by
  obtain ⟨fl, S, e, d, as', rfl, ho, p⟩ := h
  refine ⟨d, as', ?_, p⟩
  unfold defM
  rw [e]
  simp only [ho]
theorem run_seq (h : Run (m S) fun fl S1 => match fl with
    | .nx => Run (n S1) Q
    | fl => Q fl S1) : Run (mSeq m n S) Q := by
  obtain ⟨fl, S1, e, q⟩ := h
  unfold mSeq
  rw [e]
  cases fl with
  | nx => exact q
  | bk => exact ⟨_, _, rfl, q⟩
  | ct => exact ⟨_, _, rfl, q⟩
  | rt r => exact ⟨_, _, rfl, q⟩
  | rz c fs => exact ⟨_, _, rfl, q⟩
theorem run_one (h : Run (m S) Q) : Run (mSeq m mNil S) Q := by
  obtain ⟨fl, S1, e, q⟩ := h
  unfold mSeq
  rw [e]
  cases fl with
  | nx => exact ⟨_, _, rfl, q⟩
  | bk => exact ⟨_, _, rfl, q⟩
  | ct => exact ⟨_, _, rfl, q⟩
  | rt r => exact ⟨_, _, rfl, q⟩
  | rz c fs => exact ⟨_, _, rfl, q⟩
theorem run_nil (q : Q .nx S) : Run (mNil S) Q := ⟨_, _, rfl, q⟩
theorem run_if {b : Bool} (h : mt S = some (b, S1)) (q : Run ((if b = true then m else n) S1) Q) : Run (mIfS mt m n S) Q := by
  unfold mIfS
  rw [h]
  cases b
  · exact q
  · exact q
theorem run_ifE (h : Run (mt S) fun b S1 => Run ((if b = true then m else n) S1) Q) : Run (mIfS mt m n S) Q := by
  obtain ⟨b, S1, e, q⟩ := h
  exact run_if e q
theorem run_for {ds : List PyData} (I : Nat → Sl → Prop) (hi : mi S = some (ds, S1)) (h0 : I 0 S1)
    (hs : ∀ (j : Nat) (d : PyData) (S : Sl), ds[j]? = some d → I j S → ∃ S2, g d S = some S2 ∧ Run (mb S2) fun fl S3 => (fl = .nx ∨ fl = .ct) ∧ I (j + 1) S3) (q : ∀ S', I ds.length S' → Q .nx S') : Run (mFor mi g mb S) Q := by
  obtain ⟨S', e, h⟩ := forM_all (g := g) (mb := mb) I ds 0 S1 h0 fun j d S hd hI => by
    rw [Nat.zero_add] at hI
    obtain ⟨S2, e1, fl, S3, e2, hfl, hI'⟩ := hs j d S hd hI
    refine ⟨S2, S3, e1, ?_, by rw [Nat.zero_add]; exact hI'⟩
    rcases hfl with rfl | rfl
    · exact .inl e2
    · exact .inr e2
  rw [Nat.zero_add] at h
  refine ⟨.nx, S', ?_, q S' h⟩
  unfold mFor
  rw [hi]
  exact e
theorem run_forI (h : Run (mi S) fun ds S1 => Run (forM g mb ds S1) Q) : Run (mFor mi g mb S) Q := by
  obtain ⟨ds, S1, e, q⟩ := h
  unfold mFor
  rw [e]
  exact q
theorem run_forM {ds : List PyData} (I : Nat → Sl → Prop) (h0 : I 0 S)
    (hs : ∀ (j : Nat) (d : PyData) (S : Sl), ds[j]? = some d → I j S → ∃ S2, g d S = some S2 ∧ Run (mb S2) fun fl S3 => (fl = .nx ∨ fl = .ct) ∧ I (j + 1) S3) (q : ∀ S', I ds.length S' → Q .nx S') : Run (forM g mb ds S) Q := by
  obtain ⟨S', e, h⟩ := forM_all (g := g) (mb := mb) I ds 0 S h0 fun j d S hd hI => by
    rw [Nat.zero_add] at hI
    obtain ⟨S2, e1, fl, S3, e2, hfl, hI'⟩ := hs j d S hd hI
    refine ⟨S2, S3, e1, ?_, by rw [Nat.zero_add]; exact hI'⟩
    rcases hfl with rfl | rfl
    · exact .inl e2
    · exact .inr e2
  rw [Nat.zero_add] at h
  exact ⟨.nx, S', e, q S' h⟩
theorem run_rng1 {me : ME} {QI : List PyData → Sl → Prop} (h : Run (me S) fun r S1 => ∃ j, r = .v (.int j) ∧ -4611686018427387904 ≤ j ∧ j < 4611686018427387904 ∧ QI (rngD 0 j.toNat) S1) : Run (mRng1 (aCons me aNil) S) QI := by
  obtain ⟨r, S1, e, j, rfl, h1, h2, q⟩ := h
  refine ⟨_, _, ?_, q⟩
  simp only [mRng1,aCons,aNil,e]
  exact if_pos ⟨h1, h2⟩
theorem run_lcI {vs : List Nat} {me : ME} {QX : SL → Sl → Prop} (h : Run (mi S) fun ds S1 => ownOk S1 vs = true ∧ Run (lcGo g mt me vs ds (wp S1 vs) []) fun acc T => QX (.c acc) (unwp S1 T vs)) : Run (xLc mi g mt me vs S) QX := by
  obtain ⟨ds, S1, e, ho, acc, T, e2, q⟩ := h
  refine ⟨.c acc, _, ?_, q⟩
  simp only [xLc,e,ho,if_true,e2]
theorem run_lcGo {vs : List Nat} {me : ME} {ds : List PyData} {QL : List PyData → Sl → Prop} (I : Nat → Sl → List PyData → Prop) (h0 : I 0 S [])
    (hs : ∀ (j : Nat) (d : PyData) (T : Sl) (acc : List PyData), ds[j]? = some d → I j T acc → acc.length < 100000 ∧ ∃ T1, g d T = some T1 ∧ Run (mt T1) fun b T2 => b = true ∧ Run (me T2) fun r T3 => ∃ z, r = .v z ∧ I (j + 1) (wp T3 vs) (acc ++ [z]))
    (q : ∀ T acc, I ds.length T acc → QL acc T) : Run (lcGo g mt me vs ds S []) QL := by
  obtain ⟨acc', T', e, h⟩ := lcGo_all (g := g) (mt := mt) (me := me) (vs := vs) I ds 0 S [] h0 fun j d T acc hd hI => by
    rw [Nat.zero_add] at hI
    obtain ⟨hl, T1, e1, b, T2, e2, rfl, r, T3, e3, z, rfl, hI'⟩ := hs j d T acc hd hI
    exact ⟨T1, T2, T3, z, e1, e2, e3, hl, by rw [Nat.zero_add]; exact hI'⟩
  rw [Nat.zero_add] at h
  exact ⟨acc', T', e, q T' acc' h⟩
theorem rngD_len (lo : Int) (n : Nat) : (rngD lo n).length = n := by unfold rngD; rw [List.length_map, List.length_range]
theorem run_ret (h : Run (me S) fun r S1 => ∃ d, r = .v d ∧ Q (.rt (.v d)) S1) : Run (mRet me S) Q := by
  obtain ⟨r, S1, e, d, rfl, q⟩ := h
  unfold mRet
  rw [e]
  exact ⟨_, _, rfl, q⟩
theorem run_set {i : Nat} (h : Run (me S) fun r S1 => ∃ d, r = .v d ∧ Q .nx (S1.set i (some (.v d)))) : Run (mSet i me S) Q := by
  obtain ⟨r, S1, e, d, rfl, q⟩ := h
  unfold mSet
  rw [e]
  exact ⟨_, _, rfl, q⟩
theorem run_setX {i : Nat} (h : Run (mx S) fun r S1 => (∃ d, r = .v d ∧ Q .nx (S1.set i (some (.v d)))) ∨ ∃ ds : List PyData, r = .c (.l ds) ∧ Q .nx (S1.set i (some (.c (.l ds))))) : Run (mSetX i mx S) Q := by
  obtain ⟨r, S1, e, h⟩ := h
  unfold mSetX
  rw [e]
  rcases h with ⟨d, rfl, q⟩ | ⟨d, rfl, q⟩
  · exact ⟨_, _, rfl, q⟩
  · exact ⟨_, _, rfl, q⟩
variable {QE : SV → Sl → Prop} {QX : SL → Sl → Prop} {QB : Bool → Sl → Prop} {f : List PyData → Option PyData} {h2 : PyData → PyData → Option PyData}
theorem run_call1 (h : Run (me S) fun r S1 => ∃ d z, deref S1 r = some d ∧ f [d] = some z ∧ QE (.v z) S1) : Run (mCall f (aCons me aNil) S) QE := by
  obtain ⟨r, S1, e, d, z, hd, hf, q⟩ := h
  refine ⟨.v z, S1, ?_, q⟩
  simp only [mCall,aCons,aNil,e,derefs,hd,hf]
theorem run_bin (h : Run (ma S) fun r1 S1 => Run (mc S1) fun r2 S2 => ∃ d e z, deref S2 r1 = some d ∧ deref S2 r2 = some e ∧ h2 d e = some z ∧ QE (.v z) S2) : Run (mBin h2 ma mc S) QE := by
  obtain ⟨r1, S1, e1, r2, S2, e2, d, e, z, hd, he, hz, q⟩ := h
  refine ⟨.v z, S2, ?_, q⟩
  simp only [mBin,e1,e2,hd,he,hz]
theorem run_tell (h : Run (mx S) fun r S1 => (∃ d, r = .v d ∧ QE (.v d) S1) ∨ ∃ ds : List PyData, r = .c (.l ds) ∧ QE (.v (.list ds)) S1) : Run (mTell mx S) QE := by
  obtain ⟨r, S1, e, h⟩ := h
  unfold mTell
  rw [e]
  rcases h with ⟨d, rfl, q⟩ | ⟨d, rfl, q⟩
  · exact ⟨_, _, rfl, q⟩
  · exact ⟨_, _, rfl, q⟩
theorem run_tval (h : Run (me S) fun r S1 => ∃ b, r = .v (.bool b) ∧ QB b S1) : Run (tVal me S) QB := by
  obtain ⟨r, S1, e, b, rfl, q⟩ := h
  unfold tVal
  rw [e]
  exact ⟨_, _, rfl, q⟩
theorem run_tnot (h : Run (mt S) fun b S1 => QB (!b) S1) : Run (tNotM mt S) QB := by
  obtain ⟨r, S1, e, q⟩ := h
  unfold tNotM
  rw [e]
  exact ⟨_, _, rfl, q⟩
end
end VL
namespace VL
open PySem PySem.Spec PyProof.Rows L2
abbrev sg (z : Str) : List Nat := z.cps.toList
theorem len_sg (z : Str) : z.length = (sg z).length := by
  show z.cps.size = z.cps.toList.length
  rw [Array.length_toList]
theorem okS_iff {z : Str} : PyData.strOk z = true ↔ ∀ c ∈ sg z, c < 1114112 := by
  unfold PyData.strOk
  rw [Array.all_eq_true']
  constructor
  · intro h c hc
    have := h c (by simpa using hc)
    simpa using this
  · intro h c hc
    have := h c (by simpa using hc)
    simpa using this
theorem sg_ext {a b : Str} (h : sg a = sg b) : a = b := by
  cases a
  cases b
  congr 1
  exact Array.toList_inj.mp h
theorem sg_append (a b : Str) : sg (a ++ b) = sg a ++ sg b := TL.tl_append a b
theorem sg_mk (l : List Nat) : sg ⟨l.toArray⟩ = l := rfl
theorem len_append (a b : Str) : (a ++ b).length = a.length + b.length := by rw [len_sg, sg_append, List.length_append, ← len_sg, ← len_sg]
theorem ok_append {a b : Str} (h : PyData.strOk a = true) (h' : PyData.strOk b = true) : PyData.strOk (a ++ b) = true := by
  rw [okS_iff] at h h' ⊢
  intro c hc
  rw [sg_append] at hc
  rcases List.mem_append.mp hc with q | q
  · exact h c q
  · exact h' c q
theorem sg_sign (c : Nat) : sg (⟨#[c]⟩ : Str) = [c] := rfl
theorem join_signs (cs : List Nat) : Txt.join "" (cs.map fun c => (⟨#[c]⟩ : Str)) = ⟨cs.toArray⟩ := by
  rw [TL.join_eq]
  refine sg_ext ?_
  rw [sg_mk]
  induction cs with
  | nil => rfl
  | cons c r ih =>
    cases r with
    | nil => rfl
    | cons d r =>
      show sg ((⟨#[c]⟩ : Str) ++ "" ++ Str.join "" ((d :: r).map fun c => (⟨#[c]⟩ : Str))) = _
      have ih' : sg (Str.join "" ((d :: r).map fun c => (⟨#[c]⟩ : Str))) = sg ⟨(d :: r).toArray⟩ := ih
      rw [sg_append, sg_append, ih']
      rfl
section
variable {S S1 : Sl} {m n mb : MS} {me ma mc : ME} {mx my : MX} {mas : MA} {ms : MXs} {mt : MT} {mi : MI} {g : MG} {Q : Fl → Sl → Prop} {QE : SV → Sl → Prop} {QA : List SV → Sl → Prop} {QX : SL → Sl → Prop} {QXs : List SL → Sl → Prop} {QB : Bool → Sl → Prop} {f : List PyData → Option PyData}
theorem run_anil (q : QA [] S) : Run (aNil S) QA := ⟨_, _, rfl, q⟩
theorem run_acons (h : Run (me S) fun r S1 => Run (mas S1) fun rs S2 => QA (r :: rs) S2) : Run (aCons me mas S) QA := by
  obtain ⟨r, S1, e, rs, S2, e2, q⟩ := h
  refine ⟨_, _, ?_, q⟩
  simp only [aCons,e,e2]
theorem run_tup (h : Run (mas S) fun rs S1 => ∃ ds, stables rs = some ds ∧ ds.length ≤ 100000 ∧ QE (.v (.tuple ds)) S1) : Run (mTup mas S) QE := by
  obtain ⟨rs, S1, e, ds, h1, h2, q⟩ := h
  refine ⟨_, _, ?_, q⟩
  simp only [mTup,e,h1]
  exact if_pos h2
theorem run_unp (h : Run (me S) fun r S1 => ∃ d S2, r = .v d ∧ g d S1 = some S2 ∧ Q .nx S2) : Run (mUnp me g S) Q := by
  obtain ⟨r, S1, e, d, S2, rfl, h1, q⟩ := h
  refine ⟨_, _, ?_, q⟩
  simp only [mUnp,e,h1]
end
theorem joinD {y : Str} {zs : List Str} (h : (zs.map (·.length)).sum + zs.length * y.length ≤ 100000) : joinF y (.list (zs.map .str)) = some (.str (Txt.join y zs)) := by
  unfold joinF
  simp only [strsOf_map]
  exact if_pos h
theorem eqD_int (i j : Int) : eqDD (.int i) (.int j) = some (.bool (decide (i = j))) := rfl
theorem neD_int (i j : Int) : neDD (.int i) (.int j) = some (.bool (!decide (i = j))) := rfl
theorem eqD_strs (a b : Str) : eqDD (.str a) (.str b) = some (.bool (decide (a = b))) := rfl
theorem neD_strs (a b : Str) : neDD (.str a) (.str b) = some (.bool (!decide (a = b))) := rfl
theorem eqD_tupE (xs : List PyData) : eqDD (.tuple xs) (.tuple []) = some (.bool xs.isEmpty) := by
  unfold eqDD eqD
  rfl
theorem FinA.set {D B C : Nat} {d : PyData} (h : Fin D C d) : ∀ {xs : List PyData} (i : Nat), FinA D B xs → FinA D (B + C + 2) (xs.set i d)
  | [], _, t => t.mono (Nat.le_refl _) (by omega)
  | x :: xs, i, t => by
    have h1 : x.showable = true ∧ PyData.showableAll xs = true := by simpa [PyData.showableAll] using t.s
    have h2 : okc x = true ∧ okcAll xs = true := by simpa [okcAll] using t.o
    have h3 := t.dp
    simp only [PyData.depthAll] at h3
    have h4 := t.b
    simp only [bigAll] at h4
    have tl : FinA D (bigAll xs) xs := ⟨h1.2, h2.2, by omega, Nat.le_refl _⟩
    cases i with
    | zero => exact (FinA.cons h tl).mono (Nat.le_refl _) (by omega)
    | succ i => exact (FinA.cons (B := big x) ⟨h1.1, h2.1, by omega, Nat.le_refl _⟩ (FinA.set h i tl)).mono (Nat.le_refl _) (by omega)
theorem FinA.strs {B D : Nat} {rs : List Str} (h : FinA D B (rs.map .str)) : FinA 0 B (rs.map .str) := ⟨h.s, h.o, by
  clear h
  induction rs with
  | nil => exact Nat.le_refl _
  | cons x r ih =>
    simp only [List.map_cons,PyData.depthAll,PyData.depth]
    omega, h.b⟩
end VL
namespace VL
open PySem PySem.Spec PyProof.Rows L2
theorem unwp_wp (S : Sl) : ∀ vs : List Nat, unwp S (wp S vs) vs = S := by
  intro vs
  have key : ∀ (vs : List Nat) (T : Sl), T.length = S.length → (∀ i, i ∉ vs → T[i]? = S[i]?) → unwp S T vs = S := by
    intro vs
    induction vs with
    | nil =>
      intro T hl h
      exact List.ext_getElem? fun i => h i (by simp)
    | cons v vs ih =>
      intro T hl h
      refine List.ext_getElem? fun i => ?_
      unfold unwp
      by_cases q : v = i
      · subst q
        by_cases hv : v < S.length
        · rw [List.getElem?_set_self (by rw [unwp_length, hl]; exact hv)]
          rw [List.getElem?_eq_getElem hv]
          rfl
        · rw [List.getElem?_eq_none (by rw [List.length_set, unwp_length, hl]; omega), List.getElem?_eq_none (by omega)]
      · rw [List.getElem?_set_ne q]
        by_cases hi : i ∈ vs
        · by_cases hv : i < S.length
          · have aux : ∀ (us : List Nat), i ∈ us → (unwp S T us)[i]? = S[i]? := by
              intro us
              induction us with
              | nil => intro z; cases z
              | cons u us ih2 =>
                intro z
                unfold unwp
                by_cases e : u = i
                · subst e
                  rw [List.getElem?_set_self (by rw [unwp_length, hl]; exact hv), List.getElem?_eq_getElem hv]
                  rfl
                · rw [List.getElem?_set_ne e]
                  exact ih2 ((List.mem_cons.mp z).elim (fun y => absurd y.symm e) id)
            exact aux vs hi
          · rw [List.getElem?_eq_none (by rw [unwp_length, hl]; omega), List.getElem?_eq_none (by omega)]
        · have aux : ∀ (us : List Nat), i ∉ us → (unwp S T us)[i]? = T[i]? := by
            intro us
            induction us with
            | nil => intro _; rfl
            | cons u us ih2 =>
              intro z
              unfold unwp
              rw [List.getElem?_set_ne (show ¬ u = i from fun e => z (by rw [e]; exact List.mem_cons_self))]
              exact ih2 fun y => z (List.mem_cons_of_mem _ y)
          rw [aux vs hi]
          exact h i fun z => (List.mem_cons.mp z).elim (fun y => q y.symm) hi
  refine key vs _ (wp_length S vs) fun i hi => ?_
  have aux : ∀ (us : List Nat), i ∉ us → (wp S us)[i]? = S[i]? := by
    intro us
    induction us with
    | nil => intro _; rfl
    | cons u us ih2 =>
      intro z
      unfold wp
      rw [List.getElem?_set_ne (show ¬ u = i from fun e => z (by rw [e]; exact List.mem_cons_self))]
      exact ih2 fun y => z (List.mem_cons_of_mem _ y)
  exact aux vs hi
section
variable {S S1 : Sl} {mi : MI} {g : MG} {mt : MT} {me : ME} {mb : MS} {vs : List Nat} {ds : List PyData} {i : Nat}
theorem xlc_map (F : PyData → PyData) (hi : mi S = some (ds, S1)) (ho : ownOk S1 vs = true) (hl : ds.length ≤ 100000)
    (hs : ∀ d ∈ ds, ∃ T1, g d (wp S1 vs) = some T1 ∧ mt T1 = some (true, T1) ∧ me T1 = some (.v (F d), T1) ∧ wp T1 vs = wp S1 vs) : xLc mi g mt me vs S = some (.c (ds.map F), S1) := by
  simp only [xLc,hi,ho,if_true,lcGo_map F ds [] (by simpa using hl) (fun d hd => by
    obtain ⟨T1, h1, h2, h3, h4⟩ := hs d hd
    exact ⟨T1, T1, T1, h1, h2, h3, h4⟩), List.nil_append, unwp_wp]
theorem lc1 (F : PyData → PyData) (hi : mi S = some (ds, S1)) (ho : ownOk S1 [i] = true) (hl : ds.length ≤ 100000)
    (hs : ∀ d ∈ ds, me (S1.set i (some (.v d))) = some (.v (F d), S1.set i (some (.v d)))) : xLc mi (gSet i) tYesM me [i] S = some (.c (ds.map F), S1) :=
  xlc_map F hi ho hl fun d hd => ⟨S1.set i (some (.v d)), by show some ((S1.set i none).set i _) = _; rw [List.set_set], rfl, hs d hd, by show (S1.set i _).set i none = S1.set i none; rw [List.set_set]⟩
theorem for_all (I : Nat → Sl → Prop) (hi : mi S = some (ds, S1)) (h0 : I 0 S1) (hs : ∀ (j : Nat) (d : PyData) (S : Sl), ds[j]? = some d → I j S → ∃ S1 S2, g d S = some S1 ∧ (mb S1 = some (.nx, S2) ∨ mb S1 = some (.ct, S2)) ∧ I (j + 1) S2) :
    ∃ S', mFor mi g mb S = some (.nx, S') ∧ I ds.length S' := by
  obtain ⟨S', e, h⟩ := forM_all (g := g) (mb := mb) I ds 0 S1 h0 fun j d S hd hI => by
    rw [Nat.zero_add] at hI ⊢
    exact hs j d S hd hI
  rw [Nat.zero_add] at h
  refine ⟨S', ?_, h⟩
  unfold mFor
  rw [hi]
  exact e
end
theorem map_bool (f : PyData → Bool) (xs : List PyData) : (xs.map fun d => PyData.bool (f d)) = (xs.map f).map .bool := by rw [List.map_map]; rfl
theorem all_id {α : Type} (f : α → Bool) (l : List α) : (l.map f).all id = l.all f := by
  rw [List.all_map]
  rfl
theorem allF_map (f : PyData → Bool) (xs : List PyData) : allF [.list (xs.map fun d => PyData.bool (f d))] = some (.bool (xs.all f)) := by
  rw [map_bool]
  show (boolsOf _).map _ = _
  rw [boolsOf_map, ← all_id]
  rfl
def blist (f : PyData → Bool) (xs : List PyData) : List PyData := xs.map fun d => .bool (f d)
theorem allF_blist (f : PyData → Bool) (xs : List PyData) : allF [.list (blist f xs)] = some (.bool (xs.all f)) := allF_map f xs
theorem lcb {S S1 : Sl} {mi : MI} {me : ME} {ds : List PyData} {i : Nat} (f : PyData → Bool) (hi : mi S = some (ds, S1)) (ho : ownOk S1 [i] = true) (hl : ds.length ≤ 100000)
    (hs : ∀ d ∈ ds, me (S1.set i (some (.v d))) = some (.v (.bool (f d)), S1.set i (some (.v d)))) : xLc mi (gSet i) tYesM me [i] S = some (.c (blist f ds), S1) := lc1 (fun d => .bool (f d)) hi ho hl hs
def mapD (F : PyData → PyData) (xs : List PyData) : List PyData := xs.map F
theorem lcm {S S1 : Sl} {mi : MI} {me : ME} {ds : List PyData} {i : Nat} (F : PyData → PyData) (hi : mi S = some (ds, S1)) (ho : ownOk S1 [i] = true) (hl : ds.length ≤ 100000)
    (hs : ∀ d ∈ ds, me (S1.set i (some (.v d))) = some (.v (F d), S1.set i (some (.v d)))) : xLc mi (gSet i) tYesM me [i] S = some (.c (mapD F ds), S1) := lc1 F hi ho hl hs
theorem lenF_str {z : Str} (h : z.length ≤ 100000) : lenF [.str z] = some (.int z.length) := if_pos h
theorem signsD_length (z : Str) : (signsD z).length = z.length := by unfold signsD; rw [List.length_map, len_sg]
theorem signsD_all (z : Str) (f : Nat → Bool) (F : PyData → Bool) (h : ∀ c, F (.str ⟨#[c]⟩) = f c) : (signsD z).all F = (sg z).all f := by
  unfold signsD
  rw [List.all_map]
  congr 1
  funext c
  exact h c
def txt (l : List Nat) : Str := ⟨l.toArray⟩
theorem txt_len (l : List Nat) : (txt l).length = l.length := by rw [len_sg]; rfl
theorem txt_nil (l : List Nat) : ((txt l) = "") ↔ l = [] := by
  constructor
  · intro h
    have : sg (txt l) = sg "" := by rw [h]
    exact this.trans (by decide +kernel)
  · rintro rfl
    exact sg_ext (by decide +kernel)
theorem atI_nat {α : Type} (l : List α) (k : Nat) : atI l (k : Int) = l[k]? := by
  unfold atI ixN
  rw [if_pos (by omega)]
  by_cases h : k < l.length
  · rw [if_pos (by omega)]
    rfl
  · rw [if_neg (by omega), List.getElem?_eq_none (by omega)]
    rfl
end VL
namespace VL
open PySem PySem.Spec PyProof.Rows L2
theorem pre1 (k c : Nat) (r : List Nat) : TL.pre [k] (c :: r) = decide (c = k) := by
  unfold TL.pre
  simp only [List.length_cons,List.length_nil,List.take_succ_cons,List.take_zero]
  by_cases h : c = k
  · subst h; simp
  · rw [decide_eq_false h]
    simp [h]
theorem spl_len (k : Nat) : ∀ (cs cur : List Nat), (TL.spl [k] 0 cur cs).length ≤ cs.length + 1
  | [], cur => by rw [TL.spl_nil]; exact Nat.le_refl _
  | c :: cs, cur => by
    by_cases h : c = k
    · rw [TL.spl_hit (by rw [pre1, decide_eq_true h]), List.length_cons, List.length_cons]
      exact Nat.succ_le_succ (spl_len k cs [])
    · rw [TL.spl_miss (by rw [pre1, decide_eq_false h]), List.length_cons]
      exact Nat.le_succ_of_le (spl_len k cs _)
theorem spl_mem (k : Nat) : ∀ (cs cur : List Nat) (l : List Nat), l ∈ TL.spl [k] 0 cur cs → l.length ≤ cur.length + cs.length ∧ ∀ c ∈ l, c ∈ cur ∨ c ∈ cs
  | [], cur, l, h => by
    rw [TL.spl_nil, List.mem_singleton] at h
    subst h
    exact ⟨Nat.le_refl _, fun c hc => .inl hc⟩
  | c :: cs, cur, l, h => by
    by_cases q : c = k
    · rw [TL.spl_hit (by rw [pre1, decide_eq_true q])] at h
      rcases List.mem_cons.mp h with rfl | h
      · exact ⟨Nat.le_add_right _ _, fun c hc => .inl hc⟩
      · obtain ⟨h1, h2⟩ := spl_mem k cs [] l h
        exact ⟨by rw [List.length_cons]; rw [List.length_nil] at h1; omega, fun d hd => .inr (List.mem_cons_of_mem _ ((h2 d hd).resolve_left (by simp)))⟩
    · rw [TL.spl_miss (by rw [pre1, decide_eq_false q])] at h
      obtain ⟨h1, h2⟩ := spl_mem k cs (cur ++ [c]) l h
      refine ⟨by rw [List.length_append, List.length_singleton] at h1; rw [List.length_cons]; omega, fun d hd => ?_⟩
      rcases h2 d hd with z | z
      · rcases List.mem_append.mp z with z | z
        · exact .inl z
        · rw [List.mem_singleton.mp z]
          exact .inr List.mem_cons_self
      · exact .inr (List.mem_cons_of_mem _ z)
theorem ok_txt {l : List Nat} : PyData.strOk (txt l) = true ↔ ∀ c ∈ l, c < 1114112 := okS_iff
structure TxN (N : Nat) (z : Str) : Prop where
  l : z.length ≤ N
  o : PyData.strOk z = true
theorem TxN.mono {N M : Nat} {z : Str} (h : TxN N z) (hm : N ≤ M) : TxN M z := ⟨Nat.le_trans h.l hm, h.o⟩
theorem TxN.append {N M : Nat} {z y : Str} (h : TxN N z) (h2 : TxN M y) : TxN (N + M) (z ++ y) := ⟨by rw [len_append]; have := h.l; have := h2.l; omega, ok_append h.o h2.o⟩
theorem TxN.sub {N : Nat} {z : Str} {l : List Nat} (h : TxN N z) (hs : l.Sublist (sg z)) : TxN N (txt l) := ⟨by rw [txt_len]; have := hs.length_le; rw [← len_sg] at this; exact Nat.le_trans this h.l, ok_txt.mpr fun c hc => okS_iff.mp h.o c (hs.subset hc)⟩
theorem TxN.take {N : Nat} {z : Str} (h : TxN N z) (k : Nat) : TxN N (txt ((sg z).take k)) := h.sub (List.take_sublist _ _)
theorem TxN.drop {N : Nat} {z : Str} (h : TxN N z) (k : Nat) : TxN N (txt ((sg z).drop k)) := h.sub (List.drop_sublist _ _)
theorem TxN.fin {N D B : Nat} {z : Str} (h : TxN N z) (hb : 10 * N + 2 ≤ B) : Fin D B (.str z) := Fin.str h.o (by have := h.l; omega)
theorem TxN.by {N : Nat} {z : Str} (h : (decide (z.length ≤ N) && PyData.strOk z) = true) : TxN N z := by
  simp only [Bool.and_eq_true,decide_eq_true_eq] at h
  exact ⟨h.1, h.2⟩
theorem big_int {i : Int} (h0 : -1000000000000000000 < i) (h : i < 1000000000000000000) : big (.int i) ≤ 19 := by
  show (Str.ofString (toString i)).length ≤ 19
  rw [PySem.ofString_length]
  exact PySem.int_text_length_le10 (k := 18) (by decide) (by omega)
theorem log2_small {n : Nat} (h : n < 1000000000000000000) : n.log2 < 1920 := by
  by_cases q : n = 0
  · subst q; decide
  · refine (Nat.log2_lt q).mpr (Nat.lt_of_lt_of_le h ?_)
    exact Nat.le_trans (show 1000000000000000000 ≤ 2 ^ 60 by decide) (Nat.pow_le_pow_right (by decide) (by decide))
theorem log_int {i : Int} (h0 : -1000000000000000000 < i) (h : i < 1000000000000000000) : (PyData.int i).showable = true := by
  show decide (i.natAbs.log2 < 1920) = true
  exact decide_eq_true (log2_small (by omega))
theorem Fin.int {D B : Nat} {i : Int} (h0 : -1000000000000000000 < i) (h : i < 1000000000000000000) (hB : 19 ≤ B) : Fin D B (.int i) := ⟨log_int h0 h, rfl, by simp only [PyData.depth]; exact Nat.zero_le _, Nat.le_trans (big_int h0 h) hB⟩
end VL
namespace VL
open PySem PySem.Spec PyProof.Rows L2
inductive DnM (M : Mem) (k : Nat) : List Nat → List (List PyData) → Prop
  | nil : DnM M k [] []
  | cons {i : Nat} {l : List PyData} {is : List Nat} {ls : List (List PyData)} {a : Addr} : i ≠ 1 → i ≠ k → M[i]? = some ⟨a, .lst (l.map .d)⟩ → DnM M k is ls → DnM M k (i :: is) (l :: ls)
structure RunM (M : Mem) (b : Addr) (ids : List Nat) (dn : List (List PyData)) (k : Nat) (a : Addr) (cur : List PyData) : Prop where
  out : M[1]? = some ⟨b, .lst ((ids ++ [k]).map .p)⟩
  at_ : M[k]? = some ⟨a, .lst (cur.map .d)⟩
  ne : k ≠ 1
  dn : DnM M k ids dn
section
variable {M M' : Mem} {k k' : Nat} {ids : List Nat} {dn : List (List PyData)} {b a a' : Addr} {cur : List PyData} {S : Sl} {Q : SV → Sl → Mem → Prop}
theorem DnM.length (h : DnM M k ids dn) : ids.length = dn.length := by
  induction h with
  | nil => rfl
  | cons _ _ _ _ ih => rw [List.length_cons, List.length_cons, ih]
theorem DnM.imp (h : DnM M k ids dn) (hM : ∀ (i : Nat) (e : Ent), i ≠ 1 → i ≠ k → M[i]? = some e → M'[i]? = some e ∧ i ≠ k') : DnM M' k' ids dn := by
  induction h with
  | nil => exact .nil
  | cons h1 h2 h3 _ ih => exact .cons h1 (hM _ _ h1 h2 h3).2 (hM _ _ h1 h2 h3).1 ih
theorem DnM.snoc {i : Nat} {l : List PyData} {a : Addr} (h : DnM M k ids dn) (h1 : i ≠ 1) (h2 : i ≠ k) (h3 : M[i]? = some ⟨a, .lst (l.map .d)⟩) : DnM M k (ids ++ [i]) (dn ++ [l]) := by
  induction h with
  | nil => exact .cons h1 h2 h3 .nil
  | cons g1 g2 g3 _ ih => exact .cons g1 g2 g3 ih
theorem RunM.len (h : RunM M b ids dn k a cur) : ((ids ++ [k]).map Itm.p).length = dn.length + 1 := by
  rw [List.length_map, List.length_append, h.dn.length]; rfl
theorem RunM.new (h : RunM M b ids dn k a cur) (a' : Addr) : RunM ((M ++ [(⟨a', .lst []⟩ : Ent)]).set 1 ⟨b, .lst ((ids ++ [k]).map Itm.p ++ [Itm.p M.length])⟩) b (ids ++ [k]) (dn ++ [cur]) M.length a' [] := by
  have l1 : 1 < M.length := (List.getElem?_eq_some_iff.mp h.out).1
  have lk : k < M.length := (List.getElem?_eq_some_iff.mp h.at_).1
  have key : ∀ (i : Nat) (e : Ent), i ≠ 1 → M[i]? = some e → ((M ++ [(⟨a', .lst []⟩ : Ent)]).set 1 ⟨b, .lst ((ids ++ [k]).map Itm.p ++ [Itm.p M.length])⟩)[i]? = some e ∧ i ≠ M.length := fun i e g1 g2 => by
    have li : i < M.length := (List.getElem?_eq_some_iff.mp g2).1
    refine ⟨?_, by omega⟩
    rw [List.getElem?_set_ne (fun q => g1 q.symm), List.getElem?_append_left li]
    exact g2
  refine ⟨?_, ?_, by omega, ?_⟩
  · rw [List.getElem?_set_self (by rw [List.length_append]; omega), List.map_append (l₁ := ids ++ [k])]
    rfl
  · rw [List.getElem?_set_ne (by omega), List.getElem?_append_right (Nat.le_refl _), Nat.sub_self]
    rfl
  · exact (h.dn.imp (k' := M.length) fun i e g1 _ g3 => key i e g1 g3).snoc h.ne (by omega) (key k _ h.ne h.at_).1
theorem dataIs_d (f : Nat → Option PyData) : ∀ (l : List PyData), dataIs f (l.map .d) = some l
  | [] => rfl
  | d :: l => by
    show (match dataI f (.d d), dataIs f (l.map .d) with
      | some d, some ds => some (d :: ds)
      | _, _ => none) = some (d :: l)
    rw [dataIs_d f l]
    rfl
theorem dataOf_col {i : Nat} {a : Addr} {l : List PyData} (h : M[i]? = some ⟨a, .lst (l.map .d)⟩) (n : Nat) : dataOf M (n + 1) i = some (.list l) := by
  unfold dataOf
  rw [h]
  simp only [dataIs_d]
  rfl
theorem RunM.tell (h : RunM M b ids dn k a cur) : tellR M (.s (.ptr 1 b)) = some (.list ((dn ++ [cur]).map .list)) := by
  have l1 : 1 < M.length := (List.getElem?_eq_some_iff.mp h.out).1
  have all : dataIs (dataOf M M.length) ((ids ++ [k]).map .p) = some ((dn ++ [cur]).map .list) := by
    obtain ⟨n, hn⟩ : ∃ n, M.length = n + 1 := ⟨M.length - 1, by omega⟩
    rw [hn]
    have hk := dataOf_col h.at_ n
    have : ∀ {is : List Nat} {ls : List (List PyData)}, DnM M k is ls → dataIs (dataOf M (n + 1)) ((is ++ [k]).map .p) = some ((ls ++ [cur]).map .list) := by
      intro is ls hd
      induction hd with
      | nil =>
        show (match dataI (dataOf M (n + 1)) (.p k), dataIs (dataOf M (n + 1)) [] with
          | some d, some ds => some (d :: ds)
          | _, _ => none) = _
        show (match dataOf M (n + 1) k, (some [] : Option (List PyData)) with
          | some d, some ds => some (d :: ds)
          | _, _ => none) = _
        rw [hk]
        rfl
      | cons g1 g2 g3 _ ih =>
        rename_i i l is ls a0 _
        show (match dataOf M (n + 1) i, dataIs (dataOf M (n + 1)) ((is ++ [k]).map .p) with
          | some d, some ds => some (d :: ds)
          | _, _ => none) = _
        rw [dataOf_col g3 n, ih]
        rfl
    exact this h.dn
  show (match M[1]? with
    | some e => if e.a = b then dataOf M (M.length + 1) 1 else none
    | none => none) = _
  rw [h.out]
  simp only [if_true]
  unfold dataOf
  rw [h.out]
  simp only [all]
  rfl
end
end VL
namespace VL
open PySem PySem.Spec PyProof.Rows L2
variable [LT]
def flatD : PyData → Bool
  | .none => true
  | .bool _ => true
  | .int _ => true
  | .str _ => true
  | _ => false
def eqF : PyData → PyData → Bool
  | .none, .none => true
  | .bool a, .bool b => a == b
  | .bool a, .int b => (if a then 1 else 0) == b
  | .int a, .bool b => a == (if b then 1 else 0)
  | .int a, .int b => a == b
  | .str a, .str b => a == b
  | _, _ => false
def memF (d : PyData) (ds : List PyData) : Bool := ds.any fun e => eqF e d
def inAD : PyData → PyData → Option PyData
  | .str a, .str b => inD (.str a) (.str b)
  | d, .list ds => if flatD d && ds.all flatD then some (.bool (memF d ds)) else none
  | d, .tuple ds => if flatD d && ds.all flatD then some (.bool (memF d ds)) else none
  | _, _ => none
section
variable {X : Cx} {K : PySem.W.Frag} {F H : Hp} {e a b : Expr} {ma mb : ME} {pos : Pos}
theorem flat_dv {v : V} {d : PyData} (h : DV K F v d) (hd : flatD d = true) : flatV v = true := by
  cases h <;> first | rfl | cases hd
theorem flat_dvs : ∀ {vs : List V} {ds : List PyData}, DVs K F vs ds → ds.all flatD = true → vs.all flatV = true
  | _, _, .nil, _ => rfl
  | _, _, .cons h t, hd => by
    rw [List.all_cons, Bool.and_eq_true] at hd
    rw [List.all_cons, flat_dv h hd.1, flat_dvs t hd.2]
    rfl
theorem eqF_dv {v u : V} {d e : PyData} (h : DV K F v d) (h2 : DV K F u e) (hd : flatD d = true) (he : flatD e = true) : eqV v u = eqF d e := by
  cases h <;> first | (cases hd; done) | (cases h2 <;> first | (cases he; done) | rfl)
theorem memF_dvs {u : V} {e : PyData} (h2 : DV K F u e) (he : flatD e = true) : ∀ {vs : List V} {ds : List PyData}, DVs K F vs ds → ds.all flatD = true → inV u vs = memF e ds
  | _, _, .nil, _ => rfl
  | _, _, .cons h t, hd => by
    rw [List.all_cons, Bool.and_eq_true] at hd
    unfold inV memF
    rw [List.any_cons, List.any_cons, eqF_dv h h2 hd.1 he]
    congr 1
    exact memF_dvs h2 he t hd.2
theorem flat_dx {v : V} {d : PyData} (h : DX K F H v d) (hd : flatD d = true) : DV K F v d := by
  rcases h with h | ⟨a, vs, xs, rfl, rfl, h3, h4⟩
  · exact h
  · cases hd
theorem ops_inA : OpS K (fun x y H Q => rInS x y H Q ∨ rIn K false x y H Q) inAD := by
  intro F H x y d e z Q fh hx hy hf k
  unfold inAD at hf
  split at hf
  · exact .inl (ops_in F H x y _ _ z Q fh hx hy hf k)
  · split at hf
    · rename_i hc
      rw [Bool.and_eq_true] at hc
      cases hf
      obtain ⟨p, vs, rfl, h2, h3⟩ := hy.list fh
      have dx := flat_dx hx hc.1
      refine .inr ⟨p, vs, rfl, .inl (SqL.of h2), flat_dv dx hc.1, flat_dvs h3 hc.2, ?_⟩
      rw [if_neg Bool.false_ne_true, memF_dvs dx hc.1 h3 hc.2]
      exact k _ _ _ (Ext.refl fh) (.bl _)
    · cases hf
  · split at hf
    · rename_i hc
      rw [Bool.and_eq_true] at hc
      cases hf
      obtain ⟨p, vs, rfl, h2, h3⟩ := hy.tuple
      have dx := flat_dx hx hc.1
      refine .inr ⟨p, vs, rfl, .inr (sqT_mono fh h2), flat_dv dx hc.1, flat_dvs h3 hc.2, ?_⟩
      rw [if_neg Bool.false_ne_true, memF_dvs dx hc.1 h3 hc.2]
      exact k _ _ _ (Ext.refl fh) (.bl _)
    · cases hf
  · cases hf
theorem je_inA (ha : JE X a ma) (hb : JE X b mb) (hm : behindInMarks .In b = false := by rfl) : JE X (.Compare a [.In] [b] pos) (mBin inAD ma mb) := je_cmp (op_inS.or op_in_seq) ops_inA hm ha hb
end
end VL
namespace VL
open PySem PySem.Spec PyProof.Rows L2 HT
variable [LT]
section
variable {prog : Program} {w : World} {A : Around} {E : Value → Shared → Prop} {s : Shared}
end
section
variable {X : Cx} {e : Expr} {me : ME}
theorem DVs.reverse {K : PySem.W.Frag} {F : Hp} : ∀ {vs : List V} {ds : List PyData}, DVs K F vs ds → DVs K F vs.reverse ds.reverse
  | _, _, .nil => .nil
  | _, _, .cons h t => by
    rw [List.reverse_cons, List.reverse_cons]
    exact DVs.append (DVs.reverse t) (.cons h .nil)
end
end VL
namespace VL
open PySem PySem.Spec PyProof.Rows L2
variable [LT]
section
variable {X : Cx}
end
end VL
namespace VL
open PySem PySem.Spec PyProof.Rows L2
variable [LT]
def denU (K : PySem.W.Frag) (u : UE) : TE := fun σ H Q => ∃ P F0 qc F cell S M, RM K P F0 qc F cell S M σ H ∧ u S M (fun r S' M' => ∀ v F' H', Same F F' → RM K P F0 qc F' cell S' M' σ H' → VR K F' cell r v → Q v H')
theorem UEJ.den {X : Cx} {e : Expr} {u : UE} (h : UEJ X e u) : PE X e (denU X.K u) := by
  obtain ⟨t, p, s⟩ := h.ex
  exact ⟨fun pins s0 σ H Q I ⟨P, F0, qc, F, cell, S, M, R, hu⟩ => p.run pins s0 σ H Q I (s P F0 qc F cell S M σ H Q R hu)⟩
section
variable {X : Cx} {W : WX} {a b e elt tg iter : Expr} {ma mb me : ME} {ua ue : UE} {pos pos' : Pos} {sts : List Stmt} {mi : MI} {g : MG} {scope : Scope} {own : List (Str × Nat)} {ts : List Nat} {ml mh : MO} {lo hi : Option Expr}
theorem RM.apart {K : PySem.W.Frag} {P P' F0 F : Hp} {qc cell : Nat → Addr} {S : Sl} {M : Mem} {σ : L2.St} {H : Hp} (mo : MOk K P P' F0 F M) (R : RC K P' F0 qc F cell S σ H) {k : Nat} {e : Ent} (h : M[k]? = some e) : F e.a = none := by
  obtain ⟨o, ho⟩ := mo.at h
  cases q : F e.a with
  | none => rfl
  | some u =>
    rcases R.fr e.a (by rw [q]; simp) with z | z
    · exact absurd (mo.fresh k e h).2 z
    · rw [ho] at z; cases z
end
end VL
namespace VL
open PySem PySem.Spec PyProof.Rows L2
variable [LT]
def mUnpX2 (m : MO2) (g : MG) : MS := fun S => match m S with
  | some (.val d, S1) => match g d S1 with
    | some S2 => some (.nx, S2)
    | none => none
  | some (.exc c fs, S1) => some (.rz c fs, S1)
  | _ => none
section
variable {X : Cx} {W : WX} {e tg : Expr} {mo : MO2} {g : MG} {ts : List Nat} {pos : Pos}
end
end VL
namespace VL
open PySem PySem.Spec PyProof.Rows L2
variable [LT]
section
variable {X : Cx} {e : Expr} {mas : MA} {p pos : Pos}
end
end VL
namespace VL
open PySem PySem.Spec PyProof.Rows L2
variable [LT]
section
variable {X : Cx} {e : Expr} {me : ME} {te : TE} {c y z : Str} {j k l : Nat} {p0 c0 c1 ap1 pos1 apos pos : Pos} {r : V → List V → Hp → VK → Prop}
end
end VL
namespace VL
open PySem PySem.Spec PyProof.Rows L2
variable [LT]
def xAddL (ma mb : ME) : MX := fun S => match ma S with
  | none => none
  | some (r1, S1) => match mb S1 with
    | none => none
    | some (r2, S2) => match deref S2 r1, deref S2 r2 with
      | some (.list xs), some (.list ys) => if xs.length + ys.length ≤ 100000 then some (.c (.l (xs ++ ys)), S2) else none
      | _, _ => none
section
variable {X : Cx} {W : WX} {a b e : Expr} {ma mb me : ME} {pos : Pos}
end
def mOkX (me : ME) : MO2 := fun S => match me S with
  | some (.v d, S1) => some (.val d, S1)
  | _ => none
def mIfX (mt : MT) (ma mb : MO2) : MO2 := fun S =>
  match mt S with
  | some (true, S1) => ma S1
  | some (false, S1) => mb S1
  | none => none
section
variable {X : Cx} {W : WX} {c a b : Expr} {pos : Pos} {mt : MT} {me : ME} {ma mb : MO2}
end
def mTryF (sub : Str → Option Bool) (y i : Nat) (f : Str) (mb : MS) : MS := fun S => match mb S with
  | some (.nx, S1) => some (.nx, S1)
  | some (.bk, S1) => some (.bk, S1)
  | some (.ct, S1) => some (.ct, S1)
  | some (.rt r, S1) => some (.rt r, S1)
  | some (.rz c fs, S1) => match sub c with
    | some true => match fs.lookup f with
      | some d => if i < S1.length then some (.nx, (S1.set y (some (.v d))).set i none) else none
      | none => none
    | some false => some (.rz c fs, S1)
    | none => none
  | none => none
section
variable {X : Cx} {W : WX} {x n yn f : Str} {c : Value} {body : List Stmt} {np pos pos' yp yp2 sp ap : Pos} {mb : MS} {sub : Str → Option Bool}
end
def prm {α : Type} (π : List Nat) (ws : List α) : List α := if ws.length = π.length then π.filterMap (ws[·]?) else []
structure KP (K : PySem.W.Frag) (fd : FuncData) (ps ks : List Str) (π : List Nat) : Prop where
  to : ∀ (s : Shared) (ws : List Value), K.In s.heap → ws.length = π.length → BindsTo s fd ⟨[], ks.zip ws⟩ (ps.zip (prm π ws))
theorem KP.of {K : PySem.W.Frag} {x qual : Str} {st : Stmt} {f : Addr} {fd : FuncData} (F : Fun K x qual st f fd) {ps ks : List Str} {π : List Nat}
    (h : ∀ (kV doc pm : Value) (an : Option Addr) (cdv ct : Value) (ws : List Value), ws.length = π.length → bindArgs (PySem.W.fnOf x qual (defArgs st) (defBody st) (defScope st) .none kV doc pm an cdv ct) ⟨[], ks.zip ws⟩ = pure (ps.zip (prm π ws))) : KP K fd ps ks π := by
  obtain ⟨oc, od, kV, doc, pm, an, cdv, ct, osl, rfl, lk, hcd⟩ := F.ex
  exact ⟨fun s ws _ hl => .of_eq (h kV doc pm an cdv ct ws hl)⟩
def gP {α : Type} (π : List Nat) (us ws : List α) : List α := match us with
  | [] => prm π ws
  | _ :: _ => []
theorem vals_get {vs : List V} {us : List Value} (h : Vals vs us) (i : Nat) : (∃ v u, vs[i]? = some v ∧ us[i]? = some u ∧ RelV v u) ∨ (vs[i]? = none ∧ us[i]? = none) := by
  induction h generalizing i with
  | nil => exact .inr ⟨rfl, rfl⟩
  | cons a b ih =>
    cases i with
    | zero => exact .inl ⟨_, _, rfl, rfl, a⟩
    | succ i => exact ih i
theorem prm_rel {π : List Nat} {vs : List V} {us : List Value} (h : Vals vs us) : Vals (prm π vs) (prm π us) := by
  unfold prm
  rw [h.length]
  split
  · rename_i hl
    clear hl
    induction π with
    | nil => exact .nil
    | cons i π ih =>
      rcases vals_get h i with ⟨v, u, e1, e2, r⟩ | ⟨e1, e2⟩
      · rw [List.filterMap_cons_some e1, List.filterMap_cons_some e2]
        exact .cons r ih
      · rw [List.filterMap_cons_none e1, List.filterMap_cons_none e2]
        exact ih
  · exact .nil
theorem KP.kb {K : PySem.W.Frag} {fd : FuncData} {p0 : Str} {ps ks : List Str} {π : List Nat} (b : KP K fd (p0 :: ps) ks π) : KBinds K fd (p0 :: ps) ks (gP π) (gP π) :=
  ⟨fun s us ws h hl => by
    cases us with
    | nil =>
      refine b.to s ws h ?_
      by_cases q : ws.length = π.length
      · exact q
      · exfalso
        unfold gP prm at hl
        rw [if_neg q] at hl
        simp at hl
    | cons u us => simp [gP] at hl, fun {vs us zs ws} r rz => by
    cases r with
    | nil => exact prm_rel rz
    | cons _ _ => exact .nil⟩
def mPerm (π : List Nat) (mas : MA) : MA := fun S => match mas S with
  | some (rs, S1) => some (prm π rs, S1)
  | none => none
def tPerm (π : List Nat) (ta : TA) : TA := fun σ H Q => ta σ H fun zs H2 => Q (prm π zs) H2
theorem vrs_get {K : PySem.W.Frag} {F : Hp} {cell : Nat → Addr} : ∀ {rs : List SV} {vs : List V}, VRs K F cell rs vs → ∀ i : Nat, (∃ r v, rs[i]? = some r ∧ vs[i]? = some v ∧ VR K F cell r v) ∨ (rs[i]? = none ∧ vs[i]? = none)
  | [], _, h, i => by rw [show _ = [] from h]; exact .inr ⟨rfl, rfl⟩
  | r :: rs, _, ⟨v, ws, h1, h2, h3⟩, i => by
    subst h1
    cases i with
    | zero => exact .inl ⟨_, _, rfl, rfl, h2⟩
    | succ i => exact vrs_get h3 i
theorem vrs_prm {K : PySem.W.Frag} {F : Hp} {cell : Nat → Addr} {π : List Nat} {rs : List SV} {vs : List V} (h : VRs K F cell rs vs) : VRs K F cell (prm π rs) (prm π vs) := by
  unfold prm
  rw [h.length]
  split
  · rename_i hl
    clear hl
    induction π with
    | nil => rfl
    | cons i π ih =>
      rcases vrs_get h i with ⟨v, u, e1, e2, r⟩ | ⟨e1, e2⟩
      · rw [List.filterMap_cons_some e1, List.filterMap_cons_some e2]
        exact ⟨_, _, rfl, r, ih⟩
      · rw [List.filterMap_cons_none e1, List.filterMap_cons_none e2]
        exact ih
  · rfl
theorem snd_perm {K : PySem.W.Frag} {π : List Nat} {ta : TA} {mas : MA} (sa : SndA K ta mas) : SndA K (tPerm π ta) (mPerm π mas) := by
  intro P F0 qc F cell S σ H Q rs S' R hm k
  unfold mPerm at hm
  split at hm
  · rename_i rs1 S1 e1
    cases hm
    exact sa P F0 qc F cell S σ H _ rs1 S' R e1 fun vs F1 H1 s1 R1 q1 => k _ F1 H1 s1 R1 (vrs_prm q1)
  · cases hm
section
variable {X : Cx} {W : WX} {CX : CXT} {k n : Nat} {f : Addr} {fd : FuncData} {p0 : Str} {ps ks : List Str} {π : List Nat} {x : Str} {p pos : Pos} {kws : List Keyword} {m : MFX} {mf : MF} {mas : MA} {E : L2.St → XK}
theorem pe_callGKS (G : FnG X.prog X.w X.K X.mg X.base CX k f fd ps (spX X.K n m)) (gd : X.A.guards = some []) (hr : Room k X.A) (hg : Gl X x) (hm : X.mg x = some (.ref f)) (hk : PySem.W.keepIn X.K (.ref f) = true) {g : List Value → List Value → List Value} {gV : List V → List V → List V} (hb : KBinds X.K fd ps ks g gV) (hx : ∀ σ, PassesAt CX X σ (E σ)) {tk : TA}
    (hkw : PK X kws tk) (hall : (backToKw pos (keywordEach kws X.env)).all (·.1.isSome) = true := by rfl) (hks : (backToKw pos (keywordEach kws X.env)).filterMap (·.1) = ks := by rfl)
    (hdb : (x == ("__debug__" : Str)) = false := by decide)
    (hpl : ((backTo pos (starEach [] X.env)).any (·.1) || (backToKw pos (keywordEach kws X.env)).any (·.1.isNone)) = false := by rfl) :
    PE X (.Call (.Name x p) [] kws pos) (fun σ H Q => tk σ H fun zs H2 => spX X.K n m (gV [] zs) H2 Q (E σ)) := by
  refine ⟨fun pins s σ H Q I h => ?_⟩
  refine wpAny_Call_Name_kw (ld_glob I hg hm ?_ hdb)
  refine PySem.W.callWith_KW0 (h₀ := X.base) I.ok.mod.kin hk hall ?_ hpl
  refine thn (hkw.run pos pins s σ H _ I h) fun ws s2 ⟨zs, H2, I2, rz, q2⟩ => ⟨I2.kIn, ?_⟩
  rw [hks]
  have r2 := hb.rel (vs := []) (us := []) .nil rz
  have hl : (g [] ws).length = ps.length := by rw [← r2.length]; exact G.len _ _ _ _ q2
  refine wpAny_call (codeAny_mono (G.run X.A X.stack s2 H2 ⟨[], ks.zip ws⟩ (g [] ws) (gV [] zs) Q (E σ) gd hr I2.env0 (hb.to s2 [] ws I2.kIn hl) r2 q2) fun r s' hq => ?_)
  cases r with
  | error u => exact hx σ pins H2 s2 u s' I2 hq
  | ok fl =>
    cases fl with
    | ret u => exact I2.after hq
    | next => exact False.elim hq
    | brk => exact False.elim hq
    | cont => exact False.elim hq
theorem je_callFKPX (G : FnG X.prog X.w X.K X.mg X.base (L2.CX X.prog X.w) k f fd (p0 :: ps) (spX X.K n m)) (gd : X.A.guards = some []) (hr : Room k X.A) (hm : X.mg x = some (.ref f)) (hk : PySem.W.keepIn X.K (.ref f) = true) (hb : KP X.K fd (p0 :: ps) ks π) (ha : JK X kws mas)
    (hg : Gl X x := by rfl) (hall : (backToKw pos (keywordEach kws X.env)).all (·.1.isSome) = true := by rfl) (hks : (backToKw pos (keywordEach kws X.env)).filterMap (·.1) = ks := by rfl) (hdb : (x == ("__debug__" : Str)) = false := by decide)
    (hpl : ((backTo pos (starEach [] X.env)).any (·.1) || (backToKw pos (keywordEach kws X.env)).any (·.1.isNone)) = false := by rfl) :
    JE X (.Call (.Name x p) [] kws pos) (mValX (mCallX n m (mPerm π mas))) := by
  obtain ⟨ta, pa, sa⟩ := ha.ex
  have none_ : ∀ σ : L2.St, PassesAt (L2.CX X.prog X.w) X σ (WE W0 σ) := fun σ pins H s e s' I c => by
    obtain ⟨_, _, _, _, _, _, _, _, _, _, _, _, z⟩ := c
    exact z.elim
  refine ⟨_, pe_callGKS G gd hr hg hm hk hb.kb none_ pa hall hks hdb hpl, fun P F0 qc F cell S σ H Q r S' R hz kk => ?_⟩
  unfold mValX at hz
  split at hz
  · rename_i d S1 e1
    cases hz
    exact snd_callX (W := W0) (snd_perm (π := π) sa) P F0 qc F cell S σ H Q _ S' R e1 fun v F' H' f1 R1 q => kk v F' H' f1 R1 q
  · cases hz
end
end VL
namespace VL
end VL
namespace VL
open PySem PySem.Spec PyProof.Rows L2
variable [LT]
section
variable {X : Cx} {W : WX} {a b c d : Expr} {rest : List Stmt} {pos : Pos}
end
end VL
namespace VL
open PySem PySem.Spec PyProof.Rows L2
variable [LT]
open Classical in
section
variable {X : Cx} {c : Expr} {mt : MT}
end
structure PreOf (m : MS) (U : US → US) : Prop where
  nx : ∀ {v : US} {S S' : Sl} {M : Mem} {Q : Fl → Sl → Mem → Prop}, m S = some (.nx, S') → v S' M Q → U v S M Q
  rt : ∀ {v : US} {S S' : Sl} {r : SV} {M : Mem} {Q : Fl → Sl → Mem → Prop}, m S = some (.rt r, S') → Q (.rt r) S' M → U v S M Q
end VL
namespace S3
open PySem PySem.Spec PyProof.Rows SrtO
def At3 (h : Heap) (t : Int × Int × Str) (v : Value) : Prop := ∃ a o i j k n, v = .ref a ∧ h.get? a = some o ∧ (o.cls = .type "tuple" ∧ o.data = .seq #[.int t.1 i, .int t.2.1 j, .str t.2.2 k] n)
theorem At3.go {h g : Heap} {t : Int × Int × Str} {v : Value} (p : At3 h t v) (k : ∀ b o, h.get? b = some o → o.cls = .type "tuple" → g.get? b = some o) : At3 g t v := by
  obtain ⟨a, o, i, j, l, n, rfl, x, y⟩ := p
  exact ⟨a, o, i, j, l, n, rfl, k a o x y.1, y⟩
section
variable {prog : Program} {w : World} {A : Around} {s : Shared}
theorem place {b fin e : Bool} {Q : Bool → Shared → Prop} {p q : Value} {r : List (Value × Value)} {i : Nat} (he : SeqAt.EqAt A s p q e) (h1 : e = true → PySem.W.KatLex prog w A b fin Q r (i + 1) s) (h2 : e = false → wpAny (model prog w) A (oneLt' (b && i == 0) p q) Q (fun _ _ => False) s) :
    PySem.W.KatLex prog w A b fin Q ((p, q) :: r) i s :=
  PySem.W.kat_cons (he prog w _ _ (match e, h1, h2 with
    | true, h1, _ => PySem.W.kat_yes (h1 rfl)
    | false, _, h2 => PySem.W.kat_no (h2 rfl)))
end
end S3
namespace VL
open PySem PySem.Spec PyProof.Rows L2
variable [LT]
abbrev Tri := Int × Int × Str
def triD (t : Tri) : PyData := .tuple [.int t.1, .int t.2.1, .str t.2.2]
abbrev triK (t : Tri) : Int × Int := (t.1, t.2.1)
open Classical in
noncomputable def triOf (K : PySem.W.Frag) (H : Hp) (v : V) : Tri := if h : ∃ t : Tri, ∃ a, v = .ref a ∧ SqT K H a [.int t.1, .int t.2.1, .str t.2.2] then h.choose else (0, 0, "")
section
variable {X : Cx} {pins : Frame} {σ : Hp}
end
open Classical in
noncomputable def sortedF : List PyData → Option PyData
  | [.list ds] => if h : ∃ ts : List Tri, ds = ts.map triD ∧ ∀ t ∈ ts, ∀ u ∈ ts, triK t = triK u → t.2.2 = u.2.2 then some (.list (h.choose.mergeSort (fun t u => !(SrtO.lexB (triK u) (triK t))) |>.map triD)) else none
  | _ => none
section
variable {X : Cx} {e : Expr} {mas : MA} {p pos : Pos}
end
end VL
namespace VL
open PySem PySem.Spec PyProof.Rows L2
variable [LT]
structure ExtT (F H F' H' : Hp) : Prop where
  f : Same F F'
  fh : Same F' H'
  h : ∀ b o, H b = some o → (∀ ps, o ≠ .tbl ps) → H' b = some o
  fr : ∀ b, F' b ≠ none → F b ≠ none ∨ FreeT H b
  nf : ∀ b ps, F' b ≠ some (.tbl ps)
  tb : LamX.Tabs LT.T H'
section
variable {K : PySem.W.Frag} {P F0 F F' F2 : Hp} {qc cell : Nat → Addr} {S : Sl} {σ : L2.St} {H H' H2 : Hp}
theorem RC.extT (R : RC K P F0 qc F cell S σ H) (e : ExtT F H F' H') : RC K P F0 qc F' cell S σ H' where
  len := R.len
  f0 := R.f0.trans e.f
  fh := e.fh
  ph := fun b o z => e.h b o (R.ph b o z) fun ps q => R.np b ps (by rw [z, q])
  fr := fun b z => by
    rcases e.fr b z with z | z
    · exact R.fr b z
    · exact .inr (R.freeP z)
  vl := fun i d h => by
    obtain ⟨v, h1, h2⟩ := R.vl i d h
    exact ⟨v, h1, h2.mono e.f⟩
  sc := fun i ns h => by
    obtain ⟨a, h1, h2⟩ := R.sc i ns h
    exact ⟨a, h1, h2.mono e.f⟩
  cl := fun i x xs h hx => by
    obtain ⟨h1, h2, h3, h5⟩ := R.cl i x xs h hx
    obtain ⟨u, h4, co⟩ := h5.is
    refine ⟨h1, ?_, h3, h5.step e.f fun o q co => e.h _ _ q fun _ z => by rw [z] at co; rcases co with ⟨vs, z⟩ | ⟨C, dx, fs, z⟩ <;> cases z⟩
    cases q : F' (cell i) with
    | none => rfl
    | some o =>
      rcases e.fr (cell i) (by rw [q]; simp) with z | z | ⟨ps, z⟩
      · exact absurd h2 z
      · rw [h4] at z; cases z
      · rw [h4] at z
        cases z
        rcases co with ⟨vs, z⟩ | ⟨C, dx, fs, z⟩ <;> cases z
  qs := R.qs
  inj := R.inj
  np := R.np
  nf := e.nf
  tb := e.tb
def hideL (S : Sl) : Sl := S.map fun x => match x with
  | some (.v d) => some (.v d)
  | some (.s o) => some (.s o)
  | _ => none
theorem hide_v {i : Nat} {d : PyData} (h : (hideL S)[i]? = some (some (.v d))) : S[i]? = some (some (.v d)) := by
  unfold hideL at h
  rw [List.getElem?_map] at h
  obtain ⟨x, h1, h2⟩ := Option.map_eq_some_iff.mp h
  rw [h1]
  split at h2 <;> first | (cases h2; rfl) | cases h2
theorem hide_s {i : Nat} {d : Opq} (h : (hideL S)[i]? = some (some (.s d))) : S[i]? = some (some (.s d)) := by
  unfold hideL at h
  rw [List.getElem?_map] at h
  obtain ⟨x, h1, h2⟩ := Option.map_eq_some_iff.mp h
  rw [h1]
  split at h2 <;> first | (cases h2; rfl) | cases h2
theorem hide_no {i : Nat} {x : SL} (h : (hideL S)[i]? = some (some x)) : x.held = none := by
  unfold hideL at h
  rw [List.getElem?_map] at h
  obtain ⟨y, h1, h2⟩ := Option.map_eq_some_iff.mp h
  split at h2 <;> first | (cases h2; rfl) | cases h2
theorem RC.lam (R : RC K P F0 qc F cell S σ H) (f : Same F F2) (fh : Same F2 H2) (nf : ∀ b ps, F2 b ≠ some (.tbl ps)) (tb : LamX.Tabs LT.T H2) : RC K (fun b => noT (H2 b)) F2 qc F2 cell (hideL S) σ H2 where
  len := by unfold hideL; rw [List.length_map]; exact R.len
  f0 := Same.refl _
  fh := fh
  ph := fun b o z => noT_some z
  fr := fun b z => .inl z
  vl := fun i d h => by
    obtain ⟨v, h1, h2⟩ := R.vl i d (hide_v h)
    exact ⟨v, h1, h2.mono f⟩
  sc := fun i d h => by
    obtain ⟨v, h1, h2⟩ := R.sc i d (hide_s h)
    exact ⟨v, h1, h2.mono f⟩
  cl := fun i x xs h hx => by rw [hide_no h] at hx; cases hx
  qs := fun i xs h => by cases hide_no h
  inj := fun i j x y h1 _ hx _ _ => by rw [hide_no h1] at hx; cases hx
  np := fun b ps => noT_tbl _ ps
  nf := nf
  tb := tb
theorem RC.lam_out (R : RC K (fun b => noT (H b)) F qc F' cell S σ H') (f : Same F F') : ExtT F H F' H' where
  f := f
  fh := R.fh
  h := fun b o z n => R.ph b o (by show noT (H b) = _; rw [z]; exact noT_of n)
  fr := fun b z => (R.fr b z).imp id noT_none
  nf := R.nf
  tb := R.tb
end
def denO (K : PySem.W.Frag) (W : WX) (m : MO2) : TE := fun σ H Q => ∃ P F0 qc F cell S o S', RC K P F0 qc F cell S σ H ∧ m S = some (o, S') ∧
  (match o with
    | .val d => ∀ v F' H', Same F F' → RC K P F0 qc F' cell S' σ H' → DV K F' v d → Q v H'
    | .exc c fs => ∀ (C : Addr) (dd : Option Addr) (us : List V) (F' H' : Hp), Same F F' → RC K P F0 qc F' cell S' σ H' → PySem.W.nsIn K mainGlobals c = some (some (.ref C)) → VX.XDA F' dd ((fs.map (·.1)).zip us) → DVs K F' us (fs.map (·.2)) → W (.ref C) dd σ H')
theorem JO2.den {X : Cx} {W : WX} {e : Expr} {m : MO2} (h : JO2 X W e m) : PE X e (denO X.K W m) := by
  obtain ⟨t, p, s⟩ := h.ex
  exact ⟨fun pins s0 σ H Q I ⟨P, F0, qc, F, cell, S, o, S', R, hm, k⟩ => p.run pins s0 σ H Q I (s P F0 qc F cell S σ H Q o S' R hm k)⟩
def LamK (K : PySem.W.Frag) (F2 H2 : Hp) (Q : VK) (E : XK) : Out → Prop
  | .val x => ∀ v F3 H3, ExtT F2 H2 F3 H3 → DV K F3 v x → Q v H3
  | .exc c fs => ∀ (C : Addr) (dd : Option Addr) (us : List V) (F3 H3 : Hp), ExtT F2 H2 F3 H3 → PySem.W.nsIn K mainGlobals c = some (some (.ref C)) → VX.XDA F3 dd ((fs.map (·.1)).zip us) → DVs K F3 us (fs.map (·.2)) → E (.ref C) dd H3
def LamT (K : PySem.W.Frag) (F : Hp) (o : Out) (tl : XK → Hp → VK → Prop) : Prop := ∀ F2 H2, Same F F2 → Same F2 H2 → (∀ b ps, F2 b ≠ some (.tbl ps)) → LamX.Tabs LT.T H2 → ∀ (E : XK) (Q : VK), LamK K F2 H2 Q E o → tl E H2 Q
def TLam (K : PySem.W.Frag) (g : Out → Option PyData) : (XK → Hp → VK → Prop) → Hp → VK → Prop := fun tl H Q => ∃ (F : Hp) (o : Out) (d : PyData), Same F H ∧ (∀ b ps, F b ≠ some (.tbl ps)) ∧ LamX.Tabs LT.T H ∧ g o = some d ∧
  LamT K F o tl ∧
  ∀ v F' H', ExtT F H F' H' → DV K F' v d → Q v H'
open Classical in
noncomputable def mLam (mo : MO2) (g : Out → Option PyData) : ME := fun S => match mo (hideL S) with
  | some (o, S1) => if S1 = hideL S then (g o).map fun d => (.v d, S) else none
  | none => none
theorem snd_lam {K : PySem.W.Frag} {mo : MO2} {g : Out → Option PyData} : SndE K (LamX.tLam LT.T (TLam K g) fun E => denO K (fun cls d _ H => E cls d H) mo) (mLam mo g) := by
  intro P F0 qc F cell S σ H Q r S' R hm k
  unfold mLam at hm
  split at hm
  · rename_i o S1 e1
    split at hm
    · rename_i hs
      subst hs
      obtain ⟨d, hd, e2⟩ := Option.map_eq_some_iff.mp hm
      cases e2
      refine ⟨R.tb, fun H1 eN T1 => ?_⟩
      have f1 : Same F H1 := fun b u z => eN b u (R.fh b u z) fun ps q => R.nf b ps (by rw [z, q])
      have x1 : ExtT F H F H1 := ⟨Same.refl _, f1, fun b u z n => eN b u z n, fun b z => .inl z, R.nf, T1⟩
      refine ⟨F, o, d, f1, R.nf, T1, hd, fun F2 H2 a b c t E Q' hq => ?_, fun v F' H' x dv => k v F' H' x.f ((R.extT x1).extT x) dv⟩
      refine ⟨_, _, qc, F2, cell, hideL S, o, hideL S, R.lam a b c t, e1, ?_⟩
      cases o with
      | val x => exact fun v F3 H3 f R3 dv => hq v F3 H3 (R3.lam_out f) dv
      | exc c fs => exact fun C dd us F3 H3 f R3 h1 h2 h3 => hq C dd us F3 H3 (R3.lam_out f) h1 h2 h3
    · cases hm
  · cases hm
end VL
namespace VL
open PySem PySem.Spec PyProof.Rows L2
variable [LT]
def cut1 (F : Hp) (c : Addr) : Hp := fun b => if b = c then none else F b
theorem cut1_of {F : Hp} {c b : Addr} {o : HO} {φ : Heap → Prop} (hc : F c = some (.ext φ)) (h : F b = some o) (ho : ∀ φ, o ≠ .ext φ) : cut1 F c b = some o := by
  unfold cut1
  rw [if_neg]
  · exact h
  · rintro rfl
    rw [hc] at h
    exact ho φ (Option.some.inj h).symm
section
variable {K : PySem.W.Frag} {F : Hp} {c : Addr} {φ : Heap → Prop}
theorem sqT_cut (hc : F c = some (.ext φ)) {p : Addr} {ys : List V} (h : SqT K F p ys) : SqT K (cut1 F c) p ys := by
  rcases h with (h | ⟨o, h⟩) | h
  · exact .inl (.inl (cut1_of hc h fun _ e => by cases e))
  · exact .inl (.inr ⟨o, cut1_of hc h fun _ e => by cases e⟩)
  · exact .inr h
mutual
theorem DV.cut (hc : F c = some (.ext φ)) : ∀ {v : V} {d : PyData}, DV K F v d → DV K (cut1 F c) v d
  | _, _, .non => .non
  | _, _, .bl b => .bl b
  | _, _, .int i => .int i
  | _, _, .str z => .str z
  | _, _, .lst h hs => .lst (cut1_of hc h fun _ e => by cases e) (DVs.cut1 hc hs)
  | _, _, .tup h hs => .tup (sqT_cut hc h) (DVs.cut1 hc hs)
  | _, _, .dct h h1 h2 => .dct (cut1_of hc h fun _ e => by cases e) (DVs.cut1 hc h1) (DVs.cut1 hc h2)
theorem DVs.cut1 (hc : F c = some (.ext φ)) : ∀ {vs : List V} {ds : List PyData}, DVs K F vs ds → DVs K (VL.cut1 F c) vs ds
  | _, _, .nil => .nil
  | _, _, .cons h t => .cons (DV.cut hc h) (DVs.cut1 hc t)
end
end
section
variable {X : Cx} {pins : List (Addr × Obj)} {σ : L2.St} {H HZ : Hp} {s s1 : Shared}
theorem pe_actS {CXg : CXT} {Eg : XK} {Ng : List Str} {qg : Str} {sg : Scope} {g f c' : Addr} {cdg pm ctv : Value} {params : Arguments} {body : Expr} {scope : Scope} {k i : Nat} {a : Str} {pn : List (Addr × Obj)} {xe : Value → Shared → Prop} {W : WX} {tb : XK → TE} {p1 p2 : Pos}
    (I : Inv X pins σ H s) (L : LamX.LamS X.env.scope scope) (hf : s.heap.get? f = some (PySem.W.kla_obj "<lambda>" (X.env.qual ++ "<lambda>") params body scope (cloFrom X.env.cells scope.names []) pm c' ctv)) (hfn : H f = none) (hfr : f ∉ frs X.stack)
    (hbind : bindArgs (PySem.W.kla_fn "<lambda>" (X.env.qual ++ "<lambda>") params body scope (cloFrom X.env.cells scope.names []) pm (.ref c') ctv) ⟨[], []⟩ = pure [])
    (tk : Takes ((cxOf CXg X.prog X.w X.K X.mg X.base Ng qg sg g cdg X.A X.stack s H Eg).tr pn xe) W) (gd : X.A.guards = some []) (hr : Room (k + 1) (X.A.deeper (envOfC qg sg s.heap.objs.size g cdg)))
    (hbody : ∀ (E : XK) (A : Around) (outer : List Env) (s : Shared) (H : Hp), A.guards = some [] → Room k (A.deeper (LamX.lamEnv X scope s.heap.objs.size f c')) → PE (LamX.lamCx X A outer s H E scope f c') body (tb E))
    (hN : Ng[i]? = some a) (hv : Vis sg a) (hd : (a == ("__debug__" : Str)) = false := by decide) (hcd : (a == ("__classdict__" : Str)) = false := by decide) :
    PE ((cxOf CXg X.prog X.w X.K X.mg X.base Ng qg sg g cdg X.A X.stack s H Eg).tr pn xe) (.Call (.Name a p1) [] [] p2)
      (fun σZ HZ Q => σZ[i]? = some (some (.ref f)) ∧ HZ c' = some (LamX.CodeO c' (X.env.qual ++ "<lambda>")) ∧ tb (WE W σZ) σ HZ Q) := by
  refine ⟨fun pinsZ sZ σZ HZ Q IZ h => ?_⟩
  obtain ⟨at0, known, told⟩ := h
  refine wpAny_Call_Name_kw (thn ((pe_var (pos := p1) (i := i) hN hv hd hcd).run pinsZ sZ σZ HZ (fun v H1 => v = .ref f ∧ H1 = HZ) IZ ⟨.ref f, at0, rfl, rfl⟩) fun u s1 got => ?_)
  obtain ⟨v, H1, I1, r1, rfl, rfl⟩ := got
  obtain rfl : u = Value.ref f := r1
  have here := I1.base.keep f _ hf hfn hfr (fun z => nomatch (show f ∈ ([] : List Addr) from z))
  refine PySem.W.callWith_F0 ⟨_, _, _, _, here⟩ (wpAny_call (codeAny_mono (?_ : codeAny (model X.prog X.w) (X.A.deeper (envOfC qg sg s.heap.objs.size g cdg)) (.call (.ref f) ⟨[], []⟩) (CR (L2.CX X.prog X.w) (envOfC qg sg s.heap.objs.size g cdg :: X.stack) X.prog X.w H1 s1 Q (WE W σZ)) s1) fun r s' hq => ?_))
  · obtain ⟨⟨oc, vs, t, hoc, hdc, hvc⟩, _, _⟩ := I1.hok c' _ known
    refine PySem.W.kla_callFunE hr.depth here rfl L.co L.gen rfl ⟨c', oc, vs, t, rfl, hoc, hdc, hvc⟩ ?_
    rw [hbind]
    refine wpAny_pure (wpAny_newFunctionEnv (fun y hy => (L.own y hy).2) (fun y hy => absurd hy (by simp)) (fun h₁ hns hsb => ⟨I1.nolimit.fresh _ hsb, ?_⟩) L.kind)
    show codeAny _ _ (.expr body (LamX.lamEnv X scope s1.heap.objs.size f c')) _ _
    have J : Inv (LamX.lamCx X (X.A.deeper (envOfC qg sg s.heap.objs.size g cdg)) (envOfC qg sg s.heap.objs.size g cdg :: X.stack) s1 H1 (WE W σZ) scope f c') [] σ H1 { s1 with heap := h₁, toks := s1.toks + ([] : List (Str × Value)).length } :=
      LamX.lam_start2 I L I1.env0 hr.hd I1.base hns fun b o e => hsb.extBut b o (Nat.ne_of_lt (Heap.lt_size e)) (Heap.get?_push_of_some _ e)
    refine PySem.W.kla_codeExpr (wpAny_mono ((hbody (WE W σZ) (X.A.deeper (envOfC qg sg s.heap.objs.size g cdg)) _ s1 H1 (show (X.A.deeper (envOfC qg sg s.heap.objs.size g cdg)).guards = some [] from gd) (hr.deeper _)).run [] _ _ H1 Q J told) (fun v s' hq => ?_) fun e s' hq => hq)
    obtain ⟨w', H', J', rv, q⟩ := hq
    exact ⟨w', H', J'.os, J'.bare, J'.base, J'.hok, rv, q⟩
  · cases r with
    | error e => exact passAt tk σZ pinsZ H1 s1 e s' I1 hq
    | ok fl =>
      cases fl with
      | ret u => exact I1.after hq
      | next => exact False.elim hq
      | brk => exact False.elim hq
      | cont => exact False.elim hq
end
def GivesS (X : Cx) (Ng : List Str) (x : Str) (sg : Scope) (g : Addr) (cdg : Value) (bg : List Stmt) (a : Str) (q : Str) (TT : (XK → Hp → VK → Prop) → Hp → VK → Prop) : Prop :=
  ∀ (f c' : Addr) (s : Shared) (H : Hp) (Q : VK) (tl : XK → Hp → VK → Prop), Room 1 (X.A.deeper (envOfC x sg s.heap.objs.size g cdg)) →
    (∀ (W : WX) (pn : List (Addr × Obj)) (xe : Value → Shared → Prop) (p1 p2 : Pos), Takes ((cxOf CX0 X.prog X.w X.K X.mg X.base Ng x sg g cdg X.A X.stack s H E0).tr pn xe) W →
      PE ((cxOf CX0 X.prog X.w X.K X.mg X.base Ng x sg g cdg X.A X.stack s H E0).tr pn xe) (.Call (.Name a p1) [] [] p2) (fun σZ HZ Q => σZ[0]? = some (some (.ref f)) ∧ HZ c' = some (LamX.CodeO c' q) ∧ tl (WE W σZ) HZ Q)) →
    H c' = some (LamX.CodeO c' q) → TT tl H Q →
    ∃ t, PSs (cxOf CX0 X.prog X.w X.K X.mg X.base Ng x sg g cdg X.A X.stack s H E0).nox bg t ∧ t { nx := fun _ H' => Q .non H', rt := Q } (L2.start Ng [.ref f]) H
section
variable {X : Cx}
theorem pe_lamS {T : List (Addr × Str)} {TT : (XK → Hp → VK → Prop) → Hp → VK → Prop} {x a : Str} {g c P : Addr} {k : Nat} {pg : Arguments} {bg : List Stmt} {sg : Scope} {dV kV doc pm cdv ct oc : Value} {an od : Option Addr} {osl : Array (Option Value)} {Ng : List Str}
    {params : Arguments} {body : Expr} {scope : Scope} {t : XK → TE} {p lpos pos : Pos} (gd : X.A.guards = some []) (hg : Gl X x) (hm : X.mg x = some (.ref g)) (hk : PySem.W.keepIn X.K (.ref g) = true)
    (lk : X.K.lookup g = some ⟨oc, od, .func (PySem.W.fnOf x x pg bg sg dV kV doc pm an cdv ct), osl⟩) (hcg : PySem.W.codeIn X.K cdv x = true) (hb : L2.Binds X.K (PySem.W.fnOf x x pg bg sg dV kV doc pm an cdv ct) [a] []) (Sg : FnScope Ng [a] sg) (hNg : Ng[0]? = some a) (hva : Vis sg a)
    (hG : GivesS X Ng x sg g cdv bg a (X.env.qual ++ "<lambda>") TT)
    (TB : LamX.TabB X.base X.mg c P) (hcode : X.env.code = .ref c) (hmT : (P, X.env.qual ++ "<lambda>") ∈ T) (hu : ∀ p ∈ T, p.1 = P → p.2 = X.env.qual ++ "<lambda>") (hr : Room (k + 2) X.A) (L : LamX.LamS X.env.scope scope) (hdef : defaultsOf params X.env = ([], []))
    (hbind : ∀ (q : Str) (cl : List (Str × Addr)) (pm cv ctv : Value), bindArgs (PySem.W.kla_fn "<lambda>" q params body scope cl pm cv ctv) ⟨[], []⟩ = pure [])
    (hbody : ∀ (A : Around) (outer : List Env) (s : Shared) (H : Hp) (E : XK) (f c' : Addr), A.guards = some [] → Room k (A.deeper (LamX.lamEnv X scope s.heap.objs.size f c')) → PE (LamX.lamCx X A outer s H E scope f c') body (t E))
    (hdb : (x == ("__debug__" : Str)) = false := by decide) (hd : (a == ("__debug__" : Str)) = false := by decide) (hcd : (a == ("__classdict__" : Str)) = false := by decide) :
    PE X (.Call (.Name x p) [.Lambda params body scope lpos] [] pos) (LamX.tLam T TT t) := by
  refine ⟨fun pins s σ H Q I h => ?_⟩
  obtain ⟨hT, more⟩ := h
  refine wpAny_Call_Name_kw (ld_glob I hg hm (PySem.W.callWith_K (h₀ := X.base) I.ok.mod.kin hk ?_ (by rfl) (by rfl)) hdb)
  show wpAny _ _ (spliced ((false, eval (.Lambda params body scope lpos) X.env) :: backTo pos (starEach [] X.env))) _ _ s
  refine Calls.spliced_cons (LamX.lam_make2 I TB hcode hmT hu hT hdef (L.has I.ok) fun f c' pm' ctv H1 s' I1 eN T1 hf hfn hfr hco => Calls.spliced_nil ⟨I1.kIn, wpAny_call (codeAny_mono (?_ : codeAny (model X.prog X.w) X.A (.call (.ref g) ⟨[.ref f], []⟩) (CR CX0 X.stack X.prog X.w H1 s' Q E0) s') fun r s2 hq => ?_)⟩)
  · refine LamX.run_ofS (N := Ng) (ps := [a]) (us := [.ref f]) (vs := [.ref f]) lk hcg Sg hr I1.env0 (hb s' [.ref f] I1.kIn rfl) (.cons rfl .nil) rfl fun hr' => ?_
    obtain ⟨t', ht', hq'⟩ := hG f c' s' H1 Q (fun E H' Q' => t E σ H' Q') (hr'.mono (by omega)) (fun W pn xe p1 p2 tk => pe_actS (i := 0) I1 L hf hfn hfr (hbind _ _ _ _ _) tk gd hr' (fun E A outer s H gd2 hr2 => hbody A outer s H E f c' gd2 hr2) hNg hva hd hcd) hco (more H1 eN T1)
    exact ⟨t', ht'.nox, hq'⟩
  · cases r with
    | error e => exact (show False from hq).elim
    | ok fl =>
      cases fl with
      | ret u => exact I1.after hq
      | next => exact False.elim hq
      | brk => exact False.elim hq
      | cont => exact False.elim hq
end
open Classical in
noncomputable def mAct (o : Out) (f : Addr) (F0 : Hp) : MO2 := fun S => if S[0]? = some (some (.s (.fn f F0))) then some (o, S) else none
theorem mAct_eq {o : Out} {f : Addr} {F0 : Hp} {S : Sl} : mAct o f F0 (some (.s (.fn f F0)) :: S) = some (o, some (.s (.fn f F0)) :: S) := if_pos rfl
theorem jo_act {X : Cx} {W : WX} {a : Str} {f c' : Addr} {q : Str} {o : Out} {F F1 : Hp} {tl : XK → Hp → VK → Prop} {p1 p2 : Pos} (pe : PE X (.Call (.Name a p1) [] [] p2) (fun σZ HZ Q => σZ[0]? = some (some (.ref f)) ∧ HZ c' = some (LamX.CodeO c' q) ∧ tl (WE W σZ) HZ Q))
    (hF : Same F F1) (hc : F1 c' = some (LamX.CodeO c' q))
    (htl : LamT X.K F o tl) :
    JO2 X W (.Call (.Name a p1) [] [] p2) (mAct o f F1) := by
  refine ⟨_, pe, fun P F0 qc F2 cell S σ H Q o' S' R hm k => ?_⟩
  unfold mAct at hm
  split at hm
  · rename_i h0
    cases hm
    obtain ⟨v, g1, rfl, g3⟩ := R.sc 0 _ h0
    refine ⟨g1, R.fh _ _ (g3 _ _ hc), htl F2 H (hF.trans g3) R.fh R.nf R.tb _ _ ?_⟩
    cases o with
    | val x => exact fun v F3 H3 e dv => k v F3 H3 e.f (R.extT e) dv
    | exc c fs => exact fun C dd us F3 H3 e h1 h2 h3 => k C dd us F3 H3 e.f (R.extT e) h1 h2 h3
  · cases hm
def GivesD (n : Nat) (m : Out → Addr → Hp → MS) (o : Out) (d : PyData) : Prop := ∀ f F0, ∃ S', m o f F0 (startS n [.s (.fn f F0)]) = some (.rt (.v d), S')
open Classical in
noncomputable def givesO (n : Nat) (m : Out → Addr → Hp → MS) (o : Out) : Option PyData := if h : ∃ d, GivesD n m o d then some h.choose else none
theorem givesO_d {n : Nat} {m : Out → Addr → Hp → MS} {o : Out} {d : PyData} (h : givesO n m o = some d) : GivesD n m o d := by
  unfold givesO at h
  split at h
  · rename_i q
    cases h
    exact q.choose_spec
  · cases h
theorem givesO_of {n : Nat} {m : Out → Addr → Hp → MS} {o : Out} {d : PyData} (h : GivesD n m o d) : givesO n m o = some d := by
  have ex : ∃ d, GivesD n m o d := ⟨d, h⟩
  unfold givesO
  rw [dif_pos ex]
  obtain ⟨S1, e1⟩ := ex.choose_spec 0 (fun _ => none)
  obtain ⟨S2, e2⟩ := h 0 (fun _ => none)
  rw [e1] at e2
  injection e2 with e2
  injection e2 with e3 e4
  injection e3 with e5
  injection e5 with e6
  rw [e6]
theorem gives_by {X : Cx} {Ng : List Str} {x a q : Str} {sg : Scope} {g : Addr} {cdg : Value} {bg : List Stmt} {m : Out → Addr → Hp → MS} (hl : 1 ≤ Ng.length)
    (hb : ∀ (o : Out) (f : Addr) (F1 : Hp) (s : Shared) (H : Hp), Room 1 (cxOf CX0 X.prog X.w X.K X.mg X.base Ng x sg g cdg X.A X.stack s H E0).nox.A → (∀ (W : WX) (pn : List (Addr × Obj)) (xe : Value → Shared → Prop) (p1 p2 : Pos), Takes ((cxOf CX0 X.prog X.w X.K X.mg X.base Ng x sg g cdg X.A X.stack s H E0).tr pn xe) W →
        JO2 ((cxOf CX0 X.prog X.w X.K X.mg X.base Ng x sg g cdg X.A X.stack s H E0).tr pn xe) W (.Call (.Name a p1) [] [] p2) (mAct o f F1)) →
      JB (cxOf CX0 X.prog X.w X.K X.mg X.base Ng x sg g cdg X.A X.stack s H E0).nox W0 bg (m o f F1)) :
    GivesS X Ng x sg g cdg bg a q (TLam X.K (givesO Ng.length m)) := by
  intro f c' s H Q tl hr act hc ⟨F, o, d, fh, nf, tb, hd, htl, hQ⟩
  have same1 : Same F (upd F c' (LamX.CodeO c' q)) := fun b u e => by
    by_cases hb : b = c'
    · subst hb
      rw [upd_same]
      rw [fh _ _ e] at hc
      exact hc.symm
    · rw [upd_ne hb]
      exact e
  have fh1 : Same (upd F c' (LamX.CodeO c' q)) H := fun b u e => by
    by_cases hb : b = c'
    · subst hb
      rw [upd_same] at e
      rw [← e]
      exact hc
    · rw [upd_ne hb] at e
      exact fh _ _ e
  have nf1 : ∀ b ps, upd F c' (LamX.CodeO c' q) b ≠ some (.tbl ps) := fun b ps z => by
    by_cases hb : b = c'
    · subst hb
      rw [upd_same] at z
      exact LamX.codeO_ne ps (Option.some.inj z)
    · rw [upd_ne hb] at z
      exact nf b ps z
  obtain ⟨t, pt, st⟩ := (hb o f (upd F c' (LamX.CodeO c' q)) s H hr fun W pn xe p1 p2 tk => jo_act (act W pn xe p1 p2 tk) same1 upd_same htl).ex
  refine ⟨t, pt, ?_⟩
  have ft : Fits X.K (upd F c' (LamX.CodeO c' q)) H [.s (.fn f (upd F c' (LamX.CodeO c' q)))] [.ref f] := ⟨rfl, fun j b e => by
    cases j with
    | zero =>
      cases e
      exact ⟨_, rfl, rfl, Same.refl _⟩
    | succ j => simp at e, fun i j y z c h1 h2 h3 h4 => by
    cases i with
    | zero => cases h1
    | succ i => simp at h1, nf1, tb⟩
  obtain ⟨P1, hP1, hP2, R⟩ := rc_start (N := Ng) fh1 ft hl
  obtain ⟨S', e1⟩ := givesO_d hd f (upd F c' (LamX.CodeO c' q))
  refine st P1 _ (adr [.ref f]) _ (adr [.ref f]) _ _ H _ _ S' R e1 fun F' c2 σ' H' f1 R1 v dv => ?_
  have noq : ∀ (j : Nat) (xs : CT), ([.s (.fn f (upd F c' (LamX.CodeO c' q)))] : List SL)[j]? ≠ some (.q xs) := fun j xs e => by
    cases j with
    | zero => cases e
    | succ j => simp at e
  have kept : ∀ b o, H b = some o → (∀ ps, o ≠ .tbl ps) → H' b = some o := fun b o e n => R1.ph b o (hP1 b o e n fun j xs h1 => absurd h1 (noq j xs))
  have fresh : ∀ b, P1 b = none → FreeT H b := fun b z => by
    rcases hP2 b z with z | z | ⟨j, xs, h1, _⟩
    · exact .inl z
    · exact .inr z
    · exact absurd h1 (noq j xs)
  have c1 : F' c' = some (.ext _) := f1 _ _ upd_same
  cases hcF : F c' with
  | some u =>
    refine hQ v F' H' ⟨same1.trans f1, R1.fh, kept, fun b z => ?_, R1.nf, R1.tb⟩ dv
    rcases R1.fr b z with z | z
    · by_cases hb : b = c'
      · subst hb
        exact .inl (by rw [hcF]; simp)
      · rw [upd_ne hb] at z
        exact .inl z
    · exact .inr (fresh b z)
  | none =>
    have no : ∀ b u, F b = some u → b ≠ c' := fun b u e z => by rw [z, hcF] at e; cases e
    refine hQ v (cut1 F' c') H' ⟨fun b u e => ?_, fun b u e => ?_, kept, fun b z => ?_, fun b ps z => ?_, R1.tb⟩ (dv.cut c1)
    · show (if b = c' then none else F' b) = some u
      rw [if_neg (no b u e)]
      exact f1 _ _ (same1 _ _ e)
    · unfold cut1 at e
      split at e
      · cases e
      · exact R1.fh _ _ e
    · unfold cut1 at z
      split at z
      · exact absurd rfl z
      · rename_i hb
        rcases R1.fr b z with z | z
        · rw [upd_ne hb] at z
          exact .inl z
        · exact .inr (fresh b z)
    · unfold cut1 at z
      split at z
      · cases z
      · exact R1.nf b ps z
theorem je_lam {X : Cx} {x a : Str} {g c P : Addr} {k : Nat} {st : Stmt} {fd : FuncData} {Ng : List Str} {mo : MO2} {go : Out → Option PyData}
    {params : Arguments} {body : Expr} {scope : Scope} {p lpos pos : Pos} (gd : X.A.guards = some []) (hm : X.mg x = some (.ref g)) (Fn : Fun X.K x x st g fd) (hb : L2.Binds X.K fd [a] []) (Sg : FnScope Ng [a] (defScope st))
    (hG : ∀ cdv, GivesS X Ng x (defScope st) g cdv (defBody st) a (X.env.qual ++ "<lambda>") (TLam X.K go))
    (TB : LamX.TabB X.base X.mg c P) (hcode : X.env.code = .ref c) (hmT : (P, X.env.qual ++ "<lambda>") ∈ LT.T) (hu : ∀ p ∈ LT.T, p.1 = P → p.2 = X.env.qual ++ "<lambda>") (hr : Room (k + 2) X.A) (L : LamX.LamS X.env.scope scope)
    (hbody : ∀ (A : Around) (outer : List Env) (s : Shared) (H : Hp) (E : XK) (f c' : Addr), A.guards = some [] → Room k (A.deeper (LamX.lamEnv X scope s.heap.objs.size f c')) → JO2 (LamX.lamCx X A outer s H E scope f c') (fun cls d _ H => E cls d H) body mo)
    (hg : Gl X x := by rfl) (hNg : Ng[0]? = some a := by rfl) (hva : Vis (defScope st) a := by first | exact Or.inl rfl | exact Or.inr (Or.inl rfl) | exact Or.inr (Or.inr rfl)) (hdef : defaultsOf params X.env = ([], []) := by rfl)
    (hbind : ∀ (q : Str) (cl : List (Str × Addr)) (pm cv ctv : Value), bindArgs (PySem.W.kla_fn "<lambda>" q params body scope cl pm cv ctv) ⟨[], []⟩ = pure [] := by intros; rfl)
    (hdb : (x == ("__debug__" : Str)) = false := by decide) (hd : (a == ("__debug__" : Str)) = false := by decide) (hcd : (a == ("__classdict__" : Str)) = false := by decide) :
    JE X (.Call (.Name x p) [.Lambda params body scope lpos] [] pos) (mLam mo go) := by
  obtain ⟨oc, od, kV, doc, pm, an, cdv, ct, osl, rfl, lk, hcd2⟩ := Fn.ex
  exact ⟨_, pe_lamS (t := fun E => denO X.K (fun cls d _ H => E cls d H) mo) gd hg hm Fn.kp lk hcd2 hb Sg hNg hva (hG cdv) TB hcode hmT hu hr L hdef hbind (fun A outer s H E f c' g1 r1 => (hbody A outer s H E f c' g1 r1).den) hdb hd hcd, snd_lam⟩
end VL
namespace VL
open PySem PySem.Spec PyProof.Rows L2
theorem law_callGT {P : Program} {w : World} {K : PySem.W.Frag} {mg mb : Str → Option Value} {CX : CXT} {k : Nat} {fa a c T : Addr} {fd : FuncData} {x : Str} {sp : Sp} {s₁ : Shared} {vs : List Value} {ns : List Int}
    (KX : K.In s₁.heap) (hns : s₁.heap.Ns mainGlobals mg) (hb : s₁.heap.Ns builtinsNs mb) (hbb : ∀ x : Str, x ≠ "__name__" → mb x = bootBuiltins x) (hlim : s₁.heap.NoLimit) (hg : s₁.gens = #[])
    (hT : s₁.heap.get? T = some { cls := .none, data := .fields #[] }) (nT : K.lookup T = none) (C : PySem.W.CodeHd s₁.heap c T)
    (hbm : ∃ (bm : Addr) (ob : Obj), mg "__builtins__" = some (.ref bm) ∧ bm ≠ builtinsNs ∧ s₁.heap.get? bm = some ob ∧ ob.cls = .type "module" ∧ ob.dict = some builtinsNs ∧ ob.data = .plain)
    (ha : s₁.heap.get? a = some { cls := .type "list", data := .seq vs.toArray }) (hi : IntsAre vs ns) (hl : ns.length ≤ sizeLine) (hr : Room k callerA)
    (F : ∀ base : Heap, K.In base → base.Ns mainGlobals mg → LamX.TabB base mg c T → FnG P w K mg base CX k fa fd [x] sp) (hbind : ∀ (s : Shared) (u : Value), BindsTo s fd ⟨[u], []⟩ [(x, u)])
    (hsp : ∀ H : Hp, H T = some (.tbl #[]) → SqL K H a (ns.map V.int) → sp [.ref a] H (fun v _ => v = .bl true) fun _ _ _ => False)
    (hCX : ∀ H e s', CX [] H s₁ (fun _ _ _ => False) e s' → False) :
    codeAny (model P w) callerA (.call (.ref fa) ⟨[.ref a], []⟩) (fun r s' => r = .ok (.ret (.bool true)) ∧ OldK s₁.heap s'.heap ∧ s'.os = s₁.os ∧ AllBare s'.gens) s₁ := by
  have rv := vals_ints hi
  have lenV := hi.length
  have aT : a ≠ T := fun z => by
    rw [← z, ha] at hT
    cases hT
  have core : ∀ H : Hp, H T = some (.tbl #[]) → (∀ b, b ≠ T → H b = none ∨ ∃ o xs, H b = some (.frz o (.lst xs))) → SqL K H a (ns.map V.int) → HOk P w H s₁.heap → (∀ b, b ≠ T → H b ≠ none → b = a) → (H a ≠ none → K.lookup a = none) →
      codeAny (model P w) callerA (.call (.ref fa) ⟨[.ref a], []⟩) (fun r s' => r = .ok (.ret (.bool true)) ∧ OldK s₁.heap s'.heap ∧ s'.os = s₁.os ∧ AllBare s'.gens) s₁ := by
    intro H hH hO hS hok hA hK
    have untold : ∀ {b : Addr} {o : Obj}, s₁.heap.get? b = some o → o ≠ { cls := .none, data := .fields #[] } → o ≠ { cls := .type "list", data := .seq vs.toArray } → H b = none := fun {b o} e n1 n2 => by
      by_cases hbT : b = T
      · rw [hbT, hT] at e
        exact absurd (Option.some.inj e).symm n1
      · cases q : H b with
        | none => rfl
        | some u =>
          rw [hA b hbT (by rw [q]; simp), ha] at e
          exact absurd (Option.some.inj e).symm n2
    have stays : ∀ {b : Addr} {o : Obj}, s₁.heap.get? b = some o → o ≠ { cls := .none, data := .fields #[] } → o ≠ { cls := .type "list", data := .seq vs.toArray } → (hidT s₁.heap H).get? b = some o := fun e n1 n2 => hidT_get e (untold e n1 n2)
    have nsK : ∀ {b : Addr} {m : Str → Option Value}, s₁.heap.Ns b m → (hidT s₁.heap H).Ns b m := fun {b m} ⟨o, es, ep, e, d, r⟩ => ⟨o, es, ep, stays e (fun z => by rw [z] at d; cases d) (fun z => by rw [z] at d; cases d), d, r⟩
    have hKb : K.In (hidT s₁.heap H) := fun b o e => hidT_get (KX b o e) (by
      by_cases hbT : b = T
      · rw [hbT, nT] at e
        cases e
      · cases q : H b with
        | none => rfl
        | some u =>
          have e' : b = a := hA b hbT (by rw [q]; simp)
          rw [e'] at e q
          rw [hK (by rw [q]; simp)] at e
          cases e)
    have hM : Mod K mg (hidT s₁.heap H) := ⟨hKb, nsK hns, ⟨mb, nsK hb, hbb⟩, let ⟨mc, h1, h2⟩ := hlim; ⟨mc, nsK h1, h2⟩⟩
    have TB : LamX.TabB (hidT s₁.heap H) mg c T := by
      refine ⟨?_, ?_, fun z => ?_⟩
      · obtain ⟨o, us, file, tf, flags, tg, inF, text, tt, e1, r1, r2, r⟩ := C
        exact ⟨o, us, file, tf, flags, tg, inF, text, tt, stays e1 (fun z => by rw [z] at r1; cases r1) (fun z => by rw [z] at r2; cases r2), r1, r2, r⟩
      · obtain ⟨bm, ob, b1, b2, b3, b4, b5, b6⟩ := hbm
        refine ⟨bm, ob, b1, b2, fun q => ?_, fun q => ?_, stays b3 (fun z => by rw [z] at b6; cases b6) (fun z => by rw [z] at b6; cases b6), b4, b5, b6⟩
        · obtain ⟨o, es, ep, e, hd, _⟩ := hns
          rw [q, e] at b3
          cases b3
          rw [hd] at b6
          cases b6
        · rw [q, hT] at b3
          cases b3
          cases b6
      · obtain ⟨o, es, ep, e, hd, _⟩ := hns
        rw [z, hT] at e
        cases e
        cases hd
    have e0 : Env0 P w K mg (hidT s₁.heap H) callerA [] s₁ H := ⟨rfl, hM, fun b o e => of_hidT e, Nat.le_of_eq (hidT_size _ _), trivial, fun b hb => absurd (show b ∈ ([] : List Addr) from hb) (by simp), hok, .of_eq hg⟩
    refine codeAny_mono ((F _ hKb (nsK hns) TB).run callerA [] s₁ H ⟨[.ref a], []⟩ [.ref a] [.ref a] _ _ rfl hr e0 (hbind s₁ (.ref a)) (.cons rfl .nil) (hsp H hH hS)) fun r s' h => ?_
    cases r with
    | error e => exact (hCX H e s' h).elim
    | ok fl =>
      cases fl with
      | next => exact False.elim h
      | brk => exact False.elim h
      | cont => exact False.elim h
      | ret u =>
        obtain ⟨v, H', os, bare, un, hok', r', q⟩ := h
        have q' : v = .bl true := q
        subst q'
        obtain rfl : u = Value.bool true := r'
        obtain ⟨more, hmore⟩ := un.tbls T #[] hH
        have hT' : s'.heap.get? T = some { cls := .none, data := .fields (#[] ++ more) } := hok' T _ hmore
        have key : ∀ b o, b ≠ T → s₁.heap.get? b = some o → s'.heap.get? b = some o := fun b o nb e => by
          rcases hO b nb with z | ⟨ob, xs, z⟩
          · exact un.keep b o e z (by intro z; exact absurd (show b ∈ ([] : List Addr) from z) (by simp)) (by simp)
          · obtain ⟨e1, _⟩ := hok b _ z
            obtain ⟨e2, _⟩ := hok' b _ (un.frzs b ob _ z)
            rw [e] at e1; cases e1
            exact e2
        refine ⟨rfl, ⟨fun b o e => ?_, fun b o e => ?_⟩, os, bare⟩
        · by_cases hb : b = T
          · rw [hb, hT] at e
            cases e
            rw [hb]
            exact .inr (.inl ⟨(C.tab hT).isCodeTable, rfl, #[], more, rfl, hT'⟩)
          · exact .inl (key b o hb e)
        · by_cases hb : b = T
          · rw [hb]
            exact ⟨_, hT'⟩
          · exact ⟨o, key b o hb e⟩
  cases hk : K.lookup a with
  | some o =>
    have e := KX a o hk
    rw [ha] at e
    cases e
    refine core (fun b => if b = T then some (.tbl #[]) else none) (if_pos rfl) (fun b nb => .inl (if_neg nb)) (.inr ⟨_, vs.toArray, _, hk, rfl, rfl, rfl, by rw [List.size_toArray, lenV]; exact hl, by simpa using rv⟩) (fun b u z => ?_) (fun b nb z => absurd (if_neg nb) z) fun z => absurd (if_neg aT) z
    by_cases hbT : b = T
    · cases (if_pos hbT).symm.trans z
      rw [hbT]
      exact hT
    · cases (if_neg hbT).symm.trans z
  | none =>
    refine core (fun b => if b = T then some (.tbl #[]) else if b = a then some (.frz { cls := .type "list", data := .seq vs.toArray } (.lst (ns.map V.int))) else none) (if_pos rfl) (fun b nb => ?_) (.inl (.inr ⟨{ cls := .type "list", data := .seq vs.toArray }, (if_neg aT).trans (if_pos rfl)⟩)) (fun b u z => ?_) (fun b nb z => ?_) fun _ => hk
    · by_cases hba : b = a
      · exact .inr ⟨_, _, (if_neg nb).trans (if_pos hba)⟩
      · exact .inl ((if_neg nb).trans (if_neg hba))
    · by_cases hbT : b = T
      · cases (if_pos hbT).symm.trans z
        rw [hbT]
        exact hT
      · have z1 := (if_neg hbT).symm.trans z
        by_cases hba : b = a
        · cases (if_pos hba).symm.trans z1
          rw [hba]
          exact ⟨ha, by rw [List.length_map]; exact hl, vs, _, rv, ha⟩
        · cases (if_neg hba).symm.trans z1
    · by_cases hba : b = a
      · exact hba
      · exact absurd ((if_neg nb).trans (if_neg hba)) z
theorem walk_ofGT {l : PySem.W.OpenLaw} {n k : Nat} {q : Program} {loose : List Str} {XP : (Str → Option Value) → Heap → Prop} {YP : World → Heap → Prop} {d : DefRec} {K : Params → PySem.W.Frag} {CX : World → CXT} {x : Str}
    (hn : l.most = some n) (hn2 : n ≤ sizeLine) (hdf : d.params.defaults = []) (hr : Room k callerA)
    (F : ∀ (w : World) (mg : Str → Option Value) (fa : Addr) (h : Heap), YP w h → h.Ns mainGlobals mg → mg d.name = some (.ref fa) →
      ∃ (fd : FuncData) (c T : Addr) (sp : Sp), (K w.params).In h ∧ h.get? T = some { cls := .none, data := .fields #[] } ∧ (K w.params).lookup T = none ∧ PySem.W.CodeHd h c T ∧ (∀ (s : Shared) (u : Value), BindsTo s fd ⟨[u], []⟩ [(x, u)]) ∧
        (∀ (H : Hp) (a : Addr) (ns : List Int), ns.length ≤ n → H T = some (.tbl #[]) → SqL (K w.params) H a (ns.map V.int) → sp [.ref a] H (fun v _ => v = .bl true) fun _ _ _ => False) ∧
        ∀ base : Heap, (K w.params).In base → base.Ns mainGlobals mg → LamX.TabB base mg c T → FnG l.prog w (K w.params) mg base (CX w) k fa fd [x] sp)
    (hCX : ∀ (w : World) (H : Hp) (s : Shared) (e : Value) (s' : Shared), CX w [] H s (fun _ _ _ => False) e s' → False) :
    PySem.W.WalkO q loose XP YP l.row.toRowW d [] (fun f vs => PySem.call f vs) := by
  refine Att.attach_call hn hdf fun w s₀ s₁ mg mb fa o pm cd doc a vs ns G Y ho hd hcd hmg hobj hints hlen hg => ?_
  obtain ⟨fd, c, T, sp, KX, hT, nT, C, hb, hsp, hF⟩ := F w mg fa _ Y G.T.g hmg
  exact law_callGT KX G.T.g G.T.b G.T.builtins G.T.nolimit hg hT nT C G.T.bmain hobj hints (Nat.le_trans hlen hn2) hr hF hb (fun H hH hS => hsp H a ns hlen hH hS) fun H e s' => hCX w H s₁ e s'
theorem sp_law {K : PySem.W.Frag} {m : MF} {T : Addr} {qn : Str} {H : Hp} {a : Addr} {ns : List Int} (hH : H T = some (.tbl #[])) (hS : SqL K H a (ns.map V.int)) (ht : m [.s (.ns ns)] = some (.bool true, [.s (.ns ns)])) :
    @spM ⟨[(T, qn)]⟩ K 1 m [.ref a] H (fun v _ => v = .bl true) fun _ _ _ => False := by
  letI : LT := ⟨[(T, qn)]⟩
  refine ⟨rfl, fun b => noT (H b), [.s (.ns ns)], .bool true, [.s (.ns ns)], fun b o z => noT_some z, ⟨rfl, fun j x e => ?_, fun i j x y c h1 h2 h3 h4 => ?_, fun b ps => noT_tbl _ ps, fun p hp => ?_⟩, ht, fun v F' H' B => ?_⟩
  · cases j with
    | zero =>
      cases e
      refine ⟨_, rfl, a, rfl, ?_⟩
      rcases hS with (h | ⟨o, h⟩) | h
      · exact .inl (.inl (by show noT (H a) = _; rw [h]; rfl))
      · exact .inl (.inr ⟨o, by show noT (H a) = _; rw [h]; rfl⟩)
      · exact .inr h
    | succ j => simp at e
  · cases i with
    | zero => cases h1
    | succ i => simp at h1
  · cases (List.mem_singleton.mp hp)
    exact LamX.TabS.nil hH
  · have q := B.dv
    cases q
    rfl
theorem codeHd_at {K : PySem.W.Frag} {h : Heap} {c T : Addr} (X : K.In h) (e : PySem.W.codeHdIn K c T = true) : PySem.W.CodeHd h c T := PySem.W.codeHd_of_K X e
end VL
namespace VL
open PySem PySem.Spec PyProof.Rows L2
variable [LT]
section
variable {X : Cx} {o e : Expr} {mo me : ME} {apos pos : Pos} {k : Nat}
end
end VL
namespace VL
open PySem PySem.Spec PyProof.Rows L2
variable [LT]
section
variable {X : Cx} {W : WX} {e : Expr} {mo : MO2} {pos p : Pos}
end
section
variable {X : Cx} {W : WX} {x : Str} {c : Value} {body suite : List Stmt} {b₀ : Stmt} {np pos pos' : Pos} {mb mh : MS} {sub : Str → Option Bool}
end
end VL
namespace VL
open PySem PySem.Spec PyProof.Rows L2
section
variable [LT] {X : Cx} {K : PySem.W.Frag} {a b : Expr} {ma mb : ME} {pos : Pos}
end
end VL
namespace VL
open PySem PySem.Spec PyProof.Rows L2
abbrev Grd := List (List Nat)
def sgsD (row : List Nat) : List PyData := row.map fun c => .str ⟨#[c]⟩
structure GrM (M : Mem) (a : Addr) (ids : List Nat) (g : Grd) : Prop where
  out : M[0]? = some ⟨a, .lst (ids.map .p)⟩
  len : ids.length = g.length
  inn : ∀ (j i : Nat) (row : List Nat), ids[j]? = some i → g[j]? = some row → ∃ b, M[i]? = some ⟨b, .lst ((sgsD row).map .d)⟩
  ne : ∀ i ∈ ids, 0 < i ∧ i < M.length
  nd : ids.Nodup
structure Spot where
  z : Str
  r : Nat
  p : Nat
def Spot.d (s : Spot) : PyData := .tuple [.str s.z, .int s.r, .int s.p]
structure GrS (h w : Nat) (g : Grd) : Prop where
  len : g.length = h
  row : ∀ x ∈ g, x.length = w
end VL
namespace VX
open PySem PySem.W PySem.Calls PyProof.Rows PySem.HandSPX PySem.Spec
def xA2 (f g : Str) (a1 a2 a3 : Pos) : Arguments := { posonlyargs := [], args := [{ arg := "self", annotation := none, pos := a1 }, { arg := f, annotation := none, pos := a2 }, { arg := g, annotation := none, pos := a3 }], vararg := none, kwonlyargs := [], kw_defaults := [], kwarg := none, defaults := [] }
def xB2 (f g : Str) (p0 p1 p2 p3 p6 p4 p5 q1 q2 q3 q4 r1 r2 r3 r4 : Pos) : List Stmt :=
  [.Expr (.Call (.Attribute (.Call (.Name "super" p0) [] [] p1) "__init__" p2) [.Name f p3, .Name g p6] [] p4) p5, .Assign [.Attribute (.Name "self" q1) f q2] (.Name f q3) q4, .Assign [.Attribute (.Name "self" r1) g r2] (.Name g r3) r4]
def xS2 (f g : Str) : Scope := { kind := .function, names := [("self", .local), (f, .local), (g, .local), ("__class__", .free), ("super", .globalImplicit)], isGenerator := false, isCoroutine := false, more := [] }
structure Plain2 (f g : Str) : Prop where
  pf : Plain f
  pg : Plain g
  fg : (f == g) = false
  gf : (g == f) = false
def Late2 (f g : Str) (p0 p1 p2 p3 p6 p4 : Pos) : Prop := ∃ pl : Sem Bool, ∀ env : Env, eval (.Call (.Attribute (.Call (.Name "super" p0) [] [] p1) "__init__" p2) [.Name f p3, .Name g p6] [] p4) env = (do
  let ov ← attributeBase (.Call (.Name "super" p0) [] [] p1) "__init__" env (eval (.Call (.Name "super" p0) [] [] p1) env)
  standAt p2.atName
  let (g', first) ← holding [ov] (getMethod ov "__init__" pl)
  callWith p4 g' first (backTo p4 (starEach [.Name f p3, .Name g p6] env)) [])
structure XTxt2 (prog : Program) (K : Frag) (mg : Str → Option Value) (x f g : Str) (C fI : Addr) : Prop where
  gC : mg x = some (.ref C)
  nC : nsIn K mainGlobals x = some (some (.ref C))
  cls : ∃ nm q N bs bm sn sub ab col dd k0 k1 k2 k3 k5, K.lookup C = some (excClassObj nm q C N bs bm true sn sub ab col dd k0 k1 k2 k3 k5 "ValueError.__new__") ∧ refsVE bm = true
  sa : findIn K (.ref C) "__setattr__" = some (some (.builtin "object.__setattr__"))
  ga : findIn K (.ref C) "__getattribute__" = some (some (.builtin "BaseException.__getattribute__"))
  gg : findIn K (.ref C) "__getattr__" = some none
  noN : findIn K (.ref C) f = some none
  noG : findIn K (.ref C) g = some none
  iC : findIn K (.ref C) "__init__" = some (some (.ref fI))
  tC : typeIn K (.ref fI) = some (.type "function")
  kC : keepIn K (.ref C) = true
  exC : subIn K (.ref C) (.type "BaseException") = some true
  veC : subIn K (.ref C) (.type "ValueError") = some true
  tyC : typeIn K (.ref C) = some (.type "type")
  hdC : hasDictIn K C = true
  su : ks_superIn K C C "__init__" = some (some (.builtin "ValueError.__init__"))
  mC : mroIn K C (.ref C) = some true
  no : nsIn K cStatics "thirdparty.any" = some none
  sup : nsIn K mainGlobals "super" = some none
  pl : Plain2 f g
  bd : ∀ (qual : Str) (a1 a2 a3 p0 p1 p2 p3 p6 p4 p5 q1 q2 q3 q4 r1 r2 r3 r4 : Pos) (doc pm : Value) (an : Option Addr) (cda : Addr) (ct : Value) (cc : Addr) (u v z : Value), bindArgs (ksFn "__init__" qual (xA2 f g a1 a2 a3) (xB2 f g p0 p1 p2 p3 p6 p4 p5 q1 q2 q3 q4 r1 r2 r3 r4) (xS2 f g) .none .none doc pm an (.ref cda) ct cc) ⟨[u, v, z], []⟩ = pure [(("self" : Str), u), (f, v), (g, z)]
  fn : ∃ (oc : Value) (od : Option Addr) (doc pm : Value) (an : Option Addr) (ct : Value) (osl : Array (Option Value)) (a1 a2 a3 p0 p1 p2 p3 p6 p4 p5 q1 q2 q3 q4 r1 r2 r3 r4 : Pos) (qual : Str) (cc cda : Addr) (ccl cl : Value) (cdd cld : Option Addr) (ccs csl : Array (Option Value)) (vs : Array Value) (file : Str) (tf : Tok),
    K.lookup fI = some ⟨oc, od, .func (ksFn "__init__" qual (xA2 f g a1 a2 a3) (xB2 f g p0 p1 p2 p3 p6 p4 p5 q1 q2 q3 q4 r1 r2 r3 r4) (xS2 f g) .none .none doc pm an (.ref cda) ct cc), osl⟩ ∧ codeIn K (.ref cda) qual = true ∧
    K.lookup cda = some ⟨ccl, cdd, .fields vs, ccs⟩ ∧ vs[2]? = some (.str file tf) ∧ ((prog.main.file : Str) == file) = true ∧ (prog.main.scope.names.lookup ("super" : Str)).isSome = false ∧ K.lookup cc = some ⟨cl, cld, .cell (some (.ref C)), csl⟩ ∧ Late2 f g p0 p1 p2 p3 p6 p4
structure XEnd2 (h h' : Heap) (f g : Str) (x C dx t1 : Addr) (v z : Value) : Prop where
  keep : ∀ b o, b ≠ x → h.get? b = some o → h'.get? b = some o
  obj : h'.get? x = some { cls := .ref C, dict := some dx, data := .fields #[.ref t1, .none, .none, .none, .bool false, .none] }
  dbig : h.objs.size ≤ dx
  dne : dx ≠ x
  ns : h'.Ns1 dx (fun y => if y = g then some z else if y = f then some v else none)
section
variable {prog : Program} {w : World} {A : Around} {E : Value → Shared → Prop} {R : Result → Shared → Prop} {s : Shared} {K : Frag} {mg mb : Str → Option Value} {C fI : Addr} {nm f g : Str}
theorem look2_f (P : Plain2 f g) : (xS2 f g).names.lookup f = some .local := by
  show List.lookup f [(("self" : Str), NameKind.local), (f, .local), (g, .local), ("__class__", .free), ("super", .globalImplicit)] = _
  rw [List.lookup_cons, P.pf.a]
  simp
theorem look2_g (P : Plain2 f g) : (xS2 f g).names.lookup g = some .local := by
  show List.lookup g [(("self" : Str), NameKind.local), (f, .local), (g, .local), ("__class__", .free), ("super", .globalImplicit)] = _
  rw [List.lookup_cons, P.pg.a, List.lookup_cons, P.gf]
  simp
theorem look2_self : (xS2 f g).names.lookup ("self" : Str) = some .local := by
  show List.lookup ("self" : Str) [(("self" : Str), NameKind.local), (f, .local), (g, .local), ("__class__", .free), ("super", .globalImplicit)] = _
  simp
theorem look2_class (P : Plain2 f g) : (xS2 f g).names.lookup ("__class__" : Str) = some .free := by
  show List.lookup ("__class__" : Str) [(("self" : Str), NameKind.local), (f, .local), (g, .local), ("__class__", .free), ("super", .globalImplicit)] = _
  rw [List.lookup_cons, show (("__class__" : Str) == "self") = false by decide, List.lookup_cons, P.pf.b', List.lookup_cons, P.pg.b']
  simp
theorem look2_super (P : Plain2 f g) : (xS2 f g).names.lookup ("super" : Str) = some .globalImplicit := by
  show List.lookup ("super" : Str) [(("self" : Str), NameKind.local), (f, .local), (g, .local), ("__class__", .free), ("super", .globalImplicit)] = _
  rw [List.lookup_cons, show (("super" : Str) == "self") = false by decide, List.lookup_cons, P.pf.c', List.lookup_cons, P.pg.c', List.lookup_cons, show (("super" : Str) == "__class__") = false by decide]
  simp
theorem x_init2 (T : XTxt2 prog K mg nm f g C fI) {x t0 : Addr} {v z : Value} (X : K.In s.heap) (hlim : s.heap.NoLimit) (hg : s.heap.Ns mainGlobals mg) (hb : s.heap.Ns builtinsNs mb) (hbb : ∀ x : Str, x ≠ "__name__" → mb x = bootBuiltins x) (hmg : mg "super" = none)
    (hx : s.heap.get? x = some (excO C t0)) (hnx : K.lookup x = none) (hroom : A.depth < recursionLimit)
    (hq : ∀ h' tk dx t1, XEnd2 s.heap h' f g x C dx t1 v z → R (.ok (.ret .none)) { s with heap := h', toks := tk }) :
    codeAny (model prog w) A (.call (.ref fI) ⟨[.ref x, v, z], []⟩) R s := by
  obtain ⟨oc, od, doc, pm, an, ct, osl, a1, a2, a3, p0, p1, p2, p3, p6, p4, p5, q1, q2, q3, q4, r1, r2, r3, r4, qual, cc, cda, ccl, cl, cdd, cld, ccs, csl, vs, file, tf, ho, hcd, hcode, hvs, hfile, htop, hcell, pl, hlate⟩ := T.fn
  obtain ⟨cnm, q, N, bs, bm, sn, sub, ab, col, dd, k0, k1, k2, k3, k5, hC, hbm⟩ := T.cls
  have P := T.pl
  have hcl : clsIn K C = some { name := cnm, bases := bs, mro := .ref C :: bm, ns := N, qualname := q, hasDict := true, slotNames := sn, subclasses := sub, abstract := ab, collection := col, hasDel := false } := by unfold clsIn; rw [hC] <;> rfl
  refine ks_codeAny_call_defAt (fd := ksFn "__init__" qual (xA2 f g a1 a2 a3) (xB2 f g p0 p1 p2 p3 p6 p4 p5 q1 q2 q3 q4 r1 r2 r3 r4) (xS2 f g) .none .none doc pm an (.ref cda) ct cc) (binds := [("self", .ref x), (f, v), (g, z)]) hroom (X _ _ ho) rfl hlim (codeRec_of X hcd) rfl (BindsTo.of_eq (T.bd _ _ _ _ _ _ _ _ _ _ _ _ _ _ _ _ _ _ _ _ _ _ _ _ _ _ _ _)) ?_ ?_ (fun h₁ hn k => ?_) rfl rfl rfl
  · intro y hy
    simp only [xS2,List.mem_cons,List.not_mem_nil,or_false] at hy
    rcases hy with rfl | rfl | rfl | rfl | rfl <;> (intro zz; cases zz)
  · intro y hy
    simp only [List.mem_cons,List.not_mem_nil,or_false] at hy
    rcases hy with rfl | rfl | rfl
    · exact look2_self
    · exact look2_f P
    · exact look2_g P
  have X₁ : K.In h₁ := X.keeps k
  have hx₁ := k _ _ hx
  have ne : x ≠ C := fun zz => by
    have y := X _ _ hC
    rw [← zz, hx] at y
    cases y
  have mz : (List.lookup g ([(("self" : Str), Value.ref x), (f, v), (g, z)].reverse)) = some z := by
    show List.lookup g [(g, z), (f, v), (("self" : Str), Value.ref x)] = _
    simp
  have mv : (List.lookup f ([(("self" : Str), Value.ref x), (f, v), (g, z)].reverse)) = some v := by
    show List.lookup f [(g, z), (f, v), (("self" : Str), Value.ref x)] = _
    rw [List.lookup_cons, P.fg]
    simp
  have mx : (List.lookup ("self" : Str) ([(("self" : Str), Value.ref x), (f, v), (g, z)].reverse)) = some (.ref x) := by
    show List.lookup ("self" : Str) [(g, z), (f, v), (("self" : Str), Value.ref x)] = _
    rw [List.lookup_cons, P.pg.a', List.lookup_cons, P.pf.a']
    simp
  refine ks_wpAt_execs_cons (ks_wpAt_Expr_any (ks_wpAt_MethodCall (pl := pl) ?_ (hlate _)) rfl rfl)
  · refine ks_wpAt_super_base (fd := ksFn "__init__" qual (xA2 f g a1 a2 a3) (xB2 f g p0 p1 p2 p3 p6 p4 p5 q1 q2 q3 q4 r1 r2 r3 r4) (xS2 f g) .none .none doc pm an (.ref cda) ct cc) (look2_super P) (look2_class P) (by decide) rfl (k _ _ (X _ _ ho)) rfl rfl rfl (k _ _ (X _ _ hcode)) rfl hvs hfile htop ?_
    refine ks_loadName_global rfl (look2_super P) (loadGlobal_builtin (hg.keeps k) hmg (hb.keeps k) ((hbb _ (by decide +kernel)).trans (by first | boot_by_name | rfl | kernel_rfl)) ⟨rfl, ?_⟩)
    refine wpAny_loadName_free rfl (look2_class P) rfl ⟨_, X₁ _ _ hcell, rfl⟩ ?_
    refine wpAny_loadName_local rfl look2_self hn mx ?_
    refine ks_wpAny_isType_cls (X₁ _ _ hC) rfl ⟨rfl, ?_⟩
    refine ks_wpAny_call_super (X₁ _ _ hC) rfl hx₁ rfl (fun c z => by cases z) (looks_mroIn X₁ T.mC) (fun h₂ e₂ k₂ => ?_)
    have X₂ : K.In h₂ := X₁.keeps k₂
    have hx₂ := k₂ _ _ hx₁
    have I₂ : InstAt h₂ x (excO C t0) C none := ⟨hx₂, rfl, rfl, trivial⟩
    have su : alongIn K "__init__" (((Value.ref C :: bm).dropWhile (· != .ref C)).drop 1) = some (some (.builtin "ValueError.__init__")) := by
      have y := T.su
      unfold ks_superIn at y
      rw [hcl] at y
      exact y
    refine kxs_getMethod kxs_ValueError e₂ (looks_opaque X₂ T.no) (l₀ := .ref C :: bm) (fun A Q E s k q => wpAny_bind ((looks_clsIn X₂ hcl) A _ E s k (wpAny_pure q))) rfl X₂ su (I₂.type.andThen (looks_subIn X₂ T.veC)) ne (by decide) ?_
    have k₃ : ∀ b o, h₂.get? b = some o → (h₂.push (kxs_mw "ValueError.__init__" x)).get? b = some o := fun b o e => Heap.get?_push_of_some _ e
    have hu : (h₂.push (kxs_mw "ValueError.__init__" x)).get? h₂.objs.size = some (kxs_mw "ValueError.__init__" x) := Heap.get?_push_at rfl rfl
    have hn₃ := (hn.keeps k₂).keeps k₃
    refine kxs_callWith (i := "ValueError.__init__") (x := x) rfl (evalArgs_plain (spliced_cons ?_))
    refine ld_own hn₃ mv ?_ rfl (look2_f P) P.pf.d
    refine spliced_cons ?_
    refine ld_own hn₃ mz ?_ rfl (look2_g P) P.pg.d
    refine spliced_nil ⟨hu, ?_⟩
    refine wpAny_call (codeAny_of_tree ?_)
    show wpAny _ _ (callAny (.ref h₂.objs.size) ⟨[v, z], []⟩) _ _ _
    simp only [callAny]
    refine wpAny_bind (wpAny_load hu ?_)
    simp only [kxs_mw,show (Value.type "method-wrapper" == Value.type "method" || Value.type "method-wrapper" == Value.type "builtin_function_or_method" || Value.type "method-wrapper" == Value.type "method-wrapper") = true by decide,if_true]
    refine KFB.if_so (by decide) ?_
    refine wpAny_bind (check_bound_init F.excBase_ValueError.toExcCallFacts (k₃ _ _ (k₂ _ _ (X₁ _ _ hC))) (k₃ _ _ hx₂) rfl ?_)
    refine wpAny_bind (wpAny_pure (wpAny_pure ?_))
    refine ⟨plainId_quiet F.excBase_ValueError.init.plain _, codeAny_builtin F.excBase_ValueError.initEntry ?_⟩
    refine exc_init_tree (cls := .ref C) (t0 := t0) (dv := none) (c2 := .none) (c3 := .none) (b4 := .bool false) (k₃ _ _ hx₂) (by rw [sizeLine_eq]; exact (by decide : 2 ≤ 16777216)) (fun h₄ k₄ hx₄ ht₄ => ?_)
    have k04 : ∀ b o, b ≠ x → s.heap.get? b = some o → h₄.get? b = some o := fun b o z e => k₄ b o z (k₃ _ _ (k₂ _ _ (k _ _ e)))
    have X₄ : K.In h₄ := fun a o e => k04 a o (fun z => by rw [z, hnx] at e; cases e) (X _ _ e)
    have nL : s.heap.objs.size ≠ x := Nat.ne_of_gt (Heap.lt_size hx)
    have hn₄ : h₄.Ns s.heap.objs.size (fun y => List.lookup y ([(("self" : Str), Value.ref x), (f, v), (g, z)].reverse)) := by
      obtain ⟨oL, es, ep, e, r⟩ := hn₃
      exact ⟨oL, es, ep, k₄ _ _ nL e, r⟩
    show _root_.PySem.wpAt _ _ _ (execs _ _) _ _ _
    refine ks_wpAt_execs_cons (ks_wpAt_Assign_Attr (wpAt_of_wpAny ?_) ?_)
    · refine ld_own (q := qual) (scope := xS2 f g) hn₄ mv ?_ rfl (look2_f P) P.pf.d
      refine ld_own (q := qual) (scope := xS2 f g) hn₄ mx ?_ rfl look2_self (by decide)
      refine set_plain X₄ (ox := excO C (h₂.push (kxs_mw "ValueError.__init__" x)).objs.size) (od := none) ⟨hx₄, rfl, rfl, trivial⟩ T.sa ?_
      refine exc_osa X₄ hx₄ hcl (show refsVE (.ref C :: bm) = true from hbm) rfl T.noN (fun h₅ tk₅ dx k₅ dn dne hx₅ hn₅ => ?_)
      have k05 : ∀ b o, b ≠ x → s.heap.get? b = some o → h₅.get? b = some o := fun b o hb e => k₅ b o hb (k04 b o hb e)
      have X₅ : K.In h₅ := fun a o e => k05 a o (fun zz => by rw [zz, hnx] at e; cases e) (X _ _ e)
      have zsz : s.heap.objs.size < h₄.objs.size := hn₄.lt
      have nd : s.heap.objs.size ≠ dx := Nat.ne_of_lt (Nat.lt_of_lt_of_le zsz dn)
      have hn₅' : h₅.Ns s.heap.objs.size (fun y => List.lookup y ([(("self" : Str), Value.ref x), (f, v), (g, z)].reverse)) := by
        obtain ⟨oL, es, ep, e, r⟩ := hn₄
        exact ⟨oL, es, ep, k₅ _ _ nL e, r⟩
      show _root_.PySem.wpAt _ _ _ (execs _ _) _ _ _
      refine ks_wpAt_execs_cons (ks_wpAt_Assign_Attr (wpAt_of_wpAny ?_) ?_)
      · refine ld_own (q := qual) (scope := xS2 f g) hn₅' mz ?_ rfl (look2_g P) P.pg.d
        refine ld_own (q := qual) (scope := xS2 f g) hn₅' mx ?_ rfl look2_self (by decide)
        obtain ⟨oD, esD, epD, hoD, hdD, _⟩ := hn₅.count (Within.cons f v Within.nil)
        refine set_plain X₅ (ox := { cls := .ref C, dict := some dx, data := .fields #[.ref (h₂.push (kxs_mw "ValueError.__init__" x)).objs.size, .none, .none, .none, .bool false, .none] }) (od := some oD) ⟨hx₅, rfl, rfl, hoD⟩ T.sa ?_
        refine OEX.osa_old X₅ hx₅ hn₅ (Within.cons f v Within.nil) (by simp) hcl (show refsVE (.ref C :: bm) = true from hbm) rfl T.noG (fun h₆ tk₆ k₆ hn₆ => ?_)
        show _root_.PySem.wpAt _ _ _ (execs _ _) _ _ _
        refine wpAt_of_wpAny (wpAny_execs_nil ?_)
        refine hq h₆ tk₆ dx _ ⟨fun b o hb e => ?_, k₆ _ _ (Ne.symm dne) hx₅, Nat.le_of_lt (Nat.lt_of_lt_of_le zsz dn), dne, hn₆⟩
        exact k₆ b o (Nat.ne_of_lt (Nat.lt_of_lt_of_le (Nat.lt_trans (Heap.lt_size e) zsz) dn)) (k05 b o hb e)
      · rfl
    · rfl
end
end VX
namespace VX
open PySem PySem.W PySem.Calls PyProof.Rows PySem.HandSPX PySem.Spec
section
variable {prog : Program} {w : World} {A : Around} {R : Result → Shared → Prop} {s : Shared} {K : Frag} {mg mb : Str → Option Value} {C fI : Addr} {nm f g : Str}
structure XMade2 (h h' : Heap) (f g : Str) (e C d : Addr) (v z : Value) : Prop where
  keep : ∀ b o, h.get? b = some o → h'.get? b = some o
  new : h.objs.size ≤ e
  obj : ∃ oe vs, h'.get? e = some oe ∧ oe.cls = .ref C ∧ oe.dict = some d ∧ oe.data = .fields vs ∧ vs[1]? = some .none
  dbig : h.objs.size ≤ d
  dne : d ≠ e
  ns : h'.Ns1 d (fun y => if y = g then some z else if y = f then some v else none)
theorem x_made2 (T : XTxt2 prog K mg nm f g C fI) {v z : Value} (X : K.In s.heap) (hlim : s.heap.NoLimit) (hg : s.heap.Ns mainGlobals mg) (hb : s.heap.Ns builtinsNs mb) (hbb : ∀ x : Str, x ≠ "__name__" → mb x = bootBuiltins x) (hmg : mg "super" = none)
    (hroom : A.depth + 1 < recursionLimit) (hq : ∀ h' tk e d, XMade2 s.heap h' f g e C d v z → R (.ok (.ret (.ref e))) { s with heap := h', toks := tk }) :
    codeAny (model prog w) A (.call (.ref C) ⟨[v, z], []⟩) R s := by
  obtain ⟨cn, q, N, bs, bm, sn, sub, ab, col, dd, k0, k1, k2, k3, k5, hC, hbm⟩ := T.cls
  obtain ⟨hp, gg, dr, tk, os⟩ := s
  generalize e2 : (hp.push (kdv_tup [v, z])).push (excO C hp.objs.size) = h2
  have k : ∀ b o, hp.get? b = some o → h2.get? b = some o := fun b o e => by
    rw [← e2]
    exact Heap.get?_push_of_some _ (Heap.get?_push_of_some _ e)
  have at2 : h2.get? (hp.objs.size + 1) = some (excO C hp.objs.size) := by
    rw [← e2]
    heap_get
  have sz2 : h2.objs.size = hp.objs.size + 1 + 1 := by rw [← e2, Heap.size_push, Heap.size_push]
  have free : K.lookup (hp.objs.size + 1) = none := by
    cases e : K.lookup (hp.objs.size + 1) with
    | none => rfl
    | some o => exact absurd (Nat.lt_of_succ_lt (Heap.lt_size (show hp.get? (hp.objs.size + 1) = some o from X _ _ e))) (Nat.lt_irrefl _)
  refine call_own F.excBase_ValueError (fun Y => refsVE_contains Y bm hbm) (X _ _ hC) (looks_findIn X T.iC) (fun self => bind_fn X self T.tC) (by rw [sizeLine_eq]; exact (by decide : 2 ≤ 16777216)) ?_
  rw [e2]
  refine x_init2 (s := ⟨h2, gg, dr, tk, os⟩) (mb := mb) T (X.keeps k) (hlim.keeps k) (hg.keeps k) (hb.keeps k) hbb hmg at2 free hroom fun h' tk' dx t1 Z => ?_
  have old : ∀ b o, hp.get? b = some o → h'.get? b = some o := fun b o e => Z.keep b o (Nat.ne_of_lt (Nat.lt_succ_of_lt (Heap.lt_size e))) (k b o e)
  have big : h2.objs.size ≤ dx := Z.dbig
  exact ⟨rfl, hq h' tk' (hp.objs.size + 1) dx ⟨old, Nat.le_succ _, ⟨_, _, Z.obj, rfl, rfl, rfl, rfl⟩, (by show hp.objs.size ≤ dx; omega), Z.dne, Z.ns⟩⟩
end
end VX
namespace VX
open PySem PySem.Spec PyProof.Rows L2
section
variable {X : Cx} {C fI : Addr} {nm f g : Str}
theorem relO_two {v z : V} {u w : Value} (rv : RelV v u) (rz : RelV z w) (hgf : (g == f) = false) (y : Str) : RelO (List.lookup y [(f, v), (g, z)]) (if y = g then some w else if y = f then some u else none) := by
  have hne : g ≠ f := by simpa using hgf
  by_cases hg : y = g
  · subst hg
    rw [if_pos rfl, show List.lookup y [(f, v), (y, z)] = some z by rw [List.lookup_cons, hgf]; simp]
    exact rz
  · rw [if_neg hg]
    by_cases hf : y = f
    · subst hf
      rw [if_pos rfl, show List.lookup y [(y, v), (g, z)] = some v by simp [List.lookup]]
      exact rv
    · rw [if_neg hf, show List.lookup y [(f, v), (g, z)] = none by simp [List.lookup, show (y == f) = false by simpa using hf, show (y == g) = false by simpa using hg]]
      trivial
def tMkX2 (C : Addr) (f g : Str) (ta : TA) : L2.St → Hp → XK → Prop := fun σ H Q => ta σ H fun vs H1 => ∃ v z, vs = [v, z] ∧ ∀ d, H1 d = none → Q (.ref C) (some d) (upd H1 d (.xd [(f, v), (g, z)]))
theorem pmk_x2 {a b : Expr} {ta : TA} {p pos : Pos} {k : Nat} (T : XTxt2 X.prog X.K X.mg nm f g C fI) (hmg : X.mg "super" = none) (hr : Room k X.A) (ha : PA X [a, b] ta) (hg : Gl X nm) (hd : (nm == ("__debug__" : Str)) = false)
    (he : starEach (a :: [b]) X.env = (false, eval a X.env) :: starEach [b] X.env) (hpl : (backTo pos (starEach [b] X.env)).any (·.1) = false) :
    PMk X (.Call (.Name nm p) [a, b] [] pos) (tMkX2 C f g ta) := by
  intro pins s σ H Q I h
  refine wpAny_Call_Name_kw (ld_glob I hg T.gC ?_ hd)
  refine PySem.W.callWith_K (h₀ := X.base) I.ok.mod.kin T.kC (thn (ha.run pos pins s σ H _ I h) fun us s1 hh => ?_) he hpl
  obtain ⟨vs, H1, I1, r1, v, z, rfl, q1⟩ := hh
  refine ⟨I1.kIn, ?_⟩
  obtain ⟨u, uz, rfl, ru, rz⟩ : ∃ u uz, us = [u, uz] ∧ RelV v u ∧ RelV z uz := by
    cases r1 with
    | cons r0 rt =>
      cases rt with
      | cons r2 rn =>
        cases rn
        exact ⟨_, _, rfl, r0, r2⟩
  obtain ⟨mb, hb1, hb2⟩ := I1.mod.blt
  obtain ⟨hp, gg, dr, tk, os⟩ := s1
  have kp : ∀ b o, X.base.get? b = some o → hp.get? b = some o := I1.bk
  refine wpAny_call (x_made2 (mb := mb) T I1.kIn I1.nolimit (I1.mod.glob.keeps kp) (hb1.keeps kp) hb2 hmg (by have := hr.dp; omega) fun h' tk' e d M => ?_)
  show MkP X pins σ Q (.ref e) ⟨h', gg, dr, tk', os⟩
  obtain ⟨oe, fv, hoe, hc, hdi, hdat, h1⟩ := M.obj
  obtain ⟨G, g1, g2⟩ := restrict h' fun b => decide (b ≠ e)
  have gk : ∀ b, b ≠ e → G.get? b = h'.get? b := fun b hb => g1 b (decide_eq_true hb)
  have ge : G.get? e = none := g2 e (by simp)
  have ob : ObjOk X.prog X.w (upd H1 d (.xd [(f, v), (g, z)])) G d (.xd [(f, v), (g, z)]) := ⟨_, M.ns.at (fun o q => (gk d M.dne).trans q), fun y => relO_two ru rz T.pl.gf y⟩
  have J : Inv X pins σ (upd H1 d (.xd [(f, v), (g, z)])) ⟨G, gg, dr, tk', os⟩ :=
    I1.laid (t' := tk') (fun b o q => (gk b (Nat.ne_of_lt (Nat.lt_of_lt_of_le (Heap.lt_size q) M.new))).trans (M.keep b o q)) M.dbig ob
  refine ⟨e, oe, fv, ⟨G, gg, dr, tk', os⟩, _, .ref C, some d, rfl, J, fun b o q => ?_, ge, hoe, ⟨hc, hdi⟩, hdat, h1, ?_, rfl, I1.bare, raises_own T.exC T.tyC, q1 d (I1.hok.fresh M.dbig)⟩
  · by_cases hb : b = e
    · have z' : G.get? b = some o := q
      rw [hb, ge] at z'
      cases z'
    · exact (gk b hb).symm.trans q
  · rw [upd_ne (Ne.symm M.dne)]
    exact I1.hok.fresh M.new
end
end VX
namespace VL
open PySem PySem.Spec PyProof.Rows L2
def mRaise2 (nm f g : Str) (me mz : ME) : MS := fun S => match me S with
  | some (.v d, S1) => match mz S1 with
    | some (.v e, S2) => some (.rz nm [(f, d), (g, e)], S2)
    | _ => none
  | _ => none
section
variable [LT] {X : Cx} {W : WX} {e e2 : Expr} {me mz : ME} {nm f g : Str} {C fI : Addr} {k : Nat} {p pos pos2 : Pos}
theorem js_raise2 (tk : Takes X W) (T : VX.XTxt2 X.prog X.K X.mg nm f g C fI) (hmg : X.mg "super" = none) (hr : Room k X.A) (hc : X.calm = true) (he : JE X e me) (hz : JE X e2 mz) (hg : Gl X nm := by rfl) (hd : (nm == ("__debug__" : Str)) = false := by decide)
    (hs : starEach [e, e2] X.env = (false, eval e X.env) :: starEach [e2] X.env := by rfl) (hs2 : starEach [e2] X.env = (false, eval e2 X.env) :: starEach [] X.env := by rfl) (hpl : (backTo pos (starEach [e2] X.env)).any (·.1) = false := by rfl) : JS X W (.Raise (some (.Call (.Name nm p) [e, e2] [] pos)) none pos2) (mRaise2 nm f g me mz) := by
  obtain ⟨t, pe, s⟩ := he.ex
  obtain ⟨t2, pe2, s2⟩ := hz.ex
  refine ⟨_, ps_raise hc tk (VX.pmk_x2 T hmg hr (pa_cons pe (pa_cons pe2 pa_nil hs2) hs) hg hd hs hpl), fun P F0 qc F cell S σ H D fl S' R hm kk => ?_⟩
  unfold mRaise2 at hm
  split at hm
  · rename_i d S1 e1
    split at hm
    · rename_i d2 S2 e3
      cases hm
      refine s P F0 qc F cell S σ H _ _ S1 R e1 fun v F1 H1 f1 R1 q1 => ?_
      refine s2 P F0 qc F1 cell S1 σ H1 _ _ S' R1 e3 fun v2 F2 H2 f2 R2 q2 => ?_
      refine ⟨v, v2, rfl, fun dd hdd => ?_⟩
      have ex : Ext F2 H2 (upd F2 dd (.xd [(f, v), (g, v2)])) (upd H2 dd (.xd [(f, v), (g, v2)])) := Ext.new R2.fh hdd
      have q1 : DV X.K F1 v d := q1
      have q2 : DV X.K F2 v2 d2 := q2
      exact kk _ cell σ _ ((f1.trans f2).trans ex.f) (R2.ext ex) C (some dd) [v, v2] T.nC upd_same (.cons ((q1.mono f2).mono ex.f) (.cons (q2.mono ex.f) .nil))
    · cases hm
  · cases hm
end
end VL
namespace VL
open PySem PySem.Spec PyProof.Rows L2
section
variable {X : Cx} {CX : CXT} {k : Nat} {f C pp : Addr} {fd : FuncData} {ps : List Str} {sp : Sp} {E : L2.St → XK} {x m : Str} {p pos apos : Pos} {e o : Expr} {es : List Expr} {kws : List Keyword} {ta : TE} {t : TA}
structure KPm (K : PySem.W.Frag) (fd : FuncData) (ps ks : List Str) (π : List Nat) : Prop where
  to : ∀ (s : Shared) (u : Value) (ws : List Value), K.In s.heap → ws.length = π.length → BindsTo s fd ⟨[u], ks.zip ws⟩ (ps.zip (u :: prm π ws))
end
end VL
namespace VL
open PySem PySem.Spec PyProof.Rows L2
section
variable {K : PySem.W.Frag} {F : Hp}
def putD (f : Str) (d : PyData) : List (Str × PyData) → List (Str × PyData)
  | [] => [(f, d)]
  | (g, x) :: r => if g = f then (g, d) :: r else (g, x) :: putD f d r
end
variable [LT]
def mFldO (b f : Str) (me : ME) : ME := fun S => match me S with
  | some (.p i, S1) => match heldAt S1 i with
    | some (.o c fs) => if c = b then match fs.lookup f with
        | some d => some (.v d, S1)
        | none => none
      else none
    | _ => none
  | _ => none
def mOb (b m : Str) (me : ME) : ME := fun S => match me S with
  | some (.p i, S1) => match heldAt S1 i with
    | some (.o c fs) => if c = b ∧ fs.lookup m = none then some (.p i, S1) else none
    | _ => none
  | _ => none
def mObP (b : Str) (me : ME) : ME := fun S => match me S with
  | some (.p i, S1) => match heldAt S1 i with
    | some (.o c fs) => if c = b then some (.p i, S1) else none
    | _ => none
  | _ => none
def mSetO (b f : Str) (i : Nat) (me : ME) : MS := fun S => match me S with
  | some (.v d, S1) => match heldAt S1 i with
    | some (.o c fs) => if c = b ∧ fs.length < 1000 then some (.nx, putAt S1 i (.o b (putD f d fs))) else none
    | _ => none
  | _ => none
section
variable {X : Cx} {W : WX} {K : PySem.W.Frag} {C : Addr} {b f m x : Str} {e o : Expr} {es : List Expr} {kws : List Keyword} {me mo : ME} {mas : MA} {pos pos' p1 apos : Pos}
theorem at0 {E : L2.St → XK} : ∀ σ, PassesAt CX0 X σ (E σ) := fun σ pins H s e s' I c => c.elim
variable {k n : Nat} {fa pp : Addr} {fd : FuncData} {ps ks : List Str} {π : List Nat} {mf : MF} {mx : MFX} {pl : Sem Bool}
end
end VL
namespace VL
open PySem PySem.Spec PyProof.Rows L2
variable [LT]
def mMakeX (b : Str) (n : Nat) (mf : MFX) (mas : MA) : MX := fun S => match mas S with
  | none => none
  | some (rs, S1) => if rs.length + 1 = n ∧ (ptrs rs).Nodup then match argsOf S1 rs with
      | none => none
      | some as => match mf (.q (.o b []) :: as) with
        | some (.val .none, .q (.o c fs) :: as') => match putBack S1 rs as' with
          | some S2 => some (.c (.o c fs), S2)
          | none => none
        | _ => none
    else none
section
variable {K : PySem.W.Frag} {P F0 F F' : Hp} {qc cell : Nat → Addr} {S : Sl} {σ : L2.St} {H H' : Hp}
theorem Fits.made {b : Str} {C x dx : Addr} {as : List SL} {vs : List V} (ft : Fits K F H as vs) (fh : Same F H) (hn : PySem.W.nsIn K mainGlobals b = some (some (.ref C))) (hx : H x = none) (hdx : H dx = none) (hne : dx ≠ x) :
    Fits K F (upd (upd H dx (.own x)) x (.ins C dx [])) (.q (.o b []) :: as) (.ref x :: vs) := by
  have st : ∀ b o, H b = some o → upd (upd H dx (.own x)) x (.ins C dx []) b = some o := fun b o e => by
    rw [upd_ne (ne_of_none e hx), upd_ne (ne_of_none e hdx)]
    exact e
  refine ⟨by rw [List.length_cons, List.length_cons, ft.len], fun j a e => ?_, fun i j y z c h1 h2 h3 h4 => ?_, ft.nf, ft.tb.ext st⟩
  · cases j with
    | zero =>
      cases e
      exact ⟨_, rfl, x, rfl, fh.free hx, C, dx, [], hn, upd_same, .nil⟩
    | succ j =>
      obtain ⟨v, h1, h2⟩ := ft.arg j a (by simpa using e)
      refine ⟨v, by simpa using h1, ?_⟩
      cases a with
      | v d => exact h2
      | q y =>
        obtain ⟨c, e1, e2, e3⟩ := h2
        exact ⟨c, e1, e2, e3.step (Same.refl _) fun o q _ => st _ _ q⟩
      | c y => exact h2
      | s o => exact h2
  · have old : ∀ {j : Nat} {z : CT}, as[j]? = some (.q z) → vs[j]? = some (.ref x) → False := fun {j z} e1 e2 => by
      obtain ⟨v, h1, c, e3, _, h3⟩ := ft.arg j _ e1
      rw [e2] at h1
      cases h1
      cases e3
      obtain ⟨o, h4, _⟩ := h3.is
      rw [hx] at h4
      cases h4
    cases i with
    | zero =>
      cases h3
      cases j with
      | zero => rfl
      | succ j => exact (old (by simpa using h2) (by simpa using h4)).elim
    | succ i =>
      cases j with
      | zero =>
        cases h4
        exact (old (by simpa using h1) (by simpa using h3)).elim
      | succ j => rw [ft.dist i j y z c (by simpa using h1) (by simpa using h2) (by simpa using h3) (by simpa using h4)]
theorem Back.made {C x dx : Addr} {a a' : SL} {as as' : List SL} {vs : List V} {v : V} {d : PyData} (B : Back K F (upd (upd H dx (.own x)) x (.ins C dx [])) F' H' (a :: as) (.ref x :: vs) (a' :: as') v d) (hx : H x = none) (hdx : H dx = none) : Back K F H F' H' as vs as' v d where
  f := B.f
  fh := B.fh
  keep := fun b o e ho hn => by
    refine B.keep b o (by rw [upd_ne (ne_of_none e hx), upd_ne (ne_of_none e hdx)]; exact e) ho fun j z h1 h2 => ?_
    cases j with
    | zero =>
      cases h2
      rw [hx] at e
      cases e
    | succ j => exact hn j z (by simpa using h1) (by simpa using h2)
  fr := fun b z => by
    have up : ∀ o, upd (upd H dx (.own x)) x (.ins C dx []) b = some o → (∀ ps, o = .tbl ps → H b = some o) := fun o e ps q => by
      subst q
      by_cases q1 : b = x
      · subst q1; rw [upd_same] at e; cases e
      · rw [upd_ne q1] at e
        by_cases q2 : b = dx
        · subst q2; rw [upd_same] at e; cases e
        · rw [upd_ne q2] at e
          exact e
    rcases B.fr b z with z | z | ⟨ps, z⟩
    · exact .inl z
    · refine .inr (.inl ?_)
      by_cases q1 : b = x
      · subst q1; exact hx
      · rw [upd_ne q1] at z
        by_cases q2 : b = dx
        · subst q2; exact hdx
        · rw [upd_ne q2] at z
          exact z
    · exact .inr (.inr ⟨ps, up _ z ps rfl⟩)
  nf := B.nf
  tb := B.tb
  dv := B.dv
  qs := fun j z e => by
    obtain ⟨c, h1, h2⟩ := B.qs (j + 1) z (by simpa using e)
    exact ⟨c, by simpa using h1, h2⟩
end
section
variable {X : Cx} {k n : Nat} {f C : Addr} {fd : FuncData} {ps : List Str} {x b : Str} {p pos : Pos} {e : Expr} {es : List Expr} {mf : MFX} {mas : MA}
end
end VL
namespace VX
open PySem PySem.Spec PyProof.Rows L2
structure XTxt0 (K : PySem.W.Frag) (mg : Str → Option Value) (x : Str) (C : Addr) : Prop where
  gC : mg x = some (.ref C)
  nC : PySem.W.nsIn K mainGlobals x = some (some (.ref C))
  ex : ∃ bmB, Nonempty (ExcBaseFacts "ValueError" "ValueError.__new__" "ValueError.__init__" bmB) ∧ PySem.W.excIn K C bmB "ValueError.__new__" = true
  kC : PySem.W.keepIn K (.ref C) = true
  exC : PySem.W.subIn K (.ref C) (.type "BaseException") = some true
  tyC : PySem.W.typeIn K (.ref C) = some (.type "type")
end VX
namespace VL
open PySem PySem.Spec PyProof.Rows L2
variable [LT]
def mRaise0 (nm : Str) : MS := fun S => some (.rz nm [], S)
section
variable {X : Cx} {W : WX} {nm : Str} {C : Addr} {p pos pos2 : Pos}
end
section
variable {X : Cx} {W : WX} {c : Expr} {body : List Stmt} {mt : MT} {mb : MS} {pos : Pos}
end
def putM (i : Nat) (mi : ME) (d : PyData) : Sl → Option Sl := fun S => match heldAt S i with
  | some (.l _) => match mi S with
    | some (.v (.int kk), S2) => match heldAt S2 i with
      | some (.l xs) => match ixN xs.length kk with
        | some n => some (putAt S2 i (.l (xs.set n d)))
        | none => none
      | _ => none
    | _ => none
  | _ => none
def mPut2 (i j : Nat) (mi mj me : ME) : MS := fun S => match me S with
  | some (.v (.tuple [d1, d2]), S1) => match putM i mi d1 S1 with
    | some S2 => match putM j mj d2 S2 with
      | some S3 => some (.nx, S3)
      | none => none
    | none => none
  | _ => none
section
variable {X : Cx} {W : WX} {x y : Str} {a b e : Expr} {mi mj me : ME} {pos p1 p2 q1 q2 pt : Pos} {kt : Nat}
end
def mCallOwn (mx : MX) (m : MF) : ME := fun S => match mx S with
  | some (.c ct, S1) => match m [.q ct] with
    | some (d, _) => some (.v d, S1)
    | none => none
  | _ => none
section
variable {K : PySem.W.Frag} {P F0 F F' : Hp} {qc cell : Nat → Addr} {S : Sl} {σ : L2.St} {H H' : Hp} {p : Addr} {o : HO} {ct : CT} {as' : List SL} {v : V} {d : PyData}
end
section
variable {X : Cx} {k : Nat} {f : Addr} {fd : FuncData} {ps : List Str} {x : Str} {p pos : Pos} {e : Expr} {m : MF} {mx : MX}
end
end VL
namespace VL
open PySem PySem.Spec PyProof.Rows L2
structure MetR (K : PySem.W.Frag) (x qual : Str) (st : Stmt) (f : Addr) (fd : FuncData) (ps : List Str) : Prop where
  fn : Fun K x qual st f fd
  b : Binds K fd ps []
theorem KPm.of {K : PySem.W.Frag} {x qual : Str} {st : Stmt} {f : Addr} {fd : FuncData} (F : Fun K x qual st f fd) {ps ks : List Str} {π : List Nat}
    (h : ∀ (kV doc pm : Value) (an : Option Addr) (cdv ct : Value) (u : Value) (ws : List Value), ws.length = π.length → bindArgs (PySem.W.fnOf x qual (defArgs st) (defBody st) (defScope st) .none kV doc pm an cdv ct) ⟨[u], ks.zip ws⟩ = pure (ps.zip (u :: prm π ws))) : KPm K fd ps ks π := by
  obtain ⟨oc, od, kV, doc, pm, an, cdv, ct, osl, rfl, lk, hcd⟩ := F.ex
  exact ⟨fun s u ws _ hl => .of_eq (h kV doc pm an cdv ct u ws hl)⟩
end VL
namespace VL
open PySem PySem.Spec PyProof.Rows L2
variable [LT]
section
variable {P : Program} {w : World} {K : PySem.W.Frag} {mg : Str → Option Value} {base : Heap}
end
structure DefD (K : PySem.W.Frag) (mg : Str → Option Value) (x : Str) (st : Stmt) (z : Int) (f : Addr) (fd : FuncData) (ps : List Str) : Prop where
  fn : FunD K x x (defArgs st) (defBody st) (defScope st) [.int z] [] f fd
  mgf : mg x = some (.ref f)
  b : Binds K fd ps []
  bd : ∃ ds, Vals [V.int z] ds ∧ Binds K fd ps ds
section
variable {X : Cx} {k n : Nat} {f : Addr} {fd : FuncData} {ps : List Str} {x : Str} {p pos : Pos} {e : Expr} {es : List Expr} {m : MF} {mas : MA} {z : Int}
end
structure AltX (X : Cx) (x : Str) (n : Nat) (m : MFX) : Prop where
  ex : ∃ f fd ps k, PySem.W.nsIn X.K mainGlobals x = some (some (.ref f)) ∧ FnG X.prog X.w X.K X.mg X.base (L2.CX X.prog X.w) k f fd ps (spX X.K n m) ∧ Room k X.A ∧ PySem.W.keepIn X.K (.ref f) = true ∧ Binds X.K fd ps []
section
variable {X : Cx} {W : WX} {x : Str} {p pos : Pos} {e : Expr} {es : List Expr} {mas : MA} {tab : List (Str × Nat × MFX)}
end
end VL
namespace VL
open PySem PySem.Spec PyProof.Rows L2
noncomputable section
variable [LT]
def topS (i : Nat) : Stmt := PySem.Challenge.pw_setback_k15_words_at_places.main.body.getD i (.Pass ⟨0, 0, 0, 0⟩)
abbrev s__law_pot : Stmt := topS 17
abbrev s__law_take : Stmt := topS 18
abbrev s__law_of : Stmt := topS 19
abbrev s__law_page : Stmt := topS 21
abbrev s__law_numbers : Stmt := topS 22
abbrev s_is_row : Stmt := topS 9
abbrev s_is_page : Stmt := topS 10
abbrev s_check_page : Stmt := topS 11
abbrev s_row_words : Stmt := topS 12
abbrev s_words_of_page : Stmt := topS 13
abbrev s_is_integer : Stmt := topS 6
abbrev s_is_below : Stmt := topS 14
abbrev s_word_at : Stmt := topS 15
abbrev s__law_is_within : Stmt := topS 24
abbrev s__law_odd : Stmt := topS 20
abbrev s__law_heard : Stmt := topS 23
abbrev s__law_right : Stmt := topS 25
abbrev s_law : Stmt := topS 26
abbrev N__law_pot : List Str := ["_law_script", "_law_k", "_law_cell", "_law_own"]
def m__law_pot : MC := mSeqC (mSet 2 (mIf (tVal (mBin ltD (mVar 1) (mLenS (mVar 0)))) (mIxS (mVar 0) (mVar 1)) (mBin addD (mBin mulD (mC (.int 37)) (mVar 1)) (mC (.int 11))))) (mSeqC (mSet 3 (mBin mulD (mBin modD (mCall intF (aCons (mCall absF (aCons (mVar 2) (aNil))) (aNil))) (mBin powD (mBin powD (mC (.int 10)) (mC (.int 60))) (mC (.int 5)))) (mCall intF (aCons (mBin geD (mCall absF (aCons (mVar 2) (aNil))) (mBin powD (mC (.int 10)) (mC (.int 18)))) (aNil))))) (mRetC (xLst (aCons (mVar 3) (aCons (mBin modD (mCall intF (aCons (mBin addD (mBin addD (mBin mulD (mBin modD (mCall intF (aCons (mVar 2) (aNil))) (mC (.int 2305843009213693951))) (mC (.int 68111))) (mBin mulD (mBin mulD (mC (.int 7433)) (mVar 1)) (mVar 1))) (mC (.int 59))) (aNil))) (mC (.int 2305843009213693921))) (aCons (mC (.int 0)) (aNil)))))))
def F__law_pot : MFc := defMc 4 m__law_pot
abbrev N__law_take : List Str := ["_law_pot_here", "_law_many", "_law_digit", "_law_made"]
def m__law_take : MS := mSeq (mIfS (tVal (mBin gtD (mBin ixD (mVar 0) (mC (.int 0))) (mC (.int 0)))) (mSeq (mSet 2 (mBin modD (mCall intF (aCons (mBin ixD (mVar 0) (mC (.int 0))) (aNil))) (mVar 1))) (mSeq (mPut 0 (mC (.int 0)) (mBin fdivD (mBin ixD (mVar 0) (mC (.int 0))) (mVar 1))) (mSeq (mRet (mVar 2)) (mNil)))) (mNil)) (mSeq (mPut 0 (mC (.int 2)) (mBin addD (mBin ixD (mVar 0) (mC (.int 2))) (mC (.int 1)))) (mSeq (mSet 3 (mBin modD (mCall intF (aCons (mBin mulD (mBin addD (mBin addD (mBin ixD (mVar 0) (mC (.int 1))) (mBin mulD (mBin mulD (mC (.int 65537)) (mBin ixD (mVar 0) (mC (.int 2)))) (mBin ixD (mVar 0) (mC (.int 2))))) (mC (.int 47))) (mC (.int 48271))) (aNil))) (mC (.int 2305843009213693921)))) (mSeq (mSet 3 (mBin modD (mCall intF (aCons (mBin mulD (mVar 3) (mBin addD (mBin modD (mCall intF (aCons (mVar 3) (aNil))) (mC (.int 1000003))) (mBin mulD (mC (.int 99991)) (mBin ixD (mVar 0) (mC (.int 2)))))) (aNil))) (mC (.int 2305843009213693907)))) (mSeq (mRet (mBin modD (mCall intF (aCons (mBin addD (mBin fdivD (mVar 3) (mC (.int 107))) (mBin fdivD (mVar 3) (mC (.int 1000033)))) (aNil))) (mVar 1))) (mNil)))))
def F__law_take : MF := defM 4 m__law_take
abbrev N__law_of : List Str := ["_law_pot_here", "_law_some"]
def m__law_of : MS := mSeq (mRet (mBin ixD (mVar 1) (mCallF 2 F__law_take (aCons (mVar 0) (aCons (mCall lenF (aCons (mVar 1) (aNil))) (aNil)))))) (mNil)
def F__law_of : MF := defM 2 m__law_of
abbrev N__law_page : List Str := ["_law_pot_here", "_law_rows", "_law_places", "_law_wide", "_law_signs", "_law_line", "_law_at"]
def E1__law_page : ME := mCallF 2 F__law_of (aCons (mVar 0) (aCons (mVar 4) (aNil)))
def C2__law_page : MX := xLc (mRng1 (aCons (mVar 3) (aNil))) (gSet 6) (tYesM) (E1__law_page) [6]
def E3__law_page : ME := mBin (onStr joinF) (mC (.str "")) (mTell (C2__law_page))
def C4__law_page : MX := xLc (mRng1 (aCons (mBin addD (mC (.int 1)) (mCallF 2 F__law_take (aCons (mVar 0) (aCons (mVar 1) (aNil))))) (aNil))) (gSet 5) (tYesM) (E3__law_page) [5]
def m__law_page : MS := mSeq (mUnp (mTup (aCons (mBin addD (mC (.int 1)) (mCallF 2 F__law_take (aCons (mVar 0) (aCons (mVar 2) (aNil))))) (aCons (mCallF 2 F__law_of (aCons (mVar 0) (aCons (mLst (aCons (mC (.str "a ")) (aCons (mC (.str "ab ")) (aCons (mC (.str "abz  ")) (aCons (mC (.str "m    ")) (aCons (mC (.str "qrs")) (aNil))))))) (aNil)))) (aNil)))) (gTupM 2 (gsCons (gSet 3) (gsCons (gSet 4) (gsNil))))) (mSeq (mRet (mCall tupleF (aCons (mTell (C4__law_page)) (aNil)))) (mNil))
def F__law_page : MF := defM 7 m__law_page
abbrev N__law_numbers : List Str := ["_law_sheet", "_law_found", "_law_number", "_law_text", "_law_numbers_here", "_law_ahead", "_law_sign"]
def B1__law_numbers : MS := mSeq (mSet 2 (mBin addD (mVar 2) (mCall intF (aCons (mAnd (mBin neDD (mVar 6) (mC (.str " "))) (mBin eqDD (mVar 5) (mC (.str " ")))) (aNil))))) (mSeq (mApp 4 (mIf (tVal (mBin neDD (mVar 6) (mC (.str " ")))) (mVar 2) (mC .none))) (mSeq (mSet 5 (mVar 6)) (mNil)))
def L2__law_numbers : MS := mFor (mIt (mVar 3)) (gSet 6) (B1__law_numbers)
def B3__law_numbers : MS := mSeq (mPar [4, 5] (xsCons (xLst (aNil)) (xsCons (mV (mC (.str " "))) (xsNil)))) (mSeq (L2__law_numbers) (mFrz 4 (mSeq (mApp 1 (mVar 4)) (mNil))))
def L4__law_numbers : MS := mFor (mIt (mVar 0)) (gSet 3) (B3__law_numbers)
def m__law_numbers : MS := mSeq (mPar [1, 2] (xsCons (xLst (aNil)) (xsCons (mV (mUn negD (mC (.int 1)))) (xsNil)))) (mSeq (L4__law_numbers) (mSeq (mRet (mVar 1)) (mNil)))
def F__law_numbers : MF := defM 7 m__law_numbers
abbrev N_is_row : List Str := ["value", "sign"]
def E1_is_row : ME := mOr (mBin eqDD (mVar 1) (mC (.str " "))) (mBin inAD (mVar 1) (mC (.str "abcdefghijklmnopqrstuvwxyz")))
def C2_is_row : MX := xLc (mIt (mVar 0)) (gSet 1) (tYesM) (E1_is_row) [1]
def m_is_row : MS := mSeq (mRet (mAnd (mUn (isiF "str") (mVar 0)) (mAnd (mBin neDD (mVar 0) (mC (.str ""))) (mCall allF (aCons (mTell (C2_is_row)) (aNil)))))) (mNil)
def F_is_row : MF := defM 2 m_is_row
abbrev N_is_page : List Str := ["value", "row"]
def E1_is_page : ME := mBin eqDD (mCall lenF (aCons (mVar 1) (aNil))) (mCall lenF (aCons (mBin ixD (mVar 0) (mC (.int 0))) (aNil)))
def C2_is_page : MX := xLc (mIt (mVar 0)) (gSet 1) (tYesM) (E1_is_page) [1]
def E3_is_page : ME := mCallF 1 F_is_row (aCons (mVar 1) (aNil))
def C4_is_page : MX := xLc (mIt (mVar 0)) (gSet 1) (tYesM) (E3_is_page) [1]
def m_is_page : MS := mSeq (mIfS (tOrM (tNotM (tVal (mUn (isiF "tuple") (mVar 0)))) (tOrM (tVal (mBin eqDD (mVar 0) (mTup (aNil)))) (tNotM (tVal (mCall allF (aCons (mTell (C4_is_page)) (aNil))))))) (mSeq (mRet (mC (.bool false))) (mNil)) (mNil)) (mSeq (mRet (mCall allF (aCons (mTell (C2_is_page)) (aNil)))) (mNil))
def F_is_page : MF := defM 2 m_is_page
abbrev N_check_page : List Str := ["value"]
def m_check_page : MS := mSeq (mIfS (tNotM (tVal (mCallF 1 F_is_page (aCons (mVar 0) (aNil))))) (mSeq (mRaise "BadPage" "value" (mVar 0)) (mNil)) (mNil)) (mNil)
def F_check_page : MFX := defMX 1 m_check_page
abbrev N_row_words : List Str := ["text", "found", "place", "part"]
def B1_row_words : MS := mSeq (mIfS (tVal (mBin neDD (mVar 3) (mC (.str "")))) (mSeq (mApp 1 (mTup (aCons (mVar 3) (aCons (mVar 2) (aNil))))) (mNil)) (mNil)) (mSeq (mAug 2 iaddD (mBin addD (mCall lenF (aCons (mVar 3) (aNil))) (mC (.int 1)))) (mNil))
def L2_row_words : MS := mFor (mIt (mBin (onStr splitF) (mVar 0) (mC (.str " ")))) (gSet 3) (B1_row_words)
def m_row_words : MS := mSeq (mPar [1, 2] (xsCons (xLst (aNil)) (xsCons (mV (mC (.int 0))) (xsNil)))) (mSeq (L2_row_words) (mSeq (mRet (mVar 1)) (mNil)))
def F_row_words : MF := defM 4 m_row_words
abbrev N_words_of_page : List Str := ["page", "row", "text", "word", "place"]
def C1_words_of_page : MX := xLc2 (mEnumA (aCons (mVar 0) (aNil))) (gTupM 2 (gsCons (gSet 1) (gsCons (gSet 2) (gsNil)))) (tYesM) (mIt (mCallF 1 F_row_words (aCons (mVar 2) (aNil)))) (gTupM 2 (gsCons (gSet 3) (gsCons (gSet 4) (gsNil)))) (tYesM) (mTup (aCons (mVar 3) (aCons (mVar 1) (aCons (mVar 4) (aNil))))) [1, 2, 3, 4] [3, 4]
def m_words_of_page : MS := mSeq (mRet (mTell (C1_words_of_page))) (mNil)
def F_words_of_page : MF := defM 5 m_words_of_page
abbrev N_is_integer : List Str := ["value"]
def m_is_integer : MS := mSeq (mRet (mAnd (mUn (isiF "int") (mVar 0)) (mNot (mUn (isiF "bool") (mVar 0))))) (mNil)
def F_is_integer : MF := defM 1 m_is_integer
abbrev N_is_below : List Str := ["value", "end"]
def m_is_below : MS := mSeq (mRet (mAnd (mCallF 1 F_is_integer (aCons (mVar 0) (aNil))) (mChain leD ltD (mC (.int 0)) (mVar 0) (mVar 1)))) (mNil)
def F_is_below : MF := defM 2 m_is_below
abbrev N_word_at : List Str := ["page", "row", "place", "number", "word", "its_row", "begin"]
def B1_word_at : MS := mSeq (mIfS (tAndM (tVal (mBin eqDD (mVar 5) (mVar 1))) (tVal (mChain leD ltD (mVar 6) (mVar 2) (mBin addD (mVar 6) (mCall lenF (aCons (mVar 4) (aNil))))))) (mSeq (mRet (mVar 3)) (mNil)) (mNil)) (mNil)
def L2_word_at : MS := mFor (mEnumA (aCons (mCallF 1 F_words_of_page (aCons (mVar 0) (aNil))) (aNil))) (gTupM 2 (gsCons (gSet 3) (gsCons (gTupM 3 (gsCons (gSet 4) (gsCons (gSet 5) (gsCons (gSet 6) (gsNil))))) (gsNil)))) (B1_word_at)
def m_word_at : MS := mSeq (mExprX (mCallX 1 F_check_page (aCons (mVar 0) (aNil)))) (mSeq (mIfS (tOrM (tNotM (tVal (mCallF 2 F_is_below (aCons (mVar 1) (aCons (mCall lenF (aCons (mVar 0) (aNil))) (aNil)))))) (tNotM (tVal (mCallF 2 F_is_below (aCons (mVar 2) (aCons (mCall lenF (aCons (mBin ixD (mVar 0) (mC (.int 0))) (aNil))) (aNil))))))) (mSeq (mRaise2 "BadPlace" "row" "place" (mVar 1) (mVar 2)) (mNil)) (mNil)) (mSeq (L2_word_at) (mSeq (mRet (mC .none)) (mNil))))
def F_word_at : MFX := defMX 7 m_word_at
abbrev N__law_is_within : List Str := ["_law_value", "_law_end"]
def m__law_is_within : MS := mSeq (mRet (mAnd (mUn (isiF "int") (mVar 0)) (mAnd (mNot (mUn (isiF "bool") (mVar 0))) (mChain leD ltD (mC (.int 0)) (mVar 0) (mVar 1))))) (mNil)
def F__law_is_within : MF := defM 2 m__law_is_within
abbrev N__law_odd : List Str := ["_law_pot_here", "_law_some", "_law_found", "_law_turn"]
def B1__law_odd : MS := mSeq (mSet 2 (mCallF 2 F__law_of (aCons (mVar 0) (aCons (mLst (aCons (mTup (aCons (mVar 2) (aNil))) (aCons (mLst (aCons (mVar 2) (aNil))) (aCons (mDict1 "a" (mVar 2)) (aCons (mTup (aCons (mVar 2) (aCons (mC (.str "a")) (aNil)))) (aNil)))))) (aNil))))) (mNil)
def L2__law_odd : MS := mFor (mRng1 (aCons (mCallF 2 F__law_of (aCons (mVar 0) (aCons (mLst (aCons (mC (.int 0)) (aCons (mC (.int 0)) (aCons (mC (.int 0)) (aCons (mC (.int 1)) (aCons (mC (.int 2)) (aCons (mC (.int 30)) (aNil)))))))) (aNil)))) (aNil))) (gSet 3) (B1__law_odd)
def m__law_odd : MS := mSeq (mSet 1 (mLst (aCons (mC .none) (aCons (mC (.bool true)) (aCons (mC (.bool false)) (aCons (mC (.int 0)) (aCons (mC (.int 1)) (aCons (mUn negD (mC (.int 1))) (aCons (mBin powD (mC (.int 10)) (mC (.int 17))) (aCons (mC (.str "")) (aCons (mC (.str " ")) (aCons (mC (.str "a")) (aCons (mC (.str "ab c")) (aCons (mTup (aNil)) (aCons (mTup (aCons (mC (.str "")) (aNil))) (aCons (mTup (aCons (mC (.str "a")) (aNil))) (aCons (mLst (aNil)) (aCons (mLst (aCons (mC (.str "a")) (aNil))) (aCons (mC (.dict [])) (aCons (mDict1 "a" (mC (.str "b"))) (aNil))))))))))))))))))))) (mSeq (mSet 2 (mCallF 2 F__law_of (aCons (mVar 0) (aCons (mBin addD (mVar 1) (mLst (aCons (mTup (aCons (mC (.str "a")) (aCons (mC (.str "bc")) (aNil)))) (aCons (mTup (aCons (mTup (aCons (mC (.str "a")) (aNil))) (aNil))) (aCons (mTup (aCons (mC (.str "a")) (aCons (mC .none) (aNil)))) (aCons (mTup (aCons (mC (.str "a")) (aCons (mC (.int 1)) (aNil)))) (aCons (mTup (aCons (mC (.str "a")) (aCons (mLst (aCons (mC (.str "b")) (aNil))) (aNil)))) (aCons (mC (.str "a\n")) (aNil))))))))) (aNil))))) (mSeq (L2__law_odd) (mSeq (mRet (mVar 2)) (mNil))))
def F__law_odd : MF := defM 4 m__law_odd
abbrev N__law_heard : List Str := ["_law_call", "_law_caught", "_law_told", "error"]
def m__law_heard : Out → Addr → Hp → MS := fun o f F1 => mSeq (mUnp (mTup (aCons (mC .none) (aCons (mC .none) (aNil)))) (gTupM 2 (gsCons (gSet 1) (gsCons (gSet 2) (gsNil))))) (mSeq (mTryK (kx [("BadPage", true), ("BadPlace", true)]) 1 3 (mSeq (mSetX2 2 (mAct o f F1)) (mNil))) (mSeq (mIfS (tAndM (tVal (mIsE (kx [("BadPage", true), ("BadPlace", false)]) (some false) (mVar 1))) (tNotM (tVal (mIsE (kx [("BadPage", false), ("BadPlace", true)]) (some false) (mVar 1))))) (mSeq (mRet (mTup (aCons (mC (.str "page")) (aCons (mFld (kok [("BadPage", true), ("BadPlace", false)]) "value" (mVar 1)) (aNil))))) (mNil)) (mNil)) (mSeq (mIfS (tAndM (tVal (mIsE (kx [("BadPage", false), ("BadPlace", true)]) (some false) (mVar 1))) (tAndM (tVal (mIsE (kx [("BadPage", true), ("BadPlace", true)]) (some false) (mVar 1))) (tNotM (tVal (mIsE (kx [("BadPage", true), ("BadPlace", false)]) (some false) (mVar 1)))))) (mSeq (mRet (mTup (aCons (mC (.str "place")) (aCons (mFld (kok [("BadPage", false), ("BadPlace", true)]) "row" (mVar 1)) (aCons (mFld (kok [("BadPage", false), ("BadPlace", true)]) "place" (mVar 1)) (aNil)))))) (mNil)) (mNil)) (mSeq (mRet (mIf (tVal (mIsN (mVar 1))) (mTup (aCons (mC (.str "told")) (aCons (mVar 2) (aNil)))) (mTup (aCons (mC (.str "other")) (aCons (mC .none) (aNil)))))) (mNil)))))
abbrev N__law_right : List Str := ["_law_pot_here", "_law_sheet", "_law_due", "_law_rows", "_law_places", "_law_line", "_law_told", "_law_spot", "_law_turn", "_law_wanted", "_law_odd_here"]
def B1__law_right : MS := mSeq (mSet 5 (mCallF 2 F__law_of (aCons (mVar 0) (aCons (mLst (aCons (mCallF 2 F__law_take (aCons (mVar 0) (aCons (mVar 3) (aNil)))) (aCons (mVar 3) (aCons (mUn negD (mC (.int 1))) (aCons (mBin subD (mVar 3) (mC (.int 1))) (aCons (mC (.bool true)) (aCons (mCallF 1 F__law_odd (aCons (mVar 0) (aNil))) (aNil)))))))) (aNil))))) (mSeq (mSet 7 (mCallF 2 F__law_of (aCons (mVar 0) (aCons (mLst (aCons (mCallF 2 F__law_take (aCons (mVar 0) (aCons (mVar 4) (aNil)))) (aCons (mVar 4) (aCons (mUn negD (mC (.int 1))) (aCons (mBin subD (mVar 4) (mC (.int 1))) (aCons (mC (.bool false)) (aCons (mCallF 1 F__law_odd (aCons (mVar 0) (aNil))) (aNil)))))))) (aNil))))) (mSeq (mSet 9 (mTup (aCons (mC (.str "place")) (aCons (mVar 5) (aCons (mVar 7) (aNil)))))) (mSeq (mIfS (tAndM (tVal (mCallF 2 F__law_is_within (aCons (mVar 5) (aCons (mVar 3) (aNil))))) (tVal (mCallF 2 F__law_is_within (aCons (mVar 7) (aCons (mVar 4) (aNil)))))) (mSeq (mSet 9 (mTup (aCons (mC (.str "told")) (aCons (mBin ixD (mBin ixD (mVar 2) (mVar 5)) (mVar 7)) (aNil))))) (mNil)) (mNil)) (mSeq (mIfS (tVal (mBin neDD (mCall reprF (aCons (mLam (mCallX 3 F_word_at (aCons (mVar 1) (aCons (mVar 5) (aCons (mVar 7) (aNil))))) (givesO 4 m__law_heard)) (aNil))) (mCall reprF (aCons (mVar 9) (aNil))))) (mSeq (mRet (mC (.bool false))) (mNil)) (mNil)) (mSeq (mSet 10 (mCallF 2 F__law_of (aCons (mVar 0) (aCons (mLst (aCons (mCall listF (aCons (mVar 1) (aNil))) (aCons (mTup (aNil)) (aCons (mC .none) (aCons (mBin addD (mVar 1) (mTup (aCons (mC (.str "")) (aNil)))) (aCons (mC (.str "ab")) (aCons (mTup (aCons (mVar 1) (aNil))) (aCons (mDict1 "a" (mVar 1)) (aNil))))))))) (aNil))))) (mSeq (mIfS (tVal (mBin neDD (mCall reprF (aCons (mLam (mCallX 3 F_word_at (aCons (mVar 10) (aCons (mVar 5) (aCons (mVar 7) (aNil))))) (givesO 4 m__law_heard)) (aNil))) (mCall reprF (aCons (mTup (aCons (mC (.str "page")) (aCons (mVar 10) (aNil)))) (aNil))))) (mSeq (mRet (mC (.bool false))) (mNil)) (mNil)) (mNil)))))))
def L2__law_right : MS := mFor (mRng1 (aCons (mC (.int 24)) (aNil))) (gSet 8) (B1__law_right)
def E3__law_right : ME := mValX (mCallX 3 F_word_at (aCons (mVar 1) (aCons (mVar 5) (aCons (mVar 7) (aNil)))))
def C4__law_right : MX := xLc (mRng1 (aCons (mVar 4) (aNil))) (gSet 7) (tYesM) (E3__law_right) [7]
def B5__law_right : MS := mSeq (mSetX 6 (C4__law_right)) (mFrz 6 (mSeq (mIfS (tOrM (tVal (mBin neDD (mCall reprF (aCons (mVar 6) (aNil))) (mCall reprF (aCons (mBin ixD (mVar 2) (mVar 5)) (aNil))))) (tVal (mBin neDD (mValX (mCallX 3 F_word_at (mPerm [2, 1, 0] (aCons (mC (.int 0)) (aCons (mVar 5) (aCons (mVar 1) (aNil))))))) (mBin ixD (mBin ixD (mVar 2) (mVar 5)) (mC (.int 0)))))) (mSeq (mRet (mC (.bool false))) (mNil)) (mNil)) (mNil)))
def L6__law_right : MS := mFor (mRng1 (aCons (mVar 3) (aNil))) (gSet 5) (B5__law_right)
def m__law_right : MS := mSeq (mSet 1 (mCallF 3 F__law_page (aCons (mVar 0) (aCons (mC (.int 12)) (aCons (mC (.int 24)) (aNil)))))) (mSeq (mPar [2, 3, 4] (xsCons (mV (mCallF 1 F__law_numbers (aCons (mVar 1) (aNil)))) (xsCons (mV (mCall lenF (aCons (mVar 1) (aNil)))) (xsCons (mV (mCall lenF (aCons (mBin ixD (mVar 1) (mC (.int 0))) (aNil)))) (xsNil))))) (mSeq (L6__law_right) (mSeq (L2__law_right) (mSeq (mRet (mC (.bool true))) (mNil)))))
def F__law_right : MF := defM 11 m__law_right
abbrev N_law : List Str := ["_law_script", "_law_k", "_law_pot_here", "_law_turn"]
def E1_law : ME := mCallF 1 F__law_right (aCons (mVar 2) (aNil))
def C2_law : MX := xLc (mRng1 (aCons (mC (.int 4)) (aNil))) (gSet 3) (tYesM) (E1_law) [3]
def B3_law : MS := mSeq (mSetX 2 (mCallC 2 F__law_pot (aCons (mVar 0) (aCons (mVar 1) (aNil))))) (mSeq (mIfS (tNotM (tVal (mCall allF (aCons (mTell (C2_law)) (aNil))))) (mSeq (mRet (mC (.bool false))) (mNil)) (mNil)) (mNil))
def L4_law : MS := mFor (mRng1 (aCons (mCall max2F (aCons (mC (.int 1)) (aCons (mCall min2F (aCons (mC (.int 3)) (aCons (mLenS (mVar 0)) (aNil)))) (aNil)))) (aNil))) (gSet 1) (B3_law)
def m_law : MS := mSeq (L4_law) (mSeq (mRet (mC (.bool true))) (mNil))
def F_law : MF := defM 4 m_law
structure DefR (K : PySem.W.Frag) (mg : Str → Option Value) (x : Str) (st : Stmt) (f : Addr) (fd : FuncData) (ps : List Str) : Prop where
  fn : Fun K x x st f fd
  mgf : mg x = some (.ref f)
  b : Binds K fd ps []
  kb : KB K fd ps
structure AllD [LT] (P : Program) (K : PySem.W.Frag) (mg : Str → Option Value) (f__law_pot f__law_take f__law_of f__law_page f__law_numbers f_is_row f_is_page f_check_page f_row_words f_words_of_page f_is_integer f_is_below f_word_at f__law_is_within f__law_odd f__law_heard f__law_right f_law : Addr) (fd__law_pot fd__law_take fd__law_of fd__law_page fd__law_numbers fd_is_row fd_is_page fd_check_page fd_row_words fd_words_of_page fd_is_integer fd_is_below fd_word_at fd__law_is_within fd__law_odd fd__law_heard fd__law_right fd_law : FuncData) (C_BadPage C_BadPlace C_SetbackError I_BadPage I_BadPlace c_tab P_tab : Addr) (t_BLANK t_LETTERS : Tok) : Prop where
  d__law_pot : DefR K mg "_law_pot" s__law_pot f__law_pot fd__law_pot ["_law_script", "_law_k"]
  d__law_take : DefR K mg "_law_take" s__law_take f__law_take fd__law_take ["_law_pot_here", "_law_many"]
  d__law_of : DefR K mg "_law_of" s__law_of f__law_of fd__law_of ["_law_pot_here", "_law_some"]
  d__law_page : DefR K mg "_law_page" s__law_page f__law_page fd__law_page ["_law_pot_here", "_law_rows", "_law_places"]
  d__law_numbers : DefR K mg "_law_numbers" s__law_numbers f__law_numbers fd__law_numbers ["_law_sheet"]
  d_is_row : DefR K mg "is_row" s_is_row f_is_row fd_is_row ["value"]
  d_is_page : DefR K mg "is_page" s_is_page f_is_page fd_is_page ["value"]
  d_check_page : DefR K mg "check_page" s_check_page f_check_page fd_check_page ["value"]
  d_row_words : DefR K mg "row_words" s_row_words f_row_words fd_row_words ["text"]
  d_words_of_page : DefR K mg "words_of_page" s_words_of_page f_words_of_page fd_words_of_page ["page"]
  d_is_integer : DefR K mg "is_integer" s_is_integer f_is_integer fd_is_integer ["value"]
  d_is_below : DefR K mg "is_below" s_is_below f_is_below fd_is_below ["value", "end"]
  d_word_at : DefR K mg "word_at" s_word_at f_word_at fd_word_at ["page", "row", "place"]
  d__law_is_within : DefR K mg "_law_is_within" s__law_is_within f__law_is_within fd__law_is_within ["_law_value", "_law_end"]
  d__law_odd : DefR K mg "_law_odd" s__law_odd f__law_odd fd__law_odd ["_law_pot_here"]
  d__law_heard : DefR K mg "_law_heard" s__law_heard f__law_heard fd__law_heard ["_law_call"]
  d__law_right : DefR K mg "_law_right" s__law_right f__law_right fd__law_right ["_law_pot_here"]
  d_law : DefR K mg "law" s_law f_law fd_law ["_law_script"]
  b_ValueError : mg "ValueError" = none
  b_abs : mg "abs" = none
  b_all : mg "all" = none
  b_bool : mg "bool" = none
  b_enumerate : mg "enumerate" = none
  b_int : mg "int" = none
  b_isinstance : mg "isinstance" = none
  b_len : mg "len" = none
  b_list : mg "list" = none
  b_max : mg "max" = none
  b_min : mg "min" = none
  b_range : mg "range" = none
  b_repr : mg "repr" = none
  b_str : mg "str" = none
  b_super : mg "super" = none
  b_tuple : mg "tuple" = none
  c_BLANK : mg "BLANK" = some (.str " " t_BLANK)
  c_LETTERS : mg "LETTERS" = some (.str "abcdefghijklmnopqrstuvwxyz" t_LETTERS)
  h_BadPage : mg "BadPage" = some (.ref C_BadPage)
  h_BadPlace : mg "BadPlace" = some (.ref C_BadPlace)
  h_SetbackError : mg "SetbackError" = some (.ref C_SetbackError)
  x_BadPage : VX.XTxt P K mg "BadPage" "value" C_BadPage I_BadPage
  x_BadPlace : VX.XTxt2 P K mg "BadPlace" "row" "place" C_BadPlace I_BadPlace
  hs_SetbackError : KX K (fun C b => PySem.W.exmOne K (.ref C) (.ref C_SetbackError) = some b) [("BadPage", true), ("BadPlace", true)]
  kit_BadPlace : KX K (fun C b => PySem.W.kitOne K (.ref C) (.ref C_BadPlace) = some b ∧ ExcC K C) [("BadPage", false), ("BadPlace", true)]
  kn_BadPlace : PySem.W.kitOne K (.type "NoneType") (.ref C_BadPlace) = some false
  kit_ValueError : KX K (fun C b => PySem.W.kitOne K (.ref C) (.type "ValueError") = some b ∧ ExcC K C) [("BadPage", true), ("BadPlace", true)]
  kn_ValueError : PySem.W.kitOne K (.type "NoneType") (.type "ValueError") = some false
  kit_BadPage : KX K (fun C b => PySem.W.kitOne K (.ref C) (.ref C_BadPage) = some b ∧ ExcC K C) [("BadPage", true), ("BadPlace", false)]
  kn_BadPage : PySem.W.kitOne K (.type "NoneType") (.ref C_BadPage) = some false
  fld_place : KX K (fun C b => XfC K C ∧ PySem.W.findIn K (.ref C) "place" = some none) [("BadPage", false), ("BadPlace", true)]
  fld_row : KX K (fun C b => XfC K C ∧ PySem.W.findIn K (.ref C) "row" = some none) [("BadPage", false), ("BadPlace", true)]
  fld_value : KX K (fun C b => XfC K C ∧ PySem.W.findIn K (.ref C) "value" = some none) [("BadPage", true), ("BadPlace", false)]
  lc : fd__law_right.code = .ref c_tab
  lt_mem : (P_tab, (envOfC "_law_right" (defScope s__law_right) 0 0 .none).qual ++ "<lambda>") ∈ LT.T
  lt_u : ∀ p ∈ LT.T, p.1 = P_tab → p.2 = (envOfC "_law_right" (defScope s__law_right) 0 0 .none).qual ++ "<lambda>"
section
variable {P : Program} {w : World} {K : PySem.W.Frag} {mg : Str → Option Value} {base : Heap} {f__law_pot f__law_take f__law_of f__law_page f__law_numbers f_is_row f_is_page f_check_page f_row_words f_words_of_page f_is_integer f_is_below f_word_at f__law_is_within f__law_odd f__law_heard f__law_right f_law : Addr} {fd__law_pot fd__law_take fd__law_of fd__law_page fd__law_numbers fd_is_row fd_is_page fd_check_page fd_row_words fd_words_of_page fd_is_integer fd_is_below fd_word_at fd__law_is_within fd__law_odd fd__law_heard fd__law_right fd_law : FuncData} {C_BadPage C_BadPlace C_SetbackError I_BadPage I_BadPlace c_tab P_tab : Addr} {t_BLANK t_LETTERS : Tok}
variable (T : AllD P K mg f__law_pot f__law_take f__law_of f__law_page f__law_numbers f_is_row f_is_page f_check_page f_row_words f_words_of_page f_is_integer f_is_below f_word_at f__law_is_within f__law_odd f__law_heard f__law_right f_law fd__law_pot fd__law_take fd__law_of fd__law_page fd__law_numbers fd_is_row fd_is_page fd_check_page fd_row_words fd_words_of_page fd_is_integer fd_is_below fd_word_at fd__law_is_within fd__law_odd fd__law_heard fd__law_right fd_law C_BadPage C_BadPlace C_SetbackError I_BadPage I_BadPlace c_tab P_tab t_BLANK t_LETTERS)
variable (TB : LamX.TabB base mg c_tab P_tab)
theorem sc__law_pot : FnScope N__law_pot ["_law_script", "_law_k"] (defScope s__law_pot) := ⟨rfl, rfl, rfl, by decide +kernel, rfl, by decide +kernel, by decide +kernel⟩
include T in
theorem g__law_pot : FnG P w K mg base CX0 1 f__law_pot fd__law_pot ["_law_script", "_law_k"] (spC K 2 F__law_pot) :=
  have nd : N__law_pot.Nodup := sc__law_pot.nd
  jfC T.d__law_pot.fn sc__law_pot (by decide) fun cdv A outer s H E gd hr =>
    jc_cons (js_set 2 nd (je_if (jt_lt (je_var 1) (je_lenS T.b_len (je_var 0))) (je_ixS (je_var 0) (je_var 1)) (je_add (je_mul (je_int) (je_var 1)) (je_int)))) (jc_cons (js_set 3 nd (je_mul (je_mod (je_toint T.b_int (ja_cons (je_abs T.b_abs (ja_cons (je_var 2) (ja_nil))) (ja_nil))) (je_pow (je_pow (je_int) (je_int)) (je_int))) (je_toint T.b_int (ja_cons (je_ge (je_abs T.b_abs (ja_cons (je_var 2) (ja_nil))) (je_pow (je_int) (je_int))) (ja_nil))))) (jc_ret (jx_lst (ja_cons (je_var 3) (ja_cons (je_mod (je_toint T.b_int (ja_cons (je_add (je_add (je_mul (je_mod (je_toint T.b_int (ja_cons (je_var 2) (ja_nil))) (je_int)) (je_int)) (je_mul (je_mul (je_int) (je_var 1)) (je_var 1))) (je_int)) (ja_nil))) (je_int)) (ja_cons (je_int) (ja_nil)))))))
theorem sc__law_take : FnScope N__law_take ["_law_pot_here", "_law_many"] (defScope s__law_take) := ⟨rfl, rfl, rfl, by decide +kernel, rfl, by decide +kernel, by decide +kernel⟩
include T in
theorem g__law_take : FnG P w K mg base CX0 1 f__law_take fd__law_take ["_law_pot_here", "_law_many"] (spM K 2 F__law_take) :=
  have nd : N__law_take.Nodup := sc__law_take.nd
  jf T.d__law_take.fn sc__law_take (by decide) fun cdv A outer s H E gd hr =>
    jb_cons (js_if (jt_gt (je_ix (je_var 0) (je_int)) (je_int)) (jb_cons (js_set 2 nd (je_mod (je_toint T.b_int (ja_cons (je_ix (je_var 0) (je_int)) (ja_nil))) (je_var 1))) (jb_cons (js_put 0 (je_fdiv (je_ix (je_var 0) (je_int)) (je_var 1)) (je_int)) (jb_cons (js_ret (je_var 2)) (jb_nil)))) (jb_nil)) (jb_cons (js_put 0 (je_add (je_ix (je_var 0) (je_int)) (je_int)) (je_int)) (jb_cons (js_set 3 nd (je_mod (je_toint T.b_int (ja_cons (je_mul (je_add (je_add (je_ix (je_var 0) (je_int)) (je_mul (je_mul (je_int) (je_ix (je_var 0) (je_int))) (je_ix (je_var 0) (je_int)))) (je_int)) (je_int)) (ja_nil))) (je_int))) (jb_cons (js_set 3 nd (je_mod (je_toint T.b_int (ja_cons (je_mul (je_var 3) (je_add (je_mod (je_toint T.b_int (ja_cons (je_var 3) (ja_nil))) (je_int)) (je_mul (je_int) (je_ix (je_var 0) (je_int))))) (ja_nil))) (je_int))) (jb_cons (js_ret (je_mod (je_toint T.b_int (ja_cons (je_add (je_fdiv (je_var 3) (je_int)) (je_fdiv (je_var 3) (je_int))) (ja_nil))) (je_var 1))) (jb_nil)))))
theorem sc__law_of : FnScope N__law_of ["_law_pot_here", "_law_some"] (defScope s__law_of) := ⟨rfl, rfl, rfl, by decide +kernel, rfl, by decide +kernel, by decide +kernel⟩
include T in
theorem g__law_of : FnG P w K mg base CX0 2 f__law_of fd__law_of ["_law_pot_here", "_law_some"] (spM K 2 F__law_of) :=
  have nd : N__law_of.Nodup := sc__law_of.nd
  jf T.d__law_of.fn sc__law_of (by decide) fun cdv A outer s H E gd hr =>
    jb_cons (js_ret (je_ix (je_var 1) (je_callF (g__law_take T) gd (hr.mono (by decide)) T.d__law_take.mgf T.d__law_take.fn.kp T.d__law_take.b (ja_cons (je_var 0) (ja_cons (je_len T.b_len (ja_cons (je_var 1) (ja_nil))) (ja_nil)))))) (jb_nil)
theorem sc__law_page : FnScope N__law_page ["_law_pot_here", "_law_rows", "_law_places"] (defScope s__law_page) := ⟨rfl, rfl, rfl, by decide +kernel, rfl, by decide +kernel, by decide +kernel⟩
include T in
theorem g__law_page : FnG P w K mg base CX0 3 f__law_page fd__law_page ["_law_pot_here", "_law_rows", "_law_places"] (spM K 3 F__law_page) :=
  have nd : N__law_page.Nodup := sc__law_page.nd
  jf T.d__law_page.fn sc__law_page (by decide) fun cdv A outer s H E gd hr =>
    jb_cons (js_unp (je_tup (ja_cons (je_add (je_int) (je_callF (g__law_take T) gd (hr.mono (by decide)) T.d__law_take.mgf T.d__law_take.fn.kp T.d__law_take.b (ja_cons (je_var 0) (ja_cons (je_var 2) (ja_nil))))) (ja_cons (je_callF (g__law_of T) gd (hr.mono (by decide)) T.d__law_of.mgf T.d__law_of.fn.kp T.d__law_of.b (ja_cons (je_var 0) (ja_cons (je_lst (ja_cons (je_str) (ja_cons (je_str) (ja_cons (je_str) (ja_cons (je_str) (ja_cons (je_str) (ja_nil))))))) (ja_nil)))) (ja_nil)))) (jg_tup rfl (jgs_cons (jg_name 3 nd) (jgs_cons (jg_name 4 nd) (jgs_nil))))) (jb_cons (js_ret (je_totuple T.b_tuple (ja_cons (je_tell (jx_lc rfl nd (ji_rng1 T.b_range (ja_cons (je_add (je_int) (je_callF (g__law_take T) gd (hr.mono (by decide)) T.d__law_take.mgf T.d__law_take.fn.kp T.d__law_take.b (ja_cons (je_var 0) (ja_cons (je_var 1) (ja_nil))))) (ja_nil))) (own := [("_law_line", 5)]) (blkOk_by (by kernel_rfl)) (fun _ _ _ _ _ => jg_name 5 nd) (fun _ _ _ _ _ => jts_nil) (fun _ _ _ _ _ => je_join (je_str) (je_tell (jx_lc rfl nd (ji_rng1 T.b_range (ja_cons (je_var 3) (ja_nil))) (own := [("_law_at", 6)]) (blkOk_by (by kernel_rfl)) (fun _ _ _ _ _ => jg_name 6 nd) (fun _ _ _ _ _ => jts_nil) (fun _ _ _ _ _ => je_callF (g__law_of T) gd (hr.mono (by decide)) T.d__law_of.mgf T.d__law_of.fn.kp T.d__law_of.b (ja_cons (je_var 0) (ja_cons (je_var 4) (ja_nil))))))))) (ja_nil)))) (jb_nil))
theorem sc__law_numbers : FnScope N__law_numbers ["_law_sheet"] (defScope s__law_numbers) := ⟨rfl, rfl, rfl, by decide +kernel, rfl, by decide +kernel, by decide +kernel⟩
include T in
theorem g__law_numbers : FnG P w K mg base CX0 1 f__law_numbers fd__law_numbers ["_law_sheet"] (spM K 1 F__law_numbers) :=
  have nd : N__law_numbers.Nodup := sc__law_numbers.nd
  jf T.d__law_numbers.fn sc__law_numbers (by decide) fun cdv A outer s H E gd hr =>
    jb_cons (js_par2 rfl nd (jxs_cons (jx_lst (ja_nil)) (jxs_cons (jx_je (je_neg (je_int))) (jxs_nil)))) (jb_cons (js_for rfl (ji_any (je_var 0)) (jg_name 3 nd) (jb_cons (js_par2 rfl nd (jxs_cons (jx_lst (ja_nil)) (jxs_cons (jx_je (je_str)) (jxs_nil)))) (jb_cons (js_for rfl (ji_any (je_var 3)) (jg_name 6 nd) (jb_cons (js_set 2 nd (je_add (je_var 2) (je_toint T.b_int (ja_cons (je_and (je_ne hr (je_var 6) (je_str)) (je_one (je_eq hr (je_var 5) (je_str)))) (ja_nil))))) (jb_cons (js_app 4 (je_if (jt_ne hr (je_var 6) (je_str)) (je_var 2) (je_non))) (jb_cons (js_set 5 nd (je_var 6)) (jb_nil))))) (jb_frz 4 (jb_cons (js_app 1 (je_var 4)) (jb_nil)))))) (jb_cons (js_ret (je_var 1)) (jb_nil)))
theorem sc_is_row : FnScope N_is_row ["value"] (defScope s_is_row) := ⟨rfl, rfl, rfl, by decide +kernel, rfl, by decide +kernel, by decide +kernel⟩
include T in
theorem g_is_row : FnG P w K mg base CX0 1 f_is_row fd_is_row ["value"] (spM K 1 F_is_row) :=
  have nd : N_is_row.Nodup := sc_is_row.nd
  jf T.d_is_row.fn sc_is_row (by decide) fun cdv A outer s H E gd hr =>
    jb_cons (js_ret (je_and (je_isi "str" T.b_isinstance T.b_str (by decide +kernel) (je_var 0)) (je_and (je_ne hr (je_var 0) (je_str)) (je_one (je_all rfl T.b_all (ja_cons (je_tell (jx_lc rfl nd (ji_any (je_var 0)) (own := [("sign", 1)]) (blkOk_by (by kernel_rfl)) (fun _ _ _ _ _ => jg_name 1 nd) (fun _ _ _ _ _ => jts_nil) (fun _ _ _ _ _ => je_or (je_eq hr (je_var 1) (je_gstr T.c_BLANK)) (je_one (je_inA (je_var 1) (je_gstr T.c_LETTERS)))))) (ja_nil))))))) (jb_nil)
theorem sc_is_page : FnScope N_is_page ["value"] (defScope s_is_page) := ⟨rfl, rfl, rfl, by decide +kernel, rfl, by decide +kernel, by decide +kernel⟩
include T in
theorem g_is_page : FnG P w K mg base CX0 2 f_is_page fd_is_page ["value"] (spM K 1 F_is_page) :=
  have nd : N_is_page.Nodup := sc_is_page.nd
  jf T.d_is_page.fn sc_is_page (by decide) fun cdv A outer s H E gd hr =>
    jb_cons (js_if (JW.jt (jw_or (jt_not (jt_val (je_isi "tuple" T.b_isinstance T.b_tuple (by decide +kernel) (je_var 0)))) (jw_or (jt_eq hr (je_var 0) (je_tup (ja_nil))) (jw_or1 (jt_not (jt_val (je_all rfl T.b_all (ja_cons (je_tell (jx_lc rfl nd (ji_any (je_var 0)) (own := [("row", 1)]) (blkOk_by (by kernel_rfl)) (fun _ _ _ _ _ => jg_name 1 nd) (fun _ _ _ _ _ => jts_nil) (fun _ _ _ _ _ => je_callF (g_is_row T) gd (hr.mono (by decide)) T.d_is_row.mgf T.d_is_row.fn.kp T.d_is_row.b (ja_cons (je_var 1) (ja_nil))))) (ja_nil))))))))) (jb_cons (js_ret (je_bl)) (jb_nil)) (jb_nil)) (jb_cons (js_ret (je_all rfl T.b_all (ja_cons (je_tell (jx_lc rfl nd (ji_any (je_var 0)) (own := [("row", 1)]) (blkOk_by (by kernel_rfl)) (fun _ _ _ _ _ => jg_name 1 nd) (fun _ _ _ _ _ => jts_nil) (fun _ _ _ _ _ => je_eq hr (je_len T.b_len (ja_cons (je_var 1) (ja_nil))) (je_len T.b_len (ja_cons (je_ix (je_var 0) (je_int)) (ja_nil)))))) (ja_nil)))) (jb_nil))
theorem sc_check_page : FnScope N_check_page ["value"] (defScope s_check_page) := ⟨rfl, rfl, rfl, by decide +kernel, rfl, by decide +kernel, by decide +kernel⟩
include T in
theorem g_check_page : FnG P w K mg base (L2.CX P w) 3 f_check_page fd_check_page ["value"] (spX K 1 F_check_page) :=
  have nd : N_check_page.Nodup := sc_check_page.nd
  jfX T.d_check_page.fn sc_check_page (by decide) fun cdv A outer s H E gd hr =>
    jb_cons (js_if (jt_not (jt_val (je_callF (g_is_page T) gd (hr.mono (by decide)) T.d_is_page.mgf T.d_is_page.fn.kp T.d_is_page.b (ja_cons (je_var 0) (ja_nil))))) (jb_cons (js_raise (takes_of rfl rfl rfl rfl) T.x_BadPage T.b_super hr rfl (je_var 0)) (jb_nil)) (jb_nil)) (jb_nil)
theorem sc_row_words : FnScope N_row_words ["text"] (defScope s_row_words) := ⟨rfl, rfl, rfl, by decide +kernel, rfl, by decide +kernel, by decide +kernel⟩
include T in
theorem g_row_words : FnG P w K mg base CX0 1 f_row_words fd_row_words ["text"] (spM K 1 F_row_words) :=
  have nd : N_row_words.Nodup := sc_row_words.nd
  jf T.d_row_words.fn sc_row_words (by decide) fun cdv A outer s H E gd hr =>
    jb_cons (js_par2 rfl nd (jxs_cons (jx_lst (ja_nil)) (jxs_cons (jx_je (je_int)) (jxs_nil)))) (jb_cons (js_for rfl (ji_any (je_split (je_var 0) (je_gstr T.c_BLANK))) (jg_name 3 nd) (jb_cons (js_if (jt_ne hr (je_var 3) (je_str)) (jb_cons (js_app 1 (je_tup (ja_cons (je_var 3) (ja_cons (je_var 2) (ja_nil))))) (jb_nil)) (jb_nil)) (jb_cons (js_iadd 2 nd (je_add (je_len T.b_len (ja_cons (je_var 3) (ja_nil))) (je_int))) (jb_nil)))) (jb_cons (js_ret (je_var 1)) (jb_nil)))
theorem sc_words_of_page : FnScope N_words_of_page ["page"] (defScope s_words_of_page) := ⟨rfl, rfl, rfl, by decide +kernel, rfl, by decide +kernel, by decide +kernel⟩
include T in
theorem g_words_of_page : FnG P w K mg base CX0 2 f_words_of_page fd_words_of_page ["page"] (spM K 1 F_words_of_page) :=
  have nd : N_words_of_page.Nodup := sc_words_of_page.nd
  jf T.d_words_of_page.fn sc_words_of_page (by decide) fun cdv A outer s H E gd hr =>
    jb_cons (js_ret (je_tell (jx_lc2 [3, 4] rfl nd (ji_enumA T.b_enumerate (ja_cons (je_var 0) (ja_nil))) (own := [("row", 1), ("text", 2), ("word", 3), ("place", 4)]) (blkOk_by (by kernel_rfl)) (fun _ _ _ _ _ => jg_tup rfl (jgs_cons (jg_name 1 nd) (jgs_cons (jg_name 2 nd) (jgs_nil)))) (fun _ _ _ _ _ => jts_nil) (fun _ _ _ _ _ => ji_any (je_callF (g_row_words T) gd (hr.mono (by decide)) T.d_row_words.mgf T.d_row_words.fn.kp T.d_row_words.b (ja_cons (je_var 2) (ja_nil)))) (fun _ _ _ _ _ => jg_tup rfl (jgs_cons (jg_name 3 nd) (jgs_cons (jg_name 4 nd) (jgs_nil)))) (fun _ _ _ _ _ => jts_nil) (fun _ _ _ _ _ => je_tup (ja_cons (je_var 3) (ja_cons (je_var 1) (ja_cons (je_var 4) (ja_nil)))))))) (jb_nil)
theorem sc_is_integer : FnScope N_is_integer ["value"] (defScope s_is_integer) := ⟨rfl, rfl, rfl, by decide +kernel, rfl, by decide +kernel, by decide +kernel⟩
include T in
theorem g_is_integer : FnG P w K mg base CX0 1 f_is_integer fd_is_integer ["value"] (spM K 1 F_is_integer) :=
  have nd : N_is_integer.Nodup := sc_is_integer.nd
  jf T.d_is_integer.fn sc_is_integer (by decide) fun cdv A outer s H E gd hr =>
    jb_cons (js_ret (je_and (je_isi "int" T.b_isinstance T.b_int (by decide +kernel) (je_var 0)) (je_one (je_not (je_isi "bool" T.b_isinstance T.b_bool (by decide +kernel) (je_var 0)))))) (jb_nil)
theorem sc_is_below : FnScope N_is_below ["value", "end"] (defScope s_is_below) := ⟨rfl, rfl, rfl, by decide +kernel, rfl, by decide +kernel, by decide +kernel⟩
include T in
theorem g_is_below : FnG P w K mg base CX0 2 f_is_below fd_is_below ["value", "end"] (spM K 2 F_is_below) :=
  have nd : N_is_below.Nodup := sc_is_below.nd
  jf T.d_is_below.fn sc_is_below (by decide) fun cdv A outer s H E gd hr =>
    jb_cons (js_ret (je_and (je_callF (g_is_integer T) gd (hr.mono (by decide)) T.d_is_integer.mgf T.d_is_integer.fn.kp T.d_is_integer.b (ja_cons (je_var 0) (ja_nil))) (je_one (je_chain op_leA ops_le op_ltA ops_lt (je_int) (je_var 0) (je_var 1))))) (jb_nil)
theorem sc_word_at : FnScope N_word_at ["page", "row", "place"] (defScope s_word_at) := ⟨rfl, rfl, rfl, by decide +kernel, rfl, by decide +kernel, by decide +kernel⟩
include T in
theorem g_word_at : FnG P w K mg base (L2.CX P w) 4 f_word_at fd_word_at ["page", "row", "place"] (spX K 3 F_word_at) :=
  have nd : N_word_at.Nodup := sc_word_at.nd
  jfX T.d_word_at.fn sc_word_at (by decide) fun cdv A outer s H E gd hr =>
    jb_cons (js_exprX (jo_callX (takes_of rfl rfl rfl rfl) (g_check_page T) gd (hr.mono (by decide)) T.d_check_page.mgf T.d_check_page.fn.kp T.d_check_page.b (ja_cons (je_var 0) (ja_nil)))) (jb_cons (js_if (JW.jt (jw_or (jt_not (jt_val (je_callF (g_is_below T) gd (hr.mono (by decide)) T.d_is_below.mgf T.d_is_below.fn.kp T.d_is_below.b (ja_cons (je_var 1) (ja_cons (je_len T.b_len (ja_cons (je_var 0) (ja_nil))) (ja_nil)))))) (jw_or1 (jt_not (jt_val (je_callF (g_is_below T) gd (hr.mono (by decide)) T.d_is_below.mgf T.d_is_below.fn.kp T.d_is_below.b (ja_cons (je_var 2) (ja_cons (je_len T.b_len (ja_cons (je_ix (je_var 0) (je_int)) (ja_nil))) (ja_nil))))))))) (jb_cons (js_raise2 (takes_of rfl rfl rfl rfl) T.x_BadPlace T.b_super hr rfl (je_var 1) (je_var 2)) (jb_nil)) (jb_nil)) (jb_cons (js_for rfl (ji_enumA T.b_enumerate (ja_cons (je_callF (g_words_of_page T) gd (hr.mono (by decide)) T.d_words_of_page.mgf T.d_words_of_page.fn.kp T.d_words_of_page.b (ja_cons (je_var 0) (ja_nil))) (ja_nil))) (jg_tup rfl (jgs_cons (jg_name 3 nd) (jgs_cons (jg_tup rfl (jgs_cons (jg_name 4 nd) (jgs_cons (jg_name 5 nd) (jgs_cons (jg_name 6 nd) (jgs_nil))))) (jgs_nil)))) (jb_cons (js_if (JW.jt (jw_and (jt_eq hr (je_var 5) (je_var 1)) (jw_and1 (jt_chain op_leA ops_le op_ltA ops_lt (je_var 6) (je_var 2) (je_add (je_var 6) (je_len T.b_len (ja_cons (je_var 4) (ja_nil)))))))) (jb_cons (js_ret (je_var 3)) (jb_nil)) (jb_nil)) (jb_nil)) (hp := passes_of rfl)) (jb_cons (js_ret (je_non)) (jb_nil))))
theorem sc__law_is_within : FnScope N__law_is_within ["_law_value", "_law_end"] (defScope s__law_is_within) := ⟨rfl, rfl, rfl, by decide +kernel, rfl, by decide +kernel, by decide +kernel⟩
include T in
theorem g__law_is_within : FnG P w K mg base CX0 1 f__law_is_within fd__law_is_within ["_law_value", "_law_end"] (spM K 2 F__law_is_within) :=
  have nd : N__law_is_within.Nodup := sc__law_is_within.nd
  jf T.d__law_is_within.fn sc__law_is_within (by decide) fun cdv A outer s H E gd hr =>
    jb_cons (js_ret (je_and (je_isi "int" T.b_isinstance T.b_int (by decide +kernel) (je_var 0)) (je_and (je_not (je_isi "bool" T.b_isinstance T.b_bool (by decide +kernel) (je_var 0))) (je_one (je_chain op_leA ops_le op_ltA ops_lt (je_int) (je_var 0) (je_var 1)))))) (jb_nil)
theorem sc__law_odd : FnScope N__law_odd ["_law_pot_here"] (defScope s__law_odd) := ⟨rfl, rfl, rfl, by decide +kernel, rfl, by decide +kernel, by decide +kernel⟩
include T in
theorem g__law_odd : FnG P w K mg base CX0 3 f__law_odd fd__law_odd ["_law_pot_here"] (spM K 1 F__law_odd) :=
  have nd : N__law_odd.Nodup := sc__law_odd.nd
  jf T.d__law_odd.fn sc__law_odd (by decide) fun cdv A outer s H E gd hr =>
    jb_cons (js_set 1 nd (je_lst (ja_cons (je_non) (ja_cons (je_bl) (ja_cons (je_bl) (ja_cons (je_int) (ja_cons (je_int) (ja_cons (je_neg (je_int)) (ja_cons (je_pow (je_int) (je_int)) (ja_cons (je_str) (ja_cons (je_str) (ja_cons (je_str) (ja_cons (je_str) (ja_cons (je_tup (ja_nil)) (ja_cons (je_tup (ja_cons (je_str) (ja_nil))) (ja_cons (je_tup (ja_cons (je_str) (ja_nil))) (ja_cons (je_lst (ja_nil)) (ja_cons (je_lst (ja_cons (je_str) (ja_nil))) (ja_cons (je_dict0) (ja_cons (je_dict1 (je_str)) (ja_nil))))))))))))))))))))) (jb_cons (js_set 2 nd (je_callF (g__law_of T) gd (hr.mono (by decide)) T.d__law_of.mgf T.d__law_of.fn.kp T.d__law_of.b (ja_cons (je_var 0) (ja_cons (je_add (je_var 1) (je_lst (ja_cons (je_tup (ja_cons (je_str) (ja_cons (je_str) (ja_nil)))) (ja_cons (je_tup (ja_cons (je_tup (ja_cons (je_str) (ja_nil))) (ja_nil))) (ja_cons (je_tup (ja_cons (je_str) (ja_cons (je_non) (ja_nil)))) (ja_cons (je_tup (ja_cons (je_str) (ja_cons (je_int) (ja_nil)))) (ja_cons (je_tup (ja_cons (je_str) (ja_cons (je_lst (ja_cons (je_str) (ja_nil))) (ja_nil)))) (ja_cons (je_str) (ja_nil))))))))) (ja_nil))))) (jb_cons (js_for rfl (ji_rng1 T.b_range (ja_cons (je_callF (g__law_of T) gd (hr.mono (by decide)) T.d__law_of.mgf T.d__law_of.fn.kp T.d__law_of.b (ja_cons (je_var 0) (ja_cons (je_lst (ja_cons (je_int) (ja_cons (je_int) (ja_cons (je_int) (ja_cons (je_int) (ja_cons (je_int) (ja_cons (je_int) (ja_nil)))))))) (ja_nil)))) (ja_nil))) (jg_name 3 nd) (jb_cons (js_set 2 nd (je_callF (g__law_of T) gd (hr.mono (by decide)) T.d__law_of.mgf T.d__law_of.fn.kp T.d__law_of.b (ja_cons (je_var 0) (ja_cons (je_lst (ja_cons (je_tup (ja_cons (je_var 2) (ja_nil))) (ja_cons (je_lst (ja_cons (je_var 2) (ja_nil))) (ja_cons (je_dict1 (je_var 2)) (ja_cons (je_tup (ja_cons (je_var 2) (ja_cons (je_str) (ja_nil)))) (ja_nil)))))) (ja_nil))))) (jb_nil))) (jb_cons (js_ret (je_var 2)) (jb_nil))))
theorem sc__law_heard : FnScope N__law_heard ["_law_call"] (defScope s__law_heard) := ⟨rfl, rfl, rfl, by decide +kernel, rfl, by decide +kernel, by decide +kernel⟩
theorem gv__law_heard {X : Cx} (T : AllD X.prog X.K X.mg f__law_pot f__law_take f__law_of f__law_page f__law_numbers f_is_row f_is_page f_check_page f_row_words f_words_of_page f_is_integer f_is_below f_word_at f__law_is_within f__law_odd f__law_heard f__law_right f_law fd__law_pot fd__law_take fd__law_of fd__law_page fd__law_numbers fd_is_row fd_is_page fd_check_page fd_row_words fd_words_of_page fd_is_integer fd_is_below fd_word_at fd__law_is_within fd__law_odd fd__law_heard fd__law_right fd_law C_BadPage C_BadPlace C_SetbackError I_BadPage I_BadPlace c_tab P_tab t_BLANK t_LETTERS) (gd : X.A.guards = some []) (cdv : Value) (q : Str) : GivesS X N__law_heard "_law_heard" (defScope s__law_heard) f__law_heard cdv (defBody s__law_heard) "_law_call" q (TLam X.K (givesO 4 m__law_heard)) :=
  have nd : N__law_heard.Nodup := sc__law_heard.nd
  gives_by (by decide) fun o f F1 s H hr act => jb_cons (js_unp (je_tup (ja_cons (je_non) (ja_cons (je_non) (ja_nil)))) (jg_tup rfl (jgs_cons (jg_name 1 nd) (jgs_cons (jg_name 2 nd) (jgs_nil))))) (jb_cons (js_try_keep 1 3 (sub := kx [("BadPage", true), ("BadPlace", true)]) nd (by decide) (takes0) rfl rfl rfl ⟨rfl, by decide, Or.inl T.h_SetbackError⟩ (fun c C b h1 h2 => T.hs_SetbackError.hx c C b h1 h2) (fun W1 pn xe tk1 po1 => jb_cons (js_setX2 2 nd (act W1 pn xe _ _ tk1)) (jb_nil))) (jb_cons (js_if (JW.jt (jw_and (jt_val (je_isX [("BadPage", true), ("BadPlace", false)] T.b_isinstance T.h_BadPage (je_var 1) T.kit_BadPage T.kn_BadPage)) (jw_and1 (jt_not (jt_val (je_isX [("BadPage", false), ("BadPlace", true)] T.b_isinstance T.h_BadPlace (je_var 1) T.kit_BadPlace T.kn_BadPlace)))))) (jb_cons (js_ret (je_tup (ja_cons (je_str) (ja_cons (je_fldX [("BadPage", true), ("BadPlace", false)] (je_var 1) T.fld_value) (ja_nil))))) (jb_nil)) (jb_nil)) (jb_cons (js_if (JW.jt (jw_and (jt_val (je_isX [("BadPage", false), ("BadPlace", true)] T.b_isinstance T.h_BadPlace (je_var 1) T.kit_BadPlace T.kn_BadPlace)) (jw_and (jt_val (je_isXB "ValueError" [("BadPage", true), ("BadPlace", true)] T.b_isinstance T.b_ValueError (by decide +kernel) (je_var 1) T.kit_ValueError T.kn_ValueError)) (jw_and1 (jt_not (jt_val (je_isX [("BadPage", true), ("BadPlace", false)] T.b_isinstance T.h_BadPage (je_var 1) T.kit_BadPage T.kn_BadPage))))))) (jb_cons (js_ret (je_tup (ja_cons (je_str) (ja_cons (je_fldX [("BadPage", false), ("BadPlace", true)] (je_var 1) T.fld_row) (ja_cons (je_fldX [("BadPage", false), ("BadPlace", true)] (je_var 1) T.fld_place) (ja_nil)))))) (jb_nil)) (jb_nil)) (jb_cons (js_ret (je_if (jt_isNO (je_var 1)) (je_tup (ja_cons (je_str) (ja_cons (je_var 2) (ja_nil)))) (je_tup (ja_cons (je_str) (ja_cons (je_non) (ja_nil)))))) (jb_nil)))))
theorem sc__law_right : FnScope N__law_right ["_law_pot_here"] (defScope s__law_right) := ⟨rfl, rfl, rfl, by decide +kernel, rfl, by decide +kernel, by decide +kernel⟩
include T TB in
theorem g__law_right : FnG P w K mg base CX0 7 f__law_right fd__law_right ["_law_pot_here"] (spM K 1 F__law_right) :=
  have nd : N__law_right.Nodup := sc__law_right.nd
  jfL T.d__law_right.fn sc__law_right (by decide) fun cdv A outer s H E hc gd hr =>
    jb_cons (js_set 1 nd (je_callF (g__law_page T) gd (hr.mono (by decide)) T.d__law_page.mgf T.d__law_page.fn.kp T.d__law_page.b (ja_cons (je_var 0) (ja_cons (je_int) (ja_cons (je_int) (ja_nil)))))) (jb_cons (js_par3 rfl nd (jxs_cons (jx_je (je_callF (g__law_numbers T) gd (hr.mono (by decide)) T.d__law_numbers.mgf T.d__law_numbers.fn.kp T.d__law_numbers.b (ja_cons (je_var 1) (ja_nil)))) (jxs_cons (jx_je (je_len T.b_len (ja_cons (je_var 1) (ja_nil)))) (jxs_cons (jx_je (je_len T.b_len (ja_cons (je_ix (je_var 1) (je_int)) (ja_nil)))) (jxs_nil))))) (jb_cons (js_for rfl (ji_rng1 T.b_range (ja_cons (je_var 3) (ja_nil))) (jg_name 5 nd) (jb_cons (js_setLc 6 rfl nd (ji_rng1 T.b_range (ja_cons (je_var 4) (ja_nil))) (own := [("_law_spot", 7)]) (blkOk_by (by kernel_rfl)) (fun _ _ _ _ _ => jg_name 7 nd) (fun _ _ _ _ _ => jts_nil) (fun _ _ _ _ _ => je_callFX (g_word_at T) gd (hr.mono (by decide)) T.d_word_at.mgf T.d_word_at.fn.kp T.d_word_at.b (ja_cons (je_var 1) (ja_cons (je_var 5) (ja_cons (je_var 7) (ja_nil)))))) (jb_frz 6 (jb_cons (js_if (JW.jt (jw_or (jt_ne hr (je_repr gd hr T.b_repr (ja_cons (je_var 6) (ja_nil))) (je_repr gd hr T.b_repr (ja_cons (je_ix (je_var 2) (je_var 5)) (ja_nil)))) (jw_or1 (jt_ne hr (je_callFKPX (g_word_at T) gd (hr.mono (by decide)) T.d_word_at.mgf T.d_word_at.fn.kp (KP.of (ks := ["place", "row", "page"]) (π := [2, 1, 0]) T.d_word_at.fn fun _ _ _ _ _ _ ws hl => (match ws, hl with | [_, _, _], _ => rfl)) (jk_cons (je_int) (jk_cons (je_var 5) (jk_cons (je_var 1) (jk_nil))))) (je_ix (je_ix (je_var 2) (je_var 5)) (je_int)))))) (jb_cons (js_ret (je_bl)) (jb_nil)) (jb_nil)) (jb_nil))))) (jb_cons (js_for rfl (ji_rng1 T.b_range (ja_cons (je_int) (ja_nil))) (jg_name 8 nd) (jb_cons (js_set 5 nd (je_callF (g__law_of T) gd (hr.mono (by decide)) T.d__law_of.mgf T.d__law_of.fn.kp T.d__law_of.b (ja_cons (je_var 0) (ja_cons (je_lst (ja_cons (je_callF (g__law_take T) gd (hr.mono (by decide)) T.d__law_take.mgf T.d__law_take.fn.kp T.d__law_take.b (ja_cons (je_var 0) (ja_cons (je_var 3) (ja_nil)))) (ja_cons (je_var 3) (ja_cons (je_neg (je_int)) (ja_cons (je_sub (je_var 3) (je_int)) (ja_cons (je_bl) (ja_cons (je_callF (g__law_odd T) gd (hr.mono (by decide)) T.d__law_odd.mgf T.d__law_odd.fn.kp T.d__law_odd.b (ja_cons (je_var 0) (ja_nil))) (ja_nil)))))))) (ja_nil))))) (jb_cons (js_set 7 nd (je_callF (g__law_of T) gd (hr.mono (by decide)) T.d__law_of.mgf T.d__law_of.fn.kp T.d__law_of.b (ja_cons (je_var 0) (ja_cons (je_lst (ja_cons (je_callF (g__law_take T) gd (hr.mono (by decide)) T.d__law_take.mgf T.d__law_take.fn.kp T.d__law_take.b (ja_cons (je_var 0) (ja_cons (je_var 4) (ja_nil)))) (ja_cons (je_var 4) (ja_cons (je_neg (je_int)) (ja_cons (je_sub (je_var 4) (je_int)) (ja_cons (je_bl) (ja_cons (je_callF (g__law_odd T) gd (hr.mono (by decide)) T.d__law_odd.mgf T.d__law_odd.fn.kp T.d__law_odd.b (ja_cons (je_var 0) (ja_nil))) (ja_nil)))))))) (ja_nil))))) (jb_cons (js_set 9 nd (je_tup (ja_cons (je_str) (ja_cons (je_var 5) (ja_cons (je_var 7) (ja_nil)))))) (jb_cons (js_if (JW.jt (jw_and (jt_val (je_callF (g__law_is_within T) gd (hr.mono (by decide)) T.d__law_is_within.mgf T.d__law_is_within.fn.kp T.d__law_is_within.b (ja_cons (je_var 5) (ja_cons (je_var 3) (ja_nil))))) (jw_and1 (jt_val (je_callF (g__law_is_within T) gd (hr.mono (by decide)) T.d__law_is_within.mgf T.d__law_is_within.fn.kp T.d__law_is_within.b (ja_cons (je_var 7) (ja_cons (je_var 4) (ja_nil)))))))) (jb_cons (js_set 9 nd (je_tup (ja_cons (je_str) (ja_cons (je_ix (je_ix (je_var 2) (je_var 5)) (je_var 7)) (ja_nil))))) (jb_nil)) (jb_nil)) (jb_cons (js_if (jt_ne hr (je_repr gd hr T.b_repr (ja_cons (je_lam (k := 4) gd T.d__law_heard.mgf T.d__law_heard.fn T.d__law_heard.b sc__law_heard (fun cdv => gv__law_heard T gd cdv _) TB (hc.symm.trans T.lc) T.lt_mem T.lt_u (hr.mono (by decide)) (LamX.lamS_by (by kernel_rfl)) (fun A outer s H E f c1 gd hr => jo_callX (takes_of rfl rfl rfl rfl) (g_word_at T) gd (hr.mono (by decide)) T.d_word_at.mgf T.d_word_at.fn.kp T.d_word_at.b (ja_cons (je_var 1) (ja_cons (je_var 5) (ja_cons (je_var 7) (ja_nil)))))) (ja_nil))) (je_repr gd hr T.b_repr (ja_cons (je_var 9) (ja_nil)))) (jb_cons (js_ret (je_bl)) (jb_nil)) (jb_nil)) (jb_cons (js_set 10 nd (je_callF (g__law_of T) gd (hr.mono (by decide)) T.d__law_of.mgf T.d__law_of.fn.kp T.d__law_of.b (ja_cons (je_var 0) (ja_cons (je_lst (ja_cons (je_tolist T.b_list (ja_cons (je_var 1) (ja_nil))) (ja_cons (je_tup (ja_nil)) (ja_cons (je_non) (ja_cons (je_add (je_var 1) (je_tup (ja_cons (je_str) (ja_nil)))) (ja_cons (je_str) (ja_cons (je_tup (ja_cons (je_var 1) (ja_nil))) (ja_cons (je_dict1 (je_var 1)) (ja_nil))))))))) (ja_nil))))) (jb_cons (js_if (jt_ne hr (je_repr gd hr T.b_repr (ja_cons (je_lam (k := 4) gd T.d__law_heard.mgf T.d__law_heard.fn T.d__law_heard.b sc__law_heard (fun cdv => gv__law_heard T gd cdv _) TB (hc.symm.trans T.lc) T.lt_mem T.lt_u (hr.mono (by decide)) (LamX.lamS_by (by kernel_rfl)) (fun A outer s H E f c1 gd hr => jo_callX (takes_of rfl rfl rfl rfl) (g_word_at T) gd (hr.mono (by decide)) T.d_word_at.mgf T.d_word_at.fn.kp T.d_word_at.b (ja_cons (je_var 10) (ja_cons (je_var 5) (ja_cons (je_var 7) (ja_nil)))))) (ja_nil))) (je_repr gd hr T.b_repr (ja_cons (je_tup (ja_cons (je_str) (ja_cons (je_var 10) (ja_nil)))) (ja_nil)))) (jb_cons (js_ret (je_bl)) (jb_nil)) (jb_nil)) (jb_nil))))))))) (jb_cons (js_ret (je_bl)) (jb_nil)))))
theorem sc_law : FnScope N_law ["_law_script"] (defScope s_law) := ⟨rfl, rfl, rfl, by decide +kernel, rfl, by decide +kernel, by decide +kernel⟩
include T TB in
theorem g_law : FnG P w K mg base CX0 8 f_law fd_law ["_law_script"] (spM K 1 F_law) :=
  have nd : N_law.Nodup := sc_law.nd
  jf T.d_law.fn sc_law (by decide) fun cdv A outer s H E gd hr =>
    jb_cons (js_for rfl (ji_rng1 T.b_range (ja_cons (je_max2 rfl T.b_max (ja_cons (je_int) (ja_cons (je_min2 rfl T.b_min (ja_cons (je_int) (ja_cons (je_lenS T.b_len (je_var 0)) (ja_nil)))) (ja_nil)))) (ja_nil))) (jg_name 1 nd) (jb_cons (js_setX 2 nd (jx_callC (g__law_pot T) gd (hr.mono (by decide)) T.d__law_pot.mgf T.d__law_pot.fn.kp T.d__law_pot.b (ja_cons (je_var 0) (ja_cons (je_var 1) (ja_nil))))) (jb_cons (js_if (jt_not (jt_val (je_all rfl T.b_all (ja_cons (je_tell (jx_lc rfl nd (ji_rng1 T.b_range (ja_cons (je_int) (ja_nil))) (own := [("_law_turn", 3)]) (blkOk_by (by kernel_rfl)) (fun _ _ _ _ _ => jg_name 3 nd) (fun _ _ _ _ _ => jts_nil) (fun _ _ _ _ _ => je_callF (g__law_right T TB) gd (hr.mono (by decide)) T.d__law_right.mgf T.d__law_right.fn.kp T.d__law_right.b (ja_cons (je_var 2) (ja_nil))))) (ja_nil))))) (jb_cons (js_ret (je_bl)) (jb_nil)) (jb_nil)) (jb_nil)))) (jb_cons (js_ret (je_bl)) (jb_nil))
end
end
end VL
namespace VL
open PySem PySem.Spec PyProof.Rows L2
structure Pot where
  a : Int
  b : Int
  c : Int
def potD (p : Pot) : List PyData := [.int p.a, .int p.b, .int p.c]
def Bud (n : Nat) (p : Pot) : Prop := 0 ≤ p.c ∧ p.c + n ≤ 1099511627776
theorem Bud.le {m n : Nat} {p : Pot} (h : Bud n p) (hm : m ≤ n) : Bud m p := ⟨h.1, by have := h.2; omega⟩
theorem ix30 : ixN 3 0 = some 0 := rfl
theorem ix31 : ixN 3 1 = some 1 := rfl
theorem ix32 : ixN 3 2 = some 2 := rfl
theorem take_ok {p : Pot} {many : Int} {n : Nat} (h : Bud (n + 1) p) (hm : 0 < many) (hs : many < 1073741824) :
    ∃ r p', F__law_take [.q (.l (potD p)), .v (.int many)] = some (.int r, [.q (.l (potD p')), .v (.int many)]) ∧ 0 ≤ r ∧ r < many ∧ Bud n p' := by
  by_cases h0 : 0 < p.a
  · refine ⟨p.a % many, ⟨p.a / many, p.b, p.c⟩, ?_, Int.emod_nonneg _ (by omega), Int.emod_lt_of_pos _ hm, h.1, by have := h.2; show _ + _ ≤ (1099511627776 : Int); simp only at this ⊢; omega⟩
    simp only [putM,mRaise2,defM,defMc,defMX,mExprX,mSetX2,mCallX,mValX,mRaise,mTryK,mIsE,mFld,mIsN,mEnumA,mNil,mSeq,mSeqC,mRetC,mIfS,mRet,mSet,mSetX,mPut,mApp,mFrz,mAug,mPar,setAll,mUnp,gSet,gTupM,gsCons,gsNil,tVal,tAndM,tOrM,tNotM,tYesM,mBin,mUn,mAnd,mOr,mNot,mIf,mChain,mVar,mC,mCall,mCallF,mCallC,argsOf,argOf,ptrs,putBack,aNil,aCons,mTup,mLst,mV,mTell,xLst,xsNil,xsCons,mLenS,mIxS,mDict1,oNone,oSome,mFor,mIt,mRng1,xLc,ownOk,wp,unwp,startS,ixD,atI,addD_int,addD_str,addD_list,addD_tuple,subD,mulD_l,mulD_r,fdivD_pos,modD_pos,ltD_int,leD_int,gtD_int,geD_int,eqD_int,neD_int,eqD_tupE,eqD_strs,neD_strs,isND,isNotND,intF,absF,lenF,joinF,negD,List.map,List.length_cons,List.length_nil,List.cons_append,List.nil_append,List.append_nil,List.replicate,List.getElem?_cons_zero,List.getElem?_cons_succ,List.set_cons_zero,List.set_cons_succ,putAt,SL.put,stables,derefs,stable,deref,heldAt,SL.held,CT.data,CT.app,Int.reduceLT,Int.reduceLE,Int.reduceNeg,Nat.reduceAdd,Nat.reduceLeDiff,and_self,true_and,and_true,ite_true,if_true,List.nodup_cons,List.nodup_nil,List.not_mem_nil,not_false_eq_true,Nat.succ_ne_zero,eq_self,Option.bind_some,Option.bind,Option.map,id,asOut,F__law_take,m__law_take,potD,ix30,decide_eq_true h0,hm,hs]
  · have c1 : -18446744073709551616 < p.c + 1 := by have := h.1; omega
    have c2 : p.c + 1 < 18446744073709551616 := by have := h.2; omega
    obtain ⟨m1, e1⟩ : ∃ m : Int, m = ((p.b + 65537 * (p.c + 1) * (p.c + 1) + 47) * 48271) % 2305843009213693921 := ⟨_, rfl⟩
    have m10 : -18446744073709551616 < m1 := e1 ▸ Int.lt_of_lt_of_le (by decide) (Int.emod_nonneg _ (by decide))
    have m11 : m1 < 18446744073709551616 := e1 ▸ Int.lt_trans (Int.emod_lt_of_pos _ (by decide)) (by decide)
    obtain ⟨m2, e2⟩ : ∃ m : Int, m = (m1 * (m1 % 1000003 + 99991 * (p.c + 1))) % 2305843009213693907 := ⟨_, rfl⟩
    refine ⟨(m2 / 107 + m2 / 1000033) % many, ⟨p.a, p.b, p.c + 1⟩, ?_, Int.emod_nonneg _ (by omega), Int.emod_lt_of_pos _ hm, by have := h.1; show 0 ≤ p.c + 1; omega, by have := h.2; show _ + _ ≤ (1099511627776 : Int); simp only at this ⊢; omega⟩
    simp only [putM,mRaise2,defM,defMc,defMX,mExprX,mSetX2,mCallX,mValX,mRaise,mTryK,mIsE,mFld,mIsN,mEnumA,mNil,mSeq,mSeqC,mRetC,mIfS,mRet,mSet,mSetX,mPut,mApp,mFrz,mAug,mPar,setAll,mUnp,gSet,gTupM,gsCons,gsNil,tVal,tAndM,tOrM,tNotM,tYesM,mBin,mUn,mAnd,mOr,mNot,mIf,mChain,mVar,mC,mCall,mCallF,mCallC,argsOf,argOf,ptrs,putBack,aNil,aCons,mTup,mLst,mV,mTell,xLst,xsNil,xsCons,mLenS,mIxS,mDict1,oNone,oSome,mFor,mIt,mRng1,xLc,ownOk,wp,unwp,startS,ixD,atI,addD_int,addD_str,addD_list,addD_tuple,subD,mulD_l,mulD_r,fdivD_pos,modD_pos,ltD_int,leD_int,gtD_int,geD_int,eqD_int,neD_int,eqD_tupE,eqD_strs,neD_strs,isND,isNotND,intF,absF,lenF,joinF,negD,List.map,List.length_cons,List.length_nil,List.cons_append,List.nil_append,List.append_nil,List.replicate,List.getElem?_cons_zero,List.getElem?_cons_succ,List.set_cons_zero,List.set_cons_succ,putAt,SL.put,stables,derefs,stable,deref,heldAt,SL.held,CT.data,CT.app,Int.reduceLT,Int.reduceLE,Int.reduceNeg,Nat.reduceAdd,Nat.reduceLeDiff,and_self,true_and,and_true,ite_true,if_true,List.nodup_cons,List.nodup_nil,List.not_mem_nil,not_false_eq_true,Nat.succ_ne_zero,eq_self,Option.bind_some,Option.bind,Option.map,id,asOut,F__law_take,m__law_take,potD,ix30,ix31,ix32,decide_eq_false h0,hm,mulD_r c1 c2,mulD_r (i := p.b + 65537 * (p.c + 1) * (p.c + 1) + 47) (j := 48271) (by decide) (by decide),mulD_l m10 m11,← e1,← e2]
theorem of_ok {p : Pot} {ds : List PyData} {n : Nat} (h : Bud (n + 1) p) (hd : 0 < ds.length) (hl : ds.length < 1073741824) :
    ∃ d p', F__law_of [.q (.l (potD p)), .v (.list ds)] = some (d, [.q (.l (potD p')), .v (.list ds)]) ∧ d ∈ ds ∧ Bud n p' := by
  obtain ⟨r, p', e, h1, h2, h3⟩ := take_ok (many := ds.length) h (by omega) (by omega)
  have hi : r.toNat < ds.length := by omega
  refine ⟨ds[r.toNat], p', ?_, List.getElem_mem _, h3⟩
  simp only [putM,mRaise2,defM,defMc,defMX,mExprX,mSetX2,mCallX,mValX,mRaise,mTryK,mIsE,mFld,mIsN,mEnumA,mNil,mSeq,mSeqC,mRetC,mIfS,mRet,mSet,mSetX,mPut,mApp,mFrz,mAug,mPar,setAll,mUnp,gSet,gTupM,gsCons,gsNil,tVal,tAndM,tOrM,tNotM,tYesM,mBin,mUn,mAnd,mOr,mNot,mIf,mChain,mVar,mC,mCall,mCallF,mCallC,argsOf,argOf,ptrs,putBack,aNil,aCons,mTup,mLst,mV,mTell,xLst,xsNil,xsCons,mLenS,mIxS,mDict1,oNone,oSome,mFor,mIt,mRng1,xLc,ownOk,wp,unwp,startS,ixD,atI,addD_int,addD_str,addD_list,addD_tuple,subD,mulD_l,mulD_r,fdivD_pos,modD_pos,ltD_int,leD_int,gtD_int,geD_int,eqD_int,neD_int,eqD_tupE,eqD_strs,neD_strs,isND,isNotND,intF,absF,lenF,joinF,negD,List.map,List.length_cons,List.length_nil,List.cons_append,List.nil_append,List.append_nil,List.replicate,List.getElem?_cons_zero,List.getElem?_cons_succ,List.set_cons_zero,List.set_cons_succ,putAt,SL.put,stables,derefs,stable,deref,heldAt,SL.held,CT.data,CT.app,Int.reduceLT,Int.reduceLE,Int.reduceNeg,Nat.reduceAdd,Nat.reduceLeDiff,and_self,true_and,and_true,ite_true,if_true,List.nodup_cons,List.nodup_nil,List.not_mem_nil,not_false_eq_true,Nat.succ_ne_zero,eq_self,Option.bind_some,Option.bind,Option.map,id,asOut,F__law_of,m__law_of,e,ix_int h1 h2,List.getElem?_eq_getElem hi]
theorem of_text {p : Pot} {z : Str} {n : Nat} (h : Bud (n + 1) p) (hd : 0 < z.length) (hl : z.length ≤ 100000) :
    ∃ c p', F__law_of [.q (.l (potD p)), .v (.str z)] = some (.str ⟨#[c]⟩, [.q (.l (potD p')), .v (.str z)]) ∧ c ∈ z.cps.toList ∧ Bud n p' := by
  obtain ⟨r, p', e, h1, h2, h3⟩ := take_ok (many := z.length) h (by omega) (by omega)
  have hz : z.cps.toList.length = z.length := by rw [Array.length_toList]; rfl
  have hi : r.toNat < z.cps.toList.length := by omega
  refine ⟨z.cps.toList[r.toNat], p', ?_, List.getElem_mem _, h3⟩
  simp only [putM,mRaise2,defM,defMc,defMX,mExprX,mSetX2,mCallX,mValX,mRaise,mTryK,mIsE,mFld,mIsN,mEnumA,mNil,mSeq,mSeqC,mRetC,mIfS,mRet,mSet,mSetX,mPut,mApp,mFrz,mAug,mPar,setAll,mUnp,gSet,gTupM,gsCons,gsNil,tVal,tAndM,tOrM,tNotM,tYesM,mBin,mUn,mAnd,mOr,mNot,mIf,mChain,mVar,mC,mCall,mCallF,mCallC,argsOf,argOf,ptrs,putBack,aNil,aCons,mTup,mLst,mV,mTell,xLst,xsNil,xsCons,mLenS,mIxS,mDict1,oNone,oSome,mFor,mIt,mRng1,xLc,ownOk,wp,unwp,startS,ixD,atI,addD_int,addD_str,addD_list,addD_tuple,subD,mulD_l,mulD_r,fdivD_pos,modD_pos,ltD_int,leD_int,gtD_int,geD_int,eqD_int,neD_int,eqD_tupE,eqD_strs,neD_strs,isND,isNotND,intF,absF,lenF,joinF,negD,List.map,List.length_cons,List.length_nil,List.cons_append,List.nil_append,List.append_nil,List.replicate,List.getElem?_cons_zero,List.getElem?_cons_succ,List.set_cons_zero,List.set_cons_succ,putAt,SL.put,stables,derefs,stable,deref,heldAt,SL.held,CT.data,CT.app,Int.reduceLT,Int.reduceLE,Int.reduceNeg,Nat.reduceAdd,Nat.reduceLeDiff,and_self,true_and,and_true,ite_true,if_true,List.nodup_cons,List.nodup_nil,List.not_mem_nil,not_false_eq_true,Nat.succ_ne_zero,eq_self,Option.bind_some,Option.bind,Option.map,id,asOut,F__law_of,m__law_of,e,hl,hz,ix_int h1 h2,List.getElem?_eq_getElem hi]
theorem pot_ok {ns : List Int} {k : Int} (h0 : 0 ≤ k) (hk : k ≤ 100) : ∃ p, F__law_pot [.s (.ns ns), .v (.int k)] = some (potD p, [.s (.ns ns), .v (.int k)]) ∧ Bud 1000000000 p := by
  have k1 : -18446744073709551616 < k := by omega
  have k2 : k < 18446744073709551616 := by omega
  obtain ⟨B, e1, hB⟩ : ∃ B : Int, powD (.int (10 ^ 60)) (.int 5) = some (.int B) ∧ 0 < B := ⟨(10 ^ 60) ^ 5, powD_ok (by decide +kernel), by decide⟩
  obtain ⟨U, e0⟩ : ∃ U : Int, powD (.int 10) (.int 60) = some (.int U) ∧ U = 10 ^ 60 := ⟨_, powD_ok (by decide +kernel), rfl⟩
  obtain ⟨W, e2⟩ : ∃ W : Int, powD (.int 10) (.int 18) = some (.int W) := ⟨10 ^ 18, powD_ok (by decide +kernel)⟩
  obtain ⟨e0, rfl⟩ := e0
  have fin : ∀ (a b : Int), Bud 1000000000 ⟨a, b, 0⟩ := fun a b => ⟨Int.le_refl _, by show (0 : Int) + ((1000000000 : Nat) : Int) ≤ 1099511627776; omega⟩
  by_cases h : k < ns.length
  · have hk : k.toNat < ns.length := by omega
    by_cases h2 : W ≤ (if ns[k.toNat] < 0 then -ns[k.toNat] else ns[k.toNat])
    · refine ⟨⟨?a1, ?b1, 0⟩, ?g1, fin ?a1 ?b1⟩
      case g1 =>
        simp only [putM,mRaise2,defM,defMc,defMX,mExprX,mSetX2,mCallX,mValX,mRaise,mTryK,mIsE,mFld,mIsN,mEnumA,mNil,mSeq,mSeqC,mRetC,mIfS,mRet,mSet,mSetX,mPut,mApp,mFrz,mAug,mPar,setAll,mUnp,gSet,gTupM,gsCons,gsNil,tVal,tAndM,tOrM,tNotM,tYesM,mBin,mUn,mAnd,mOr,mNot,mIf,mChain,mVar,mC,mCall,mCallF,mCallC,argsOf,argOf,ptrs,putBack,aNil,aCons,mTup,mLst,mV,mTell,xLst,xsNil,xsCons,mLenS,mIxS,mDict1,oNone,oSome,mFor,mIt,mRng1,xLc,ownOk,wp,unwp,startS,ixD,atI,addD_int,addD_str,addD_list,addD_tuple,subD,mulD_l,mulD_r,fdivD_pos,modD_pos,ltD_int,leD_int,gtD_int,geD_int,eqD_int,neD_int,eqD_tupE,eqD_strs,neD_strs,isND,isNotND,intF,absF,lenF,joinF,negD,List.map,List.length_cons,List.length_nil,List.cons_append,List.nil_append,List.append_nil,List.replicate,List.getElem?_cons_zero,List.getElem?_cons_succ,List.set_cons_zero,List.set_cons_succ,putAt,SL.put,stables,derefs,stable,deref,heldAt,SL.held,CT.data,CT.app,Int.reduceLT,Int.reduceLE,Int.reduceNeg,Nat.reduceAdd,Nat.reduceLeDiff,and_self,true_and,and_true,ite_true,if_true,List.nodup_cons,List.nodup_nil,List.not_mem_nil,not_false_eq_true,Nat.succ_ne_zero,eq_self,Option.bind_some,Option.bind,Option.map,id,asOut,F__law_pot,m__law_pot,decide_eq_true h,ix_int h0 h,List.getElem?_eq_getElem hk,e0,e1,e2,hB,k1,k2,decide_eq_true h2]
        exact rfl
    · refine ⟨⟨?a2, ?b2, 0⟩, ?g2, fin ?a2 ?b2⟩
      case g2 =>
        simp only [putM,mRaise2,defM,defMc,defMX,mExprX,mSetX2,mCallX,mValX,mRaise,mTryK,mIsE,mFld,mIsN,mEnumA,mNil,mSeq,mSeqC,mRetC,mIfS,mRet,mSet,mSetX,mPut,mApp,mFrz,mAug,mPar,setAll,mUnp,gSet,gTupM,gsCons,gsNil,tVal,tAndM,tOrM,tNotM,tYesM,mBin,mUn,mAnd,mOr,mNot,mIf,mChain,mVar,mC,mCall,mCallF,mCallC,argsOf,argOf,ptrs,putBack,aNil,aCons,mTup,mLst,mV,mTell,xLst,xsNil,xsCons,mLenS,mIxS,mDict1,oNone,oSome,mFor,mIt,mRng1,xLc,ownOk,wp,unwp,startS,ixD,atI,addD_int,addD_str,addD_list,addD_tuple,subD,mulD_l,mulD_r,fdivD_pos,modD_pos,ltD_int,leD_int,gtD_int,geD_int,eqD_int,neD_int,eqD_tupE,eqD_strs,neD_strs,isND,isNotND,intF,absF,lenF,joinF,negD,List.map,List.length_cons,List.length_nil,List.cons_append,List.nil_append,List.append_nil,List.replicate,List.getElem?_cons_zero,List.getElem?_cons_succ,List.set_cons_zero,List.set_cons_succ,putAt,SL.put,stables,derefs,stable,deref,heldAt,SL.held,CT.data,CT.app,Int.reduceLT,Int.reduceLE,Int.reduceNeg,Nat.reduceAdd,Nat.reduceLeDiff,and_self,true_and,and_true,ite_true,if_true,List.nodup_cons,List.nodup_nil,List.not_mem_nil,not_false_eq_true,Nat.succ_ne_zero,eq_self,Option.bind_some,Option.bind,Option.map,id,asOut,F__law_pot,m__law_pot,decide_eq_true h,ix_int h0 h,List.getElem?_eq_getElem hk,e0,e1,e2,hB,k1,k2,decide_eq_false h2,Bool.false_eq_true,if_false]
        exact rfl
  · by_cases h2 : W ≤ (if 37 * k + 11 < 0 then -(37 * k + 11) else 37 * k + 11)
    · refine ⟨⟨?a3, ?b3, 0⟩, ?g3, fin ?a3 ?b3⟩
      case g3 =>
        simp only [putM,mRaise2,defM,defMc,defMX,mExprX,mSetX2,mCallX,mValX,mRaise,mTryK,mIsE,mFld,mIsN,mEnumA,mNil,mSeq,mSeqC,mRetC,mIfS,mRet,mSet,mSetX,mPut,mApp,mFrz,mAug,mPar,setAll,mUnp,gSet,gTupM,gsCons,gsNil,tVal,tAndM,tOrM,tNotM,tYesM,mBin,mUn,mAnd,mOr,mNot,mIf,mChain,mVar,mC,mCall,mCallF,mCallC,argsOf,argOf,ptrs,putBack,aNil,aCons,mTup,mLst,mV,mTell,xLst,xsNil,xsCons,mLenS,mIxS,mDict1,oNone,oSome,mFor,mIt,mRng1,xLc,ownOk,wp,unwp,startS,ixD,atI,addD_int,addD_str,addD_list,addD_tuple,subD,mulD_l,mulD_r,fdivD_pos,modD_pos,ltD_int,leD_int,gtD_int,geD_int,eqD_int,neD_int,eqD_tupE,eqD_strs,neD_strs,isND,isNotND,intF,absF,lenF,joinF,negD,List.map,List.length_cons,List.length_nil,List.cons_append,List.nil_append,List.append_nil,List.replicate,List.getElem?_cons_zero,List.getElem?_cons_succ,List.set_cons_zero,List.set_cons_succ,putAt,SL.put,stables,derefs,stable,deref,heldAt,SL.held,CT.data,CT.app,Int.reduceLT,Int.reduceLE,Int.reduceNeg,Nat.reduceAdd,Nat.reduceLeDiff,and_self,true_and,and_true,ite_true,if_true,List.nodup_cons,List.nodup_nil,List.not_mem_nil,not_false_eq_true,Nat.succ_ne_zero,eq_self,Option.bind_some,Option.bind,Option.map,id,asOut,F__law_pot,m__law_pot,decide_eq_false h,e0,e1,e2,hB,k1,k2,decide_eq_true h2]
        exact rfl
    · refine ⟨⟨?a4, ?b4, 0⟩, ?g4, fin ?a4 ?b4⟩
      case g4 =>
        simp only [putM,mRaise2,defM,defMc,defMX,mExprX,mSetX2,mCallX,mValX,mRaise,mTryK,mIsE,mFld,mIsN,mEnumA,mNil,mSeq,mSeqC,mRetC,mIfS,mRet,mSet,mSetX,mPut,mApp,mFrz,mAug,mPar,setAll,mUnp,gSet,gTupM,gsCons,gsNil,tVal,tAndM,tOrM,tNotM,tYesM,mBin,mUn,mAnd,mOr,mNot,mIf,mChain,mVar,mC,mCall,mCallF,mCallC,argsOf,argOf,ptrs,putBack,aNil,aCons,mTup,mLst,mV,mTell,xLst,xsNil,xsCons,mLenS,mIxS,mDict1,oNone,oSome,mFor,mIt,mRng1,xLc,ownOk,wp,unwp,startS,ixD,atI,addD_int,addD_str,addD_list,addD_tuple,subD,mulD_l,mulD_r,fdivD_pos,modD_pos,ltD_int,leD_int,gtD_int,geD_int,eqD_int,neD_int,eqD_tupE,eqD_strs,neD_strs,isND,isNotND,intF,absF,lenF,joinF,negD,List.map,List.length_cons,List.length_nil,List.cons_append,List.nil_append,List.append_nil,List.replicate,List.getElem?_cons_zero,List.getElem?_cons_succ,List.set_cons_zero,List.set_cons_succ,putAt,SL.put,stables,derefs,stable,deref,heldAt,SL.held,CT.data,CT.app,Int.reduceLT,Int.reduceLE,Int.reduceNeg,Nat.reduceAdd,Nat.reduceLeDiff,and_self,true_and,and_true,ite_true,if_true,List.nodup_cons,List.nodup_nil,List.not_mem_nil,not_false_eq_true,Nat.succ_ne_zero,eq_self,Option.bind_some,Option.bind,Option.map,id,asOut,F__law_pot,m__law_pot,decide_eq_false h,e0,e1,e2,hB,k1,k2,decide_eq_false h2,Bool.false_eq_true,if_false]
        exact rfl
theorem run_take {ma : MA} {S rest : Sl} {p : Pot} {many : Int} {n : Nat} {Q : SV → Sl → Prop} (h : ma S = some ([.p 0, .v (.int many)], some (.q (.l (potD p))) :: rest)) (hb : Bud (n + 1) p) (hm : 0 < many) (hs : many < 1073741824)
    (q : ∀ r p', 0 ≤ r → r < many → Bud n p' → Q (.v (.int r)) (some (.q (.l (potD p'))) :: rest)) : Run (mCallF 2 F__law_take ma S) Q := by
  obtain ⟨r, p', e, h1, h2, h3⟩ := take_ok hb hm hs
  refine ⟨_, _, ?_, q r p' h1 h2 h3⟩
  simp only [putM,mRaise2,defM,defMc,defMX,mExprX,mSetX2,mCallX,mValX,mRaise,mTryK,mIsE,mFld,mIsN,mEnumA,mNil,mSeq,mSeqC,mRetC,mIfS,mRet,mSet,mSetX,mPut,mApp,mFrz,mAug,mPar,setAll,mUnp,gSet,gTupM,gsCons,gsNil,tVal,tAndM,tOrM,tNotM,tYesM,mBin,mUn,mAnd,mOr,mNot,mIf,mChain,mVar,mC,mCall,mCallF,mCallC,argsOf,argOf,ptrs,putBack,aNil,aCons,mTup,mLst,mV,mTell,xLst,xsNil,xsCons,mLenS,mIxS,mDict1,oNone,oSome,mFor,mIt,mRng1,xLc,ownOk,wp,unwp,startS,ixD,atI,addD_int,addD_str,addD_list,addD_tuple,subD,mulD_l,mulD_r,fdivD_pos,modD_pos,ltD_int,leD_int,gtD_int,geD_int,eqD_int,neD_int,eqD_tupE,eqD_strs,neD_strs,isND,isNotND,intF,absF,lenF,joinF,negD,List.map,List.length_cons,List.length_nil,List.cons_append,List.nil_append,List.append_nil,List.replicate,List.getElem?_cons_zero,List.getElem?_cons_succ,List.set_cons_zero,List.set_cons_succ,putAt,SL.put,stables,derefs,stable,deref,heldAt,SL.held,CT.data,CT.app,Int.reduceLT,Int.reduceLE,Int.reduceNeg,Nat.reduceAdd,Nat.reduceLeDiff,and_self,true_and,and_true,ite_true,if_true,List.nodup_cons,List.nodup_nil,List.not_mem_nil,not_false_eq_true,Nat.succ_ne_zero,eq_self,Option.bind_some,Option.bind,Option.map,id,asOut,h,e]
theorem run_of {ma : MA} {S rest : Sl} {p : Pot} {ds : List PyData} {n : Nat} {Q : SV → Sl → Prop} (h : ma S = some ([.p 0, .v (.list ds)], some (.q (.l (potD p))) :: rest)) (hb : Bud (n + 1) p) (hm : 0 < ds.length) (hs : ds.length < 1073741824)
    (q : ∀ d p', d ∈ ds → Bud n p' → Q (.v d) (some (.q (.l (potD p'))) :: rest)) : Run (mCallF 2 F__law_of ma S) Q := by
  obtain ⟨r, p', e, h1, h2⟩ := of_ok hb hm hs
  refine ⟨_, _, ?_, q r p' h1 h2⟩
  simp only [putM,mRaise2,defM,defMc,defMX,mExprX,mSetX2,mCallX,mValX,mRaise,mTryK,mIsE,mFld,mIsN,mEnumA,mNil,mSeq,mSeqC,mRetC,mIfS,mRet,mSet,mSetX,mPut,mApp,mFrz,mAug,mPar,setAll,mUnp,gSet,gTupM,gsCons,gsNil,tVal,tAndM,tOrM,tNotM,tYesM,mBin,mUn,mAnd,mOr,mNot,mIf,mChain,mVar,mC,mCall,mCallF,mCallC,argsOf,argOf,ptrs,putBack,aNil,aCons,mTup,mLst,mV,mTell,xLst,xsNil,xsCons,mLenS,mIxS,mDict1,oNone,oSome,mFor,mIt,mRng1,xLc,ownOk,wp,unwp,startS,ixD,atI,addD_int,addD_str,addD_list,addD_tuple,subD,mulD_l,mulD_r,fdivD_pos,modD_pos,ltD_int,leD_int,gtD_int,geD_int,eqD_int,neD_int,eqD_tupE,eqD_strs,neD_strs,isND,isNotND,intF,absF,lenF,joinF,negD,List.map,List.length_cons,List.length_nil,List.cons_append,List.nil_append,List.append_nil,List.replicate,List.getElem?_cons_zero,List.getElem?_cons_succ,List.set_cons_zero,List.set_cons_succ,putAt,SL.put,stables,derefs,stable,deref,heldAt,SL.held,CT.data,CT.app,Int.reduceLT,Int.reduceLE,Int.reduceNeg,Nat.reduceAdd,Nat.reduceLeDiff,and_self,true_and,and_true,ite_true,if_true,List.nodup_cons,List.nodup_nil,List.not_mem_nil,not_false_eq_true,Nat.succ_ne_zero,eq_self,Option.bind_some,Option.bind,Option.map,id,asOut,h,e]
theorem run_ofS {ma : MA} {S rest : Sl} {p : Pot} {z : Str} {n : Nat} {Q : SV → Sl → Prop} (h : ma S = some ([.p 0, .v (.str z)], some (.q (.l (potD p))) :: rest)) (hb : Bud (n + 1) p) (hm : 0 < z.length) (hs : z.length ≤ 100000)
    (q : ∀ c p', c ∈ z.cps.toList → Bud n p' → Q (.v (.str ⟨#[c]⟩)) (some (.q (.l (potD p'))) :: rest)) : Run (mCallF 2 F__law_of ma S) Q := by
  obtain ⟨r, p', e, h1, h2⟩ := of_text hb hm hs
  refine ⟨_, _, ?_, q r p' h1 h2⟩
  simp only [putM,mRaise2,defM,defMc,defMX,mExprX,mSetX2,mCallX,mValX,mRaise,mTryK,mIsE,mFld,mIsN,mEnumA,mNil,mSeq,mSeqC,mRetC,mIfS,mRet,mSet,mSetX,mPut,mApp,mFrz,mAug,mPar,setAll,mUnp,gSet,gTupM,gsCons,gsNil,tVal,tAndM,tOrM,tNotM,tYesM,mBin,mUn,mAnd,mOr,mNot,mIf,mChain,mVar,mC,mCall,mCallF,mCallC,argsOf,argOf,ptrs,putBack,aNil,aCons,mTup,mLst,mV,mTell,xLst,xsNil,xsCons,mLenS,mIxS,mDict1,oNone,oSome,mFor,mIt,mRng1,xLc,ownOk,wp,unwp,startS,ixD,atI,addD_int,addD_str,addD_list,addD_tuple,subD,mulD_l,mulD_r,fdivD_pos,modD_pos,ltD_int,leD_int,gtD_int,geD_int,eqD_int,neD_int,eqD_tupE,eqD_strs,neD_strs,isND,isNotND,intF,absF,lenF,joinF,negD,List.map,List.length_cons,List.length_nil,List.cons_append,List.nil_append,List.append_nil,List.replicate,List.getElem?_cons_zero,List.getElem?_cons_succ,List.set_cons_zero,List.set_cons_succ,putAt,SL.put,stables,derefs,stable,deref,heldAt,SL.held,CT.data,CT.app,Int.reduceLT,Int.reduceLE,Int.reduceNeg,Nat.reduceAdd,Nat.reduceLeDiff,and_self,true_and,and_true,ite_true,if_true,List.nodup_cons,List.nodup_nil,List.not_mem_nil,not_false_eq_true,Nat.succ_ne_zero,eq_self,Option.bind_some,Option.bind,Option.map,id,asOut,h,e]
theorem pw17 : powD (.int 10) (.int 17) = some (.int 100000000000000000) := powD_ok (by decide +kernel)
theorem all_mem {P : PyData → Bool} {ds : List PyData} {d : PyData} (h : ds.all P = true) (hd : d ∈ ds) : P d = true := List.all_eq_true.mp h d hd
theorem odd_ok {p : Pot} {n : Nat} (h : Bud (n + 32) p) : ∃ d as', F__law_odd [.q (.l (potD p))] = some (d, as') ∧ ∃ p', as' = [.q (.l (potD p'))] ∧ Fin 33 1000 d ∧ Bud n p' := by
  refine run_def (P := fun d as' => ∃ p', as' = [.q (.l (potD p'))] ∧ Fin 33 1000 d ∧ Bud n p') ?_
  apply run_seq
  apply run_eq
  · simp only [putM,mRaise2,defM,defMc,defMX,mExprX,mSetX2,mCallX,mValX,mRaise,mTryK,mIsE,mFld,mIsN,mEnumA,mNil,mSeq,mSeqC,mRetC,mIfS,mRet,mSet,mSetX,mPut,mApp,mFrz,mAug,mPar,setAll,mUnp,gSet,gTupM,gsCons,gsNil,tVal,tAndM,tOrM,tNotM,tYesM,mBin,mUn,mAnd,mOr,mNot,mIf,mChain,mVar,mC,mCall,mCallF,mCallC,argsOf,argOf,ptrs,putBack,aNil,aCons,mTup,mLst,mV,mTell,xLst,xsNil,xsCons,mLenS,mIxS,mDict1,oNone,oSome,mFor,mIt,mRng1,xLc,ownOk,wp,unwp,startS,ixD,atI,addD_int,addD_str,addD_list,addD_tuple,subD,mulD_l,mulD_r,fdivD_pos,modD_pos,ltD_int,leD_int,gtD_int,geD_int,eqD_int,neD_int,eqD_tupE,eqD_strs,neD_strs,isND,isNotND,intF,absF,lenF,joinF,negD,List.map,List.length_cons,List.length_nil,List.cons_append,List.nil_append,List.append_nil,List.replicate,List.getElem?_cons_zero,List.getElem?_cons_succ,List.set_cons_zero,List.set_cons_succ,putAt,SL.put,stables,derefs,stable,deref,heldAt,SL.held,CT.data,CT.app,Int.reduceLT,Int.reduceLE,Int.reduceNeg,Nat.reduceAdd,Nat.reduceLeDiff,and_self,true_and,and_true,ite_true,if_true,List.nodup_cons,List.nodup_nil,List.not_mem_nil,not_false_eq_true,Nat.succ_ne_zero,eq_self,Option.bind_some,Option.bind,Option.map,id,asOut,pw17]
    exact rfl
  apply run_seq
  apply run_set
  apply run_of (n := n + 31) ?h h
  case h =>
    simp only [putM,mRaise2,defM,defMc,defMX,mExprX,mSetX2,mCallX,mValX,mRaise,mTryK,mIsE,mFld,mIsN,mEnumA,mNil,mSeq,mSeqC,mRetC,mIfS,mRet,mSet,mSetX,mPut,mApp,mFrz,mAug,mPar,setAll,mUnp,gSet,gTupM,gsCons,gsNil,tVal,tAndM,tOrM,tNotM,tYesM,mBin,mUn,mAnd,mOr,mNot,mIf,mChain,mVar,mC,mCall,mCallF,mCallC,argsOf,argOf,ptrs,putBack,aNil,aCons,mTup,mLst,mV,mTell,xLst,xsNil,xsCons,mLenS,mIxS,mDict1,oNone,oSome,mFor,mIt,mRng1,xLc,ownOk,wp,unwp,startS,ixD,atI,addD_int,addD_str,addD_list,addD_tuple,subD,mulD_l,mulD_r,fdivD_pos,modD_pos,ltD_int,leD_int,gtD_int,geD_int,eqD_int,neD_int,eqD_tupE,eqD_strs,neD_strs,isND,isNotND,intF,absF,lenF,joinF,negD,List.map,List.length_cons,List.length_nil,List.cons_append,List.nil_append,List.append_nil,List.replicate,List.getElem?_cons_zero,List.getElem?_cons_succ,List.set_cons_zero,List.set_cons_succ,putAt,SL.put,stables,derefs,stable,deref,heldAt,SL.held,CT.data,CT.app,Int.reduceLT,Int.reduceLE,Int.reduceNeg,Nat.reduceAdd,Nat.reduceLeDiff,and_self,true_and,and_true,ite_true,if_true,List.nodup_cons,List.nodup_nil,List.not_mem_nil,not_false_eq_true,Nat.succ_ne_zero,eq_self,Option.bind_some,Option.bind,Option.map,id,asOut]
    exact rfl
  case hm => simp only [List.length_cons]; omega
  case hs => simp only [List.length_cons, List.length_nil]; omega
  case q =>
    intro d p1 hd b1
    have f1 : Fin 3 80 d := Fin.by (all_mem (P := finC 3 80) (by decide +kernel) hd)
    clear hd
    refine ⟨d, rfl, ?_⟩
    apply run_seq
    apply run_forI
    apply run_rng1
    apply run_of (n := n + 30) ?h b1
    case h =>
      simp only [putM,mRaise2,defM,defMc,defMX,mExprX,mSetX2,mCallX,mValX,mRaise,mTryK,mIsE,mFld,mIsN,mEnumA,mNil,mSeq,mSeqC,mRetC,mIfS,mRet,mSet,mSetX,mPut,mApp,mFrz,mAug,mPar,setAll,mUnp,gSet,gTupM,gsCons,gsNil,tVal,tAndM,tOrM,tNotM,tYesM,mBin,mUn,mAnd,mOr,mNot,mIf,mChain,mVar,mC,mCall,mCallF,mCallC,argsOf,argOf,ptrs,putBack,aNil,aCons,mTup,mLst,mV,mTell,xLst,xsNil,xsCons,mLenS,mIxS,mDict1,oNone,oSome,mFor,mIt,mRng1,xLc,ownOk,wp,unwp,startS,ixD,atI,addD_int,addD_str,addD_list,addD_tuple,subD,mulD_l,mulD_r,fdivD_pos,modD_pos,ltD_int,leD_int,gtD_int,geD_int,eqD_int,neD_int,eqD_tupE,eqD_strs,neD_strs,isND,isNotND,intF,absF,lenF,joinF,negD,List.map,List.length_cons,List.length_nil,List.cons_append,List.nil_append,List.append_nil,List.replicate,List.getElem?_cons_zero,List.getElem?_cons_succ,List.set_cons_zero,List.set_cons_succ,putAt,SL.put,stables,derefs,stable,deref,heldAt,SL.held,CT.data,CT.app,Int.reduceLT,Int.reduceLE,Int.reduceNeg,Nat.reduceAdd,Nat.reduceLeDiff,and_self,true_and,and_true,ite_true,if_true,List.nodup_cons,List.nodup_nil,List.not_mem_nil,not_false_eq_true,Nat.succ_ne_zero,eq_self,Option.bind_some,Option.bind,Option.map,id,asOut]
      exact rfl
    case hm => simp only [List.length_cons]; omega
    case hs => simp only [List.length_cons, List.length_nil]; omega
    case q =>
      intro d2 p2 hd b2
      obtain ⟨j, rfl, j0, j30⟩ : ∃ j : Int, d2 = .int j ∧ 0 ≤ j ∧ j ≤ 30 := by
        simp only [List.mem_cons,List.not_mem_nil,or_false] at hd
        rcases hd with rfl | rfl | rfl | rfl | rfl | rfl <;> exact ⟨_, rfl, by decide, by decide⟩
      clear hd
      refine ⟨j, rfl, by omega, by omega, ?_⟩
      refine run_forM (fun i S => ∃ p x t L, S = [some (.q (.l (potD p))), L, some (.v x), t] ∧ Fin (3 + i) (80 + 24 * i) x ∧ Bud (n + (30 - i)) p) ⟨p2, d, _, _, rfl, f1, b2⟩ ?_ ?_
      · rintro i d3 S hd3 ⟨p3, x, t, L, rfl, fx, b3⟩
        have hi : i < 30 := by
          have := (List.getElem?_eq_some_iff.mp hd3).1
          rw [rngD_len] at this
          omega
        refine ⟨_, rfl, ?_⟩
        apply run_seq
        apply run_set
        apply run_of (n := n + (30 - (i + 1))) ?h (b3.le (by omega))
        case h =>
          simp only [putM,mRaise2,defM,defMc,defMX,mExprX,mSetX2,mCallX,mValX,mRaise,mTryK,mIsE,mFld,mIsN,mEnumA,mNil,mSeq,mSeqC,mRetC,mIfS,mRet,mSet,mSetX,mPut,mApp,mFrz,mAug,mPar,setAll,mUnp,gSet,gTupM,gsCons,gsNil,tVal,tAndM,tOrM,tNotM,tYesM,mBin,mUn,mAnd,mOr,mNot,mIf,mChain,mVar,mC,mCall,mCallF,mCallC,argsOf,argOf,ptrs,putBack,aNil,aCons,mTup,mLst,mV,mTell,xLst,xsNil,xsCons,mLenS,mIxS,mDict1,oNone,oSome,mFor,mIt,mRng1,xLc,ownOk,wp,unwp,startS,ixD,atI,addD_int,addD_str,addD_list,addD_tuple,subD,mulD_l,mulD_r,fdivD_pos,modD_pos,ltD_int,leD_int,gtD_int,geD_int,eqD_int,neD_int,eqD_tupE,eqD_strs,neD_strs,isND,isNotND,intF,absF,lenF,joinF,negD,List.map,List.length_cons,List.length_nil,List.cons_append,List.nil_append,List.append_nil,List.replicate,List.getElem?_cons_zero,List.getElem?_cons_succ,List.set_cons_zero,List.set_cons_succ,putAt,SL.put,stables,derefs,stable,deref,heldAt,SL.held,CT.data,CT.app,Int.reduceLT,Int.reduceLE,Int.reduceNeg,Nat.reduceAdd,Nat.reduceLeDiff,and_self,true_and,and_true,ite_true,if_true,List.nodup_cons,List.nodup_nil,List.not_mem_nil,not_false_eq_true,Nat.succ_ne_zero,eq_self,Option.bind_some,Option.bind,Option.map,id,asOut]
          exact rfl
        case hm => simp only [List.length_cons]; omega
        case hs => simp only [List.length_cons, List.length_nil]; omega
        case q =>
          intro d4 p4 hd4 b4
          refine ⟨d4, rfl, ?_⟩
          refine run_nil ⟨.inl rfl, p4, d4, _, _, rfl, ?_, b4⟩
          simp only [List.mem_cons,List.not_mem_nil,or_false] at hd4
          have ea : PyData.strOk "a" = true := by decide +kernel
          have la : ("a" : Str).length = 1 := by decide +kernel
          rcases hd4 with rfl | rfl | rfl | rfl
          · exact (FinA.cons (C := 0) fx .nil).tuple.mono (by omega) (by omega)
          · exact (FinA.cons (C := 0) fx .nil).list.mono (by omega) (by omega)
          · exact (Fin.dict1 ea fx).mono (by omega) (by rw [la]; omega)
          · exact ((FinA.cons fx (FinA.cons (B := 12) (Fin.str ea (by rw [la]; decide)) (FinA.nil (B := 0)))).tuple).mono (by omega) (by omega)
      · rintro S ⟨p3, x, t, L, rfl, fx, b3⟩
        rw [rngD_len] at fx b3
        apply run_seq
        apply run_ret
        apply run_eq
        · simp only [putM,mRaise2,defM,defMc,defMX,mExprX,mSetX2,mCallX,mValX,mRaise,mTryK,mIsE,mFld,mIsN,mEnumA,mNil,mSeq,mSeqC,mRetC,mIfS,mRet,mSet,mSetX,mPut,mApp,mFrz,mAug,mPar,setAll,mUnp,gSet,gTupM,gsCons,gsNil,tVal,tAndM,tOrM,tNotM,tYesM,mBin,mUn,mAnd,mOr,mNot,mIf,mChain,mVar,mC,mCall,mCallF,mCallC,argsOf,argOf,ptrs,putBack,aNil,aCons,mTup,mLst,mV,mTell,xLst,xsNil,xsCons,mLenS,mIxS,mDict1,oNone,oSome,mFor,mIt,mRng1,xLc,ownOk,wp,unwp,startS,ixD,atI,addD_int,addD_str,addD_list,addD_tuple,subD,mulD_l,mulD_r,fdivD_pos,modD_pos,ltD_int,leD_int,gtD_int,geD_int,eqD_int,neD_int,eqD_tupE,eqD_strs,neD_strs,isND,isNotND,intF,absF,lenF,joinF,negD,List.map,List.length_cons,List.length_nil,List.cons_append,List.nil_append,List.append_nil,List.replicate,List.getElem?_cons_zero,List.getElem?_cons_succ,List.set_cons_zero,List.set_cons_succ,putAt,SL.put,stables,derefs,stable,deref,heldAt,SL.held,CT.data,CT.app,Int.reduceLT,Int.reduceLE,Int.reduceNeg,Nat.reduceAdd,Nat.reduceLeDiff,and_self,true_and,and_true,ite_true,if_true,List.nodup_cons,List.nodup_nil,List.not_mem_nil,not_false_eq_true,Nat.succ_ne_zero,eq_self,Option.bind_some,Option.bind,Option.map,id,asOut]
          exact rfl
        exact ⟨x, rfl, x, _, rfl, rfl, p3, rfl, fx.mono (by omega) (by omega), b3.le (by omega)⟩
theorem sum_signs : ∀ cs : List Nat, (((cs.map fun c => (⟨#[c]⟩ : Str))).map (·.length)).sum = cs.length
  | [] => rfl
  | c :: r => by
    have e : (⟨#[c]⟩ : Str).length = 1 := rfl
    simp only [List.map_cons,List.sum_cons,List.length_cons,sum_signs r,e]
    omega
def okSign (c : Nat) : Prop := c = 32 ∨ (97 ≤ c ∧ c ≤ 122)
structure PageOk (h w : Nat) (rs : List Str) : Prop where
  ne : 0 < rs.length
  hi : rs.length ≤ h
  wide : ∃ k, 0 < k ∧ k ≤ w ∧ ∀ z ∈ rs, z.length = k
  sign : ∀ z ∈ rs, ∀ c ∈ sg z, okSign c
theorem okSign_ok {z : Str} (h : ∀ c ∈ sg z, okSign c) : PyData.strOk z = true := okS_iff.mpr fun c hc => by
  rcases h c hc with q | q <;> omega
def signTexts : List PyData := [.str "a ", .str "ab ", .str "abz  ", .str "m    ", .str "qrs"]
theorem signTexts_ok {d : PyData} (h : d ∈ signTexts) : ∃ z : Str, d = .str z ∧ 0 < z.length ∧ z.length ≤ 100000 ∧ ∀ c ∈ sg z, okSign c := by
  have aux : ∀ z : Str, (decide (0 < z.length) && decide (z.length ≤ 100000) && z.cps.toList.all (fun c => c == 32 || (97 ≤ c && c ≤ 122))) = true → 0 < z.length ∧ z.length ≤ 100000 ∧ ∀ c ∈ sg z, okSign c := fun z h => by
    simp only [Bool.and_eq_true,decide_eq_true_eq,List.all_eq_true,Bool.or_eq_true,beq_iff_eq] at h
    exact ⟨h.1.1, h.1.2, fun c hc => h.2 c hc⟩
  unfold signTexts at h
  simp only [List.mem_cons,List.not_mem_nil,or_false] at h
  rcases h with rfl | rfl | rfl | rfl | rfl <;> exact ⟨_, rfl, aux _ (by decide +kernel)⟩
theorem page_ok {p : Pot} {n h w : Nat} (hb : Bud (n + (2 + h + h * w)) p) (hh : 0 < h ∧ h ≤ 100) (hw : 0 < w ∧ w ≤ 100) (rows places : Int) (er : rows = (h : Nat)) (ep : places = (w : Nat)) :
    ∃ d as', F__law_page [.q (.l (potD p)), .v (.int rows), .v (.int places)] = some (d, as') ∧ ∃ p' rs, as' = [.q (.l (potD p')), .v (.int rows), .v (.int places)] ∧ d = .tuple (rs.map .str) ∧ PageOk h w rs ∧ Bud n p' := by
  refine run_def (P := fun d as' => ∃ p' rs, as' = [.q (.l (potD p')), .v (.int rows), .v (.int places)] ∧ d = .tuple (rs.map .str) ∧ PageOk h w rs ∧ Bud n p') ?_
  apply run_seq
  apply run_unp
  apply run_tup
  apply run_acons
  apply run_bin
  apply run_eq
  · simp only [putM,mRaise2,defM,defMc,defMX,mExprX,mSetX2,mCallX,mValX,mRaise,mTryK,mIsE,mFld,mIsN,mEnumA,mNil,mSeq,mSeqC,mRetC,mIfS,mRet,mSet,mSetX,mPut,mApp,mFrz,mAug,mPar,setAll,mUnp,gSet,gTupM,gsCons,gsNil,tVal,tAndM,tOrM,tNotM,tYesM,mBin,mUn,mAnd,mOr,mNot,mIf,mChain,mVar,mC,mCall,mCallF,mCallC,argsOf,argOf,ptrs,putBack,aNil,aCons,mTup,mLst,mV,mTell,xLst,xsNil,xsCons,mLenS,mIxS,mDict1,oNone,oSome,mFor,mIt,mRng1,xLc,ownOk,wp,unwp,startS,ixD,atI,addD_int,addD_str,addD_list,addD_tuple,subD,mulD_l,mulD_r,fdivD_pos,modD_pos,ltD_int,leD_int,gtD_int,geD_int,eqD_int,neD_int,eqD_tupE,eqD_strs,neD_strs,isND,isNotND,intF,absF,lenF,joinF,negD,List.map,List.length_cons,List.length_nil,List.cons_append,List.nil_append,List.append_nil,List.replicate,List.getElem?_cons_zero,List.getElem?_cons_succ,List.set_cons_zero,List.set_cons_succ,putAt,SL.put,stables,derefs,stable,deref,heldAt,SL.held,CT.data,CT.app,Int.reduceLT,Int.reduceLE,Int.reduceNeg,Nat.reduceAdd,Nat.reduceLeDiff,and_self,true_and,and_true,ite_true,if_true,List.nodup_cons,List.nodup_nil,List.not_mem_nil,not_false_eq_true,Nat.succ_ne_zero,eq_self,Option.bind_some,Option.bind,Option.map,id,asOut]
    exact rfl
  apply run_take (n := n + (1 + h + h * w)) ?z1 (hb.le (by omega))
  case z1 =>
    simp only [putM,mRaise2,defM,defMc,defMX,mExprX,mSetX2,mCallX,mValX,mRaise,mTryK,mIsE,mFld,mIsN,mEnumA,mNil,mSeq,mSeqC,mRetC,mIfS,mRet,mSet,mSetX,mPut,mApp,mFrz,mAug,mPar,setAll,mUnp,gSet,gTupM,gsCons,gsNil,tVal,tAndM,tOrM,tNotM,tYesM,mBin,mUn,mAnd,mOr,mNot,mIf,mChain,mVar,mC,mCall,mCallF,mCallC,argsOf,argOf,ptrs,putBack,aNil,aCons,mTup,mLst,mV,mTell,xLst,xsNil,xsCons,mLenS,mIxS,mDict1,oNone,oSome,mFor,mIt,mRng1,xLc,ownOk,wp,unwp,startS,ixD,atI,addD_int,addD_str,addD_list,addD_tuple,subD,mulD_l,mulD_r,fdivD_pos,modD_pos,ltD_int,leD_int,gtD_int,geD_int,eqD_int,neD_int,eqD_tupE,eqD_strs,neD_strs,isND,isNotND,intF,absF,lenF,joinF,negD,List.map,List.length_cons,List.length_nil,List.cons_append,List.nil_append,List.append_nil,List.replicate,List.getElem?_cons_zero,List.getElem?_cons_succ,List.set_cons_zero,List.set_cons_succ,putAt,SL.put,stables,derefs,stable,deref,heldAt,SL.held,CT.data,CT.app,Int.reduceLT,Int.reduceLE,Int.reduceNeg,Nat.reduceAdd,Nat.reduceLeDiff,and_self,true_and,and_true,ite_true,if_true,List.nodup_cons,List.nodup_nil,List.not_mem_nil,not_false_eq_true,Nat.succ_ne_zero,eq_self,Option.bind_some,Option.bind,Option.map,id,asOut]
    exact rfl
  · omega
  · omega
  intro r p1 r0 r1 b1
  refine ⟨_, _, _, rfl, rfl, rfl, ?_⟩
  apply run_acons
  apply run_of (n := n + (h + h * w)) ?z2 (b1.le (by omega))
  case z2 =>
    simp only [putM,mRaise2,defM,defMc,defMX,mExprX,mSetX2,mCallX,mValX,mRaise,mTryK,mIsE,mFld,mIsN,mEnumA,mNil,mSeq,mSeqC,mRetC,mIfS,mRet,mSet,mSetX,mPut,mApp,mFrz,mAug,mPar,setAll,mUnp,gSet,gTupM,gsCons,gsNil,tVal,tAndM,tOrM,tNotM,tYesM,mBin,mUn,mAnd,mOr,mNot,mIf,mChain,mVar,mC,mCall,mCallF,mCallC,argsOf,argOf,ptrs,putBack,aNil,aCons,mTup,mLst,mV,mTell,xLst,xsNil,xsCons,mLenS,mIxS,mDict1,oNone,oSome,mFor,mIt,mRng1,xLc,ownOk,wp,unwp,startS,ixD,atI,addD_int,addD_str,addD_list,addD_tuple,subD,mulD_l,mulD_r,fdivD_pos,modD_pos,ltD_int,leD_int,gtD_int,geD_int,eqD_int,neD_int,eqD_tupE,eqD_strs,neD_strs,isND,isNotND,intF,absF,lenF,joinF,negD,List.map,List.length_cons,List.length_nil,List.cons_append,List.nil_append,List.append_nil,List.replicate,List.getElem?_cons_zero,List.getElem?_cons_succ,List.set_cons_zero,List.set_cons_succ,putAt,SL.put,stables,derefs,stable,deref,heldAt,SL.held,CT.data,CT.app,Int.reduceLT,Int.reduceLE,Int.reduceNeg,Nat.reduceAdd,Nat.reduceLeDiff,and_self,true_and,and_true,ite_true,if_true,List.nodup_cons,List.nodup_nil,List.not_mem_nil,not_false_eq_true,Nat.succ_ne_zero,eq_self,Option.bind_some,Option.bind,Option.map,id,asOut]
    exact rfl
  · simp only [List.length_cons]; omega
  · simp only [List.length_cons,List.length_nil]; omega
  intro d p2 hd b2
  obtain ⟨z, rfl, z0, z1, zc⟩ := signTexts_ok hd
  clear hd
  apply run_anil
  refine ⟨_, rfl, by simp only [List.length_cons, List.length_nil]; omega, ?_⟩
  refine ⟨_, _, rfl, rfl, ?_⟩
  show Run _ _
  apply run_seq
  apply run_ret
  apply run_call1
  apply run_tell
  apply run_lcI
  apply run_rng1
  apply run_bin
  apply run_eq
  · simp only [putM,mRaise2,defM,defMc,defMX,mExprX,mSetX2,mCallX,mValX,mRaise,mTryK,mIsE,mFld,mIsN,mEnumA,mNil,mSeq,mSeqC,mRetC,mIfS,mRet,mSet,mSetX,mPut,mApp,mFrz,mAug,mPar,setAll,mUnp,gSet,gTupM,gsCons,gsNil,tVal,tAndM,tOrM,tNotM,tYesM,mBin,mUn,mAnd,mOr,mNot,mIf,mChain,mVar,mC,mCall,mCallF,mCallC,argsOf,argOf,ptrs,putBack,aNil,aCons,mTup,mLst,mV,mTell,xLst,xsNil,xsCons,mLenS,mIxS,mDict1,oNone,oSome,mFor,mIt,mRng1,xLc,ownOk,wp,unwp,startS,ixD,atI,addD_int,addD_str,addD_list,addD_tuple,subD,mulD_l,mulD_r,fdivD_pos,modD_pos,ltD_int,leD_int,gtD_int,geD_int,eqD_int,neD_int,eqD_tupE,eqD_strs,neD_strs,isND,isNotND,intF,absF,lenF,joinF,negD,List.map,List.length_cons,List.length_nil,List.cons_append,List.nil_append,List.append_nil,List.replicate,List.getElem?_cons_zero,List.getElem?_cons_succ,List.set_cons_zero,List.set_cons_succ,putAt,SL.put,stables,derefs,stable,deref,heldAt,SL.held,CT.data,CT.app,Int.reduceLT,Int.reduceLE,Int.reduceNeg,Nat.reduceAdd,Nat.reduceLeDiff,and_self,true_and,and_true,ite_true,if_true,List.nodup_cons,List.nodup_nil,List.not_mem_nil,not_false_eq_true,Nat.succ_ne_zero,eq_self,Option.bind_some,Option.bind,Option.map,id,asOut]
    exact rfl
  apply run_take (n := n + (h * w)) ?z3 (b2.le (by omega))
  case z3 =>
    simp only [putM,mRaise2,defM,defMc,defMX,mExprX,mSetX2,mCallX,mValX,mRaise,mTryK,mIsE,mFld,mIsN,mEnumA,mNil,mSeq,mSeqC,mRetC,mIfS,mRet,mSet,mSetX,mPut,mApp,mFrz,mAug,mPar,setAll,mUnp,gSet,gTupM,gsCons,gsNil,tVal,tAndM,tOrM,tNotM,tYesM,mBin,mUn,mAnd,mOr,mNot,mIf,mChain,mVar,mC,mCall,mCallF,mCallC,argsOf,argOf,ptrs,putBack,aNil,aCons,mTup,mLst,mV,mTell,xLst,xsNil,xsCons,mLenS,mIxS,mDict1,oNone,oSome,mFor,mIt,mRng1,xLc,ownOk,wp,unwp,startS,ixD,atI,addD_int,addD_str,addD_list,addD_tuple,subD,mulD_l,mulD_r,fdivD_pos,modD_pos,ltD_int,leD_int,gtD_int,geD_int,eqD_int,neD_int,eqD_tupE,eqD_strs,neD_strs,isND,isNotND,intF,absF,lenF,joinF,negD,List.map,List.length_cons,List.length_nil,List.cons_append,List.nil_append,List.append_nil,List.replicate,List.getElem?_cons_zero,List.getElem?_cons_succ,List.set_cons_zero,List.set_cons_succ,putAt,SL.put,stables,derefs,stable,deref,heldAt,SL.held,CT.data,CT.app,Int.reduceLT,Int.reduceLE,Int.reduceNeg,Nat.reduceAdd,Nat.reduceLeDiff,and_self,true_and,and_true,ite_true,if_true,List.nodup_cons,List.nodup_nil,List.not_mem_nil,not_false_eq_true,Nat.succ_ne_zero,eq_self,Option.bind_some,Option.bind,Option.map,id,asOut]
    exact rfl
  · omega
  · omega
  intro r2 p3 r20 r21 b3
  refine ⟨_, _, _, rfl, rfl, rfl, 1 + r2, rfl, by omega, by omega, ?_⟩
  refine ⟨rfl, ?_⟩
  have hn : (1 + r2).toNat ≤ h := by omega
  have hn0 : 0 < (1 + r2).toNat := by omega
  refine run_lcGo (fun i T acc => ∃ (p : Pot) (rs : List Str), T = [some (.q (.l (potD p))), some (.v (.int rows)), some (.v (.int places)), some (.v (.int (1 + r))), some (.v (.str z)), none, none] ∧ acc = rs.map .str ∧ rs.length = i ∧ (∀ y ∈ rs, y.length = (1 + r).toNat) ∧ (∀ y ∈ rs, ∀ c ∈ sg y, okSign c) ∧ Bud (n + (h - i) * w) p)
    ⟨p3, [], rfl, rfl, rfl, by simp, by simp, b3.le (by simp)⟩ ?_ ?_
  · rintro i x T acc hx ⟨p4, rs, rfl, rfl, el, hl, hc, b4⟩
    have hi : i < h := by
      have := (List.getElem?_eq_some_iff.mp hx).1
      rw [rngD_len] at this
      omega
    refine ⟨by rw [List.length_map]; omega, _, rfl, ?_⟩
    refine run_eq rfl ⟨rfl, ?_⟩
    apply run_bin
    apply run_eq
    · simp only [putM,mRaise2,defM,defMc,defMX,mExprX,mSetX2,mCallX,mValX,mRaise,mTryK,mIsE,mFld,mIsN,mEnumA,mNil,mSeq,mSeqC,mRetC,mIfS,mRet,mSet,mSetX,mPut,mApp,mFrz,mAug,mPar,setAll,mUnp,gSet,gTupM,gsCons,gsNil,tVal,tAndM,tOrM,tNotM,tYesM,mBin,mUn,mAnd,mOr,mNot,mIf,mChain,mVar,mC,mCall,mCallF,mCallC,argsOf,argOf,ptrs,putBack,aNil,aCons,mTup,mLst,mV,mTell,xLst,xsNil,xsCons,mLenS,mIxS,mDict1,oNone,oSome,mFor,mIt,mRng1,xLc,ownOk,wp,unwp,startS,ixD,atI,addD_int,addD_str,addD_list,addD_tuple,subD,mulD_l,mulD_r,fdivD_pos,modD_pos,ltD_int,leD_int,gtD_int,geD_int,eqD_int,neD_int,eqD_tupE,eqD_strs,neD_strs,isND,isNotND,intF,absF,lenF,joinF,negD,List.map,List.length_cons,List.length_nil,List.cons_append,List.nil_append,List.append_nil,List.replicate,List.getElem?_cons_zero,List.getElem?_cons_succ,List.set_cons_zero,List.set_cons_succ,putAt,SL.put,stables,derefs,stable,deref,heldAt,SL.held,CT.data,CT.app,Int.reduceLT,Int.reduceLE,Int.reduceNeg,Nat.reduceAdd,Nat.reduceLeDiff,and_self,true_and,and_true,ite_true,if_true,List.nodup_cons,List.nodup_nil,List.not_mem_nil,not_false_eq_true,Nat.succ_ne_zero,eq_self,Option.bind_some,Option.bind,Option.map,id,asOut]
      exact rfl
    apply run_tell
    apply run_lcI
    apply run_rng1
    apply run_eq
    · simp only [putM,mRaise2,defM,defMc,defMX,mExprX,mSetX2,mCallX,mValX,mRaise,mTryK,mIsE,mFld,mIsN,mEnumA,mNil,mSeq,mSeqC,mRetC,mIfS,mRet,mSet,mSetX,mPut,mApp,mFrz,mAug,mPar,setAll,mUnp,gSet,gTupM,gsCons,gsNil,tVal,tAndM,tOrM,tNotM,tYesM,mBin,mUn,mAnd,mOr,mNot,mIf,mChain,mVar,mC,mCall,mCallF,mCallC,argsOf,argOf,ptrs,putBack,aNil,aCons,mTup,mLst,mV,mTell,xLst,xsNil,xsCons,mLenS,mIxS,mDict1,oNone,oSome,mFor,mIt,mRng1,xLc,ownOk,wp,unwp,startS,ixD,atI,addD_int,addD_str,addD_list,addD_tuple,subD,mulD_l,mulD_r,fdivD_pos,modD_pos,ltD_int,leD_int,gtD_int,geD_int,eqD_int,neD_int,eqD_tupE,eqD_strs,neD_strs,isND,isNotND,intF,absF,lenF,joinF,negD,List.map,List.length_cons,List.length_nil,List.cons_append,List.nil_append,List.append_nil,List.replicate,List.getElem?_cons_zero,List.getElem?_cons_succ,List.set_cons_zero,List.set_cons_succ,putAt,SL.put,stables,derefs,stable,deref,heldAt,SL.held,CT.data,CT.app,Int.reduceLT,Int.reduceLE,Int.reduceNeg,Nat.reduceAdd,Nat.reduceLeDiff,and_self,true_and,and_true,ite_true,if_true,List.nodup_cons,List.nodup_nil,List.not_mem_nil,not_false_eq_true,Nat.succ_ne_zero,eq_self,Option.bind_some,Option.bind,Option.map,id,asOut]
      exact rfl
    refine ⟨1 + r, rfl, by omega, by omega, rfl, ?_⟩
    have e1 : (h - i) * w = (h - (i + 1)) * w + w := by rw [show h - i = (h - (i + 1)) + 1 by omega, Nat.succ_mul]
    refine run_lcGo (fun j T acc => ∃ (p : Pot) (cs : List Nat), T = [some (.q (.l (potD p))), some (.v (.int rows)), some (.v (.int places)), some (.v (.int (1 + r))), some (.v (.str z)), some (.v x), none] ∧ acc = (cs.map fun c => (⟨#[c]⟩ : Str)).map .str ∧ cs.length = j ∧ (∀ c ∈ cs, okSign c) ∧ Bud (n + (h - (i + 1)) * w + (w - j)) p)
      ⟨p4, [], rfl, rfl, rfl, by simp, b4.le (by omega)⟩ ?_ ?_
    · rintro j y T acc hy ⟨p5, cs, rfl, rfl, ej, hs, b5⟩
      have hj : j < w := by
        have := (List.getElem?_eq_some_iff.mp hy).1
        rw [rngD_len] at this
        omega
      refine ⟨by rw [List.length_map, List.length_map]; omega, _, rfl, ?_⟩
      refine run_eq rfl ⟨rfl, ?_⟩
      apply run_ofS (n := n + (h - (i + 1)) * w + (w - (j + 1))) ?z4 (b5.le (by omega)) z0 z1
      case z4 =>
        simp only [putM,mRaise2,defM,defMc,defMX,mExprX,mSetX2,mCallX,mValX,mRaise,mTryK,mIsE,mFld,mIsN,mEnumA,mNil,mSeq,mSeqC,mRetC,mIfS,mRet,mSet,mSetX,mPut,mApp,mFrz,mAug,mPar,setAll,mUnp,gSet,gTupM,gsCons,gsNil,tVal,tAndM,tOrM,tNotM,tYesM,mBin,mUn,mAnd,mOr,mNot,mIf,mChain,mVar,mC,mCall,mCallF,mCallC,argsOf,argOf,ptrs,putBack,aNil,aCons,mTup,mLst,mV,mTell,xLst,xsNil,xsCons,mLenS,mIxS,mDict1,oNone,oSome,mFor,mIt,mRng1,xLc,ownOk,wp,unwp,startS,ixD,atI,addD_int,addD_str,addD_list,addD_tuple,subD,mulD_l,mulD_r,fdivD_pos,modD_pos,ltD_int,leD_int,gtD_int,geD_int,eqD_int,neD_int,eqD_tupE,eqD_strs,neD_strs,isND,isNotND,intF,absF,lenF,joinF,negD,List.map,List.length_cons,List.length_nil,List.cons_append,List.nil_append,List.append_nil,List.replicate,List.getElem?_cons_zero,List.getElem?_cons_succ,List.set_cons_zero,List.set_cons_succ,putAt,SL.put,stables,derefs,stable,deref,heldAt,SL.held,CT.data,CT.app,Int.reduceLT,Int.reduceLE,Int.reduceNeg,Nat.reduceAdd,Nat.reduceLeDiff,and_self,true_and,and_true,ite_true,if_true,List.nodup_cons,List.nodup_nil,List.not_mem_nil,not_false_eq_true,Nat.succ_ne_zero,eq_self,Option.bind_some,Option.bind,Option.map,id,asOut]
        exact rfl
      intro c p6 hcz b6
      refine ⟨_, rfl, p6, cs ++ [c], rfl, by simp, by simp [ej], fun u hu => ?_, b6⟩
      rcases List.mem_append.mp hu with q | q
      · exact hs u q
      · rw [List.mem_singleton.mp q]
        exact zc c hcz
    · rintro T acc ⟨p5, cs, rfl, rfl, ej, hs, b5⟩
      rw [rngD_len] at ej b5
      refine .inr ⟨_, rfl, ?_⟩
      have hsum := sum_signs cs
      have hemp : ("" : Str).length = 0 := rfl
      refine ⟨_, _, _, rfl, rfl, ?_, .str ⟨cs.toArray⟩, rfl, p5, rs ++ [⟨cs.toArray⟩], rfl, by simp, by simp [el], fun y hy => ?_, fun y hy => ?_, b5.le (by omega)⟩
      · show joinF "" (.list ((cs.map fun c => (⟨#[c]⟩ : Str)).map .str)) = _
        rw [joinD (by rw [hsum, hemp]; omega), join_signs]
      · rcases List.mem_append.mp hy with q | q
        · exact hl y q
        · rw [List.mem_singleton.mp q, len_sg, sg_mk, ej]
      · rcases List.mem_append.mp hy with q | q
        · exact hc y q
        · rw [List.mem_singleton.mp q, sg_mk]
          exact hs
  · rintro T acc ⟨p4, rs, rfl, rfl, el, hl, hc, b4⟩
    rw [rngD_len] at el
    refine .inr ⟨_, rfl, ?_⟩
    refine ⟨_, _, rfl, rfl, _, rfl, _, _, rfl, rfl, p4, rs, rfl, rfl, ⟨by omega, by omega, ⟨(1 + r).toNat, by omega, by omega, hl⟩, hc⟩, b4.le (by omega)⟩
end VL
namespace VL
open PySem PySem.Spec PyProof.Rows L2
namespace K14
def letters : Str := "abcdefghijklmnopqrstuvwxyz"
def signB (c : Nat) : Bool := c == 32 || (decide (97 ≤ c) && decide (c ≤ 122))
theorem sg_letters : sg letters = [97, 98, 99, 100, 101, 102, 103, 104, 105, 106, 107, 108, 109, 110, 111, 112, 113, 114, 115, 116, 117, 118, 119, 120, 121, 122] := by decide +kernel
theorem mem_letters (c : Nat) : c ∈ sg letters ↔ 97 ≤ c ∧ c ≤ 122 := by
  rw [sg_letters]
  simp only [List.mem_cons,List.not_mem_nil,or_false]
  omega
theorem sg_blank : sg " " = [32] := by decide +kernel
theorem sign_is {x : Str} {k : Nat} (hx : sg x = [k]) (c : Nat) : ((⟨#[c]⟩ : Str) = x) ↔ c = k := by
  constructor
  · intro h
    have : sg (⟨#[c]⟩ : Str) = sg x := by rw [h]
    rw [hx, sg_sign] at this
    injection this
  · intro h
    subst h
    exact sg_ext hx.symm
theorem sign_blank (c : Nat) : ((⟨#[c]⟩ : Str) = " ") ↔ c = 32 := sign_is sg_blank c
theorem isi_tuple (d : PyData) : isiF "tuple" d = some (.bool (match d with | .tuple _ => true | _ => false)) := by
  cases d <;> (show (kitB _ "tuple").map PyData.bool = _; rfl)
theorem signB_or (c : Nat) : (decide ((⟨#[c]⟩ : Str) = " ") || decide (c ∈ sg letters)) = signB c := by
  unfold signB
  simp only [sign_blank,mem_letters]
  by_cases h : c = 32
  · simp [h]
  · simp [h]
theorem orSign {S : Sl} {i : Nat} {c : Nat} (h : S[i]? = some (some (.v (.str ⟨#[c]⟩)))) : mOr (mBin eqDD (mVar i) (mC (.str " "))) (mBin inAD (mVar i) (mC (.str "abcdefghijklmnopqrstuvwxyz"))) S = some (.v (.bool (signB c)), S) := by
  have e1 : inAD (.str ⟨#[c]⟩) (.str "abcdefghijklmnopqrstuvwxyz") = some (.bool (decide (c ∈ sg letters))) := rfl
  rw [← signB_or]
  by_cases h1 : (⟨#[c]⟩ : Str) = " "
  · simp only [putM,mRaise2,defM,defMc,defMX,mExprX,mSetX2,mCallX,mValX,mRaise,mTryK,mIsE,mFld,mIsN,mEnumA,mNil,mSeq,mSeqC,mRetC,mIfS,mRet,mSet,mSetX,mPut,mApp,mFrz,mAug,mPar,setAll,mUnp,gSet,gTupM,gsCons,gsNil,tVal,tAndM,tOrM,tNotM,tYesM,mBin,mUn,mAnd,mOr,mNot,mIf,mChain,mVar,mC,mCall,mCallF,mCallC,argsOf,argOf,ptrs,putBack,aNil,aCons,mTup,mLst,mV,mTell,xLst,xsNil,xsCons,mLenS,mIxS,mDict1,oNone,oSome,mFor,mIt,mRng1,xLc,ownOk,wp,unwp,startS,ixD,atI,addD_int,addD_str,addD_list,addD_tuple,subD,mulD_l,mulD_r,fdivD_pos,modD_pos,ltD_int,leD_int,gtD_int,geD_int,eqD_int,neD_int,eqD_tupE,eqD_strs,neD_strs,isND,isNotND,intF,absF,lenF,joinF,negD,List.map,List.length_cons,List.length_nil,List.cons_append,List.nil_append,List.append_nil,List.replicate,List.getElem?_cons_zero,List.getElem?_cons_succ,List.set_cons_zero,List.set_cons_succ,putAt,SL.put,stables,derefs,stable,deref,heldAt,SL.held,CT.data,CT.app,Int.reduceLT,Int.reduceLE,Int.reduceNeg,Nat.reduceAdd,Nat.reduceLeDiff,and_self,true_and,and_true,ite_true,if_true,List.nodup_cons,List.nodup_nil,List.not_mem_nil,not_false_eq_true,Nat.succ_ne_zero,eq_self,Option.bind_some,Option.bind,Option.map,id,asOut,h,eqD_strs,decide_eq_true h1,Bool.true_or]
  · simp only [putM,mRaise2,defM,defMc,defMX,mExprX,mSetX2,mCallX,mValX,mRaise,mTryK,mIsE,mFld,mIsN,mEnumA,mNil,mSeq,mSeqC,mRetC,mIfS,mRet,mSet,mSetX,mPut,mApp,mFrz,mAug,mPar,setAll,mUnp,gSet,gTupM,gsCons,gsNil,tVal,tAndM,tOrM,tNotM,tYesM,mBin,mUn,mAnd,mOr,mNot,mIf,mChain,mVar,mC,mCall,mCallF,mCallC,argsOf,argOf,ptrs,putBack,aNil,aCons,mTup,mLst,mV,mTell,xLst,xsNil,xsCons,mLenS,mIxS,mDict1,oNone,oSome,mFor,mIt,mRng1,xLc,ownOk,wp,unwp,startS,ixD,atI,addD_int,addD_str,addD_list,addD_tuple,subD,mulD_l,mulD_r,fdivD_pos,modD_pos,ltD_int,leD_int,gtD_int,geD_int,eqD_int,neD_int,eqD_tupE,eqD_strs,neD_strs,isND,isNotND,intF,absF,lenF,joinF,negD,List.map,List.length_cons,List.length_nil,List.cons_append,List.nil_append,List.append_nil,List.replicate,List.getElem?_cons_zero,List.getElem?_cons_succ,List.set_cons_zero,List.set_cons_succ,putAt,SL.put,stables,derefs,stable,deref,heldAt,SL.held,CT.data,CT.app,Int.reduceLT,Int.reduceLE,Int.reduceNeg,Nat.reduceAdd,Nat.reduceLeDiff,and_self,true_and,and_true,ite_true,if_true,List.nodup_cons,List.nodup_nil,List.not_mem_nil,not_false_eq_true,Nat.succ_ne_zero,eq_self,Option.bind_some,Option.bind,Option.map,id,asOut,h,eqD_strs,decide_eq_false h1,Bool.false_or,e1]
def signP : PyData → Bool
  | .str y => signB (y.cps.getD 0 0)
  | _ => false
theorem signP_all (z : Str) : (signsD z).all signP = (sg z).all signB := signsD_all z signB signP fun c => rfl
theorem signsD_mem {z : Str} {d : PyData} (h : d ∈ signsD z) : ∃ c, c ∈ sg z ∧ d = .str ⟨#[c]⟩ := by
  obtain ⟨c, hc, rfl⟩ := List.mem_map.mp h
  exact ⟨c, hc, rfl⟩
def rowB : PyData → Bool
  | .str z => !decide (z = "") && (sg z).all signB
  | _ => false
def lenB : PyData → Nat
  | .str z => z.length
  | _ => 0
def pageB : PyData → Bool
  | .tuple [] => false
  | .tuple (x :: xs) => (x :: xs).all rowB && (x :: xs).all (fun y => decide (lenB y = lenB x))
  | _ => false
theorem rowB_str {d : PyData} (h : rowB d = true) : ∃ z, d = .str z := by
  cases d with
  | str z => exact ⟨z, rfl⟩
  | _ => cases h
theorem lenDec (a b : Nat) : (decide ((a : Int) = b)) = decide (a = b) := by
  by_cases q : a = b
  · rw [decide_eq_true q, decide_eq_true (by omega)]
  · rw [decide_eq_false q, decide_eq_false (by omega)]
theorem is_row_ok {D B : Nat} {d : PyData} (h : Fin D B d) (hB : B ≤ 200000) : F_is_row [.v d] = some (.bool (rowB d), [.v d]) := by
  cases d with
  | str z =>
    obtain ⟨oz, lz⟩ := h.of_str
    have eC : C2_is_row [some (.v (.str z)), none] = some (.c (.l (blist signP (signsD z))), [some (.v (.str z)), none]) := lcb signP rfl rfl (by rw [signsD_length]; omega) fun d hd => by
      obtain ⟨c, _, rfl⟩ := signsD_mem hd
      unfold E1_is_row
      exact orSign (i := 1) rfl
    by_cases he : z = ""
    · simp only [putM,mRaise2,defM,defMc,defMX,mExprX,mSetX2,mCallX,mValX,mRaise,mTryK,mIsE,mFld,mIsN,mEnumA,mNil,mSeq,mSeqC,mRetC,mIfS,mRet,mSet,mSetX,mPut,mApp,mFrz,mAug,mPar,setAll,mUnp,gSet,gTupM,gsCons,gsNil,tVal,tAndM,tOrM,tNotM,tYesM,mBin,mUn,mAnd,mOr,mNot,mIf,mChain,mVar,mC,mCall,mCallF,mCallC,argsOf,argOf,ptrs,putBack,aNil,aCons,mTup,mLst,mV,mTell,xLst,xsNil,xsCons,mLenS,mIxS,mDict1,oNone,oSome,mFor,mIt,mRng1,xLc,ownOk,wp,unwp,startS,ixD,atI,addD_int,addD_str,addD_list,addD_tuple,subD,mulD_l,mulD_r,fdivD_pos,modD_pos,ltD_int,leD_int,gtD_int,geD_int,eqD_int,neD_int,eqD_tupE,eqD_strs,neD_strs,isND,isNotND,intF,absF,lenF,joinF,negD,List.map,List.length_cons,List.length_nil,List.cons_append,List.nil_append,List.append_nil,List.replicate,List.getElem?_cons_zero,List.getElem?_cons_succ,List.set_cons_zero,List.set_cons_succ,putAt,SL.put,stables,derefs,stable,deref,heldAt,SL.held,CT.data,CT.app,Int.reduceLT,Int.reduceLE,Int.reduceNeg,Nat.reduceAdd,Nat.reduceLeDiff,and_self,true_and,and_true,ite_true,if_true,List.nodup_cons,List.nodup_nil,List.not_mem_nil,not_false_eq_true,Nat.succ_ne_zero,eq_self,Option.bind_some,Option.bind,Option.map,id,asOut,F_is_row,m_is_row,isi_str,neD_strs,decide_eq_true he,Bool.not_true,rowB,Bool.false_and]
    · simp only [putM,mRaise2,defM,defMc,defMX,mExprX,mSetX2,mCallX,mValX,mRaise,mTryK,mIsE,mFld,mIsN,mEnumA,mNil,mSeq,mSeqC,mRetC,mIfS,mRet,mSet,mSetX,mPut,mApp,mFrz,mAug,mPar,setAll,mUnp,gSet,gTupM,gsCons,gsNil,tVal,tAndM,tOrM,tNotM,tYesM,mBin,mUn,mAnd,mOr,mNot,mIf,mChain,mVar,mC,mCall,mCallF,mCallC,argsOf,argOf,ptrs,putBack,aNil,aCons,mTup,mLst,mV,mTell,xLst,xsNil,xsCons,mLenS,mIxS,mDict1,oNone,oSome,mFor,mIt,mRng1,xLc,ownOk,wp,unwp,startS,ixD,atI,addD_int,addD_str,addD_list,addD_tuple,subD,mulD_l,mulD_r,fdivD_pos,modD_pos,ltD_int,leD_int,gtD_int,geD_int,eqD_int,neD_int,eqD_tupE,eqD_strs,neD_strs,isND,isNotND,intF,absF,lenF,joinF,negD,List.map,List.length_cons,List.length_nil,List.cons_append,List.nil_append,List.append_nil,List.replicate,List.getElem?_cons_zero,List.getElem?_cons_succ,List.set_cons_zero,List.set_cons_succ,putAt,SL.put,stables,derefs,stable,deref,heldAt,SL.held,CT.data,CT.app,Int.reduceLT,Int.reduceLE,Int.reduceNeg,Nat.reduceAdd,Nat.reduceLeDiff,and_self,true_and,and_true,ite_true,if_true,List.nodup_cons,List.nodup_nil,List.not_mem_nil,not_false_eq_true,Nat.succ_ne_zero,eq_self,Option.bind_some,Option.bind,Option.map,id,asOut,F_is_row,m_is_row,isi_str,neD_strs,decide_eq_false he,Bool.not_false,rowB,Bool.true_and,eC,allF_blist,signP_all]
  | _ => simp only [putM,mRaise2,defM,defMc,defMX,mExprX,mSetX2,mCallX,mValX,mRaise,mTryK,mIsE,mFld,mIsN,mEnumA,mNil,mSeq,mSeqC,mRetC,mIfS,mRet,mSet,mSetX,mPut,mApp,mFrz,mAug,mPar,setAll,mUnp,gSet,gTupM,gsCons,gsNil,tVal,tAndM,tOrM,tNotM,tYesM,mBin,mUn,mAnd,mOr,mNot,mIf,mChain,mVar,mC,mCall,mCallF,mCallC,argsOf,argOf,ptrs,putBack,aNil,aCons,mTup,mLst,mV,mTell,xLst,xsNil,xsCons,mLenS,mIxS,mDict1,oNone,oSome,mFor,mIt,mRng1,xLc,ownOk,wp,unwp,startS,ixD,atI,addD_int,addD_str,addD_list,addD_tuple,subD,mulD_l,mulD_r,fdivD_pos,modD_pos,ltD_int,leD_int,gtD_int,geD_int,eqD_int,neD_int,eqD_tupE,eqD_strs,neD_strs,isND,isNotND,intF,absF,lenF,joinF,negD,List.map,List.length_cons,List.length_nil,List.cons_append,List.nil_append,List.append_nil,List.replicate,List.getElem?_cons_zero,List.getElem?_cons_succ,List.set_cons_zero,List.set_cons_succ,putAt,SL.put,stables,derefs,stable,deref,heldAt,SL.held,CT.data,CT.app,Int.reduceLT,Int.reduceLE,Int.reduceNeg,Nat.reduceAdd,Nat.reduceLeDiff,and_self,true_and,and_true,ite_true,if_true,List.nodup_cons,List.nodup_nil,List.not_mem_nil,not_false_eq_true,Nat.succ_ne_zero,eq_self,Option.bind_some,Option.bind,Option.map,id,asOut,F_is_row,m_is_row,isi_str,rowB]
theorem is_page_ok {D B : Nat} {d : PyData} (h : Fin D B d) (hB : B ≤ 200000) : F_is_page [.v d] = some (.bool (pageB d), [.v d]) := by
  cases d with
  | tuple xs =>
    have hx := FinA.of_tuple h
    have hl := hx.len
    cases xs with
    | nil => simp only [putM,mRaise2,defM,defMc,defMX,mExprX,mSetX2,mCallX,mValX,mRaise,mTryK,mIsE,mFld,mIsN,mEnumA,mNil,mSeq,mSeqC,mRetC,mIfS,mRet,mSet,mSetX,mPut,mApp,mFrz,mAug,mPar,setAll,mUnp,gSet,gTupM,gsCons,gsNil,tVal,tAndM,tOrM,tNotM,tYesM,mBin,mUn,mAnd,mOr,mNot,mIf,mChain,mVar,mC,mCall,mCallF,mCallC,argsOf,argOf,ptrs,putBack,aNil,aCons,mTup,mLst,mV,mTell,xLst,xsNil,xsCons,mLenS,mIxS,mDict1,oNone,oSome,mFor,mIt,mRng1,xLc,ownOk,wp,unwp,startS,ixD,atI,addD_int,addD_str,addD_list,addD_tuple,subD,mulD_l,mulD_r,fdivD_pos,modD_pos,ltD_int,leD_int,gtD_int,geD_int,eqD_int,neD_int,eqD_tupE,eqD_strs,neD_strs,isND,isNotND,intF,absF,lenF,joinF,negD,List.map,List.length_cons,List.length_nil,List.cons_append,List.nil_append,List.append_nil,List.replicate,List.getElem?_cons_zero,List.getElem?_cons_succ,List.set_cons_zero,List.set_cons_succ,putAt,SL.put,stables,derefs,stable,deref,heldAt,SL.held,CT.data,CT.app,Int.reduceLT,Int.reduceLE,Int.reduceNeg,Nat.reduceAdd,Nat.reduceLeDiff,and_self,true_and,and_true,ite_true,if_true,List.nodup_cons,List.nodup_nil,List.not_mem_nil,not_false_eq_true,Nat.succ_ne_zero,eq_self,Option.bind_some,Option.bind,Option.map,id,asOut,F_is_page,m_is_page,isi_tuple,Bool.not_true,List.isEmpty_nil,pageB]
    | cons x xs =>
      rw [List.length_cons] at hl
      have eC : C4_is_page [some (.v (.tuple (x :: xs))), none] = some (.c (.l (blist rowB (x :: xs))), [some (.v (.tuple (x :: xs))), none]) := lcb rowB rfl rfl (by rw [List.length_cons]; omega) fun d hd => by
        have e := is_row_ok (hx.mem d hd) hB
        show E3_is_page [some (.v (.tuple (x :: xs))), some (.v d)] = _
        simp only [putM,mRaise2,defM,defMc,defMX,mExprX,mSetX2,mCallX,mValX,mRaise,mTryK,mIsE,mFld,mIsN,mEnumA,mNil,mSeq,mSeqC,mRetC,mIfS,mRet,mSet,mSetX,mPut,mApp,mFrz,mAug,mPar,setAll,mUnp,gSet,gTupM,gsCons,gsNil,tVal,tAndM,tOrM,tNotM,tYesM,mBin,mUn,mAnd,mOr,mNot,mIf,mChain,mVar,mC,mCall,mCallF,mCallC,argsOf,argOf,ptrs,putBack,aNil,aCons,mTup,mLst,mV,mTell,xLst,xsNil,xsCons,mLenS,mIxS,mDict1,oNone,oSome,mFor,mIt,mRng1,xLc,ownOk,wp,unwp,startS,ixD,atI,addD_int,addD_str,addD_list,addD_tuple,subD,mulD_l,mulD_r,fdivD_pos,modD_pos,ltD_int,leD_int,gtD_int,geD_int,eqD_int,neD_int,eqD_tupE,eqD_strs,neD_strs,isND,isNotND,intF,absF,lenF,joinF,negD,List.map,List.length_cons,List.length_nil,List.cons_append,List.nil_append,List.append_nil,List.replicate,List.getElem?_cons_zero,List.getElem?_cons_succ,List.set_cons_zero,List.set_cons_succ,putAt,SL.put,stables,derefs,stable,deref,heldAt,SL.held,CT.data,CT.app,Int.reduceLT,Int.reduceLE,Int.reduceNeg,Nat.reduceAdd,Nat.reduceLeDiff,and_self,true_and,and_true,ite_true,if_true,List.nodup_cons,List.nodup_nil,List.not_mem_nil,not_false_eq_true,Nat.succ_ne_zero,eq_self,Option.bind_some,Option.bind,Option.map,id,asOut,E3_is_page,e]
      by_cases ha : (x :: xs).all rowB = true
      · have hrow : ∀ y ∈ x :: xs, ∃ z : Str, y = .str z ∧ z.length ≤ 100000 := fun y hy => by
          obtain ⟨z, rfl⟩ := rowB_str (List.all_eq_true.mp ha y hy)
          obtain ⟨_, q⟩ := (hx.mem _ hy).of_str
          exact ⟨z, rfl, by omega⟩
        obtain ⟨z0, rfl, lz0⟩ := hrow x List.mem_cons_self
        have eD : C2_is_page [some (.v (.tuple (.str z0 :: xs))), none] = some (.c (.l (blist (fun d => decide (lenB d = lenB (.str z0))) (.str z0 :: xs))), [some (.v (.tuple (.str z0 :: xs))), none]) := lcb (fun d => decide (lenB d = lenB (.str z0))) rfl rfl (by rw [List.length_cons]; omega) fun d hd => by
          obtain ⟨z, rfl, lz⟩ := hrow d hd
          show E1_is_page [some (.v (.tuple (.str z0 :: xs))), some (.v (.str z))] = _
          simp only [putM,mRaise2,defM,defMc,defMX,mExprX,mSetX2,mCallX,mValX,mRaise,mTryK,mIsE,mFld,mIsN,mEnumA,mNil,mSeq,mSeqC,mRetC,mIfS,mRet,mSet,mSetX,mPut,mApp,mFrz,mAug,mPar,setAll,mUnp,gSet,gTupM,gsCons,gsNil,tVal,tAndM,tOrM,tNotM,tYesM,mBin,mUn,mAnd,mOr,mNot,mIf,mChain,mVar,mC,mCall,mCallF,mCallC,argsOf,argOf,ptrs,putBack,aNil,aCons,mTup,mLst,mV,mTell,xLst,xsNil,xsCons,mLenS,mIxS,mDict1,oNone,oSome,mFor,mIt,mRng1,xLc,ownOk,wp,unwp,startS,ixD,atI,addD_int,addD_str,addD_list,addD_tuple,subD,mulD_l,mulD_r,fdivD_pos,modD_pos,ltD_int,leD_int,gtD_int,geD_int,eqD_int,neD_int,eqD_tupE,eqD_strs,neD_strs,isND,isNotND,intF,absF,lenF,joinF,negD,List.map,List.length_cons,List.length_nil,List.cons_append,List.nil_append,List.append_nil,List.replicate,List.getElem?_cons_zero,List.getElem?_cons_succ,List.set_cons_zero,List.set_cons_succ,putAt,SL.put,stables,derefs,stable,deref,heldAt,SL.held,CT.data,CT.app,Int.reduceLT,Int.reduceLE,Int.reduceNeg,Nat.reduceAdd,Nat.reduceLeDiff,and_self,true_and,and_true,ite_true,if_true,List.nodup_cons,List.nodup_nil,List.not_mem_nil,not_false_eq_true,Nat.succ_ne_zero,eq_self,Option.bind_some,Option.bind,Option.map,id,asOut,E1_is_page,lz,lz0,ix_0,lenDec,lenB]
          exact rfl
        have ep : pageB (.tuple (.str z0 :: xs)) = (true && (PyData.str z0 :: xs).all (fun y => decide (lenB y = lenB (.str z0)))) := by rw [← ha]; rfl
        rw [Bool.true_and] at ep
        rw [ep]
        simp only [putM,mRaise2,defM,defMc,defMX,mExprX,mSetX2,mCallX,mValX,mRaise,mTryK,mIsE,mFld,mIsN,mEnumA,mNil,mSeq,mSeqC,mRetC,mIfS,mRet,mSet,mSetX,mPut,mApp,mFrz,mAug,mPar,setAll,mUnp,gSet,gTupM,gsCons,gsNil,tVal,tAndM,tOrM,tNotM,tYesM,mBin,mUn,mAnd,mOr,mNot,mIf,mChain,mVar,mC,mCall,mCallF,mCallC,argsOf,argOf,ptrs,putBack,aNil,aCons,mTup,mLst,mV,mTell,xLst,xsNil,xsCons,mLenS,mIxS,mDict1,oNone,oSome,mFor,mIt,mRng1,xLc,ownOk,wp,unwp,startS,ixD,atI,addD_int,addD_str,addD_list,addD_tuple,subD,mulD_l,mulD_r,fdivD_pos,modD_pos,ltD_int,leD_int,gtD_int,geD_int,eqD_int,neD_int,eqD_tupE,eqD_strs,neD_strs,isND,isNotND,intF,absF,lenF,joinF,negD,List.map,List.length_cons,List.length_nil,List.cons_append,List.nil_append,List.append_nil,List.replicate,List.getElem?_cons_zero,List.getElem?_cons_succ,List.set_cons_zero,List.set_cons_succ,putAt,SL.put,stables,derefs,stable,deref,heldAt,SL.held,CT.data,CT.app,Int.reduceLT,Int.reduceLE,Int.reduceNeg,Nat.reduceAdd,Nat.reduceLeDiff,and_self,true_and,and_true,ite_true,if_true,List.nodup_cons,List.nodup_nil,List.not_mem_nil,not_false_eq_true,Nat.succ_ne_zero,eq_self,Option.bind_some,Option.bind,Option.map,id,asOut,F_is_page,m_is_page,isi_tuple,Bool.not_true,List.isEmpty_cons,eC,eD,allF_blist,ha]
      · have hf : (x :: xs).all rowB = false := by simpa using ha
        have ep : pageB (.tuple (x :: xs)) = (false && (x :: xs).all (fun y => decide (lenB y = lenB x))) := by rw [← hf]; rfl
        rw [Bool.false_and] at ep
        rw [ep]
        simp only [putM,mRaise2,defM,defMc,defMX,mExprX,mSetX2,mCallX,mValX,mRaise,mTryK,mIsE,mFld,mIsN,mEnumA,mNil,mSeq,mSeqC,mRetC,mIfS,mRet,mSet,mSetX,mPut,mApp,mFrz,mAug,mPar,setAll,mUnp,gSet,gTupM,gsCons,gsNil,tVal,tAndM,tOrM,tNotM,tYesM,mBin,mUn,mAnd,mOr,mNot,mIf,mChain,mVar,mC,mCall,mCallF,mCallC,argsOf,argOf,ptrs,putBack,aNil,aCons,mTup,mLst,mV,mTell,xLst,xsNil,xsCons,mLenS,mIxS,mDict1,oNone,oSome,mFor,mIt,mRng1,xLc,ownOk,wp,unwp,startS,ixD,atI,addD_int,addD_str,addD_list,addD_tuple,subD,mulD_l,mulD_r,fdivD_pos,modD_pos,ltD_int,leD_int,gtD_int,geD_int,eqD_int,neD_int,eqD_tupE,eqD_strs,neD_strs,isND,isNotND,intF,absF,lenF,joinF,negD,List.map,List.length_cons,List.length_nil,List.cons_append,List.nil_append,List.append_nil,List.replicate,List.getElem?_cons_zero,List.getElem?_cons_succ,List.set_cons_zero,List.set_cons_succ,putAt,SL.put,stables,derefs,stable,deref,heldAt,SL.held,CT.data,CT.app,Int.reduceLT,Int.reduceLE,Int.reduceNeg,Nat.reduceAdd,Nat.reduceLeDiff,and_self,true_and,and_true,ite_true,if_true,List.nodup_cons,List.nodup_nil,List.not_mem_nil,not_false_eq_true,Nat.succ_ne_zero,eq_self,Option.bind_some,Option.bind,Option.map,id,asOut,F_is_page,m_is_page,isi_tuple,Bool.not_true,List.isEmpty_cons,eC,allF_blist,hf,Bool.not_false]
  | _ => simp only [putM,mRaise2,defM,defMc,defMX,mExprX,mSetX2,mCallX,mValX,mRaise,mTryK,mIsE,mFld,mIsN,mEnumA,mNil,mSeq,mSeqC,mRetC,mIfS,mRet,mSet,mSetX,mPut,mApp,mFrz,mAug,mPar,setAll,mUnp,gSet,gTupM,gsCons,gsNil,tVal,tAndM,tOrM,tNotM,tYesM,mBin,mUn,mAnd,mOr,mNot,mIf,mChain,mVar,mC,mCall,mCallF,mCallC,argsOf,argOf,ptrs,putBack,aNil,aCons,mTup,mLst,mV,mTell,xLst,xsNil,xsCons,mLenS,mIxS,mDict1,oNone,oSome,mFor,mIt,mRng1,xLc,ownOk,wp,unwp,startS,ixD,atI,addD_int,addD_str,addD_list,addD_tuple,subD,mulD_l,mulD_r,fdivD_pos,modD_pos,ltD_int,leD_int,gtD_int,geD_int,eqD_int,neD_int,eqD_tupE,eqD_strs,neD_strs,isND,isNotND,intF,absF,lenF,joinF,negD,List.map,List.length_cons,List.length_nil,List.cons_append,List.nil_append,List.append_nil,List.replicate,List.getElem?_cons_zero,List.getElem?_cons_succ,List.set_cons_zero,List.set_cons_succ,putAt,SL.put,stables,derefs,stable,deref,heldAt,SL.held,CT.data,CT.app,Int.reduceLT,Int.reduceLE,Int.reduceNeg,Nat.reduceAdd,Nat.reduceLeDiff,and_self,true_and,and_true,ite_true,if_true,List.nodup_cons,List.nodup_nil,List.not_mem_nil,not_false_eq_true,Nat.succ_ne_zero,eq_self,Option.bind_some,Option.bind,Option.map,id,asOut,F_is_page,m_is_page,isi_tuple,Bool.not_false,Bool.not_true,pageB]
theorem check_ok {D B : Nat} {d : PyData} (h : Fin D B d) (hB : B ≤ 200000) : F_check_page [.v d] = some ((if pageB d = true then .val .none else .exc "BadPage" [("value", d)]), [.v d]) := by
  have e := is_page_ok h hB
  by_cases q : pageB d = true
  · rw [if_pos q]
    rw [q] at e
    simp only [putM,mRaise2,defM,defMc,defMX,mExprX,mSetX2,mCallX,mValX,mRaise,mTryK,mIsE,mFld,mIsN,mEnumA,mNil,mSeq,mSeqC,mRetC,mIfS,mRet,mSet,mSetX,mPut,mApp,mFrz,mAug,mPar,setAll,mUnp,gSet,gTupM,gsCons,gsNil,tVal,tAndM,tOrM,tNotM,tYesM,mBin,mUn,mAnd,mOr,mNot,mIf,mChain,mVar,mC,mCall,mCallF,mCallC,argsOf,argOf,ptrs,putBack,aNil,aCons,mTup,mLst,mV,mTell,xLst,xsNil,xsCons,mLenS,mIxS,mDict1,oNone,oSome,mFor,mIt,mRng1,xLc,ownOk,wp,unwp,startS,ixD,atI,addD_int,addD_str,addD_list,addD_tuple,subD,mulD_l,mulD_r,fdivD_pos,modD_pos,ltD_int,leD_int,gtD_int,geD_int,eqD_int,neD_int,eqD_tupE,eqD_strs,neD_strs,isND,isNotND,intF,absF,lenF,joinF,negD,List.map,List.length_cons,List.length_nil,List.cons_append,List.nil_append,List.append_nil,List.replicate,List.getElem?_cons_zero,List.getElem?_cons_succ,List.set_cons_zero,List.set_cons_succ,putAt,SL.put,stables,derefs,stable,deref,heldAt,SL.held,CT.data,CT.app,Int.reduceLT,Int.reduceLE,Int.reduceNeg,Nat.reduceAdd,Nat.reduceLeDiff,and_self,true_and,and_true,ite_true,if_true,List.nodup_cons,List.nodup_nil,List.not_mem_nil,not_false_eq_true,Nat.succ_ne_zero,eq_self,Option.bind_some,Option.bind,Option.map,id,asOut,F_check_page,m_check_page,e,Bool.not_true]
  · rw [if_neg q]
    rw [show pageB d = false by simpa using q] at e
    simp only [putM,mRaise2,defM,defMc,defMX,mExprX,mSetX2,mCallX,mValX,mRaise,mTryK,mIsE,mFld,mIsN,mEnumA,mNil,mSeq,mSeqC,mRetC,mIfS,mRet,mSet,mSetX,mPut,mApp,mFrz,mAug,mPar,setAll,mUnp,gSet,gTupM,gsCons,gsNil,tVal,tAndM,tOrM,tNotM,tYesM,mBin,mUn,mAnd,mOr,mNot,mIf,mChain,mVar,mC,mCall,mCallF,mCallC,argsOf,argOf,ptrs,putBack,aNil,aCons,mTup,mLst,mV,mTell,xLst,xsNil,xsCons,mLenS,mIxS,mDict1,oNone,oSome,mFor,mIt,mRng1,xLc,ownOk,wp,unwp,startS,ixD,atI,addD_int,addD_str,addD_list,addD_tuple,subD,mulD_l,mulD_r,fdivD_pos,modD_pos,ltD_int,leD_int,gtD_int,geD_int,eqD_int,neD_int,eqD_tupE,eqD_strs,neD_strs,isND,isNotND,intF,absF,lenF,joinF,negD,List.map,List.length_cons,List.length_nil,List.cons_append,List.nil_append,List.append_nil,List.replicate,List.getElem?_cons_zero,List.getElem?_cons_succ,List.set_cons_zero,List.set_cons_succ,putAt,SL.put,stables,derefs,stable,deref,heldAt,SL.held,CT.data,CT.app,Int.reduceLT,Int.reduceLE,Int.reduceNeg,Nat.reduceAdd,Nat.reduceLeDiff,and_self,true_and,and_true,ite_true,if_true,List.nodup_cons,List.nodup_nil,List.not_mem_nil,not_false_eq_true,Nat.succ_ne_zero,eq_self,Option.bind_some,Option.bind,Option.map,id,asOut,F_check_page,m_check_page,e,Bool.not_false]
end K14
namespace K14
def rwL : List (List Nat) → Nat → List (List Nat × Nat)
  | [], _ => []
  | x :: xs, p => (if x = [] then [] else [(x, p)]) ++ rwL xs (p + x.length + 1)
theorem pre32 (c : Nat) (r : List Nat) : TL.pre [32] (c :: r) = decide (c = 32) := by
  unfold TL.pre
  simp only [List.length_cons,List.length_nil,List.take_succ_cons,List.take_zero]
  by_cases h : c = 32
  · subst h; rfl
  · rw [decide_eq_false h]
    simp [h]
theorem spl_len : ∀ (cs cur : List Nat), (TL.spl [32] 0 cur cs).length ≤ cs.length + 1
  | [], cur => by rw [TL.spl_nil]; exact Nat.le_refl _
  | c :: cs, cur => by
    by_cases h : c = 32
    · rw [TL.spl_hit (by rw [pre32, decide_eq_true h]), List.length_cons, List.length_cons]
      exact Nat.succ_le_succ (spl_len cs [])
    · rw [TL.spl_miss (by rw [pre32, decide_eq_false h]), List.length_cons]
      exact Nat.le_succ_of_le (spl_len cs _)
theorem spl_mem : ∀ (cs cur : List Nat) (l : List Nat), l ∈ TL.spl [32] 0 cur cs → l.length ≤ cur.length + cs.length ∧ ∀ c ∈ l, c ∈ cur ∨ c ∈ cs
  | [], cur, l, h => by
    rw [TL.spl_nil, List.mem_singleton] at h
    subst h
    exact ⟨Nat.le_refl _, fun c hc => .inl hc⟩
  | c :: cs, cur, l, h => by
    by_cases q : c = 32
    · rw [TL.spl_hit (by rw [pre32, decide_eq_true q])] at h
      rcases List.mem_cons.mp h with rfl | h
      · exact ⟨Nat.le_add_right _ _, fun c hc => .inl hc⟩
      · obtain ⟨h1, h2⟩ := spl_mem cs [] l h
        exact ⟨by rw [List.length_cons]; rw [List.length_nil] at h1; omega, fun d hd => .inr (List.mem_cons_of_mem _ ((h2 d hd).resolve_left (by simp)))⟩
    · rw [TL.spl_miss (by rw [pre32, decide_eq_false q])] at h
      obtain ⟨h1, h2⟩ := spl_mem cs (cur ++ [c]) l h
      refine ⟨by rw [List.length_append, List.length_singleton] at h1; rw [List.length_cons]; omega, fun d hd => ?_⟩
      rcases h2 d hd with z | z
      · rcases List.mem_append.mp z with z | z
        · exact .inl z
        · rw [List.mem_singleton.mp z]
          exact .inr List.mem_cons_self
      · exact .inr (List.mem_cons_of_mem _ z)
theorem rwL_len : ∀ (xs : List (List Nat)) (p : Nat), (rwL xs p).length ≤ xs.length
  | [], _ => Nat.le_refl _
  | x :: xs, p => by
    unfold rwL
    rw [List.length_append, List.length_cons]
    have := rwL_len xs (p + x.length + 1)
    split
    · rw [List.length_nil]; omega
    · rw [List.length_singleton]; omega
theorem rwL_mem : ∀ (xs : List (List Nat)) (p : Nat) (w : List Nat) (q : Nat), (w, q) ∈ rwL xs p → w ∈ xs ∧ q ≤ p + (xs.map fun x => x.length + 1).sum
  | [], _, w, q, h => by cases h
  | x :: xs, p, w, q, h => by
    unfold rwL at h
    rw [List.map_cons, List.sum_cons]
    rcases List.mem_append.mp h with h | h
    · split at h
      · cases h
      · rw [List.mem_singleton] at h
        cases h
        exact ⟨List.mem_cons_self, Nat.le_add_right _ _⟩
    · obtain ⟨h1, h2⟩ := rwL_mem xs _ w q h
      exact ⟨List.mem_cons_of_mem _ h1, by omega⟩
def ent2 (e : List Nat × Nat) : PyData := .tuple [.str (txt e.1), .int (e.2 : Nat)]
theorem split_blank (z : Str) : Txt.split z " " = (TL.spl [32] 0 [] (sg z)).map txt := by
  refine TL.map_tl_inj ?_
  have e : ((TL.spl [32] 0 [] (sg z)).map txt).map TL.tl = TL.spl [32] 0 [] (sg z) := by
    rw [List.map_map]
    exact List.map_id _
  rw [e]
  have hb : TL.tl (" " : Str) = [32] := sg_blank
  have := TL.split_spl z " " (by rw [hb]; simp) (TL.kind_ok (by decide +kernel))
  rw [hb] at this
  exact this
def rowW (z : Str) : List (List Nat × Nat) := rwL (TL.spl [32] 0 [] (sg z)) 0
theorem row_words_ok {z : Str} (hz : z.length ≤ 1000) : F_row_words [.v (.str z)] = some (.list ((rowW z).map ent2), [.v (.str z)]) := by
  have key : ∃ x as', F_row_words [.v (.str z)] = some (x, as') ∧ x = .list ((rowW z).map ent2) ∧ as' = [.v (.str z)] := by
    refine run_def (P := fun x as' => x = .list ((rowW z).map ent2) ∧ as' = [.v (.str z)]) ?_
    have hl := spl_len (sg z) []
    rw [← len_sg] at hl
    generalize hp : TL.spl [32] 0 [] (sg z) = parts at *
    have hm : ∀ l ∈ parts, l.length ≤ 1000 := fun l h => by
      rw [← hp] at h
      have := (spl_mem (sg z) [] l h).1
      rw [List.length_nil, ← len_sg] at this
      omega
    have eW : rowW z = rwL parts 0 := by unfold rowW; rw [hp]
    have sp : splitF z (.str " ") = some (.list (parts.map fun l => .str (txt l))) := by
      have e0 : splitF z (.str " ") = some (.list ((Txt.split z " ").map .str)) := if_pos ⟨by decide +kernel, by omega⟩
      rw [e0, split_blank, hp, List.map_map]
      rfl
    apply run_seq
    apply run_eq
    · simp only [putM,mRaise2,defM,defMc,defMX,mExprX,mSetX2,mCallX,mValX,mRaise,mTryK,mIsE,mFld,mIsN,mEnumA,mNil,mSeq,mSeqC,mRetC,mIfS,mRet,mSet,mSetX,mPut,mApp,mFrz,mAug,mPar,setAll,mUnp,gSet,gTupM,gsCons,gsNil,tVal,tAndM,tOrM,tNotM,tYesM,mBin,mUn,mAnd,mOr,mNot,mIf,mChain,mVar,mC,mCall,mCallF,mCallC,argsOf,argOf,ptrs,putBack,aNil,aCons,mTup,mLst,mV,mTell,xLst,xsNil,xsCons,mLenS,mIxS,mDict1,oNone,oSome,mFor,mIt,mRng1,xLc,ownOk,wp,unwp,startS,ixD,atI,addD_int,addD_str,addD_list,addD_tuple,subD,mulD_l,mulD_r,fdivD_pos,modD_pos,ltD_int,leD_int,gtD_int,geD_int,eqD_int,neD_int,eqD_tupE,eqD_strs,neD_strs,isND,isNotND,intF,absF,lenF,joinF,negD,List.map,List.length_cons,List.length_nil,List.cons_append,List.nil_append,List.append_nil,List.replicate,List.getElem?_cons_zero,List.getElem?_cons_succ,List.set_cons_zero,List.set_cons_succ,putAt,SL.put,stables,derefs,stable,deref,heldAt,SL.held,CT.data,CT.app,Int.reduceLT,Int.reduceLE,Int.reduceNeg,Nat.reduceAdd,Nat.reduceLeDiff,and_self,true_and,and_true,ite_true,if_true,List.nodup_cons,List.nodup_nil,List.not_mem_nil,not_false_eq_true,Nat.succ_ne_zero,eq_self,Option.bind_some,Option.bind,Option.map,id,asOut]
      exact rfl
    show Run _ _
    apply run_seq
    refine run_for (ds := parts.map fun l => .str (txt l)) (S1 := [some (.v (.str z)), some (.c (.l [])), some (.v (.int 0)), none]) (fun j S => ∃ (acc : List (List Nat × Nat)) (p : Nat) (t3 : Option SL), S = [some (.v (.str z)), some (.c (.l (acc.map ent2))), some (.v (.int (p : Nat))), t3] ∧ acc ++ rwL (parts.drop j) p = rwL parts 0 ∧ acc.length ≤ j) ?_ ⟨[], 0, none, rfl, rfl, Nat.le_refl _⟩ ?_ ?_
    · simp only [putM,mRaise2,defM,defMc,defMX,mExprX,mSetX2,mCallX,mValX,mRaise,mTryK,mIsE,mFld,mIsN,mEnumA,mNil,mSeq,mSeqC,mRetC,mIfS,mRet,mSet,mSetX,mPut,mApp,mFrz,mAug,mPar,setAll,mUnp,gSet,gTupM,gsCons,gsNil,tVal,tAndM,tOrM,tNotM,tYesM,mBin,mUn,mAnd,mOr,mNot,mIf,mChain,mVar,mC,mCall,mCallF,mCallC,argsOf,argOf,ptrs,putBack,aNil,aCons,mTup,mLst,mV,mTell,xLst,xsNil,xsCons,mLenS,mIxS,mDict1,oNone,oSome,mFor,mIt,mRng1,xLc,ownOk,wp,unwp,startS,ixD,atI,addD_int,addD_str,addD_list,addD_tuple,subD,mulD_l,mulD_r,fdivD_pos,modD_pos,ltD_int,leD_int,gtD_int,geD_int,eqD_int,neD_int,eqD_tupE,eqD_strs,neD_strs,isND,isNotND,intF,absF,lenF,joinF,negD,List.map,List.length_cons,List.length_nil,List.cons_append,List.nil_append,List.append_nil,List.replicate,List.getElem?_cons_zero,List.getElem?_cons_succ,List.set_cons_zero,List.set_cons_succ,putAt,SL.put,stables,derefs,stable,deref,heldAt,SL.held,CT.data,CT.app,Int.reduceLT,Int.reduceLE,Int.reduceNeg,Nat.reduceAdd,Nat.reduceLeDiff,and_self,true_and,and_true,ite_true,if_true,List.nodup_cons,List.nodup_nil,List.not_mem_nil,not_false_eq_true,Nat.succ_ne_zero,eq_self,Option.bind_some,Option.bind,Option.map,id,asOut,onStr,sp]
    · rintro j d S hd ⟨acc, p, t3, rfl, ha, hj⟩
      rw [List.getElem?_map] at hd
      obtain ⟨x, hx, rfl⟩ := Option.map_eq_some_iff.mp hd
      have hlt := (List.getElem?_eq_some_iff.mp hx).1
      have hx1 : x.length ≤ 1000 := hm x (List.mem_of_getElem? hx)
      have hdr : parts.drop j = x :: parts.drop (j + 1) := by
        rw [List.drop_eq_getElem_cons hlt]
        congr 1
        exact (List.getElem?_eq_some_iff.mp hx).2
      rw [hdr] at ha
      have ha : acc ++ ((if x = [] then [] else [(x, p)]) ++ rwL (parts.drop (j + 1)) (p + x.length + 1)) = rwL parts 0 := ha
      have l5 : x.length ≤ 100000 := by omega
      have ia : iaddD (.int (p : Nat)) (.int ((x.length : Int) + 1)) = some (.int ((p + x.length + 1 : Nat) : Int)) := by
        show some (PyData.int ((p : Int) + ((x.length : Int) + 1))) = _
        rw [show ((p : Int) + ((x.length : Int) + 1)) = ((p + x.length + 1 : Nat) : Int) by omega]
      refine ⟨_, rfl, ?_⟩
      by_cases q : x = []
      · apply run_eq
        · simp only [putM,mRaise2,defM,defMc,defMX,mExprX,mSetX2,mCallX,mValX,mRaise,mTryK,mIsE,mFld,mIsN,mEnumA,mNil,mSeq,mSeqC,mRetC,mIfS,mRet,mSet,mSetX,mPut,mApp,mFrz,mAug,mPar,setAll,mUnp,gSet,gTupM,gsCons,gsNil,tVal,tAndM,tOrM,tNotM,tYesM,mBin,mUn,mAnd,mOr,mNot,mIf,mChain,mVar,mC,mCall,mCallF,mCallC,argsOf,argOf,ptrs,putBack,aNil,aCons,mTup,mLst,mV,mTell,xLst,xsNil,xsCons,mLenS,mIxS,mDict1,oNone,oSome,mFor,mIt,mRng1,xLc,ownOk,wp,unwp,startS,ixD,atI,addD_int,addD_str,addD_list,addD_tuple,subD,mulD_l,mulD_r,fdivD_pos,modD_pos,ltD_int,leD_int,gtD_int,geD_int,eqD_int,neD_int,eqD_tupE,eqD_strs,neD_strs,isND,isNotND,intF,absF,lenF,joinF,negD,List.map,List.length_cons,List.length_nil,List.cons_append,List.nil_append,List.append_nil,List.replicate,List.getElem?_cons_zero,List.getElem?_cons_succ,List.set_cons_zero,List.set_cons_succ,putAt,SL.put,stables,derefs,stable,deref,heldAt,SL.held,CT.data,CT.app,Int.reduceLT,Int.reduceLE,Int.reduceNeg,Nat.reduceAdd,Nat.reduceLeDiff,and_self,true_and,and_true,ite_true,if_true,List.nodup_cons,List.nodup_nil,List.not_mem_nil,not_false_eq_true,Nat.succ_ne_zero,eq_self,Option.bind_some,Option.bind,Option.map,id,asOut,B1_row_words,neD_strs,txt_nil,decide_eq_true q,Bool.not_true,txt_len,l5,ia]
          exact rfl
        refine ⟨.inl rfl, acc, p + x.length + 1, _, rfl, ?_, by omega⟩
        rw [if_pos q, List.nil_append] at ha
        exact ha
      · have hla : (acc.map ent2).length < 100000 := by
          rw [List.length_map]
          omega
        apply run_eq
        · simp only [putM,mRaise2,defM,defMc,defMX,mExprX,mSetX2,mCallX,mValX,mRaise,mTryK,mIsE,mFld,mIsN,mEnumA,mNil,mSeq,mSeqC,mRetC,mIfS,mRet,mSet,mSetX,mPut,mApp,mFrz,mAug,mPar,setAll,mUnp,gSet,gTupM,gsCons,gsNil,tVal,tAndM,tOrM,tNotM,tYesM,mBin,mUn,mAnd,mOr,mNot,mIf,mChain,mVar,mC,mCall,mCallF,mCallC,argsOf,argOf,ptrs,putBack,aNil,aCons,mTup,mLst,mV,mTell,xLst,xsNil,xsCons,mLenS,mIxS,mDict1,oNone,oSome,mFor,mIt,mRng1,xLc,ownOk,wp,unwp,startS,ixD,atI,addD_int,addD_str,addD_list,addD_tuple,subD,mulD_l,mulD_r,fdivD_pos,modD_pos,ltD_int,leD_int,gtD_int,geD_int,eqD_int,neD_int,eqD_tupE,eqD_strs,neD_strs,isND,isNotND,intF,absF,lenF,joinF,negD,List.map,List.length_cons,List.length_nil,List.cons_append,List.nil_append,List.append_nil,List.replicate,List.getElem?_cons_zero,List.getElem?_cons_succ,List.set_cons_zero,List.set_cons_succ,putAt,SL.put,stables,derefs,stable,deref,heldAt,SL.held,CT.data,CT.app,Int.reduceLT,Int.reduceLE,Int.reduceNeg,Nat.reduceAdd,Nat.reduceLeDiff,and_self,true_and,and_true,ite_true,if_true,List.nodup_cons,List.nodup_nil,List.not_mem_nil,not_false_eq_true,Nat.succ_ne_zero,eq_self,Option.bind_some,Option.bind,Option.map,id,asOut,B1_row_words,neD_strs,txt_nil,decide_eq_false q,Bool.not_false,txt_len,l5,ia,hla]
          exact rfl
        refine ⟨.inl rfl, acc ++ [(x, p)], p + x.length + 1, _, by rw [List.map_append] <;> rfl, ?_, by rw [List.length_append, List.length_singleton]; omega⟩
        rw [if_neg q] at ha
        rw [List.append_assoc]
        exact ha
    · rintro S ⟨acc, p, t3, rfl, ha, hj⟩
      rw [List.length_map, List.drop_length] at ha
      have ha : acc ++ [] = rwL parts 0 := ha
      rw [List.append_nil] at ha
      show Run _ _
      apply run_eq
      · simp only [putM,mRaise2,defM,defMc,defMX,mExprX,mSetX2,mCallX,mValX,mRaise,mTryK,mIsE,mFld,mIsN,mEnumA,mNil,mSeq,mSeqC,mRetC,mIfS,mRet,mSet,mSetX,mPut,mApp,mFrz,mAug,mPar,setAll,mUnp,gSet,gTupM,gsCons,gsNil,tVal,tAndM,tOrM,tNotM,tYesM,mBin,mUn,mAnd,mOr,mNot,mIf,mChain,mVar,mC,mCall,mCallF,mCallC,argsOf,argOf,ptrs,putBack,aNil,aCons,mTup,mLst,mV,mTell,xLst,xsNil,xsCons,mLenS,mIxS,mDict1,oNone,oSome,mFor,mIt,mRng1,xLc,ownOk,wp,unwp,startS,ixD,atI,addD_int,addD_str,addD_list,addD_tuple,subD,mulD_l,mulD_r,fdivD_pos,modD_pos,ltD_int,leD_int,gtD_int,geD_int,eqD_int,neD_int,eqD_tupE,eqD_strs,neD_strs,isND,isNotND,intF,absF,lenF,joinF,negD,List.map,List.length_cons,List.length_nil,List.cons_append,List.nil_append,List.append_nil,List.replicate,List.getElem?_cons_zero,List.getElem?_cons_succ,List.set_cons_zero,List.set_cons_succ,putAt,SL.put,stables,derefs,stable,deref,heldAt,SL.held,CT.data,CT.app,Int.reduceLT,Int.reduceLE,Int.reduceNeg,Nat.reduceAdd,Nat.reduceLeDiff,and_self,true_and,and_true,ite_true,if_true,List.nodup_cons,List.nodup_nil,List.not_mem_nil,not_false_eq_true,Nat.succ_ne_zero,eq_self,Option.bind_some,Option.bind,Option.map,id,asOut]
        exact rfl
      refine ⟨_, _, rfl, rfl, ?_, rfl⟩
      rw [eW, ha]
  obtain ⟨x, as', e, rfl, rfl⟩ := key
  exact e
theorem lc2Go_all {g g1 : MG} {mt mt1 : MT} {mi1 : MI} {me : ME} {vs vs1 : List Nat} (I : Nat → Sl → List PyData → Prop) : ∀ (ds : List PyData) (i : Nat) (T : Sl) (acc : List PyData), I i T acc →
    (∀ (j : Nat) (d : PyData) (T : Sl) (acc : List PyData), ds[j]? = some d → I (i + j) T acc → ∃ T1 T2 T3 T4 ds1 acc', g d T = some T1 ∧ mt T1 = some (true, T2) ∧ mi1 T2 = some (ds1, T3) ∧ lcGo g1 mt1 me vs1 ds1 (wp T3 vs1) acc = some (acc', T4) ∧ I (i + j + 1) (wp T4 vs) acc') →
    ∃ acc' T', lc2Go g mt mi1 g1 mt1 me vs vs1 ds T acc = some (acc', T') ∧ I (i + ds.length) T' acc'
  | [], i, T, acc, h, _ => ⟨acc, T, rfl, h⟩
  | d :: ds, i, T, acc, h, hs => by
    obtain ⟨T1, T2, T3, T4, ds1, acc', e1, e2, e3, e4, h'⟩ := hs 0 d T acc rfl h
    obtain ⟨acc2, T', e5, h2⟩ := lc2Go_all I ds (i + 1) (wp T4 vs) acc' h' fun j d T acc hd hI => by
      have := hs (j + 1) d T acc (by simpa using hd) (by rw [show i + (j + 1) = i + 1 + j by omega]; exact hI)
      rw [show i + (j + 1) + 1 = i + 1 + j + 1 by omega] at this
      exact this
    refine ⟨acc2, T', ?_, by rw [List.length_cons, show i + (ds.length + 1) = i + 1 + ds.length by omega]; exact h2⟩
    unfold lc2Go
    simp only [e1,e2,e3,e4]
    exact e5
def ent3 (r : Nat) (e : List Nat × Nat) : PyData := .tuple [.str (txt e.1), .int (r : Nat), .int (e.2 : Nat)]
def f3 (r : Nat) : PyData → PyData
  | .tuple [w, p] => .tuple [w, .int (r : Nat), p]
  | _ => .none
def wordsA : List Str → Nat → List PyData
  | [], _ => []
  | z :: zs, r => (rowW z).map (ent3 r) ++ wordsA zs (r + 1)
theorem rowW_len {z : Str} : (rowW z).length ≤ z.length + 1 := by
  unfold rowW
  have h1 := rwL_len (TL.spl [32] 0 [] (sg z)) 0
  have h2 := spl_len (sg z) []
  rw [← len_sg] at h2
  omega
theorem drop_next {α : Type} {l : List α} {j : Nat} {x : α} (hx : l[j]? = some x) : l.drop j = x :: l.drop (j + 1) := by
  have hlt := (List.getElem?_eq_some_iff.mp hx).1
  rw [List.drop_eq_getElem_cons hlt]
  congr 1
  exact (List.getElem?_eq_some_iff.mp hx).2
theorem words_of_page_ok {rs : List Str} (hr : rs.length ≤ 30) (hz : ∀ z ∈ rs, z.length ≤ 1000) : F_words_of_page [.v (.tuple (rs.map .str))] = some (.list (wordsA rs 0), [.v (.tuple (rs.map .str))]) := by
  have key : ∃ x as', F_words_of_page [.v (.tuple (rs.map .str))] = some (x, as') ∧ x = .list (wordsA rs 0) ∧ as' = [.v (.tuple (rs.map .str))] := by
    refine run_def (P := fun x as' => x = .list (wordsA rs 0) ∧ as' = [.v (.tuple (rs.map .str))]) ?_
    apply run_one
    apply run_ret
    apply run_tell
    generalize hS : [some (SL.v (.tuple (rs.map .str))), none, none, none, none] = T0
    obtain ⟨acc, T', e, hT, ha, _⟩ := lc2Go_all (g := gTupM 2 (gsCons (gSet 1) (gsCons (gSet 2) (gsNil)))) (g1 := gTupM 2 (gsCons (gSet 3) (gsCons (gSet 4) (gsNil)))) (mt := tYesM) (mt1 := tYesM) (mi1 := mIt (mCallF 1 F_row_words (aCons (mVar 2) (aNil)))) (me := mTup (aCons (mVar 3) (aCons (mVar 1) (aCons (mVar 4) (aNil))))) (vs := [1, 2, 3, 4]) (vs1 := [3, 4])
      (fun j T acc => T = T0 ∧ acc ++ wordsA (rs.drop j) j = wordsA rs 0 ∧ acc.length ≤ j * 1001) (enumD (rs.map .str)) 0 T0 [] ⟨rfl, rfl, by simp⟩ (by
        rintro j d T acc hd ⟨rfl, ha, hj⟩
        rw [Nat.zero_add] at ha hj
        unfold enumD at hd
        rw [List.getElem?_mapIdx, List.getElem?_map] at hd
        cases hx : rs[j]? with
        | none => rw [hx] at hd; cases hd
        | some z =>
          rw [hx] at hd
          cases hd
          have hlt := (List.getElem?_eq_some_iff.mp hx).1
          have hz1 := hz z (List.mem_of_getElem? hx)
          have er := row_words_ok hz1
          have hl := rowW_len (z := z)
          rw [drop_next hx] at ha
          have ha : acc ++ ((rowW z).map (ent3 j) ++ wordsA (rs.drop (j + 1)) (j + 1)) = wordsA rs 0 := ha
          subst hS
          refine ⟨[some (.v (.tuple (rs.map .str))), some (.v (.int (j : Nat))), some (.v (.str z)), none, none], _, [some (.v (.tuple (rs.map .str))), some (.v (.int (j : Nat))), some (.v (.str z)), none, none], _, (rowW z).map ent2, _, rfl, rfl, ?_, lcGo_map (f3 j) _ acc (by rw [List.length_map]; omega) (fun y hy => ?_), rfl, ?_, ?_⟩
          · simp only [putM,mRaise2,defM,defMc,defMX,mExprX,mSetX2,mCallX,mValX,mRaise,mTryK,mIsE,mFld,mIsN,mEnumA,mNil,mSeq,mSeqC,mRetC,mIfS,mRet,mSet,mSetX,mPut,mApp,mFrz,mAug,mPar,setAll,mUnp,gSet,gTupM,gsCons,gsNil,tVal,tAndM,tOrM,tNotM,tYesM,mBin,mUn,mAnd,mOr,mNot,mIf,mChain,mVar,mC,mCall,mCallF,mCallC,argsOf,argOf,ptrs,putBack,aNil,aCons,mTup,mLst,mV,mTell,xLst,xsNil,xsCons,mLenS,mIxS,mDict1,oNone,oSome,mFor,mIt,mRng1,xLc,ownOk,wp,unwp,startS,ixD,atI,addD_int,addD_str,addD_list,addD_tuple,subD,mulD_l,mulD_r,fdivD_pos,modD_pos,ltD_int,leD_int,gtD_int,geD_int,eqD_int,neD_int,eqD_tupE,eqD_strs,neD_strs,isND,isNotND,intF,absF,lenF,joinF,negD,List.map,List.length_cons,List.length_nil,List.cons_append,List.nil_append,List.append_nil,List.replicate,List.getElem?_cons_zero,List.getElem?_cons_succ,List.set_cons_zero,List.set_cons_succ,putAt,SL.put,stables,derefs,stable,deref,heldAt,SL.held,CT.data,CT.app,Int.reduceLT,Int.reduceLE,Int.reduceNeg,Nat.reduceAdd,Nat.reduceLeDiff,and_self,true_and,and_true,ite_true,if_true,List.nodup_cons,List.nodup_nil,List.not_mem_nil,not_false_eq_true,Nat.succ_ne_zero,eq_self,Option.bind_some,Option.bind,Option.map,id,asOut,er]
          · obtain ⟨⟨w, p⟩, hw, rfl⟩ := List.mem_map.mp hy
            refine ⟨[some (.v (.tuple (rs.map .str))), some (.v (.int (j : Nat))), some (.v (.str z)), some (.v (.str (txt w))), some (.v (.int (p : Nat)))], _, [some (.v (.tuple (rs.map .str))), some (.v (.int (j : Nat))), some (.v (.str z)), some (.v (.str (txt w))), some (.v (.int (p : Nat)))], rfl, rfl, ?_, rfl⟩
            simp only [putM,mRaise2,defM,defMc,defMX,mExprX,mSetX2,mCallX,mValX,mRaise,mTryK,mIsE,mFld,mIsN,mEnumA,mNil,mSeq,mSeqC,mRetC,mIfS,mRet,mSet,mSetX,mPut,mApp,mFrz,mAug,mPar,setAll,mUnp,gSet,gTupM,gsCons,gsNil,tVal,tAndM,tOrM,tNotM,tYesM,mBin,mUn,mAnd,mOr,mNot,mIf,mChain,mVar,mC,mCall,mCallF,mCallC,argsOf,argOf,ptrs,putBack,aNil,aCons,mTup,mLst,mV,mTell,xLst,xsNil,xsCons,mLenS,mIxS,mDict1,oNone,oSome,mFor,mIt,mRng1,xLc,ownOk,wp,unwp,startS,ixD,atI,addD_int,addD_str,addD_list,addD_tuple,subD,mulD_l,mulD_r,fdivD_pos,modD_pos,ltD_int,leD_int,gtD_int,geD_int,eqD_int,neD_int,eqD_tupE,eqD_strs,neD_strs,isND,isNotND,intF,absF,lenF,joinF,negD,List.map,List.length_cons,List.length_nil,List.cons_append,List.nil_append,List.append_nil,List.replicate,List.getElem?_cons_zero,List.getElem?_cons_succ,List.set_cons_zero,List.set_cons_succ,putAt,SL.put,stables,derefs,stable,deref,heldAt,SL.held,CT.data,CT.app,Int.reduceLT,Int.reduceLE,Int.reduceNeg,Nat.reduceAdd,Nat.reduceLeDiff,and_self,true_and,and_true,ite_true,if_true,List.nodup_cons,List.nodup_nil,List.not_mem_nil,not_false_eq_true,Nat.succ_ne_zero,eq_self,Option.bind_some,Option.bind,Option.map,id,asOut]
            exact rfl
          · rw [Nat.zero_add, List.map_map, List.append_assoc]
            exact ha
          · rw [Nat.zero_add, List.length_append, List.length_map, List.length_map]
            omega)
    have hT : T' = T0 := hT
    rw [Nat.zero_add, show (enumD (rs.map PyData.str)).length = rs.length by unfold enumD; rw [List.length_mapIdx, List.length_map], List.drop_length] at ha
    have ha : acc ++ [] = wordsA rs 0 := ha
    rw [List.append_nil] at ha
    rw [ha, hT] at e
    subst hS
    refine ⟨.c (.l (wordsA rs 0)), [some (SL.v (.tuple (rs.map .str))), none, none, none, none], ?_, .inr ⟨wordsA rs 0, rfl, _, rfl, _, _, rfl, rfl, rfl, rfl⟩⟩
    exact (congrArg (fun o : Option (List PyData × Sl) => match o with
      | some (acc, T) => some (SL.c (.l acc), unwp [some (SL.v (.tuple (rs.map .str))), none, none, none, none] T [1, 2, 3, 4])
      | none => none) e)
  obtain ⟨x, as', e, rfl, rfl⟩ := key
  exact e
end K14
namespace K14
theorem PageOk.page {h w : Nat} {rs : List Str} (P : PageOk h w rs) : pageB (.tuple (rs.map .str)) = true := by
  obtain ⟨k, hk0, hk, hz⟩ := P.wide
  have row : ∀ z ∈ rs, rowB (.str z) = true := fun z hm => by
    show (!decide (z = "") && (sg z).all signB) = true
    have ne : z ≠ "" := fun q => by
      have := hz z hm
      rw [q] at this
      have e : ("" : Str).length = 0 := rfl
      omega
    rw [decide_eq_false ne, Bool.not_false, Bool.true_and, List.all_eq_true]
    intro c hc
    unfold signB
    rcases P.sign z hm c hc with q | q
    · simp [q]
    · simp [q.1, q.2]
  cases rs with
  | nil => exact absurd P.ne (by simp)
  | cons z zs =>
    show (((PyData.str z) :: zs.map .str).all rowB && ((PyData.str z) :: zs.map .str).all (fun y => decide (lenB y = lenB (.str z)))) = true
    have e : (PyData.str z) :: zs.map .str = (z :: zs).map .str := rfl
    rw [e, Bool.and_eq_true, List.all_eq_true, List.all_eq_true]
    refine ⟨fun x hx => ?_, fun x hx => ?_⟩
    · obtain ⟨y, hy, rfl⟩ := List.mem_map.mp hx
      exact row y hy
    · obtain ⟨y, hy, rfl⟩ := List.mem_map.mp hx
      exact decide_eq_true (((hz y hy)).trans (hz z List.mem_cons_self).symm)
end K14
theorem PageOk.mono {h w h' w' : Nat} {rs : List Str} (P : PageOk h w rs) (h1 : h ≤ h') (h2 : w ≤ w') : PageOk h' w' rs :=
  { P with hi := Nat.le_trans P.hi h1, wide := let ⟨k, a, b, c⟩ := P.wide; ⟨k, a, Nat.le_trans b h2, c⟩ }
theorem PageOk.fin {h w : Nat} {rs : List Str} (P : PageOk h w rs) : FinA 0 (h * (10 * w + 4)) (rs.map .str) := by
  obtain ⟨k, _, hk, hz⟩ := P.wide
  refine (FinA.all (D := 0) (B := 10 * w + 2) h (by rw [List.length_map]; exact P.hi) fun x hx => ?_).mono (Nat.le_refl _) (Nat.le_refl _)
  obtain ⟨z, hm, rfl⟩ := List.mem_map.mp hx
  exact Fin.str (okSign_ok (P.sign z hm)) (by rw [hz z hm]; omega)
end VL
namespace VL
open PySem PySem.Spec PyProof.Rows L2
def triW (t : Tri) : PyData := .tuple [.str t.2.2, .int t.1, .int t.2.1]
def pgL : List Str → Nat → List Tri
  | [], _ => []
  | z :: zs, r => (K14.rowW z).map (fun e => (((r : Nat) : Int), ((e.2 : Nat) : Int), txt e.1)) ++ pgL zs (r + 1)
theorem wordsA_eq : ∀ (zs : List Str) (r : Nat), K14.wordsA zs r = (pgL zs r).map triW
  | [], r => rfl
  | z :: zs, r => by
    show (K14.rowW z).map (K14.ent3 r) ++ K14.wordsA zs (r + 1) = ((K14.rowW z).map _ ++ pgL zs (r + 1)).map triW
    rw [wordsA_eq zs (r + 1), List.map_append, List.map_map]
    rfl
def cov (r p : Int) (t : Tri) : Bool := decide (t.1 = r) && (decide (t.2.1 ≤ p) && decide (p < t.2.1 + (t.2.2.length : Int)))
def numD (L : List Tri) (r p : Int) : PyData := match L.findIdx? (cov r p) with
  | some k => .int ((k : Nat) : Int)
  | none => .none
def numsR : List Nat → Bool → Int → List PyData
  | [], _, _ => []
  | c :: cs, a, n => (if c = 32 then .none else .int (if a = true then n + 1 else n)) :: numsR cs (decide (c = 32)) (if c ≠ 32 ∧ a = true then n + 1 else n)
def numsN : List Nat → Bool → Int → Int
  | [], _, n => n
  | c :: cs, a, n => numsN cs (decide (c = 32)) (if c ≠ 32 ∧ a = true then n + 1 else n)
def covP (p : Nat) (e : List Nat × Nat) : Bool := decide (e.2 ≤ p) && decide (p < e.2 + e.1.length)
theorem numsR_len : ∀ (cs : List Nat) (a : Bool) (n : Int), (numsR cs a n).length = cs.length
  | [], _, _ => rfl
  | c :: cs, a, n => by unfold numsR; rw [List.length_cons, List.length_cons, numsR_len cs]
theorem spl_first : ∀ (cs cur : List Nat), cur ≠ [] → ∃ w rest, TL.spl [32] 0 cur cs = (cur ++ w) :: rest
  | [], cur, _ => ⟨[], [], by rw [TL.spl_nil, List.append_nil]⟩
  | c :: cs, cur, h => by
    by_cases q : c = 32
    · rw [TL.spl_hit (by rw [K14.pre32, decide_eq_true q])]
      exact ⟨[], _, by rw [List.append_nil]⟩
    · rw [TL.spl_miss (by rw [K14.pre32, decide_eq_false q])]
      obtain ⟨w, rest, e⟩ := spl_first cs (cur ++ [c]) (by simp)
      exact ⟨c :: w, rest, by rw [e, List.append_assoc]; rfl⟩
theorem rwL_ge : ∀ (xs : List (List Nat)) (p : Nat), ∀ e ∈ K14.rwL xs p, p ≤ e.2
  | [], p, e, h => by cases h
  | x :: xs, p, e, h => by
    unfold K14.rwL at h
    rcases List.mem_append.mp h with h | h
    · split at h
      · cases h
      · rw [List.mem_singleton.mp h]
        exact Nat.le_refl _
    · have := rwL_ge xs _ e h
      omega
theorem find_none {α : Type} {l : List α} {f : α → Bool} (h : ∀ x ∈ l, f x = false) : l.findIdx? f = none := by
  rw [List.findIdx?_eq_none_iff]
  exact h
theorem nums_spl : ∀ (cs cur : List Nat) (p0 : Nat) (n : Int), (∀ i, i < cs.length → (numsR cs (decide (cur = [])) n)[i]? = some (match (K14.rwL (TL.spl [32] 0 cur cs) p0).findIdx? (covP (p0 + cur.length + i)) with
      | some j => .int (n + (if cur = [] then 1 else 0) + (j : Nat))
      | none => .none)) ∧ numsN cs (decide (cur = [])) n = n + ((K14.rwL (TL.spl [32] 0 cur cs) p0).length : Nat) - (if cur = [] then 0 else 1)
  | [], cur, p0, n => by
    refine ⟨fun i h => by simp at h, ?_⟩
    rw [TL.spl_nil]
    unfold K14.rwL K14.rwL numsN
    by_cases q : cur = []
    · simp [q]
    · simp only [q,if_false,List.append_nil,List.length_singleton]
      omega
  | c :: cs, cur, p0, n => by
    by_cases q : c = 32
    · rw [TL.spl_hit (by rw [K14.pre32, decide_eq_true q]), show ([32] : List Nat).length - 1 = 0 from rfl]
      obtain ⟨ih1, ih2⟩ := nums_spl cs [] (p0 + cur.length + 1) n
      have e1 : (if c ≠ 32 ∧ decide (cur = []) = true then n + 1 else n) = n := if_neg fun z => z.1 q
      have eN : numsN (c :: cs) (decide (cur = [])) n = numsN cs true n := by
        show numsN cs (decide (c = 32)) _ = _
        rw [e1, decide_eq_true q]
      have eR : numsR (c :: cs) (decide (cur = [])) n = .none :: numsR cs true n := by
        show _ :: numsR cs (decide (c = 32)) _ = _
        rw [e1, decide_eq_true q, if_pos q]
      have eW : K14.rwL (cur :: TL.spl [32] 0 [] cs) p0 = (if cur = [] then [] else [(cur, p0)]) ++ K14.rwL (TL.spl [32] 0 [] cs) (p0 + cur.length + 1) := rfl
      have ge := rwL_ge (TL.spl [32] 0 [] cs) (p0 + cur.length + 1)
      rw [eW, eN, eR]
      have ih2 : numsN cs true n = _ := ih2
      refine ⟨fun i hi => ?_, ?_⟩
      · cases i with
        | zero =>
          rw [find_none]
          · rfl
          · intro e he
            rcases List.mem_append.mp he with h | h
            · split at h
              · cases h
              · rw [List.mem_singleton.mp h]
                unfold covP
                rw [decide_eq_false (by omega : ¬ p0 + cur.length + 0 < p0 + cur.length), Bool.and_false]
            · have := ge e h
              unfold covP
              rw [decide_eq_false (by omega), Bool.false_and]
        | succ i =>
          have hi : i < cs.length := by simpa using hi
          have := ih1 i hi
          have h2 : (numsR cs true n)[i]? = _ := this
          rw [List.getElem?_cons_succ, h2, List.findIdx?_append]
          have hn : ((if cur = [] then [] else [(cur, p0)]) : List (List Nat × Nat)).findIdx? (covP (p0 + cur.length + (i + 1))) = none := find_none fun e he => by
            split at he
            · cases he
            · rw [List.mem_singleton.mp he]
              unfold covP
              rw [decide_eq_false (by omega : ¬ p0 + cur.length + (i + 1) < p0 + cur.length), Bool.and_false]
          rw [hn, show p0 + cur.length + 1 + ([] : List Nat).length + i = p0 + cur.length + (i + 1) by rw [List.length_nil]; omega]
          cases (K14.rwL (TL.spl [32] 0 [] cs) (p0 + cur.length + 1)).findIdx? (covP (p0 + cur.length + (i + 1))) with
          | none => rfl
          | some j =>
            show some (PyData.int _) = some (PyData.int _)
            congr 2
            by_cases q2 : cur = []
            · rw [if_pos rfl, if_pos q2, if_pos q2]
              rfl
            · rw [if_pos rfl, if_neg q2, if_neg q2]
              show n + 1 + (j : Int) = n + 0 + ((j + 1 : Nat) : Int)
              omega
      · rw [ih2, List.length_append]
        by_cases q2 : cur = []
        · rw [if_pos q2, if_pos q2, if_pos rfl, List.length_nil, Nat.zero_add]
        · rw [if_neg q2, if_neg q2, if_pos rfl, List.length_singleton]
          omega
    · rw [TL.spl_miss (by rw [K14.pre32, decide_eq_false q])]
      obtain ⟨ih1, ih2⟩ := nums_spl cs (cur ++ [c]) p0 (if cur = [] then n + 1 else n)
      have ne : ¬ (cur ++ [c] = []) := by simp
      rw [decide_eq_false ne] at ih1 ih2
      rw [if_neg ne] at ih2
      have e1 : (if c ≠ 32 ∧ decide (cur = []) = true then n + 1 else n) = if cur = [] then n + 1 else n := by
        by_cases q2 : cur = []
        · rw [if_pos ⟨q, decide_eq_true q2⟩, if_pos q2]
        · rw [if_neg (fun z => q2 (of_decide_eq_true z.2)), if_neg q2]
      have e2 : (if decide (cur = []) = true then n + 1 else n) = if cur = [] then n + 1 else n := by
        by_cases q2 : cur = []
        · rw [if_pos (decide_eq_true q2), if_pos q2]
        · rw [if_neg (fun z => q2 (of_decide_eq_true z)), if_neg q2]
      have eN : numsN (c :: cs) (decide (cur = [])) n = numsN cs false (if cur = [] then n + 1 else n) := by
        show numsN cs (decide (c = 32)) _ = _
        rw [e1, decide_eq_false q]
      have eR : numsR (c :: cs) (decide (cur = [])) n = .int (if cur = [] then n + 1 else n) :: numsR cs false (if cur = [] then n + 1 else n) := by
        show (if c = 32 then _ else _) :: numsR cs (decide (c = 32)) _ = _
        rw [e1, decide_eq_false q, if_neg q, e2]
      rw [eN, eR]
      refine ⟨fun i hi => ?_, ?_⟩
      · cases i with
        | zero =>
          obtain ⟨w, rest, es⟩ := spl_first cs (cur ++ [c]) ne
          rw [es]
          have eW : K14.rwL ((cur ++ [c] ++ w) :: rest) p0 = (cur ++ [c] ++ w, p0) :: K14.rwL rest (p0 + (cur ++ [c] ++ w).length + 1) := by
            show (if cur ++ [c] ++ w = [] then [] else _) ++ _ = _
            rw [if_neg (by simp)]
            rfl
          have hc : covP (p0 + cur.length + 0) (cur ++ [c] ++ w, p0) = true := by
            unfold covP
            rw [decide_eq_true (by omega), decide_eq_true]
            · rfl
            · show p0 + cur.length + 0 < p0 + (cur ++ [c] ++ w).length
              rw [List.length_append, List.length_append, List.length_singleton]
              omega
          rw [eW, List.findIdx?_cons, hc]
          show some (PyData.int _) = some (PyData.int _)
          congr 2
          by_cases q2 : cur = []
          · rw [if_pos q2, if_pos q2]
            show n + 1 = n + 1 + ((0 : Nat) : Int)
            omega
          · rw [if_neg q2, if_neg q2]
            show n = n + 0 + ((0 : Nat) : Int)
            omega
        | succ i =>
          have hi : i < cs.length := by simpa using hi
          have h2 := ih1 i hi
          rw [List.getElem?_cons_succ, h2, List.length_append, List.length_singleton, show p0 + (cur.length + 1) + i = p0 + cur.length + (i + 1) by omega]
          cases (K14.rwL (TL.spl [32] 0 (cur ++ [c]) cs) p0).findIdx? (covP (p0 + cur.length + (i + 1))) with
          | none => rfl
          | some j =>
            show some (PyData.int _) = some (PyData.int _)
            congr 2
            rw [if_neg ne]
            by_cases q2 : cur = []
            · rw [if_pos q2, if_pos q2]
              omega
            · rw [if_neg q2, if_neg q2]
      · rw [ih2]
        by_cases q2 : cur = []
        · rw [if_pos q2, if_pos q2]
          omega
        · rw [if_neg q2, if_neg q2]
theorem nums_row (z : Str) (n : Int) : (∀ i, i < z.length → (numsR (sg z) true n)[i]? = some (match (K14.rowW z).findIdx? (covP i) with
      | some j => .int (n + 1 + (j : Nat))
      | none => .none)) ∧ numsN (sg z) true n = n + ((K14.rowW z).length : Nat) := by
  obtain ⟨h1, h2⟩ := nums_spl (sg z) [] 0 n
  refine ⟨fun i hi => ?_, ?_⟩
  · have := h1 i (by rw [← len_sg]; exact hi)
    rw [show 0 + ([] : List Nat).length + i = i by rw [List.length_nil]; omega] at this
    exact this
  · have h2 : numsN (sg z) true n = _ := h2
    rw [h2, if_pos rfl]
    show n + ((K14.rowW z).length : Int) - 0 = _
    omega
def numsP : List Str → Int → List PyData
  | [], _ => []
  | z :: zs, n => .list (numsR (sg z) true n) :: numsP zs (numsN (sg z) true n)
theorem cov_row (r p : Nat) (z : Str) : ((K14.rowW z).map (fun e => (((r : Nat) : Int), ((e.2 : Nat) : Int), txt e.1))).findIdx? (cov r p) = (K14.rowW z).findIdx? (covP p) := by
  rw [List.findIdx?_map]
  congr 1
  funext e
  show (decide ((r : Int) = r) && (decide ((e.2 : Int) ≤ p) && decide ((p : Int) < (e.2 : Int) + ((txt e.1).length : Int)))) = (decide (e.2 ≤ p) && decide (p < e.2 + e.1.length))
  rw [decide_eq_true rfl, Bool.true_and, show (txt e.1).length = e.1.length from txt_len e.1]
  congr 1
  · by_cases q : e.2 ≤ p
    · rw [decide_eq_true q, decide_eq_true (by omega)]
    · rw [decide_eq_false q, decide_eq_false (by omega)]
  · by_cases q : p < e.2 + e.1.length
    · rw [decide_eq_true q, decide_eq_true (by omega)]
    · rw [decide_eq_false q, decide_eq_false (by omega)]
theorem pgL_rows : ∀ (zs : List Str) (r : Nat), ∀ t ∈ pgL zs r, (r : Int) ≤ t.1
  | [], r, t, h => by cases h
  | z :: zs, r, t, h => by
    unfold pgL at h
    rcases List.mem_append.mp h with h | h
    · obtain ⟨e, _, rfl⟩ := List.mem_map.mp h
      exact Int.le_refl _
    · have := pgL_rows zs (r + 1) t h
      omega
theorem pg_num : ∀ (zs : List Str) (r : Nat) (n : Int) (k : Nat) (z : Str), zs[k]? = some z → ∃ row, (numsP zs n)[k]? = some (.list row) ∧ row.length = z.length ∧ ∀ p, p < z.length → row[p]? = some (match (pgL zs r).findIdx? (cov ((r + k : Nat)) p) with
      | some j => .int (n + 1 + (j : Nat))
      | none => .none)
  | [], r, n, k, z, h => by simp at h
  | y :: zs, r, n, k, z, h => by
    cases k with
    | zero =>
      have h : y = z := by simpa using h
      subst h
      refine ⟨_, rfl, by rw [numsR_len, ← len_sg], fun p hp => ?_⟩
      rw [(nums_row y n).1 p hp]
      unfold pgL
      rw [Nat.add_zero, List.findIdx?_append, cov_row]
      have hn : (pgL zs (r + 1)).findIdx? (cov r p) = none := find_none fun t ht => by
        have := pgL_rows zs (r + 1) t ht
        unfold cov
        rw [decide_eq_false (by omega), Bool.false_and]
      rw [hn]
      cases (K14.rowW y).findIdx? (covP p) <;> rfl
    | succ k =>
      obtain ⟨row, h1, h2, h3⟩ := pg_num zs (r + 1) (numsN (sg y) true n) k z (by simpa using h)
      refine ⟨row, by unfold numsP; rw [List.getElem?_cons_succ]; exact h1, h2, fun p hp => ?_⟩
      rw [h3 p hp]
      show _ = some (match ((K14.rowW y).map (fun e => (((r : Nat) : Int), ((e.2 : Nat) : Int), txt e.1)) ++ pgL zs (r + 1)).findIdx? (cov ((r + (k + 1) : Nat)) p) with
        | some j => PyData.int (n + 1 + (j : Nat))
        | none => PyData.none)
      have hn : ((K14.rowW y).map (fun e => (((r : Nat) : Int), ((e.2 : Nat) : Int), txt e.1))).findIdx? (cov ((r + (k + 1) : Nat)) p) = none := find_none fun t ht => by
        obtain ⟨e, _, rfl⟩ := List.mem_map.mp ht
        unfold cov
        rw [decide_eq_false (by show ¬ (r : Int) = ((r + (k + 1) : Nat) : Int); omega), Bool.false_and]
      rw [List.findIdx?_append, hn, show r + 1 + k = r + (k + 1) by omega, (nums_row y n).2, List.length_map]
      cases (pgL zs (r + 1)).findIdx? (cov ((r + (k + 1) : Nat)) p) with
      | none => rfl
      | some j =>
        show some (PyData.int _) = some (PyData.int _)
        congr 2
        show n + ((K14.rowW y).length : Int) + 1 + (j : Int) = n + 1 + ((j + (K14.rowW y).length : Nat) : Int)
        omega
theorem num_at {zs : List Str} {k p : Nat} {z : Str} (h : zs[k]? = some z) (hp : p < z.length) : ∃ row, (numsP zs (-1))[k]? = some (.list row) ∧ row.length = z.length ∧ row[p]? = some (numD (pgL zs 0) k p) := by
  obtain ⟨row, h1, h2, h3⟩ := pg_num zs 0 (-1) k z h
  refine ⟨row, h1, h2, ?_⟩
  rw [h3 p hp, Nat.zero_add]
  unfold numD
  cases (pgL zs 0).findIdx? (cov k p) with
  | none => rfl
  | some j =>
    show some (PyData.int _) = some (PyData.int _)
    congr 2
    omega
end VL
namespace VL
open PySem PySem.Spec PyProof.Rows L2
theorem blank_dec (c : Nat) : decide ((⟨#[c]⟩ : Str) = " ") = decide (c = 32) := by
  by_cases q : c = 32
  · rw [decide_eq_true q, decide_eq_true ((K14.sign_blank c).mpr q)]
  · rw [decide_eq_false q, decide_eq_false fun z => q ((K14.sign_blank c).mp z)]
theorem num_inner {s0 s1 s3 : Option SL} : ∀ (cs : List Nat) (acc : List PyData) (n : Int) (a : Str) (y6 : Option SL), acc.length + cs.length ≤ 1000 → ∃ a' z6, forM (gSet 6) B1__law_numbers (cs.map fun c => .str ⟨#[c]⟩) [s0, s1, some (.v (.int n)), s3, some (.c (.l acc)), some (.v (.str a)), y6] = some (.nx, [s0, s1, some (.v (.int (numsN cs (decide (a = " ")) n))), s3, some (.c (.l (acc ++ numsR cs (decide (a = " ")) n))), some (.v (.str a')), z6])
  | [], acc, n, a, y6, _ => ⟨a, y6, by
    unfold numsR numsN
    rw [List.append_nil]
    rfl⟩
  | c :: cs, acc, n, a, y6, hl => by
    rw [List.length_cons] at hl
    have l1 : acc.length < 100000 := by omega
    obtain ⟨a', z6, ih⟩ := num_inner (s0 := s0) (s1 := s1) (s3 := s3) cs (acc ++ [if c = 32 then .none else .int (if decide (a = " ") = true then n + 1 else n)]) (if c ≠ 32 ∧ decide (a = " ") = true then n + 1 else n) ⟨#[c]⟩ (some (.v (.str ⟨#[c]⟩))) (by rw [List.length_append, List.length_singleton]; omega)
    refine ⟨a', z6, ?_⟩
    have step : B1__law_numbers [s0, s1, some (.v (.int n)), s3, some (.c (.l acc)), some (.v (.str a)), some (.v (.str ⟨#[c]⟩))] = some (.nx, [s0, s1, some (.v (.int (if c ≠ 32 ∧ decide (a = " ") = true then n + 1 else n))), s3, some (.c (.l (acc ++ [if c = 32 then .none else .int (if decide (a = " ") = true then n + 1 else n)]))), some (.v (.str ⟨#[c]⟩)), some (.v (.str ⟨#[c]⟩))]) := by
      by_cases q : c = 32
      · have e1 : (if c ≠ 32 ∧ decide (a = " ") = true then n + 1 else n) = n + 0 := by rw [if_neg fun z => z.1 q, Int.add_zero]
        rw [e1, if_pos q]
        simp only [putM,mRaise2,defM,defMc,defMX,mExprX,mSetX2,mCallX,mValX,mRaise,mTryK,mIsE,mFld,mIsN,mEnumA,mNil,mSeq,mSeqC,mRetC,mIfS,mRet,mSet,mSetX,mPut,mApp,mFrz,mAug,mPar,setAll,mUnp,gSet,gTupM,gsCons,gsNil,tVal,tAndM,tOrM,tNotM,tYesM,mBin,mUn,mAnd,mOr,mNot,mIf,mChain,mVar,mC,mCall,mCallF,mCallC,argsOf,argOf,ptrs,putBack,aNil,aCons,mTup,mLst,mV,mTell,xLst,xsNil,xsCons,mLenS,mIxS,mDict1,oNone,oSome,mFor,mIt,mRng1,xLc,ownOk,wp,unwp,startS,ixD,atI,addD_int,addD_str,addD_list,addD_tuple,subD,mulD_l,mulD_r,fdivD_pos,modD_pos,ltD_int,leD_int,gtD_int,geD_int,eqD_int,neD_int,eqD_tupE,eqD_strs,neD_strs,isND,isNotND,intF,absF,lenF,joinF,negD,List.map,List.length_cons,List.length_nil,List.cons_append,List.nil_append,List.append_nil,List.replicate,List.getElem?_cons_zero,List.getElem?_cons_succ,List.set_cons_zero,List.set_cons_succ,putAt,SL.put,stables,derefs,stable,deref,heldAt,SL.held,CT.data,CT.app,Int.reduceLT,Int.reduceLE,Int.reduceNeg,Nat.reduceAdd,Nat.reduceLeDiff,and_self,true_and,and_true,ite_true,if_true,List.nodup_cons,List.nodup_nil,List.not_mem_nil,not_false_eq_true,Nat.succ_ne_zero,eq_self,Option.bind_some,Option.bind,Option.map,id,asOut,B1__law_numbers,blank_dec,decide_eq_true q,neD_strs,eqD_strs,Bool.not_true,l1]
        exact rfl
      · by_cases q2 : a = " "
        · have e1 : (if c ≠ 32 ∧ decide (a = " ") = true then n + 1 else n) = n + 1 := if_pos ⟨q, decide_eq_true q2⟩
          rw [e1, if_neg q, if_pos (decide_eq_true q2)]
          simp only [putM,mRaise2,defM,defMc,defMX,mExprX,mSetX2,mCallX,mValX,mRaise,mTryK,mIsE,mFld,mIsN,mEnumA,mNil,mSeq,mSeqC,mRetC,mIfS,mRet,mSet,mSetX,mPut,mApp,mFrz,mAug,mPar,setAll,mUnp,gSet,gTupM,gsCons,gsNil,tVal,tAndM,tOrM,tNotM,tYesM,mBin,mUn,mAnd,mOr,mNot,mIf,mChain,mVar,mC,mCall,mCallF,mCallC,argsOf,argOf,ptrs,putBack,aNil,aCons,mTup,mLst,mV,mTell,xLst,xsNil,xsCons,mLenS,mIxS,mDict1,oNone,oSome,mFor,mIt,mRng1,xLc,ownOk,wp,unwp,startS,ixD,atI,addD_int,addD_str,addD_list,addD_tuple,subD,mulD_l,mulD_r,fdivD_pos,modD_pos,ltD_int,leD_int,gtD_int,geD_int,eqD_int,neD_int,eqD_tupE,eqD_strs,neD_strs,isND,isNotND,intF,absF,lenF,joinF,negD,List.map,List.length_cons,List.length_nil,List.cons_append,List.nil_append,List.append_nil,List.replicate,List.getElem?_cons_zero,List.getElem?_cons_succ,List.set_cons_zero,List.set_cons_succ,putAt,SL.put,stables,derefs,stable,deref,heldAt,SL.held,CT.data,CT.app,Int.reduceLT,Int.reduceLE,Int.reduceNeg,Nat.reduceAdd,Nat.reduceLeDiff,and_self,true_and,and_true,ite_true,if_true,List.nodup_cons,List.nodup_nil,List.not_mem_nil,not_false_eq_true,Nat.succ_ne_zero,eq_self,Option.bind_some,Option.bind,Option.map,id,asOut,B1__law_numbers,blank_dec,decide_eq_false q,neD_strs,eqD_strs,Bool.not_false,decide_eq_true q2,l1]
        · have e1 : (if c ≠ 32 ∧ decide (a = " ") = true then n + 1 else n) = n + 0 := by rw [if_neg (fun z => q2 (of_decide_eq_true z.2)), Int.add_zero]
          have e2 : (if decide (a = " ") = true then n + 1 else n) = n + 0 := by rw [if_neg (fun z => q2 (of_decide_eq_true z)), Int.add_zero]
          rw [e1, if_neg q, e2]
          simp only [putM,mRaise2,defM,defMc,defMX,mExprX,mSetX2,mCallX,mValX,mRaise,mTryK,mIsE,mFld,mIsN,mEnumA,mNil,mSeq,mSeqC,mRetC,mIfS,mRet,mSet,mSetX,mPut,mApp,mFrz,mAug,mPar,setAll,mUnp,gSet,gTupM,gsCons,gsNil,tVal,tAndM,tOrM,tNotM,tYesM,mBin,mUn,mAnd,mOr,mNot,mIf,mChain,mVar,mC,mCall,mCallF,mCallC,argsOf,argOf,ptrs,putBack,aNil,aCons,mTup,mLst,mV,mTell,xLst,xsNil,xsCons,mLenS,mIxS,mDict1,oNone,oSome,mFor,mIt,mRng1,xLc,ownOk,wp,unwp,startS,ixD,atI,addD_int,addD_str,addD_list,addD_tuple,subD,mulD_l,mulD_r,fdivD_pos,modD_pos,ltD_int,leD_int,gtD_int,geD_int,eqD_int,neD_int,eqD_tupE,eqD_strs,neD_strs,isND,isNotND,intF,absF,lenF,joinF,negD,List.map,List.length_cons,List.length_nil,List.cons_append,List.nil_append,List.append_nil,List.replicate,List.getElem?_cons_zero,List.getElem?_cons_succ,List.set_cons_zero,List.set_cons_succ,putAt,SL.put,stables,derefs,stable,deref,heldAt,SL.held,CT.data,CT.app,Int.reduceLT,Int.reduceLE,Int.reduceNeg,Nat.reduceAdd,Nat.reduceLeDiff,and_self,true_and,and_true,ite_true,if_true,List.nodup_cons,List.nodup_nil,List.not_mem_nil,not_false_eq_true,Nat.succ_ne_zero,eq_self,Option.bind_some,Option.bind,Option.map,id,asOut,B1__law_numbers,blank_dec,decide_eq_false q,neD_strs,eqD_strs,Bool.not_false,decide_eq_false q2,l1]
          exact rfl
    rw [List.map_cons]
    unfold forM
    show (match B1__law_numbers [s0, s1, some (.v (.int n)), s3, some (.c (.l acc)), some (.v (.str a)), some (.v (.str ⟨#[c]⟩))] with
      | some (.nx, S2) => forM (gSet 6) B1__law_numbers (cs.map fun c => .str ⟨#[c]⟩) S2
      | some (.ct, S2) => forM (gSet 6) B1__law_numbers (cs.map fun c => .str ⟨#[c]⟩) S2
      | some (.bk, S2) => some (.nx, S2)
      | some (.rt r, S2) => some (.rt r, S2)
      | some (.rz c fs, S2) => some (.rz c fs, S2)
      | none => none) = _
    rw [step]
    show forM (gSet 6) B1__law_numbers (cs.map fun c => .str ⟨#[c]⟩) _ = _
    rw [ih, blank_dec, List.append_assoc]
    try rfl
theorem num_outer {s0 : Option SL} : ∀ (zs : List Str) (acc : List PyData) (n : Int) (y3 y4 y5 y6 : Option SL), acc.length + zs.length ≤ 1000 → (∀ z ∈ zs, z.length ≤ 1000) → ∃ z2 z3 z4 z5 z6, forM (gSet 3) B3__law_numbers (zs.map .str) [s0, some (.c (.l acc)), some (.v (.int n)), y3, y4, y5, y6] = some (.nx, [s0, some (.c (.l (acc ++ numsP zs n))), z2, z3, z4, z5, z6])
  | [], acc, n, y3, y4, y5, y6, _, _ => ⟨_, y3, y4, y5, y6, by
    unfold numsP
    rw [List.append_nil]
    rfl⟩
  | z :: zs, acc, n, y3, y4, y5, y6, hl, hz => by
    rw [List.length_cons] at hl
    have l1 : acc.length < 100000 := by omega
    have lz := hz z List.mem_cons_self
    obtain ⟨a', w6, e1⟩ := num_inner (s0 := s0) (s1 := some (.c (.l acc))) (s3 := some (.v (.str z))) (sg z) [] n " " y6 (by rw [List.length_nil, ← len_sg]; omega)
    have es : ((sg z).map fun c => PyData.str ⟨#[c]⟩) = signsD z := rfl
    rw [es, decide_eq_true rfl, List.nil_append] at e1
    obtain ⟨z2, z3, z4, z5, z6, ih⟩ := num_outer (s0 := s0) zs (acc ++ [.list (numsR (sg z) true n)]) (numsN (sg z) true n) (some (.v (.str z))) (some (.v (.list (numsR (sg z) true n)))) (some (.v (.str a'))) w6 (by rw [List.length_append, List.length_singleton]; omega) fun y hy => hz y (List.mem_cons_of_mem _ hy)
    refine ⟨z2, z3, z4, z5, z6, ?_⟩
    have eL : L2__law_numbers [s0, some (.c (.l acc)), some (.v (.int n)), some (.v (.str z)), some (.c (.l [])), some (.v (.str " ")), y6] = some (.nx, [s0, some (.c (.l acc)), some (.v (.int (numsN (sg z) true n))), some (.v (.str z)), some (.c (.l (numsR (sg z) true n))), some (.v (.str a')), w6]) := by
      unfold L2__law_numbers
      exact e1
    have step : B3__law_numbers [s0, some (.c (.l acc)), some (.v (.int n)), some (.v (.str z)), y4, y5, y6] = some (.nx, [s0, some (.c (.l (acc ++ [.list (numsR (sg z) true n)]))), some (.v (.int (numsN (sg z) true n))), some (.v (.str z)), some (.v (.list (numsR (sg z) true n))), some (.v (.str a')), w6]) := by
      simp only [putM,mRaise2,defM,defMc,defMX,mExprX,mSetX2,mCallX,mValX,mRaise,mTryK,mIsE,mFld,mIsN,mEnumA,mNil,mSeq,mSeqC,mRetC,mIfS,mRet,mSet,mSetX,mPut,mApp,mFrz,mAug,mPar,setAll,mUnp,gSet,gTupM,gsCons,gsNil,tVal,tAndM,tOrM,tNotM,tYesM,mBin,mUn,mAnd,mOr,mNot,mIf,mChain,mVar,mC,mCall,mCallF,mCallC,argsOf,argOf,ptrs,putBack,aNil,aCons,mTup,mLst,mV,mTell,xLst,xsNil,xsCons,mLenS,mIxS,mDict1,oNone,oSome,mFor,mIt,mRng1,xLc,ownOk,wp,unwp,startS,ixD,atI,addD_int,addD_str,addD_list,addD_tuple,subD,mulD_l,mulD_r,fdivD_pos,modD_pos,ltD_int,leD_int,gtD_int,geD_int,eqD_int,neD_int,eqD_tupE,eqD_strs,neD_strs,isND,isNotND,intF,absF,lenF,joinF,negD,List.map,List.length_cons,List.length_nil,List.cons_append,List.nil_append,List.append_nil,List.replicate,List.getElem?_cons_zero,List.getElem?_cons_succ,List.set_cons_zero,List.set_cons_succ,putAt,SL.put,stables,derefs,stable,deref,heldAt,SL.held,CT.data,CT.app,Int.reduceLT,Int.reduceLE,Int.reduceNeg,Nat.reduceAdd,Nat.reduceLeDiff,and_self,true_and,and_true,ite_true,if_true,List.nodup_cons,List.nodup_nil,List.not_mem_nil,not_false_eq_true,Nat.succ_ne_zero,eq_self,Option.bind_some,Option.bind,Option.map,id,asOut,B3__law_numbers,eL,l1]
    rw [List.map_cons]
    unfold forM
    show (match B3__law_numbers [s0, some (.c (.l acc)), some (.v (.int n)), some (.v (.str z)), y4, y5, y6] with
      | some (.nx, S2) => forM (gSet 3) B3__law_numbers (zs.map .str) S2
      | some (.ct, S2) => forM (gSet 3) B3__law_numbers (zs.map .str) S2
      | some (.bk, S2) => some (.nx, S2)
      | some (.rt r, S2) => some (.rt r, S2)
      | some (.rz c fs, S2) => some (.rz c fs, S2)
      | none => none) = _
    rw [step]
    show forM (gSet 3) B3__law_numbers (zs.map .str) _ = _
    rw [ih, List.append_assoc]
    try rfl
theorem numbers_ok {zs : List Str} (hl : zs.length ≤ 30) (hz : ∀ z ∈ zs, z.length ≤ 1000) : F__law_numbers [.v (.tuple (zs.map .str))] = some (.list (numsP zs (-1)), [.v (.tuple (zs.map .str))]) := by
  obtain ⟨z2, z3, z4, z5, z6, e⟩ := num_outer (s0 := some (.v (.tuple (zs.map .str)))) zs [] (-1) none none none none (by rw [List.length_nil]; omega) hz
  have eL : L4__law_numbers [some (.v (.tuple (zs.map .str))), some (.c (.l [])), some (.v (.int (-1))), none, none, none, none] = some (.nx, [some (.v (.tuple (zs.map .str))), some (.c (.l (numsP zs (-1)))), z2, z3, z4, z5, z6]) := by
    unfold L4__law_numbers
    exact e
  simp only [putM,mRaise2,defM,defMc,defMX,mExprX,mSetX2,mCallX,mValX,mRaise,mTryK,mIsE,mFld,mIsN,mEnumA,mNil,mSeq,mSeqC,mRetC,mIfS,mRet,mSet,mSetX,mPut,mApp,mFrz,mAug,mPar,setAll,mUnp,gSet,gTupM,gsCons,gsNil,tVal,tAndM,tOrM,tNotM,tYesM,mBin,mUn,mAnd,mOr,mNot,mIf,mChain,mVar,mC,mCall,mCallF,mCallC,argsOf,argOf,ptrs,putBack,aNil,aCons,mTup,mLst,mV,mTell,xLst,xsNil,xsCons,mLenS,mIxS,mDict1,oNone,oSome,mFor,mIt,mRng1,xLc,ownOk,wp,unwp,startS,ixD,atI,addD_int,addD_str,addD_list,addD_tuple,subD,mulD_l,mulD_r,fdivD_pos,modD_pos,ltD_int,leD_int,gtD_int,geD_int,eqD_int,neD_int,eqD_tupE,eqD_strs,neD_strs,isND,isNotND,intF,absF,lenF,joinF,negD,List.map,List.length_cons,List.length_nil,List.cons_append,List.nil_append,List.append_nil,List.replicate,List.getElem?_cons_zero,List.getElem?_cons_succ,List.set_cons_zero,List.set_cons_succ,putAt,SL.put,stables,derefs,stable,deref,heldAt,SL.held,CT.data,CT.app,Int.reduceLT,Int.reduceLE,Int.reduceNeg,Nat.reduceAdd,Nat.reduceLeDiff,and_self,true_and,and_true,ite_true,if_true,List.nodup_cons,List.nodup_nil,List.not_mem_nil,not_false_eq_true,Nat.succ_ne_zero,eq_self,Option.bind_some,Option.bind,Option.map,id,asOut,F__law_numbers,m__law_numbers,eL]
end VL
namespace VL
open PySem PySem.Spec PyProof.Rows L2
theorem cov_iff {r p : Int} {t : Tri} : cov r p t = true ↔ t.1 = r ∧ t.2.1 ≤ p ∧ p < t.2.1 + (t.2.2.length : Int) := by
  unfold cov
  rw [Bool.and_eq_true, Bool.and_eq_true, decide_eq_true_eq, decide_eq_true_eq, decide_eq_true_eq]
def enT : List Tri → Nat → List PyData
  | [], _ => []
  | t :: L, n => .tuple [.int ((n : Nat) : Int), triW t] :: enT L (n + 1)
theorem enumD_enT (L : List Tri) : enumD (L.map triW) = enT L 0 := by
  have go : ∀ (L : List Tri) (n : Nat), ((L.map triW).mapIdx fun i d => PyData.tuple [.int ((n + i : Nat) : Int), d]) = enT L n := by
    intro L
    induction L with
    | nil => intro n; rfl
    | cons t L ih =>
      intro n
      rw [List.map_cons, List.mapIdx_cons]
      have := ih (n + 1)
      show PyData.tuple [.int ((n + 0 : Nat) : Int), triW t] :: _ = _ :: enT L (n + 1)
      rw [← this]
      congr 1
      refine congrArg (fun f => List.mapIdx f (L.map triW)) (funext fun i => funext fun d => ?_)
      rw [show n + (i + 1) = n + 1 + i by omega]
  have := go L 0
  rw [← this]
  unfold enumD
  refine congrArg (fun f => List.mapIdx f (L.map triW)) (funext fun i => funext fun d => ?_)
  rw [Nat.zero_add]
theorem wa_loop {d : PyData} {r p : Int} : ∀ (L : List Tri) (n : Nat) (y3 y4 y5 y6 : Option SL), (∀ t ∈ L, t.2.2.length ≤ 1000) →
    ∃ z3 z4 z5 z6, forM (gTupM 2 (gsCons (gSet 3) (gsCons (gTupM 3 (gsCons (gSet 4) (gsCons (gSet 5) (gsCons (gSet 6) (gsNil))))) (gsNil)))) B1_word_at (enT L n) [some (.v d), some (.v (.int r)), some (.v (.int p)), y3, y4, y5, y6] =
      some ((match L.findIdx? (cov r p) with
        | some k => .rt (.v (.int ((n + k : Nat) : Int)))
        | none => .nx), [some (.v d), some (.v (.int r)), some (.v (.int p)), z3, z4, z5, z6])
  | [], n, y3, y4, y5, y6, _ => ⟨y3, y4, y5, y6, rfl⟩
  | (a, b, z) :: L, n, y3, y4, y5, y6, h => by
    have hz : z.length ≤ 1000 := h (a, b, z) List.mem_cons_self
    obtain ⟨z3, z4, z5, z6, ih⟩ := wa_loop (d := d) (r := r) (p := p) L (n + 1) (some (.v (.int ((n : Nat) : Int)))) (some (.v (.str z))) (some (.v (.int a))) (some (.v (.int b))) fun t ht => h t (List.mem_cons_of_mem _ ht)
    have lz := lenF_str (z := z) (by omega)
    obtain ⟨m, hm⟩ : ∃ m : Int, m = (z.length : Int) := ⟨_, rfl⟩
    rw [← hm] at lz
    have g0 : (gTupM 2 (gsCons (gSet 3) (gsCons (gTupM 3 (gsCons (gSet 4) (gsCons (gSet 5) (gsCons (gSet 6) (gsNil))))) (gsNil)))) (.tuple [.int ((n : Nat) : Int), triW (a, b, z)]) [some (.v d), some (.v (.int r)), some (.v (.int p)), y3, y4, y5, y6] = some [some (.v d), some (.v (.int r)), some (.v (.int p)), some (.v (.int ((n : Nat) : Int))), some (.v (.str z)), some (.v (.int a)), some (.v (.int b))] := rfl
    rw [List.findIdx?_cons]
    unfold enT forM
    rw [g0]
    have ih : forM (gTupM 2 (gsCons (gSet 3) (gsCons (gTupM 3 (gsCons (gSet 4) (gsCons (gSet 5) (gsCons (gSet 6) (gsNil))))) (gsNil)))) B1_word_at (enT L (n + 1)) [some (.v d), some (.v (.int r)), some (.v (.int p)), some (.v (.int ((n : Nat) : Int))), some (.v (.str z)), some (.v (.int a)), some (.v (.int b))] = _ := ih
    by_cases c : cov r p (a, b, z) = true
    · obtain ⟨c1, c2, c3⟩ := cov_iff.mp c
      rw [if_pos c]
      have c1 : a = r := c1
      have c2 : b ≤ p := c2
      have c3 : p < b + m := by rw [hm]; exact c3
      have e : B1_word_at [some (.v d), some (.v (.int r)), some (.v (.int p)), some (.v (.int ((n : Nat) : Int))), some (.v (.str z)), some (.v (.int a)), some (.v (.int b))] = some (.rt (.v (.int ((n : Nat) : Int))), [some (.v d), some (.v (.int r)), some (.v (.int p)), some (.v (.int ((n : Nat) : Int))), some (.v (.str z)), some (.v (.int a)), some (.v (.int b))]) := by
        simp only [putM,mRaise2,defM,defMc,defMX,mExprX,mSetX2,mCallX,mValX,mRaise,mTryK,mIsE,mFld,mIsN,mEnumA,mNil,mSeq,mSeqC,mRetC,mIfS,mRet,mSet,mSetX,mPut,mApp,mFrz,mAug,mPar,setAll,mUnp,gSet,gTupM,gsCons,gsNil,tVal,tAndM,tOrM,tNotM,tYesM,mBin,mUn,mAnd,mOr,mNot,mIf,mChain,mVar,mC,mCall,mCallF,mCallC,argsOf,argOf,ptrs,putBack,aNil,aCons,mTup,mLst,mV,mTell,xLst,xsNil,xsCons,mLenS,mIxS,mDict1,oNone,oSome,mFor,mIt,mRng1,xLc,ownOk,wp,unwp,startS,ixD,atI,addD_int,addD_str,addD_list,addD_tuple,subD,mulD_l,mulD_r,fdivD_pos,modD_pos,ltD_int,leD_int,gtD_int,geD_int,eqD_int,neD_int,eqD_tupE,eqD_strs,neD_strs,isND,isNotND,intF,absF,lenF,joinF,negD,List.map,List.length_cons,List.length_nil,List.cons_append,List.nil_append,List.append_nil,List.replicate,List.getElem?_cons_zero,List.getElem?_cons_succ,List.set_cons_zero,List.set_cons_succ,putAt,SL.put,stables,derefs,stable,deref,heldAt,SL.held,CT.data,CT.app,Int.reduceLT,Int.reduceLE,Int.reduceNeg,Nat.reduceAdd,Nat.reduceLeDiff,and_self,true_and,and_true,ite_true,if_true,List.nodup_cons,List.nodup_nil,List.not_mem_nil,not_false_eq_true,Nat.succ_ne_zero,eq_self,Option.bind_some,Option.bind,Option.map,id,asOut,B1_word_at,decide_eq_true c1,decide_eq_true c2,↓lz,decide_eq_true c3]
      simp only [e]
      exact ⟨_, _, _, _, rfl⟩
    · rw [if_neg c]
      have e : B1_word_at [some (.v d), some (.v (.int r)), some (.v (.int p)), some (.v (.int ((n : Nat) : Int))), some (.v (.str z)), some (.v (.int a)), some (.v (.int b))] = some (.nx, [some (.v d), some (.v (.int r)), some (.v (.int p)), some (.v (.int ((n : Nat) : Int))), some (.v (.str z)), some (.v (.int a)), some (.v (.int b))]) := by
        by_cases c1 : a = r
        · by_cases c2 : b ≤ p
          · have c3 : ¬ p < b + m := fun q => c (cov_iff.mpr ⟨c1, c2, by rw [hm] at q; exact q⟩)
            simp only [putM,mRaise2,defM,defMc,defMX,mExprX,mSetX2,mCallX,mValX,mRaise,mTryK,mIsE,mFld,mIsN,mEnumA,mNil,mSeq,mSeqC,mRetC,mIfS,mRet,mSet,mSetX,mPut,mApp,mFrz,mAug,mPar,setAll,mUnp,gSet,gTupM,gsCons,gsNil,tVal,tAndM,tOrM,tNotM,tYesM,mBin,mUn,mAnd,mOr,mNot,mIf,mChain,mVar,mC,mCall,mCallF,mCallC,argsOf,argOf,ptrs,putBack,aNil,aCons,mTup,mLst,mV,mTell,xLst,xsNil,xsCons,mLenS,mIxS,mDict1,oNone,oSome,mFor,mIt,mRng1,xLc,ownOk,wp,unwp,startS,ixD,atI,addD_int,addD_str,addD_list,addD_tuple,subD,mulD_l,mulD_r,fdivD_pos,modD_pos,ltD_int,leD_int,gtD_int,geD_int,eqD_int,neD_int,eqD_tupE,eqD_strs,neD_strs,isND,isNotND,intF,absF,lenF,joinF,negD,List.map,List.length_cons,List.length_nil,List.cons_append,List.nil_append,List.append_nil,List.replicate,List.getElem?_cons_zero,List.getElem?_cons_succ,List.set_cons_zero,List.set_cons_succ,putAt,SL.put,stables,derefs,stable,deref,heldAt,SL.held,CT.data,CT.app,Int.reduceLT,Int.reduceLE,Int.reduceNeg,Nat.reduceAdd,Nat.reduceLeDiff,and_self,true_and,and_true,ite_true,if_true,List.nodup_cons,List.nodup_nil,List.not_mem_nil,not_false_eq_true,Nat.succ_ne_zero,eq_self,Option.bind_some,Option.bind,Option.map,id,asOut,B1_word_at,decide_eq_true c1,decide_eq_true c2,↓lz,decide_eq_false c3]
          · simp only [putM,mRaise2,defM,defMc,defMX,mExprX,mSetX2,mCallX,mValX,mRaise,mTryK,mIsE,mFld,mIsN,mEnumA,mNil,mSeq,mSeqC,mRetC,mIfS,mRet,mSet,mSetX,mPut,mApp,mFrz,mAug,mPar,setAll,mUnp,gSet,gTupM,gsCons,gsNil,tVal,tAndM,tOrM,tNotM,tYesM,mBin,mUn,mAnd,mOr,mNot,mIf,mChain,mVar,mC,mCall,mCallF,mCallC,argsOf,argOf,ptrs,putBack,aNil,aCons,mTup,mLst,mV,mTell,xLst,xsNil,xsCons,mLenS,mIxS,mDict1,oNone,oSome,mFor,mIt,mRng1,xLc,ownOk,wp,unwp,startS,ixD,atI,addD_int,addD_str,addD_list,addD_tuple,subD,mulD_l,mulD_r,fdivD_pos,modD_pos,ltD_int,leD_int,gtD_int,geD_int,eqD_int,neD_int,eqD_tupE,eqD_strs,neD_strs,isND,isNotND,intF,absF,lenF,joinF,negD,List.map,List.length_cons,List.length_nil,List.cons_append,List.nil_append,List.append_nil,List.replicate,List.getElem?_cons_zero,List.getElem?_cons_succ,List.set_cons_zero,List.set_cons_succ,putAt,SL.put,stables,derefs,stable,deref,heldAt,SL.held,CT.data,CT.app,Int.reduceLT,Int.reduceLE,Int.reduceNeg,Nat.reduceAdd,Nat.reduceLeDiff,and_self,true_and,and_true,ite_true,if_true,List.nodup_cons,List.nodup_nil,List.not_mem_nil,not_false_eq_true,Nat.succ_ne_zero,eq_self,Option.bind_some,Option.bind,Option.map,id,asOut,B1_word_at,decide_eq_true c1,decide_eq_false c2]
        · simp only [putM,mRaise2,defM,defMc,defMX,mExprX,mSetX2,mCallX,mValX,mRaise,mTryK,mIsE,mFld,mIsN,mEnumA,mNil,mSeq,mSeqC,mRetC,mIfS,mRet,mSet,mSetX,mPut,mApp,mFrz,mAug,mPar,setAll,mUnp,gSet,gTupM,gsCons,gsNil,tVal,tAndM,tOrM,tNotM,tYesM,mBin,mUn,mAnd,mOr,mNot,mIf,mChain,mVar,mC,mCall,mCallF,mCallC,argsOf,argOf,ptrs,putBack,aNil,aCons,mTup,mLst,mV,mTell,xLst,xsNil,xsCons,mLenS,mIxS,mDict1,oNone,oSome,mFor,mIt,mRng1,xLc,ownOk,wp,unwp,startS,ixD,atI,addD_int,addD_str,addD_list,addD_tuple,subD,mulD_l,mulD_r,fdivD_pos,modD_pos,ltD_int,leD_int,gtD_int,geD_int,eqD_int,neD_int,eqD_tupE,eqD_strs,neD_strs,isND,isNotND,intF,absF,lenF,joinF,negD,List.map,List.length_cons,List.length_nil,List.cons_append,List.nil_append,List.append_nil,List.replicate,List.getElem?_cons_zero,List.getElem?_cons_succ,List.set_cons_zero,List.set_cons_succ,putAt,SL.put,stables,derefs,stable,deref,heldAt,SL.held,CT.data,CT.app,Int.reduceLT,Int.reduceLE,Int.reduceNeg,Nat.reduceAdd,Nat.reduceLeDiff,and_self,true_and,and_true,ite_true,if_true,List.nodup_cons,List.nodup_nil,List.not_mem_nil,not_false_eq_true,Nat.succ_ne_zero,eq_self,Option.bind_some,Option.bind,Option.map,id,asOut,B1_word_at,decide_eq_false c1]
      simp only [e]
      refine ⟨z3, z4, z5, z6, ?_⟩
      show forM _ _ (enT L (n + 1)) _ = _
      rw [ih]
      cases L.findIdx? (cov r p) with
      | none => rfl
      | some k =>
        show some (Fl.rt (.v (.int ((n + 1 + k : Nat) : Int))), _) = some (Fl.rt (.v (.int ((n + (k + 1) : Nat) : Int))), _)
        rw [show n + 1 + k = n + (k + 1) by omega]
theorem below_ok {i e : Int} (h0 : 0 ≤ i) (h1 : i < e) : F_is_below [.v (.int i), .v (.int e)] = some (.bool true, [.v (.int i), .v (.int e)]) := by
  have e1 : F_is_integer [.v (.int i)] = some (.bool true, [.v (.int i)]) := rfl
  simp only [putM,mRaise2,defM,defMc,defMX,mExprX,mSetX2,mCallX,mValX,mRaise,mTryK,mIsE,mFld,mIsN,mEnumA,mNil,mSeq,mSeqC,mRetC,mIfS,mRet,mSet,mSetX,mPut,mApp,mFrz,mAug,mPar,setAll,mUnp,gSet,gTupM,gsCons,gsNil,tVal,tAndM,tOrM,tNotM,tYesM,mBin,mUn,mAnd,mOr,mNot,mIf,mChain,mVar,mC,mCall,mCallF,mCallC,argsOf,argOf,ptrs,putBack,aNil,aCons,mTup,mLst,mV,mTell,xLst,xsNil,xsCons,mLenS,mIxS,mDict1,oNone,oSome,mFor,mIt,mRng1,xLc,ownOk,wp,unwp,startS,ixD,atI,addD_int,addD_str,addD_list,addD_tuple,subD,mulD_l,mulD_r,fdivD_pos,modD_pos,ltD_int,leD_int,gtD_int,geD_int,eqD_int,neD_int,eqD_tupE,eqD_strs,neD_strs,isND,isNotND,intF,absF,lenF,joinF,negD,List.map,List.length_cons,List.length_nil,List.cons_append,List.nil_append,List.append_nil,List.replicate,List.getElem?_cons_zero,List.getElem?_cons_succ,List.set_cons_zero,List.set_cons_succ,putAt,SL.put,stables,derefs,stable,deref,heldAt,SL.held,CT.data,CT.app,Int.reduceLT,Int.reduceLE,Int.reduceNeg,Nat.reduceAdd,Nat.reduceLeDiff,and_self,true_and,and_true,ite_true,if_true,List.nodup_cons,List.nodup_nil,List.not_mem_nil,not_false_eq_true,Nat.succ_ne_zero,eq_self,Option.bind_some,Option.bind,Option.map,id,asOut,F_is_below,m_is_below,e1,decide_eq_true h0,decide_eq_true h1]
theorem word_at_ok {d : PyData} {L : List Tri} {r p R P : Int} {z0 : Str} (ec : F_check_page [.v d] = some (.val .none, [.v d])) (el : lenF [d] = some (.int R)) (e0 : ixD d (.int 0) = some (.str z0)) (ez : lenF [.str z0] = some (.int P)) (ew : F_words_of_page [.v d] = some (.list (L.map triW), [.v d])) (hL : ∀ t ∈ L, t.2.2.length ≤ 1000)
    (r0 : 0 ≤ r) (r1 : r < R) (p0 : 0 ≤ p) (p1 : p < P) : F_word_at [.v d, .v (.int r), .v (.int p)] = some (.val (numD L r p), [.v d, .v (.int r), .v (.int p)]) := by
  have b1 := below_ok r0 r1
  have b2 := below_ok p0 p1
  obtain ⟨z3, z4, z5, z6, e⟩ := wa_loop (d := d) (r := r) (p := p) L 0 none none none none hL
  have ei : mEnumA (aCons (mCallF 1 F_words_of_page (aCons (mVar 0) (aNil))) (aNil)) [some (.v d), some (.v (.int r)), some (.v (.int p)), none, none, none, none] = some (enT L 0, [some (.v d), some (.v (.int r)), some (.v (.int p)), none, none, none, none]) := by
    rw [← enumD_enT]
    simp only [putM,mRaise2,defM,defMc,defMX,mExprX,mSetX2,mCallX,mValX,mRaise,mTryK,mIsE,mFld,mIsN,mEnumA,mNil,mSeq,mSeqC,mRetC,mIfS,mRet,mSet,mSetX,mPut,mApp,mFrz,mAug,mPar,setAll,mUnp,gSet,gTupM,gsCons,gsNil,tVal,tAndM,tOrM,tNotM,tYesM,mBin,mUn,mAnd,mOr,mNot,mIf,mChain,mVar,mC,mCall,mCallF,mCallC,argsOf,argOf,ptrs,putBack,aNil,aCons,mTup,mLst,mV,mTell,xLst,xsNil,xsCons,mLenS,mIxS,mDict1,oNone,oSome,mFor,mIt,mRng1,xLc,ownOk,wp,unwp,startS,ixD,atI,addD_int,addD_str,addD_list,addD_tuple,subD,mulD_l,mulD_r,fdivD_pos,modD_pos,ltD_int,leD_int,gtD_int,geD_int,eqD_int,neD_int,eqD_tupE,eqD_strs,neD_strs,isND,isNotND,intF,absF,lenF,joinF,negD,List.map,List.length_cons,List.length_nil,List.cons_append,List.nil_append,List.append_nil,List.replicate,List.getElem?_cons_zero,List.getElem?_cons_succ,List.set_cons_zero,List.set_cons_succ,putAt,SL.put,stables,derefs,stable,deref,heldAt,SL.held,CT.data,CT.app,Int.reduceLT,Int.reduceLE,Int.reduceNeg,Nat.reduceAdd,Nat.reduceLeDiff,and_self,true_and,and_true,ite_true,if_true,List.nodup_cons,List.nodup_nil,List.not_mem_nil,not_false_eq_true,Nat.succ_ne_zero,eq_self,Option.bind_some,Option.bind,Option.map,id,asOut,ew]
  have eL : L2_word_at [some (.v d), some (.v (.int r)), some (.v (.int p)), none, none, none, none] = some ((match L.findIdx? (cov r p) with
        | some k => .rt (.v (.int ((0 + k : Nat) : Int)))
        | none => .nx), [some (.v d), some (.v (.int r)), some (.v (.int p)), z3, z4, z5, z6]) := by
    unfold L2_word_at mFor
    rw [ei]
    exact e
  unfold numD
  cases q : L.findIdx? (cov r p) with
  | none =>
    rw [q] at eL
    have eL : L2_word_at [some (.v d), some (.v (.int r)), some (.v (.int p)), none, none, none, none] = some (.nx, [some (.v d), some (.v (.int r)), some (.v (.int p)), z3, z4, z5, z6]) := eL
    simp only [putM,mRaise2,defM,defMc,defMX,mExprX,mSetX2,mCallX,mValX,mRaise,mTryK,mIsE,mFld,mIsN,mEnumA,mNil,mSeq,mSeqC,mRetC,mIfS,mRet,mSet,mSetX,mPut,mApp,mFrz,mAug,mPar,setAll,mUnp,gSet,gTupM,gsCons,gsNil,tVal,tAndM,tOrM,tNotM,tYesM,mBin,mUn,mAnd,mOr,mNot,mIf,mChain,mVar,mC,mCall,mCallF,mCallC,argsOf,argOf,ptrs,putBack,aNil,aCons,mTup,mLst,mV,mTell,xLst,xsNil,xsCons,mLenS,mIxS,mDict1,oNone,oSome,mFor,mIt,mRng1,xLc,ownOk,wp,unwp,startS,ixD,atI,addD_int,addD_str,addD_list,addD_tuple,subD,mulD_l,mulD_r,fdivD_pos,modD_pos,ltD_int,leD_int,gtD_int,geD_int,eqD_int,neD_int,eqD_tupE,eqD_strs,neD_strs,isND,isNotND,intF,absF,lenF,joinF,negD,List.map,List.length_cons,List.length_nil,List.cons_append,List.nil_append,List.append_nil,List.replicate,List.getElem?_cons_zero,List.getElem?_cons_succ,List.set_cons_zero,List.set_cons_succ,putAt,SL.put,stables,derefs,stable,deref,heldAt,SL.held,CT.data,CT.app,Int.reduceLT,Int.reduceLE,Int.reduceNeg,Nat.reduceAdd,Nat.reduceLeDiff,and_self,true_and,and_true,ite_true,if_true,List.nodup_cons,List.nodup_nil,List.not_mem_nil,not_false_eq_true,Nat.succ_ne_zero,eq_self,Option.bind_some,Option.bind,Option.map,id,asOut,F_word_at,m_word_at,ec,↓el,b1,↓e0,↓ez,b2,Bool.not_true,eL]
  | some k =>
    rw [q] at eL
    have eL : L2_word_at [some (.v d), some (.v (.int r)), some (.v (.int p)), none, none, none, none] = some (.rt (.v (.int ((0 + k : Nat) : Int))), [some (.v d), some (.v (.int r)), some (.v (.int p)), z3, z4, z5, z6]) := eL
    rw [Nat.zero_add] at eL
    simp only [putM,mRaise2,defM,defMc,defMX,mExprX,mSetX2,mCallX,mValX,mRaise,mTryK,mIsE,mFld,mIsN,mEnumA,mNil,mSeq,mSeqC,mRetC,mIfS,mRet,mSet,mSetX,mPut,mApp,mFrz,mAug,mPar,setAll,mUnp,gSet,gTupM,gsCons,gsNil,tVal,tAndM,tOrM,tNotM,tYesM,mBin,mUn,mAnd,mOr,mNot,mIf,mChain,mVar,mC,mCall,mCallF,mCallC,argsOf,argOf,ptrs,putBack,aNil,aCons,mTup,mLst,mV,mTell,xLst,xsNil,xsCons,mLenS,mIxS,mDict1,oNone,oSome,mFor,mIt,mRng1,xLc,ownOk,wp,unwp,startS,ixD,atI,addD_int,addD_str,addD_list,addD_tuple,subD,mulD_l,mulD_r,fdivD_pos,modD_pos,ltD_int,leD_int,gtD_int,geD_int,eqD_int,neD_int,eqD_tupE,eqD_strs,neD_strs,isND,isNotND,intF,absF,lenF,joinF,negD,List.map,List.length_cons,List.length_nil,List.cons_append,List.nil_append,List.append_nil,List.replicate,List.getElem?_cons_zero,List.getElem?_cons_succ,List.set_cons_zero,List.set_cons_succ,putAt,SL.put,stables,derefs,stable,deref,heldAt,SL.held,CT.data,CT.app,Int.reduceLT,Int.reduceLE,Int.reduceNeg,Nat.reduceAdd,Nat.reduceLeDiff,and_self,true_and,and_true,ite_true,if_true,List.nodup_cons,List.nodup_nil,List.not_mem_nil,not_false_eq_true,Nat.succ_ne_zero,eq_self,Option.bind_some,Option.bind,Option.map,id,asOut,F_word_at,m_word_at,ec,↓el,b1,↓e0,↓ez,b2,Bool.not_true,eL]
def inB : PyData → Int → Bool
  | .int i, e => decide (0 ≤ i) && decide (i < e)
  | _, _ => false
theorem in_int {d : PyData} {e : Int} (h : inB d e = true) : ∃ i : Int, d = .int i ∧ 0 ≤ i ∧ i < e := by
  cases d with
  | int i =>
    have h : (decide (0 ≤ i) && decide (i < e)) = true := h
    rw [Bool.and_eq_true, decide_eq_true_eq, decide_eq_true_eq] at h
    exact ⟨i, rfl, h.1, h.2⟩
  | _ => cases h
theorem isi_int (d : PyData) : isiF "int" d = some (.bool (match d with | .int _ => true | .bool _ => true | _ => false)) := by
  cases d <;> (show (kitB _ "int").map PyData.bool = _; rfl)
theorem isi_bool (d : PyData) : isiF "bool" d = some (.bool (match d with | .bool _ => true | _ => false)) := by
  cases d <;> (show (kitB _ "bool").map PyData.bool = _; rfl)
theorem within_ok (d : PyData) (e : Int) : F__law_is_within [.v d, .v (.int e)] = some (.bool (inB d e), [.v d, .v (.int e)]) := by
  cases d with
  | int i =>
    by_cases h1 : 0 ≤ i
    · by_cases h2 : i < e
      · simp only [putM,mRaise2,defM,defMc,defMX,mExprX,mSetX2,mCallX,mValX,mRaise,mTryK,mIsE,mFld,mIsN,mEnumA,mNil,mSeq,mSeqC,mRetC,mIfS,mRet,mSet,mSetX,mPut,mApp,mFrz,mAug,mPar,setAll,mUnp,gSet,gTupM,gsCons,gsNil,tVal,tAndM,tOrM,tNotM,tYesM,mBin,mUn,mAnd,mOr,mNot,mIf,mChain,mVar,mC,mCall,mCallF,mCallC,argsOf,argOf,ptrs,putBack,aNil,aCons,mTup,mLst,mV,mTell,xLst,xsNil,xsCons,mLenS,mIxS,mDict1,oNone,oSome,mFor,mIt,mRng1,xLc,ownOk,wp,unwp,startS,ixD,atI,addD_int,addD_str,addD_list,addD_tuple,subD,mulD_l,mulD_r,fdivD_pos,modD_pos,ltD_int,leD_int,gtD_int,geD_int,eqD_int,neD_int,eqD_tupE,eqD_strs,neD_strs,isND,isNotND,intF,absF,lenF,joinF,negD,List.map,List.length_cons,List.length_nil,List.cons_append,List.nil_append,List.append_nil,List.replicate,List.getElem?_cons_zero,List.getElem?_cons_succ,List.set_cons_zero,List.set_cons_succ,putAt,SL.put,stables,derefs,stable,deref,heldAt,SL.held,CT.data,CT.app,Int.reduceLT,Int.reduceLE,Int.reduceNeg,Nat.reduceAdd,Nat.reduceLeDiff,and_self,true_and,and_true,ite_true,if_true,List.nodup_cons,List.nodup_nil,List.not_mem_nil,not_false_eq_true,Nat.succ_ne_zero,eq_self,Option.bind_some,Option.bind,Option.map,id,asOut,F__law_is_within,m__law_is_within,isi_int,isi_bool,Bool.not_false,inB,decide_eq_true h1,decide_eq_true h2,Bool.and_true]
      · simp only [putM,mRaise2,defM,defMc,defMX,mExprX,mSetX2,mCallX,mValX,mRaise,mTryK,mIsE,mFld,mIsN,mEnumA,mNil,mSeq,mSeqC,mRetC,mIfS,mRet,mSet,mSetX,mPut,mApp,mFrz,mAug,mPar,setAll,mUnp,gSet,gTupM,gsCons,gsNil,tVal,tAndM,tOrM,tNotM,tYesM,mBin,mUn,mAnd,mOr,mNot,mIf,mChain,mVar,mC,mCall,mCallF,mCallC,argsOf,argOf,ptrs,putBack,aNil,aCons,mTup,mLst,mV,mTell,xLst,xsNil,xsCons,mLenS,mIxS,mDict1,oNone,oSome,mFor,mIt,mRng1,xLc,ownOk,wp,unwp,startS,ixD,atI,addD_int,addD_str,addD_list,addD_tuple,subD,mulD_l,mulD_r,fdivD_pos,modD_pos,ltD_int,leD_int,gtD_int,geD_int,eqD_int,neD_int,eqD_tupE,eqD_strs,neD_strs,isND,isNotND,intF,absF,lenF,joinF,negD,List.map,List.length_cons,List.length_nil,List.cons_append,List.nil_append,List.append_nil,List.replicate,List.getElem?_cons_zero,List.getElem?_cons_succ,List.set_cons_zero,List.set_cons_succ,putAt,SL.put,stables,derefs,stable,deref,heldAt,SL.held,CT.data,CT.app,Int.reduceLT,Int.reduceLE,Int.reduceNeg,Nat.reduceAdd,Nat.reduceLeDiff,and_self,true_and,and_true,ite_true,if_true,List.nodup_cons,List.nodup_nil,List.not_mem_nil,not_false_eq_true,Nat.succ_ne_zero,eq_self,Option.bind_some,Option.bind,Option.map,id,asOut,F__law_is_within,m__law_is_within,isi_int,isi_bool,Bool.not_false,inB,decide_eq_true h1,decide_eq_false h2,Bool.and_false]
    · simp only [putM,mRaise2,defM,defMc,defMX,mExprX,mSetX2,mCallX,mValX,mRaise,mTryK,mIsE,mFld,mIsN,mEnumA,mNil,mSeq,mSeqC,mRetC,mIfS,mRet,mSet,mSetX,mPut,mApp,mFrz,mAug,mPar,setAll,mUnp,gSet,gTupM,gsCons,gsNil,tVal,tAndM,tOrM,tNotM,tYesM,mBin,mUn,mAnd,mOr,mNot,mIf,mChain,mVar,mC,mCall,mCallF,mCallC,argsOf,argOf,ptrs,putBack,aNil,aCons,mTup,mLst,mV,mTell,xLst,xsNil,xsCons,mLenS,mIxS,mDict1,oNone,oSome,mFor,mIt,mRng1,xLc,ownOk,wp,unwp,startS,ixD,atI,addD_int,addD_str,addD_list,addD_tuple,subD,mulD_l,mulD_r,fdivD_pos,modD_pos,ltD_int,leD_int,gtD_int,geD_int,eqD_int,neD_int,eqD_tupE,eqD_strs,neD_strs,isND,isNotND,intF,absF,lenF,joinF,negD,List.map,List.length_cons,List.length_nil,List.cons_append,List.nil_append,List.append_nil,List.replicate,List.getElem?_cons_zero,List.getElem?_cons_succ,List.set_cons_zero,List.set_cons_succ,putAt,SL.put,stables,derefs,stable,deref,heldAt,SL.held,CT.data,CT.app,Int.reduceLT,Int.reduceLE,Int.reduceNeg,Nat.reduceAdd,Nat.reduceLeDiff,and_self,true_and,and_true,ite_true,if_true,List.nodup_cons,List.nodup_nil,List.not_mem_nil,not_false_eq_true,Nat.succ_ne_zero,eq_self,Option.bind_some,Option.bind,Option.map,id,asOut,F__law_is_within,m__law_is_within,isi_int,isi_bool,Bool.not_false,inB,decide_eq_false h1,Bool.false_and]
  | bool b => simp only [putM,mRaise2,defM,defMc,defMX,mExprX,mSetX2,mCallX,mValX,mRaise,mTryK,mIsE,mFld,mIsN,mEnumA,mNil,mSeq,mSeqC,mRetC,mIfS,mRet,mSet,mSetX,mPut,mApp,mFrz,mAug,mPar,setAll,mUnp,gSet,gTupM,gsCons,gsNil,tVal,tAndM,tOrM,tNotM,tYesM,mBin,mUn,mAnd,mOr,mNot,mIf,mChain,mVar,mC,mCall,mCallF,mCallC,argsOf,argOf,ptrs,putBack,aNil,aCons,mTup,mLst,mV,mTell,xLst,xsNil,xsCons,mLenS,mIxS,mDict1,oNone,oSome,mFor,mIt,mRng1,xLc,ownOk,wp,unwp,startS,ixD,atI,addD_int,addD_str,addD_list,addD_tuple,subD,mulD_l,mulD_r,fdivD_pos,modD_pos,ltD_int,leD_int,gtD_int,geD_int,eqD_int,neD_int,eqD_tupE,eqD_strs,neD_strs,isND,isNotND,intF,absF,lenF,joinF,negD,List.map,List.length_cons,List.length_nil,List.cons_append,List.nil_append,List.append_nil,List.replicate,List.getElem?_cons_zero,List.getElem?_cons_succ,List.set_cons_zero,List.set_cons_succ,putAt,SL.put,stables,derefs,stable,deref,heldAt,SL.held,CT.data,CT.app,Int.reduceLT,Int.reduceLE,Int.reduceNeg,Nat.reduceAdd,Nat.reduceLeDiff,and_self,true_and,and_true,ite_true,if_true,List.nodup_cons,List.nodup_nil,List.not_mem_nil,not_false_eq_true,Nat.succ_ne_zero,eq_self,Option.bind_some,Option.bind,Option.map,id,asOut,F__law_is_within,m__law_is_within,isi_int,isi_bool,Bool.not_true,inB]
  | _ => simp only [putM,mRaise2,defM,defMc,defMX,mExprX,mSetX2,mCallX,mValX,mRaise,mTryK,mIsE,mFld,mIsN,mEnumA,mNil,mSeq,mSeqC,mRetC,mIfS,mRet,mSet,mSetX,mPut,mApp,mFrz,mAug,mPar,setAll,mUnp,gSet,gTupM,gsCons,gsNil,tVal,tAndM,tOrM,tNotM,tYesM,mBin,mUn,mAnd,mOr,mNot,mIf,mChain,mVar,mC,mCall,mCallF,mCallC,argsOf,argOf,ptrs,putBack,aNil,aCons,mTup,mLst,mV,mTell,xLst,xsNil,xsCons,mLenS,mIxS,mDict1,oNone,oSome,mFor,mIt,mRng1,xLc,ownOk,wp,unwp,startS,ixD,atI,addD_int,addD_str,addD_list,addD_tuple,subD,mulD_l,mulD_r,fdivD_pos,modD_pos,ltD_int,leD_int,gtD_int,geD_int,eqD_int,neD_int,eqD_tupE,eqD_strs,neD_strs,isND,isNotND,intF,absF,lenF,joinF,negD,List.map,List.length_cons,List.length_nil,List.cons_append,List.nil_append,List.append_nil,List.replicate,List.getElem?_cons_zero,List.getElem?_cons_succ,List.set_cons_zero,List.set_cons_succ,putAt,SL.put,stables,derefs,stable,deref,heldAt,SL.held,CT.data,CT.app,Int.reduceLT,Int.reduceLE,Int.reduceNeg,Nat.reduceAdd,Nat.reduceLeDiff,and_self,true_and,and_true,ite_true,if_true,List.nodup_cons,List.nodup_nil,List.not_mem_nil,not_false_eq_true,Nat.succ_ne_zero,eq_self,Option.bind_some,Option.bind,Option.map,id,asOut,F__law_is_within,m__law_is_within,isi_int,inB]
theorem below_all (d : PyData) (e : Int) : F_is_below [.v d, .v (.int e)] = some (.bool (inB d e), [.v d, .v (.int e)]) := by
  cases d with
  | int i =>
    by_cases h1 : 0 ≤ i
    · by_cases h2 : i < e
      · simp only [putM,mRaise2,defM,defMc,defMX,mExprX,mSetX2,mCallX,mValX,mRaise,mTryK,mIsE,mFld,mIsN,mEnumA,mNil,mSeq,mSeqC,mRetC,mIfS,mRet,mSet,mSetX,mPut,mApp,mFrz,mAug,mPar,setAll,mUnp,gSet,gTupM,gsCons,gsNil,tVal,tAndM,tOrM,tNotM,tYesM,mBin,mUn,mAnd,mOr,mNot,mIf,mChain,mVar,mC,mCall,mCallF,mCallC,argsOf,argOf,ptrs,putBack,aNil,aCons,mTup,mLst,mV,mTell,xLst,xsNil,xsCons,mLenS,mIxS,mDict1,oNone,oSome,mFor,mIt,mRng1,xLc,ownOk,wp,unwp,startS,ixD,atI,addD_int,addD_str,addD_list,addD_tuple,subD,mulD_l,mulD_r,fdivD_pos,modD_pos,ltD_int,leD_int,gtD_int,geD_int,eqD_int,neD_int,eqD_tupE,eqD_strs,neD_strs,isND,isNotND,intF,absF,lenF,joinF,negD,List.map,List.length_cons,List.length_nil,List.cons_append,List.nil_append,List.append_nil,List.replicate,List.getElem?_cons_zero,List.getElem?_cons_succ,List.set_cons_zero,List.set_cons_succ,putAt,SL.put,stables,derefs,stable,deref,heldAt,SL.held,CT.data,CT.app,Int.reduceLT,Int.reduceLE,Int.reduceNeg,Nat.reduceAdd,Nat.reduceLeDiff,and_self,true_and,and_true,ite_true,if_true,List.nodup_cons,List.nodup_nil,List.not_mem_nil,not_false_eq_true,Nat.succ_ne_zero,eq_self,Option.bind_some,Option.bind,Option.map,id,asOut,F_is_below,m_is_below,F_is_integer,m_is_integer,isi_int,isi_bool,Bool.not_false,inB,decide_eq_true h1,decide_eq_true h2,Bool.and_true]
      · simp only [putM,mRaise2,defM,defMc,defMX,mExprX,mSetX2,mCallX,mValX,mRaise,mTryK,mIsE,mFld,mIsN,mEnumA,mNil,mSeq,mSeqC,mRetC,mIfS,mRet,mSet,mSetX,mPut,mApp,mFrz,mAug,mPar,setAll,mUnp,gSet,gTupM,gsCons,gsNil,tVal,tAndM,tOrM,tNotM,tYesM,mBin,mUn,mAnd,mOr,mNot,mIf,mChain,mVar,mC,mCall,mCallF,mCallC,argsOf,argOf,ptrs,putBack,aNil,aCons,mTup,mLst,mV,mTell,xLst,xsNil,xsCons,mLenS,mIxS,mDict1,oNone,oSome,mFor,mIt,mRng1,xLc,ownOk,wp,unwp,startS,ixD,atI,addD_int,addD_str,addD_list,addD_tuple,subD,mulD_l,mulD_r,fdivD_pos,modD_pos,ltD_int,leD_int,gtD_int,geD_int,eqD_int,neD_int,eqD_tupE,eqD_strs,neD_strs,isND,isNotND,intF,absF,lenF,joinF,negD,List.map,List.length_cons,List.length_nil,List.cons_append,List.nil_append,List.append_nil,List.replicate,List.getElem?_cons_zero,List.getElem?_cons_succ,List.set_cons_zero,List.set_cons_succ,putAt,SL.put,stables,derefs,stable,deref,heldAt,SL.held,CT.data,CT.app,Int.reduceLT,Int.reduceLE,Int.reduceNeg,Nat.reduceAdd,Nat.reduceLeDiff,and_self,true_and,and_true,ite_true,if_true,List.nodup_cons,List.nodup_nil,List.not_mem_nil,not_false_eq_true,Nat.succ_ne_zero,eq_self,Option.bind_some,Option.bind,Option.map,id,asOut,F_is_below,m_is_below,F_is_integer,m_is_integer,isi_int,isi_bool,Bool.not_false,inB,decide_eq_true h1,decide_eq_false h2,Bool.and_false]
    · simp only [putM,mRaise2,defM,defMc,defMX,mExprX,mSetX2,mCallX,mValX,mRaise,mTryK,mIsE,mFld,mIsN,mEnumA,mNil,mSeq,mSeqC,mRetC,mIfS,mRet,mSet,mSetX,mPut,mApp,mFrz,mAug,mPar,setAll,mUnp,gSet,gTupM,gsCons,gsNil,tVal,tAndM,tOrM,tNotM,tYesM,mBin,mUn,mAnd,mOr,mNot,mIf,mChain,mVar,mC,mCall,mCallF,mCallC,argsOf,argOf,ptrs,putBack,aNil,aCons,mTup,mLst,mV,mTell,xLst,xsNil,xsCons,mLenS,mIxS,mDict1,oNone,oSome,mFor,mIt,mRng1,xLc,ownOk,wp,unwp,startS,ixD,atI,addD_int,addD_str,addD_list,addD_tuple,subD,mulD_l,mulD_r,fdivD_pos,modD_pos,ltD_int,leD_int,gtD_int,geD_int,eqD_int,neD_int,eqD_tupE,eqD_strs,neD_strs,isND,isNotND,intF,absF,lenF,joinF,negD,List.map,List.length_cons,List.length_nil,List.cons_append,List.nil_append,List.append_nil,List.replicate,List.getElem?_cons_zero,List.getElem?_cons_succ,List.set_cons_zero,List.set_cons_succ,putAt,SL.put,stables,derefs,stable,deref,heldAt,SL.held,CT.data,CT.app,Int.reduceLT,Int.reduceLE,Int.reduceNeg,Nat.reduceAdd,Nat.reduceLeDiff,and_self,true_and,and_true,ite_true,if_true,List.nodup_cons,List.nodup_nil,List.not_mem_nil,not_false_eq_true,Nat.succ_ne_zero,eq_self,Option.bind_some,Option.bind,Option.map,id,asOut,F_is_below,m_is_below,F_is_integer,m_is_integer,isi_int,isi_bool,Bool.not_false,inB,decide_eq_false h1,Bool.false_and]
  | bool b => simp only [putM,mRaise2,defM,defMc,defMX,mExprX,mSetX2,mCallX,mValX,mRaise,mTryK,mIsE,mFld,mIsN,mEnumA,mNil,mSeq,mSeqC,mRetC,mIfS,mRet,mSet,mSetX,mPut,mApp,mFrz,mAug,mPar,setAll,mUnp,gSet,gTupM,gsCons,gsNil,tVal,tAndM,tOrM,tNotM,tYesM,mBin,mUn,mAnd,mOr,mNot,mIf,mChain,mVar,mC,mCall,mCallF,mCallC,argsOf,argOf,ptrs,putBack,aNil,aCons,mTup,mLst,mV,mTell,xLst,xsNil,xsCons,mLenS,mIxS,mDict1,oNone,oSome,mFor,mIt,mRng1,xLc,ownOk,wp,unwp,startS,ixD,atI,addD_int,addD_str,addD_list,addD_tuple,subD,mulD_l,mulD_r,fdivD_pos,modD_pos,ltD_int,leD_int,gtD_int,geD_int,eqD_int,neD_int,eqD_tupE,eqD_strs,neD_strs,isND,isNotND,intF,absF,lenF,joinF,negD,List.map,List.length_cons,List.length_nil,List.cons_append,List.nil_append,List.append_nil,List.replicate,List.getElem?_cons_zero,List.getElem?_cons_succ,List.set_cons_zero,List.set_cons_succ,putAt,SL.put,stables,derefs,stable,deref,heldAt,SL.held,CT.data,CT.app,Int.reduceLT,Int.reduceLE,Int.reduceNeg,Nat.reduceAdd,Nat.reduceLeDiff,and_self,true_and,and_true,ite_true,if_true,List.nodup_cons,List.nodup_nil,List.not_mem_nil,not_false_eq_true,Nat.succ_ne_zero,eq_self,Option.bind_some,Option.bind,Option.map,id,asOut,F_is_below,m_is_below,F_is_integer,m_is_integer,isi_int,isi_bool,Bool.not_true,inB]
  | _ => simp only [putM,mRaise2,defM,defMc,defMX,mExprX,mSetX2,mCallX,mValX,mRaise,mTryK,mIsE,mFld,mIsN,mEnumA,mNil,mSeq,mSeqC,mRetC,mIfS,mRet,mSet,mSetX,mPut,mApp,mFrz,mAug,mPar,setAll,mUnp,gSet,gTupM,gsCons,gsNil,tVal,tAndM,tOrM,tNotM,tYesM,mBin,mUn,mAnd,mOr,mNot,mIf,mChain,mVar,mC,mCall,mCallF,mCallC,argsOf,argOf,ptrs,putBack,aNil,aCons,mTup,mLst,mV,mTell,xLst,xsNil,xsCons,mLenS,mIxS,mDict1,oNone,oSome,mFor,mIt,mRng1,xLc,ownOk,wp,unwp,startS,ixD,atI,addD_int,addD_str,addD_list,addD_tuple,subD,mulD_l,mulD_r,fdivD_pos,modD_pos,ltD_int,leD_int,gtD_int,geD_int,eqD_int,neD_int,eqD_tupE,eqD_strs,neD_strs,isND,isNotND,intF,absF,lenF,joinF,negD,List.map,List.length_cons,List.length_nil,List.cons_append,List.nil_append,List.append_nil,List.replicate,List.getElem?_cons_zero,List.getElem?_cons_succ,List.set_cons_zero,List.set_cons_succ,putAt,SL.put,stables,derefs,stable,deref,heldAt,SL.held,CT.data,CT.app,Int.reduceLT,Int.reduceLE,Int.reduceNeg,Nat.reduceAdd,Nat.reduceLeDiff,and_self,true_and,and_true,ite_true,if_true,List.nodup_cons,List.nodup_nil,List.not_mem_nil,not_false_eq_true,Nat.succ_ne_zero,eq_self,Option.bind_some,Option.bind,Option.map,id,asOut,F_is_below,m_is_below,F_is_integer,m_is_integer,isi_int,inB]
theorem numD_fin {L : List Tri} (hL : L.length ≤ 1000) (r p : Int) : Fin 0 19 (numD L r p) := by
  unfold numD
  cases h : L.findIdx? (cov r p) with
  | none => exact Fin.none (by decide)
  | some k =>
    have : k < L.length := (List.findIdx?_eq_some_iff_getElem.mp h).1
    exact Fin.int (by omega) (by omega) (by decide)
theorem neD_same1 (k : Int) : neDD (.int k) (.int k) = some (.bool false) := by
  rw [neD_int, decide_eq_true rfl]
  rfl
theorem neD_num {L : List Tri} (r p : Int) : neDD (numD L r p) (numD L r p) = some (.bool false) := by
  unfold numD
  cases L.findIdx? (cov r p) with
  | none => rfl
  | some k => exact neD_same1 _
structure PgOk (ds due : List PyData) (L : List Tri) (R P : Int) : Prop where
  R1 : 1 ≤ R
  R2 : R ≤ 12
  P1 : 1 ≤ P
  P2 : P ≤ 24
  ec : F_check_page [.v (.tuple ds)] = some (.val .none, [.v (.tuple ds)])
  el : lenF [.tuple ds] = some (.int R)
  e0 : ∃ z0 : Str, ixD (.tuple ds) (.int 0) = some (.str z0) ∧ lenF [.str z0] = some (.int P)
  ew : F_words_of_page [.v (.tuple ds)] = some (.list (L.map triW), [.v (.tuple ds)])
  hL : ∀ t ∈ L, t.2.2.length ≤ 1000
  Ln : L.length ≤ 1000
  num : ∀ r : Nat, (r : Int) < R → ∃ row, ixD (.list due) (.int (r : Nat)) = some (.list row) ∧ row.length = P.toNat ∧ ∀ p : Nat, (p : Int) < P → row[p]? = some (numD L r p)
  fin : FinA 0 4000 ds
  dl : ds.length ≤ 12
section
variable {ds due : List PyData} {L : List Tri} {R P : Int}
theorem PgOk.at (h : PgOk ds due L R P) {r p : Int} (r0 : 0 ≤ r) (r1 : r < R) (p0 : 0 ≤ p) (p1 : p < P) : F_word_at [.v (.tuple ds), .v (.int r), .v (.int p)] = some (.val (numD L r p), [.v (.tuple ds), .v (.int r), .v (.int p)]) := by
  obtain ⟨z0, e0, ez⟩ := h.e0
  exact word_at_ok h.ec h.el e0 ez h.ew h.hL r0 r1 p0 p1
theorem PgOk.bad (h : PgOk ds due L R P) {a b : PyData} (q : (inB a R && inB b P) = false) : F_word_at [.v (.tuple ds), .v a, .v b] = some (.exc "BadPlace" [("row", a), ("place", b)], [.v (.tuple ds), .v a, .v b]) := by
  obtain ⟨z0, e0, ez⟩ := h.e0
  have b1 := below_all a R
  have b2 := below_all b P
  have ec := h.ec
  have el := h.el
  cases q1 : inB a R with
  | false =>
    rw [q1] at b1
    simp only [putM,mRaise2,defM,defMc,defMX,mExprX,mSetX2,mCallX,mValX,mRaise,mTryK,mIsE,mFld,mIsN,mEnumA,mNil,mSeq,mSeqC,mRetC,mIfS,mRet,mSet,mSetX,mPut,mApp,mFrz,mAug,mPar,setAll,mUnp,gSet,gTupM,gsCons,gsNil,tVal,tAndM,tOrM,tNotM,tYesM,mBin,mUn,mAnd,mOr,mNot,mIf,mChain,mVar,mC,mCall,mCallF,mCallC,argsOf,argOf,ptrs,putBack,aNil,aCons,mTup,mLst,mV,mTell,xLst,xsNil,xsCons,mLenS,mIxS,mDict1,oNone,oSome,mFor,mIt,mRng1,xLc,ownOk,wp,unwp,startS,ixD,atI,addD_int,addD_str,addD_list,addD_tuple,subD,mulD_l,mulD_r,fdivD_pos,modD_pos,ltD_int,leD_int,gtD_int,geD_int,eqD_int,neD_int,eqD_tupE,eqD_strs,neD_strs,isND,isNotND,intF,absF,lenF,joinF,negD,List.map,List.length_cons,List.length_nil,List.cons_append,List.nil_append,List.append_nil,List.replicate,List.getElem?_cons_zero,List.getElem?_cons_succ,List.set_cons_zero,List.set_cons_succ,putAt,SL.put,stables,derefs,stable,deref,heldAt,SL.held,CT.data,CT.app,Int.reduceLT,Int.reduceLE,Int.reduceNeg,Nat.reduceAdd,Nat.reduceLeDiff,and_self,true_and,and_true,ite_true,if_true,List.nodup_cons,List.nodup_nil,List.not_mem_nil,not_false_eq_true,Nat.succ_ne_zero,eq_self,Option.bind_some,Option.bind,Option.map,id,asOut,F_word_at,m_word_at,ec,↓el,b1,Bool.not_false]
  | true =>
    rw [q1, Bool.true_and] at q
    rw [q1] at b1
    rw [q] at b2
    simp only [putM,mRaise2,defM,defMc,defMX,mExprX,mSetX2,mCallX,mValX,mRaise,mTryK,mIsE,mFld,mIsN,mEnumA,mNil,mSeq,mSeqC,mRetC,mIfS,mRet,mSet,mSetX,mPut,mApp,mFrz,mAug,mPar,setAll,mUnp,gSet,gTupM,gsCons,gsNil,tVal,tAndM,tOrM,tNotM,tYesM,mBin,mUn,mAnd,mOr,mNot,mIf,mChain,mVar,mC,mCall,mCallF,mCallC,argsOf,argOf,ptrs,putBack,aNil,aCons,mTup,mLst,mV,mTell,xLst,xsNil,xsCons,mLenS,mIxS,mDict1,oNone,oSome,mFor,mIt,mRng1,xLc,ownOk,wp,unwp,startS,ixD,atI,addD_int,addD_str,addD_list,addD_tuple,subD,mulD_l,mulD_r,fdivD_pos,modD_pos,ltD_int,leD_int,gtD_int,geD_int,eqD_int,neD_int,eqD_tupE,eqD_strs,neD_strs,isND,isNotND,intF,absF,lenF,joinF,negD,List.map,List.length_cons,List.length_nil,List.cons_append,List.nil_append,List.append_nil,List.replicate,List.getElem?_cons_zero,List.getElem?_cons_succ,List.set_cons_zero,List.set_cons_succ,putAt,SL.put,stables,derefs,stable,deref,heldAt,SL.held,CT.data,CT.app,Int.reduceLT,Int.reduceLE,Int.reduceNeg,Nat.reduceAdd,Nat.reduceLeDiff,and_self,true_and,and_true,ite_true,if_true,List.nodup_cons,List.nodup_nil,List.not_mem_nil,not_false_eq_true,Nat.succ_ne_zero,eq_self,Option.bind_some,Option.bind,Option.map,id,asOut,F_word_at,m_word_at,ec,↓el,b1,↓e0,↓ez,b2,Bool.not_true,Bool.not_false]
theorem no_page {d a b : PyData} (ec : F_check_page [.v d] = some (.exc "BadPage" [("value", d)], [.v d])) : F_word_at [.v d, .v a, .v b] = some (.exc "BadPage" [("value", d)], [.v d, .v a, .v b]) := by
  simp only [putM,mRaise2,defM,defMc,defMX,mExprX,mSetX2,mCallX,mValX,mRaise,mTryK,mIsE,mFld,mIsN,mEnumA,mNil,mSeq,mSeqC,mRetC,mIfS,mRet,mSet,mSetX,mPut,mApp,mFrz,mAug,mPar,setAll,mUnp,gSet,gTupM,gsCons,gsNil,tVal,tAndM,tOrM,tNotM,tYesM,mBin,mUn,mAnd,mOr,mNot,mIf,mChain,mVar,mC,mCall,mCallF,mCallC,argsOf,argOf,ptrs,putBack,aNil,aCons,mTup,mLst,mV,mTell,xLst,xsNil,xsCons,mLenS,mIxS,mDict1,oNone,oSome,mFor,mIt,mRng1,xLc,ownOk,wp,unwp,startS,ixD,atI,addD_int,addD_str,addD_list,addD_tuple,subD,mulD_l,mulD_r,fdivD_pos,modD_pos,ltD_int,leD_int,gtD_int,geD_int,eqD_int,neD_int,eqD_tupE,eqD_strs,neD_strs,isND,isNotND,intF,absF,lenF,joinF,negD,List.map,List.length_cons,List.length_nil,List.cons_append,List.nil_append,List.append_nil,List.replicate,List.getElem?_cons_zero,List.getElem?_cons_succ,List.set_cons_zero,List.set_cons_succ,putAt,SL.put,stables,derefs,stable,deref,heldAt,SL.held,CT.data,CT.app,Int.reduceLT,Int.reduceLE,Int.reduceNeg,Nat.reduceAdd,Nat.reduceLeDiff,and_self,true_and,and_true,ite_true,if_true,List.nodup_cons,List.nodup_nil,List.not_mem_nil,not_false_eq_true,Nat.succ_ne_zero,eq_self,Option.bind_some,Option.bind,Option.map,id,asOut,F_word_at,m_word_at,ec]
theorem lam_at {mo : MO2} {g : Out → Option PyData} {S S0 : Sl} {o : Out} {t : PyData} (hS : hideL S = S0) (e : mo S0 = some (o, S0)) (h : g o = some t) : mLam mo g S = some (.v t, S) := by
  unfold mLam
  simp only [hS,e,h,if_true,Option.map]
theorem jx1 : kx [("BadPage", true), ("BadPlace", true)] "BadPage" = some true := by decide +kernel
theorem jx2 : kx [("BadPage", true), ("BadPlace", true)] "BadPlace" = some true := by decide +kernel
theorem jx3 : kx [("BadPage", true), ("BadPlace", false)] "BadPage" = some true := by decide +kernel
theorem jx4 : kx [("BadPage", true), ("BadPlace", false)] "BadPlace" = some false := by decide +kernel
theorem jx5 : kx [("BadPage", false), ("BadPlace", true)] "BadPage" = some false := by decide +kernel
theorem jx6 : kx [("BadPage", false), ("BadPlace", true)] "BadPlace" = some true := by decide +kernel
theorem ko1 : kok [("BadPage", true), ("BadPlace", false)] "BadPage" = true := by decide +kernel
theorem ko2 : kok [("BadPage", false), ("BadPlace", true)] "BadPlace" = true := by decide +kernel
theorem heard_told (t : PyData) : givesO 4 m__law_heard (.val t) = some (.tuple [.str "told", t]) := by
  refine givesO_of fun f F0 => ?_
  refine ⟨?_, ?_⟩
  · exact [some (.s (.fn f F0)), some (.v .none), some (.v t), none]
  · simp only [putM,mRaise2,defM,defMc,defMX,mExprX,mSetX2,mCallX,mValX,mRaise,mTryK,mIsE,mFld,mIsN,mEnumA,mNil,mSeq,mSeqC,mRetC,mIfS,mRet,mSet,mSetX,mPut,mApp,mFrz,mAug,mPar,setAll,mUnp,gSet,gTupM,gsCons,gsNil,tVal,tAndM,tOrM,tNotM,tYesM,mBin,mUn,mAnd,mOr,mNot,mIf,mChain,mVar,mC,mCall,mCallF,mCallC,argsOf,argOf,ptrs,putBack,aNil,aCons,mTup,mLst,mV,mTell,xLst,xsNil,xsCons,mLenS,mIxS,mDict1,oNone,oSome,mFor,mIt,mRng1,xLc,ownOk,wp,unwp,startS,ixD,atI,addD_int,addD_str,addD_list,addD_tuple,subD,mulD_l,mulD_r,fdivD_pos,modD_pos,ltD_int,leD_int,gtD_int,geD_int,eqD_int,neD_int,eqD_tupE,eqD_strs,neD_strs,isND,isNotND,intF,absF,lenF,joinF,negD,List.map,List.length_cons,List.length_nil,List.cons_append,List.nil_append,List.append_nil,List.replicate,List.getElem?_cons_zero,List.getElem?_cons_succ,List.set_cons_zero,List.set_cons_succ,putAt,SL.put,stables,derefs,stable,deref,heldAt,SL.held,CT.data,CT.app,Int.reduceLT,Int.reduceLE,Int.reduceNeg,Nat.reduceAdd,Nat.reduceLeDiff,and_self,true_and,and_true,ite_true,if_true,List.nodup_cons,List.nodup_nil,List.not_mem_nil,not_false_eq_true,Nat.succ_ne_zero,eq_self,Option.bind_some,Option.bind,Option.map,id,asOut,m__law_heard,mAct_eq,isNo]
theorem heard_page (v : PyData) : givesO 4 m__law_heard (.exc "BadPage" [("value", v)]) = some (.tuple [.str "page", v]) := by
  have lk : List.lookup ("value" : Str) [(("value" : Str), v)] = some v := rfl
  refine givesO_of fun f F0 => ?_
  refine ⟨?_, ?_⟩
  · exact [some (.s (.fn f F0)), some (.s (.ex "BadPage" [("value", v)])), some (.v .none), none]
  · simp only [putM,mRaise2,defM,defMc,defMX,mExprX,mSetX2,mCallX,mValX,mRaise,mTryK,mIsE,mFld,mIsN,mEnumA,mNil,mSeq,mSeqC,mRetC,mIfS,mRet,mSet,mSetX,mPut,mApp,mFrz,mAug,mPar,setAll,mUnp,gSet,gTupM,gsCons,gsNil,tVal,tAndM,tOrM,tNotM,tYesM,mBin,mUn,mAnd,mOr,mNot,mIf,mChain,mVar,mC,mCall,mCallF,mCallC,argsOf,argOf,ptrs,putBack,aNil,aCons,mTup,mLst,mV,mTell,xLst,xsNil,xsCons,mLenS,mIxS,mDict1,oNone,oSome,mFor,mIt,mRng1,xLc,ownOk,wp,unwp,startS,ixD,atI,addD_int,addD_str,addD_list,addD_tuple,subD,mulD_l,mulD_r,fdivD_pos,modD_pos,ltD_int,leD_int,gtD_int,geD_int,eqD_int,neD_int,eqD_tupE,eqD_strs,neD_strs,isND,isNotND,intF,absF,lenF,joinF,negD,List.map,List.length_cons,List.length_nil,List.cons_append,List.nil_append,List.append_nil,List.replicate,List.getElem?_cons_zero,List.getElem?_cons_succ,List.set_cons_zero,List.set_cons_succ,putAt,SL.put,stables,derefs,stable,deref,heldAt,SL.held,CT.data,CT.app,Int.reduceLT,Int.reduceLE,Int.reduceNeg,Nat.reduceAdd,Nat.reduceLeDiff,and_self,true_and,and_true,ite_true,if_true,List.nodup_cons,List.nodup_nil,List.not_mem_nil,not_false_eq_true,Nat.succ_ne_zero,eq_self,Option.bind_some,Option.bind,Option.map,id,asOut,m__law_heard,mAct_eq,isNo,Nat.reduceLT,jx1,jx2,jx3,jx4,jx5,jx6,ko1,ko2,lk,Bool.not_false]
theorem heard_place (a b : PyData) : givesO 4 m__law_heard (.exc "BadPlace" [("row", a), ("place", b)]) = some (.tuple [.str "place", a, b]) := by
  have l1 : List.lookup ("row" : Str) [(("row" : Str), a), ("place", b)] = some a := rfl
  have l2 : List.lookup ("place" : Str) [(("row" : Str), a), ("place", b)] = some b := rfl
  refine givesO_of fun f F0 => ?_
  refine ⟨?_, ?_⟩
  · exact [some (.s (.fn f F0)), some (.s (.ex "BadPlace" [("row", a), ("place", b)])), some (.v .none), none]
  · simp only [putM,mRaise2,defM,defMc,defMX,mExprX,mSetX2,mCallX,mValX,mRaise,mTryK,mIsE,mFld,mIsN,mEnumA,mNil,mSeq,mSeqC,mRetC,mIfS,mRet,mSet,mSetX,mPut,mApp,mFrz,mAug,mPar,setAll,mUnp,gSet,gTupM,gsCons,gsNil,tVal,tAndM,tOrM,tNotM,tYesM,mBin,mUn,mAnd,mOr,mNot,mIf,mChain,mVar,mC,mCall,mCallF,mCallC,argsOf,argOf,ptrs,putBack,aNil,aCons,mTup,mLst,mV,mTell,xLst,xsNil,xsCons,mLenS,mIxS,mDict1,oNone,oSome,mFor,mIt,mRng1,xLc,ownOk,wp,unwp,startS,ixD,atI,addD_int,addD_str,addD_list,addD_tuple,subD,mulD_l,mulD_r,fdivD_pos,modD_pos,ltD_int,leD_int,gtD_int,geD_int,eqD_int,neD_int,eqD_tupE,eqD_strs,neD_strs,isND,isNotND,intF,absF,lenF,joinF,negD,List.map,List.length_cons,List.length_nil,List.cons_append,List.nil_append,List.append_nil,List.replicate,List.getElem?_cons_zero,List.getElem?_cons_succ,List.set_cons_zero,List.set_cons_succ,putAt,SL.put,stables,derefs,stable,deref,heldAt,SL.held,CT.data,CT.app,Int.reduceLT,Int.reduceLE,Int.reduceNeg,Nat.reduceAdd,Nat.reduceLeDiff,and_self,true_and,and_true,ite_true,if_true,List.nodup_cons,List.nodup_nil,List.not_mem_nil,not_false_eq_true,Nat.succ_ne_zero,eq_self,Option.bind_some,Option.bind,Option.map,id,asOut,m__law_heard,mAct_eq,isNo,Nat.reduceLT,jx1,jx2,jx3,jx4,jx5,jx6,ko1,ko2,l1,l2,Bool.not_false,Bool.not_true]
end
end VL
namespace VL
open PySem PySem.Spec PyProof.Rows L2
theorem ix_list_at {xs : List PyData} {k : Nat} {d : PyData} (h : xs[k]? = some d) : ixD (.list xs) (.int ((k : Nat) : Int)) = some d := by
  show atI xs (k : Int) = some d
  rw [atI_nat]
  exact h
theorem set_of (i : Nat) {me : ME} {S S1 : Sl} {d : PyData} (h : me S = some (.v d, S1)) : mSet i me S = some (.nx, S1.set i (some (.v d))) := by simp only [mSet, h]
theorem sq {m n : MS} {S S1 : Sl} (h : m S = some (.nx, S1)) : mSeq m n S = n S1 := by simp only [mSeq, h]
section
variable {ds due : List PyData} {L : List Tri} {R P : Int}
def stR (ds due : List PyData) (R P : Int) (p : Pot) (y5 y6 y7 y8 y9 y10 : Option SL) : Sl := [some (.q (.l (potD p))), some (.v (.tuple ds)), some (.v (.list due)), some (.v (.int R)), some (.v (.int P)), y5, y6, y7, y8, y9, y10]
theorem pick5 (h : PgOk ds due L R P) {p : Pot} {n : Nat} (hb : Bud (n + 40) p) (y5 y6 y7 y8 y9 y10 : Option SL) : ∃ a p', mCallF 2 F__law_of (aCons (mVar 0) (aCons (mLst (aCons (mCallF 2 F__law_take (aCons (mVar 0) (aCons (mVar 3) (aNil)))) (aCons (mVar 3) (aCons (mUn negD (mC (.int 1))) (aCons (mBin subD (mVar 3) (mC (.int 1))) (aCons (mC (.bool true)) (aCons (mCallF 1 F__law_odd (aCons (mVar 0) (aNil))) (aNil)))))))) (aNil))) (stR ds due R P p y5 y6 y7 y8 y9 y10) = some (.v a, stR ds due R P p' y5 y6 y7 y8 y9 y10) ∧ Fin 33 1000 a ∧ Bud n p' := by
  have R1 := h.R1
  have R2 := h.R2
  obtain ⟨r, p1, e1, r0, r1, b1⟩ := take_ok (p := p) (many := R) (n := n + 39) (hb.le (by omega)) (by omega) (by omega)
  obtain ⟨o, os, e2, p2, rfl, f2, b2⟩ := odd_ok (p := p1) (n := n + 1) (b1.le (by omega))
  obtain ⟨a, p3, e3, ha, b3⟩ := of_ok (p := p2) (ds := [.int r, .int R, .int (-1), .int (R - 1), .bool true, o]) (n := n) b2 (by simp only [List.length_cons]; omega) (by simp only [List.length_cons, List.length_nil]; omega)
  refine ⟨a, p3, ?_, ?_, b3⟩
  · simp only [putM,mRaise2,defM,defMc,defMX,mExprX,mSetX2,mCallX,mValX,mRaise,mTryK,mIsE,mFld,mIsN,mEnumA,mNil,mSeq,mSeqC,mRetC,mIfS,mRet,mSet,mSetX,mPut,mApp,mFrz,mAug,mPar,setAll,mUnp,gSet,gTupM,gsCons,gsNil,tVal,tAndM,tOrM,tNotM,tYesM,mBin,mUn,mAnd,mOr,mNot,mIf,mChain,mVar,mC,mCall,mCallF,mCallC,argsOf,argOf,ptrs,putBack,aNil,aCons,mTup,mLst,mV,mTell,xLst,xsNil,xsCons,mLenS,mIxS,mDict1,oNone,oSome,mFor,mIt,mRng1,xLc,ownOk,wp,unwp,startS,ixD,atI,addD_int,addD_str,addD_list,addD_tuple,subD,mulD_l,mulD_r,fdivD_pos,modD_pos,ltD_int,leD_int,gtD_int,geD_int,eqD_int,neD_int,eqD_tupE,eqD_strs,neD_strs,isND,isNotND,intF,absF,lenF,joinF,negD,List.map,List.length_cons,List.length_nil,List.cons_append,List.nil_append,List.append_nil,List.replicate,List.getElem?_cons_zero,List.getElem?_cons_succ,List.set_cons_zero,List.set_cons_succ,putAt,SL.put,stables,derefs,stable,deref,heldAt,SL.held,CT.data,CT.app,Int.reduceLT,Int.reduceLE,Int.reduceNeg,Nat.reduceAdd,Nat.reduceLeDiff,and_self,true_and,and_true,ite_true,if_true,List.nodup_cons,List.nodup_nil,List.not_mem_nil,not_false_eq_true,Nat.succ_ne_zero,eq_self,Option.bind_some,Option.bind,Option.map,id,asOut,stR,e1,e2,e3]
  · simp only [List.mem_cons,List.not_mem_nil,or_false] at ha
    rcases ha with rfl | rfl | rfl | rfl | rfl | rfl
    · exact Fin.int (by omega) (by omega) (by omega)
    · exact Fin.int (by omega) (by omega) (by omega)
    · exact Fin.int (by omega) (by omega) (by omega)
    · exact Fin.int (by omega) (by omega) (by omega)
    · exact Fin.bool (by omega)
    · exact f2
theorem pick7 (h : PgOk ds due L R P) {p : Pot} {n : Nat} (hb : Bud (n + 40) p) (y5 y6 y7 y8 y9 y10 : Option SL) : ∃ a p', mCallF 2 F__law_of (aCons (mVar 0) (aCons (mLst (aCons (mCallF 2 F__law_take (aCons (mVar 0) (aCons (mVar 4) (aNil)))) (aCons (mVar 4) (aCons (mUn negD (mC (.int 1))) (aCons (mBin subD (mVar 4) (mC (.int 1))) (aCons (mC (.bool false)) (aCons (mCallF 1 F__law_odd (aCons (mVar 0) (aNil))) (aNil)))))))) (aNil))) (stR ds due R P p y5 y6 y7 y8 y9 y10) = some (.v a, stR ds due R P p' y5 y6 y7 y8 y9 y10) ∧ Fin 33 1000 a ∧ Bud n p' := by
  have R1 := h.P1
  have R2 := h.P2
  obtain ⟨r, p1, e1, r0, r1, b1⟩ := take_ok (p := p) (many := P) (n := n + 39) (hb.le (by omega)) (by omega) (by omega)
  obtain ⟨o, os, e2, p2, rfl, f2, b2⟩ := odd_ok (p := p1) (n := n + 1) (b1.le (by omega))
  obtain ⟨a, p3, e3, ha, b3⟩ := of_ok (p := p2) (ds := [.int r, .int P, .int (-1), .int (P - 1), .bool false, o]) (n := n) b2 (by simp only [List.length_cons]; omega) (by simp only [List.length_cons, List.length_nil]; omega)
  refine ⟨a, p3, ?_, ?_, b3⟩
  · simp only [putM,mRaise2,defM,defMc,defMX,mExprX,mSetX2,mCallX,mValX,mRaise,mTryK,mIsE,mFld,mIsN,mEnumA,mNil,mSeq,mSeqC,mRetC,mIfS,mRet,mSet,mSetX,mPut,mApp,mFrz,mAug,mPar,setAll,mUnp,gSet,gTupM,gsCons,gsNil,tVal,tAndM,tOrM,tNotM,tYesM,mBin,mUn,mAnd,mOr,mNot,mIf,mChain,mVar,mC,mCall,mCallF,mCallC,argsOf,argOf,ptrs,putBack,aNil,aCons,mTup,mLst,mV,mTell,xLst,xsNil,xsCons,mLenS,mIxS,mDict1,oNone,oSome,mFor,mIt,mRng1,xLc,ownOk,wp,unwp,startS,ixD,atI,addD_int,addD_str,addD_list,addD_tuple,subD,mulD_l,mulD_r,fdivD_pos,modD_pos,ltD_int,leD_int,gtD_int,geD_int,eqD_int,neD_int,eqD_tupE,eqD_strs,neD_strs,isND,isNotND,intF,absF,lenF,joinF,negD,List.map,List.length_cons,List.length_nil,List.cons_append,List.nil_append,List.append_nil,List.replicate,List.getElem?_cons_zero,List.getElem?_cons_succ,List.set_cons_zero,List.set_cons_succ,putAt,SL.put,stables,derefs,stable,deref,heldAt,SL.held,CT.data,CT.app,Int.reduceLT,Int.reduceLE,Int.reduceNeg,Nat.reduceAdd,Nat.reduceLeDiff,and_self,true_and,and_true,ite_true,if_true,List.nodup_cons,List.nodup_nil,List.not_mem_nil,not_false_eq_true,Nat.succ_ne_zero,eq_self,Option.bind_some,Option.bind,Option.map,id,asOut,stR,e1,e2,e3]
  · simp only [List.mem_cons,List.not_mem_nil,or_false] at ha
    rcases ha with rfl | rfl | rfl | rfl | rfl | rfl
    · exact Fin.int (by omega) (by omega) (by omega)
    · exact Fin.int (by omega) (by omega) (by omega)
    · exact Fin.int (by omega) (by omega) (by omega)
    · exact Fin.int (by omega) (by omega) (by omega)
    · exact Fin.bool (by omega)
    · exact f2
theorem okA : PyData.strOk "a" = true := by decide +kernel
theorem okAB : PyData.strOk "ab" = true := by decide +kernel
theorem okE : PyData.strOk "" = true := by decide +kernel
theorem lenA : ("a" : Str).length = 1 := by decide +kernel
theorem lenAB : ("ab" : Str).length = 2 := by decide +kernel
theorem lenE : ("" : Str).length = 0 := by decide +kernel
theorem pick10 (h : PgOk ds due L R P) {p : Pot} {n : Nat} (hb : Bud (n + 1) p) (y5 y6 y7 y8 y9 y10 : Option SL) : ∃ a p', mCallF 2 F__law_of (aCons (mVar 0) (aCons (mLst (aCons (mCall listF (aCons (mVar 1) (aNil))) (aCons (mTup (aNil)) (aCons (mC .none) (aCons (mBin addD (mVar 1) (mTup (aCons (mC (.str "")) (aNil)))) (aCons (mC (.str "ab")) (aCons (mTup (aCons (mVar 1) (aNil))) (aCons (mDict1 "a" (mVar 1)) (aNil))))))))) (aNil))) (stR ds due R P p y5 y6 y7 y8 y9 y10) = some (.v a, stR ds due R P p' y5 y6 y7 y8 y9 y10) ∧ Fin 35 9000 a ∧ K14.pageB a = false ∧ Bud n p' := by
  have hd := h.dl
  have li : listF [.tuple ds] = some (.list ds) := rfl
  have a2 : ds.length + 1 ≤ 100000 := by omega
  obtain ⟨a, p3, e3, ha, b3⟩ := of_ok (p := p) (ds := [.list ds, .tuple [], .none, .tuple (ds ++ [.str ""]), .str "ab", .tuple [.tuple ds], .dict [(.str "a", .tuple ds)]]) (n := n) hb (by simp only [List.length_cons]; omega) (by simp only [List.length_cons, List.length_nil]; omega)
  have hf := h.fin
  have ft := hf.tuple
  refine ⟨a, p3, ?_, ?_, ?_, b3⟩
  · simp only [putM,mRaise2,defM,defMc,defMX,mExprX,mSetX2,mCallX,mValX,mRaise,mTryK,mIsE,mFld,mIsN,mEnumA,mNil,mSeq,mSeqC,mRetC,mIfS,mRet,mSet,mSetX,mPut,mApp,mFrz,mAug,mPar,setAll,mUnp,gSet,gTupM,gsCons,gsNil,tVal,tAndM,tOrM,tNotM,tYesM,mBin,mUn,mAnd,mOr,mNot,mIf,mChain,mVar,mC,mCall,mCallF,mCallC,argsOf,argOf,ptrs,putBack,aNil,aCons,mTup,mLst,mV,mTell,xLst,xsNil,xsCons,mLenS,mIxS,mDict1,oNone,oSome,mFor,mIt,mRng1,xLc,ownOk,wp,unwp,startS,ixD,atI,addD_int,addD_str,addD_list,addD_tuple,subD,mulD_l,mulD_r,fdivD_pos,modD_pos,ltD_int,leD_int,gtD_int,geD_int,eqD_int,neD_int,eqD_tupE,eqD_strs,neD_strs,isND,isNotND,intF,absF,lenF,joinF,negD,List.map,List.length_cons,List.length_nil,List.cons_append,List.nil_append,List.append_nil,List.replicate,List.getElem?_cons_zero,List.getElem?_cons_succ,List.set_cons_zero,List.set_cons_succ,putAt,SL.put,stables,derefs,stable,deref,heldAt,SL.held,CT.data,CT.app,Int.reduceLT,Int.reduceLE,Int.reduceNeg,Nat.reduceAdd,Nat.reduceLeDiff,and_self,true_and,and_true,ite_true,if_true,List.nodup_cons,List.nodup_nil,List.not_mem_nil,not_false_eq_true,Nat.succ_ne_zero,eq_self,Option.bind_some,Option.bind,Option.map,id,asOut,stR,li,a2,e3]
  · simp only [List.mem_cons,List.not_mem_nil,or_false] at ha
    rcases ha with rfl | rfl | rfl | rfl | rfl | rfl | rfl
    · exact hf.list.mono (by omega) (by omega)
    · exact (Fin.by (by decide +kernel) : Fin 5 5 (.tuple [])).mono (by omega) (by omega)
    · exact Fin.none (by omega)
    · exact ((hf.append (FinA.cons (B := 2) (Fin.str okE (by rw [lenE]; omega)) (FinA.nil (B := 0)))).tuple).mono (by omega) (by omega)
    · exact Fin.str okAB (by rw [lenAB]; omega)
    · exact ((FinA.cons ft (FinA.nil (B := 0))).tuple).mono (by omega) (by omega)
    · exact (Fin.dict1 okA ft).mono (by omega) (by rw [lenA]; omega)
  · simp only [List.mem_cons,List.not_mem_nil,or_false] at ha
    rcases ha with rfl | rfl | rfl | rfl | rfl | rfl | rfl
    · rfl
    · rfl
    · rfl
    · have hr : (ds ++ [PyData.str ""]).all K14.rowB = false := by
        rw [List.all_append]
        have : ([PyData.str ""] : List PyData).all K14.rowB = false := by
          show (K14.rowB (.str "") && true) = false
          have : K14.rowB (.str "") = false := by decide +kernel
          rw [this]
          rfl
        rw [this, Bool.and_false]
      cases ds with
      | nil => decide +kernel
      | cons x xs =>
        have hr : (x :: (xs ++ [PyData.str ""])).all K14.rowB = false := hr
        show ((x :: (xs ++ [PyData.str ""])).all K14.rowB && (x :: (xs ++ [PyData.str ""])).all (fun y => decide (K14.lenB y = K14.lenB x))) = false
        rw [hr, Bool.false_and]
    · rfl
    · rfl
    · rfl
theorem wanted_ok (h : PgOk ds due L R P) {a b : PyData} (fa : Fin 33 1000 a) (fb : Fin 33 1000 b) : ∃ (o : Out) (t : PyData) (z : Str), F_word_at [.v (.tuple ds), .v a, .v b] = some (o, [.v (.tuple ds), .v a, .v b]) ∧ givesO 4 m__law_heard o = some t ∧ reprF [t] = some (.str z) ∧
    ∀ p y6 y8 y10, mIfS (tAndM (tVal (mCallF 2 F__law_is_within (aCons (mVar 5) (aCons (mVar 3) (aNil))))) (tVal (mCallF 2 F__law_is_within (aCons (mVar 7) (aCons (mVar 4) (aNil)))))) (mSeq (mSet 9 (mTup (aCons (mC (.str "told")) (aCons (mBin ixD (mBin ixD (mVar 2) (mVar 5)) (mVar 7)) (aNil))))) (mNil)) (mNil) (stR ds due R P p (some (.v a)) y6 (some (.v b)) y8 (some (.v (.tuple [.str "place", a, b]))) y10) = some (.nx, stR ds due R P p (some (.v a)) y6 (some (.v b)) y8 (some (.v t)) y10) := by
  have w1 := within_ok a R
  have w2 := within_ok b P
  by_cases q : (inB a R && inB b P) = true
  · rw [Bool.and_eq_true] at q
    obtain ⟨i, rfl, i0, i1⟩ := in_int q.1
    obtain ⟨j, rfl, j0, j1⟩ := in_int q.2
    have e := h.at i0 i1 j0 j1
    obtain ⟨k, rfl⟩ := Int.eq_ofNat_of_zero_le i0
    obtain ⟨l, rfl⟩ := Int.eq_ofNat_of_zero_le j0
    obtain ⟨row, g1, g2, g3⟩ := h.num k i1
    have g4 : ixD (.list row) (.int (l : Nat)) = some (numD L k l) := ix_list_at (g3 l j1)
    have fn := numD_fin h.Ln k l
    have fr : Fin 1 200 (.tuple [.str "told", numD L k l]) := (FinA.cons (B := 42) (Fin.str (by decide +kernel) (by decide +kernel)) (FinA.cons fn (FinA.nil (B := 0)))).tuple.mono (by omega) (by omega)
    rw [q.1] at w1
    rw [q.2] at w2
    refine ⟨_, _, _, e, heard_told _, fr.repr (by omega) (by omega), fun p y6 y8 y10 => ?_⟩
    generalize hN : numD L k l = N at g4
    generalize hk : ((k : Nat) : Int) = kI at *
    generalize hl2 : ((l : Nat) : Int) = lI at *
    simp only [putM,mRaise2,defM,defMc,defMX,mExprX,mSetX2,mCallX,mValX,mRaise,mTryK,mIsE,mFld,mIsN,mEnumA,mNil,mSeq,mSeqC,mRetC,mIfS,mRet,mSet,mSetX,mPut,mApp,mFrz,mAug,mPar,setAll,mUnp,gSet,gTupM,gsCons,gsNil,tVal,tAndM,tOrM,tNotM,tYesM,mBin,mUn,mAnd,mOr,mNot,mIf,mChain,mVar,mC,mCall,mCallF,mCallC,argsOf,argOf,ptrs,putBack,aNil,aCons,mTup,mLst,mV,mTell,xLst,xsNil,xsCons,mLenS,mIxS,mDict1,oNone,oSome,mFor,mIt,mRng1,xLc,ownOk,wp,unwp,startS,ixD,atI,addD_int,addD_str,addD_list,addD_tuple,subD,mulD_l,mulD_r,fdivD_pos,modD_pos,ltD_int,leD_int,gtD_int,geD_int,eqD_int,neD_int,eqD_tupE,eqD_strs,neD_strs,isND,isNotND,intF,absF,lenF,joinF,negD,List.map,List.length_cons,List.length_nil,List.cons_append,List.nil_append,List.append_nil,List.replicate,List.getElem?_cons_zero,List.getElem?_cons_succ,List.set_cons_zero,List.set_cons_succ,putAt,SL.put,stables,derefs,stable,deref,heldAt,SL.held,CT.data,CT.app,Int.reduceLT,Int.reduceLE,Int.reduceNeg,Nat.reduceAdd,Nat.reduceLeDiff,and_self,true_and,and_true,ite_true,if_true,List.nodup_cons,List.nodup_nil,List.not_mem_nil,not_false_eq_true,Nat.succ_ne_zero,eq_self,Option.bind_some,Option.bind,Option.map,id,asOut,stR,w1,w2,↓g1,↓g4]
  · have q : (inB a R && inB b P) = false := by simpa using q
    have e := h.bad q
    have fr : Fin 34 3000 (.tuple [.str "place", a, b]) := (FinA.cons (B := 52) (Fin.str (by decide +kernel) (by decide +kernel)) (FinA.cons fa (FinA.cons fb (FinA.nil (B := 0))))).tuple.mono (by omega) (by omega)
    refine ⟨_, _, _, e, heard_place a b, fr.repr (by omega) (by omega), fun p y6 y8 y10 => ?_⟩
    cases q1 : inB a R with
    | false =>
      rw [q1] at w1
      simp only [putM,mRaise2,defM,defMc,defMX,mExprX,mSetX2,mCallX,mValX,mRaise,mTryK,mIsE,mFld,mIsN,mEnumA,mNil,mSeq,mSeqC,mRetC,mIfS,mRet,mSet,mSetX,mPut,mApp,mFrz,mAug,mPar,setAll,mUnp,gSet,gTupM,gsCons,gsNil,tVal,tAndM,tOrM,tNotM,tYesM,mBin,mUn,mAnd,mOr,mNot,mIf,mChain,mVar,mC,mCall,mCallF,mCallC,argsOf,argOf,ptrs,putBack,aNil,aCons,mTup,mLst,mV,mTell,xLst,xsNil,xsCons,mLenS,mIxS,mDict1,oNone,oSome,mFor,mIt,mRng1,xLc,ownOk,wp,unwp,startS,ixD,atI,addD_int,addD_str,addD_list,addD_tuple,subD,mulD_l,mulD_r,fdivD_pos,modD_pos,ltD_int,leD_int,gtD_int,geD_int,eqD_int,neD_int,eqD_tupE,eqD_strs,neD_strs,isND,isNotND,intF,absF,lenF,joinF,negD,List.map,List.length_cons,List.length_nil,List.cons_append,List.nil_append,List.append_nil,List.replicate,List.getElem?_cons_zero,List.getElem?_cons_succ,List.set_cons_zero,List.set_cons_succ,putAt,SL.put,stables,derefs,stable,deref,heldAt,SL.held,CT.data,CT.app,Int.reduceLT,Int.reduceLE,Int.reduceNeg,Nat.reduceAdd,Nat.reduceLeDiff,and_self,true_and,and_true,ite_true,if_true,List.nodup_cons,List.nodup_nil,List.not_mem_nil,not_false_eq_true,Nat.succ_ne_zero,eq_self,Option.bind_some,Option.bind,Option.map,id,asOut,stR,w1]
    | true =>
      rw [q1, Bool.true_and] at q
      rw [q1] at w1
      rw [q] at w2
      simp only [putM,mRaise2,defM,defMc,defMX,mExprX,mSetX2,mCallX,mValX,mRaise,mTryK,mIsE,mFld,mIsN,mEnumA,mNil,mSeq,mSeqC,mRetC,mIfS,mRet,mSet,mSetX,mPut,mApp,mFrz,mAug,mPar,setAll,mUnp,gSet,gTupM,gsCons,gsNil,tVal,tAndM,tOrM,tNotM,tYesM,mBin,mUn,mAnd,mOr,mNot,mIf,mChain,mVar,mC,mCall,mCallF,mCallC,argsOf,argOf,ptrs,putBack,aNil,aCons,mTup,mLst,mV,mTell,xLst,xsNil,xsCons,mLenS,mIxS,mDict1,oNone,oSome,mFor,mIt,mRng1,xLc,ownOk,wp,unwp,startS,ixD,atI,addD_int,addD_str,addD_list,addD_tuple,subD,mulD_l,mulD_r,fdivD_pos,modD_pos,ltD_int,leD_int,gtD_int,geD_int,eqD_int,neD_int,eqD_tupE,eqD_strs,neD_strs,isND,isNotND,intF,absF,lenF,joinF,negD,List.map,List.length_cons,List.length_nil,List.cons_append,List.nil_append,List.append_nil,List.replicate,List.getElem?_cons_zero,List.getElem?_cons_succ,List.set_cons_zero,List.set_cons_succ,putAt,SL.put,stables,derefs,stable,deref,heldAt,SL.held,CT.data,CT.app,Int.reduceLT,Int.reduceLE,Int.reduceNeg,Nat.reduceAdd,Nat.reduceLeDiff,and_self,true_and,and_true,ite_true,if_true,List.nodup_cons,List.nodup_nil,List.not_mem_nil,not_false_eq_true,Nat.succ_ne_zero,eq_self,Option.bind_some,Option.bind,Option.map,id,asOut,stR,w1,w2]
end
section
variable {ds due : List PyData} {L : List Tri} {R P : Int}
theorem turn_ok (h : PgOk ds due L R P) {p : Pot} {n : Nat} (hb : Bud (n + 100) p) (t : PyData) (y5 y6 y7 y9 y10 : Option SL) : ∃ p' z5 z7 z9 z10, B1__law_right (stR ds due R P p y5 y6 y7 (some (.v t)) y9 y10) = some (.nx, stR ds due R P p' z5 y6 z7 (some (.v t)) z9 z10) ∧ Bud n p' := by
  obtain ⟨a, p1, e1, fa, b1⟩ := pick5 h (p := p) (n := n + 60) (hb.le (by omega)) y5 y6 y7 (some (.v t)) y9 y10
  obtain ⟨b, p2, e2, fb, b2⟩ := pick7 h (p := p1) (n := n + 20) (b1.le (by omega)) (some (.v a)) y6 y7 (some (.v t)) y9 y10
  obtain ⟨o, w, z, ew, gw, rw_, eW⟩ := wanted_ok h fa fb
  obtain ⟨d, p3, e3, fd, hd, b3⟩ := pick10 h (p := p2) (n := n) (b2.le (by omega)) (some (.v a)) y6 (some (.v b)) (some (.v t)) (some (.v w)) y10
  have ec : F_check_page [.v d] = some (.exc "BadPage" [("value", d)], [.v d]) := by
    have := K14.check_ok fd (by omega)
    rw [hd] at this
    exact this
  have en := no_page (a := a) (b := b) ec
  have fp : Fin 36 9100 (.tuple [.str "page", d]) := (FinA.cons (B := 42) (Fin.str (by decide +kernel) (by decide +kernel)) (FinA.cons fd (FinA.nil (B := 0)))).tuple.mono (by omega) (by omega)
  have rp := fp.repr (by omega) (by omega)
  have s1 := set_of 5 e1
  rw [show (stR ds due R P p1 y5 y6 y7 (some (.v t)) y9 y10).set 5 (some (.v a)) = stR ds due R P p1 (some (.v a)) y6 y7 (some (.v t)) y9 y10 from rfl] at s1
  have s2 := set_of 7 e2
  rw [show (stR ds due R P p2 (some (.v a)) y6 y7 (some (.v t)) y9 y10).set 7 (some (.v b)) = stR ds due R P p2 (some (.v a)) y6 (some (.v b)) (some (.v t)) y9 y10 from rfl] at s2
  have s3 : mSet 9 (mTup (aCons (mC (.str "place")) (aCons (mVar 5) (aCons (mVar 7) (aNil))))) (stR ds due R P p2 (some (.v a)) y6 (some (.v b)) (some (.v t)) y9 y10) = some (.nx, stR ds due R P p2 (some (.v a)) y6 (some (.v b)) (some (.v t)) (some (.v (.tuple [.str "place", a, b]))) y10) := by
    simp only [putM,mRaise2,defM,defMc,defMX,mExprX,mSetX2,mCallX,mValX,mRaise,mTryK,mIsE,mFld,mIsN,mEnumA,mNil,mSeq,mSeqC,mRetC,mIfS,mRet,mSet,mSetX,mPut,mApp,mFrz,mAug,mPar,setAll,mUnp,gSet,gTupM,gsCons,gsNil,tVal,tAndM,tOrM,tNotM,tYesM,mBin,mUn,mAnd,mOr,mNot,mIf,mChain,mVar,mC,mCall,mCallF,mCallC,argsOf,argOf,ptrs,putBack,aNil,aCons,mTup,mLst,mV,mTell,xLst,xsNil,xsCons,mLenS,mIxS,mDict1,oNone,oSome,mFor,mIt,mRng1,xLc,ownOk,wp,unwp,startS,ixD,atI,addD_int,addD_str,addD_list,addD_tuple,subD,mulD_l,mulD_r,fdivD_pos,modD_pos,ltD_int,leD_int,gtD_int,geD_int,eqD_int,neD_int,eqD_tupE,eqD_strs,neD_strs,isND,isNotND,intF,absF,lenF,joinF,negD,List.map,List.length_cons,List.length_nil,List.cons_append,List.nil_append,List.append_nil,List.replicate,List.getElem?_cons_zero,List.getElem?_cons_succ,List.set_cons_zero,List.set_cons_succ,putAt,SL.put,stables,derefs,stable,deref,heldAt,SL.held,CT.data,CT.app,Int.reduceLT,Int.reduceLE,Int.reduceNeg,Nat.reduceAdd,Nat.reduceLeDiff,and_self,true_and,and_true,ite_true,if_true,List.nodup_cons,List.nodup_nil,List.not_mem_nil,not_false_eq_true,Nat.succ_ne_zero,eq_self,Option.bind_some,Option.bind,Option.map,id,asOut,stR]
  have l1 : mLam (mCallX 3 F_word_at (aCons (mVar 1) (aCons (mVar 5) (aCons (mVar 7) (aNil))))) (givesO 4 m__law_heard) (stR ds due R P p2 (some (.v a)) y6 (some (.v b)) (some (.v t)) (some (.v w)) y10) = some (.v w, stR ds due R P p2 (some (.v a)) y6 (some (.v b)) (some (.v t)) (some (.v w)) y10) := by
    obtain ⟨u6, u10, eh⟩ : ∃ u6 u10, hideL (stR ds due R P p2 (some (.v a)) y6 (some (.v b)) (some (.v t)) (some (.v w)) y10) = [none, some (.v (.tuple ds)), some (.v (.list due)), some (.v (.int R)), some (.v (.int P)), some (.v a), u6, some (.v b), some (.v t), some (.v w), u10] := ⟨_, _, rfl⟩
    exact lam_at eh (by simp only [putM,mRaise2,defM,defMc,defMX,mExprX,mSetX2,mCallX,mValX,mRaise,mTryK,mIsE,mFld,mIsN,mEnumA,mNil,mSeq,mSeqC,mRetC,mIfS,mRet,mSet,mSetX,mPut,mApp,mFrz,mAug,mPar,setAll,mUnp,gSet,gTupM,gsCons,gsNil,tVal,tAndM,tOrM,tNotM,tYesM,mBin,mUn,mAnd,mOr,mNot,mIf,mChain,mVar,mC,mCall,mCallF,mCallC,argsOf,argOf,ptrs,putBack,aNil,aCons,mTup,mLst,mV,mTell,xLst,xsNil,xsCons,mLenS,mIxS,mDict1,oNone,oSome,mFor,mIt,mRng1,xLc,ownOk,wp,unwp,startS,ixD,atI,addD_int,addD_str,addD_list,addD_tuple,subD,mulD_l,mulD_r,fdivD_pos,modD_pos,ltD_int,leD_int,gtD_int,geD_int,eqD_int,neD_int,eqD_tupE,eqD_strs,neD_strs,isND,isNotND,intF,absF,lenF,joinF,negD,List.map,List.length_cons,List.length_nil,List.cons_append,List.nil_append,List.append_nil,List.replicate,List.getElem?_cons_zero,List.getElem?_cons_succ,List.set_cons_zero,List.set_cons_succ,putAt,SL.put,stables,derefs,stable,deref,heldAt,SL.held,CT.data,CT.app,Int.reduceLT,Int.reduceLE,Int.reduceNeg,Nat.reduceAdd,Nat.reduceLeDiff,and_self,true_and,and_true,ite_true,if_true,List.nodup_cons,List.nodup_nil,List.not_mem_nil,not_false_eq_true,Nat.succ_ne_zero,eq_self,Option.bind_some,Option.bind,Option.map,id,asOut,ew]) gw
  have s5 : mIfS (tVal (mBin neDD (mCall reprF (aCons (mLam (mCallX 3 F_word_at (aCons (mVar 1) (aCons (mVar 5) (aCons (mVar 7) (aNil))))) (givesO 4 m__law_heard)) (aNil))) (mCall reprF (aCons (mVar 9) (aNil))))) (mSeq (mRet (mC (.bool false))) (mNil)) (mNil) (stR ds due R P p2 (some (.v a)) y6 (some (.v b)) (some (.v t)) (some (.v w)) y10) = some (.nx, stR ds due R P p2 (some (.v a)) y6 (some (.v b)) (some (.v t)) (some (.v w)) y10) := by
    have v9 : mVar 9 (stR ds due R P p2 (some (.v a)) y6 (some (.v b)) (some (.v t)) (some (.v w)) y10) = some (.v w, stR ds due R P p2 (some (.v a)) y6 (some (.v b)) (some (.v t)) (some (.v w)) y10) := rfl
    simp only [putM,mRaise2,defM,defMc,defMX,mExprX,mSetX2,mCallX,mValX,mRaise,mTryK,mIsE,mFld,mIsN,mEnumA,mNil,mSeq,mSeqC,mRetC,mIfS,mRet,mSet,mSetX,mPut,mApp,mFrz,mAug,mPar,setAll,mUnp,gSet,gTupM,gsCons,gsNil,tVal,tAndM,tOrM,tNotM,tYesM,mBin,mUn,mAnd,mOr,mNot,mIf,mChain,mVar,mC,mCall,mCallF,mCallC,argsOf,argOf,ptrs,putBack,aNil,aCons,mTup,mLst,mV,mTell,xLst,xsNil,xsCons,mLenS,mIxS,mDict1,oNone,oSome,mFor,mIt,mRng1,xLc,ownOk,wp,unwp,startS,ixD,atI,addD_int,addD_str,addD_list,addD_tuple,subD,mulD_l,mulD_r,fdivD_pos,modD_pos,ltD_int,leD_int,gtD_int,geD_int,eqD_int,neD_int,eqD_tupE,eqD_strs,neD_strs,isND,isNotND,intF,absF,lenF,joinF,negD,List.map,List.length_cons,List.length_nil,List.cons_append,List.nil_append,List.append_nil,List.replicate,List.getElem?_cons_zero,List.getElem?_cons_succ,List.set_cons_zero,List.set_cons_succ,putAt,SL.put,stables,derefs,stable,deref,heldAt,SL.held,CT.data,CT.app,Int.reduceLT,Int.reduceLE,Int.reduceNeg,Nat.reduceAdd,Nat.reduceLeDiff,and_self,true_and,and_true,ite_true,if_true,List.nodup_cons,List.nodup_nil,List.not_mem_nil,not_false_eq_true,Nat.succ_ne_zero,eq_self,Option.bind_some,Option.bind,Option.map,id,asOut,l1,rw_,↓v9,neD_strs,decide_true,Bool.not_true]
  have s6 := set_of 10 e3
  rw [show (stR ds due R P p3 (some (.v a)) y6 (some (.v b)) (some (.v t)) (some (.v w)) y10).set 10 (some (.v d)) = stR ds due R P p3 (some (.v a)) y6 (some (.v b)) (some (.v t)) (some (.v w)) (some (.v d)) from rfl] at s6
  have l2 : mLam (mCallX 3 F_word_at (aCons (mVar 10) (aCons (mVar 5) (aCons (mVar 7) (aNil))))) (givesO 4 m__law_heard) (stR ds due R P p3 (some (.v a)) y6 (some (.v b)) (some (.v t)) (some (.v w)) (some (.v d))) = some (.v (.tuple [.str "page", d]), stR ds due R P p3 (some (.v a)) y6 (some (.v b)) (some (.v t)) (some (.v w)) (some (.v d))) := by
    obtain ⟨u6, eh⟩ : ∃ u6, hideL (stR ds due R P p3 (some (.v a)) y6 (some (.v b)) (some (.v t)) (some (.v w)) (some (.v d))) = [none, some (.v (.tuple ds)), some (.v (.list due)), some (.v (.int R)), some (.v (.int P)), some (.v a), u6, some (.v b), some (.v t), some (.v w), some (.v d)] := ⟨_, rfl⟩
    exact lam_at eh (by simp only [putM,mRaise2,defM,defMc,defMX,mExprX,mSetX2,mCallX,mValX,mRaise,mTryK,mIsE,mFld,mIsN,mEnumA,mNil,mSeq,mSeqC,mRetC,mIfS,mRet,mSet,mSetX,mPut,mApp,mFrz,mAug,mPar,setAll,mUnp,gSet,gTupM,gsCons,gsNil,tVal,tAndM,tOrM,tNotM,tYesM,mBin,mUn,mAnd,mOr,mNot,mIf,mChain,mVar,mC,mCall,mCallF,mCallC,argsOf,argOf,ptrs,putBack,aNil,aCons,mTup,mLst,mV,mTell,xLst,xsNil,xsCons,mLenS,mIxS,mDict1,oNone,oSome,mFor,mIt,mRng1,xLc,ownOk,wp,unwp,startS,ixD,atI,addD_int,addD_str,addD_list,addD_tuple,subD,mulD_l,mulD_r,fdivD_pos,modD_pos,ltD_int,leD_int,gtD_int,geD_int,eqD_int,neD_int,eqD_tupE,eqD_strs,neD_strs,isND,isNotND,intF,absF,lenF,joinF,negD,List.map,List.length_cons,List.length_nil,List.cons_append,List.nil_append,List.append_nil,List.replicate,List.getElem?_cons_zero,List.getElem?_cons_succ,List.set_cons_zero,List.set_cons_succ,putAt,SL.put,stables,derefs,stable,deref,heldAt,SL.held,CT.data,CT.app,Int.reduceLT,Int.reduceLE,Int.reduceNeg,Nat.reduceAdd,Nat.reduceLeDiff,and_self,true_and,and_true,ite_true,if_true,List.nodup_cons,List.nodup_nil,List.not_mem_nil,not_false_eq_true,Nat.succ_ne_zero,eq_self,Option.bind_some,Option.bind,Option.map,id,asOut,en]) (heard_page d)
  have s7 : mIfS (tVal (mBin neDD (mCall reprF (aCons (mLam (mCallX 3 F_word_at (aCons (mVar 10) (aCons (mVar 5) (aCons (mVar 7) (aNil))))) (givesO 4 m__law_heard)) (aNil))) (mCall reprF (aCons (mTup (aCons (mC (.str "page")) (aCons (mVar 10) (aNil)))) (aNil))))) (mSeq (mRet (mC (.bool false))) (mNil)) (mNil) (stR ds due R P p3 (some (.v a)) y6 (some (.v b)) (some (.v t)) (some (.v w)) (some (.v d))) = some (.nx, stR ds due R P p3 (some (.v a)) y6 (some (.v b)) (some (.v t)) (some (.v w)) (some (.v d))) := by
    have v9 : mTup (aCons (mC (.str "page")) (aCons (mVar 10) (aNil))) (stR ds due R P p3 (some (.v a)) y6 (some (.v b)) (some (.v t)) (some (.v w)) (some (.v d))) = some (.v (.tuple [.str "page", d]), stR ds due R P p3 (some (.v a)) y6 (some (.v b)) (some (.v t)) (some (.v w)) (some (.v d))) := by simp only [putM,mRaise2,defM,defMc,defMX,mExprX,mSetX2,mCallX,mValX,mRaise,mTryK,mIsE,mFld,mIsN,mEnumA,mNil,mSeq,mSeqC,mRetC,mIfS,mRet,mSet,mSetX,mPut,mApp,mFrz,mAug,mPar,setAll,mUnp,gSet,gTupM,gsCons,gsNil,tVal,tAndM,tOrM,tNotM,tYesM,mBin,mUn,mAnd,mOr,mNot,mIf,mChain,mVar,mC,mCall,mCallF,mCallC,argsOf,argOf,ptrs,putBack,aNil,aCons,mTup,mLst,mV,mTell,xLst,xsNil,xsCons,mLenS,mIxS,mDict1,oNone,oSome,mFor,mIt,mRng1,xLc,ownOk,wp,unwp,startS,ixD,atI,addD_int,addD_str,addD_list,addD_tuple,subD,mulD_l,mulD_r,fdivD_pos,modD_pos,ltD_int,leD_int,gtD_int,geD_int,eqD_int,neD_int,eqD_tupE,eqD_strs,neD_strs,isND,isNotND,intF,absF,lenF,joinF,negD,List.map,List.length_cons,List.length_nil,List.cons_append,List.nil_append,List.append_nil,List.replicate,List.getElem?_cons_zero,List.getElem?_cons_succ,List.set_cons_zero,List.set_cons_succ,putAt,SL.put,stables,derefs,stable,deref,heldAt,SL.held,CT.data,CT.app,Int.reduceLT,Int.reduceLE,Int.reduceNeg,Nat.reduceAdd,Nat.reduceLeDiff,and_self,true_and,and_true,ite_true,if_true,List.nodup_cons,List.nodup_nil,List.not_mem_nil,not_false_eq_true,Nat.succ_ne_zero,eq_self,Option.bind_some,Option.bind,Option.map,id,asOut,stR]
    simp only [putM,mRaise2,defM,defMc,defMX,mExprX,mSetX2,mCallX,mValX,mRaise,mTryK,mIsE,mFld,mIsN,mEnumA,mNil,mSeq,mSeqC,mRetC,mIfS,mRet,mSet,mSetX,mPut,mApp,mFrz,mAug,mPar,setAll,mUnp,gSet,gTupM,gsCons,gsNil,tVal,tAndM,tOrM,tNotM,tYesM,mBin,mUn,mAnd,mOr,mNot,mIf,mChain,mVar,mC,mCall,mCallF,mCallC,argsOf,argOf,ptrs,putBack,aNil,aCons,mTup,mLst,mV,mTell,xLst,xsNil,xsCons,mLenS,mIxS,mDict1,oNone,oSome,mFor,mIt,mRng1,xLc,ownOk,wp,unwp,startS,ixD,atI,addD_int,addD_str,addD_list,addD_tuple,subD,mulD_l,mulD_r,fdivD_pos,modD_pos,ltD_int,leD_int,gtD_int,geD_int,eqD_int,neD_int,eqD_tupE,eqD_strs,neD_strs,isND,isNotND,intF,absF,lenF,joinF,negD,List.map,List.length_cons,List.length_nil,List.cons_append,List.nil_append,List.append_nil,List.replicate,List.getElem?_cons_zero,List.getElem?_cons_succ,List.set_cons_zero,List.set_cons_succ,putAt,SL.put,stables,derefs,stable,deref,heldAt,SL.held,CT.data,CT.app,Int.reduceLT,Int.reduceLE,Int.reduceNeg,Nat.reduceAdd,Nat.reduceLeDiff,and_self,true_and,and_true,ite_true,if_true,List.nodup_cons,List.nodup_nil,List.not_mem_nil,not_false_eq_true,Nat.succ_ne_zero,eq_self,Option.bind_some,Option.bind,Option.map,id,asOut,l2,rp,↓v9,neD_strs,decide_true,Bool.not_true]
  refine ⟨p3, some (.v a), some (.v b), some (.v w), some (.v d), ?_, b3⟩
  unfold B1__law_right
  rw [sq s1, sq s2, sq s3, sq (eW p2 y6 (some (.v t)) y10), sq s5, sq s6, sq s7]
  rfl
end
end VL
namespace VL
open PySem PySem.Spec PyProof.Rows L2
section
variable {ds due : List PyData} {L : List Tri} {R P : Int}
theorem line_fin {p : Pot} {lI : Int} {row : List PyData} {N : PyData} {z : Str} {y6 : Option SL} (eC : C4__law_right (stR ds due R P p (some (.v (.int lI))) y6 none none none none) = some (.c (.l row), stR ds due R P p (some (.v (.int lI))) y6 none none none none))
    (g1 : ixD (.list due) (.int lI) = some (.list row)) (g4 : ixD (.list row) (.int 0) = some N) (rr : reprF [.list row] = some (.str z)) (ea : F_word_at [.v (.tuple ds), .v (.int lI), .v (.int 0)] = some (.val N, [.v (.tuple ds), .v (.int lI), .v (.int 0)])) (ne : neDD N N = some (.bool false)) :
    ∃ z6, B5__law_right (stR ds due R P p (some (.v (.int lI))) y6 none none none none) = some (.nx, stR ds due R P p (some (.v (.int lI))) z6 none none none none) := by
  refine ⟨some (.v (.list row)), ?_⟩
  have s1 : mSetX 6 C4__law_right (stR ds due R P p (some (.v (.int lI))) y6 none none none none) = some (.nx, stR ds due R P p (some (.v (.int lI))) (some (.c (.l row))) none none none none) := by
    simp only [mSetX,eC]
    rfl
  have s2 : ∀ m, mFrz 6 m (stR ds due R P p (some (.v (.int lI))) (some (.c (.l row))) none none none none) = m (stR ds due R P p (some (.v (.int lI))) (some (.v (.list row))) none none none none) := fun m => rfl
  have i0 : mBin ixD (mVar 2) (mVar 5) (stR ds due R P p (some (.v (.int lI))) (some (.v (.list row))) none none none none) = some (.v (.list row), stR ds due R P p (some (.v (.int lI))) (some (.v (.list row))) none none none none) := by
    simp only [putM,mRaise2,defM,defMc,defMX,mExprX,mSetX2,mCallX,mValX,mRaise,mTryK,mIsE,mFld,mIsN,mEnumA,mNil,mSeq,mSeqC,mRetC,mIfS,mRet,mSet,mSetX,mPut,mApp,mFrz,mAug,mPar,setAll,mUnp,gSet,gTupM,gsCons,gsNil,tVal,tAndM,tOrM,tNotM,tYesM,mBin,mUn,mAnd,mOr,mNot,mIf,mChain,mVar,mC,mCall,mCallF,mCallC,argsOf,argOf,ptrs,putBack,aNil,aCons,mTup,mLst,mV,mTell,xLst,xsNil,xsCons,mLenS,mIxS,mDict1,oNone,oSome,mFor,mIt,mRng1,xLc,ownOk,wp,unwp,startS,ixD,atI,addD_int,addD_str,addD_list,addD_tuple,subD,mulD_l,mulD_r,fdivD_pos,modD_pos,ltD_int,leD_int,gtD_int,geD_int,eqD_int,neD_int,eqD_tupE,eqD_strs,neD_strs,isND,isNotND,intF,absF,lenF,joinF,negD,List.map,List.length_cons,List.length_nil,List.cons_append,List.nil_append,List.append_nil,List.replicate,List.getElem?_cons_zero,List.getElem?_cons_succ,List.set_cons_zero,List.set_cons_succ,putAt,SL.put,stables,derefs,stable,deref,heldAt,SL.held,CT.data,CT.app,Int.reduceLT,Int.reduceLE,Int.reduceNeg,Nat.reduceAdd,Nat.reduceLeDiff,and_self,true_and,and_true,ite_true,if_true,List.nodup_cons,List.nodup_nil,List.not_mem_nil,not_false_eq_true,Nat.succ_ne_zero,eq_self,Option.bind_some,Option.bind,Option.map,id,asOut,stR,↓g1]
  have v6 : mVar 6 (stR ds due R P p (some (.v (.int lI))) (some (.v (.list row))) none none none none) = some (.v (.list row), stR ds due R P p (some (.v (.int lI))) (some (.v (.list row))) none none none none) := rfl
  have k0 : mCallX 3 F_word_at (mPerm [2, 1, 0] (aCons (mC (.int 0)) (aCons (mVar 5) (aCons (mVar 1) (aNil))))) (stR ds due R P p (some (.v (.int lI))) (some (.v (.list row))) none none none none) = some (.val (N), stR ds due R P p (some (.v (.int lI))) (some (.v (.list row))) none none none none) := by
    have pe : prm [2, 1, 0] [SV.v (.int 0), .v (.int lI), .v (.tuple ds)] = [.v (.tuple ds), .v (.int lI), .v (.int 0)] := rfl
    simp only [putM,mRaise2,defM,defMc,defMX,mExprX,mSetX2,mCallX,mValX,mRaise,mTryK,mIsE,mFld,mIsN,mEnumA,mNil,mSeq,mSeqC,mRetC,mIfS,mRet,mSet,mSetX,mPut,mApp,mFrz,mAug,mPar,setAll,mUnp,gSet,gTupM,gsCons,gsNil,tVal,tAndM,tOrM,tNotM,tYesM,mBin,mUn,mAnd,mOr,mNot,mIf,mChain,mVar,mC,mCall,mCallF,mCallC,argsOf,argOf,ptrs,putBack,aNil,aCons,mTup,mLst,mV,mTell,xLst,xsNil,xsCons,mLenS,mIxS,mDict1,oNone,oSome,mFor,mIt,mRng1,xLc,ownOk,wp,unwp,startS,ixD,atI,addD_int,addD_str,addD_list,addD_tuple,subD,mulD_l,mulD_r,fdivD_pos,modD_pos,ltD_int,leD_int,gtD_int,geD_int,eqD_int,neD_int,eqD_tupE,eqD_strs,neD_strs,isND,isNotND,intF,absF,lenF,joinF,negD,List.map,List.length_cons,List.length_nil,List.cons_append,List.nil_append,List.append_nil,List.replicate,List.getElem?_cons_zero,List.getElem?_cons_succ,List.set_cons_zero,List.set_cons_succ,putAt,SL.put,stables,derefs,stable,deref,heldAt,SL.held,CT.data,CT.app,Int.reduceLT,Int.reduceLE,Int.reduceNeg,Nat.reduceAdd,Nat.reduceLeDiff,and_self,true_and,and_true,ite_true,if_true,List.nodup_cons,List.nodup_nil,List.not_mem_nil,not_false_eq_true,Nat.succ_ne_zero,eq_self,Option.bind_some,Option.bind,Option.map,id,asOut,stR,mPerm,pe,ea]
  have i1 : mBin ixD (mBin ixD (mVar 2) (mVar 5)) (mC (.int 0)) (stR ds due R P p (some (.v (.int lI))) (some (.v (.list row))) none none none none) = some (.v (N), stR ds due R P p (some (.v (.int lI))) (some (.v (.list row))) none none none none) := by
    simp only [putM,mRaise2,defM,defMc,defMX,mExprX,mSetX2,mCallX,mValX,mRaise,mTryK,mIsE,mFld,mIsN,mEnumA,mNil,mSeq,mSeqC,mRetC,mIfS,mRet,mSet,mSetX,mPut,mApp,mFrz,mAug,mPar,setAll,mUnp,gSet,gTupM,gsCons,gsNil,tVal,tAndM,tOrM,tNotM,tYesM,mBin,mUn,mAnd,mOr,mNot,mIf,mChain,mVar,mC,mCall,mCallF,mCallC,argsOf,argOf,ptrs,putBack,aNil,aCons,mTup,mLst,mV,mTell,xLst,xsNil,xsCons,mLenS,mIxS,mDict1,oNone,oSome,mFor,mIt,mRng1,xLc,ownOk,wp,unwp,startS,ixD,atI,addD_int,addD_str,addD_list,addD_tuple,subD,mulD_l,mulD_r,fdivD_pos,modD_pos,ltD_int,leD_int,gtD_int,geD_int,eqD_int,neD_int,eqD_tupE,eqD_strs,neD_strs,isND,isNotND,intF,absF,lenF,joinF,negD,List.map,List.length_cons,List.length_nil,List.cons_append,List.nil_append,List.append_nil,List.replicate,List.getElem?_cons_zero,List.getElem?_cons_succ,List.set_cons_zero,List.set_cons_succ,putAt,SL.put,stables,derefs,stable,deref,heldAt,SL.held,CT.data,CT.app,Int.reduceLT,Int.reduceLE,Int.reduceNeg,Nat.reduceAdd,Nat.reduceLeDiff,and_self,true_and,and_true,ite_true,if_true,List.nodup_cons,List.nodup_nil,List.not_mem_nil,not_false_eq_true,Nat.succ_ne_zero,eq_self,Option.bind_some,Option.bind,Option.map,id,asOut,↓i0,↓g4]
  unfold B5__law_right
  rw [sq s1, s2, sq (S1 := stR ds due R P p (some (.v (.int lI))) (some (.v (.list row))) none none none none)]
  · rfl
  · simp only [putM,mRaise2,defM,defMc,defMX,mExprX,mSetX2,mCallX,mValX,mRaise,mTryK,mIsE,mFld,mIsN,mEnumA,mNil,mSeq,mSeqC,mRetC,mIfS,mRet,mSet,mSetX,mPut,mApp,mFrz,mAug,mPar,setAll,mUnp,gSet,gTupM,gsCons,gsNil,tVal,tAndM,tOrM,tNotM,tYesM,mBin,mUn,mAnd,mOr,mNot,mIf,mChain,mVar,mC,mCall,mCallF,mCallC,argsOf,argOf,ptrs,putBack,aNil,aCons,mTup,mLst,mV,mTell,xLst,xsNil,xsCons,mLenS,mIxS,mDict1,oNone,oSome,mFor,mIt,mRng1,xLc,ownOk,wp,unwp,startS,ixD,atI,addD_int,addD_str,addD_list,addD_tuple,subD,mulD_l,mulD_r,fdivD_pos,modD_pos,ltD_int,leD_int,gtD_int,geD_int,eqD_int,neD_int,eqD_tupE,eqD_strs,neD_strs,isND,isNotND,intF,absF,lenF,joinF,negD,List.map,List.length_cons,List.length_nil,List.cons_append,List.nil_append,List.append_nil,List.replicate,List.getElem?_cons_zero,List.getElem?_cons_succ,List.set_cons_zero,List.set_cons_succ,putAt,SL.put,stables,derefs,stable,deref,heldAt,SL.held,CT.data,CT.app,Int.reduceLT,Int.reduceLE,Int.reduceNeg,Nat.reduceAdd,Nat.reduceLeDiff,and_self,true_and,and_true,ite_true,if_true,List.nodup_cons,List.nodup_nil,List.not_mem_nil,not_false_eq_true,Nat.succ_ne_zero,eq_self,Option.bind_some,Option.bind,Option.map,id,asOut,↓v6,↓i1,↓k0,↓i0,rr,neD_strs,decide_true,Bool.not_true,ne]
theorem line_ok (h : PgOk ds due L R P) {p : Pot} {l : Nat} (hl : (l : Int) < R) (y6 : Option SL) : ∃ z6, B5__law_right (stR ds due R P p (some (.v (.int (l : Nat)))) y6 none none none none) = some (.nx, stR ds due R P p (some (.v (.int (l : Nat)))) z6 none none none none) := by
  obtain ⟨row, g1, g2, g3⟩ := h.num l hl
  have P1 := h.P1
  have P2 := h.P2
  let F : PyData → PyData := fun d => match d with
    | .int p => numD L l p
    | _ => .none
  have em : mapD F (rngD 0 P.toNat) = row := by
    refine List.ext_getElem? fun i => ?_
    unfold mapD rngD
    rw [List.map_map, List.getElem?_map]
    by_cases hi : i < P.toNat
    · rw [List.getElem?_range hi, g3 i (by omega)]
      show some (numD L l (0 + ((i : Nat) : Int))) = _
      rw [Int.zero_add]
    · rw [List.getElem?_eq_none (by rw [List.length_range]; omega), List.getElem?_eq_none (by omega)]
      rfl
  have eC : C4__law_right (stR ds due R P p (some (.v (.int (l : Nat)))) y6 none none none none) = some (.c (.l row), stR ds due R P p (some (.v (.int (l : Nat)))) y6 none none none none) := by
    rw [← em]
    refine lcm (ds := rngD 0 P.toNat) F ?_ rfl (by unfold rngD; rw [List.length_map, List.length_range]; omega) fun d hd => ?_
    · have c : -(2 ^ 62 : Int) ≤ P ∧ P < 2 ^ 62 := ⟨by omega, by omega⟩
      show (if -(2 ^ 62 : Int) ≤ P ∧ P < 2 ^ 62 then _ else _) = _
      rw [if_pos c]
    · obtain ⟨i, hi, rfl⟩ := List.mem_map.mp hd
      rw [List.mem_range] at hi
      have e := h.at (r := l) (p := 0 + (i : Int)) (by omega) hl (by omega) (by omega)
      show E3__law_right [some (.q (.l (potD p))), some (.v (.tuple ds)), some (.v (.list due)), some (.v (.int R)), some (.v (.int P)), some (.v (.int (l : Nat))), y6, some (.v (.int (0 + (i : Int)))), none, none, none] = _
      show _ = some (SV.v (numD L l (0 + (i : Int))), [some (.q (.l (potD p))), some (.v (.tuple ds)), some (.v (.list due)), some (.v (.int R)), some (.v (.int P)), some (.v (.int (l : Nat))), y6, some (.v (.int (0 + (i : Int)))), none, none, none])
      generalize (0 + (i : Int)) = q at e
      simp only [putM,mRaise2,defM,defMc,defMX,mExprX,mSetX2,mCallX,mValX,mRaise,mTryK,mIsE,mFld,mIsN,mEnumA,mNil,mSeq,mSeqC,mRetC,mIfS,mRet,mSet,mSetX,mPut,mApp,mFrz,mAug,mPar,setAll,mUnp,gSet,gTupM,gsCons,gsNil,tVal,tAndM,tOrM,tNotM,tYesM,mBin,mUn,mAnd,mOr,mNot,mIf,mChain,mVar,mC,mCall,mCallF,mCallC,argsOf,argOf,ptrs,putBack,aNil,aCons,mTup,mLst,mV,mTell,xLst,xsNil,xsCons,mLenS,mIxS,mDict1,oNone,oSome,mFor,mIt,mRng1,xLc,ownOk,wp,unwp,startS,ixD,atI,addD_int,addD_str,addD_list,addD_tuple,subD,mulD_l,mulD_r,fdivD_pos,modD_pos,ltD_int,leD_int,gtD_int,geD_int,eqD_int,neD_int,eqD_tupE,eqD_strs,neD_strs,isND,isNotND,intF,absF,lenF,joinF,negD,List.map,List.length_cons,List.length_nil,List.cons_append,List.nil_append,List.append_nil,List.replicate,List.getElem?_cons_zero,List.getElem?_cons_succ,List.set_cons_zero,List.set_cons_succ,putAt,SL.put,stables,derefs,stable,deref,heldAt,SL.held,CT.data,CT.app,Int.reduceLT,Int.reduceLE,Int.reduceNeg,Nat.reduceAdd,Nat.reduceLeDiff,and_self,true_and,and_true,ite_true,if_true,List.nodup_cons,List.nodup_nil,List.not_mem_nil,not_false_eq_true,Nat.succ_ne_zero,eq_self,Option.bind_some,Option.bind,Option.map,id,asOut,E3__law_right,e]
  have fr : FinA 0 2000 row := (FinA.all (D := 0) (B := 19) 24 (by omega) fun x hx => by
    rw [← em] at hx
    unfold mapD at hx
    obtain ⟨d, hd, rfl⟩ := List.mem_map.mp hx
    obtain ⟨i, _, rfl⟩ := List.mem_map.mp hd
    exact numD_fin h.Ln l _).mono (Nat.le_refl _) (by decide)
  have rr := fr.list.repr (by omega) (by omega)
  have g4 : ixD (.list row) (.int 0) = some (numD L l 0) := ix_list_at (k := 0) (g3 0 (by omega))
  have ea := h.at (r := l) (p := 0) (by omega) hl (by omega) (by omega)
  have ne := neD_num (L := L) l 0
  exact line_fin (N := numD L l 0) eC g1 g4 rr ea ne
theorem lines_ok (h : PgOk ds due L R P) (p : Pot) : ∃ z5 z6, L6__law_right (stR ds due R P p none none none none none none) = some (.nx, stR ds due R P p z5 z6 none none none none) := by
  have R1 := h.R1
  have R2 := h.R2
  obtain ⟨S', e, z5, z6, rfl⟩ := for_all (g := gSet 5) (mb := B5__law_right) (mi := mRng1 (aCons (mVar 3) (aNil))) (S := stR ds due R P p none none none none none none) (S1 := stR ds due R P p none none none none none none) (ds := rngD 0 R.toNat) (fun _ S => ∃ z5 z6, S = stR ds due R P p z5 z6 none none none none) (by
      have c : -(2 ^ 62 : Int) ≤ R ∧ R < 2 ^ 62 := ⟨by omega, by omega⟩
      show (if -(2 ^ 62 : Int) ≤ R ∧ R < 2 ^ 62 then _ else _) = _
      rw [if_pos c]) ⟨none, none, rfl⟩ (by
      rintro j d S hd ⟨z5, z6, rfl⟩
      unfold rngD at hd
      rw [List.getElem?_map] at hd
      obtain ⟨k, hk, rfl⟩ := Option.map_eq_some_iff.mp hd
      have hk2 := (List.getElem?_eq_some_iff.mp hk)
      obtain ⟨h1, h2⟩ := hk2
      rw [List.length_range] at h1
      rw [List.getElem_range] at h2
      subst h2
      obtain ⟨w6, e⟩ := line_ok h (p := p) (l := j) (by omega) z6
      rw [Int.zero_add]
      exact ⟨stR ds due R P p (some (.v (.int (j : Nat)))) z6 none none none none, _, rfl, .inl e, _, _, rfl⟩)
  exact ⟨z5, z6, e⟩
theorem turns_ok (h : PgOk ds due L R P) {p : Pot} {n : Nat} (hb : Bud (n + 2400) p) (y5 y6 : Option SL) : ∃ p' S', L2__law_right (stR ds due R P p y5 y6 none none none none) = some (.nx, S') ∧ (∃ z5 z7 z8 z9 z10, S' = stR ds due R P p' z5 y6 z7 z8 z9 z10) ∧ Bud n p' := by
  obtain ⟨S', e, p', z5, z7, z8, z9, z10, rfl, hb'⟩ := for_all (g := gSet 8) (mb := B1__law_right) (mi := mRng1 (aCons (mC (.int 24)) (aNil))) (S := stR ds due R P p y5 y6 none none none none) (S1 := stR ds due R P p y5 y6 none none none none) (ds := rngD 0 24) (fun j S => ∃ p' z5 z7 z8 z9 z10, S = stR ds due R P p' z5 y6 z7 z8 z9 z10 ∧ Bud (n + 100 * (24 - j)) p') rfl ⟨p, y5, none, none, none, none, rfl, hb⟩ (by
      rintro j d S hd ⟨p1, z5, z7, z8, z9, z10, rfl, b1⟩
      have hj : j < 24 := by
        have := (List.getElem?_eq_some_iff.mp hd).1
        rw [rngD_len] at this
        exact this
      obtain ⟨p2, w5, w7, w9, w10, e, b2⟩ := turn_ok h (p := p1) (n := n + 100 * (24 - (j + 1))) (b1.le (by omega)) d z5 y6 z7 z9 z10
      exact ⟨stR ds due R P p1 z5 y6 z7 (some (.v d)) z9 z10, _, rfl, .inl e, p2, w5, w7, _, w9, w10, rfl, b2⟩)
  rw [rngD_len] at hb'
  exact ⟨p', _, e, ⟨z5, z7, z8, z9, z10, rfl⟩, hb'.le (by omega)⟩
end
theorem pgL_len : ∀ (zs : List Str) (r : Nat), (∀ z ∈ zs, z.length ≤ 24) → (pgL zs r).length ≤ zs.length * 25
  | [], _, _ => Nat.le_refl _
  | z :: zs, r, h => by
    unfold pgL
    rw [List.length_append, List.length_map, List.length_cons]
    have h1 := K14.rowW_len (z := z)
    have h2 := h z List.mem_cons_self
    have h3 := pgL_len zs (r + 1) fun y hy => h y (List.mem_cons_of_mem _ hy)
    omega
theorem pgL_wl : ∀ (zs : List Str) (r : Nat), (∀ z ∈ zs, z.length ≤ 24) → ∀ t ∈ pgL zs r, t.2.2.length ≤ 1000
  | [], _, _, t, h => by cases h
  | z :: zs, r, hz, t, h => by
    unfold pgL at h
    rcases List.mem_append.mp h with h | h
    · obtain ⟨e, he, rfl⟩ := List.mem_map.mp h
      obtain ⟨w, q⟩ := e
      obtain ⟨h1, _⟩ := K14.rwL_mem _ 0 w q he
      obtain ⟨h3, _⟩ := K14.spl_mem (sg z) [] w h1
      rw [List.length_nil, ← len_sg] at h3
      have := hz z List.mem_cons_self
      show (txt w).length ≤ 1000
      rw [show (txt w).length = w.length from txt_len w]
      omega
    · exact pgL_wl zs (r + 1) (fun y hy => hz y (List.mem_cons_of_mem _ hy)) t h
theorem page_pg {rs : List Str} (hP : PageOk 12 24 rs) : ∃ R P : Int, PgOk (rs.map .str) (numsP rs (-1)) (pgL rs 0) R P ∧ lenF [.tuple (rs.map .str)] = some (.int R) := by
  obtain ⟨k, k0, k1, hk⟩ := hP.wide
  have hf := hP.fin
  have ne := hP.ne
  have hi := hP.hi
  have hz : ∀ z ∈ rs, z.length ≤ 24 := fun z hz => by rw [hk z hz]; omega
  have ec := K14.check_ok hf.tuple (by omega)
  rw [if_pos (K14.PageOk.page hP)] at ec
  have el : lenF [.tuple (rs.map .str)] = some (.int (rs.length : Nat)) := by
    have c : (rs.map PyData.str).length ≤ 100000 := by rw [List.length_map]; omega
    show lenF [.tuple (rs.map .str)] = _
    rw [show (rs.length : Nat) = (rs.map PyData.str).length by rw [List.length_map]]
    simp only [lenF,c,if_true]
  have ew := K14.words_of_page_ok (rs := rs) (by omega) fun z h => by have := hz z h; omega
  rw [wordsA_eq] at ew
  refine ⟨(rs.length : Nat), (k : Nat), ⟨by omega, by omega, by omega, by omega, ec, el, ?_, ew, pgL_wl rs 0 hz, ?_, fun r hr => ?_, hf.mono (by omega) (by omega), by rw [List.length_map]; exact hi⟩, el⟩
  · cases rs with
    | nil => simp at ne
    | cons z zs =>
      refine ⟨z, by show atI (PyData.str z :: zs.map .str) ((0 : Nat) : Int) = _; rw [atI_nat]; rfl, ?_⟩
      have hz0 := hk z List.mem_cons_self
      rw [lenF_str' (by omega), hz0]
  · have := pgL_len rs 0 hz
    omega
  · obtain ⟨z, hzr⟩ : ∃ z, rs[r]? = some z := ⟨_, List.getElem?_eq_getElem (by omega)⟩
    have zm := List.mem_of_getElem? hzr
    obtain ⟨row, h1, h2, _⟩ := num_at (p := 0) hzr (by rw [hk z zm]; omega)
    refine ⟨row, ix_list_at h1, ?_, fun p hp => ?_⟩
    · rw [h2, hk z zm]
      omega
    · obtain ⟨row', g1, _, g3⟩ := num_at (p := p) hzr (by rw [hk z zm]; omega)
      rw [h1] at g1
      injection g1 with g1
      injection g1 with g1
      rw [g1]
      exact g3
where lenF_str' {z : Str} (h : z.length ≤ 100000) : lenF [.str z] = some (.int (z.length : Nat)) := by simp only [lenF, h, if_true]
theorem right_ok {p : Pot} {n R : Nat} (hR : 9000 ≤ R) (hb : Bud (n + R) p) : ∃ p', F__law_right [.q (.l (potD p))] = some (.bool true, [.q (.l (potD p'))]) ∧ Bud n p' := by
  obtain ⟨d1, os1, e1, p1, rs, rfl, rfl, hP, b1⟩ := page_ok (p := p) (n := n + 2400) (h := 12) (w := 24) (hb.le (by omega)) (by omega) (by omega) 12 24 rfl rfl
  obtain ⟨r, q, hG, el⟩ := page_pg hP
  obtain ⟨k, k0, k1, hk⟩ := hP.wide
  have hi := hP.hi
  have en := numbers_ok (zs := rs) (by omega) fun z h => by rw [hk z h]; omega
  obtain ⟨z0, i0, l0⟩ := hG.e0
  generalize rs.map PyData.str = ds at *
  generalize numsP rs (-1) = due at *
  generalize pgL rs 0 = L at *
  obtain ⟨z5, z6, eL⟩ := lines_ok hG p1
  obtain ⟨p2, S', eT, ⟨w5, w7, w8, w9, w10, rfl⟩, b2⟩ := turns_ok hG (p := p1) (n := n) b1 z5 z6
  refine ⟨p2, ?_, b2⟩
  have s1 : mSet 1 (mCallF 3 F__law_page (aCons (mVar 0) (aCons (mC (.int 12)) (aCons (mC (.int 24)) (aNil))))) (startS 11 [.q (.l (potD p))]) = some (.nx, [some (.q (.l (potD p1))), some (.v (.tuple ds)), none, none, none, none, none, none, none, none, none]) := by
    simp only [putM,mRaise2,defM,defMc,defMX,mExprX,mSetX2,mCallX,mValX,mRaise,mTryK,mIsE,mFld,mIsN,mEnumA,mNil,mSeq,mSeqC,mRetC,mIfS,mRet,mSet,mSetX,mPut,mApp,mFrz,mAug,mPar,setAll,mUnp,gSet,gTupM,gsCons,gsNil,tVal,tAndM,tOrM,tNotM,tYesM,mBin,mUn,mAnd,mOr,mNot,mIf,mChain,mVar,mC,mCall,mCallF,mCallC,argsOf,argOf,ptrs,putBack,aNil,aCons,mTup,mLst,mV,mTell,xLst,xsNil,xsCons,mLenS,mIxS,mDict1,oNone,oSome,mFor,mIt,mRng1,xLc,ownOk,wp,unwp,startS,ixD,atI,addD_int,addD_str,addD_list,addD_tuple,subD,mulD_l,mulD_r,fdivD_pos,modD_pos,ltD_int,leD_int,gtD_int,geD_int,eqD_int,neD_int,eqD_tupE,eqD_strs,neD_strs,isND,isNotND,intF,absF,lenF,joinF,negD,List.map,List.length_cons,List.length_nil,List.cons_append,List.nil_append,List.append_nil,List.replicate,List.getElem?_cons_zero,List.getElem?_cons_succ,List.set_cons_zero,List.set_cons_succ,putAt,SL.put,stables,derefs,stable,deref,heldAt,SL.held,CT.data,CT.app,Int.reduceLT,Int.reduceLE,Int.reduceNeg,Nat.reduceAdd,Nat.reduceLeDiff,and_self,true_and,and_true,ite_true,if_true,List.nodup_cons,List.nodup_nil,List.not_mem_nil,not_false_eq_true,Nat.succ_ne_zero,eq_self,Option.bind_some,Option.bind,Option.map,id,asOut,e1]
  have s2 : mPar [2, 3, 4] (xsCons (mV (mCallF 1 F__law_numbers (aCons (mVar 1) (aNil)))) (xsCons (mV (mCall lenF (aCons (mVar 1) (aNil)))) (xsCons (mV (mCall lenF (aCons (mBin ixD (mVar 1) (mC (.int 0))) (aNil)))) (xsNil)))) [some (.q (.l (potD p1))), some (.v (.tuple ds)), none, none, none, none, none, none, none, none, none] = some (.nx, stR ds due r q p1 none none none none none none) := by
    simp only [putM,mRaise2,defM,defMc,defMX,mExprX,mSetX2,mCallX,mValX,mRaise,mTryK,mIsE,mFld,mIsN,mEnumA,mNil,mSeq,mSeqC,mRetC,mIfS,mRet,mSet,mSetX,mPut,mApp,mFrz,mAug,mPar,setAll,mUnp,gSet,gTupM,gsCons,gsNil,tVal,tAndM,tOrM,tNotM,tYesM,mBin,mUn,mAnd,mOr,mNot,mIf,mChain,mVar,mC,mCall,mCallF,mCallC,argsOf,argOf,ptrs,putBack,aNil,aCons,mTup,mLst,mV,mTell,xLst,xsNil,xsCons,mLenS,mIxS,mDict1,oNone,oSome,mFor,mIt,mRng1,xLc,ownOk,wp,unwp,startS,ixD,atI,addD_int,addD_str,addD_list,addD_tuple,subD,mulD_l,mulD_r,fdivD_pos,modD_pos,ltD_int,leD_int,gtD_int,geD_int,eqD_int,neD_int,eqD_tupE,eqD_strs,neD_strs,isND,isNotND,intF,absF,lenF,joinF,negD,List.map,List.length_cons,List.length_nil,List.cons_append,List.nil_append,List.append_nil,List.replicate,List.getElem?_cons_zero,List.getElem?_cons_succ,List.set_cons_zero,List.set_cons_succ,putAt,SL.put,stables,derefs,stable,deref,heldAt,SL.held,CT.data,CT.app,Int.reduceLT,Int.reduceLE,Int.reduceNeg,Nat.reduceAdd,Nat.reduceLeDiff,and_self,true_and,and_true,ite_true,if_true,List.nodup_cons,List.nodup_nil,List.not_mem_nil,not_false_eq_true,Nat.succ_ne_zero,eq_self,Option.bind_some,Option.bind,Option.map,id,asOut,en,↓el,↓i0,↓l0,stR]
  unfold F__law_right defM m__law_right
  rw [sq s1, sq s2, sq eL, sq eT]
  rfl
end VL
namespace VL
open PySem PySem.Spec PyProof.Rows L2
theorem run_callC {nn : Nat} {mf : MFc} {mas : MA} {S S1 S2 : Sl} {rs : List SV} {as as' : List SL} {ds : List PyData} {QX : SL → Sl → Prop} (h : mas S = some (rs, S1)) (hn : rs.length = nn) (nd : (ptrs rs).Nodup) (ha : argsOf S1 rs = some as) (hm : mf as = some (ds, as')) (hp : putBack S1 rs as' = some S2) (q : QX (.c (.l ds)) S2) : Run (mCallC nn mf mas S) QX := by
  refine ⟨_, _, ?_, q⟩
  simp only [mCallC,h]
  rw [if_pos ⟨hn, nd⟩]
  simp only [ha,hm,hp]
theorem law_true {ns : List Int} (hns : ns.length ≤ 63) : F_law [.s (.ns ns)] = some (.bool true, [.s (.ns ns)]) := by
  obtain ⟨R, hR, hR2⟩ : ∃ R : Nat, 9000 ≤ R ∧ R ≤ 9000 := ⟨_, Nat.le_refl _, Nat.le_refl _⟩
  have key : ∃ d as', F_law [.s (.ns ns)] = some (d, as') ∧ d = .bool true ∧ as' = [.s (.ns ns)] := by
    refine run_def (P := fun d as' => d = .bool true ∧ as' = [.s (.ns ns)]) ?_
    obtain ⟨m, hm, hm3⟩ : ∃ m : Int, (if (if (ns.length : Int) < 3 then (ns.length : Int) else 3) > 1 then (if (ns.length : Int) < 3 then (ns.length : Int) else 3) else 1) = m ∧ 0 ≤ m ∧ m ≤ 3 := ⟨_, rfl, by split <;> split <;> omega, by split <;> split <;> omega⟩
    apply run_seq
    refine run_for (ds := rngD 0 m.toNat) (S1 := [some (.s (.ns ns)), none, none, none]) (fun j S => ∃ (t1 t2 : Option SL), S = [some (.s (.ns ns)), t1, t2, none]) ?_ ⟨_, _, rfl⟩ ?_ ?_
    · simp only [putM,mRaise2,defM,defMc,defMX,mExprX,mSetX2,mCallX,mValX,mRaise,mTryK,mIsE,mFld,mIsN,mEnumA,mNil,mSeq,mSeqC,mRetC,mIfS,mRet,mSet,mSetX,mPut,mApp,mFrz,mAug,mPar,setAll,mUnp,gSet,gTupM,gsCons,gsNil,tVal,tAndM,tOrM,tNotM,tYesM,mBin,mUn,mAnd,mOr,mNot,mIf,mChain,mVar,mC,mCall,mCallF,mCallC,argsOf,argOf,ptrs,putBack,aNil,aCons,mTup,mLst,mV,mTell,xLst,xsNil,xsCons,mLenS,mIxS,mDict1,oNone,oSome,mFor,mIt,mRng1,xLc,ownOk,wp,unwp,startS,ixD,atI,addD_int,addD_str,addD_list,addD_tuple,subD,mulD_l,mulD_r,fdivD_pos,modD_pos,ltD_int,leD_int,gtD_int,geD_int,eqD_int,neD_int,eqD_tupE,eqD_strs,neD_strs,isND,isNotND,intF,absF,lenF,joinF,negD,List.map,List.length_cons,List.length_nil,List.cons_append,List.nil_append,List.append_nil,List.replicate,List.getElem?_cons_zero,List.getElem?_cons_succ,List.set_cons_zero,List.set_cons_succ,putAt,SL.put,stables,derefs,stable,deref,heldAt,SL.held,CT.data,CT.app,Int.reduceLT,Int.reduceLE,Int.reduceNeg,Nat.reduceAdd,Nat.reduceLeDiff,and_self,true_and,and_true,ite_true,if_true,List.nodup_cons,List.nodup_nil,List.not_mem_nil,not_false_eq_true,Nat.succ_ne_zero,eq_self,Option.bind_some,Option.bind,Option.map,id,asOut,max2F,min2F,hm]
      exact if_pos ⟨by omega, by omega⟩
    · rintro j d S hd ⟨t1, t2, rfl⟩
      obtain ⟨i, rfl, i0, i3⟩ : ∃ i : Int, d = .int i ∧ 0 ≤ i ∧ i ≤ 100 := by
        unfold rngD at hd
        rw [List.getElem?_map] at hd
        obtain ⟨k, hk, rfl⟩ := Option.map_eq_some_iff.mp hd
        have := (List.getElem?_eq_some_iff.mp hk)
        obtain ⟨h1, h2⟩ := this
        rw [List.length_range] at h1
        rw [List.getElem_range] at h2
        exact ⟨_, rfl, by omega, by omega⟩
      refine ⟨_, rfl, ?_⟩
      obtain ⟨p, ep, bp⟩ := pot_ok (ns := ns) (k := i) i0 i3
      apply run_seq
      apply run_setX
      apply run_callC (rs := [.s (.ns ns), .v (.int i)]) (S1 := [some (.s (.ns ns)), some (.v (.int i)), t2, none]) ?_ rfl (by simp [ptrs]) rfl ep rfl
      · exact .inr ⟨_, rfl, by
          show Run _ _
          apply run_one
          apply run_ifE
          apply run_tnot
          apply run_tval
          apply run_call1
          apply run_tell
          apply run_lcI
          apply run_rng1
          apply run_eq
          · simp only [putM,mRaise2,defM,defMc,defMX,mExprX,mSetX2,mCallX,mValX,mRaise,mTryK,mIsE,mFld,mIsN,mEnumA,mNil,mSeq,mSeqC,mRetC,mIfS,mRet,mSet,mSetX,mPut,mApp,mFrz,mAug,mPar,setAll,mUnp,gSet,gTupM,gsCons,gsNil,tVal,tAndM,tOrM,tNotM,tYesM,mBin,mUn,mAnd,mOr,mNot,mIf,mChain,mVar,mC,mCall,mCallF,mCallC,argsOf,argOf,ptrs,putBack,aNil,aCons,mTup,mLst,mV,mTell,xLst,xsNil,xsCons,mLenS,mIxS,mDict1,oNone,oSome,mFor,mIt,mRng1,xLc,ownOk,wp,unwp,startS,ixD,atI,addD_int,addD_str,addD_list,addD_tuple,subD,mulD_l,mulD_r,fdivD_pos,modD_pos,ltD_int,leD_int,gtD_int,geD_int,eqD_int,neD_int,eqD_tupE,eqD_strs,neD_strs,isND,isNotND,intF,absF,lenF,joinF,negD,List.map,List.length_cons,List.length_nil,List.cons_append,List.nil_append,List.append_nil,List.replicate,List.getElem?_cons_zero,List.getElem?_cons_succ,List.set_cons_zero,List.set_cons_succ,putAt,SL.put,stables,derefs,stable,deref,heldAt,SL.held,CT.data,CT.app,Int.reduceLT,Int.reduceLE,Int.reduceNeg,Nat.reduceAdd,Nat.reduceLeDiff,and_self,true_and,and_true,ite_true,if_true,List.nodup_cons,List.nodup_nil,List.not_mem_nil,not_false_eq_true,Nat.succ_ne_zero,eq_self,Option.bind_some,Option.bind,Option.map,id,asOut]
            exact rfl
          refine ⟨4, rfl, by decide, by decide, rfl, ?_⟩
          refine run_lcGo (fun k T acc => ∃ (p : Pot), T = [some (.s (.ns ns)), some (.v (.int i)), some (.c (.l (potD p))), none] ∧ acc = (List.replicate k true).map .bool ∧ Bud (R * (4 - k)) p) ⟨p, rfl, rfl, bp.le (by omega)⟩ ?_ ?_
          · rintro k x T acc hx ⟨p1, rfl, rfl, b1⟩
            have hk : k < 4 := by
              have := (List.getElem?_eq_some_iff.mp hx).1
              rw [rngD_len] at this
              omega
            refine ⟨by rw [List.length_map, List.length_replicate]; omega, _, rfl, ?_⟩
            refine run_eq rfl ⟨rfl, ?_⟩
            have eR : R * (4 - k) = R * (4 - (k + 1)) + R := by rw [show 4 - k = (4 - (k + 1)) + 1 by omega, Nat.mul_succ]
            obtain ⟨p2, er, b2⟩ := right_ok (n := R * (4 - (k + 1))) hR (by rw [← eR]; exact b1)
            apply run_eq
            · simp only [putM,mRaise2,defM,defMc,defMX,mExprX,mSetX2,mCallX,mValX,mRaise,mTryK,mIsE,mFld,mIsN,mEnumA,mNil,mSeq,mSeqC,mRetC,mIfS,mRet,mSet,mSetX,mPut,mApp,mFrz,mAug,mPar,setAll,mUnp,gSet,gTupM,gsCons,gsNil,tVal,tAndM,tOrM,tNotM,tYesM,mBin,mUn,mAnd,mOr,mNot,mIf,mChain,mVar,mC,mCall,mCallF,mCallC,argsOf,argOf,ptrs,putBack,aNil,aCons,mTup,mLst,mV,mTell,xLst,xsNil,xsCons,mLenS,mIxS,mDict1,oNone,oSome,mFor,mIt,mRng1,xLc,ownOk,wp,unwp,startS,ixD,atI,addD_int,addD_str,addD_list,addD_tuple,subD,mulD_l,mulD_r,fdivD_pos,modD_pos,ltD_int,leD_int,gtD_int,geD_int,eqD_int,neD_int,eqD_tupE,eqD_strs,neD_strs,isND,isNotND,intF,absF,lenF,joinF,negD,List.map,List.length_cons,List.length_nil,List.cons_append,List.nil_append,List.append_nil,List.replicate,List.getElem?_cons_zero,List.getElem?_cons_succ,List.set_cons_zero,List.set_cons_succ,putAt,SL.put,stables,derefs,stable,deref,heldAt,SL.held,CT.data,CT.app,Int.reduceLT,Int.reduceLE,Int.reduceNeg,Nat.reduceAdd,Nat.reduceLeDiff,and_self,true_and,and_true,ite_true,if_true,List.nodup_cons,List.nodup_nil,List.not_mem_nil,not_false_eq_true,Nat.succ_ne_zero,eq_self,Option.bind_some,Option.bind,Option.map,id,asOut,E1_law,er]
              exact rfl
            refine ⟨_, rfl, p2, rfl, ?_, b2⟩
            rw [List.replicate_succ', List.map_append]
            rfl
          · rintro T acc ⟨p1, rfl, rfl, b1⟩
            rw [rngD_len]
            exact .inr ⟨_, rfl, _, _, rfl, rfl, _, rfl, run_nil ⟨.inl rfl, _, _, rfl⟩⟩⟩
      · simp only [putM,mRaise2,defM,defMc,defMX,mExprX,mSetX2,mCallX,mValX,mRaise,mTryK,mIsE,mFld,mIsN,mEnumA,mNil,mSeq,mSeqC,mRetC,mIfS,mRet,mSet,mSetX,mPut,mApp,mFrz,mAug,mPar,setAll,mUnp,gSet,gTupM,gsCons,gsNil,tVal,tAndM,tOrM,tNotM,tYesM,mBin,mUn,mAnd,mOr,mNot,mIf,mChain,mVar,mC,mCall,mCallF,mCallC,argsOf,argOf,ptrs,putBack,aNil,aCons,mTup,mLst,mV,mTell,xLst,xsNil,xsCons,mLenS,mIxS,mDict1,oNone,oSome,mFor,mIt,mRng1,xLc,ownOk,wp,unwp,startS,ixD,atI,addD_int,addD_str,addD_list,addD_tuple,subD,mulD_l,mulD_r,fdivD_pos,modD_pos,ltD_int,leD_int,gtD_int,geD_int,eqD_int,neD_int,eqD_tupE,eqD_strs,neD_strs,isND,isNotND,intF,absF,lenF,joinF,negD,List.map,List.length_cons,List.length_nil,List.cons_append,List.nil_append,List.append_nil,List.replicate,List.getElem?_cons_zero,List.getElem?_cons_succ,List.set_cons_zero,List.set_cons_succ,putAt,SL.put,stables,derefs,stable,deref,heldAt,SL.held,CT.data,CT.app,Int.reduceLT,Int.reduceLE,Int.reduceNeg,Nat.reduceAdd,Nat.reduceLeDiff,and_self,true_and,and_true,ite_true,if_true,List.nodup_cons,List.nodup_nil,List.not_mem_nil,not_false_eq_true,Nat.succ_ne_zero,eq_self,Option.bind_some,Option.bind,Option.map,id,asOut]
    · rintro S ⟨t1, t2, rfl⟩
      show Run _ _
      apply run_eq
      · simp only [putM,mRaise2,defM,defMc,defMX,mExprX,mSetX2,mCallX,mValX,mRaise,mTryK,mIsE,mFld,mIsN,mEnumA,mNil,mSeq,mSeqC,mRetC,mIfS,mRet,mSet,mSetX,mPut,mApp,mFrz,mAug,mPar,setAll,mUnp,gSet,gTupM,gsCons,gsNil,tVal,tAndM,tOrM,tNotM,tYesM,mBin,mUn,mAnd,mOr,mNot,mIf,mChain,mVar,mC,mCall,mCallF,mCallC,argsOf,argOf,ptrs,putBack,aNil,aCons,mTup,mLst,mV,mTell,xLst,xsNil,xsCons,mLenS,mIxS,mDict1,oNone,oSome,mFor,mIt,mRng1,xLc,ownOk,wp,unwp,startS,ixD,atI,addD_int,addD_str,addD_list,addD_tuple,subD,mulD_l,mulD_r,fdivD_pos,modD_pos,ltD_int,leD_int,gtD_int,geD_int,eqD_int,neD_int,eqD_tupE,eqD_strs,neD_strs,isND,isNotND,intF,absF,lenF,joinF,negD,List.map,List.length_cons,List.length_nil,List.cons_append,List.nil_append,List.append_nil,List.replicate,List.getElem?_cons_zero,List.getElem?_cons_succ,List.set_cons_zero,List.set_cons_succ,putAt,SL.put,stables,derefs,stable,deref,heldAt,SL.held,CT.data,CT.app,Int.reduceLT,Int.reduceLE,Int.reduceNeg,Nat.reduceAdd,Nat.reduceLeDiff,and_self,true_and,and_true,ite_true,if_true,List.nodup_cons,List.nodup_nil,List.not_mem_nil,not_false_eq_true,Nat.succ_ne_zero,eq_self,Option.bind_some,Option.bind,Option.map,id,asOut]
        exact rfl
      exact ⟨_, _, rfl, rfl, rfl, rfl⟩
  obtain ⟨x, as', e, rfl, rfl⟩ := key
  exact e
end VL
namespace VL
open PySem PySem.Spec PyProof.Rows L2
theorem all_mk {l : PySem.W.OpenLaw} {w : World} {K : PySem.W.Frag} {h : Heap} {mg : Str → Option Value} {fa f__law_pot f__law_take f__law_of f__law_page f__law_numbers f_is_row f_is_page f_check_page f_row_words f_words_of_page f_is_integer f_is_below f_word_at f__law_is_within f__law_odd f__law_heard f__law_right f_law C_BadPage C_BadPlace C_SetbackError I_BadPage I_BadPlace c_tab P_tab : Addr} {t_BLANK t_LETTERS : Tok} (X : K.In h) (G : h.Ns mainGlobals mg) (hfa : mg "law" = some (.ref fa))
    {od0 an0 od1 an1 od2 an2 od3 an3 od4 an4 od5 an5 od6 an6 od7 an7 od8 an8 od9 an9 od10 an10 od11 an11 od12 an12 od13 an13 od14 an14 od15 an15 od16 an16 od17 an17 : Option Addr} {sl0 sl1 sl2 sl3 sl4 sl5 sl6 sl7 sl8 sl9 sl10 sl11 sl12 sl13 sl14 sl15 sl16 sl17 : Array (Option Value)} {oc0 kV0 dc0 pm0 cd0 ct0 oc1 kV1 dc1 pm1 cd1 ct1 oc2 kV2 dc2 pm2 cd2 ct2 oc3 kV3 dc3 pm3 cd3 ct3 oc4 kV4 dc4 pm4 cd4 ct4 oc5 kV5 dc5 pm5 cd5 ct5 oc6 kV6 dc6 pm6 cd6 ct6 oc7 kV7 dc7 pm7 cd7 ct7 oc8 kV8 dc8 pm8 cd8 ct8 oc9 kV9 dc9 pm9 cd9 ct9 oc10 kV10 dc10 pm10 cd10 ct10 oc11 kV11 dc11 pm11 cd11 ct11 oc12 kV12 dc12 pm12 cd12 ct12 oc13 kV13 dc13 pm13 cd13 ct13 oc14 kV14 dc14 pm14 cd14 ct14 oc15 kV15 dc15 pm15 cd15 ct15 oc16 kV16 dc16 pm16 ct16 oc17 kV17 dc17 pm17 cd17 ct17 : Value}
    {tcl : Value} {tdd : Option Addr} {tvs : Array Value} {tcs : Array (Option Value)}
    {cnm_BadPage : Str} {cq_BadPage : Str} {cN_BadPage : Addr} {cbs_BadPage cbm_BadPage : List Value} {csn_BadPage : List Str} {csub_BadPage : List Value} {cab_BadPage : Bool} {ccol_BadPage : Option Bool} {cdd_BadPage : Option Addr} {ck0_BadPage ck1_BadPage ck2_BadPage ck3_BadPage ck5_BadPage : Option Value}
    {ioc_BadPage idoc_BadPage ipm_BadPage ict_BadPage iccl_BadPage icl_BadPage : Value} {iod_BadPage ian_BadPage icdd_BadPage icld_BadPage : Option Addr} {iosl_BadPage iccs_BadPage icsl_BadPage : Array (Option Value)} {a1_BadPage a2_BadPage p0_BadPage p1_BadPage p2_BadPage p3_BadPage p4_BadPage p5_BadPage q1_BadPage q2_BadPage q3_BadPage q4_BadPage : Pos} {iq_BadPage ifile_BadPage : Str} {icc_BadPage icda_BadPage : Addr} {ivs_BadPage : Array Value} {itf_BadPage : Tok}
    {cnm_BadPlace : Str} {cq_BadPlace : Str} {cN_BadPlace : Addr} {cbs_BadPlace cbm_BadPlace : List Value} {csn_BadPlace : List Str} {csub_BadPlace : List Value} {cab_BadPlace : Bool} {ccol_BadPlace : Option Bool} {cdd_BadPlace : Option Addr} {ck0_BadPlace ck1_BadPlace ck2_BadPlace ck3_BadPlace ck5_BadPlace : Option Value}
    {a3_BadPlace p6_BadPlace r1_BadPlace r2_BadPlace r3_BadPlace r4_BadPlace : Pos}
    {ioc_BadPlace idoc_BadPlace ipm_BadPlace ict_BadPlace iccl_BadPlace icl_BadPlace : Value} {iod_BadPlace ian_BadPlace icdd_BadPlace icld_BadPlace : Option Addr} {iosl_BadPlace iccs_BadPlace icsl_BadPlace : Array (Option Value)} {a1_BadPlace a2_BadPlace p0_BadPlace p1_BadPlace p2_BadPlace p3_BadPlace p4_BadPlace p5_BadPlace q1_BadPlace q2_BadPlace q3_BadPlace q4_BadPlace : Pos} {iq_BadPlace ifile_BadPlace : Str} {icc_BadPlace icda_BadPlace : Addr} {ivs_BadPlace : Array Value} {itf_BadPlace : Tok}
    (a0 : PySem.W.nsIn K mainGlobals "_law_pot" = some (some (.ref f__law_pot)))
    (l0 : K.lookup f__law_pot = some ⟨oc0, od0, .func (PySem.W.fnOf "_law_pot" "_law_pot" (defArgs s__law_pot) (defBody s__law_pot) (defScope s__law_pot) .none kV0 dc0 pm0 an0 cd0 ct0), sl0⟩)
    (c0 : PySem.W.codeIn K cd0 "_law_pot" = true)
    (k0 : PySem.W.keepIn K (.ref f__law_pot) = true)
    (a1 : PySem.W.nsIn K mainGlobals "_law_take" = some (some (.ref f__law_take)))
    (l1 : K.lookup f__law_take = some ⟨oc1, od1, .func (PySem.W.fnOf "_law_take" "_law_take" (defArgs s__law_take) (defBody s__law_take) (defScope s__law_take) .none kV1 dc1 pm1 an1 cd1 ct1), sl1⟩)
    (c1 : PySem.W.codeIn K cd1 "_law_take" = true)
    (k1 : PySem.W.keepIn K (.ref f__law_take) = true)
    (a2 : PySem.W.nsIn K mainGlobals "_law_of" = some (some (.ref f__law_of)))
    (l2 : K.lookup f__law_of = some ⟨oc2, od2, .func (PySem.W.fnOf "_law_of" "_law_of" (defArgs s__law_of) (defBody s__law_of) (defScope s__law_of) .none kV2 dc2 pm2 an2 cd2 ct2), sl2⟩)
    (c2 : PySem.W.codeIn K cd2 "_law_of" = true)
    (k2 : PySem.W.keepIn K (.ref f__law_of) = true)
    (a3 : PySem.W.nsIn K mainGlobals "_law_page" = some (some (.ref f__law_page)))
    (l3 : K.lookup f__law_page = some ⟨oc3, od3, .func (PySem.W.fnOf "_law_page" "_law_page" (defArgs s__law_page) (defBody s__law_page) (defScope s__law_page) .none kV3 dc3 pm3 an3 cd3 ct3), sl3⟩)
    (c3 : PySem.W.codeIn K cd3 "_law_page" = true)
    (k3 : PySem.W.keepIn K (.ref f__law_page) = true)
    (a4 : PySem.W.nsIn K mainGlobals "_law_numbers" = some (some (.ref f__law_numbers)))
    (l4 : K.lookup f__law_numbers = some ⟨oc4, od4, .func (PySem.W.fnOf "_law_numbers" "_law_numbers" (defArgs s__law_numbers) (defBody s__law_numbers) (defScope s__law_numbers) .none kV4 dc4 pm4 an4 cd4 ct4), sl4⟩)
    (c4 : PySem.W.codeIn K cd4 "_law_numbers" = true)
    (k4 : PySem.W.keepIn K (.ref f__law_numbers) = true)
    (a5 : PySem.W.nsIn K mainGlobals "is_row" = some (some (.ref f_is_row)))
    (l5 : K.lookup f_is_row = some ⟨oc5, od5, .func (PySem.W.fnOf "is_row" "is_row" (defArgs s_is_row) (defBody s_is_row) (defScope s_is_row) .none kV5 dc5 pm5 an5 cd5 ct5), sl5⟩)
    (c5 : PySem.W.codeIn K cd5 "is_row" = true)
    (k5 : PySem.W.keepIn K (.ref f_is_row) = true)
    (a6 : PySem.W.nsIn K mainGlobals "is_page" = some (some (.ref f_is_page)))
    (l6 : K.lookup f_is_page = some ⟨oc6, od6, .func (PySem.W.fnOf "is_page" "is_page" (defArgs s_is_page) (defBody s_is_page) (defScope s_is_page) .none kV6 dc6 pm6 an6 cd6 ct6), sl6⟩)
    (c6 : PySem.W.codeIn K cd6 "is_page" = true)
    (k6 : PySem.W.keepIn K (.ref f_is_page) = true)
    (a7 : PySem.W.nsIn K mainGlobals "check_page" = some (some (.ref f_check_page)))
    (l7 : K.lookup f_check_page = some ⟨oc7, od7, .func (PySem.W.fnOf "check_page" "check_page" (defArgs s_check_page) (defBody s_check_page) (defScope s_check_page) .none kV7 dc7 pm7 an7 cd7 ct7), sl7⟩)
    (c7 : PySem.W.codeIn K cd7 "check_page" = true)
    (k7 : PySem.W.keepIn K (.ref f_check_page) = true)
    (a8 : PySem.W.nsIn K mainGlobals "row_words" = some (some (.ref f_row_words)))
    (l8 : K.lookup f_row_words = some ⟨oc8, od8, .func (PySem.W.fnOf "row_words" "row_words" (defArgs s_row_words) (defBody s_row_words) (defScope s_row_words) .none kV8 dc8 pm8 an8 cd8 ct8), sl8⟩)
    (c8 : PySem.W.codeIn K cd8 "row_words" = true)
    (k8 : PySem.W.keepIn K (.ref f_row_words) = true)
    (a9 : PySem.W.nsIn K mainGlobals "words_of_page" = some (some (.ref f_words_of_page)))
    (l9 : K.lookup f_words_of_page = some ⟨oc9, od9, .func (PySem.W.fnOf "words_of_page" "words_of_page" (defArgs s_words_of_page) (defBody s_words_of_page) (defScope s_words_of_page) .none kV9 dc9 pm9 an9 cd9 ct9), sl9⟩)
    (c9 : PySem.W.codeIn K cd9 "words_of_page" = true)
    (k9 : PySem.W.keepIn K (.ref f_words_of_page) = true)
    (a10 : PySem.W.nsIn K mainGlobals "is_integer" = some (some (.ref f_is_integer)))
    (l10 : K.lookup f_is_integer = some ⟨oc10, od10, .func (PySem.W.fnOf "is_integer" "is_integer" (defArgs s_is_integer) (defBody s_is_integer) (defScope s_is_integer) .none kV10 dc10 pm10 an10 cd10 ct10), sl10⟩)
    (c10 : PySem.W.codeIn K cd10 "is_integer" = true)
    (k10 : PySem.W.keepIn K (.ref f_is_integer) = true)
    (a11 : PySem.W.nsIn K mainGlobals "is_below" = some (some (.ref f_is_below)))
    (l11 : K.lookup f_is_below = some ⟨oc11, od11, .func (PySem.W.fnOf "is_below" "is_below" (defArgs s_is_below) (defBody s_is_below) (defScope s_is_below) .none kV11 dc11 pm11 an11 cd11 ct11), sl11⟩)
    (c11 : PySem.W.codeIn K cd11 "is_below" = true)
    (k11 : PySem.W.keepIn K (.ref f_is_below) = true)
    (a12 : PySem.W.nsIn K mainGlobals "word_at" = some (some (.ref f_word_at)))
    (l12 : K.lookup f_word_at = some ⟨oc12, od12, .func (PySem.W.fnOf "word_at" "word_at" (defArgs s_word_at) (defBody s_word_at) (defScope s_word_at) .none kV12 dc12 pm12 an12 cd12 ct12), sl12⟩)
    (c12 : PySem.W.codeIn K cd12 "word_at" = true)
    (k12 : PySem.W.keepIn K (.ref f_word_at) = true)
    (a13 : PySem.W.nsIn K mainGlobals "_law_is_within" = some (some (.ref f__law_is_within)))
    (l13 : K.lookup f__law_is_within = some ⟨oc13, od13, .func (PySem.W.fnOf "_law_is_within" "_law_is_within" (defArgs s__law_is_within) (defBody s__law_is_within) (defScope s__law_is_within) .none kV13 dc13 pm13 an13 cd13 ct13), sl13⟩)
    (c13 : PySem.W.codeIn K cd13 "_law_is_within" = true)
    (k13 : PySem.W.keepIn K (.ref f__law_is_within) = true)
    (a14 : PySem.W.nsIn K mainGlobals "_law_odd" = some (some (.ref f__law_odd)))
    (l14 : K.lookup f__law_odd = some ⟨oc14, od14, .func (PySem.W.fnOf "_law_odd" "_law_odd" (defArgs s__law_odd) (defBody s__law_odd) (defScope s__law_odd) .none kV14 dc14 pm14 an14 cd14 ct14), sl14⟩)
    (c14 : PySem.W.codeIn K cd14 "_law_odd" = true)
    (k14 : PySem.W.keepIn K (.ref f__law_odd) = true)
    (a15 : PySem.W.nsIn K mainGlobals "_law_heard" = some (some (.ref f__law_heard)))
    (l15 : K.lookup f__law_heard = some ⟨oc15, od15, .func (PySem.W.fnOf "_law_heard" "_law_heard" (defArgs s__law_heard) (defBody s__law_heard) (defScope s__law_heard) .none kV15 dc15 pm15 an15 cd15 ct15), sl15⟩)
    (c15 : PySem.W.codeIn K cd15 "_law_heard" = true)
    (k15 : PySem.W.keepIn K (.ref f__law_heard) = true)
    (a16 : PySem.W.nsIn K mainGlobals "_law_right" = some (some (.ref f__law_right)))
    (l16 : K.lookup f__law_right = some ⟨oc16, od16, .func (PySem.W.fnOf "_law_right" "_law_right" (defArgs s__law_right) (defBody s__law_right) (defScope s__law_right) .none kV16 dc16 pm16 an16 (.ref c_tab) ct16), sl16⟩)
    (c16 : PySem.W.codeIn K (.ref c_tab) "_law_right" = true)
    (k16 : PySem.W.keepIn K (.ref f__law_right) = true)
    (a17 : PySem.W.nsIn K mainGlobals "law" = some (some (.ref f_law)))
    (l17 : K.lookup f_law = some ⟨oc17, od17, .func (PySem.W.fnOf "law" "law" (defArgs s_law) (defBody s_law) (defScope s_law) .none kV17 dc17 pm17 an17 cd17 ct17), sl17⟩)
    (c17 : PySem.W.codeIn K cd17 "law" = true)
    (k17 : PySem.W.keepIn K (.ref f_law) = true)
    (b_ValueError : PySem.W.nsIn K mainGlobals "ValueError" = some none)
    (b_abs : PySem.W.nsIn K mainGlobals "abs" = some none)
    (b_all : PySem.W.nsIn K mainGlobals "all" = some none)
    (b_bool : PySem.W.nsIn K mainGlobals "bool" = some none)
    (b_enumerate : PySem.W.nsIn K mainGlobals "enumerate" = some none)
    (b_int : PySem.W.nsIn K mainGlobals "int" = some none)
    (b_isinstance : PySem.W.nsIn K mainGlobals "isinstance" = some none)
    (b_len : PySem.W.nsIn K mainGlobals "len" = some none)
    (b_list : PySem.W.nsIn K mainGlobals "list" = some none)
    (b_max : PySem.W.nsIn K mainGlobals "max" = some none)
    (b_min : PySem.W.nsIn K mainGlobals "min" = some none)
    (b_range : PySem.W.nsIn K mainGlobals "range" = some none)
    (b_repr : PySem.W.nsIn K mainGlobals "repr" = some none)
    (b_str : PySem.W.nsIn K mainGlobals "str" = some none)
    (b_super : PySem.W.nsIn K mainGlobals "super" = some none)
    (b_tuple : PySem.W.nsIn K mainGlobals "tuple" = some none)
    (g_BLANK : PySem.W.nsIn K mainGlobals "BLANK" = some (some (.str " " t_BLANK)))
    (g_LETTERS : PySem.W.nsIn K mainGlobals "LETTERS" = some (some (.str "abcdefghijklmnopqrstuvwxyz" t_LETTERS)))
    (t_l : K.lookup c_tab = some ⟨tcl, tdd, .fields tvs, tcs⟩)
    (t_p : tvs[11]? = some (.ref P_tab))
    (t_h : PySem.W.codeHdIn K c_tab P_tab = true)
    (t_n : K.lookup P_tab = none)
    (t_e : h.get? P_tab = some { cls := .none, data := .fields #[] })
    (nC_BadPage : PySem.W.nsIn K mainGlobals "BadPage" = some (some (.ref C_BadPage)))
    (nC_BadPlace : PySem.W.nsIn K mainGlobals "BadPlace" = some (some (.ref C_BadPlace)))
    (nC_SetbackError : PySem.W.nsIn K mainGlobals "SetbackError" = some (some (.ref C_SetbackError)))
    (th : PySem.W.nsIn K PySem.cStatics "thirdparty.any" = some none)
    (cl_BadPage : K.lookup C_BadPage = some (excClassObj cnm_BadPage cq_BadPage C_BadPage cN_BadPage cbs_BadPage cbm_BadPage true csn_BadPage csub_BadPage cab_BadPage ccol_BadPage cdd_BadPage ck0_BadPage ck1_BadPage ck2_BadPage ck3_BadPage ck5_BadPage "ValueError.__new__"))
    (rv_BadPage : PySem.HandSPX.refsVE cbm_BadPage = true)
    (sa_BadPage : PySem.W.findIn K (.ref C_BadPage) "__setattr__" = some (some (.builtin "object.__setattr__")))
    (ga_BadPage : PySem.W.findIn K (.ref C_BadPage) "__getattribute__" = some (some (.builtin "BaseException.__getattribute__")))
    (gg_BadPage : PySem.W.findIn K (.ref C_BadPage) "__getattr__" = some none)
    (no_BadPage : PySem.W.findIn K (.ref C_BadPage) "value" = some none)
    (ic_BadPage : PySem.W.findIn K (.ref C_BadPage) "__init__" = some (some (.ref I_BadPage)))
    (ti_BadPage : PySem.W.typeIn K (.ref I_BadPage) = some (.type "function"))
    (kc_BadPage : PySem.W.keepIn K (.ref C_BadPage) = true)
    (ex_BadPage : PySem.W.subIn K (.ref C_BadPage) (.type "BaseException") = some true)
    (ve_BadPage : PySem.W.subIn K (.ref C_BadPage) (.type "ValueError") = some true)
    (ty_BadPage : PySem.W.typeIn K (.ref C_BadPage) = some (.type "type"))
    (hd_BadPage : PySem.W.hasDictIn K C_BadPage = true)
    (su_BadPage : PySem.W.ks_superIn K C_BadPage C_BadPage "__init__" = some (some (.builtin "ValueError.__init__")))
    (mc_BadPage : PySem.W.mroIn K C_BadPage (.ref C_BadPage) = some true)
    (fi_BadPage : K.lookup I_BadPage = some ⟨ioc_BadPage, iod_BadPage, .func (PySem.W.ksFn "__init__" iq_BadPage (VX.xA "value" a1_BadPage a2_BadPage) (VX.xB "value" p0_BadPage p1_BadPage p2_BadPage p3_BadPage p4_BadPage p5_BadPage q1_BadPage q2_BadPage q3_BadPage q4_BadPage) (VX.xS "value") .none .none idoc_BadPage ipm_BadPage ian_BadPage (.ref icda_BadPage) ict_BadPage icc_BadPage), iosl_BadPage⟩)
    (co_BadPage : PySem.W.codeIn K (.ref icda_BadPage) iq_BadPage = true)
    (lc_BadPage : K.lookup icda_BadPage = some ⟨iccl_BadPage, icdd_BadPage, .fields ivs_BadPage, iccs_BadPage⟩)
    (vf_BadPage : ivs_BadPage[2]? = some (.str ifile_BadPage itf_BadPage))
    (fl_BadPage : ((l.prog.main.file : Str) == ifile_BadPage) = true)
    (tp_BadPage : (l.prog.main.scope.names.lookup ("super" : Str)).isSome = false)
    (cc_BadPage : K.lookup icc_BadPage = some ⟨icl_BadPage, icld_BadPage, .cell (some (.ref C_BadPage)), icsl_BadPage⟩)
    (lt_BadPage : VX.Late "value" p0_BadPage p1_BadPage p2_BadPage p3_BadPage p4_BadPage)
    (xa_BadPage : PySem.W.findIn K (.ref C_BadPage) "__class__" = some (some (.builtin "object.__class__")))
    (xo_BadPage : PySem.W.mroIn K C_BadPage (.type "object") = some true)
    (xn : PySem.W.specialIn K (.builtin "object.__class__") "__get__" = some (some (.builtin "getset_descriptor.__get__")))
    (xt : PySem.W.takesIn K (.builtin "object.__class__") = some true)
    (cl_BadPlace : K.lookup C_BadPlace = some (excClassObj cnm_BadPlace cq_BadPlace C_BadPlace cN_BadPlace cbs_BadPlace cbm_BadPlace true csn_BadPlace csub_BadPlace cab_BadPlace ccol_BadPlace cdd_BadPlace ck0_BadPlace ck1_BadPlace ck2_BadPlace ck3_BadPlace ck5_BadPlace "ValueError.__new__"))
    (rv_BadPlace : PySem.HandSPX.refsVE cbm_BadPlace = true)
    (sa_BadPlace : PySem.W.findIn K (.ref C_BadPlace) "__setattr__" = some (some (.builtin "object.__setattr__")))
    (ga_BadPlace : PySem.W.findIn K (.ref C_BadPlace) "__getattribute__" = some (some (.builtin "BaseException.__getattribute__")))
    (gg_BadPlace : PySem.W.findIn K (.ref C_BadPlace) "__getattr__" = some none)
    (no_BadPlace : PySem.W.findIn K (.ref C_BadPlace) "row" = some none)
    (ng_BadPlace : PySem.W.findIn K (.ref C_BadPlace) "place" = some none)
    (ic_BadPlace : PySem.W.findIn K (.ref C_BadPlace) "__init__" = some (some (.ref I_BadPlace)))
    (ti_BadPlace : PySem.W.typeIn K (.ref I_BadPlace) = some (.type "function"))
    (kc_BadPlace : PySem.W.keepIn K (.ref C_BadPlace) = true)
    (ex_BadPlace : PySem.W.subIn K (.ref C_BadPlace) (.type "BaseException") = some true)
    (ve_BadPlace : PySem.W.subIn K (.ref C_BadPlace) (.type "ValueError") = some true)
    (ty_BadPlace : PySem.W.typeIn K (.ref C_BadPlace) = some (.type "type"))
    (hd_BadPlace : PySem.W.hasDictIn K C_BadPlace = true)
    (su_BadPlace : PySem.W.ks_superIn K C_BadPlace C_BadPlace "__init__" = some (some (.builtin "ValueError.__init__")))
    (mc_BadPlace : PySem.W.mroIn K C_BadPlace (.ref C_BadPlace) = some true)
    (fi_BadPlace : K.lookup I_BadPlace = some ⟨ioc_BadPlace, iod_BadPlace, .func (PySem.W.ksFn "__init__" iq_BadPlace (VX.xA2 "row" "place" a1_BadPlace a2_BadPlace a3_BadPlace) (VX.xB2 "row" "place" p0_BadPlace p1_BadPlace p2_BadPlace p3_BadPlace p6_BadPlace p4_BadPlace p5_BadPlace q1_BadPlace q2_BadPlace q3_BadPlace q4_BadPlace r1_BadPlace r2_BadPlace r3_BadPlace r4_BadPlace) (VX.xS2 "row" "place") .none .none idoc_BadPlace ipm_BadPlace ian_BadPlace (.ref icda_BadPlace) ict_BadPlace icc_BadPlace), iosl_BadPlace⟩)
    (co_BadPlace : PySem.W.codeIn K (.ref icda_BadPlace) iq_BadPlace = true)
    (lc_BadPlace : K.lookup icda_BadPlace = some ⟨iccl_BadPlace, icdd_BadPlace, .fields ivs_BadPlace, iccs_BadPlace⟩)
    (vf_BadPlace : ivs_BadPlace[2]? = some (.str ifile_BadPlace itf_BadPlace))
    (fl_BadPlace : ((l.prog.main.file : Str) == ifile_BadPlace) = true)
    (tp_BadPlace : (l.prog.main.scope.names.lookup ("super" : Str)).isSome = false)
    (cc_BadPlace : K.lookup icc_BadPlace = some ⟨icl_BadPlace, icld_BadPlace, .cell (some (.ref C_BadPlace)), icsl_BadPlace⟩)
    (lt_BadPlace : VX.Late2 "row" "place" p0_BadPlace p1_BadPlace p2_BadPlace p3_BadPlace p6_BadPlace p4_BadPlace)
    (xa_BadPlace : PySem.W.findIn K (.ref C_BadPlace) "__class__" = some (some (.builtin "object.__class__")))
    (xo_BadPlace : PySem.W.mroIn K C_BadPlace (.type "object") = some true)
    (ik_SetbackError : PySem.W.isClsIn K C_SetbackError = true)
    (tk_SetbackError : PySem.W.typeIn K (.ref C_SetbackError) = some (.type "type"))
    (bx_SetbackError : PySem.W.subIn K (.ref C_SetbackError) (.type "BaseException") = some true)
    (sub_BadPlace_SetbackError : PySem.W.subIn K (.ref C_BadPlace) (.ref C_SetbackError) = some true)
    (sub_BadPage_SetbackError : PySem.W.subIn K (.ref C_BadPage) (.ref C_SetbackError) = some true)
    (sub_BadPage_BadPlace : PySem.W.subIn K (.ref C_BadPage) (.ref C_BadPlace) = some false)
    (ik_BadPlace : PySem.W.isClsIn K C_BadPlace = true)
    (tk_BadPlace : PySem.W.typeIn K (.ref C_BadPlace) = some (.type "type"))
    (ne_BadPage_BadPlace : (((.ref C_BadPage) : Value) == (.ref C_BadPlace)) = false)
    (sub_NoneType_BadPlace : PySem.W.subIn K (.type "NoneType") (.ref C_BadPlace) = some false)
    (ne_NoneType_BadPlace : (((.type "NoneType") : Value) == (.ref C_BadPlace)) = false)
    (sub_BadPlace_ValueError : PySem.W.subIn K (.ref C_BadPlace) (.type "ValueError") = some true)
    (sub_BadPage_ValueError : PySem.W.subIn K (.ref C_BadPage) (.type "ValueError") = some true)
    (sub_NoneType_ValueError : PySem.W.subIn K (.type "NoneType") (.type "ValueError") = some false)
    (sub_BadPlace_BadPage : PySem.W.subIn K (.ref C_BadPlace) (.ref C_BadPage) = some false)
    (ik_BadPage : PySem.W.isClsIn K C_BadPage = true)
    (tk_BadPage : PySem.W.typeIn K (.ref C_BadPage) = some (.type "type"))
    (ne_BadPlace_BadPage : (((.ref C_BadPlace) : Value) == (.ref C_BadPage)) = false)
    (sub_NoneType_BadPage : PySem.W.subIn K (.type "NoneType") (.ref C_BadPage) = some false)
    (ne_NoneType_BadPage : (((.type "NoneType") : Value) == (.ref C_BadPage)) = false)
    (nf_BadPage_place : PySem.W.findIn K (.ref C_BadPage) "place" = some none)
    (nf_BadPage_row : PySem.W.findIn K (.ref C_BadPage) "row" = some none)
    (nf_BadPlace_value : PySem.W.findIn K (.ref C_BadPlace) "value" = some none)
    : ∃ (fd : FuncData) (c T : Addr) (sp : Sp), K.In h ∧ h.get? T = some { cls := .none, data := .fields #[] } ∧ K.lookup T = none ∧ PySem.W.CodeHd h c T ∧ (∀ (s : Shared) (u : Value), BindsTo s fd ⟨[u], []⟩ [("_law_script", u)]) ∧ (∀ (H : Hp) (a : Addr) (ns : List Int), ns.length ≤ 63 → H T = some (.tbl #[]) → SqL K H a (ns.map V.int) → sp [.ref a] H (fun v _ => v = .bl true) fun _ _ _ => False) ∧ ∀ base : Heap, K.In base → base.Ns mainGlobals mg → LamX.TabB base mg c T → FnG l.prog w K mg base CX0 8 fa fd ["_law_script"] sp := by
  letI : LT := ⟨[(P_tab, (envOfC "_law_right" (defScope s__law_right) 0 0 .none).qual ++ "<lambda>")]⟩
  have q := hfa.symm.trans (PySem.W.mg_of X G a17)
  cases q
  have d0 : DefR K mg "_law_pot" s__law_pot f__law_pot _ ["_law_script", "_law_k"] :=
    have F := fun_mk (st := s__law_pot) l0 c0 k0
    ⟨F, PySem.W.mg_of X G a0, F.binds fun _ _ _ _ _ _ us hl => (match us, hl with | [_, _], _ => rfl), KB.of F fun _ _ _ _ _ _ us hl => (match us, hl with | [_, _], _ => rfl)⟩
  have d1 : DefR K mg "_law_take" s__law_take f__law_take _ ["_law_pot_here", "_law_many"] :=
    have F := fun_mk (st := s__law_take) l1 c1 k1
    ⟨F, PySem.W.mg_of X G a1, F.binds fun _ _ _ _ _ _ us hl => (match us, hl with | [_, _], _ => rfl), KB.of F fun _ _ _ _ _ _ us hl => (match us, hl with | [_, _], _ => rfl)⟩
  have d2 : DefR K mg "_law_of" s__law_of f__law_of _ ["_law_pot_here", "_law_some"] :=
    have F := fun_mk (st := s__law_of) l2 c2 k2
    ⟨F, PySem.W.mg_of X G a2, F.binds fun _ _ _ _ _ _ us hl => (match us, hl with | [_, _], _ => rfl), KB.of F fun _ _ _ _ _ _ us hl => (match us, hl with | [_, _], _ => rfl)⟩
  have d3 : DefR K mg "_law_page" s__law_page f__law_page _ ["_law_pot_here", "_law_rows", "_law_places"] :=
    have F := fun_mk (st := s__law_page) l3 c3 k3
    ⟨F, PySem.W.mg_of X G a3, F.binds fun _ _ _ _ _ _ us hl => (match us, hl with | [_, _, _], _ => rfl), KB.of F fun _ _ _ _ _ _ us hl => (match us, hl with | [_, _, _], _ => rfl)⟩
  have d4 : DefR K mg "_law_numbers" s__law_numbers f__law_numbers _ ["_law_sheet"] :=
    have F := fun_mk (st := s__law_numbers) l4 c4 k4
    ⟨F, PySem.W.mg_of X G a4, F.binds fun _ _ _ _ _ _ us hl => (match us, hl with | [_], _ => rfl), KB.of F fun _ _ _ _ _ _ us hl => (match us, hl with | [_], _ => rfl)⟩
  have d5 : DefR K mg "is_row" s_is_row f_is_row _ ["value"] :=
    have F := fun_mk (st := s_is_row) l5 c5 k5
    ⟨F, PySem.W.mg_of X G a5, F.binds fun _ _ _ _ _ _ us hl => (match us, hl with | [_], _ => rfl), KB.of F fun _ _ _ _ _ _ us hl => (match us, hl with | [_], _ => rfl)⟩
  have d6 : DefR K mg "is_page" s_is_page f_is_page _ ["value"] :=
    have F := fun_mk (st := s_is_page) l6 c6 k6
    ⟨F, PySem.W.mg_of X G a6, F.binds fun _ _ _ _ _ _ us hl => (match us, hl with | [_], _ => rfl), KB.of F fun _ _ _ _ _ _ us hl => (match us, hl with | [_], _ => rfl)⟩
  have d7 : DefR K mg "check_page" s_check_page f_check_page _ ["value"] :=
    have F := fun_mk (st := s_check_page) l7 c7 k7
    ⟨F, PySem.W.mg_of X G a7, F.binds fun _ _ _ _ _ _ us hl => (match us, hl with | [_], _ => rfl), KB.of F fun _ _ _ _ _ _ us hl => (match us, hl with | [_], _ => rfl)⟩
  have d8 : DefR K mg "row_words" s_row_words f_row_words _ ["text"] :=
    have F := fun_mk (st := s_row_words) l8 c8 k8
    ⟨F, PySem.W.mg_of X G a8, F.binds fun _ _ _ _ _ _ us hl => (match us, hl with | [_], _ => rfl), KB.of F fun _ _ _ _ _ _ us hl => (match us, hl with | [_], _ => rfl)⟩
  have d9 : DefR K mg "words_of_page" s_words_of_page f_words_of_page _ ["page"] :=
    have F := fun_mk (st := s_words_of_page) l9 c9 k9
    ⟨F, PySem.W.mg_of X G a9, F.binds fun _ _ _ _ _ _ us hl => (match us, hl with | [_], _ => rfl), KB.of F fun _ _ _ _ _ _ us hl => (match us, hl with | [_], _ => rfl)⟩
  have d10 : DefR K mg "is_integer" s_is_integer f_is_integer _ ["value"] :=
    have F := fun_mk (st := s_is_integer) l10 c10 k10
    ⟨F, PySem.W.mg_of X G a10, F.binds fun _ _ _ _ _ _ us hl => (match us, hl with | [_], _ => rfl), KB.of F fun _ _ _ _ _ _ us hl => (match us, hl with | [_], _ => rfl)⟩
  have d11 : DefR K mg "is_below" s_is_below f_is_below _ ["value", "end"] :=
    have F := fun_mk (st := s_is_below) l11 c11 k11
    ⟨F, PySem.W.mg_of X G a11, F.binds fun _ _ _ _ _ _ us hl => (match us, hl with | [_, _], _ => rfl), KB.of F fun _ _ _ _ _ _ us hl => (match us, hl with | [_, _], _ => rfl)⟩
  have d12 : DefR K mg "word_at" s_word_at f_word_at _ ["page", "row", "place"] :=
    have F := fun_mk (st := s_word_at) l12 c12 k12
    ⟨F, PySem.W.mg_of X G a12, F.binds fun _ _ _ _ _ _ us hl => (match us, hl with | [_, _, _], _ => rfl), KB.of F fun _ _ _ _ _ _ us hl => (match us, hl with | [_, _, _], _ => rfl)⟩
  have d13 : DefR K mg "_law_is_within" s__law_is_within f__law_is_within _ ["_law_value", "_law_end"] :=
    have F := fun_mk (st := s__law_is_within) l13 c13 k13
    ⟨F, PySem.W.mg_of X G a13, F.binds fun _ _ _ _ _ _ us hl => (match us, hl with | [_, _], _ => rfl), KB.of F fun _ _ _ _ _ _ us hl => (match us, hl with | [_, _], _ => rfl)⟩
  have d14 : DefR K mg "_law_odd" s__law_odd f__law_odd _ ["_law_pot_here"] :=
    have F := fun_mk (st := s__law_odd) l14 c14 k14
    ⟨F, PySem.W.mg_of X G a14, F.binds fun _ _ _ _ _ _ us hl => (match us, hl with | [_], _ => rfl), KB.of F fun _ _ _ _ _ _ us hl => (match us, hl with | [_], _ => rfl)⟩
  have d15 : DefR K mg "_law_heard" s__law_heard f__law_heard _ ["_law_call"] :=
    have F := fun_mk (st := s__law_heard) l15 c15 k15
    ⟨F, PySem.W.mg_of X G a15, F.binds fun _ _ _ _ _ _ us hl => (match us, hl with | [_], _ => rfl), KB.of F fun _ _ _ _ _ _ us hl => (match us, hl with | [_], _ => rfl)⟩
  have d16 : DefR K mg "_law_right" s__law_right f__law_right _ ["_law_pot_here"] :=
    have F := fun_mk (st := s__law_right) l16 c16 k16
    ⟨F, PySem.W.mg_of X G a16, F.binds fun _ _ _ _ _ _ us hl => (match us, hl with | [_], _ => rfl), KB.of F fun _ _ _ _ _ _ us hl => (match us, hl with | [_], _ => rfl)⟩
  have d17 : DefR K mg "law" s_law fa _ ["_law_script"] :=
    have F := fun_mk (st := s_law) l17 c17 k17
    ⟨F, PySem.W.mg_of X G a17, F.binds fun _ _ _ _ _ _ us hl => (match us, hl with | [_], _ => rfl), KB.of F fun _ _ _ _ _ _ us hl => (match us, hl with | [_], _ => rfl)⟩
  have T : AllD l.prog K mg f__law_pot f__law_take f__law_of f__law_page f__law_numbers f_is_row f_is_page f_check_page f_row_words f_words_of_page f_is_integer f_is_below f_word_at f__law_is_within f__law_odd f__law_heard f__law_right fa _ _ _ _ _ _ _ _ _ _ _ _ _ _ _ _ _ _ C_BadPage C_BadPlace C_SetbackError I_BadPage I_BadPlace c_tab P_tab t_BLANK t_LETTERS := ⟨d0, d1, d2, d3, d4, d5, d6, d7, d8, d9, d10, d11, d12, d13, d14, d15, d16, d17, PySem.W.mg_none_of X G b_ValueError, PySem.W.mg_none_of X G b_abs, PySem.W.mg_none_of X G b_all, PySem.W.mg_none_of X G b_bool, PySem.W.mg_none_of X G b_enumerate, PySem.W.mg_none_of X G b_int, PySem.W.mg_none_of X G b_isinstance, PySem.W.mg_none_of X G b_len, PySem.W.mg_none_of X G b_list, PySem.W.mg_none_of X G b_max, PySem.W.mg_none_of X G b_min, PySem.W.mg_none_of X G b_range, PySem.W.mg_none_of X G b_repr, PySem.W.mg_none_of X G b_str, PySem.W.mg_none_of X G b_super, PySem.W.mg_none_of X G b_tuple, PySem.W.mg_of X G g_BLANK, PySem.W.mg_of X G g_LETTERS, PySem.W.mg_of X G nC_BadPage, PySem.W.mg_of X G nC_BadPlace, PySem.W.mg_of X G nC_SetbackError, { gC := PySem.W.mg_of X G nC_BadPage, nC := nC_BadPage, cls := ⟨_, _, _, _, _, _, _, _, _, _, _, _, _, _, _, cl_BadPage, rv_BadPage⟩, sa := sa_BadPage, ga := ga_BadPage, gg := gg_BadPage, noN := no_BadPage, iC := ic_BadPage, tC := ti_BadPage, kC := kc_BadPage, exC := ex_BadPage, veC := ve_BadPage, tyC := ty_BadPage, hdC := hd_BadPage, su := su_BadPage, mC := mc_BadPage, no := th, sup := b_super, pl := ⟨by decide, by decide, by decide, by decide, by decide, by decide, by decide⟩, bd := (fun _ _ _ _ _ _ _ _ _ _ _ _ _ _ _ _ _ _ _ _ _ => rfl), fn := ⟨_, _, _, _, _, _, _, _, _, _, _, _, _, _, _, _, _, _, _, _, _, _, _, _, _, _, _, _, _, _, _, fi_BadPage, co_BadPage, lc_BadPage, vf_BadPage, fl_BadPage, tp_BadPage, cc_BadPage, lt_BadPage⟩ }, { gC := PySem.W.mg_of X G nC_BadPlace, nC := nC_BadPlace, cls := ⟨_, _, _, _, _, _, _, _, _, _, _, _, _, _, _, cl_BadPlace, rv_BadPlace⟩, sa := sa_BadPlace, ga := ga_BadPlace, gg := gg_BadPlace, noN := no_BadPlace, noG := ng_BadPlace, iC := ic_BadPlace, tC := ti_BadPlace, kC := kc_BadPlace, exC := ex_BadPlace, veC := ve_BadPlace, tyC := ty_BadPlace, hdC := hd_BadPlace, su := su_BadPlace, mC := mc_BadPlace, no := th, sup := b_super, pl := ⟨⟨by decide, by decide, by decide, by decide, by decide, by decide, by decide⟩, ⟨by decide, by decide, by decide, by decide, by decide, by decide, by decide⟩, by decide, by decide⟩, bd := (fun _ _ _ _ _ _ _ _ _ _ _ _ _ _ _ _ _ _ _ _ _ _ _ _ _ _ _ _ => rfl), fn := ⟨_, _, _, _, _, _, _, _, _, _, _, _, _, _, _, _, _, _, _, _, _, _, _, _, _, _, _, _, _, _, _, _, _, _, _, _, _, fi_BadPlace, co_BadPlace, lc_BadPlace, vf_BadPlace, fl_BadPlace, tp_BadPlace, cc_BadPlace, lt_BadPlace⟩ }, .cons nC_BadPage (exm_own bx_SetbackError ik_SetbackError tk_SetbackError sub_BadPage_SetbackError) (.cons nC_BadPlace (exm_own bx_SetbackError ik_SetbackError tk_SetbackError sub_BadPlace_SetbackError) (.nil)), .cons nC_BadPage (⟨kit_ne ne_BadPage_BadPlace (kitc_own ik_BadPlace tk_BadPlace sub_BadPage_BadPlace), ⟨ga_BadPage, gg_BadPage, ex_BadPage, hd_BadPage, xa_BadPage, xn, xt, xo_BadPage⟩⟩) (.cons nC_BadPlace (⟨kit_same, ⟨ga_BadPlace, gg_BadPlace, ex_BadPlace, hd_BadPlace, xa_BadPlace, xn, xt, xo_BadPlace⟩⟩) (.nil)), kit_ne ne_NoneType_BadPlace (kitc_own ik_BadPlace tk_BadPlace sub_NoneType_BadPlace), .cons nC_BadPage (⟨kit_ne rfl (kitc_ty (by decide +kernel) sub_BadPage_ValueError), ⟨ga_BadPage, gg_BadPage, ex_BadPage, hd_BadPage, xa_BadPage, xn, xt, xo_BadPage⟩⟩) (.cons nC_BadPlace (⟨kit_ne rfl (kitc_ty (by decide +kernel) sub_BadPlace_ValueError), ⟨ga_BadPlace, gg_BadPlace, ex_BadPlace, hd_BadPlace, xa_BadPlace, xn, xt, xo_BadPlace⟩⟩) (.nil)), kit_ne rfl (kitc_ty (by decide +kernel) sub_NoneType_ValueError), .cons nC_BadPage (⟨kit_same, ⟨ga_BadPage, gg_BadPage, ex_BadPage, hd_BadPage, xa_BadPage, xn, xt, xo_BadPage⟩⟩) (.cons nC_BadPlace (⟨kit_ne ne_BadPlace_BadPage (kitc_own ik_BadPage tk_BadPage sub_BadPlace_BadPage), ⟨ga_BadPlace, gg_BadPlace, ex_BadPlace, hd_BadPlace, xa_BadPlace, xn, xt, xo_BadPlace⟩⟩) (.nil)), kit_ne ne_NoneType_BadPage (kitc_own ik_BadPage tk_BadPage sub_NoneType_BadPage), .cons nC_BadPage (⟨⟨ga_BadPage, gg_BadPage, ex_BadPage, hd_BadPage⟩, nf_BadPage_place⟩) (.cons nC_BadPlace (⟨⟨ga_BadPlace, gg_BadPlace, ex_BadPlace, hd_BadPlace⟩, ng_BadPlace⟩) (.nil)), .cons nC_BadPage (⟨⟨ga_BadPage, gg_BadPage, ex_BadPage, hd_BadPage⟩, nf_BadPage_row⟩) (.cons nC_BadPlace (⟨⟨ga_BadPlace, gg_BadPlace, ex_BadPlace, hd_BadPlace⟩, no_BadPlace⟩) (.nil)), .cons nC_BadPage (⟨⟨ga_BadPage, gg_BadPage, ex_BadPage, hd_BadPage⟩, no_BadPage⟩) (.cons nC_BadPlace (⟨⟨ga_BadPlace, gg_BadPlace, ex_BadPlace, hd_BadPlace⟩, nf_BadPlace_value⟩) (.nil)), rfl, List.mem_singleton.mpr rfl, (fun p hp _ => by cases List.mem_singleton.mp hp; rfl)⟩
  exact ⟨_, c_tab, P_tab, spM K 1 F_law, X, t_e, t_n, codeHd_at X t_h, fun s v => .of_eq rfl, fun H a ns hl hH hS => sp_law hH hS (law_true hl), fun base _ _ TB => g_law T TB⟩
theorem walk {l : PySem.W.OpenLaw} {q : Program} {loose : List Str} {XP : (Str → Option Value) → Heap → Prop} {YP : World → Heap → Prop} {d : DefRec} {K : Params → PySem.W.Frag} (hn : l.most = some 63) (hdf : d.params.defaults = []) (hY : ∀ (w : World) (h : Heap), YP w h → (K w.params).In h)
    (F : ∀ (w : World) (mg : Str → Option Value) (fa : Addr) (h : Heap), YP w h → h.Ns mainGlobals mg → mg d.name = some (.ref fa) →
      ∃ (fd : FuncData) (c T : Addr) (sp : Sp), (K w.params).In h ∧ h.get? T = some { cls := .none, data := .fields #[] } ∧ (K w.params).lookup T = none ∧ PySem.W.CodeHd h c T ∧ (∀ (s : Shared) (u : Value), BindsTo s fd ⟨[u], []⟩ [("_law_script", u)]) ∧ (∀ (H : Hp) (a : Addr) (ns : List Int), ns.length ≤ 63 → H T = some (.tbl #[]) → SqL (K w.params) H a (ns.map V.int) → sp [.ref a] H (fun v _ => v = .bl true) fun _ _ _ => False) ∧ ∀ base : Heap, (K w.params).In base → base.Ns mainGlobals mg → LamX.TabB base mg c T → FnG l.prog w (K w.params) mg base CX0 8 fa fd ["_law_script"] sp) :
    PySem.W.WalkO q loose XP YP l.row.toRowW d [] (fun f vs => PySem.call f vs) :=
  walk_ofGT (n := 63) (k := 8) (x := "_law_script") (CX := fun _ => CX0) hn (by decide) hdf ⟨rfl, by decide, by decide⟩ F fun _ _ _ _ _ z => z
end VL
open PySem PySem.W PyProof.Rows in
set_option maxRecDepth 100000 in
set_option maxHeartbeats 0 in
theorem PySem.Challenge.cw_setback_k15_words_at_places_holds : PySem.Challenge.rw_setback_k15_words_at_places.Holds := by
  w_on; o_law; km_head; (case hw => w_witness2)
  k_fill
  refine VL.walk (l := PySem.Challenge.rw_setback_k15_words_at_places) rfl rfl (fun w h Y => PySem.W.km_in_of Y) ?F
  case F =>
    intro w mg fa h Y G hmg
    have KX := PySem.W.km_in_of Y
    refine' VL.all_mk KX G hmg ?a0 ?l0 ?c0 ?k0 ?a1 ?l1 ?c1 ?k1 ?a2 ?l2 ?c2 ?k2 ?a3 ?l3 ?c3 ?k3 ?a4 ?l4 ?c4 ?k4 ?a5 ?l5 ?c5 ?k5 ?a6 ?l6 ?c6 ?k6 ?a7 ?l7 ?c7 ?k7 ?a8 ?l8 ?c8 ?k8 ?a9 ?l9 ?c9 ?k9 ?a10 ?l10 ?c10 ?k10 ?a11 ?l11 ?c11 ?k11 ?a12 ?l12 ?c12 ?k12 ?a13 ?l13 ?c13 ?k13 ?a14 ?l14 ?c14 ?k14 ?a15 ?l15 ?c15 ?k15 ?a16 ?l16 ?c16 ?k16 ?a17 ?l17 ?c17 ?k17 ?b_ValueError ?b_abs ?b_all ?b_bool ?b_enumerate ?b_int ?b_isinstance ?b_len ?b_list ?b_max ?b_min ?b_range ?b_repr ?b_str ?b_super ?b_tuple ?g_BLANK ?g_LETTERS ?t_l ?t_p ?t_h ?t_n ?t_e ?nC_BadPage ?nC_BadPlace ?nC_SetbackError ?th ?cl_BadPage ?rv_BadPage ?sa_BadPage ?ga_BadPage ?gg_BadPage ?no_BadPage ?ic_BadPage ?ti_BadPage ?kc_BadPage ?ex_BadPage ?ve_BadPage ?ty_BadPage ?hd_BadPage ?su_BadPage ?mc_BadPage ?fi_BadPage ?co_BadPage ?lc_BadPage ?vf_BadPage ?fl_BadPage ?tp_BadPage ?cc_BadPage ?lt_BadPage ?xa_BadPage ?xo_BadPage ?xn ?xt ?cl_BadPlace ?rv_BadPlace ?sa_BadPlace ?ga_BadPlace ?gg_BadPlace ?no_BadPlace ?ng_BadPlace ?ic_BadPlace ?ti_BadPlace ?kc_BadPlace ?ex_BadPlace ?ve_BadPlace ?ty_BadPlace ?hd_BadPlace ?su_BadPlace ?mc_BadPlace ?fi_BadPlace ?co_BadPlace ?lc_BadPlace ?vf_BadPlace ?fl_BadPlace ?tp_BadPlace ?cc_BadPlace ?lt_BadPlace ?xa_BadPlace ?xo_BadPlace ?ik_SetbackError ?tk_SetbackError ?bx_SetbackError ?sub_BadPlace_SetbackError ?sub_BadPage_SetbackError ?sub_BadPage_BadPlace ?ik_BadPlace ?tk_BadPlace ?ne_BadPage_BadPlace ?sub_NoneType_BadPlace ?ne_NoneType_BadPlace ?sub_BadPlace_ValueError ?sub_BadPage_ValueError ?sub_NoneType_ValueError ?sub_BadPlace_BadPage ?ik_BadPage ?tk_BadPage ?ne_BadPlace_BadPage ?sub_NoneType_BadPage ?ne_NoneType_BadPage ?nf_BadPage_place ?nf_BadPage_row ?nf_BadPlace_value
    (case a0 => k_is)
    (case l0 => k_is)
    (case c0 => k_is)
    (case k0 => k_is)
    (case a1 => k_is)
    (case l1 => k_is)
    (case c1 => k_is)
    (case k1 => k_is)
    (case a2 => k_is)
    (case l2 => k_is)
    (case c2 => k_is)
    (case k2 => k_is)
    (case a3 => k_is)
    (case l3 => k_is)
    (case c3 => k_is)
    (case k3 => k_is)
    (case a4 => k_is)
    (case l4 => k_is)
    (case c4 => k_is)
    (case k4 => k_is)
    (case a5 => k_is)
    (case l5 => k_is)
    (case c5 => k_is)
    (case k5 => k_is)
    (case a6 => k_is)
    (case l6 => k_is)
    (case c6 => k_is)
    (case k6 => k_is)
    (case a7 => k_is)
    (case l7 => k_is)
    (case c7 => k_is)
    (case k7 => k_is)
    (case a8 => k_is)
    (case l8 => k_is)
    (case c8 => k_is)
    (case k8 => k_is)
    (case a9 => k_is)
    (case l9 => k_is)
    (case c9 => k_is)
    (case k9 => k_is)
    (case a10 => k_is)
    (case l10 => k_is)
    (case c10 => k_is)
    (case k10 => k_is)
    (case a11 => k_is)
    (case l11 => k_is)
    (case c11 => k_is)
    (case k11 => k_is)
    (case a12 => k_is)
    (case l12 => k_is)
    (case c12 => k_is)
    (case k12 => k_is)
    (case a13 => k_is)
    (case l13 => k_is)
    (case c13 => k_is)
    (case k13 => k_is)
    (case a14 => k_is)
    (case l14 => k_is)
    (case c14 => k_is)
    (case k14 => k_is)
    (case a15 => k_is)
    (case l15 => k_is)
    (case c15 => k_is)
    (case k15 => k_is)
    (case a16 => k_is)
    (case l16 => k_is)
    (case c16 => k_is)
    (case k16 => k_is)
    (case a17 => k_is)
    (case l17 => k_is)
    (case c17 => k_is)
    (case k17 => k_is)
    (case b_ValueError => k_is)
    (case b_abs => k_is)
    (case b_all => k_is)
    (case b_bool => k_is)
    (case b_enumerate => k_is)
    (case b_int => k_is)
    (case b_isinstance => k_is)
    (case b_len => k_is)
    (case b_list => k_is)
    (case b_max => k_is)
    (case b_min => k_is)
    (case b_range => k_is)
    (case b_repr => k_is)
    (case b_str => k_is)
    (case b_super => k_is)
    (case b_tuple => k_is)
    (case g_BLANK => k_is)
    (case g_LETTERS => k_is)
    (case t_l => k_is)
    (case t_p => rfl)
    (case t_h => kernel_rfl)
    (case t_n => kernel_rfl)
    (case t_e => exact PySem.W.km_tabs_of Y _ (by k_mem))
    (case nC_BadPage => k_is)
    (case nC_BadPlace => k_is)
    (case nC_SetbackError => k_is)
    (case th => k_is)
    (case cl_BadPage => k_is)
    (case rv_BadPage => decide +kernel)
    (case sa_BadPage => k_is)
    (case ga_BadPage => k_is)
    (case gg_BadPage => k_is)
    (case no_BadPage => k_is)
    (case ic_BadPage => k_is)
    (case ti_BadPage => k_is)
    (case kc_BadPage => k_is)
    (case ex_BadPage => k_is)
    (case ve_BadPage => k_is)
    (case ty_BadPage => k_is)
    (case hd_BadPage => k_is)
    (case su_BadPage => ks_is)
    (case mc_BadPage => k_is)
    (case fi_BadPage => k_is)
    (case co_BadPage => k_is)
    (case lc_BadPage => k_is)
    (case vf_BadPage => rfl)
    (case fl_BadPage => decide +kernel)
    (case tp_BadPage => decide +kernel)
    (case cc_BadPage => k_is)
    (case lt_BadPage => exact ⟨_, fun _ => rfl⟩)
    (case xa_BadPage => k_is)
    (case xo_BadPage => k_is)
    (case xn => k_is)
    (case xt => k_is)
    (case cl_BadPlace => k_is)
    (case rv_BadPlace => decide +kernel)
    (case sa_BadPlace => k_is)
    (case ga_BadPlace => k_is)
    (case gg_BadPlace => k_is)
    (case no_BadPlace => k_is)
    (case ng_BadPlace => k_is)
    (case ic_BadPlace => k_is)
    (case ti_BadPlace => k_is)
    (case kc_BadPlace => k_is)
    (case ex_BadPlace => k_is)
    (case ve_BadPlace => k_is)
    (case ty_BadPlace => k_is)
    (case hd_BadPlace => k_is)
    (case su_BadPlace => ks_is)
    (case mc_BadPlace => k_is)
    (case fi_BadPlace => k_is)
    (case co_BadPlace => k_is)
    (case lc_BadPlace => k_is)
    (case vf_BadPlace => rfl)
    (case fl_BadPlace => decide +kernel)
    (case tp_BadPlace => decide +kernel)
    (case cc_BadPlace => k_is)
    (case lt_BadPlace => exact ⟨_, fun _ => rfl⟩)
    (case xa_BadPlace => k_is)
    (case xo_BadPlace => k_is)
    (case ik_SetbackError => k_is)
    (case tk_SetbackError => k_is)
    (case bx_SetbackError => k_is)
    (case sub_BadPlace_SetbackError => k_is)
    (case sub_BadPage_SetbackError => k_is)
    (case sub_BadPage_BadPlace => k_is)
    (case ik_BadPlace => k_is)
    (case tk_BadPlace => k_is)
    (case ne_BadPage_BadPlace => decide)
    (case sub_NoneType_BadPlace => k_is)
    (case ne_NoneType_BadPlace => decide)
    (case sub_BadPlace_ValueError => k_is)
    (case sub_BadPage_ValueError => k_is)
    (case sub_NoneType_ValueError => k_is)
    (case sub_BadPlace_BadPage => k_is)
    (case ik_BadPage => k_is)
    (case tk_BadPage => k_is)
    (case ne_BadPlace_BadPage => decide)
    (case sub_NoneType_BadPage => k_is)
    (case ne_NoneType_BadPage => decide)
    (case nf_BadPage_place => k_is)
    (case nf_BadPage_row => k_is)
    (case nf_BadPlace_value => k_is)
