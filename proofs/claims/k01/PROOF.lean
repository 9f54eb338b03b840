import PyProof.Rows.All
import Wide.All
import OpenK.AllK
import Wide.FinOn
import HandS.ForMost
import HandS.Defaults
import HandS.IsInst
import HandS.Deep
import HandS.StrMore
import HandS.Wide
import HandS.Ends
import PyProof.ReprRoads
import HandS.ExcInit
import HandS.ExcField
import HandS.ExcOwn
import HandS.WordsExc
import HandS.TryOnly
import KE.IntTextLaws
import HandS.RaiseMore
import HandS.Style
import PySem.Challenge.RW_pinnedcards_k01_moments_shown_and_read
set_option Elab.async false
set_option linter.all false
set_option maxRecDepth 100000
set_option maxHeartbeats 4000000
namespace L2.Pc
open PySem PySem.Spec PyProof.Rows

/-! ### defs whose frame no builtin repr surrounds: the promise -/
structure FnG (P : Program) (w : World) (K : PySem.W.Frag) (mg : Str → Option Value) (base : Heap)
    (CX : CXT) (k : Nat) (f : Addr) (fd : FuncData) (ps : List Str) (sp : Sp) : Prop where
  len : ∀ vs H Q E, sp vs H Q E → vs.length = ps.length
  go : ∀ (A : Around) (outer : List Env) (s : Shared) (H : Hp) (args : Args) (us : List Value)
    (vs : List V) (Q : VK) (E : XK), A.guards = some [] → Room k A → Env0 P w K mg base A outer s H →
    BindsTo s fd args (ps.zip us) → Vals vs us → sp vs H Q E →
    codeAny (model P w) A (.call (.ref f) args) (CR CX outer P w H s Q E) s

section
variable {P : Program} {w : World} {K : PySem.W.Frag} {mg : Str → Option Value} {base : Heap}
  {CX : CXT} {f : Addr} {fd : FuncData} {N ps : List Str} {sp sp' : Sp} {k j : Nat}

theorem FnG.mono (F : FnG P w K mg base CX j f fd ps sp) (h : j ≤ k) : FnG P w K mg base CX k f fd ps sp :=
  ⟨F.len, fun A o s H a us vs Q E g r => F.go A o s H a us vs Q E g (r.mono h)⟩
theorem FnG.imp (F : FnG P w K mg base CX k f fd ps sp) (h : ∀ vs H Q E, sp' vs H Q E → sp vs H Q E) :
    FnG P w K mg base CX k f fd ps sp' :=
  ⟨fun vs H Q E q => F.len vs H Q E (h _ _ _ _ q),
   fun A o s H a us vs Q E g r e b v q => F.go A o s H a us vs Q E g r e b v (h _ _ _ _ q)⟩

/-- a def as it stands behind the top, its defaults of any form -/
structure Df (K : PySem.W.Frag) (x qual : Str) (st : Stmt) (f : Addr) (fd : FuncData) : Prop where
  ex : ∃ (oc : Value) (od : Option Addr) (dV kV doc pm : Value) (an : Option Addr) (cdv ct : Value)
      (osl : Array (Option Value)),
    fd = PySem.W.fnOf x qual (defArgs st) (defBody st) (defScope st) dV kV doc pm an cdv ct ∧
    K.lookup f = some ⟨oc, od, .func fd, osl⟩ ∧ PySem.W.codeIn K cdv qual = true

theorem guards_deep {A : Around} {env : Env} (h : A.guards = some []) : (A.deeper env).guards = some [] := h

/-- the def's body, as a term of rules, and its reading -/
theorem Df.ok {x qual : Str} {st : Stmt} (F : Df K x qual st f fd) (S : FnScope N ps (defScope st))
    (len : ∀ vs H Q E, sp vs H Q E → vs.length = ps.length)
    (hb : ∀ (cdv : Value) (A : Around) (outer : List Env) (s : Shared) (H : Hp) (vs : List V) (Q : VK) (E : XK),
      (A.deeper (envOfC qual (defScope st) s.heap.objs.size f cdv)).guards = some [] →
      Room k (A.deeper (envOfC qual (defScope st) s.heap.objs.size f cdv)) → sp vs H Q E →
      ∃ t, PSs (cxOf CX P w K mg base N qual (defScope st) f cdv A outer s H E) (defBody st) t ∧
        t { nx := fun _ H' => Q .non H', rt := Q } (start N vs) H) :
    FnG P w K mg base CX (k + 1) f fd ps sp := by
  obtain ⟨oc, od, dV, kV, doc, pm, an, cdv, ct, osl, rfl, lk, hc⟩ := F.ex
  refine ⟨len, fun A outer s H args us vs Q E hga hr e0 hbi r hsp => ?_⟩
  have hlen := len _ _ _ _ hsp
  have kin : K.In s.heap := e0.mod.kin.keeps (fun b o e => (e0.bs b o e).1)
  have hlm : s.heap.NoLimit := e0.mod.nolimit.keeps (fun b o e => (e0.bs b o e).1)
  have kinds : ∀ y ∈ ps.zip us, (defScope st).names.lookup y.1 = some .local ∨
      ((defScope st).names.lookup y.1 = some .cell ∧
        ((cellsFrom (s.heap.objs.size + 1) (defScope st).names []).lookup y.1).isSome = true) := by
    rintro ⟨n, v⟩ hy
    rcases S.par n (List.of_mem_zip hy).1 with h1 | h1
    · left; exact h1
    · right; exact ⟨h1, PySem.W.cellsFrom_some _ _ _ (Or.inl h1)⟩
  apply codeAny_call_function hr.depth (kin _ _ lk) rfl S.co S.gen rfl (PySem.W.codeRec_of kin hc) (hbi _ _ _ _ ?_)
  apply wpAny_newFunctionEnv_cells S.kind kinds
  intro env he s1 hx
  subst he
  refine ⟨hlm.keeps hx.toInCall.keep, codeAny_func ?_⟩
  obtain ⟨t, ht, hq⟩ := hb cdv A outer s H vs Q E (guards_deep hga) (hr.deeper _) hsp
  have I0 : Inv (cxOf CX P w K mg base N qual (defScope st) f cdv A outer s H E) [] (start N vs) H s1 :=
    inv_start S hr.hd e0 hlen r hx
  refine wpAny_mono (ht.run [] s1 (start N vs) H _ I0 hq) ?_ (fun e s' hs => hs)
  intro fl s' hs
  cases fl with
  | ret u =>
    obtain ⟨v, σ', H', J, rv, q⟩ := hs
    exact ⟨v, H', J.os, J.bare, J.base, J.hok, rv, q⟩
  | next =>
    obtain ⟨σ', H', J, q⟩ := hs
    exact ⟨V.non, H', J.os, J.bare, J.base, J.hok, rfl, q⟩
  | brk => obtain ⟨_, _, _, q⟩ := hs; exact q.elim
  | cont => obtain ⟨_, _, _, q⟩ := hs; exact q.elim
end

/-- the same of a def that lets nothing out -/
theorem Df.ok0 {P : Program} {w : World} {K : PySem.W.Frag} {mg : Str → Option Value} {base : Heap} {f : Addr} {fd : FuncData} {N ps : List Str} {sp : Sp} {k : Nat}
    {x qual : Str} {st : Stmt} (F : Df K x qual st f fd) (S : FnScope N ps (defScope st))
    (len : ∀ vs H Q E, sp vs H Q E → vs.length = ps.length)
    (hb : ∀ (cdv : Value) (A : Around) (outer : List Env) (s : Shared) (H : Hp) (vs : List V) (Q : VK) (E : XK),
      (A.deeper (envOfC qual (defScope st) s.heap.objs.size f cdv)).guards = some [] →
      Room k (A.deeper (envOfC qual (defScope st) s.heap.objs.size f cdv)) → sp vs H Q E →
      ∃ t, PSs (cxOf CX0 P w K mg base N qual (defScope st) f cdv A outer s H E).nox (defBody st) t ∧
        t { nx := fun _ H' => Q .non H', rt := Q } (start N vs) H) :
    FnG P w K mg base CX0 (k + 1) f fd ps sp :=
  F.ok S len fun cdv A outer s H vs Q E g r q => by
    obtain ⟨t, h1, h2⟩ := hb cdv A outer s H vs Q E g r q
    exact ⟨t, h1.nox, h2⟩

/-- a def known by a module's name: n positional values, keywords ks -/
structure Kn (P : Program) (w : World) (K : PySem.W.Frag) (mg : Str → Option Value) (base : Heap) (CX : CXT)
    (x : Str) (k n : Nat) (ks : List Str) (gV : List V → List V → List V) (sp : Sp) : Prop where
  ex : ∃ (f : Addr) (fd : FuncData) (ps : List Str) (g : List Value → List Value → List Value),
    FnG P w K mg base CX k f fd ps sp ∧ mg x = some (.ref f) ∧ PySem.W.keepIn K (.ref f) = true ∧
    KBn K fd ps n ks g gV

section
variable {X : Cx} {CX : CXT} {k n : Nat} {ks : List Str} {gV : List V → List V → List V} {sp : Sp} {E : XK} {x : Str}
  {p pos : Pos} {e : Expr} {es : List Expr} {kws : List Keyword} {t tk : TA}

def tKn (n m : Nat) (gV : List V → List V → List V) (sp : Sp) (E : XK) (t tk : TA) : TE := fun σ H Q =>
  t σ H fun vs H1 => tk σ H1 fun zs H2 => vs.length = n ∧ zs.length = m ∧ sp (gV vs zs) H2 Q E

theorem runG {pins : List (Addr × Obj)} {σ : St} {H : Hp} {s : Shared} {Q : VK} {us ws : List Value} {vs zs : List V}
    {f : Addr} {fd : FuncData} {ps : List Str} {g : List Value → List Value → List Value}
    (F : FnG X.prog X.w X.K X.mg X.base CX k f fd ps sp) (hga : X.A.guards = some []) (hr : Room k X.A)
    (hb : KBn X.K fd ps n ks g gV) (hx : Passes CX X E) (I : Inv X pins σ H s) (r : Vals vs us) (rz : Vals zs ws)
    (hn : vs.length = n) (hm : zs.length = ks.length) (h : sp (gV vs zs) H Q E) :
    wpAny (model X.prog X.w) X.A (call (.ref f) us (ks.zip ws)) (EP X pins σ Q) X.xe s := by
  have hu : us.length = n := by rw [← r.length]; exact hn
  have hw : ws.length = ks.length := by rw [← rz.length]; exact hm
  apply wpAny_call
  refine codeAny_mono (F.go X.A X.stack s H _ (g us ws) (gV vs zs) Q E hga hr I.env0
    (hb.to s us ws I.kIn hu hw) (hb.rel r rz) h) ?_
  intro res s' hq
  cases res with
  | error er => exact hx pins σ H s er s' I hq
  | ok fl =>
    cases fl with
    | ret u => exact I.after hq
    | next => exact hq.elim
    | brk => exact hq.elim
    | cont => exact hq.elim

theorem pe_kn (F : Kn X.prog X.w X.K X.mg X.base CX x k n [] gV sp) (hga : X.A.guards = some []) (hr : Room k X.A)
    (hg : Gl X x) (hx : Passes CX X E) (ha : PA X (e :: es) t)
    (hdb : (x == ("__debug__" : Str)) = false := by decide)
    (he : starEach (e :: es) X.env = (false, eval e X.env) :: starEach es X.env := by rfl)
    (hpl : (backTo pos (starEach es X.env)).any (·.1) = false := by rfl) :
    PE X (.Call (.Name x p) (e :: es) [] pos) (tKn n 0 gV sp E t tNil) := by
  obtain ⟨f, fd, ps, g, G, hm, hk, hb⟩ := F.ex
  refine ⟨fun pins s σ H Q I h => wpAny_Call_Name_kw (ld_glob I hg hm ?_ hdb)⟩
  apply PySem.W.callWith_K (h₀ := X.base) I.ok.mod.kin hk ?_ he hpl
  refine thn (ha.run pos pins s σ H _ I h) ?_
  rintro us s1 ⟨vs, H1, I1, r, q1, q2, q⟩
  exact ⟨I1.kIn, runG (ws := []) (zs := []) G hga hr hb hx I1 r .nil q1 q2 q⟩
theorem pe_kn0 (F : Kn X.prog X.w X.K X.mg X.base CX x k n [] gV sp) (hga : X.A.guards = some []) (hr : Room k X.A)
    (hg : Gl X x) (hx : Passes CX X E) (hdb : (x == ("__debug__" : Str)) = false := by decide) :
    PE X (.Call (.Name x p) [] [] pos) (tKn n 0 gV sp E tNil tNil) := by
  obtain ⟨f, fd, ps, g, G, hm, hk, hb⟩ := F.ex
  refine ⟨fun pins s σ H Q I h => wpAny_Call_Name_kw (ld_glob I hg hm ?_ hdb)⟩
  obtain ⟨q1, q2, q⟩ := h
  exact PySem.W.callWith_K0 I.kIn hk (runG (us := []) (ws := []) (vs := []) (zs := []) G hga hr hb hx I .nil .nil q1 q2 q)
theorem pe_knK (F : Kn X.prog X.w X.K X.mg X.base CX x k n ks gV sp) (hga : X.A.guards = some []) (hr : Room k X.A)
    (hg : Gl X x) (hx : Passes CX X E) (ha : PA X (e :: es) t) (hkw : PK X kws tk)
    (hall : (backToKw pos (keywordEach kws X.env)).all (·.1.isSome) = true := by rfl)
    (hks : (backToKw pos (keywordEach kws X.env)).filterMap (·.1) = ks := by rfl)
    (hdb : (x == ("__debug__" : Str)) = false := by decide)
    (he : starEach (e :: es) X.env = (false, eval e X.env) :: starEach es X.env := by rfl)
    (hpl : ((backTo pos (starEach (e :: es) X.env)).any (·.1) ||
      (backToKw pos (keywordEach kws X.env)).any (·.1.isNone)) = false := by rfl) :
    PE X (.Call (.Name x p) (e :: es) kws pos) (tKn n ks.length gV sp E t tk) := by
  obtain ⟨f, fd, ps, g, G, hm, hk, hb⟩ := F.ex
  refine ⟨fun pins s σ H Q I h => wpAny_Call_Name_kw (ld_glob I hg hm ?_ hdb)⟩
  apply PySem.W.callWith_KW (h₀ := X.base) I.ok.mod.kin hk hall ?_ hpl he
  refine thn (ha.run pos pins s σ H _ I h) ?_
  rintro us s1 ⟨vs, H1, I1, r, q⟩
  refine thn (hkw.run pos pins s1 σ H1 _ I1 q) ?_
  rintro ws s2 ⟨zs, H2, I2, rz, q1, q2, q3⟩
  refine ⟨I2.kIn, ?_⟩
  rw [hks]
  exact runG G hga hr hb hx I2 r rz q1 q2 q3
end

theorem kb_pos {K : PySem.W.Frag} {fd : FuncData} {ps : List Str} {n : Nat}
    (h : ∀ us : List Value, us.length = n → bindArgs fd ⟨us, []⟩ = pure (ps.zip us)) :
    KBn K fd ps n [] (fun us _ => us) (fun vs _ => vs) :=
  ⟨fun s us ws _ hu _ => by
    have e : ([] : List Str).zip ws = [] := rfl
    rw [e]; exact .of_eq (h us hu), fun r _ => r⟩
end L2.Pc

namespace L2.Pc
open PySem PySem.Spec PyProof.Rows

/-- the modules' dict is the head's, untracked -/
structure Sm (base : Heap) : Prop where
  ns : ∃ m, base.Ns sysModules m
/-! ### the law's call, from such a promise -/
section
variable {P : Program} {w : World} {K : PySem.W.Frag} {mg mb : Str → Option Value} {CX : CXT} {k : Nat}
  {fa a : Addr} {fd : FuncData} {x : Str} {sp : Sp} {s1 : Shared} {vs : List Value} {ns : List Int}

def LawEnd (s1 : Shared) (r : Result) (s' : Shared) : Prop :=
  r = .ok (.ret (.bool true)) ∧ OldK s1.heap s'.heap ∧ s'.os = s1.os ∧ AllBare s'.gens

theorem law_core {H : Hp} (KX : K.In s1.heap) (hns : s1.heap.Ns mainGlobals mg) (hb : s1.heap.Ns builtinsNs mb)
    (hbb : ∀ y : Str, y ≠ "__name__" → mb y = bootBuiltins y) (hlim : s1.heap.NoLimit) (hge : s1.gens = #[])
    (ha : s1.heap.get? a = some { cls := .type "list", data := .seq vs.toArray }) (hr : Room k callerA)
    (hsm : ∃ m, s1.heap.Ns sysModules m) (F : ∀ base : Heap, K.In base → base.Ns mainGlobals mg → Sm base → FnG P w K mg base CX k fa fd [x] sp)
    (hbind : ∀ (s : Shared) (u : Value), BindsTo s fd ⟨[u], []⟩ [(x, u)])
    (hsp : sp [.ref a] H (fun v _ => v = .bl true) fun _ _ _ => False)
    (hCX : ∀ e s', CX [] H s1 (fun _ _ _ => False) e s' → False)
    (hO : Only H) (hok : HOk P w H s1.heap) (hA : ∀ b, H b ≠ none → b = a) (hK : H a ≠ none → K.lookup a = none) :
    codeAny (model P w) callerA (.call (.ref fa) ⟨[.ref a], []⟩) (LawEnd s1) s1 := by
  have keep1 : ∀ {b : Addr} {o : Obj}, s1.heap.get? b = some o → H b = none → (hidT s1.heap H).get? b = some o :=
    fun e n => hidT_get e n
  have isA : ∀ {b : Addr} {u : HO}, H b = some u → b = a := fun {b u} q => hA b (by rw [q]; exact Option.some_ne_none _)
  have nodict : ∀ {b : Addr} {o : Obj} {es : Array DictEntry} {ep : Nat},
      s1.heap.get? b = some o → o.data = .dict es ep → H b = none := by
    intro b o es ep e d
    cases q : H b with
    | none => rfl
    | some u =>
      have e2 := isA q
      subst e2
      rw [ha] at e
      cases e
      cases (show Data.seq vs.toArray _ = Data.dict es ep from d)
  have ns1 : ∀ {b : Addr} {m : Str → Option Value}, s1.heap.Ns b m → (hidT s1.heap H).Ns b m := by
    rintro b m ⟨o, es, ep, e, d, r⟩
    exact ⟨o, es, ep, keep1 e (nodict e d), d, r⟩
  have kin : K.In (hidT s1.heap H) := by
    intro b o e
    refine keep1 (KX b o e) ?_
    cases q : H b with
    | none => rfl
    | some u =>
      have e2 := isA q
      subst e2
      rw [hK (by rw [q]; exact Option.some_ne_none _)] at e
      cases e
  have md : Mod K mg (hidT s1.heap H) :=
    ⟨kin, ns1 hns, ⟨mb, ns1 hb, hbb⟩, by obtain ⟨mc, h1, h2⟩ := hlim; exact ⟨mc, ns1 h1, h2⟩⟩
  have en : Env0 P w K mg (hidT s1.heap H) callerA [] s1 H :=
    ⟨rfl, md, fun b o e => of_hidT e, Nat.le_of_eq (hidT_size _ _), trivial, fun b hb => (nomatch hb), hok, .of_eq hge⟩
  have run := (F _ kin (ns1 hns) (let ⟨m, hm⟩ := hsm; ⟨m, ns1 hm⟩)).go callerA [] s1 H ⟨[.ref a], []⟩ [.ref a] [.ref a] _ _ rfl hr en
    (hbind s1 (.ref a)) (.cons rfl .nil) hsp
  refine codeAny_mono run ?_
  intro r s' h
  cases r with
  | error e => exact (hCX e s' h).elim
  | ok fl =>
    cases fl with
    | next => exact h.elim
    | brk => exact h.elim
    | cont => exact h.elim
    | ret u =>
      obtain ⟨v, H', os, bare, un, hok2, r2, q⟩ := h
      have qv : v = .bl true := q
      subst qv
      have hu : u = Value.bool true := r2
      subst hu
      refine ⟨rfl, OldK.of_keep ?_, os, bare⟩
      intro b o e
      cases q : H b with
      | none => exact un.keep b o e q (fun z => nomatch z) (fun z => nomatch z)
      | some u =>
        rcases hO b with z | ⟨ob, xs, z⟩
        · rw [q] at z
          cases z
        · obtain ⟨e1, _⟩ := hok b _ z
          obtain ⟨e2, _⟩ := hok2 b _ (un.frzs b ob _ z)
          rw [e] at e1
          cases e1
          exact e2

theorem law_callG (KX : K.In s1.heap) (hns : s1.heap.Ns mainGlobals mg) (hb : s1.heap.Ns builtinsNs mb)
    (hbb : ∀ y : Str, y ≠ "__name__" → mb y = bootBuiltins y) (hlim : s1.heap.NoLimit) (hge : s1.gens = #[])
    (ha : s1.heap.get? a = some { cls := .type "list", data := .seq vs.toArray }) (hi : IntsAre vs ns)
    (hl : ns.length ≤ sizeLine) (hr : Room k callerA)
    (hsm : ∃ m, s1.heap.Ns sysModules m) (F : ∀ base : Heap, K.In base → base.Ns mainGlobals mg → Sm base → FnG P w K mg base CX k fa fd [x] sp)
    (hbind : ∀ (s : Shared) (u : Value), BindsTo s fd ⟨[u], []⟩ [(x, u)])
    (hsp : ∀ H : Hp, Only H → SqL K H a (ns.map V.int) → sp [.ref a] H (fun v _ => v = .bl true) fun _ _ _ => False)
    (hCX : ∀ H e s', CX [] H s1 (fun _ _ _ => False) e s' → False) :
    codeAny (model P w) callerA (.call (.ref fa) ⟨[.ref a], []⟩) (LawEnd s1) s1 := by
  have rv := vals_ints hi
  cases hk : K.lookup a with
  | some o =>
    have e := KX a o hk
    rw [ha] at e
    cases e
    have hsz : vs.toArray.size ≤ sizeLine := by rw [List.size_toArray, hi.length]; exact hl
    refine law_core (H := fun _ => none) KX hns hb hbb hlim hge ha hr hsm F hbind ?_ (fun e s' => hCX _ e s')
      (fun _ => Or.inl rfl) (fun b u z => by cases z) (fun b z => absurd rfl z) (fun z => absurd rfl z)
    exact hsp _ (fun _ => Or.inl rfl) (Or.inr ⟨_, vs.toArray, _, hk, rfl, rfl, rfl, hsz, by simpa using rv⟩)
  | none =>
    have hin : (if a = a then some (HO.frz { cls := .type "list", data := .seq vs.toArray } (.lst (ns.map V.int))) else none)
      = some (HO.frz { cls := .type "list", data := .seq vs.toArray } (.lst (ns.map V.int))) := if_pos rfl
    have only : Only (fun b => if b = a then some (.frz { cls := .type "list", data := .seq vs.toArray } (.lst (ns.map V.int))) else none) := by
      intro b
      by_cases hb : b = a
      · right; exact ⟨_, _, if_pos hb⟩
      · left; exact if_neg hb
    refine law_core KX hns hb hbb hlim hge ha hr hsm F hbind (hsp _ only (Or.inl (Or.inr ⟨_, hin⟩))) (fun e s' => hCX _ e s') only ?_ ?_ (fun _ => hk)
    · intro b u z
      by_cases hb : b = a
      · have z2 := (if_pos hb).symm.trans z
        cases z2
        subst hb
        exact ⟨ha, by rw [List.length_map]; exact hl, vs, _, rv, ha⟩
      · have z2 := (if_neg hb).symm.trans z
        cases z2
    · intro b z
      by_cases hb : b = a
      · exact hb
      · exact absurd (if_neg hb) z
end

/-- the goal behind k_head, k_fill -/
theorem walkG {l : PySem.W.OpenLaw} {n k : Nat} {q : Program} {loose : List Str} {XP : (Str → Option Value) → Heap → Prop}
    {YP : World → Heap → Prop} {d : DefRec} {K : Params → PySem.W.Frag} {CX : CXT} {sp : World → Sp} {x : Str}
    (hn : l.most = some n) (hn2 : n ≤ sizeLine) (hi : importsNone q = true) (hdf : d.params.defaults = []) (hr : Room k callerA)
    (hY : ∀ (w : World) (h : Heap), YP w h → (K w.params).In h)
    (F : ∀ (w : World) (mg : Str → Option Value) (fa : Addr) (h : Heap), (K w.params).In h → h.Ns mainGlobals mg →
      mg d.name = some (.ref fa) →
      ∃ fd : FuncData, (∀ (s : Shared) (u : Value), BindsTo s fd ⟨[u], []⟩ [(x, u)]) ∧
        ∀ base : Heap, (K w.params).In base → base.Ns mainGlobals mg → Sm base →
          FnG l.prog w (K w.params) mg base CX k fa fd [x] (sp w))
    (hsp : ∀ (w : World) (H : Hp) (a : Addr) (ns : List Int), ns.length ≤ n → Only H →
      SqL (K w.params) H a (ns.map V.int) → sp w [.ref a] H (fun v _ => v = .bl true) fun _ _ _ => False)
    (hCX : ∀ (H : Hp) (s : Shared) (e : Value) (s' : Shared), CX [] H s (fun _ _ _ => False) e s' → False) :
    PySem.W.WalkO q loose XP YP l.row.toRowW d [] (fun f vs => PySem.call f vs) := by
  refine Att.attach_call hn hdf ?_
  intro w s0 s1 mg mb fa o pm cd doc a vs ns G Y ho hd hcd hmg hobj hints hlen hge
  have KX := hY w _ Y
  obtain ⟨fd, hbi, hF⟩ := F w mg fa _ KX G.T.g hmg
  exact law_callG KX G.T.g G.T.b G.T.builtins G.T.nolimit hge hobj hints (Nat.le_trans hlen hn2) hr ((G.T.seer hi).mods.imp fun _ h => h.1) hF hbi
    (fun H hO hS => hsp w H a ns hlen hO hS) (fun H e s' => hCX H s1 e s')
end L2.Pc

namespace L2.Pc
open PySem PySem.Spec PyProof.Rows

/-! ### what stays: every tracked object but those that are known by a property alone -/
def isX : HO → Bool
  | .ext _ => true
  | _ => false
def Mx (H H' : Hp) : Prop := ∀ a o, H a = some o → isX o = false → H' a = some o
theorem Mx.refl (H : Hp) : Mx H H := fun _ _ h _ => h
theorem Mx.trans {H H1 H2 : Hp} (a : Mx H H1) (b : Mx H1 H2) : Mx H H2 := fun x o h n => b x o (a x o h n) n
theorem _root_.L2.Same.mx {H H' : Hp} (a : Same H H') : Mx H H' := fun x o h _ => a x o h
theorem Mx.at {H H' : Hp} {a : Addr} {o : HO} (e : Mx H H') (h : H a = some o) (n : isX o = false := by rfl) : H' a = some o := e a o h n
theorem _root_.L2.Same.at {H H' : Hp} {a : Addr} {o : HO} (e : Same H H') (h : H a = some o) : H' a = some o := e a o h
theorem _root_.L2.Same.new {H : Hp} {p : Addr} {o : HO} (h : H p = none) : Same H (upd H p o) := fun b x e => by
  rw [upd_ne (ne_of_none e h)]; exact e
theorem _root_.L2.Same.put {H H1 : Hp} {p : Addr} {o : HO} (e : Same H H1) (h : H p = none) : Same H (upd H1 p o) := fun b x q => by
  rw [upd_ne (ne_of_none q h)]; exact e b x q
theorem Mx.new {H : Hp} {p : Addr} {o : HO} (h : H p = none) : Mx H (upd H p o) := Same.mx (Same.new h)
theorem Mx.put {H H1 : Hp} {p : Addr} {o : HO} (e : Mx H H1) (h : H p = none) : Mx H (upd H1 p o) := fun b x q n => by
  rw [upd_ne (ne_of_none q h)]; exact e b x q n
theorem Mx.putX {H H1 : Hp} {p : Addr} {o u : HO} (e : Mx H H1) (h : H p = some u) (hu : isX u = true) : Mx H (upd H1 p o) := fun b x q n => by
  by_cases hb : b = p
  · subst hb; rw [h] at q; cases q; rw [hu] at n; cases n
  · rw [upd_ne hb]; exact e b x q n
theorem Mx.free {H H' : Hp} {p : Addr} (e : Same H H') (h : H' p = none) : H p = none := e.free h
theorem _root_.L2.Rd.mx {H H' : Hp} {a : Addr} {u : HO} (e : Mx H H') (n : isX u = false) (h : Rd H a u) : Rd H' a u := by
  rcases h with h | ⟨o, h⟩
  · exact .inl (e a _ h n)
  · exact .inr ⟨o, e a _ h rfl⟩
theorem _root_.L2.SqL.mx {K : PySem.W.Frag} {H H' : Hp} {a : Addr} {xs : List V} (e : Mx H H') (h : SqL K H a xs) : SqL K H' a xs := by
  rcases h with h | h
  · exact .inl (Rd.mx e rfl h)
  · exact .inr h
theorem _root_.L2.SqT.mx {K : PySem.W.Frag} {H H' : Hp} {a : Addr} {xs : List V} (e : Mx H H') (h : SqT K H a xs) : SqT K H' a xs := by
  rcases h with h | h
  · exact .inl (Rd.mx e rfl h)
  · exact .inr h

/-! ### data: None, truths, ints, texts, lists, tuples, dicts of these -/
def keyD : Key → PyData
  | .inl i => .int i
  | .inr x => .str x
mutual
inductive Da (K : PySem.W.Frag) (H : Hp) : V → PyData → Prop
  | non : Da K H .non .none
  | bl (b : Bool) : Da K H (.bl b) (.bool b)
  | int (i : Int) : Da K H (.int i) (.int i)
  | str (x : Str) : Da K H (.str x) (.str x)
  | lst {a : Addr} {xs : List V} {ds : List PyData} : SqL K H a xs → DaAll K H xs ds → Da K H (.ref a) (.list ds)
  | tup {a : Addr} {xs : List V} {ds : List PyData} : SqT K H a xs → DaAll K H xs ds → Da K H (.ref a) (.tuple ds)
  | dct {a : Addr} {kvs : List (Key × V)} {ds : List PyData} : H a = some (.dK kvs) → DaAll K H (kvs.map (·.2)) ds →
      Da K H (.ref a) (.dict ((kvs.map fun p => keyD p.1).zip ds))
inductive DaAll (K : PySem.W.Frag) (H : Hp) : List V → List PyData → Prop
  | nil : DaAll K H [] []
  | cons {v : V} {vs : List V} {d : PyData} {ds : List PyData} : Da K H v d → DaAll K H vs ds → DaAll K H (v :: vs) (d :: ds)
end
mutual
theorem Da.mx {K : PySem.W.Frag} {H H' : Hp} (e : Mx H H') : ∀ {v : V} {d : PyData}, Da K H v d → Da K H' v d
  | _, _, .non => .non
  | _, _, .bl b => .bl b
  | _, _, .int i => .int i
  | _, _, .str x => .str x
  | _, _, .lst h hs => .lst (SqL.mx e h) (DaAll.mx e hs)
  | _, _, .tup h hs => .tup (SqT.mx e h) (DaAll.mx e hs)
  | _, _, .dct h hs => .dct (e.at h) (DaAll.mx e hs)
theorem DaAll.mx {K : PySem.W.Frag} {H H' : Hp} (e : Mx H H') : ∀ {vs : List V} {ds : List PyData}, DaAll K H vs ds → DaAll K H' vs ds
  | _, _, .nil => .nil
  | _, _, .cons h hs => .cons (Da.mx e h) (DaAll.mx e hs)
end
theorem DaAll.len {K : PySem.W.Frag} {H : Hp} : ∀ {vs : List V} {ds : List PyData}, DaAll K H vs ds → vs.length = ds.length
  | _, _, .nil => rfl
  | _, _, .cons _ hs => congrArg (· + 1) (DaAll.len hs)

section
variable {X : Cx} {pins : List (Addr × Obj)} {σ : L2.St} {H : Hp} {s : Shared}
theorem Sm.free (M : Sm X.base) (I : Inv X pins σ H s) : H sysModules = none := by
  obtain ⟨m, o, es, ep, h, _⟩ := M.ns
  exact (I.bs _ _ h).2
theorem Sm.noList (M : Sm X.base) (I : Inv X pins σ H s) {a : Addr} {xs : List V} (h : SqL X.K H a xs) : a ≠ sysModules := by
  rintro rfl
  rcases h with (h | ⟨o, h⟩) | ⟨o, its, n, h, _, _, hd, _⟩
  · rw [M.free I] at h; cases h
  · rw [M.free I] at h; cases h
  · obtain ⟨m, o2, es, ep, h2, hd2, _⟩ := M.ns
    have e := I.mod.kin _ _ h
    rw [h2] at e
    cases e
    rw [hd2] at hd
    cases hd
theorem pairs_reads {h : Heap} {P : Program} {w : World} : ∀ {l : List DictEntry} {vs : List (Key × Value)}, Pairs (mixKind P w) l vs →
    ReadsAll h (l.map (·.key)) (vs.map fun p => keyD p.1) []
  | _, _, .nil => .nil
  | e :: l, (k, v) :: vs, .cons h1 h2 h3 => by
    have r := pairs_reads (h := h) h3
    have hk : Reads h e.key (keyD k) [] := by
      rcases keyIs_shape (show keyIs k e.key = true from h1) with ⟨i, t, rfl, e2⟩ | ⟨x, t, rfl, e2⟩
      · rw [e2]; exact .int i t
      · rw [e2]; exact .str x t
    exact ReadsAll.cons hk r
theorem pairs_vals {P : Program} {w : World} : ∀ {l : List DictEntry} {vs : List (Key × Value)}, Pairs (mixKind P w) l vs → l.map (·.val) = vs.map (·.2)
  | _, _, .nil => rfl
  | e :: l, (k, v) :: vs, .cons h1 h2 h3 => by
    rw [List.map_cons, List.map_cons, pairs_vals h3, h2]
theorem kv_vals : ∀ {kvs : List (Key × V)} {vs : List (Key × Value)}, KV kvs vs → Vals (kvs.map (·.2)) (vs.map (·.2)) ∧ kvs.map (fun p => keyD p.1) = vs.map (fun p => keyD p.1)
  | _, _, .nil => ⟨.nil, rfl⟩
  | (k, v) :: kvs, (k2, v2) :: vs, .cons ⟨h1, h2⟩ h3 => by
    obtain ⟨r, e⟩ := kv_vals h3
    refine ⟨.cons h2 r, ?_⟩
    have h1 : k = k2 := h1
    rw [List.map_cons, List.map_cons, e, h1]
mutual
theorem Da.reads (M : Sm X.base) (I : Inv X pins σ H s) : ∀ {v : V} {d : PyData} {u : Value}, Da X.K H v d → RelV v u → ∃ as, Reads s.heap u d as ∧ sysModules ∉ as
  | _, _, _, .non, r => by cases r; exact ⟨_, .none, fun h => nomatch h⟩
  | _, _, _, .bl b, r => by cases r; exact ⟨_, .bool b, fun h => nomatch h⟩
  | _, _, _, .int i, r => by obtain ⟨t, rfl⟩ := r; exact ⟨_, .int i t, fun h => nomatch h⟩
  | _, _, _, .str x, r => by obtain ⟨t, rfl⟩ := r; exact ⟨_, .str x t, fun h => nomatch h⟩
  | _, _, _, .lst h hs, r => by
    cases r
    obtain ⟨its, rv, ⟨o, n, ho, hc, _, hd⟩, _⟩ := I.list h
    obtain ⟨as, hr, hn⟩ := DaAll.reads M I hs rv
    refine ⟨_, .list ho hc hd hr, fun z => ?_⟩
    rcases List.mem_cons.mp z with z | z
    · exact M.noList I h z.symm
    · exact hn z
  | _, _, _, .tup h hs, r => by
    cases r
    obtain ⟨its, rv, ⟨o, ho, hc, n, hd⟩, _⟩ := I.tuple h
    obtain ⟨as, hr, hn⟩ := DaAll.reads M I hs rv
    exact ⟨_, .tuple ho hc hd hr, hn⟩
  | _, _, _, @Da.dct _ _ a kvs ds h hs, r => by
    cases r
    obtain ⟨_, hsm, vs, kv, o, es, ep, ho, hx, hd, _, pr, _⟩ := I.hok a _ h
    obtain ⟨rv, ek⟩ := kv_vals kv
    obtain ⟨as, hr, hn⟩ := DaAll.reads M I hs rv
    have l1 := hs.len
    rw [List.length_map] at l1
    have e1 : ((kvs.map fun p => keyD p.1).zip ds).map (·.1) = kvs.map fun p => keyD p.1 := List.map_fst_zip (by rw [List.length_map]; omega)
    have e2 : ((kvs.map fun p => keyD p.1).zip ds).map (·.2) = ds := List.map_snd_zip (by rw [List.length_map]; omega)
    refine ⟨_, .dict (as := []) (bs := as) ho hx.1 hd ?_ ?_, fun z => ?_⟩
    · rw [e1, ek]; exact pairs_reads pr
    · rw [e2, pairs_vals pr]; exact hr
    · rcases List.mem_cons.mp (show sysModules ∈ a :: ([] ++ as) from z) with z | z
      · rw [← z] at hsm; exact absurd hsm (by decide)
      · exact hn (by simpa using z)
theorem DaAll.reads (M : Sm X.base) (I : Inv X pins σ H s) : ∀ {vs : List V} {ds : List PyData} {us : List Value}, DaAll X.K H vs ds → Vals vs us → ∃ as, ReadsAll s.heap us ds as ∧ sysModules ∉ as
  | _, _, _, .nil, .nil => ⟨_, .nil, fun h => nomatch h⟩
  | _, _, _, .cons h hs, .cons r rs => by
    obtain ⟨as, q1, n1⟩ := Da.reads M I h r
    obtain ⟨bs, q2, n2⟩ := DaAll.reads M I hs rs
    refine ⟨_, .cons q1 q2, fun z => ?_⟩
    rcases List.mem_append.mp z with z | z
    · exact n1 z
    · exact n2 z
end
end

/-- repr of data -/
def rRepr (K : PySem.W.Frag) : List V → Hp → VK → Prop := fun xs H Q => ∃ (x : V) (d : PyData), xs = [x] ∧ Da K H x d ∧
  d.showable = true ∧ d.depth ≤ 60 ∧ d.shown.length ≤ sizeLine ∧ Q (.str d.shown) H
theorem call_reprD {X : Cx} (hga : X.A.guards = some []) (hu : X.A.units + 64 < cLine) (M : Sm X.base) : CallR X (.builtin "repr") (rRepr X.K) := by
  intro pins s σ H xs us Q I r h
  obtain ⟨x, d, rfl, hd, hs, hdp, hz, q⟩ := h
  obtain ⟨u, rfl, ru⟩ : ∃ u, us = [u] ∧ RelV x u := by
    cases r with
    | cons p q => cases q; exact ⟨_, rfl, p⟩
  cases hd with
  | non => cases ru; exact PySem.P.repr_of_none ⟨.str _, H, I.tok _, ⟨_, rfl⟩, q⟩
  | bl b => cases ru; exact PySem.P.repr_of_bool ⟨.str _, H, I.tok _, ⟨_, rfl⟩, q⟩
  | int i =>
    obtain ⟨t, rfl⟩ := ru
    exact PySem.P.repr_of_int (by simpa [PyData.showable] using hs) ⟨.str _, H, I.tok _, ⟨_, rfl⟩, q⟩
  | str y =>
    obtain ⟨t, rfl⟩ := ru
    exact PySem.P.repr_of_str ⟨.str _, H, I.tok _, ⟨_, rfl⟩, q⟩ hz
  | lst h1 h2 =>
    cases ru
    obtain ⟨as, rd, hn⟩ := Da.reads M I (.lst h1 h2) rfl
    exact PySem.repr_of_reads' rd hs (fun _ => hn) hga (by omega) (fun _ _ e => e) (fun h' u tk hk => ⟨.str _, H, I.kept hk, ⟨_, rfl⟩, q⟩) hz
  | tup h1 h2 =>
    cases ru
    obtain ⟨as, rd, hn⟩ := Da.reads M I (.tup h1 h2) rfl
    exact PySem.repr_of_reads' rd hs (fun _ => hn) hga (by omega) (fun _ _ e => e) (fun h' u tk hk => ⟨.str _, H, I.kept hk, ⟨_, rfl⟩, q⟩) hz
  | dct h1 h2 =>
    cases ru
    obtain ⟨as, rd, hn⟩ := Da.reads M I (.dct h1 h2) rfl
    exact PySem.repr_of_reads' rd hs (fun _ => hn) hga (by omega) (fun _ _ e => e) (fun h' u tk hk => ⟨.str _, H, I.kept hk, ⟨_, rfl⟩, q⟩) hz
end L2.Pc

namespace L2.Pc
open PySem PySem.Spec PyProof.Rows

/-! ### a list or dict known by a property of what it holds -/
def flatO : HO → Prop
  | .lst _ => True
  | .dK _ => True
  | _ => False
def AbsO (P : Program) (w : World) (R : HO → Prop) (z : Addr) : HO :=
  .ext fun h => ∃ u, flatO u ∧ R u ∧ ObjOk P w (fun _ => none) h z u
section
variable {P : Program} {w : World} {H H' : Hp} {h h' : Heap} {z : Addr} {u : HO} {R : HO → Prop}
theorem flat_any (f : flatO u) (o : ObjOk P w H h z u) : ObjOk P w H' h z u := by
  cases u with
  | lst _ => exact o
  | dK _ => exact o
  | _ => cases f
theorem flat_stay (f : flatO u) (o : ObjOk P w H h z u) (k : ∀ o, h.get? z = some o → h'.get? z = some o) : ObjOk P w H h' z u := by
  cases u with
  | lst xs => obtain ⟨a, its, n, r, e⟩ := o; exact ⟨a, its, n, r, k _ e⟩
  | dK xs => obtain ⟨a, b, vs, r, ob, es, ep, e, c⟩ := o; exact ⟨a, b, vs, r, ob, es, ep, k _ e, c⟩
  | _ => cases f
theorem flat_there (f : flatO u) (o : ObjOk P w H h z u) : ∃ ob, h.get? z = some ob := by
  cases u with
  | lst xs => obtain ⟨a, its, n, r, e⟩ := o; exact ⟨_, e⟩
  | dK xs => obtain ⟨a, b, vs, r, ob, es, ep, e, c⟩ := o; exact ⟨_, e⟩
  | _ => cases f
theorem absO_mk (f : flatO u) (r : R u) (o : ObjOk P w H h z u) : ObjOk P w H' h z (AbsO P w R z) :=
  ⟨⟨u, f, r, flat_any f o⟩, flat_there f o, fun h1 h2 ⟨u2, f2, r2, o2⟩ k => ⟨u2, f2, r2, flat_stay f2 o2 k⟩⟩
/-- one object's description exchanged -/
theorem HOk.swap {v : HO} (ok : HOk P w H h) (hz : H z = some v) (n1 : ∀ x, v ≠ .own x) (n2 : ∀ xs, v ≠ .tup xs)
    (new : ObjOk P w (upd H z u) h z u) : HOk P w (upd H z u) h := by
  intro b o e
  by_cases hb : b = z
  · subst hb; rw [upd_same] at e; cases e; exact new
  · rw [upd_ne hb] at e
    refine (ok b o e).stay (fun _ _ _ q => q) (fun c q => ?_) (fun c xs q => ?_)
    · rw [upd_ne (fun ec => by subst ec; rw [hz] at q; exact n1 _ (Option.some.inj q))]; exact q
    · rw [upd_ne (fun ec => by subst ec; rw [hz] at q; exact n2 _ (Option.some.inj q))]; exact q
theorem absO_open (ok : HOk P w H h) (hz : H z = some (AbsO P w R z)) : ∃ u, flatO u ∧ R u ∧ HOk P w (upd H z u) h := by
  obtain ⟨⟨u, f, r, o⟩, _, _⟩ := ok z _ hz
  exact ⟨u, f, r, HOk.swap ok hz (fun x e => by cases e) (fun xs e => by cases e) (flat_any f o)⟩
theorem absO_close (ok : HOk P w H h) (hz : H z = some u) (f : flatO u) (r : R u) : HOk P w (upd H z (AbsO P w R z)) h :=
  HOk.swap ok hz (fun x e => by subst e; exact f) (fun xs e => by subst e; exact f) (absO_mk f r (ok z _ hz))
end

section
variable {P : Program} {w : World} {K : PySem.W.Frag} {mg : Str → Option Value} {base : Heap}
  {f : Addr} {fd : FuncData} {ps : List Str} {sp sp' : Sp} {k : Nat} {outer : List Env} {H : Hp} {s s' : Shared} {Q : VK} {rv : Value}

/-- what is wanted behind a call, an object's description exchanged for a property -/
def Cls1 (P : Program) (w : World) (Q : VK) : VK := fun v H' => ∃ z u R, H' z = some u ∧ flatO u ∧ R u ∧ Q v (upd H' z (AbsO P w R z))
theorem ce_close (c : CE outer P w H s (Cls1 P w Q) rv s') : CE outer P w H s Q rv s' := by
  obtain ⟨v, H', os, bare, un, hok, r, z, u, R, hz, fl, hR, q⟩ := c
  have nb : ∀ b o, H' b = some o → ¬ flatO o → b ≠ z := fun b o e nf eb => by
    subst eb; rw [hz] at e; cases e; exact nf fl
  refine ⟨v, _, os, bare, ⟨un.keep, un.slot, ?_, un.there, ?_, ?_, ?_⟩, absO_close hok hz fl hR, r, q⟩
  · intro b o e n hx
    have e2 := un.free b o e n hx
    rw [upd_ne (fun eb => by subst eb; rw [hz] at e2; cases e2)]
    exact e2
  · intro b xs e
    have e2 := un.tups b xs e
    rw [upd_ne (nb _ _ e2 id)]
    exact e2
  · intro b o xs e
    have e2 := un.frzs b o xs e
    rw [upd_ne (nb _ _ e2 id)]
    exact e2
  · intro b xs e
    obtain ⟨more, e2⟩ := un.tbls b xs e
    refine ⟨more, ?_⟩
    rw [upd_ne (nb _ _ e2 id)]
    exact e2
theorem FnG.close (F : FnG P w K mg base CX0 k f fd ps sp) (h : ∀ vs H Q E, sp' vs H Q E → sp vs H (Cls1 P w Q) E) :
    FnG P w K mg base CX0 k f fd ps sp' := by
  refine ⟨fun vs H Q E q => F.len _ _ _ _ (h _ _ _ _ q), fun A outer s H args us vs Q E g r e b v q => ?_⟩
  refine codeAny_mono (F.go A outer s H args us vs (Cls1 P w Q) E g r e b v (h _ _ _ _ q)) ?_
  intro res s' hq
  cases res with
  | error er => exact hq
  | ok fl =>
    cases fl with
    | ret u => exact ce_close hq
    | next => exact hq
    | brk => exact hq
    | cont => exact hq
theorem FnG.open (F : FnG P w K mg base CX0 k f fd ps sp)
    (h : ∀ vs H Q E, sp' vs H Q E → ∃ z R, H z = some (AbsO P w R z) ∧ ∀ u, flatO u → R u → sp vs (upd H z u) Q E)
    (hlen : ∀ vs H Q E, sp' vs H Q E → vs.length = ps.length) :
    FnG P w K mg base CX0 k f fd ps sp' := by
  refine ⟨hlen, fun A outer s H args us vs Q E g r e b v q => ?_⟩
  obtain ⟨z, R, hz, q⟩ := h _ _ _ _ q
  obtain ⟨u, fl, hR, hok⟩ := absO_open e.hok hz
  have nz : ∀ b, H b = none → b ≠ z := fun b n eb => by subst eb; rw [hz] at n; cases n
  have e2 : Env0 P w K mg base A outer s (upd H z u) :=
    ⟨e.frames, e.mod, fun b o x => ⟨(e.bs b o x).1, by rw [upd_ne (nz _ (e.bs b o x).2)]; exact (e.bs b o x).2⟩, e.bsz, e.funs,
      fun b x => by rw [upd_ne (nz _ (e.frf b x))]; exact e.frf b x, hok, e.bare⟩
  refine codeAny_mono (F.go A outer s _ args us vs Q E g r e2 b v (q u fl hR)) ?_
  intro res s' hq
  cases res with
  | error er => exact hq
  | ok fw =>
    cases fw with
    | ret rv =>
      obtain ⟨v2, H', os, bare, un, hok2, r2, q2⟩ := hq
      have st : ∀ b o, H b = some o → (∀ R, o ≠ AbsO P w R z) → b ≠ z := fun b o eb nn ez => by
        subst ez; rw [hz] at eb; cases eb; exact nn R rfl
      refine ⟨v2, H', os, bare, ⟨?_, ?_, ?_, un.there, ?_, ?_, ?_⟩, hok2, r2, q2⟩
      · intro b o eb n h1 h2; exact un.keep b o eb (by rw [upd_ne (nz b n)]; exact n) h1 h2
      · intro b o eb n h1 h2; exact un.slot b o eb (by rw [upd_ne (nz b n)]; exact n) h1 h2
      · intro b o eb n h1; exact un.free b o eb (by rw [upd_ne (nz b n)]; exact n) h1
      · intro b xs eb; exact un.tups b xs (by rw [upd_ne (st b _ eb fun _ z => by cases z)]; exact eb)
      · intro b o xs eb; exact un.frzs b o xs (by rw [upd_ne (st b _ eb fun _ z => by cases z)]; exact eb)
      · intro b xs eb; exact un.tbls b xs (by rw [upd_ne (st b _ eb fun _ z => by cases z)]; exact eb)
    | next => exact hq
    | brk => exact hq
    | cont => exact hq
end
end L2.Pc

namespace L2.Pc
open PySem PySem.Spec PyProof.Rows

/-! ### rules that take values of several kinds -/
structure Gm (mg : Str → Option Value) (x : Str) (v : V) : Prop where
  ex : ∃ u, mg x = some u ∧ RelV v u
section
variable {X : Cx} {x : Str} {v : V} {pos : Pos}
theorem pe_gm (h : Gm X.mg x v) (hg : Gl X x) (hd : (x == ("__debug__" : Str)) = false := by decide) : PE X (.Name x pos) (tC v) := by
  obtain ⟨u, h1, h2⟩ := h.ex
  exact pe_glob hg h1 h2 hd

def rAddM (K : PySem.W.Frag) : R2 := fun a b H Q =>
  rI0 (fun i j => .int (i + j)) a b H Q ∨ (∃ i j, a = .str i ∧ b = .str j ∧ i.length + j.length ≤ sizeLine ∧ Q (.str (i ++ j)) H) ∨
  rCat a b H Q ∨ rCatT K a b H Q
theorem op_addM : OpR X (binaryOp .Add) (rAddM X.K) := by
  intro pins s σ H a b v u Q I ra rb h
  rcases h with h | h | h | h
  · exact op_add pins s σ H a b v u Q I ra rb h
  · exact op_add_str pins s σ H a b v u Q I ra rb h
  · exact op_cat pins s σ H a b v u Q I ra rb h
  · exact op_catT pins s σ H a b v u Q I ra rb h
def rMulS : R2 := fun a b H Q => ∃ i n, a = .str i ∧ b = .int n ∧ MulOk i n ∧ Q (.str (Txt.mul i n)) H
theorem op_mulS : OpR X (binaryOp .Mult) rMulS := by
  intro pins s σ H a b v u Q I ra rb h
  obtain ⟨i, n, rfl, rfl, hok, q⟩ := h
  obtain ⟨t, rfl⟩ := ra
  obtain ⟨t2, rfl⟩ := rb
  exact PySem.SB.mul hok fun t' k => ⟨.str _, H, I.tok _, ⟨_, rfl⟩, q⟩
def CMa (i j : Int) : Prop := CMul i j ∨ CMulW i j
theorem op_mulI : OpR X (binaryOp .Mult) (rI CMa fun i j => .int (i * j)) := by
  intro pins s σ H a b v u Q I ra rb h
  obtain ⟨i, j, e1, e2, hc | hc, q⟩ := h
  · exact op_mul pins s σ H a b v u Q I ra rb ⟨i, j, e1, e2, hc, q⟩
  · exact op_mulW pins s σ H a b v u Q I ra rb ⟨i, j, e1, e2, hc, q⟩
def rMulM : R2 := fun a b H Q => rI CMa (fun i j => .int (i * j)) a b H Q ∨ rMulS a b H Q ∨ rRep a b H Q
theorem op_mulM : OpR X (binaryOp .Mult) rMulM := by
  intro pins s σ H a b v u Q I ra rb h
  rcases h with h | h | h
  · exact op_mulI pins s σ H a b v u Q I ra rb h
  · exact op_mulS pins s σ H a b v u Q I ra rb h
  · exact op_rep pins s σ H a b v u Q I ra rb h
def rEqM (K : PySem.W.Frag) : R2 := fun a b H Q => rEq a b H Q ∨ rEqD K a b H Q
theorem op_eqM (hu : X.A.units + 64 < cLine) : OpR X (compareOp .Eq) (rEqM X.K) := by
  intro pins s σ H a b v u Q I ra rb h
  rcases h with h | h
  · exact op_eq pins s σ H a b v u Q I ra rb h
  · exact op_eqD hu pins s σ H a b v u Q I ra rb h
def rNeM (K : PySem.W.Frag) : R2 := fun a b H Q => rNe a b H Q ∨ rNeD K a b H Q
theorem op_neM (hu : X.A.units + 64 < cLine) : OpR X (compareOp .NotEq) (rNeM X.K) := by
  intro pins s σ H a b v u Q I ra rb h
  rcases h with h | h
  · exact op_ne pins s σ H a b v u Q I ra rb h
  · exact op_neD hu pins s σ H a b v u Q I ra rb h
def rInM (K : PySem.W.Frag) (neg : Bool) : R2 := fun a b H Q =>
  (∃ (c : Nat) (z : Str), a = .str ⟨#[c]⟩ ∧ b = .str z ∧ Q (.bl (if neg then !decide (c ∈ z.cps.toList) else decide (c ∈ z.cps.toList))) H) ∨ rIn K neg a b H Q
theorem op_inM : OpR X (compareOp .In) (rInM X.K false) := by
  intro pins s σ H a b v u Q I ra rb h
  rcases h with ⟨c, z, e1, e2, q⟩ | h
  · exact op_in_sign pins s σ H a b v u Q I ra rb ⟨c, z, e1, e2, q⟩
  · exact op_in_seq pins s σ H a b v u Q I ra rb h
theorem op_notInM : OpR X (compareOp .NotIn) (rInM X.K true) := by
  intro pins s σ H a b v u Q I ra rb h
  rcases h with ⟨c, z, e1, e2, q⟩ | h
  · exact op_notIn_sign pins s σ H a b v u Q I ra rb ⟨c, z, e1, e2, q⟩
  · exact op_notIn_seq pins s σ H a b v u Q I ra rb h
def rIxM (K : PySem.W.Frag) : R2 := fun a b H Q => rIxL K a b H Q ∨ rIxT K a b H Q ∨ rIxS a b H Q
theorem ixM : IxR X (rIxM X.K) := IxR.or ix_list (IxR.or ix_tup ix_str)
def rSlM (K : PySem.W.Frag) : V → Option Int → Option Int → Hp → VK → Prop := fun a lo hi H Q => rSlL K a lo hi H Q ∨ rSlS a lo hi H Q
theorem slM : SlR X (rSlM X.K) := SlR.or sl_list sl_str
def rIntM : List V → Hp → VK → Prop := fun xs H Q => (∃ i, xs = [.int i] ∧ Q (.int i) H) ∨ (∃ k, xs = [.bl k] ∧ Q (.int (if k then 1 else 0)) H) ∨
  ∃ a n, xs = [.str a] ∧ PySem.intText? a = some n ∧ a.length ≤ 640 ∧ Q (.int n) H
theorem call_intM : CallR X (.type "int") rIntM := by
  intro pins s σ H xs us Q I r h
  rcases h with h | h | h
  · exact call_int1 pins s σ H xs us Q I r (.inl h)
  · exact call_int1 pins s σ H xs us Q I r (.inr h)
  · exact call_int_str pins s σ H xs us Q I r h
end

section
variable {X : Cx} {o e : Expr} {to te : TE} {apos pos : Pos}
def rLen (K : PySem.W.Frag) : List V → Hp → VK → Prop := fun xs H Q => ∃ x n, xs = [x] ∧ LenV K x H n ∧ Q (.int (n : Nat)) H
theorem call_lenM : CallR X (.builtin "len") (rLen X.K) := call_len
def rAbs : List V → Hp → VK → Prop := fun xs H Q => ∃ i, xs = [.int i] ∧ Q (.int (if i < 0 then -i else i)) H
theorem call_absM : CallR X (.builtin "abs") rAbs := call_abs
def rStrip : V → List V → Hp → VK → Prop := fun x xs H Q => ∃ a b, x = .str a ∧ xs = [.str b] ∧ a.length ≤ sizeLine ∧ Q (.str (Txt.stripChars a b)) H
theorem mt_stripM : MtR X "str.strip" rStrip := mt_stripChars
def rUpper : V → List V → Hp → VK → Prop := fun x xs H Q => ∃ a, x = .str a ∧ xs = [] ∧ a.length ≤ 5592405 ∧ Q (.str (Txt.upper a)) H
theorem mt_upperM : MtR X "str.upper" rUpper := mt_upper
def rJoin (K : PySem.W.Frag) : V → List V → Hp → VK → Prop := fun x xs H Q => ∃ a p, ∃ ys : List Str, x = .str a ∧ xs = [.ref p] ∧
  (SqL K H p (ys.map V.str) ∨ SqT K H p (ys.map V.str)) ∧ (ys.map (·.length)).sum + ys.length * a.length ≤ 16777216 ∧ Q (.str (Txt.join a ys)) H
theorem mt_joinM : MtR X "str.join" (rJoin X.K) := mt_join
end

/-! ### a word between an expression and what follows -/
def tCutE (t : TE) : TE := fun σ H Q => ∃ P : V → Hp → Prop, t σ H P ∧ ∀ v H', P v H' → Q v H'
theorem pe_cut {X : Cx} {e : Expr} {t : TE} (h : PE X e t) : PE X e (tCutE t) := by
  refine ⟨fun pins s σ H Q I q => ?_⟩
  obtain ⟨P, q1, q2⟩ := q
  refine thn (h.run pins s σ H P I q1) ?_
  rintro u s2 ⟨v, H', I2, r, p⟩
  exact ⟨v, H', I2, r, q2 v H' p⟩
def tCutS (t u : TS) : TS := fun D σ H => ∃ P : L2.St → Hp → Prop, t { D with nx := P } σ H ∧ ∀ σ' H', P σ' H' → u D σ' H'
theorem pss_cutS {X : Cx} {st : Stmt} {rest : List Stmt} {t u : TS} (h1 : PS X st t) (h2 : PSs X rest u) : PSs X (st :: rest) (tCutS t u) := by
  refine ⟨fun pins s σ H D I h => ?_⟩
  obtain ⟨P, q1, q2⟩ := h
  refine wpAny_execs_cons (thn (h1.run pins s σ H { D with nx := P } I q1) ?_)
  intro fl s1 q
  cases fl with
  | next =>
    obtain ⟨σ', H', I2, p⟩ := q
    exact h2.run pins s1 σ' H' D I2 (q2 σ' H' p)
  | ret v => exact q
  | brk => exact q
  | cont => exact q
theorem g_cutS {σ : L2.St} {H : Hp} {D : Ends} {t u : TS} (P : L2.St → Hp → Prop) (h : t { D with nx := P } σ H) (k : ∀ σ' H', P σ' H' → u D σ' H') : tCutS t u D σ H := ⟨P, h, k⟩
theorem g_cutE {σ : L2.St} {H : Hp} {Q : VK} {t : TE} (P : V → Hp → Prop) (h : t σ H P) (k : ∀ v H', P v H' → Q v H') : tCutE t σ H Q := ⟨P, h, k⟩
/-- the value alone is of interest, the heap is as it was -/
theorem g_cutV {σ : L2.St} {H : Hp} {Q : VK} {t : TE} (P : V → Prop) (h : t σ H fun v H' => P v ∧ H' = H) (k : ∀ v, P v → Q v H) : tCutE t σ H Q :=
  ⟨_, h, fun v H' ⟨p, e⟩ => by rw [e]; exact k v p⟩

/-! ### a new object -/
def NewO (H : Hp) (o : HO) (Q : VK) : Prop := ∀ p, H p = none → Q (.ref p) (upd H p o)
theorem g_new {H : Hp} {o : HO} {Q : VK} (k : ∀ p H', H p = none → Same H H' → H' p = some o → Q (.ref p) H') : NewO H o Q :=
  fun p hp => k p _ hp (Same.new hp) upd_same

/-! ### a datum's class -/
def tyName : PyData → String
  | .none => "NoneType"
  | .bool _ => "bool"
  | .int _ => "int"
  | .str _ => "str"
  | .list _ => "list"
  | .tuple _ => "tuple"
  | .dict _ => "dict"
theorem Da.ty {K : PySem.W.Frag} {H : Hp} {v : V} {d : PyData} (h : Da K H v d) : TyX K H v (.type (tyName d)) := by
  cases h with
  | non => exact .base .non
  | bl b => exact .base (.bl b)
  | int i => exact .base (.int i)
  | str x => exact .base (.str x)
  | lst h _ =>
    rcases h with (h | ⟨o, h⟩) | ⟨o, its, n, h, hc, _⟩
    · exact .base (.lst h)
    · exact .base (.frz h)
    · exact .kList h hc
  | tup h _ =>
    rcases h with (h | ⟨o, h⟩) | ⟨o, its, n, h, hc, _⟩
    · exact .base (.tup h)
    · exact .fTuple h
    · exact .kTuple h hc
  | dct h _ => exact .base (.dK h)
@[reducible] def isStr : PyData → Bool
  | .str _ => true
  | _ => false
@[reducible] def isInt : PyData → Bool
  | .int _ => true
  | .bool _ => true
  | _ => false
@[reducible] def isBool : PyData → Bool
  | .bool _ => true
  | _ => false
@[reducible] def isTup : PyData → Bool
  | .tuple _ => true
  | _ => false

theorem kit_isStr : ∀ d : PyData, kitB (tyName d) "str" = some (isStr d)
  | .none => (show kitB "NoneType" "str" = some false by decide +kernel)
  | .bool _ => (show kitB "bool" "str" = some false by decide +kernel)
  | .int _ => (show kitB "int" "str" = some false by decide +kernel)
  | .str _ => (show kitB "str" "str" = some true by decide +kernel)
  | .list _ => (show kitB "list" "str" = some false by decide +kernel)
  | .tuple _ => (show kitB "tuple" "str" = some false by decide +kernel)
  | .dict _ => (show kitB "dict" "str" = some false by decide +kernel)
theorem kit_isInt : ∀ d : PyData, kitB (tyName d) "int" = some (isInt d)
  | .none => (show kitB "NoneType" "int" = some false by decide +kernel)
  | .bool _ => (show kitB "bool" "int" = some true by decide +kernel)
  | .int _ => (show kitB "int" "int" = some true by decide +kernel)
  | .str _ => (show kitB "str" "int" = some false by decide +kernel)
  | .list _ => (show kitB "list" "int" = some false by decide +kernel)
  | .tuple _ => (show kitB "tuple" "int" = some false by decide +kernel)
  | .dict _ => (show kitB "dict" "int" = some false by decide +kernel)
theorem kit_isBool : ∀ d : PyData, kitB (tyName d) "bool" = some (isBool d)
  | .none => (show kitB "NoneType" "bool" = some false by decide +kernel)
  | .bool _ => (show kitB "bool" "bool" = some true by decide +kernel)
  | .int _ => (show kitB "int" "bool" = some false by decide +kernel)
  | .str _ => (show kitB "str" "bool" = some false by decide +kernel)
  | .list _ => (show kitB "list" "bool" = some false by decide +kernel)
  | .tuple _ => (show kitB "tuple" "bool" = some false by decide +kernel)
  | .dict _ => (show kitB "dict" "bool" = some false by decide +kernel)
theorem kit_isTup : ∀ d : PyData, kitB (tyName d) "tuple" = some (isTup d)
  | .none => (show kitB "NoneType" "tuple" = some false by decide +kernel)
  | .bool _ => (show kitB "bool" "tuple" = some false by decide +kernel)
  | .int _ => (show kitB "int" "tuple" = some false by decide +kernel)
  | .str _ => (show kitB "str" "tuple" = some false by decide +kernel)
  | .list _ => (show kitB "list" "tuple" = some false by decide +kernel)
  | .tuple _ => (show kitB "tuple" "tuple" = some true by decide +kernel)
  | .dict _ => (show kitB "dict" "tuple" = some false by decide +kernel)

/-! ### readings, step by step -/
section
variable {σ : L2.St} {H : Hp} {Q : VK} {v x y : V} {ta tb tc te : TE} {t u c : TT} {K : PySem.W.Frag} {D : Ends} {t1 t2 : TS}
  {r r' : R2} {i j : Int} {b : Bool} {g : TG} {a q : Str}
theorem g_var {n : Nat} (h : σ[n]? = some (some v)) (k : Q v H) : tVar n σ H Q := ⟨v, h, k⟩
theorem g_c (k : Q v H) : tC v σ H Q := k
theorem g_op (k : ta σ H fun x H1 => tb σ H1 fun y H2 => r x y H2 Q) : tOp r ta tb σ H Q := k
theorem g_un {r : V → Hp → VK → Prop} (k : ta σ H fun x H1 => r x H1 Q) : tUn r ta σ H Q := k
theorem g_test {R : Bool → Hp → Prop} (k : te σ H fun x H' => ∃ k, x = .bl k ∧ R k H') : tTest te σ H R := k
theorem g_tB {R : Bool → Hp → Prop} (k : te σ H fun x H' => ∃ k, x = .bl k ∧ R k H') : tB te σ H R := k
theorem g_bl {R : Bool → Prop} (k : R b) : ∃ k, V.bl b = .bl k ∧ R k := ⟨b, rfl, k⟩
theorem g_and {R : Bool → Hp → Prop} (k : t σ H fun c H1 => if c = true then u σ H1 R else R false H1) : tAnd t u σ H R := k
theorem g_or {R : Bool → Hp → Prop} (k : t σ H fun c H1 => if c = true then R true H1 else u σ H1 R) : tOr t u σ H R := k
theorem g_not {R : Bool → Hp → Prop} (k : t σ H fun c H1 => R (!c) H1) : tNot t σ H R := k
theorem g_andV (k : ta σ H fun x H1 => ∃ c, x = .bl c ∧ if c = true then tb σ H1 Q else Q (.bl false) H1) : tAndV ta tb σ H Q := k
theorem g_orV (k : ta σ H fun x H1 => ∃ c, x = .bl c ∧ if c = true then Q (.bl true) H1 else tb σ H1 Q) : tOrV ta tb σ H Q := k
theorem g_notV (k : ta σ H fun x H1 => ∃ c, x = .bl c ∧ Q (.bl (!c)) H1) : tNotV ta σ H Q := k
theorem g_if (k : t σ H fun c H1 => if c = true then ta σ H1 Q else tb σ H1 Q) : tIf t ta tb σ H Q := k
theorem g_chain (k : ta σ H fun x H1 => tb σ H1 fun y H2 => r x y H2 fun z H3 => ∃ k, z = .bl k ∧
  (if k = true then tc σ H3 fun w' H4 => r' y w' H4 Q else Q (.bl false) H3)) : tChain r r' ta tb tc σ H Q := k
theorem g_nil {R : List V → Hp → Prop} (k : R [] H) : tNil σ H R := k
theorem g_cons {tr : TA} {R : List V → Hp → Prop} (k : ta σ H fun x H1 => tr σ H1 fun xs H2 => R (x :: xs) H2) : tCons ta tr σ H R := k
theorem g_cb {f : List V → Hp → VK → Prop} {tr : TA} (k : tr σ H fun vs H1 => f vs H1 Q) : tCB f tr σ H Q := k
theorem g_kn {n m : Nat} {gV : List V → List V → List V} {sp : Sp} {E : XK} {ts tk : TA}
  (k : ts σ H fun vs H1 => tk σ H1 fun zs H2 => vs.length = n ∧ zs.length = m ∧ sp (gV vs zs) H2 Q E) : tKn n m gV sp E ts tk σ H Q := k
theorem g_tup {tr : TA} (k : tr σ H fun xs H1 => xs.length ≤ sizeLine ∧ NewO H1 (.tup xs) Q) : tTup tr σ H Q := k
theorem g_lst {tr : TA} (k : tr σ H fun xs H1 => xs.length ≤ sizeLine ∧ NewO H1 (.lst xs) Q) : tLst tr σ H Q := k
theorem g_dnew (k : NewO H (.dK []) Q) : tDNewK σ H Q := k
theorem g_sl {f : V → Option Int → Option Int → Hp → VK → Prop} {tl th : TO} (k : te σ H fun x H1 => tl σ H1 fun l H2 => th σ H2 fun u H3 => f x l u H3 Q) : tSl f te tl th σ H Q := k
theorem g_nopart {R : Option Int → Hp → Prop} (k : R none H) : tNoPart σ H R := k
theorem g_part {R : Option Int → Hp → Prop} (k : te σ H fun x H1 => ∃ i, x = .int i ∧ R (some i) H1) : tPart te σ H R := k
theorem g_int {R : Int → Prop} (k : R i) : ∃ j, V.int i = .int j ∧ R j := ⟨i, rfl, k⟩
theorem g_m1 {f : V → List V → Hp → VK → Prop} (k : ta σ H fun x H1 => (∃ a, x = .str a) ∧ te σ H1 fun y H2 => f x [y] H2 Q) : tM1 f ta te σ H Q := k
theorem g_m0 {f : V → List V → Hp → VK → Prop} (k : ta σ H fun x H1 => (∃ a, x = .str a) ∧ f x [] H1 Q) : tM0 f ta σ H Q := k
theorem g_isS {R : Prop} (k : R) : (∃ b, V.str a = .str b) ∧ R := ⟨⟨a, rfl⟩, k⟩
-- statements
theorem g_seq (k : t1 { D with nx := t2 D } σ H) : tSeq t1 t2 D σ H := k
theorem g_next (k : D.nx σ H) : tNext D σ H := k
theorem g_ifS (k : c σ H fun b H1 => if b = true then t1 D σ H1 else t2 D σ H1) : tIfS c t1 t2 D σ H := k
theorem g_ret (k : te σ H D.rt) : tRet te D σ H := k
theorem g_asg (k : te σ H fun x H1 => g x σ H1 D.nx) : tAsg te g D σ H := k
theorem g_name {n : Nat} {R : L2.St → Hp → Prop} (k : R (σ.set n (some v)) H) : gName n v σ H R := k
theorem g_drop (k : te σ H fun _ H1 => D.nx σ H1) : tDrop te D σ H := k
theorem g_par {n m : Nat} {tr : TA} (k : tr σ H fun vs H1 => ∃ v w, vs = [v, w] ∧ D.nx ((σ.set n (some v)).set m (some w)) H1) : tPar n m tr D σ H := k
theorem g_two {R : V → V → Prop} (k : R x y) : ∃ v w, [x, y] = [v, w] ∧ R v w := ⟨x, y, rfl, k⟩
theorem g_ifT {A B : Prop} {i : Decidable (true = true)} (k : A) : @ite Prop (true = true) i A B := by rw [if_pos rfl]; exact k
theorem g_ifF {A B : Prop} {i : Decidable (false = true)} (k : B) : @ite Prop (false = true) i A B := by rw [if_neg (by simp)]; exact k
theorem g_ifnT {A B : Prop} {i : Decidable ((!true) = true)} (k : B) : @ite Prop ((!true) = true) i A B := by rw [if_neg (by simp)]; exact k
theorem g_ifnF {A B : Prop} {i : Decidable ((!false) = true)} (k : A) : @ite Prop ((!false) = true) i A B := by rw [if_pos (by simp)]; exact k
theorem g_br {A B : Prop} {i : Decidable (b = true)} (k1 : b = true → A) (k2 : b = false → B) : @ite Prop (b = true) i A B := by
  cases b with
  | true => rw [if_pos rfl]; exact k1 rfl
  | false => rw [if_neg (by simp)]; exact k2 rfl
theorem g_kT {A B : Prop} {i : Decidable (b = true)} (h : b = true) (k : A) : @ite Prop (b = true) i A B := by rw [if_pos h]; exact k
theorem g_kF {A B : Prop} {i : Decidable (b = true)} (h : b = false) (k : B) : @ite Prop (b = true) i A B := by rw [if_neg (by rw [h]; simp)]; exact k
theorem g_knT {A B : Prop} {i : Decidable ((!b) = true)} (h : b = true) (k : B) : @ite Prop ((!b) = true) i A B := by rw [if_neg (by rw [h]; simp)]; exact k
theorem g_knF {A B : Prop} {i : Decidable ((!b) = true)} (h : b = false) (k : A) : @ite Prop ((!b) = true) i A B := by rw [if_pos (by rw [h]; simp)]; exact k
theorem g_brk (k : D.bk σ H) : tBreak D σ H := k
theorem g_cont (k : D.ct σ H) : tCont D σ H := k
-- operators by values
theorem g_addI (k : Q (.int (i + j)) H) : rAddM K (.int i) (.int j) H Q := .inl ⟨i, j, rfl, rfl, k⟩
theorem g_addS (hz : a.length + q.length ≤ sizeLine) (k : Q (.str (a ++ q)) H) : rAddM K (.str a) (.str q) H Q := .inr (.inl ⟨a, q, rfl, rfl, hz, k⟩)
theorem g_addL {l m : Addr} {xs ys : List V} (h1 : H l = some (.lst xs)) (h2 : H m = some (.lst ys)) (hz : xs.length + ys.length ≤ sizeLine)
    (k : NewO H (.lst (xs ++ ys)) Q) : rAddM K (.ref l) (.ref m) H Q := .inr (.inr (.inl ⟨l, m, xs, ys, rfl, rfl, h1, h2, hz, k⟩))
theorem g_mulI (hc : CMa i j) (k : Q (.int (i * j)) H) : rMulM (.int i) (.int j) H Q := .inl ⟨i, j, rfl, rfl, hc, k⟩
theorem g_mulS (hc : MulOk a j) (k : Q (.str (Txt.mul a j)) H) : rMulM (.str a) (.int j) H Q := .inr (.inl ⟨a, j, rfl, rfl, hc, k⟩)
theorem g_i0 {f : Int → Int → V} (k : Q (f i j) H) : rI0 f (.int i) (.int j) H Q := ⟨i, j, rfl, rfl, k⟩
theorem g_i {C : Int → Int → Prop} {f : Int → Int → V} (hc : C i j) (k : Q (f i j) H) : rI C f (.int i) (.int j) H Q := ⟨i, j, rfl, rfl, hc, k⟩
theorem g_u {f : Int → V} (k : Q (f i) H) : rU f (.int i) H Q := ⟨i, rfl, k⟩
theorem g_eq (h : scal x y = true) (k : Q (.bl (decide (x = y))) H) : rEqM K x y H Q := .inl ⟨h, k⟩
theorem g_ne (h : scal x y = true) (k : Q (.bl (!decide (x = y))) H) : rNeM K x y H Q := .inl ⟨h, k⟩
theorem g_inS {n : Nat} {neg : Bool} (k : Q (.bl (if neg then !decide (n ∈ a.cps.toList) else decide (n ∈ a.cps.toList))) H) : rInM K neg (.str ⟨#[n]⟩) (.str a) H Q := .inl ⟨n, a, rfl, rfl, k⟩
theorem g_inQ {p : Addr} {xs : List V} {neg : Bool} (h : SqL K H p xs ∨ SqT K H p xs) (f1 : flatV x = true) (f2 : xs.all flatV = true)
    (k : Q (.bl (if neg then !inV x xs else inV x xs)) H) : rInM K neg x (.ref p) H Q := .inr ⟨p, xs, rfl, h, f1, f2, k⟩
theorem g_ixL {p : Addr} {xs : List V} (h : SqL K H p xs) (ha : atI xs i = some v) (k : Q v H) : rIxM K (.ref p) (.int i) H Q := .inl ⟨p, xs, i, v, rfl, rfl, h, ha, k⟩
theorem g_ixT {p : Addr} {xs : List V} (h : SqT K H p xs) (ha : atI xs i = some v) (k : Q v H) : rIxM K (.ref p) (.int i) H Q := .inr (.inl ⟨p, xs, i, v, rfl, rfl, h, ha, k⟩)
theorem g_ixS {n : Nat} (hz : a.length ≤ sizeLine) (ha : atI a.cps.toList i = some n) (k : Q (.str ⟨#[n]⟩) H) : rIxM K (.str a) (.int i) H Q := .inr (.inr ⟨a, i, n, rfl, rfl, hz, ha, k⟩)
theorem g_slL {p : Addr} {xs : List V} {lo hi : Option Int} (h : SqL K H p xs) (k : NewO H (.lst (cutV xs lo hi)) Q) : rSlM K (.ref p) lo hi H Q := .inl ⟨p, xs, rfl, h, k⟩
theorem g_slS {lo hi : Option Int} (hz : a.length ≤ sizeLine) (k : Q (.str (cutS a lo hi)) H) : rSlM K (.str a) lo hi H Q := .inr ⟨a, rfl, hz, k⟩
-- calls of built-ins by values
theorem g_lenS (hz : a.length ≤ sizeLine) (k : Q (.int a.length) H) : rLen K [.str a] H Q := ⟨_, _, rfl, ⟨hz, rfl⟩, k⟩
theorem g_lenL {p : Addr} {xs : List V} (h : SqL K H p xs) (k : Q (.int xs.length) H) : rLen K [.ref p] H Q := ⟨_, _, rfl, .inl ⟨xs, h, rfl⟩, k⟩
theorem g_lenT {p : Addr} {xs : List V} (h : SqT K H p xs) (k : Q (.int xs.length) H) : rLen K [.ref p] H Q := ⟨_, _, rfl, .inr ⟨xs, h, rfl⟩, k⟩
theorem g_abs (k : Q (.int (if i < 0 then -i else i)) H) : rAbs [.int i] H Q := ⟨i, rfl, k⟩
theorem g_intI (k : Q (.int i) H) : rIntM [.int i] H Q := .inl ⟨i, rfl, k⟩
theorem g_intB (k : Q (.int (if b then 1 else 0)) H) : rIntM [.bl b] H Q := .inr (.inl ⟨b, rfl, k⟩)
theorem g_intS {n : Int} (h : PySem.intText? a = some n) (hz : a.length ≤ 640) (k : Q (.int n) H) : rIntM [.str a] H Q := .inr (.inr ⟨a, n, rfl, h, hz, k⟩)
theorem g_isiStr {d : PyData} (h : Da K H x d) (k : Q (.bl (isStr d)) H) : rIsi K [x, .ty "str"] H Q :=
  ⟨x, .ty "str", _, _, isStr d, rfl, .ty _, h.ty, kit_ty (kit_isStr d), k⟩
theorem g_isiInt {d : PyData} (h : Da K H x d) (k : Q (.bl (isInt d)) H) : rIsi K [x, .ty "int"] H Q :=
  ⟨x, .ty "int", _, _, isInt d, rfl, .ty _, h.ty, kit_ty (kit_isInt d), k⟩
theorem g_isiBool {d : PyData} (h : Da K H x d) (k : Q (.bl (isBool d)) H) : rIsi K [x, .ty "bool"] H Q :=
  ⟨x, .ty "bool", _, _, isBool d, rfl, .ty _, h.ty, kit_ty (kit_isBool d), k⟩
theorem g_isiTup {d : PyData} (h : Da K H x d) (k : Q (.bl (isTup d)) H) : rIsi K [x, .ty "tuple"] H Q :=
  ⟨x, .ty "tuple", _, _, isTup d, rfl, .ty _, h.ty, kit_ty (kit_isTup d), k⟩
theorem g_isiStr_true {d : PyData} (h : Da K H x d) (e : isStr d = true) (k : Q (.bl true) H) : rIsi K [x, .ty "str"] H Q := g_isiStr h (by rw [e]; exact k)
theorem g_isiStr_false {d : PyData} (h : Da K H x d) (e : isStr d = false) (k : Q (.bl false) H) : rIsi K [x, .ty "str"] H Q := g_isiStr h (by rw [e]; exact k)
theorem g_isiInt_true {d : PyData} (h : Da K H x d) (e : isInt d = true) (k : Q (.bl true) H) : rIsi K [x, .ty "int"] H Q := g_isiInt h (by rw [e]; exact k)
theorem g_isiInt_false {d : PyData} (h : Da K H x d) (e : isInt d = false) (k : Q (.bl false) H) : rIsi K [x, .ty "int"] H Q := g_isiInt h (by rw [e]; exact k)
theorem g_isiBool_true {d : PyData} (h : Da K H x d) (e : isBool d = true) (k : Q (.bl true) H) : rIsi K [x, .ty "bool"] H Q := g_isiBool h (by rw [e]; exact k)
theorem g_isiBool_false {d : PyData} (h : Da K H x d) (e : isBool d = false) (k : Q (.bl false) H) : rIsi K [x, .ty "bool"] H Q := g_isiBool h (by rw [e]; exact k)
theorem g_isiTup_true {d : PyData} (h : Da K H x d) (e : isTup d = true) (k : Q (.bl true) H) : rIsi K [x, .ty "tuple"] H Q := g_isiTup h (by rw [e]; exact k)
theorem g_isiTup_false {d : PyData} (h : Da K H x d) (e : isTup d = false) (k : Q (.bl false) H) : rIsi K [x, .ty "tuple"] H Q := g_isiTup h (by rw [e]; exact k)
theorem g_repr {d : PyData} (h : Da K H x d) (h1 : d.showable = true) (h2 : d.depth ≤ 60) (h3 : d.shown.length ≤ sizeLine) (k : Q (.str d.shown) H) : rRepr K [x] H Q :=
  ⟨x, d, rfl, h, h1, h2, h3, k⟩
theorem g_all {p : Addr} {bs : List Bool} (h : SqL K H p (bs.map V.bl)) (k : Q (.bl (bs.all id)) H) : rAll K [.ref p] H Q := ⟨p, bs, rfl, h, k⟩
theorem g_any {p : Addr} {bs : List Bool} (h : SqL K H p (bs.map V.bl)) (k : Q (.bl (bs.any id)) H) : rAny K [.ref p] H Q := ⟨p, bs, rfl, h, k⟩
theorem g_strip (hz : a.length ≤ sizeLine) (k : Q (.str (Txt.stripChars a q)) H) : rStrip (.str a) [.str q] H Q := ⟨a, q, rfl, rfl, hz, k⟩
theorem g_upper (hz : a.length ≤ 5592405) (k : Q (.str (Txt.upper a)) H) : rUpper (.str a) [] H Q := ⟨a, rfl, rfl, hz, k⟩
theorem g_join {p : Addr} {ys : List Str} (h : SqL K H p (ys.map V.str) ∨ SqT K H p (ys.map V.str)) (hz : (ys.map (·.length)).sum + ys.length * a.length ≤ 16777216)
    (k : Q (.str (Txt.join a ys)) H) : rJoin K (.str a) [.ref p] H Q := ⟨a, p, ys, rfl, rfl, h, hz, k⟩
end
/-! ### steps found by their form -/
class Step (G : Prop) (N : outParam Prop) : Prop where
  imp : N → G
class GetSlot (σ : L2.St) (n : Nat) (v : outParam V) : Prop where
  get : σ[n]? = some (some v)
instance i_get0 {σ : L2.St} {v : V} : GetSlot (some v :: σ) 0 v := ⟨rfl⟩
instance i_getS {σ : L2.St} {n : Nat} {v : V} {x : Option V} [h : GetSlot σ n v] : GetSlot (x :: σ) (n + 1) v := ⟨by rw [List.getElem?_cons_succ]; exact h.get⟩
class SetSlot (σ : L2.St) (n : Nat) (v : V) (τ : outParam L2.St) : Prop where
  set : σ.set n (some v) = τ
instance i_set0 {σ : L2.St} {v : V} {x : Option V} : SetSlot (x :: σ) 0 v (some v :: σ) := ⟨rfl⟩
instance i_setS {σ τ : L2.St} {n : Nat} {v : V} {x : Option V} [h : SetSlot σ n v τ] : SetSlot (x :: σ) (n + 1) v (x :: τ) := ⟨by rw [List.set_cons_succ, h.set]⟩
section
variable {σ : L2.St} {H : Hp} {Q : VK} {v x y : V} {ta tb tc te : TE} {t u c : TT} {K : PySem.W.Frag} {D : Ends} {t1 t2 : TS}
  {r r' : R2} {i j : Int} {b : Bool} {g : TG} {a q : Str}
instance i_var {n : Nat} [h : GetSlot σ n v] : Step (tVar n σ H Q) (Q v H) := ⟨fun k => ⟨v, h.get, k⟩⟩
instance i_name {n : Nat} {τ : L2.St} {R : L2.St → Hp → Prop} [h : SetSlot σ n v τ] : Step (gName n v σ H R) (R τ H) := ⟨fun k => by
  have e := h.set
  show R (σ.set n (some v)) H
  rw [e]; exact k⟩
instance i_par {n m : Nat} {ts : TA} : Step (tPar n m ts D σ H) (ts σ H fun vs H1 => ∃ v w, vs = [v, w] ∧ gName n v σ H1 fun τ H2 => gName m w τ H2 D.nx) := ⟨fun k => k⟩
instance i_eqI : Step (rEqM K (.int i) (.int j) H Q) (Q (.bl (decide (i = j))) H) := ⟨fun k => g_eq rfl (by simpa using k)⟩
instance i_eqS : Step (rEqM K (.str a) (.str q) H Q) (Q (.bl (decide (a = q))) H) := ⟨fun k => g_eq rfl (by simpa using k)⟩
instance i_eqB {b c : Bool} : Step (rEqM K (.bl b) (.bl c) H Q) (Q (.bl (decide (b = c))) H) := ⟨fun k => g_eq rfl (by simpa using k)⟩
instance i_neI : Step (rNeM K (.int i) (.int j) H Q) (Q (.bl (!decide (i = j))) H) := ⟨fun k => g_ne rfl (by simpa using k)⟩
instance i_neS : Step (rNeM K (.str a) (.str q) H Q) (Q (.bl (!decide (a = q))) H) := ⟨fun k => g_ne rfl (by simpa using k)⟩
instance i_neB {b c : Bool} : Step (rNeM K (.bl b) (.bl c) H Q) (Q (.bl (!decide (b = c))) H) := ⟨fun k => g_ne rfl (by simpa using k)⟩
instance i_c  : Step (tC v σ H Q) (Q v H) := ⟨fun k => g_c k⟩
instance i_op  : Step (tOp r ta tb σ H Q) (ta σ H fun x H1 => tb σ H1 fun y H2 => r x y H2 Q) := ⟨fun k => g_op k⟩
instance i_un {r : V → Hp → VK → Prop} : Step (tUn r ta σ H Q) (ta σ H fun x H1 => r x H1 Q) := ⟨fun k => g_un k⟩
instance i_test {R : Bool → Hp → Prop} : Step (tTest te σ H R) (te σ H fun x H' => ∃ k, x = .bl k ∧ R k H') := ⟨fun k => g_test k⟩
instance i_tB {R : Bool → Hp → Prop} : Step (tB te σ H R) (te σ H fun x H' => ∃ k, x = .bl k ∧ R k H') := ⟨fun k => g_tB k⟩
instance i_bl {R : Bool → Prop} : Step (∃ k, V.bl b = .bl k ∧ R k) (R b) := ⟨fun k => g_bl k⟩
instance i_and {R : Bool → Hp → Prop} : Step (tAnd t u σ H R) (t σ H fun c H1 => if c = true then u σ H1 R else R false H1) := ⟨fun k => g_and k⟩
instance i_or {R : Bool → Hp → Prop} : Step (tOr t u σ H R) (t σ H fun c H1 => if c = true then R true H1 else u σ H1 R) := ⟨fun k => g_or k⟩
instance i_not {R : Bool → Hp → Prop} : Step (tNot t σ H R) (t σ H fun c H1 => R (!c) H1) := ⟨fun k => g_not k⟩
instance i_andV  : Step (tAndV ta tb σ H Q) (ta σ H fun x H1 => ∃ c, x = .bl c ∧ if c = true then tb σ H1 Q else Q (.bl false) H1) := ⟨fun k => g_andV k⟩
instance i_orV  : Step (tOrV ta tb σ H Q) (ta σ H fun x H1 => ∃ c, x = .bl c ∧ if c = true then Q (.bl true) H1 else tb σ H1 Q) := ⟨fun k => g_orV k⟩
instance i_notV  : Step (tNotV ta σ H Q) (ta σ H fun x H1 => ∃ c, x = .bl c ∧ Q (.bl (!c)) H1) := ⟨fun k => g_notV k⟩
instance i_if  : Step (tIf t ta tb σ H Q) (t σ H fun c H1 => if c = true then ta σ H1 Q else tb σ H1 Q) := ⟨fun k => g_if k⟩
instance i_chain  : Step (tChain r r' ta tb tc σ H Q) (ta σ H fun x H1 => tb σ H1 fun y H2 => r x y H2 fun z H3 => ∃ k, z = .bl k ∧
  (if k = true then tc σ H3 fun w' H4 => r' y w' H4 Q else Q (.bl false) H3)) := ⟨fun k => g_chain k⟩
instance i_nil {R : List V → Hp → Prop} : Step (tNil σ H R) (R [] H) := ⟨fun k => g_nil k⟩
instance i_cons {tr : TA} {R : List V → Hp → Prop} : Step (tCons ta tr σ H R) (ta σ H fun x H1 => tr σ H1 fun xs H2 => R (x :: xs) H2) := ⟨fun k => g_cons k⟩
instance i_cb {f : List V → Hp → VK → Prop} {tr : TA} : Step (tCB f tr σ H Q) (tr σ H fun vs H1 => f vs H1 Q) := ⟨fun k => g_cb k⟩
instance i_kn {n m : Nat} {gV : List V → List V → List V} {sp : Sp} {E : XK} {ts tk : TA} : Step (tKn n m gV sp E ts tk σ H Q) (ts σ H fun vs H1 => tk σ H1 fun zs H2 => vs.length = n ∧ zs.length = m ∧ sp (gV vs zs) H2 Q E) := ⟨fun k => g_kn k⟩
instance i_tup {tr : TA} : Step (tTup tr σ H Q) (tr σ H fun xs H1 => xs.length ≤ sizeLine ∧ NewO H1 (.tup xs) Q) := ⟨fun k => g_tup k⟩
instance i_lst {tr : TA} : Step (tLst tr σ H Q) (tr σ H fun xs H1 => xs.length ≤ sizeLine ∧ NewO H1 (.lst xs) Q) := ⟨fun k => g_lst k⟩
instance i_dnew  : Step (tDNewK σ H Q) (NewO H (.dK []) Q) := ⟨fun k => g_dnew k⟩
instance i_sl {f : V → Option Int → Option Int → Hp → VK → Prop} {tl th : TO} : Step (tSl f te tl th σ H Q) (te σ H fun x H1 => tl σ H1 fun l H2 => th σ H2 fun u H3 => f x l u H3 Q) := ⟨fun k => g_sl k⟩
instance i_nopart {R : Option Int → Hp → Prop} : Step (tNoPart σ H R) (R none H) := ⟨fun k => g_nopart k⟩
instance i_part {R : Option Int → Hp → Prop} : Step (tPart te σ H R) (te σ H fun x H1 => ∃ i, x = .int i ∧ R (some i) H1) := ⟨fun k => g_part k⟩
instance i_int {R : Int → Prop} : Step (∃ j, V.int i = .int j ∧ R j) (R i) := ⟨fun k => g_int k⟩
instance i_m1 {f : V → List V → Hp → VK → Prop} : Step (tM1 f ta te σ H Q) (ta σ H fun x H1 => (∃ a, x = .str a) ∧ te σ H1 fun y H2 => f x [y] H2 Q) := ⟨fun k => g_m1 k⟩
instance i_m0 {f : V → List V → Hp → VK → Prop} : Step (tM0 f ta σ H Q) (ta σ H fun x H1 => (∃ a, x = .str a) ∧ f x [] H1 Q) := ⟨fun k => g_m0 k⟩
instance i_isS {R : Prop} : Step ((∃ b, V.str a = .str b) ∧ R) (R) := ⟨fun k => g_isS k⟩
instance i_seq  : Step (tSeq t1 t2 D σ H) (t1 { D with nx := t2 D } σ H) := ⟨fun k => g_seq k⟩
instance i_next  : Step (tNext D σ H) (D.nx σ H) := ⟨fun k => g_next k⟩
instance i_ifS  : Step (tIfS c t1 t2 D σ H) (c σ H fun b H1 => if b = true then t1 D σ H1 else t2 D σ H1) := ⟨fun k => g_ifS k⟩
instance i_ret  : Step (tRet te D σ H) (te σ H D.rt) := ⟨fun k => g_ret k⟩
instance i_asg  : Step (tAsg te g D σ H) (te σ H fun x H1 => g x σ H1 D.nx) := ⟨fun k => g_asg k⟩
instance i_drop  : Step (tDrop te D σ H) (te σ H fun _ H1 => D.nx σ H1) := ⟨fun k => g_drop k⟩
instance i_two {R : V → V → Prop} : Step (∃ v w, [x, y] = [v, w] ∧ R v w) (R x y) := ⟨fun k => g_two k⟩
instance i_ifT {A B : Prop} {i : Decidable (true = true)} : Step (@ite Prop (true = true) i A B) (A) := ⟨fun k => g_ifT k⟩
instance i_ifF {A B : Prop} {i : Decidable (false = true)} : Step (@ite Prop (false = true) i A B) (B) := ⟨fun k => g_ifF k⟩
instance i_ifnT {A B : Prop} {i : Decidable ((!true) = true)} : Step (@ite Prop ((!true) = true) i A B) (B) := ⟨fun k => g_ifnT k⟩
instance i_ifnF {A B : Prop} {i : Decidable ((!false) = true)} : Step (@ite Prop ((!false) = true) i A B) (A) := ⟨fun k => g_ifnF k⟩
instance i_brk  : Step (tBreak D σ H) (D.bk σ H) := ⟨fun k => g_brk k⟩
instance i_cont  : Step (tCont D σ H) (D.ct σ H) := ⟨fun k => g_cont k⟩
instance i_addI  : Step (rAddM K (.int i) (.int j) H Q) (Q (.int (i + j)) H) := ⟨fun k => g_addI k⟩
instance i_i0 {f : Int → Int → V} : Step (rI0 f (.int i) (.int j) H Q) (Q (f i j) H) := ⟨fun k => g_i0 k⟩
instance i_u {f : Int → V} : Step (rU f (.int i) H Q) (Q (f i) H) := ⟨fun k => g_u k⟩
instance i_inS {n : Nat} {neg : Bool} : Step (rInM K neg (.str ⟨#[n]⟩) (.str a) H Q) (Q (.bl (if neg then !decide (n ∈ a.cps.toList) else decide (n ∈ a.cps.toList))) H) := ⟨fun k => g_inS k⟩
instance i_abs  : Step (rAbs [.int i] H Q) (Q (.int (if i < 0 then -i else i)) H) := ⟨fun k => g_abs k⟩
instance i_intI  : Step (rIntM [.int i] H Q) (Q (.int i) H) := ⟨fun k => g_intI k⟩
instance i_intB  : Step (rIntM [.bl b] H Q) (Q (.int (if b then 1 else 0)) H) := ⟨fun k => g_intB k⟩
/-- a step that asks for a size -/
class StepZ (G : Prop) (C N : outParam Prop) : Prop where
  imp : C → N → G
instance z_addS : StepZ (rAddM K (.str a) (.str q) H Q) (a.length + q.length ≤ sizeLine) (Q (.str (a ++ q)) H) := ⟨g_addS⟩
instance z_lenS : StepZ (rLen K [.str a] H Q) (a.length ≤ sizeLine) (Q (.int a.length) H) := ⟨g_lenS⟩
instance z_strip : StepZ (rStrip (.str a) [.str q] H Q) (a.length ≤ sizeLine) (Q (.str (Txt.stripChars a q)) H) := ⟨g_strip⟩
instance z_slS {lo hi : Option Int} : StepZ (rSlM K (.str a) lo hi H Q) (a.length ≤ sizeLine) (Q (.str (cutS a lo hi)) H) := ⟨g_slS⟩
instance z_mulI : StepZ (rMulM (.int i) (.int j) H Q) (CMa i j) (Q (.int (i * j)) H) := ⟨g_mulI⟩
instance z_mulS : StepZ (rMulM (.str a) (.int j) H Q) (MulOk a j) (Q (.str (Txt.mul a j)) H) := ⟨g_mulS⟩
instance z_upper : StepZ (rUpper (.str a) [] H Q) (a.length ≤ 5592405) (Q (.str (Txt.upper a)) H) := ⟨g_upper⟩
instance z_i {C : Int → Int → Prop} {f : Int → Int → V} : StepZ (rI C f (.int i) (.int j) H Q) (C i j) (Q (f i j) H) := ⟨g_i⟩
instance z_and {n : Nat} {R : Prop} : StepZ (n ≤ sizeLine ∧ R) (n ≤ sizeLine) R := ⟨fun a b => ⟨a, b⟩⟩
instance z_andL {n : Nat} {R : Prop} : StepZ (n < sizeLine ∧ R) (n < sizeLine) R := ⟨fun a b => ⟨a, b⟩⟩
/-- a step that asks what stands at an address -/
class StepQ (G : Prop) (C N : outParam (List V → Prop)) : Prop where
  imp : ∀ xs, C xs → N xs → G
instance q_lenL {p : Addr} : StepQ (rLen K [.ref p] H Q) (fun xs => SqL K H p xs ∨ SqT K H p xs) (fun xs => Q (.int xs.length) H) :=
  ⟨fun xs h k => h.elim (fun h => g_lenL h k) (fun h => g_lenT h k)⟩
instance q_ix {p : Addr} : StepQ (rIxM K (.ref p) (.int i) H Q) (fun xs => SqL K H p xs ∨ SqT K H p xs) (fun xs => ∃ v, atI xs i = some v ∧ Q v H) :=
  ⟨fun xs h ⟨v, e, k⟩ => h.elim (fun h => g_ixL h e k) (fun h => g_ixT h e k)⟩
instance q_slL {p : Addr} {lo hi : Option Int} : StepQ (rSlM K (.ref p) lo hi H Q) (fun xs => SqL K H p xs) (fun xs => NewO H (.lst (cutV xs lo hi)) Q) :=
  ⟨fun xs h k => g_slL h k⟩
instance q_in {p : Addr} {neg : Bool} : StepQ (rInM K neg x (.ref p) H Q) (fun xs => SqL K H p xs ∨ SqT K H p xs)
  (fun xs => flatV x = true ∧ xs.all flatV = true ∧ Q (.bl (if neg then !inV x xs else inV x xs)) H) := ⟨fun xs h ⟨k1, k2, k3⟩ => g_inQ h k1 k2 k3⟩
instance q_addL {l m : Addr} : StepQ (rAddM K (.ref l) (.ref m) H Q) (fun xs => H l = some (.lst xs))
  (fun xs => ∃ ys, H m = some (.lst ys) ∧ xs.length + ys.length ≤ sizeLine ∧ NewO H (.lst (xs ++ ys)) Q) :=
  ⟨fun xs h ⟨ys, k1, k2, k3⟩ => g_addL h k1 k2 k3⟩
instance q_exL {p : Addr} {R : List V → Prop} : StepQ (∃ ys, H p = some (.lst ys) ∧ R ys) (fun ys => H p = some (.lst ys)) R := ⟨fun ys h k => ⟨ys, h, k⟩⟩
instance q_itL {p : Addr} {R : Addr → Prop} : StepQ (∃ b, V.ref p = .ref b ∧ (∃ xs, SqL K H b xs) ∧ R b) (fun xs => SqL K H p xs) (fun _ => R p) := ⟨fun xs h k => ⟨p, rfl, ⟨xs, h⟩, k⟩⟩
instance q_itT {p : Addr} {R : Addr → Prop} : StepQ (∃ b, V.ref p = .ref b ∧ (∃ xs, SqT K H b xs) ∧ R b) (fun xs => SqT K H p xs) (fun _ => R p) := ⟨fun xs h k => ⟨p, rfl, ⟨xs, h⟩, k⟩⟩
instance q_tyL {p : Addr} {R : Prop} : StepQ (tyV K "list" (.ref p) H ∧ R) (fun xs => SqL K H p xs) (fun _ => R) := ⟨fun xs h k => ⟨.inl ⟨rfl, xs, h⟩, k⟩⟩
instance q_append {l : Addr} : StepQ (rAppend (.ref l) [v] H Q) (fun xs => H l = some (.lst xs)) (fun xs => xs.length < sizeLine ∧ Q .non (upd H l (.lst (xs ++ [v])))) :=
  ⟨fun xs h k => ⟨l, xs, v, rfl, rfl, h, k⟩⟩
instance q_extend {l m : Addr} : StepQ (rExtend (.ref l) [.ref m] H Q) (fun xs => H l = some (.lst xs))
  (fun xs => ∃ zs, H m = some (.lst zs) ∧ xs.length + zs.length ≤ sizeLine ∧ Q .non (upd H l (.lst (xs ++ zs)))) := ⟨fun xs h ⟨zs, k1, k2, k3⟩ => ⟨l, m, xs, zs, rfl, rfl, h, k1, k2, k3⟩⟩
instance q_setL {p : Addr} {R : Hp → Prop} : StepQ (rSetL (.ref p) (.int i) v H R) (fun xs => H p = some (.lst xs)) (fun xs => ∃ j, ixN xs.length i = some j ∧ R (upd H p (.lst (xs.set j v)))) :=
  ⟨fun xs h ⟨j, e, k⟩ => ⟨p, xs, i, j, rfl, rfl, h, e, k⟩⟩
instance i_gSub {t : TSet} {R : L2.St → Hp → Prop} : Step (gSub ta tb t v σ H R) (ta σ H fun o H1 => tb σ H1 fun i H2 => t o i v H2 fun H3 => R σ H3) := ⟨fun k => k⟩
instance i_bm {T : String} {f : V → List V → Hp → VK → Prop} {ts : TA} : Step (tBM K T f ta ts σ H Q) (ta σ H fun x H1 => tyV K T x H1 ∧ ts σ H1 fun xs H2 => f x xs H2 Q) := ⟨fun k => k⟩
instance i_bm0 {T : String} {f : V → List V → Hp → VK → Prop} : Step (tBM0 K T f ta σ H Q) (ta σ H fun x H1 => tyV K T x H1 ∧ f x [] H1 Q) := ⟨fun k => k⟩
/-- a step that asks for a datum -/
class StepD (G : Prop) (C N : outParam (PyData → Prop)) : Prop where
  imp : ∀ d, C d → N d → G
instance d_isStr : StepD (rIsi K [x, .ty "str"] H Q) (fun d => Da K H x d) (fun d => Q (.bl (isStr d)) H) := ⟨fun d h k => g_isiStr h k⟩
instance d_isInt : StepD (rIsi K [x, .ty "int"] H Q) (fun d => Da K H x d) (fun d => Q (.bl (isInt d)) H) := ⟨fun d h k => g_isiInt h k⟩
instance d_isBool : StepD (rIsi K [x, .ty "bool"] H Q) (fun d => Da K H x d) (fun d => Q (.bl (isBool d)) H) := ⟨fun d h k => g_isiBool h k⟩
instance d_isTup : StepD (rIsi K [x, .ty "tuple"] H Q) (fun d => Da K H x d) (fun d => Q (.bl (isTup d)) H) := ⟨fun d h k => g_isiTup h k⟩
instance d_repr : StepD (rRepr K [x] H Q) (fun d => Da K H x d) (fun d => d.showable = true ∧ d.depth ≤ 60 ∧ d.shown.length ≤ sizeLine ∧ Q (.str d.shown) H) :=
  ⟨fun d h ⟨k1, k2, k3, k4⟩ => g_repr h k1 k2 k3 k4⟩
end
end L2.Pc

namespace L2.Pc
open PySem PySem.Spec PyProof.Rows

theorem bt_len : bootBuiltins "len" = some (.builtin "len") := by decide +kernel
theorem bt_abs : bootBuiltins "abs" = some (.builtin "abs") := by decide +kernel
theorem bt_repr : bootBuiltins "repr" = some (.builtin "repr") := by decide +kernel
theorem bt_isinstance : bootBuiltins "isinstance" = some (.builtin "isinstance") := by decide +kernel
theorem bt_all : bootBuiltins "all" = some (.builtin "all") := by decide +kernel
theorem bt_any : bootBuiltins "any" = some (.builtin "any") := by decide +kernel
theorem bt_sorted : bootBuiltins "sorted" = some (.builtin "sorted") := by decide +kernel
theorem bt_max : bootBuiltins "max" = some (.builtin "max") := by decide +kernel
theorem bt_min : bootBuiltins "min" = some (.builtin "min") := by decide +kernel
theorem bt_int : bootBuiltins "int" = some (.type "int") := by decide +kernel
theorem bt_str : bootBuiltins "str" = some (.type "str") := by decide +kernel
theorem bt_bool : bootBuiltins "bool" = some (.type "bool") := by decide +kernel
theorem bt_tuple : bootBuiltins "tuple" = some (.type "tuple") := by decide +kernel
theorem bt_list : bootBuiltins "list" = some (.type "list") := by decide +kernel
theorem bt_dict : bootBuiltins "dict" = some (.type "dict") := by decide +kernel
theorem bt_set : bootBuiltins "set" = some (.type "set") := by decide +kernel

theorem hu64 {k : Nat} {A : Around} (r : Room k A) : A.units + 64 < cLine := by have := r.un; omega
theorem szl : sizeLine = 16777216 := by decide

/-! ### promises by the number of arguments -/
def Sp1 (R : V → Hp → VK → Prop) : Sp := fun vs H Q _ => ∃ x, vs = [x] ∧ R x H Q
def Sp2 (R : V → V → Hp → VK → Prop) : Sp := fun vs H Q _ => ∃ x y, vs = [x, y] ∧ R x y H Q
def Sp3 (R : V → V → V → Hp → VK → Prop) : Sp := fun vs H Q _ => ∃ x y z, vs = [x, y, z] ∧ R x y z H Q
def Sp4 (R : V → V → V → V → Hp → VK → Prop) : Sp := fun vs H Q _ => ∃ x y z u, vs = [x, y, z, u] ∧ R x y z u H Q
section
variable {vs : List V} {H : Hp} {Q : VK} {E : XK} {x y z u : V}
theorem Sp1.len {R : V → Hp → VK → Prop} (h : Sp1 R vs H Q E) : vs.length = 1 := by obtain ⟨x, rfl, _⟩ := h; rfl
theorem Sp2.len {R : V → V → Hp → VK → Prop} (h : Sp2 R vs H Q E) : vs.length = 2 := by obtain ⟨x, y, rfl, _⟩ := h; rfl
theorem Sp3.len {R : V → V → V → Hp → VK → Prop} (h : Sp3 R vs H Q E) : vs.length = 3 := by obtain ⟨x, y, z, rfl, _⟩ := h; rfl
theorem Sp4.len {R : V → V → V → V → Hp → VK → Prop} (h : Sp4 R vs H Q E) : vs.length = 4 := by obtain ⟨x, y, z, u, rfl, _⟩ := h; rfl
theorem g_call1 {R : V → Hp → VK → Prop} (k : R x H Q) : [x].length = 1 ∧ ([] : List V).length = 0 ∧ Sp1 R [x] H Q E := ⟨rfl, rfl, x, rfl, k⟩
theorem g_call2 {R : V → V → Hp → VK → Prop} (k : R x y H Q) : [x, y].length = 2 ∧ ([] : List V).length = 0 ∧ Sp2 R [x, y] H Q E := ⟨rfl, rfl, x, y, rfl, k⟩
theorem g_call3 {R : V → V → V → Hp → VK → Prop} (k : R x y z H Q) : [x, y, z].length = 3 ∧ ([] : List V).length = 0 ∧ Sp3 R [x, y, z] H Q E := ⟨rfl, rfl, x, y, z, rfl, k⟩
theorem g_call4 {R : V → V → V → V → Hp → VK → Prop} (k : R x y z u H Q) : [x, y, z, u].length = 4 ∧ ([] : List V).length = 0 ∧ Sp4 R [x, y, z, u] H Q E := ⟨rfl, rfl, x, y, z, u, rfl, k⟩
end

/-- a written tuple of the module -/
def Kt (K : PySem.W.Frag) (a : Addr) (xs : List V) : Prop :=
  ∃ (o : Obj) (its : Array Value) (n : Nat), K.lookup a = some o ∧ o.cls = .type "tuple" ∧ o.data = .seq its n ∧ its.size ≤ sizeLine ∧ Vals xs its.toList
theorem Kt.sq {K : PySem.W.Frag} {a : Addr} {xs : List V} (h : Kt K a xs) (H : Hp) : SqT K H a xs := .inr h

/-! ### loops and comprehensions -/
def ForW (J : It) (g : TG) (tb : TS) (D : Ends) : L2.St → Hp → Prop := fun σ H =>
  ∃ W : Nat → Nat → L2.St → Hp → Prop, (∃ m, W 0 m σ H) ∧ ∀ i m σ H, W i m σ H → (J.stop i H ∧ D.nx σ H) ∨
    (J.go i H ∧ ∃ N : L2.St → Hp → Prop, (∀ σ' H', N σ' H' → ∃ m', m' < m ∧ W (i + 1) m' σ' H') ∧
      ∀ x H', J.yld i H x H' → g x σ H' fun σ2 H2 => tb { D with nx := N, ct := N, bk := D.nx } σ2 H2)
def LcW (J : It) (g : TG) (tt : TT) (te : TE) (vs : List Nat) (σ : L2.St) (Q : VK) : Hp → Prop := fun H1 =>
  ∀ D, H1 D = none → ∃ W : Nat → Nat → Hp → Prop, (∃ m, W 0 m (upd H1 D (.lst []))) ∧ ∀ i m H, W i m H →
    (J.stop i H ∧ Q (.ref D) H) ∨ (J.go i H ∧ ∃ Nx : Hp → Prop, (∀ H', Nx H' → ∃ m', m' < m ∧ W (i + 1) m' H') ∧
      ∀ x H', J.yld i H x H' → g x (wipe σ vs) H' fun σ2 H2 => wipe σ2 vs = wipe σ vs ∧ tt σ2 H2 fun b H3 =>
        if b = true then te σ2 H3 fun y H4 => ∃ acc, H4 D = some (.lst acc) ∧ acc.length < sizeLine ∧ Nx (upd H4 D (.lst (acc ++ [y]))) else Nx H3)
/-- what is walked: n items, as long as G -/
structure Src (J : It) (n : Nat) (it : Nat → V) (G : Hp → Prop) : Prop where
  go : ∀ i H, i < n → G H → J.go i H
  yld : ∀ i H x H', i < n → G H → J.yld i H x H' → x = it i ∧ H' = H
  stop : ∀ H, G H → J.stop n H
theorem getD_of {xs : List V} {i : Nat} (h : i < xs.length) : xs[i]? = some (xs.getD i .non) := by
  rw [List.getD_eq_getElem?_getD, List.getElem?_eq_getElem h]; rfl
theorem src_list (K : PySem.W.Frag) (a : Addr) (xs : List V) : Src (Itl K a) xs.length (fun i => xs.getD i .non) (fun H => SqL K H a xs) where
  go := fun i H h g => ⟨xs, _, g, getD_of h⟩
  yld := fun i H x H' h g y => ⟨Option.some.inj ((y.2 xs g).symm.trans (getD_of h)), y.1⟩
  stop := fun H g => ⟨xs, g, Nat.le_refl _⟩
theorem src_tup (K : PySem.W.Frag) (a : Addr) (xs : List V) : Src (Itt K a) xs.length (fun i => xs.getD i .non) (fun H => SqT K H a xs) where
  go := fun i H h g => ⟨xs, _, g, getD_of h⟩
  yld := fun i H x H' h g y => ⟨Option.some.inj ((y.2 xs g).symm.trans (getD_of h)), y.1⟩
  stop := fun H g => ⟨xs, g, Nat.le_refl _⟩
theorem src_rng (lo : Int) (n : Nat) : Src (Itr lo n) n (fun i => .int (lo + i)) (fun _ => True) where
  go := fun i H h _ => h
  yld := fun i H x H' _ _ y => ⟨y.2, y.1⟩
  stop := fun H _ => Nat.le_refl _
theorem src_str (z : Str) : Src (Its z) z.cps.size (fun i => .str ⟨#[z.cps.getD i 0]⟩) (fun _ => True) where
  go := fun i H h _ => h
  yld := fun i H x H' h _ y => by
    obtain ⟨e, c, hc, rfl⟩ := y
    refine ⟨?_, e⟩
    have : z.cps.getD i 0 = c := by rw [Array.getD_eq_getD_getElem?, hc]; rfl
    rw [this]
  stop := fun H _ => Nat.le_refl _
section
variable {K : PySem.W.Frag} {σ : L2.St} {H : Hp} {Q : VK} {D : Ends} {tb : TS} {g : TG} {tt : TT} {te tl : TE} {vs : List Nat} {ta : TA}
  {J : It} {n : Nat} {it : Nat → V} {G : Hp → Prop} {wi : TI} {R : It → Hp → Prop}
theorem g_for (k : wi σ H fun J H1 => ForW J g tb D σ H1) : tFor wi g tb D σ H := k
theorem g_lc (k : wi σ H fun J H1 => LcW J g tt te vs σ Q H1) : tLc wi g tt te vs σ H Q := k
theorem g_rng1 (k : ta σ H fun vs H1 => ∃ j : Int, vs = [.int j] ∧ -(2 ^ 62) ≤ j ∧ j < 2 ^ 62 ∧ R (Itr 0 j.toNat) H1) : iRng1 ta σ H R := k
theorem g_rng2 (k : ta σ H fun vs H1 => ∃ i j : Int, vs = [.int i, .int j] ∧ (-(2 ^ 62) ≤ i ∧ i < 2 ^ 62 ∧ -(2 ^ 62) ≤ j ∧ j < 2 ^ 62) ∧ R (Itr i (j - i).toNat) H1) : iRng2 ta σ H R := k
theorem g_rngV {m : Int} (h1 : -(2 ^ 62) ≤ m) (h2 : m < 2 ^ 62) (k : R (Itr 0 m.toNat) H) :
    ∃ j : Int, [V.int m] = [.int j] ∧ -(2 ^ 62) ≤ j ∧ j < 2 ^ 62 ∧ R (Itr 0 j.toNat) H := ⟨m, rfl, h1, h2, k⟩
theorem g_rngW {l m : Int} (h1 : -(2 ^ 62) ≤ l ∧ l < 2 ^ 62 ∧ -(2 ^ 62) ≤ m ∧ m < 2 ^ 62) (k : R (Itr l (m - l).toNat) H) :
    ∃ i j : Int, [V.int l, V.int m] = [.int i, .int j] ∧ (-(2 ^ 62) ≤ i ∧ i < 2 ^ 62 ∧ -(2 ^ 62) ≤ j ∧ j < 2 ^ 62) ∧ R (Itr i (j - i).toNat) H := ⟨l, m, rfl, h1, k⟩
theorem g_iList (k : tl σ H fun x H1 => ∃ a, x = .ref a ∧ (∃ xs, SqL K H1 a xs) ∧ R (Itl K a) H1) : iList K tl σ H R := k
theorem g_iTup (k : tl σ H fun x H1 => ∃ a, x = .ref a ∧ (∃ xs, SqT K H1 a xs) ∧ R (Itt K a) H1) : iTup K tl σ H R := k
theorem g_iStr (k : tl σ H fun x H1 => ∃ z, x = .str z ∧ R (Its z) H1) : iStr tl σ H R := k
theorem g_itL {a : Addr} {xs : List V} (h : SqL K H a xs) (k : R (Itl K a) H) : ∃ b, V.ref a = .ref b ∧ (∃ xs, SqL K H b xs) ∧ R (Itl K b) H := ⟨a, rfl, ⟨xs, h⟩, k⟩
theorem g_itT {a : Addr} {xs : List V} (h : SqT K H a xs) (k : R (Itt K a) H) : ∃ b, V.ref a = .ref b ∧ (∃ xs, SqT K H b xs) ∧ R (Itt K b) H := ⟨a, rfl, ⟨xs, h⟩, k⟩
theorem g_itS {z : Str} (k : R (Its z) H) : ∃ y, V.str z = .str y ∧ R (Its y) H := ⟨z, rfl, k⟩
/-- a for, by what holds behind each turn -/
theorem forG (S : Src J n it G) (Pv : Nat → L2.St → Hp → Prop) (h0 : Pv 0 σ H) (hG : ∀ i σ' H', i ≤ n → Pv i σ' H' → G H')
    (hs : ∀ i σ' H', i < n → Pv i σ' H' → g (it i) σ' H' fun σ2 H2 => tb { D with nx := Pv (i + 1), ct := Pv (i + 1), bk := D.nx } σ2 H2)
    (hd : ∀ σ' H', Pv n σ' H' → D.nx σ' H') : ForW J g tb D σ H := by
  refine ⟨fun i m σ' H' => m = n - i ∧ i ≤ n ∧ Pv i σ' H', ⟨n, rfl, Nat.zero_le _, h0⟩, ?_⟩
  rintro i m σ' H' ⟨rfl, hi, p⟩
  have gg := hG i σ' H' hi p
  rcases Nat.lt_or_ge i n with hl | hl
  · refine Or.inr ⟨S.go i H' hl gg, Pv (i + 1), fun σ2 H2 q => ⟨n - (i + 1), by omega, rfl, hl, q⟩, fun x H2 y => ?_⟩
    obtain ⟨e1, e2⟩ := S.yld i H' x H2 hl gg y
    rw [e1, e2]
    exact hs i σ' H' hl p
  · have e : i = n := by omega
    subst e
    exact Or.inl ⟨S.stop H' gg, hd σ' H' p⟩
/-- behind turn i the new list at L holds acc -/
def LcN (Pv : Addr → Nat → List V → Hp → Prop) (L : Addr) (i : Nat) : Hp → Prop := fun H' => ∃ acc, H' L = some (.lst acc) ∧ acc.length ≤ i ∧ Pv L i acc H'
theorem lc_leaf {Pv : Addr → Nat → List V → Hp → Prop} {L : Addr} {i : Nat} {acc : List V} {y : V} {H4 : Hp} (h : H4 L = some (.lst acc)) (hl : acc.length ≤ i) (hi : i < 16777216)
    (p : Pv L (i + 1) (acc ++ [y]) (upd H4 L (.lst (acc ++ [y])))) : ∃ a, H4 L = some (.lst a) ∧ a.length < sizeLine ∧ LcN Pv L (i + 1) (upd H4 L (.lst (a ++ [y]))) :=
  ⟨acc, h, by rw [szl]; omega, acc ++ [y], upd_same, by rw [List.length_append, List.length_singleton]; omega, p⟩
theorem lc_skip {Pv : Addr → Nat → List V → Hp → Prop} {L : Addr} {i : Nat} {acc : List V} {H4 : Hp} (h : H4 L = some (.lst acc)) (hl : acc.length ≤ i)
    (p : Pv L (i + 1) acc H4) : LcN Pv L (i + 1) H4 := ⟨acc, h, by omega, p⟩
/-- a comprehension, by what holds behind each turn of what is made so far -/
theorem lcG (S : Src J n it G) (Pv : Addr → Nat → List V → Hp → Prop) (h0 : ∀ L, H L = none → Pv L 0 [] (upd H L (.lst [])))
    (hG : ∀ L i acc H', i ≤ n → Pv L i acc H' → G H')
    (hs : ∀ L i acc H', H L = none → i < n → H' L = some (.lst acc) → acc.length ≤ i → Pv L i acc H' →
      g (it i) (wipe σ vs) H' fun σ2 H2 => wipe σ2 vs = wipe σ vs ∧ tt σ2 H2 fun b H3 =>
        if b = true then te σ2 H3 fun y H4 => ∃ a, H4 L = some (.lst a) ∧ a.length < sizeLine ∧ LcN Pv L (i + 1) (upd H4 L (.lst (a ++ [y])))
        else LcN Pv L (i + 1) H3)
    (hd : ∀ L acc H', H L = none → H' L = some (.lst acc) → acc.length ≤ n → Pv L n acc H' → Q (.ref L) H') : LcW J g tt te vs σ Q H := by
  intro L hL
  refine ⟨fun i m H' => m = n - i ∧ i ≤ n ∧ LcN Pv L i H', ⟨n, rfl, Nat.zero_le _, [], upd_same, Nat.le_refl _, h0 L hL⟩, ?_⟩
  rintro i m H' ⟨rfl, hi, acc, ha, hla, p⟩
  have gg := hG L i acc H' hi p
  rcases Nat.lt_or_ge i n with hl | hl
  · refine Or.inr ⟨S.go i H' hl gg, LcN Pv L (i + 1), fun H2 q => ⟨n - (i + 1), by omega, rfl, hl, q⟩, fun x H2 y => ?_⟩
    obtain ⟨e1, e2⟩ := S.yld i H' x H2 hl gg y
    rw [e1, e2]
    exact hs L i acc H' hL hl ha hla p
  · have e : i = n := by omega
    subst e
    exact Or.inl ⟨S.stop H' gg, hd L acc H' hL ha hla p⟩
end
/-! ### steps found by their form -/
section
variable {vs : List V} {H : Hp} {Q : VK} {E : XK} {x y z u : V}
instance i_call1 {R : V → Hp → VK → Prop} : Step ([x].length = 1 ∧ ([] : List V).length = 0 ∧ Sp1 R [x] H Q E) (R x H Q) := ⟨fun k => g_call1 k⟩
instance i_call2 {R : V → V → Hp → VK → Prop} : Step ([x, y].length = 2 ∧ ([] : List V).length = 0 ∧ Sp2 R [x, y] H Q E) (R x y H Q) := ⟨fun k => g_call2 k⟩
instance i_call3 {R : V → V → V → Hp → VK → Prop} : Step ([x, y, z].length = 3 ∧ ([] : List V).length = 0 ∧ Sp3 R [x, y, z] H Q E) (R x y z H Q) := ⟨fun k => g_call3 k⟩
instance i_call4 {R : V → V → V → V → Hp → VK → Prop} : Step ([x, y, z, u].length = 4 ∧ ([] : List V).length = 0 ∧ Sp4 R [x, y, z, u] H Q E) (R x y z u H Q) := ⟨fun k => g_call4 k⟩
end
section
variable {K : PySem.W.Frag} {σ : L2.St} {H : Hp} {Q : VK} {D : Ends} {tb : TS} {g : TG} {tt : TT} {te tl : TE} {vs : List Nat} {ta : TA}
  {J : It} {n : Nat} {it : Nat → V} {G : Hp → Prop} {wi : TI} {R : It → Hp → Prop}
instance i_for  : Step (tFor wi g tb D σ H) (wi σ H fun J H1 => ForW J g tb D σ H1) := ⟨fun k => g_for k⟩
instance i_lc  : Step (tLc wi g tt te vs σ H Q) (wi σ H fun J H1 => LcW J g tt te vs σ Q H1) := ⟨fun k => g_lc k⟩
instance i_rng1  : Step (iRng1 ta σ H R) (ta σ H fun vs H1 => ∃ j : Int, vs = [.int j] ∧ -(2 ^ 62) ≤ j ∧ j < 2 ^ 62 ∧ R (Itr 0 j.toNat) H1) := ⟨fun k => g_rng1 k⟩
instance i_rng2  : Step (iRng2 ta σ H R) (ta σ H fun vs H1 => ∃ i j : Int, vs = [.int i, .int j] ∧ (-(2 ^ 62) ≤ i ∧ i < 2 ^ 62 ∧ -(2 ^ 62) ≤ j ∧ j < 2 ^ 62) ∧ R (Itr i (j - i).toNat) H1) := ⟨fun k => g_rng2 k⟩
instance i_iList  : Step (iList K tl σ H R) (tl σ H fun x H1 => ∃ a, x = .ref a ∧ (∃ xs, SqL K H1 a xs) ∧ R (Itl K a) H1) := ⟨fun k => g_iList k⟩
instance i_iTup  : Step (iTup K tl σ H R) (tl σ H fun x H1 => ∃ a, x = .ref a ∧ (∃ xs, SqT K H1 a xs) ∧ R (Itt K a) H1) := ⟨fun k => g_iTup k⟩
instance i_iStr  : Step (iStr tl σ H R) (tl σ H fun x H1 => ∃ z, x = .str z ∧ R (Its z) H1) := ⟨fun k => g_iStr k⟩
instance i_itS {z : Str} : Step (∃ y, V.str z = .str y ∧ R (Its y) H) (R (Its z) H) := ⟨fun k => g_itS k⟩
end
end L2.Pc

namespace L2.Pc
open PySem PySem.Spec PyProof.Rows

/-! ### lists cut and read -/
theorem cutV_to (xs : List V) (k : Nat) : cutV xs none (some (k : Int)) = xs.take k := by
  unfold cutV
  rw [HT.sIx_none, HT.sIx_nat, List.drop_zero, Nat.sub_zero]
  rcases Nat.le_total k xs.length with h | h
  · rw [Nat.min_eq_left h]
  · rw [Nat.min_eq_right h, List.take_of_length_le (Nat.le_refl _), List.take_of_length_le h]
theorem cutV_from (xs : List V) (k : Nat) : cutV xs (some (k : Int)) none = xs.drop k := by
  unfold cutV
  rw [HT.sIx_none, HT.sIx_nat]
  rcases Nat.le_total k xs.length with h | h
  · rw [Nat.min_eq_left h, List.take_of_length_le (by rw [List.length_drop]; exact Nat.le_refl _)]
  · rw [Nat.min_eq_right h, List.drop_eq_nil_of_le (Nat.le_refl _), List.drop_eq_nil_of_le h, List.take_nil]
theorem atI_nat' {α : Type} {xs : List α} {k : Nat} {v : α} (h : xs[k]? = some v) : atI xs (k : Int) = some v := by
  have hk : k < xs.length := (List.getElem?_eq_some_iff.mp h).1
  unfold atI ixN
  rw [if_pos (by omega), if_pos (by omega), Int.toNat_natCast]
  exact h
theorem atI_int {α : Type} {xs : List α} {i : Int} (h0 : 0 ≤ i) (h1 : i < xs.length) : ∃ v, atI xs i = some v ∧ v ∈ xs ∧ xs[i.toNat]? = some v := by
  obtain ⟨k, rfl⟩ : ∃ k : Nat, i = k := ⟨i.toNat, by omega⟩
  have hk : k < xs.length := by omega
  refine ⟨xs[k], atI_nat' (List.getElem?_eq_getElem hk), List.getElem_mem hk, ?_⟩
  rw [Int.toNat_natCast]
  exact List.getElem?_eq_getElem hk
theorem atI_map {α β : Type} (f : α → β) {xs : List α} {i : Int} (h0 : 0 ≤ i) (h1 : i < xs.length) : ∃ v, v ∈ xs ∧ atI (xs.map f) i = some (f v) := by
  obtain ⟨k, rfl⟩ : ∃ k : Nat, i = k := ⟨i.toNat, by omega⟩
  have hk : k < xs.length := by omega
  refine ⟨xs[k], List.getElem_mem hk, atI_nat' ?_⟩
  rw [List.getElem?_map, List.getElem?_eq_getElem hk]; rfl
theorem getD_map {α : Type} (f : α → V) {xs : List α} {i : Nat} (h : i < xs.length) : (xs.map f).getD i .non = f (xs[i]) := by
  rw [List.getD_eq_getElem?_getD, List.getElem?_map, List.getElem?_eq_getElem h]; rfl
theorem getD_cons0 {x : V} {xs : List V} : (x :: xs).getD 0 .non = x := rfl
end L2.Pc

namespace L2.Pc
open PySem PySem.Spec PyProof.Rows

/-! ### the same rules, of a module's K that is named -/
section
variable {X : Cx} {K : PySem.W.Frag} (h : X.K = K)
include h
theorem k_add : OpR X (binaryOp .Add) (rAddM K) := h ▸ op_addM
theorem k_eq (hu : X.A.units + 64 < cLine) : OpR X (compareOp .Eq) (rEqM K) := h ▸ op_eqM hu
theorem k_ne (hu : X.A.units + 64 < cLine) : OpR X (compareOp .NotEq) (rNeM K) := h ▸ op_neM hu
theorem k_in : OpR X (compareOp .In) (rInM K false) := h ▸ op_inM
theorem k_notIn : OpR X (compareOp .NotIn) (rInM K true) := h ▸ op_notInM
theorem k_ix : IxR X (rIxM K) := h ▸ ixM
theorem k_sl : SlR X (rSlM K) := h ▸ slM
theorem k_len : CallR X (.builtin "len") (rLen K) := h ▸ call_lenM
theorem k_join : MtR X "str.join" (rJoin K) := h ▸ mt_joinM
theorem k_isi : CallR X (.builtin "isinstance") (rIsi K) := h ▸ call_isi
theorem k_all (hc : X.calm = true) : CallR X (.builtin "all") (rAll K) := h ▸ cr_all hc
theorem k_any (hc : X.calm = true) : CallR X (.builtin "any") (rAny K) := h ▸ cr_any hc
theorem k_repr (hga : X.A.guards = some []) (hu : X.A.units + 64 < cLine) (M : Sm X.base) : CallR X (.builtin "repr") (rRepr K) := h ▸ call_reprD hga hu M
end
instance i_exS {a : Str} {R : Str → Prop} : Step (∃ z, V.str a = .str z ∧ R z) (R a) := ⟨fun k => ⟨a, rfl, k⟩⟩
instance i_yes {σ : L2.St} {H : Hp} {R : Bool → Hp → Prop} : Step (tYes σ H R) (R true H) := ⟨fun k => k⟩
section
variable {X : Cx}
theorem pe_lcM {elt tg iter : Expr} {ifs : List Expr} {scope : Scope} {own : List (Str × Nat)} {vs : List Nat} {pos : Pos} {wi : TI} {g : TG} {tt : TT} {te : TE} (hv : own.map (·.2) = vs) (hc : X.calm = true) (hN : X.N.Nodup) (hi : PI X tg iter wi) (ok : BlkOk X.N X.env.scope scope own)
    (hg : ∀ (s : Shared) (H : Hp) (C : Addr) (cl : List (Str × Addr)) (fp : List Addr), PG (X.blk s H scope (compEnvC scope cl C X.env) fp) tg g) (ht : ∀ (s : Shared) (H : Hp) (C : Addr) (cl : List (Str × Addr)) (fp : List Addr), PTs (X.blk s H scope (compEnvC scope cl C X.env) fp) ifs tt)
    (he : ∀ (s : Shared) (H : Hp) (C : Addr) (cl : List (Str × Addr)) (fp : List Addr), PE (X.blk s H scope (compEnvC scope cl C X.env) fp) elt te) (hs : ∀ x, foldedSetIterable iter X.env x = pure x := by intro _; rfl) :
    PE X (.ListComp elt [⟨tg, iter, ifs, 0⟩] scope pos) (tLc wi g tt te vs) := hv ▸ pe_lc hc hN hi ok hg ht he hs
theorem ps_setLcM {i : Nat} {y : Str} {py : Pos} {elt tg iter : Expr} {ifs : List Expr} {scope : Scope} {own : List (Str × Nat)} {vs : List Nat} {pos spos : Pos} {wi : TI} {g : TG} {tt : TT} {te : TE} (hv : own.map (·.2) = vs) (hc : X.calm = true) (hN : X.N.Nodup) (hy : X.N[i]? = some y) (hyl : X.env.scope.names.lookup y = some .local)
    (hsw : swapsWith (.ListComp elt [⟨tg, iter, ifs, 0⟩] scope pos) (some (.Name y py)) spos.line X.env = pure true) (hi : PI X tg iter wi) (ok : BlkOk X.N X.env.scope scope own)
    (hg : ∀ (s : Shared) (H : Hp) (C : Addr) (cl : List (Str × Addr)) (fp : List Addr), PG (X.blk s H scope (compEnvC scope cl C X.env) fp) tg g) (ht : ∀ (s : Shared) (H : Hp) (C : Addr) (cl : List (Str × Addr)) (fp : List Addr), PTs (X.blk s H scope (compEnvC scope cl C X.env) fp) ifs tt)
    (he : ∀ (s : Shared) (H : Hp) (C : Addr) (cl : List (Str × Addr)) (fp : List Addr), PE (X.blk s H scope (compEnvC scope cl C X.env) fp) elt te) (hs : ∀ x, foldedSetIterable iter X.env x = pure x := by intro _; rfl) :
    PS X (.Assign [.Name y py] (.ListComp elt [⟨tg, iter, ifs, 0⟩] scope pos) spos) (tAsg (tLc wi g tt te vs) (gName i)) := hv ▸ ps_setLc hc hN hy hyl hsw hi ok hg ht he hs
end
class NoSlot (σ : L2.St) (n : Nat) (τ : outParam L2.St) : Prop where
  set : σ.set n none = τ
instance i_no0 {σ : L2.St} {x : Option V} : NoSlot (x :: σ) 0 (none :: σ) := ⟨rfl⟩
instance i_noS {σ τ : L2.St} {n : Nat} {x : Option V} [h : NoSlot σ n τ] : NoSlot (x :: σ) (n + 1) (x :: τ) := ⟨by rw [List.set_cons_succ, h.set]⟩
class Wip (σ : L2.St) (vs : List Nat) (τ : outParam L2.St) : Prop where
  eq : wipe σ vs = τ
instance i_wip0 {σ : L2.St} : Wip σ [] σ := ⟨rfl⟩
instance i_wipS {σ τ υ : L2.St} {v : Nat} {vs : List Nat} [h : Wip σ vs τ] [k : NoSlot τ v υ] : Wip σ (v :: vs) υ := ⟨by show (wipe σ vs).set v none = υ; rw [h.eq, k.set]⟩
theorem lcW {J : It} {n : Nat} {it : Nat → V} {G : Hp → Prop} {H : Hp} {Q : VK} {σ τ : L2.St} {g : TG} {tt : TT} {te : TE} {vs : List Nat} (S : Src J n it G) [hw : Wip σ vs τ] (Pv : Addr → Nat → List V → Hp → Prop) (h0 : ∀ L, H L = none → Pv L 0 [] (upd H L (.lst [])))
    (hG : ∀ L i acc H', i ≤ n → Pv L i acc H' → G H')
    (hs : ∀ L i acc H', H L = none → i < n → H' L = some (.lst acc) → acc.length ≤ i → Pv L i acc H' →
      g (it i) τ H' fun σ2 H2 => wipe σ2 vs = τ ∧ tt σ2 H2 fun b H3 =>
        if b = true then te σ2 H3 fun y H4 => ∃ a, H4 L = some (.lst a) ∧ a.length < sizeLine ∧ LcN Pv L (i + 1) (upd H4 L (.lst (a ++ [y])))
        else LcN Pv L (i + 1) H3)
    (hd : ∀ L acc H', H L = none → H' L = some (.lst acc) → acc.length ≤ n → Pv L n acc H' → Q (.ref L) H') : LcW J g tt te vs σ Q H := by
  have hw := hw.eq
  subst hw
  exact lcG S Pv h0 hG hs hd
theorem strip_iff (x y : Str) : Txt.stripChars x y = "" ↔ ∀ c ∈ x.cps.toList, c ∈ y.cps.toList := by
  have hc : ∀ c, y.cps.contains c = true ↔ c ∈ y.cps.toList := fun c => by simp
  unfold Txt.stripChars
  rw [PyProof.Rows.stripBy_eq]
  obtain ⟨l1, l2, l3⟩ := lo_facts y.cps.contains x
  obtain ⟨h1, h2, h3, h4⟩ := hi_facts y.cps.contains x _ l1
  generalize stripLo y.cps.contains true x = lo at *
  generalize stripHi y.cps.contains true x lo = hi at *
  have hn : x.length = x.cps.toList.length := by simp [Str.length]
  constructor
  · intro e c hcx
    have e2 : (PySem.Builtin.Str.strSub x lo hi).length = 0 := by rw [e]; rfl
    have e3 : (PySem.Builtin.Str.strSub x lo hi).length = min hi x.length - lo := by
      show (x.cps.extract lo hi).size = _
      simp [Str.length]
    obtain ⟨k, hk, rfl⟩ := List.mem_iff_getElem.mp hcx
    rw [← hc]
    have gk : x.cps.getD k 0 = x.cps.toList[k] := by simp [Array.getD, show k < x.cps.size by simpa using hk]
    rw [← gk]
    rcases Nat.lt_or_ge k lo with q | q
    · exact l2 k q
    · exact h3 k (by omega) (by omega)
  · intro e
    have el : lo = x.length := by
      rcases l3 with q | q
      · exact q
      · rcases Nat.lt_or_ge lo x.cps.toList.length with z | z
        · have gk : x.cps.getD lo 0 = x.cps.toList[lo] := by simp [Array.getD, show lo < x.cps.size by simpa using z]
          rw [gk, (hc _).mpr (e _ (List.getElem_mem z))] at q
          cases q
        · omega
    have eh : hi = x.length := by omega
    rw [el, eh]
    show (⟨x.cps.extract x.cps.size x.cps.size⟩ : Str) = _
    rw [Array.extract_eq_empty_of_le (by simp)]
    rfl
theorem strip_all (x y : Str) : decide (V.str (Txt.stripChars x y) = V.str "") = x.cps.toList.all (fun c => decide (c ∈ y.cps.toList)) := by
  rw [Bool.eq_iff_iff, decide_eq_true_iff, List.all_eq_true]
  constructor
  · intro h c hc
    exact decide_eq_true ((strip_iff x y).mp (V.str.inj h) c hc)
  · intro h
    rw [(strip_iff x y).mpr fun c hc => of_decide_eq_true (h c hc)]
instance z_ixS {K : PySem.W.Frag} {a : Str} {i : Int} {H : Hp} {Q : VK} : StepZ (rIxM K (.str a) (.int i) H Q) (a.length ≤ sizeLine) (∃ n, atI a.cps.toList i = some n ∧ Q (.str ⟨#[n]⟩) H) :=
  ⟨fun hz ⟨n, e, k⟩ => g_ixS hz e k⟩
theorem atS {a : Str} {i : Int} (h0 : 0 ≤ i) (h1 : i < a.length) : ∃ n, atI a.cps.toList i = some n := by
  obtain ⟨n, e, _⟩ := atI_int (xs := a.cps.toList) (i := i) h0 (by simpa [Str.length] using h1)
  exact ⟨n, e⟩
theorem one_len (n : Nat) : (⟨#[n]⟩ : Str).length = 1 := rfl
theorem join_ones (l : List Str) (h : ∀ a ∈ l, a.length = 1) : (Txt.join "" l).length = l.length := PySem.W.KT.join_ones l h
theorem lc_put {Pv : Addr → Nat → List V → Hp → Prop} {L : Addr} {i : Nat} {acc : List V} {y : V} {H4 : Hp} (hl : acc.length ≤ i) (hi : i < 16777216)
    (p : Pv L (i + 1) (acc ++ [y]) (upd H4 L (.lst (acc ++ [y])))) : acc.length < sizeLine ∧ LcN Pv L (i + 1) (upd H4 L (.lst (acc ++ [y]))) :=
  ⟨by rw [szl]; omega, acc ++ [y], upd_same, by rw [List.length_append, List.length_singleton]; omega, p⟩
theorem lc_end {Pv : Addr → Nat → List V → Hp → Prop} {L : Addr} {i : Nat} {acc : List V} {y : V} {H4 : Hp} (hl : acc.length ≤ i)
    (p : Pv L (i + 1) (acc ++ [y]) (upd H4 L (.lst (acc ++ [y])))) : LcN Pv L (i + 1) (upd H4 L (.lst (acc ++ [y]))) :=
  ⟨acc ++ [y], upd_same, by rw [List.length_append, List.length_singleton]; omega, p⟩
theorem reprB {K : PySem.W.Frag} {b : Bool} {H : Hp} {Q : VK} (k : Q (.str (PyData.bool b).shown) H) : rRepr K [.bl b] H Q :=
  g_repr (.bl b) (by simp [PyData.showable]) (by simp [PyData.depth]) (by rw [szl]; simp only [PyData.shown]; cases b <;> decide) k
instance i_reprB {K : PySem.W.Frag} {b : Bool} {H : Hp} {Q : VK} : Step (rRepr K [.bl b] H Q) (Q (.str (PyData.bool b).shown) H) := ⟨fun k => reprB k⟩
instance (priority := 2000) i_neSame {K : PySem.W.Frag} {a : Str} {H : Hp} {Q : VK} : Step (rNeM K (.str a) (.str a) H Q) (Q (.bl false) H) := ⟨fun k => g_ne rfl (by simpa using k)⟩
theorem take_map1 {α β : Type} (f : α → β) {xs : List α} {i : Nat} (h : i < xs.length) : (xs.take (i + 1)).map f = (xs.take i).map f ++ [f xs[i]] := by
  rw [List.take_add_one, List.getElem?_eq_getElem h, List.map_append]
  rfl
theorem Mx.atL {H H' : Hp} {a : Addr} {xs : List V} (e : Mx H H') (h : H a = some (.lst xs)) : H' a = some (.lst xs) := e a _ h rfl
theorem Mx.atT {H H' : Hp} {a : Addr} {xs : List V} (e : Mx H H') (h : H a = some (.tup xs)) : H' a = some (.tup xs) := e a _ h rfl
theorem Mx.atD {H H' : Hp} {a : Addr} {xs : List (Key × V)} (e : Mx H H') (h : H a = some (.dK xs)) : H' a = some (.dK xs) := e a _ h rfl
/-! ### a law's draws -/
structure PotOk (n : Nat) (a b c : Int) : Prop where
  a0 : 0 ≤ a
  b0 : 0 ≤ b
  b1 : b < 2305843009213693952
  c0 : 0 ≤ c
  c1 : c ≤ n
theorem cmn {i j : Int} (h1 : 0 ≤ i) (h2 : i < 2 ^ 200) (h3 : 0 ≤ j) (h4 : j < 2 ^ 200) : CMulW i j :=
  wide_mul (a := 200) (b := 200) (by omega) (by omega) (by decide) (by decide) (by decide)
theorem mulB {i j A B : Int} (h1 : 0 ≤ i) (h2 : i < A) (h3 : 0 ≤ j) (h4 : j < B) : 0 ≤ i * j ∧ i * j < A * B :=
  ⟨Int.mul_nonneg h1 h3, Int.lt_of_le_of_lt (Int.mul_le_mul_of_nonneg_left (Int.le_of_lt h4) h1) (Int.mul_lt_mul_of_pos_right h2 (by omega))⟩
def R_draw0 : V → V → Hp → VK → Prop := fun x y H Q => ∃ (p : Addr) (k a b c : Int) (n : Nat), x = .ref p ∧ y = .int k ∧
  H p = some (.lst [.int a, .int b, .int c]) ∧ PotOk n a b c ∧ 1 ≤ k ∧ k < 1073741824 ∧ n ≤ 1000000000 ∧
  ∀ r a' b' c' : Int, 0 ≤ r → r < k → PotOk (n + 1) a' b' c' → Q (.int r) (upd H p (.lst [.int a', .int b', .int c']))
def PotR (n : Nat) : HO → Prop := fun u => ∃ a b c : Int, u = .lst [.int a, .int b, .int c] ∧ PotOk n a b c
abbrev PotO (P : Program) (w : World) (n : Nat) (z : Addr) : HO := AbsO P w (PotR n) z
def R_draw (P : Program) (w : World) : V → V → Hp → VK → Prop := fun x y H Q => ∃ (p : Addr) (k : Int) (n : Nat), x = .ref p ∧ y = .int k ∧
  H p = some (PotO P w n p) ∧ 1 ≤ k ∧ k < 1073741824 ∧ n ≤ 1000000000 ∧
  ∀ (r : Int) (H' : Hp), 0 ≤ r → r < k → Mx H H' → H' p = some (PotO P w (n + 1) p) → Q (.int r) H'
theorem g_draw {P : Program} {w : World} {p : Addr} {k : Int} {n : Nat} {H : Hp} {Q : VK} (hp : H p = some (PotO P w n p)) (k1 : 1 ≤ k) (k2 : k < 1073741824) (hn : n ≤ 1000000000)
    (q : ∀ (r : Int) (H' : Hp), 0 ≤ r → r < k → Mx H H' → H' p = some (PotO P w (n + 1) p) → Q (.int r) H') : R_draw P w (.ref p) (.int k) H Q :=
  ⟨p, k, n, rfl, rfl, hp, k1, k2, hn, q⟩
def R_begin0 (K : PySem.W.Frag) : V → V → Hp → VK → Prop := fun x y H Q => ∃ (s : Addr) (ns : List Int) (k : Nat), x = .ref s ∧ y = .int k ∧
  SqL K H s (ns.map V.int) ∧ k ≤ 1000 ∧ ns.length ≤ 1000 ∧
  ∀ (p : Addr) (H' : Hp) (a b : Int), H p = none → Same H H' → H' p = some (.lst [.int a, .int b, .int 0]) → PotOk 0 a b 0 → Q (.ref p) H'
def R_begin (P : Program) (w : World) (K : PySem.W.Frag) : V → V → Hp → VK → Prop := fun x y H Q => ∃ (s : Addr) (ns : List Int) (k : Nat), x = .ref s ∧ y = .int k ∧
  SqL K H s (ns.map V.int) ∧ k ≤ 1000 ∧ ns.length ≤ 1000 ∧
  ∀ (p : Addr) (H' : Hp), H p = none → Same H H' → H' p = some (PotO P w 0 p) → Q (.ref p) H'
theorem g_begin {P : Program} {w : World} {K : PySem.W.Frag} {s : Addr} {ns : List Int} {k : Nat} {H : Hp} {Q : VK} (hS : SqL K H s (ns.map V.int)) (hk : k ≤ 1000) (hn : ns.length ≤ 1000)
    (q : ∀ (p : Addr) (H' : Hp), H p = none → Same H H' → H' p = some (PotO P w 0 p) → Q (.ref p) H') : R_begin P w K (.ref s) (.int k) H Q :=
  ⟨s, ns, k, rfl, rfl, hS, hk, hn, q⟩
/-- a text that is no longer than a text may be -/
def smallD : PyData → Prop
  | .str s => s.length ≤ 16777216
  | _ => True
/-! ### texts of signs that repr shows -/
def Asc (z : Str) : Prop := ∀ c ∈ z.cps.toList, c < 16 ^ 8
theorem asc_app {a b : Str} (h1 : Asc a) (h2 : Asc b) : Asc (a ++ b) := by
  intro c hc
  rw [show (a ++ b).cps.toList = a.cps.toList ++ b.cps.toList from Array.toList_append] at hc
  rcases List.mem_append.mp hc with h | h
  · exact h1 c h
  · exact h2 c h
theorem chr_lt (c : Char) : c.toNat < 16 ^ 8 := c.val.toNat_lt
theorem asc_of (s : String) : Asc (Str.ofString s) := by
  intro c hc
  rw [Str.ofString_eq_toList] at hc
  have hc : c ∈ (s.toList.map Char.toNat).toArray.toList := hc
  rw [List.toList_toArray] at hc
  obtain ⟨d, _, rfl⟩ := List.mem_map.mp hc
  exact chr_lt d
theorem reprChar_lt {q c : Nat} (hq : q < 16 ^ 8) (hc : c < 16 ^ 8) : ∀ d ∈ PySem.Builtin.Str.reprChar q c, d < 16 ^ 8 := by
  have hh : ∀ w, ∀ d ∈ List.replicate (w - ((Nat.toDigits 16 c).map Char.toNat).length) 48 ++ (Nat.toDigits 16 c).map Char.toNat, d < 16 ^ 8 := by
    intro w d hd
    rcases List.mem_append.mp hd with h | h
    · rw [List.eq_of_mem_replicate h]; decide
    · obtain ⟨e, _, rfl⟩ := List.mem_map.mp h
      exact chr_lt e
  have two : ∀ a b : Nat, a < 16 ^ 8 → b < 16 ^ 8 → ∀ d ∈ [a, b], d < 16 ^ 8 := by
    intro a b ha hb d hd
    rcases List.mem_cons.mp hd with h | h
    · rw [h]; exact ha
    · rw [List.mem_singleton.mp h]; exact hb
  have cat : ∀ (l m : List Nat), (∀ d ∈ l, d < 16 ^ 8) → (∀ d ∈ m, d < 16 ^ 8) → ∀ d ∈ l ++ m, d < 16 ^ 8 := fun l m h1 h2 d hd => (List.mem_append.mp hd).elim (h1 d) (h2 d)
  unfold PySem.Builtin.Str.reprChar
  dsimp only
  repeat' split
  · exact two _ _ (by decide) hc
  · exact two _ _ (by decide) (by decide)
  · exact two _ _ (by decide) (by decide)
  · exact two _ _ (by decide) (by decide)
  · intro d hd; rw [List.mem_singleton.mp hd]; exact hc
  · exact cat _ _ (two _ _ (by decide) (by decide)) (hh 2)
  · exact cat _ _ (two _ _ (by decide) (by decide)) (hh 4)
  · exact cat _ _ (two _ _ (by decide) (by decide)) (hh 8)
theorem foldl_repr_lt {q : Nat} (hq : q < 16 ^ 8) : ∀ (l : List Nat) (acc : Array Nat), (∀ d ∈ acc.toList, d < 16 ^ 8) → (∀ c ∈ l, c < 16 ^ 8) →
    ∀ d ∈ (l.foldl (fun out c => out ++ (PySem.Builtin.Str.reprChar q c).toArray) acc).toList, d < 16 ^ 8
  | [], acc, h, _ => h
  | c :: r, acc, h, k => by
    refine foldl_repr_lt hq r _ (fun d hd => ?_) (fun c hc => k c (List.mem_cons_of_mem _ hc))
    rw [Array.toList_append] at hd
    rcases List.mem_append.mp hd with z | z
    · exact h d z
    · exact reprChar_lt hq (k c List.mem_cons_self) d z
theorem asc_repr {x : Str} (h : Asc x) : Asc (PyData.str x).shown := by
  simp only [PyData.shown]
  unfold reprText
  have hq : reprQuote x < 16 ^ 8 := by unfold reprQuote; split <;> decide
  intro d hd
  have hd : d ∈ ((x.cps.foldl (fun out c => out ++ (PySem.Builtin.Str.reprChar (reprQuote x) c).toArray) #[reprQuote x]).push (reprQuote x)).toList := hd
  rw [Array.toList_push, ← Array.foldl_toList] at hd
  rcases List.mem_append.mp hd with z | z
  · exact foldl_repr_lt hq _ _ (fun d hd => by rw [List.mem_singleton.mp hd]; exact hq) h d z
  · rw [List.mem_singleton.mp z]; exact hq
/-! ### things of any kind -/
structure GoodD (k : Nat) (d : PyData) : Prop where
  sh : d.showable = true
  dp : d.depth ≤ k
  ln : d.shown.length ≤ 50000 + 4 * k
  sm : smallD d
  as : Asc d.shown
theorem GoodD.mono {k j : Nat} {d : PyData} (g : GoodD k d) (h : k ≤ j) : GoodD j d := ⟨g.sh, Nat.le_trans g.dp h, by have := g.ln; omega, g.sm, g.as⟩
theorem good_tup1 {k : Nat} {d : PyData} (g : GoodD k d) : GoodD (k + 1) (.tuple [d]) := by
  obtain ⟨h1, h2, h3, h4, h5⟩ := g
  refine ⟨by simp [PyData.showable, PyData.showableAll, h1], by simp [PyData.depth, PyData.depthAll]; omega, ?_, True.intro, by
    simp only [PyData.shown, PyData.shownAll]
    show Asc (("(" : Str) ++ d.shown ++ (",)" : Str))
    exact asc_app (asc_app (asc_of _) h5) (asc_of _)⟩
  have : (PyData.tuple [d]).shown.length = d.shown.length + 3 := by
    simp only [PyData.shown, PyData.shownAll]
    show (("(" : Str) ++ d.shown ++ (",)" : Str)).length = d.shown.length + 3
    rw [strLen_append, strLen_append, show ("(" : Str).length = 1 from rfl, show (",)" : Str).length = 2 from rfl]
    omega
  omega
theorem good_lst1 {k : Nat} {d : PyData} (g : GoodD k d) : GoodD (k + 1) (.list [d]) := by
  obtain ⟨h1, h2, h3, h4, h5⟩ := g
  refine ⟨by simp [PyData.showable, PyData.showableAll, h1], by simp [PyData.depth, PyData.depthAll]; omega, ?_, True.intro, by
    simp only [PyData.shown, PyData.shownAll]
    show Asc (("[" : Str) ++ ("" : Str) ++ d.shown ++ ("]" : Str))
    exact asc_app (asc_app (asc_app (asc_of _) (asc_of _)) h5) (asc_of _)⟩
  have : (PyData.list [d]).shown.length = d.shown.length + 2 := by
    simp only [PyData.shown, PyData.shownAll]
    show (("[" : Str) ++ ("" : Str) ++ d.shown ++ ("]" : Str)).length = d.shown.length + 2
    rw [strLen_append, strLen_append, strLen_append, show ("[" : Str).length = 1 from rfl, show ("" : Str).length = 0 from rfl, show ("]" : Str).length = 1 from rfl]
    omega
  omega
theorem good_small {d : PyData} (h1 : d.showable = true) (h2 : d.depth ≤ 0) (h3 : d.shown.length ≤ 50000) (h4 : smallD d) (h5 : Asc d.shown) : GoodD 0 d := ⟨h1, h2, by omega, h4, h5⟩
theorem good_non : GoodD 0 .none := ⟨by simp [PyData.showable], by simp [PyData.depth], by simp only [PyData.shown]; decide, True.intro, by simp only [PyData.shown]; exact asc_of _⟩
theorem good_bl (b : Bool) : GoodD 0 (.bool b) := ⟨by simp [PyData.showable], by simp [PyData.depth], by simp only [PyData.shown]; cases b <;> decide, True.intro, by simp only [PyData.shown]; cases b <;> exact asc_of _⟩
theorem good_int {i : Int} (h : i.natAbs.log2 < 1900) : GoodD 0 (.int i) := by
  refine ⟨by simp [PyData.showable]; omega, by simp [PyData.depth], ?_, True.intro, by simp only [PyData.shown]; exact asc_of _⟩
  have := int_text_length_le (k := 1900) (by decide) h
  simp only [PyData.shown]
  rw [PySem.ofString_length]
  omega
theorem good_str {x : Str} (hx : ∀ c ∈ x.cps.toList, c < 16 ^ 8) (hl : x.length ≤ 4990) : GoodD 0 (.str x) := by
  have := StrLaws.reprText_len x hx
  refine ⟨by simp [PyData.showable], by simp [PyData.depth], ?_, show x.length ≤ 16777216 by omega, asc_repr hx⟩
  simp only [PyData.shown]
  omega
theorem good_nilT : GoodD 1 (.tuple []) := ⟨by simp [PyData.showable, PyData.showableAll], by simp [PyData.depth, PyData.depthAll], by simp only [PyData.shown, PyData.shownAll]; decide, True.intro, by simp only [PyData.shown, PyData.shownAll]; unfold Asc; decide +kernel⟩
theorem good_nilL : GoodD 1 (.list []) := ⟨by simp [PyData.showable, PyData.showableAll], by simp [PyData.depth, PyData.depthAll], by simp only [PyData.shown, PyData.shownAll]; decide, True.intro, by simp only [PyData.shown, PyData.shownAll]; unfold Asc; decide +kernel⟩
theorem good_nilM : GoodD 1 (.dict []) := ⟨by simp [PyData.showable, PyData.showableKv], by simp [PyData.depth, PyData.depthKv], by simp only [PyData.shown, PyData.shownKv]; decide, True.intro, by simp only [PyData.shown, PyData.shownKv]; unfold Asc; decide +kernel⟩
theorem foldl_rep (c : Nat) : ∀ (n : Nat) (acc : Array Nat), ((List.replicate n #[c]).foldl (· ++ ·) acc).toList = acc.toList ++ List.replicate n c
  | 0, acc => by simp
  | n + 1, acc => by
    rw [List.replicate_succ, List.foldl_cons, foldl_rep c n]
    simp [List.replicate_succ]
theorem mul9_cps : (Txt.mul "9" 4301).cps.toList = List.replicate 4301 57 := by
  have e : Txt.mul "9" 4301 = ⟨(List.replicate 4301 #[57]).foldl (· ++ ·) #[]⟩ := rfl
  rw [e]
  exact foldl_rep 57 4301 #[]
theorem mul9_len : (Txt.mul "9" 4301).length = 4301 := by
  show (Txt.mul "9" 4301).cps.size = 4301
  rw [← Array.length_toList, mul9_cps, List.length_replicate]
theorem good_mul9 : GoodD 0 (.str (Txt.mul "9" 4301)) := by
  refine good_str (fun c hc => ?_) (by rw [mul9_len]; decide)
  rw [mul9_cps] at hc
  rw [List.eq_of_mem_replicate hc]
  decide
theorem mul9 : MulOk "9" 4301 := ⟨by decide, fun _ _ => by decide, fun _ _ => by decide⟩

/-! ### what the top has left -/
theorem kt_mk {K : PySem.W.Frag} {a : Addr} {od : Option Addr} {its : Array Value} {n : Nat} {sl : Array (Option Value)} {xs : List V}
    (h : K.lookup a = some ⟨.type "tuple", od, .seq its n, sl⟩) (hz : its.size ≤ sizeLine) (hv : Vals xs its.toList) : Kt K a xs := ⟨_, its, n, h, rfl, rfl, hz, hv⟩
theorem df_mk {K : PySem.W.Frag} {x qual : Str} {st : Stmt} {f : Addr} {oc : Value} {od : Option Addr} {dV kV doc pm : Value} {an : Option Addr} {cdv ct : Value} {sl : Array (Option Value)}
    (l : K.lookup f = some ⟨oc, od, .func (PySem.W.fnOf x qual (defArgs st) (defBody st) (defScope st) dV kV doc pm an cdv ct), sl⟩) (c : PySem.W.codeIn K cdv qual = true) :
    Df K x qual st f (PySem.W.fnOf x qual (defArgs st) (defBody st) (defScope st) dV kV doc pm an cdv ct) := ⟨oc, od, dV, kV, doc, pm, an, cdv, ct, sl, rfl, l, c⟩
theorem Df.pos {K : PySem.W.Frag} {x qual : Str} {st : Stmt} {f : Addr} {fd : FuncData} {ps : List Str} {n : Nat} (F : Df K x qual st f fd)
    (h : ∀ (dV kV doc pm : Value) (an : Option Addr) (cdv ct : Value) (us : List Value), us.length = n →
      bindArgs (PySem.W.fnOf x qual (defArgs st) (defBody st) (defScope st) dV kV doc pm an cdv ct) ⟨us, []⟩ = pure (ps.zip us)) :
    ∀ us : List Value, us.length = n → bindArgs fd ⟨us, []⟩ = pure (ps.zip us) := by
  obtain ⟨oc, od, dV, kV, doc, pm, an, cdv, ct, sl, rfl, _, _⟩ := F.ex
  exact h dV kV doc pm an cdv ct
theorem kn_mk {P : Program} {w : World} {K : PySem.W.Frag} {h base : Heap} {mg : Str → Option Value} {CX : CXT} {k n : Nat} {f : Addr} {fd : FuncData} {ps : List Str} {sp : Sp} {x : Str}
    (ok : FnG P w K mg base CX k f fd ps sp) (g : mg x = some (.ref f)) (kp : PySem.W.keepIn K (.ref f) = true)
    (hb : ∀ us : List Value, us.length = n → bindArgs fd ⟨us, []⟩ = pure (ps.zip us)) : Kn P w K mg base CX x k n [] (fun vs _ => vs) sp := ⟨f, fd, ps, _, ok, g, kp, kb_pos hb⟩

/-! ### names -/
abbrev lettersT : Str := "abcdefghijklmnopqrstuvwxyz"
def keptT : List Str := ["pin", "again", "move", "take", "tear", "at", "to", "until", "strips", "known"]
def keptV : List V := keptT.map V.str
theorem keptV_flat : keptV.all flatV = true := by decide +kernel
def isNameS (s : Str) : Bool := decide (1 ≤ (s.length : Int)) && decide ((s.length : Int) ≤ 8) && decide (V.str (Txt.stripChars s lettersT) = V.str "") && !inV (.str s) keptV
def isNameB : PyData → Bool
  | .str s => isNameS s
  | _ => false
def R_is_name (K : PySem.W.Frag) : V → Hp → VK → Prop := fun x H Q => ∃ d, Da K H x d ∧ smallD d ∧ Q (.bl (isNameB d)) H
end L2.Pc

namespace L2.Pc
open PySem PySem.Spec PyProof.Rows

/-! ### promises that tell of exceptions too -/
def SpX1 (R : V → Hp → VK → XK → Prop) : Sp := fun vs H Q E => ∃ x, vs = [x] ∧ R x H Q E
def SpX2 (R : V → V → Hp → VK → XK → Prop) : Sp := fun vs H Q E => ∃ x y, vs = [x, y] ∧ R x y H Q E
def SpX3 (R : V → V → V → Hp → VK → XK → Prop) : Sp := fun vs H Q E => ∃ x y z, vs = [x, y, z] ∧ R x y z H Q E
def SpX4 (R : V → V → V → V → Hp → VK → XK → Prop) : Sp := fun vs H Q E => ∃ x y z u, vs = [x, y, z, u] ∧ R x y z u H Q E
def SpX5 (R : V → V → V → V → V → Hp → VK → XK → Prop) : Sp := fun vs H Q E => ∃ x y z u t, vs = [x, y, z, u, t] ∧ R x y z u t H Q E
def SpX6 (R : V → V → V → V → V → V → Hp → VK → XK → Prop) : Sp := fun vs H Q E => ∃ x y z u t r, vs = [x, y, z, u, t, r] ∧ R x y z u t r H Q E
section
variable {vs : List V} {H : Hp} {Q : VK} {E : XK} {x y z u t r : V}
theorem SpX1.len {R : V → Hp → VK → XK → Prop} (h : SpX1 R vs H Q E) : vs.length = 1 := by obtain ⟨x, rfl, _⟩ := h; rfl
theorem SpX2.len {R : V → V → Hp → VK → XK → Prop} (h : SpX2 R vs H Q E) : vs.length = 2 := by obtain ⟨x, y, rfl, _⟩ := h; rfl
theorem SpX3.len {R : V → V → V → Hp → VK → XK → Prop} (h : SpX3 R vs H Q E) : vs.length = 3 := by obtain ⟨x, y, z, rfl, _⟩ := h; rfl
theorem SpX4.len {R : V → V → V → V → Hp → VK → XK → Prop} (h : SpX4 R vs H Q E) : vs.length = 4 := by obtain ⟨x, y, z, u, rfl, _⟩ := h; rfl
theorem SpX5.len {R : V → V → V → V → V → Hp → VK → XK → Prop} (h : SpX5 R vs H Q E) : vs.length = 5 := by obtain ⟨x, y, z, u, t, rfl, _⟩ := h; rfl
theorem SpX6.len {R : V → V → V → V → V → V → Hp → VK → XK → Prop} (h : SpX6 R vs H Q E) : vs.length = 6 := by obtain ⟨x, y, z, u, t, r, rfl, _⟩ := h; rfl
instance i_callX1 {R : V → Hp → VK → XK → Prop} : Step ([x].length = 1 ∧ ([] : List V).length = 0 ∧ SpX1 R [x] H Q E) (R x H Q E) := ⟨fun k => ⟨rfl, rfl, x, rfl, k⟩⟩
instance i_callX2 {R : V → V → Hp → VK → XK → Prop} : Step ([x, y].length = 2 ∧ ([] : List V).length = 0 ∧ SpX2 R [x, y] H Q E) (R x y H Q E) := ⟨fun k => ⟨rfl, rfl, x, y, rfl, k⟩⟩
instance i_callX3 {R : V → V → V → Hp → VK → XK → Prop} : Step ([x, y, z].length = 3 ∧ ([] : List V).length = 0 ∧ SpX3 R [x, y, z] H Q E) (R x y z H Q E) := ⟨fun k => ⟨rfl, rfl, x, y, z, rfl, k⟩⟩
instance i_callX4 {R : V → V → V → V → Hp → VK → XK → Prop} : Step ([x, y, z, u].length = 4 ∧ ([] : List V).length = 0 ∧ SpX4 R [x, y, z, u] H Q E) (R x y z u H Q E) := ⟨fun k => ⟨rfl, rfl, x, y, z, u, rfl, k⟩⟩
end

/-! ### calls of defs that may raise -/
section
variable {X : Cx} {CX : CXT} {k n : Nat} {ks : List Str} {gV : List V → List V → List V} {sp : Sp} {E : L2.St → XK} {x : Str}
  {p pos : Pos} {e : Expr} {es : List Expr} {kws : List Keyword} {t tk : TA}
def tKnS (n m : Nat) (gV : List V → List V → List V) (sp : Sp) (E : L2.St → XK) (t tk : TA) : TE := fun σ H Q =>
  t σ H fun vs H1 => tk σ H1 fun zs H2 => vs.length = n ∧ zs.length = m ∧ sp (gV vs zs) H2 Q (E σ)
instance i_knS {σ : L2.St} {H : Hp} {Q : VK} {m : Nat} {ts tk : TA} : Step (tKnS n m gV sp E ts tk σ H Q) (ts σ H fun vs H1 => tk σ H1 fun zs H2 => vs.length = n ∧ zs.length = m ∧ sp (gV vs zs) H2 Q (E σ)) := ⟨fun k => k⟩
theorem runGS {pins : List (Addr × Obj)} {σ : L2.St} {H : Hp} {s : Shared} {Q : VK} {us ws : List Value} {vs zs : List V}
    {f : Addr} {fd : FuncData} {ps : List Str} {g : List Value → List Value → List Value}
    (F : FnG X.prog X.w X.K X.mg X.base CX k f fd ps sp) (hga : X.A.guards = some []) (hr : Room k X.A)
    (hb : KBn X.K fd ps n ks g gV) (hx : ∀ σ, PassesAt CX X σ (E σ)) (I : Inv X pins σ H s) (r : Vals vs us) (rz : Vals zs ws)
    (hn : vs.length = n) (hm : zs.length = ks.length) (h : sp (gV vs zs) H Q (E σ)) :
    wpAny (model X.prog X.w) X.A (call (.ref f) us (ks.zip ws)) (EP X pins σ Q) X.xe s := by
  have hu : us.length = n := by rw [← r.length]; exact hn
  have hw : ws.length = ks.length := by rw [← rz.length]; exact hm
  apply wpAny_call
  refine codeAny_mono (F.go X.A X.stack s H _ (g us ws) (gV vs zs) Q (E σ) hga hr I.env0
    (hb.to s us ws I.kIn hu hw) (hb.rel r rz) h) ?_
  intro res s' hq
  cases res with
  | error er => exact hx σ pins H s er s' I hq
  | ok fl =>
    cases fl with
    | ret u => exact I.after hq
    | next => exact hq.elim
    | brk => exact hq.elim
    | cont => exact hq.elim
theorem pe_knS (F : Kn X.prog X.w X.K X.mg X.base CX x k n [] gV sp) (hga : X.A.guards = some []) (hr : Room k X.A)
    (hg : Gl X x) (hx : ∀ σ, PassesAt CX X σ (E σ)) (ha : PA X (e :: es) t)
    (hdb : (x == ("__debug__" : Str)) = false := by decide)
    (he : starEach (e :: es) X.env = (false, eval e X.env) :: starEach es X.env := by rfl)
    (hpl : (backTo pos (starEach es X.env)).any (·.1) = false := by rfl) :
    PE X (.Call (.Name x p) (e :: es) [] pos) (tKnS n 0 gV sp E t tNil) := by
  obtain ⟨f, fd, ps, g, G, hm, hk, hb⟩ := F.ex
  refine ⟨fun pins s σ H Q I h => wpAny_Call_Name_kw (ld_glob I hg hm ?_ hdb)⟩
  apply PySem.W.callWith_K (h₀ := X.base) I.ok.mod.kin hk ?_ he hpl
  refine thn (ha.run pos pins s σ H _ I h) ?_
  rintro us s1 ⟨vs, H1, I1, r, q1, q2, q⟩
  exact ⟨I1.kIn, runGS (ws := []) (zs := []) G hga hr hb hx I1 r .nil q1 q2 q⟩
end

/-! ### an own exception class with its own __init__ -/
/-- the class x stands at C, its __init__ at fI; fs: the fields -/
structure XcK (K : PySem.W.Frag) (mg : Str → Option Value) (x : Str) (C fI : Addr) (fs : List Str) : Prop where
  g : mg x = some (.ref C)
  oe : OexC K C
  xf : XfC K C
  iC : PySem.W.findIn K (.ref C) "__init__" = some (some (.ref fI))
  tI : PySem.W.typeIn K (.ref fI) = some (.type "function")
  no : ∀ f ∈ fs, PySem.W.findIn K (.ref C) f = some none
  me : PySem.W.exmOne K (.ref C) (.ref C) = some true
/-- the base class x, without own __init__ -/
structure XbK (K : PySem.W.Frag) (mg : Str → Option Value) (x : Str) (C : Addr) : Prop where
  g : mg x = some (.ref C)
  sp : PySem.W.specialIn K (.ref C) "__getattribute__" = some (some (.builtin "type.__getattribute__"))
  ty : PySem.W.typeIn K (.ref C) = some (.type "type")
  rd : PySem.W.readsIn K C (.type "type") = true
  fi : PySem.W.findCls K (.ref C) (.type "type") "__init__" = some (.val (.builtin "ValueError.__init__"))
section
variable {X : Cx} {o e : Expr} {es : List Expr} {to te : TE} {ta : TA} {f x : Str} {p p' p1 p2 pos : Pos} {C : Addr} {K : PySem.W.Frag}
/-- C.__init__(self, ..), C without own __init__ -/
theorem pe_cinit {pl : Sem Bool} (hK : X.K = K) (B : XbK K X.mg x C) (hg : Gl X x) (ha : PA X (e :: es) ta)
    (hc : eval (.Call (.Attribute (.Name x p1) "__init__" p2) (e :: es) [] pos) X.env = (do
      let ov ← eval (.Name x p1) X.env
      standAt p2.atName
      let (f, first) ← holding [ov] (getMethod ov "__init__" pl)
      callWith pos f first (backTo pos (starEach (e :: es) X.env)) (backToKw pos (keywordEach [] X.env))) := by rfl)
    (he : starEach (e :: es) X.env = (false, eval e X.env) :: starEach es X.env := by rfl) (hpl : (backTo pos (starEach es X.env)).any (·.1) = false := by rfl)
    (hdb : (x == ("__debug__" : Str)) = false := by decide) :
    PE X (.Call (.Attribute (.Name x p1) "__init__" p2) (e :: es) [] pos) (tVeI K ta) := by
  subst hK
  refine ⟨fun pins s σ H Q I h => ?_⟩
  refine PySem.W.methodCall_KW (ld_glob I hg B.g ?_ hdb) hc
  obtain ⟨m, fr⟩ := I.fr
  refine PySem.W.method_of_cls fr I.ok.mod.kin B.sp (PySem.W.cls_val fr I.ok.mod.kin B.ty B.rd B.fi (by rfl) ?_)
  show wpAny _ _ (callWith pos (Value.builtin "ValueError.__init__") [] (backTo pos (starEach (e :: es) X.env)) []) _ _ _
  refine PyProof.Rows.callWith_method1 (thn (ha.run pos pins _ σ H _ (I.tok _) h) fun us s1 ⟨vs, H1, I1, r1, a, C, ws, ev, hl, T, ea, q⟩ => ?_) he hpl
  subst ev
  cases r1 with
  | @cons _ u0 _ ur ra rw' =>
    obtain rfl : u0 = Value.ref a := ra
    have hlen : ur.length ≤ sizeLine := by
      rw [← Paired.length rw', sizeLine_eq]
      omega
    exact oinit_ok T I1 ea hlen fun s' J => ⟨.non, H1, J, rfl, q⟩
/-- C(e, ..) raised, C's own __init__ keeping sp -/
theorem pmk_oexG {fI : Addr} {fs : List Str} {k : Nat} {fd : FuncData} {ps : List Str} {sp : Sp} (T : XcK X.K X.mg x C fI fs)
    (F1 : FnG X.prog X.w X.K X.mg X.base CX0 k fI fd ps sp) (hga : X.A.guards = some []) (hr : Room (k + 1) X.A)
    (hb : ∀ us : List Value, us.length = ps.length → bindArgs fd ⟨us, []⟩ = pure (ps.zip us)) (hg : Gl X x) (ha : PA X (e :: es) ta)
    (hdb : (x == ("__debug__" : Str)) = false := by decide) (he : starEach (e :: es) X.env = (false, eval e X.env) :: starEach es X.env := by rfl) (hpl : (backTo pos (starEach es X.env)).any (·.1) = false := by rfl) :
    PMk X (.Call (.Name x p) (e :: es) [] pos) (tMkO C sp [] ta) := by
  intro pins s σ H Q I h
  obtain ⟨nm, q, N, bs, bm, sn, sub, ab, col, dd, k0, k1, k2, k3, k5, hC, hbm⟩ := T.oe.cls
  refine wpAny_Call_Name_kw (ld_glob I hg T.g ?_ hdb)
  refine PySem.W.callWith_K (h₀ := X.base) I.ok.mod.kin T.oe.kC (thn (ha.run pos pins s σ H _ I h) fun us s1 ⟨vs, H1, I1, r1, hz, q1⟩ => ⟨I1.kIn, ?_⟩) he hpl
  show wpAny _ _ (call (.ref C) us) _ _ _
  obtain ⟨hp, g, dr, tk, os⟩ := s1
  have hsz : hp.objs.size ≤ hp.objs.size + 1 := Nat.le_succ _
  have hn : H1 (hp.objs.size + 1) = none := I1.hok.fresh hsz
  have hq := q1 (hp.objs.size + 1) hn
  rw [List.append_nil] at hq
  have kk : ∀ b o, hp.get? b = some o → ((hp.push (PySem.W.kdv_tup us)).push (PySem.HandSPX.excO C hp.objs.size)).get? b = some o := fun b o e => Heap.get?_push_of_some _ (Heap.get?_push_of_some _ e)
  have hget : ((hp.push (PySem.W.kdv_tup us)).push (PySem.HandSPX.excO C hp.objs.size)).get? (hp.objs.size + 1) = some (PySem.HandSPX.excO C hp.objs.size) := by heap_get
  have I2 : Inv X pins σ (upd H1 (hp.objs.size + 1) (exo (hp.objs.size + 1) C none)) ⟨(hp.push (PySem.W.kdv_tup us)).push (PySem.HandSPX.excO C hp.objs.size), g, dr, tk, os⟩ :=
    I1.laid (t' := tk) (a := hp.objs.size + 1) (o := exo (hp.objs.size + 1) C none) (h' := (hp.push (PySem.W.kdv_tup us)).push (PySem.HandSPX.excO C hp.objs.size)) kk hsz (exo_ok hget)
  have r2 : Vals (V.ref (hp.objs.size + 1) :: vs) (Value.ref (hp.objs.size + 1) :: us) := .cons rfl r1
  have hl : (Value.ref (hp.objs.size + 1) :: us).length = ps.length := by
    have e := r2.length
    rw [F1.len _ _ _ _ hq] at e
    exact e.symm
  have hus : us.length ≤ sizeLine := by
    rw [← Paired.length r1, sizeLine_eq]
    omega
  refine wpAny_call (PySem.HandSPX.call_own F.excBase_ValueError (fun Y => PySem.HandSPX.refsVE_contains Y bm hbm) (I1.kIn _ _ hC) (PySem.W.looks_findIn I1.kIn T.iC) (fun self => PySem.W.bind_fn I1.kIn self T.tI) hus
    (codeAny_mono (F1.go _ X.stack _ _ ⟨Value.ref (hp.objs.size + 1) :: us, []⟩ (Value.ref (hp.objs.size + 1) :: us) _ _ (fun _ _ _ => False) hga (hr.make C us []) (I2.env0.make C us []) (.of_eq (hb _ hl)) r2 hq) fun r s' hq' => ?_))
  cases r with
  | error er => exact False.elim hq'
  | ok fl =>
    cases fl with
    | ret u =>
      obtain ⟨v, H2, os2, bare2, un2, hok2, rv, ev, d, fs, ea, ed, hd1, q2⟩ := hq'
      subst ev
      obtain ⟨h2, g2, d2, t2, os'⟩ := s'
      exact ⟨rv, mk_end (raises_own T.oe.exC T.oe.tyC) I1 hsz kk un2 hok2 os2 bare2 ea ed hd1 q2⟩
    | next => exact False.elim hq'
    | brk => exact False.elim hq'
    | cont => exact False.elim hq'
theorem ps_ostK (hK : X.K = K) (ho : PE X o to) (he : PE X e te) (hs : swapsWith e (some (.Attribute o f p')) pos.line X.env = pure false := by rfl) : PS X (.Assign [.Attribute o f p'] e pos) (tOst K f to te) := hK ▸ ps_ost ho he hs
end

/-! ### readings -/
/-- what an __init__ of one field promises -/
def R_exc1 (C : Addr) (f : Str) : V → V → Hp → VK → Prop := fun x y H Q => ∃ a, x = .ref a ∧ H a = some (exo a C none) ∧
  ∀ dx, H dx = none → dx ≠ a → Q .non (upd (upd H dx (exd dx [(f, y)])) a (exo a C (some dx)))
/-- a new exception of the class at C, its field -/
def NewX (C : Addr) (f : Str) (y : V) (H : Hp) (Q : XK) : Prop := ∀ d H2, H d = none → Same H H2 → H2 d = some (.xd [(f, y)]) → Q (.ref C) (some d) H2
/-- the leaf of C(e, ..) -/
def MkX (C : Addr) (sp : Sp) (H1 : Hp) (Q : XK) (vs : List V) : Prop := vs.length ≤ 1000 ∧ ∀ a, H1 a = none → sp (.ref a :: (vs ++ [])) (upd H1 a (exo a C none))
  (fun v H2 => v = .non ∧ ∃ (d : Addr) (fs : List (Str × V)), H2 a = some (exo a C (some d)) ∧ H2 d = some (exd d fs) ∧ H1 d = none ∧ Q (.ref C) (some d) (upd (del H2 a) d (.xd fs))) (fun _ _ _ => False)
theorem g_mkX {C : Addr} {f : Str} {H1 : Hp} {Q : XK} {y : V} (q : NewX C f y H1 Q) : MkX C (Sp2 (R_exc1 C f)) H1 Q [y] := by
  refine ⟨by simp, fun a na => ⟨_, y, rfl, a, rfl, upd_same, fun dx nd ne => ⟨rfl, dx, [(f, y)], upd_same, ?_, ?_, ?_⟩⟩⟩
  · rw [upd_ne ne, upd_same]
  · rw [upd_ne ne] at nd; exact nd
  · rw [upd_ne ne] at nd
    refine q dx _ nd (fun b o hb => ?_) upd_same
    have b1 : b ≠ dx := ne_of_none hb nd
    have b2 : b ≠ a := ne_of_none hb na
    rw [upd_ne b1, del_ne b2, upd_ne b2, upd_ne b1, upd_ne b2]
    exact hb
theorem g_newX {C : Addr} {f : Str} {y : V} {H : Hp} {Q : XK} (k : ∀ d H2, H d = none → Same H H2 → H2 d = some (.xd [(f, y)]) → Q (.ref C) (some d) H2) : NewX C f y H Q := k
section
variable {σ : L2.St} {H : Hp} {K : PySem.W.Frag} {C : Addr} {f : Str} {y : V}
instance i_mkO {sp : Sp} {ta : TA} {Q : XK} : Step (tMkO C sp [] ta σ H Q) (ta σ H fun vs H1 => MkX C sp H1 Q vs) := ⟨fun k => k⟩
instance i_mkX {Q : XK} : Step (MkX C (Sp2 (R_exc1 C f)) H Q [y]) (NewX C f y H Q) := ⟨g_mkX⟩
instance i_vei {ta : TA} {Q : VK} : Step (tVeI K ta σ H Q) (ta σ H fun vs H1 => ∃ (a C : Addr) (ws : List V), vs = .ref a :: ws ∧ ws.length ≤ 1000 ∧ OexC K C ∧ H1 a = some (exo a C none) ∧ Q .non H1) := ⟨fun k => k⟩
instance i_ost {to te : TE} {D : Ends} : Step (tOst K f to te D σ H) (te σ H fun y H1 => to σ H1 fun x H2 => ∃ a C : Addr, x = .ref a ∧ OexC K C ∧ PySem.W.findIn K (.ref C) f = some none ∧
  ((H2 a = some (exo a C none) ∧ ∀ dx, H2 dx = none → dx ≠ a → D.nx σ (upd (upd H2 dx (exd dx [(f, y)])) a (exo a C (some dx)))) ∨
    ∃ (dx : Addr) (fs : List (Str × V)), H2 a = some (exo a C (some dx)) ∧ H2 dx = some (exd dx fs) ∧ fs.length ≤ 900 ∧ D.nx σ (upd H2 dx (exd dx ((f, y) :: fs))))) := ⟨fun k => k⟩
/-- an exception caught by its class -/
theorem g_as {i : Nat} {ts : Addr → Value → Option Addr → TS} {Wout : WX} {D : Ends} {c cls : Value} {d : Option Addr} (me : PySem.W.exmOne K cls c = some true)
    (k : ∀ a, H a = none → ts a cls d { nx := fun σ' H' => D.nx (σ'.set i none) H', rt := D.rt, bk := fun σ' H' => D.bk (σ'.set i none) H', ct := fun σ' H' => D.ct (σ'.set i none) H' } (σ.set i (some (.ref a))) H) :
    wAs K c i ts Wout D cls d σ H := ⟨true, me, fun _ => k, fun z => by cases z⟩
/-- .. by another class: it goes on -/
theorem g_asOut {i : Nat} {ts : Addr → Value → Option Addr → TS} {Wout : WX} {D : Ends} {c cls : Value} {d : Option Addr} (me : PySem.W.exmOne K cls c = some false)
    (k : Wout cls d σ H) : wAs K c i ts Wout D cls d σ H := ⟨false, me, (fun z => absurd z (by decide)), fun _ => k⟩
theorem g_only {ts : Addr → Value → Option Addr → TS} {Wout : WX} {D : Ends} {c cls : Value} {d : Option Addr} (me : PySem.W.exmOne K cls c = some true)
    (k : ∀ a, H a = none → ts a cls d D σ H) : wOnly K c ts Wout D cls d σ H := ⟨true, me, fun _ => k, fun z => by cases z⟩
theorem g_onlyOut {ts : Addr → Value → Option Addr → TS} {Wout : WX} {D : Ends} {c cls : Value} {d : Option Addr} (me : PySem.W.exmOne K cls c = some false)
    (k : Wout cls d σ H) : wOnly K c ts Wout D cls d σ H := ⟨false, me, (fun z => absurd z (by decide)), fun _ => k⟩
end
/-- e.f in a suite, with a named K -/
theorem pe_xfK {X : Cx} {K : PySem.W.Frag} {a C : Addr} {oe : Obj} {cls : Value} {d : Option Addr} {pn : List (Addr × Obj)} {e : Expr} {te : TE} {pos : Pos} {n : Str} (hK : X.K = K) (T : XfC K C) (hno : PySem.W.findIn K (.ref C) n = some none)
    (hz : Zc cls d oe) (hf : ∃ vs, oe.data = .fields vs) (he : PE (X.suite a ((a, oe) :: pn)) e te) (hb : attributeBase e n X.env (eval e X.env) = eval e X.env := by rfl) :
    PE (X.suite a ((a, oe) :: pn)) (.Attribute e n pos) (tXf a cls d C n te) := by
  subst hK
  exact pe_xf T hno hz hf he hb
instance i_xf {a C : Addr} {cls : Value} {d : Option Addr} {f : Str} {te : TE} {σ : L2.St} {H : Hp} {Q : VK} : Step (tXf a cls d C f te σ H Q) (te σ H fun x H1 => x = .ref a ∧ cls = .ref C ∧ ∃ (dd : Addr) (fs : List (Str × V)) (v : V), d = some dd ∧ H1 dd = some (.xd fs) ∧ fs.lookup f = some v ∧ Q v H1) := ⟨fun k => k⟩

theorem exm_of {K : PySem.W.Frag} {C S : Addr} {b : Bool} (h1 : PySem.W.subIn K (.ref S) (.type "BaseException") = some true) (h2 : PySem.W.isClsIn K S = true) (h3 : PySem.W.typeIn K (.ref S) = some (.type "type")) (h4 : PySem.W.subIn K (.ref C) (.ref S) = some b) :
    PySem.W.exmOne K (.ref C) (.ref S) = some b := by
  have e1 : (PySem.W.subIn K (.ref S) (.type "BaseException") == some true) = true := by rw [h1] <;> rfl
  have e2 : ((PySem.W.clsIn K S).isSome && PySem.W.typeIn K (.ref S) == some (.type "type")) = true := by
    have h2' : (PySem.W.clsIn K S).isSome = true := h2
    rw [h2', h3] <;> rfl
  show (if (PySem.W.subIn K (.ref S) (.type "BaseException") == some true) = true then (if ((PySem.W.clsIn K S).isSome && PySem.W.typeIn K (.ref S) == some (.type "type")) = true then PySem.W.subIn K (.ref C) (.ref S) else none) else none) = some b
  rw [if_pos e1, if_pos e2]
  exact h4
theorem oexC_mk {K : PySem.W.Frag} {C N : Addr} {nm q : Str} {bs bm : List Value} {sn : List Str} {sub : List Value} {ab : Bool} {col : Option Bool} {dd : Option Addr} {k0 k1 k2 k3 k5 : Option Value}
    (l : K.lookup C = some (excClassObj nm q C N bs bm true sn sub ab col dd k0 k1 k2 k3 k5 "ValueError.__new__")) (r : PySem.HandSPX.refsVE bm = true)
    (sa : PySem.W.findIn K (.ref C) "__setattr__" = some (some (.builtin "object.__setattr__"))) (ex : PySem.W.subIn K (.ref C) (.type "BaseException") = some true)
    (ty : PySem.W.typeIn K (.ref C) = some (.type "type")) (kp : PySem.W.keepIn K (.ref C) = true) : OexC K C := ⟨⟨nm, q, N, bs, bm, sn, sub, ab, col, dd, k0, k1, k2, k3, k5, l, r⟩, sa, ex, ty, kp⟩

/-- an exception's __init__ as a promise -/
structure XiK (P : Program) (w : World) (K : PySem.W.Frag) (mg : Str → Option Value) (base : Heap) (fI : Addr) (k : Nat) (sp : Sp) : Prop where
  ex : ∃ (fd : FuncData) (ps : List Str), FnG P w K mg base CX0 k fI fd ps sp ∧ ∀ us : List Value, us.length = ps.length → bindArgs fd ⟨us, []⟩ = pure (ps.zip us)
theorem pmk_oexI {X : Cx} {e : Expr} {es : List Expr} {ta : TA} {x : Str} {p pos : Pos} {C fI : Addr} {fs : List Str} {k : Nat} {sp : Sp} (T : XcK X.K X.mg x C fI fs)
    (I : XiK X.prog X.w X.K X.mg X.base fI k sp) (hga : X.A.guards = some []) (hr : Room (k + 1) X.A) (hg : Gl X x) (ha : PA X (e :: es) ta)
    (hdb : (x == ("__debug__" : Str)) = false := by decide) (he : starEach (e :: es) X.env = (false, eval e X.env) :: starEach es X.env := by rfl) (hpl : (backTo pos (starEach es X.env)).any (·.1) = false := by rfl) :
    PMk X (.Call (.Name x p) (e :: es) [] pos) (tMkO C sp [] ta) := by
  obtain ⟨fd, ps, F, hb⟩ := I.ex
  exact pmk_oexG T F hga hr hb hg ha hdb he hpl
end L2.Pc

namespace L2.Pc
open PySem PySem.Spec PyProof.Rows

/-! ### texts further -/
section
variable {X : Cx}
def rStrM : List V → Hp → VK → Prop := fun xs H Q => (∃ i, xs = [.int i] ∧ i.natAbs.log2 < 1920 ∧ Q (.str (toString i)) H) ∨ ∃ a, xs = [.str a] ∧ Q (.str a) H
theorem call_strM : CallR X (.type "str") rStrM := by
  intro pins s σ H xs us Q I r h
  rcases h with h | h
  · exact call_str_int pins s σ H xs us Q I r h
  · exact SkE.call_str_str pins s σ H xs us Q I r h
def rZfill : V → List V → Hp → VK → Prop := fun x xs H Q => ∃ (a : Str) (i : Int), x = .str a ∧ xs = [.int i] ∧ PadOk i = true ∧ Q (.str (Txt.zfill a i)) H
theorem mt_zfillM : MtR X "str.zfill" rZfill := mt_zfill
def rPart : V → List V → Hp → VK → Prop := fun x xs H Q => ∃ a b, x = .str a ∧ xs = [.str b] ∧ (b.length == 0) = false ∧ a.length ≤ sizeLine ∧
  ∀ p, H p = none → Q (.ref p) (upd H p (.tup [.str (Txt.partition a b).1, .str (Txt.partition a b).2.1, .str (Txt.partition a b).2.2]))
theorem mt_partM : MtR X "str.partition" rPart := mt_partition
end
section
variable {σ : L2.St} {H : Hp} {Q : VK} {a b : Str} {i : Int}
instance z_strI : StepZ (rStrM [.int i] H Q) (i.natAbs.log2 < 1920) (Q (.str (toString i)) H) := ⟨fun h k => .inl ⟨i, rfl, h, k⟩⟩
instance i_strS : Step (rStrM [.str a] H Q) (Q (.str a) H) := ⟨fun k => .inr ⟨a, rfl, k⟩⟩
instance z_zfill : StepZ (rZfill (.str a) [.int i] H Q) (PadOk i = true) (Q (.str (Txt.zfill a i)) H) := ⟨fun h k => ⟨a, i, rfl, rfl, h, k⟩⟩
instance z_part : StepZ (rPart (.str a) [.str b] H Q) ((b.length == 0) = false ∧ a.length ≤ sizeLine) (NewO H (.tup [.str (Txt.partition a b).1, .str (Txt.partition a b).2.1, .str (Txt.partition a b).2.2]) Q) :=
  ⟨fun h k => ⟨a, b, rfl, rfl, h.1, h.2, k⟩⟩
end
/-- a[::-1] of a text: a text of signs of it, no longer -/
def tRevS (te : TE) : TE := fun σ H Q => te σ H fun x H1 => ∃ a, x = .str a ∧ a.length ≤ sizeLine ∧ ∀ z : Str, z.length ≤ a.length → (∀ c ∈ z.cps.toList, c ∈ a.cps.toList) → Q (.str z) H1
instance i_revS {te : TE} {σ : L2.St} {H : Hp} {Q : VK} : Step (tRevS te σ H Q) (te σ H fun x H1 => ∃ a, x = .str a ∧ a.length ≤ sizeLine ∧ ∀ z : Str, z.length ≤ a.length → (∀ c ∈ z.cps.toList, c ∈ a.cps.toList) → Q (.str z) H1) := ⟨fun k => k⟩
theorem sliceBy_mem (x : Str) (l u : Option (Int × Tok)) (st : Int × Tok) : ∀ c ∈ (Txt.sliceBy x l u st).cps.toList, c ∈ x.cps.toList := by
  intro c hc
  unfold Txt.sliceBy at hc
  split at hc
  · exact hc
  · rw [show ((⟨(List.filterMap (fun j => x.cps[j]?) (slicePicked x l u (some st))).toArray⟩ : Str).cps.toList) = List.filterMap (fun j => x.cps[j]?) (slicePicked x l u (some st)) from rfl] at hc
    obtain ⟨j, _, hj⟩ := List.mem_filterMap.mp hc
    have := Array.mem_of_getElem? hj
    exact Array.mem_toList_iff.mpr this
theorem pe_revS {X : Cx} {e : Expr} {te : TE} {k : Nat} {p1 p2 p3 pos : Pos} (he : PE X e te) : PE X (.Subscript e (.Slice none none (some (.UnaryOp .USub (.Constant (.int 1) k p1) p2)) p3) pos) (tRevS te) := by
  refine ⟨fun pins s σ H Q I h => ?_⟩
  refine Subscript_ (thn (he.run pins s σ H _ I h) fun v s1 ⟨x, H1, I1, r1, q1⟩ => ?_)
  obtain ⟨a, ex, hx, q⟩ := q1
  subst ex
  obtain ⟨t, rfl⟩ := r1
  have hst : PO X (some (.UnaryOp .USub (.Constant (.int 1) k p1) p2)) (tPart (tUn (rU fun i => .int (-i)) (tC (.int 1)))) := po_some (pe_un un_neg pe_int)
  refine wpAny_Slice (thn (po_none.run pins s1 σ H1 (fun o H2 => o = none ∧ H2 = H1) I1 ⟨rfl, rfl⟩) fun vl s2 ⟨l, H2, I2, pl, el, e2⟩ => ?_)
  subst el e2
  refine thn (po_none.run pins s2 σ H2 (fun o H3 => o = none ∧ H3 = H2) I2 ⟨rfl, rfl⟩) fun vu s3 ⟨u, H3, I3, pu, eu, e3⟩ => ?_
  subst eu e3
  refine thn (hst.run pins s3 σ H3 (fun o H4 => o = some (-1) ∧ H4 = H3) I3 ⟨1, rfl, -1, rfl, rfl, rfl⟩) fun vs s4 ⟨o, H4, I4, ps, eo, e4⟩ => ?_
  subst eo e4
  have I5 : Inv X pins σ H4 { s4 with heap := s4.heap.push { cls := .type "slice", data := .fields #[vl, vu, vs] } } := I4.kept (t' := s4.toks) fun b ob q => Heap.get?_push_of_some _ q
  cases pl
  cases pu
  obtain ⟨tk, rfl⟩ : ∃ tk, vs = .int (-1) tk := by cases ps; exact ⟨_, rfl⟩
  show wpAny (model X.prog X.w) X.A (subscriptTail e (.Slice none none (some (.UnaryOp .USub (.Constant (.int 1) k p1) p2)) p3) (.str a t) (.ref s4.heap.objs.size)) (EP X pins σ Q) X.xe { s4 with heap := s4.heap.push { cls := .type "slice", data := .fields #[.none, .none, .int (-1) tk] } }
  have z1 : ((Option.map (fun x => x.fst) (some ((-1 : Int), tk))).getD 1 == 0) = false := rfl
  have z2 : ((-1 : Int), tk).fst ≠ 0 := by show (-1 : Int) ≠ 0; decide
  refine tail_any (ops := [.ref s4.heap.objs.size, .str a t]) (typeIs_str _ _ _) F.slot_str_getitem.lookup ?_ (by with_unfolding_all rfl)
  refine wpAny_getItem_str_slice (l := none) (u := none) (st := some (-1, tk)) ⟨_, Heap.get?_push_size _ rfl, rfl, rfl⟩ z1
    (post_val_or_str ⟨Nat.le_trans (Txt.sliceBy_le a none none (-1, tk) z2) hx, fun t' c => ?_⟩)
  exact ⟨.str _, _, I5.tok _, ⟨_, rfl⟩, q _ (Txt.sliceBy_le a none none (-1, tk) z2) (sliceBy_mem a none none (-1, tk))⟩

/-! ### small numbers as texts -/
theorem log_small {i : Int} (h0 : 0 ≤ i) (h1 : i < 18446744073709551616) : i.natAbs.log2 < 1920 := by
  have : i.natAbs < 2 ^ 64 := by omega
  by_cases hz : i.natAbs = 0
  · rw [hz]; decide
  · exact Nat.lt_trans ((Nat.log2_lt hz).mpr this) (by decide)
theorem int_len {i : Int} (h0 : 0 ≤ i) (h1 : i < 18446744073709551616) : (toString i : Str).length ≤ 65 := by
  have h2 : i.natAbs.log2 < 64 := by
    have : i.natAbs < 2 ^ 64 := by omega
    by_cases hz : i.natAbs = 0
    · rw [hz]; decide
    · exact (Nat.log2_lt hz).mpr this
  have := int_text_length_le (k := 64) (by decide) h2
  show (Str.ofString (toString i)).length ≤ 65
  rw [PySem.ofString_length]
  exact this
def figS (d : Int) : Str := ⟨#[("0123456789" : Str).cps.toList.getD d.toNat 0]⟩
theorem atFig {d : Int} (h0 : 0 ≤ d) (h1 : d < 10) : atI ("0123456789" : Str).cps.toList d = some (("0123456789" : Str).cps.toList.getD d.toNat 0) := by
  obtain ⟨k, rfl⟩ : ∃ k : Nat, d = k := ⟨d.toNat, by omega⟩
  have hk : k < ("0123456789" : Str).cps.toList.length := by show k < 10; omega
  rw [Int.toNat_natCast]
  refine atI_nat' ?_
  rw [List.getD_eq_getElem?_getD, List.getElem?_eq_getElem hk]
  rfl
theorem two_figs : ∀ h ∈ List.range 24, Txt.zfill (toString (h : Int) : Str) 2 = figS ((h : Int) / 10) ++ figS ((h : Int) % 10) := by decide +kernel
theorem two_figs' {h : Int} (h0 : 0 ≤ h) (h1 : h < 24) : Txt.zfill (toString h : Str) 2 = figS (h / 10) ++ figS (h % 10) := by
  obtain ⟨k, rfl⟩ : ∃ k : Nat, h = k := ⟨h.toNat, by omega⟩
  exact two_figs k (List.mem_range.mpr (by omega))
/-- a moment's text: day, point, two figures -/
def whenT (m : Int) : Str := (toString (m / 24) : Str) ++ "." ++ Txt.zfill (toString (m % 24) : Str) 2
def R_when : V → Hp → VK → Prop := fun x H Q => ∃ m : Int, x = .int m ∧ 0 ≤ m ∧ m < 9600 ∧ Q (.str (whenT m)) H
theorem str_assoc (a b c : Str) : (a ++ b) ++ c = a ++ (b ++ c) := by
  obtain ⟨a⟩ := a; obtain ⟨b⟩ := b; obtain ⟨c⟩ := c
  show Str.mk ((a ++ b) ++ c) = Str.mk (a ++ (b ++ c))
  rw [Array.append_assoc]
def R_moment (P : Program) (w : World) : V → Hp → VK → Prop := fun x H Q => ∃ (p : Addr) (n : Nat), x = .ref p ∧ H p = some (PotO P w n p) ∧ n ≤ 100000000 ∧
  ∀ (m : Int) (H' : Hp) (k : Nat), Mx H H' → k ≤ n + 5 → H' p = some (PotO P w k p) → 0 ≤ m → m < 9600 → Q (.int m) H'

/-! ### texts of figures -/
abbrev figT : Str := "0123456789"
def digB (s : Str) : Bool := s.cps.toList.all fun c => decide (c ∈ figT.cps.toList)
theorem fig_iff (c : Nat) : c ∈ figT.cps.toList ↔ 48 ≤ c ∧ c ≤ 57 := by
  rw [show figT.cps.toList = [48, 49, 50, 51, 52, 53, 54, 55, 56, 57] from by decide +kernel]
  simp only [List.mem_cons, List.not_mem_nil, or_false]
  omega
theorem dig_all {s : Str} (h : digB s = true) : PySem.NumText.AllDigits s.cps.toList := fun c hc => (fig_iff c).mp (of_decide_eq_true ((List.all_eq_true.mp h) c hc))
theorem dig_int {s : Str} (h : digB s = true) (h1 : 1 ≤ s.length) (h2 : s.length ≤ 640) : ∃ n : Nat, PySem.intText? s = some (n : Int) := by
  refine ⟨_, PySem.intText_digits (dig_all h) ?_ (by omega)⟩
  intro e
  have : s.length = s.cps.toList.length := by simp [Str.length]
  rw [e] at this
  simp at this
  omega
theorem strip_dig (s : Str) : decide (Txt.stripChars s figT = "") = digB s := by
  rw [← show decide (V.str (Txt.stripChars s figT) = V.str "") = decide (Txt.stripChars s figT = "") by simp]
  exact strip_all s figT
theorem atS0 {a : Str} (h : 1 ≤ a.length) : atI a.cps.toList 0 = some (a.cps.toList.getD 0 0) := by
  have hk : 0 < a.cps.toList.length := by
    have : a.length = a.cps.toList.length := by simp [Str.length]
    omega
  have e1 := atI_nat' (xs := a.cps.toList) (k := 0) (List.getElem?_eq_getElem hk)
  rw [List.getD_eq_getElem?_getD, List.getElem?_eq_getElem hk]
  exact e1
instance z_intS {a : Str} {H : Hp} {Q : VK} : StepZ (rIntM [.str a] H Q) (a.length ≤ 640) (∃ n, PySem.intText? a = some n ∧ Q (.int n) H) := ⟨fun h ⟨n, e, k⟩ => g_intS e h k⟩
def zeroB (s : Str) : Bool := decide ((⟨#[s.cps.toList.getD 0 0]⟩ : Str) = "0") && !decide (s = "0")
/-- what number_of tells -/
def numOf (s : Str) (lo hi : Int) : Option Int :=
  if decide (1 ≤ (s.length : Int)) && decide ((s.length : Int) ≤ ((toString hi : Str).length : Int)) && digB s && !zeroB s then
    match PySem.intText? s with
    | some n => if lo ≤ n ∧ n ≤ hi then some n else none
    | none => none
  else none
def optV : Option Int → V
  | none => .non
  | some n => .int n
def R_number : V → V → V → Hp → VK → Prop := fun x y z H Q => ∃ (s : Str) (lo hi : Int), x = .str s ∧ y = .int lo ∧ z = .int hi ∧ s.length ≤ 16777216 ∧ 0 ≤ hi ∧ hi < 18446744073709551616 ∧ Q (optV (numOf s lo hi)) H

/-! ### is None; a tuple unpacked -/
def rIsNo : R2 := fun x y H Q => y = .non ∧ Q (.bl (decide (x = .non))) H
def rNotNo : R2 := fun x y H Q => y = .non ∧ Q (.bl (!decide (x = .non))) H
theorem op_isNo {X : Cx} : OpR X (compareOp .Is) rIsNo := op_isN
theorem op_notNo {X : Cx} : OpR X (compareOp .IsNot) rNotNo := op_notN
section
variable {H : Hp} {Q : VK} {i : Int} {a : Str} {b : Bool} {p : Addr} {m : String}
instance i_isNoN : Step (rIsNo .non .non H Q) (Q (.bl true) H) := ⟨fun k => ⟨rfl, k⟩⟩
instance i_notNoN : Step (rNotNo .non .non H Q) (Q (.bl false) H) := ⟨fun k => ⟨rfl, k⟩⟩
instance i_isNoI : Step (rIsNo (.int i) .non H Q) (Q (.bl false) H) := ⟨fun k => ⟨rfl, by rw [show decide ((.int i : V) = .non) = false from decide_eq_false (fun z => by cases z)]; exact k⟩⟩
instance i_notNoI : Step (rNotNo (.int i) .non H Q) (Q (.bl true) H) := ⟨fun k => ⟨rfl, by rw [show decide ((.int i : V) = .non) = false from decide_eq_false (fun z => by cases z)]; exact k⟩⟩
instance i_isNoS : Step (rIsNo (.str a) .non H Q) (Q (.bl false) H) := ⟨fun k => ⟨rfl, by rw [show decide ((.str a : V) = .non) = false from decide_eq_false (fun z => by cases z)]; exact k⟩⟩
instance i_notNoS : Step (rNotNo (.str a) .non H Q) (Q (.bl true) H) := ⟨fun k => ⟨rfl, by rw [show decide ((.str a : V) = .non) = false from decide_eq_false (fun z => by cases z)]; exact k⟩⟩
instance i_isNoB : Step (rIsNo (.bl b) .non H Q) (Q (.bl false) H) := ⟨fun k => ⟨rfl, by rw [show decide ((.bl b : V) = .non) = false from decide_eq_false (fun z => by cases z)]; exact k⟩⟩
instance i_notNoB : Step (rNotNo (.bl b) .non H Q) (Q (.bl true) H) := ⟨fun k => ⟨rfl, by rw [show decide ((.bl b : V) = .non) = false from decide_eq_false (fun z => by cases z)]; exact k⟩⟩
instance i_isNoR : Step (rIsNo (.ref p) .non H Q) (Q (.bl false) H) := ⟨fun k => ⟨rfl, by rw [show decide ((.ref p : V) = .non) = false from decide_eq_false (fun z => by cases z)]; exact k⟩⟩
instance i_notNoR : Step (rNotNo (.ref p) .non H Q) (Q (.bl true) H) := ⟨fun k => ⟨rfl, by rw [show decide ((.ref p : V) = .non) = false from decide_eq_false (fun z => by cases z)]; exact k⟩⟩
instance i_isNoTy : Step (rIsNo (.ty m) .non H Q) (Q (.bl false) H) := ⟨fun k => ⟨rfl, by rw [show decide ((.ty m : V) = .non) = false from decide_eq_false (fun z => by cases z)]; exact k⟩⟩
instance i_notNoTy : Step (rNotNo (.ty m) .non H Q) (Q (.bl true) H) := ⟨fun k => ⟨rfl, by rw [show decide ((.ty m : V) = .non) = false from decide_eq_false (fun z => by cases z)]; exact k⟩⟩
end
theorem pg_tupK {X : Cx} {K : PySem.W.Frag} {es : List Expr} {k : Nat} {t : TGs} {n : Nat} {pos : Pos} (hK : X.K = K) (hc : X.calm = true) (h : PGs X es t)
    (hn : (assignEach es X.env).length = n := by rfl) (hst : (assignEach es X.env).findIdx? (·.1) = none := by rfl) : PG X (.Tuple es k pos) (gTup K n t) := hK ▸ pg_tup hc h hn hst
section
variable {K : PySem.W.Frag} {σ : L2.St} {H : Hp} {t : TG} {u : TGs} {n : Nat} {v : V} {vs : List V} {a : Addr} {R : L2.St → Hp → Prop}
instance q_gTup : StepQ (gTup K n u (.ref a) σ H R) (fun xs => SqT K H a xs) (fun xs => xs.length = n ∧ u xs σ H R) := ⟨fun xs h k => ⟨a, xs, rfl, h, k.1, k.2⟩⟩
instance i_gCons : Step (gCons t u (v :: vs) σ H R) (t v σ H fun σ' H' => u vs σ' H' R) := ⟨fun k => ⟨v, vs, rfl, k⟩⟩
instance i_gNil : Step (gNil [] σ H R) (R σ H) := ⟨fun k => ⟨rfl, k⟩⟩
end
theorem part_len (x y : Str) : (Txt.partition x y).1.length ≤ x.length ∧ (Txt.partition x y).2.2.length ≤ x.length := by
  unfold Txt.partition
  split
  · exact ⟨len_strSub x _ _, len_strSub x _ _⟩
  · exact ⟨Nat.le_refl _, Nat.zero_le _⟩
theorem numOf_le {s : Str} {lo hi n : Int} (h : numOf s lo hi = some n) : lo ≤ n ∧ n ≤ hi := by
  unfold numOf at h
  split at h
  · split at h
    · split at h
      · cases h; assumption
      · cases h
    · cases h
  · cases h
/-- the moment of a text -/
def momOf (s : Str) : Option Int :=
  match numOf (Txt.partition s ".").1 0 399 with
  | none => none
  | some d =>
    if (Txt.partition s ".").2.1 = "" ∨ (Txt.partition s ".").2.2.length ≠ 2 ∨ digB (Txt.partition s ".").2.2 = false then none
    else match PySem.intText? (Txt.partition s ".").2.2 with
      | some h => if h < 24 then some (d * 24 + h) else none
      | none => none
def R_moment_of : V → Hp → VK → Prop := fun x H Q => ∃ s : Str, x = .str s ∧ s.length ≤ 16777216 ∧ ∀ H', Same H H' → Q (optV (momOf s)) H'

def readD : PyData → Option Int
  | .str s => momOf s
  | _ => none
def R_read (K : PySem.W.Frag) (C : Addr) : V → Hp → VK → XK → Prop := fun x H Q E => ∃ d, Da K H x d ∧ smallD d ∧
  (∀ n, readD d = some n → ∀ H', Same H H' → Q (.int n) H') ∧
  (readD d = none → ∀ e H', H e = none → Same H H' → H' e = some (.xd [("text", x)]) → E (.ref C) (some e) H')
end L2.Pc

namespace L2.Pc
open PySem PySem.Spec PyProof.Rows

/-! ### a text cut at its first sign c -/
theorem str_ext {a b : Str} (h : a.cps.toList = b.cps.toList) : a = b := by
  obtain ⟨⟨a⟩⟩ := a; obtain ⟨⟨b⟩⟩ := b
  rw [show a = b from h]
theorem sub_list (x : Str) (a b : Nat) : (PySem.Builtin.Str.strSub x a b).cps.toList = (x.cps.toList.take b).drop a := by
  show (x.cps.extract a b).toList = _
  rw [Array.toList_extract]
  simp [List.extract, List.drop_take]
theorem len_list (x : Str) : x.length = x.cps.toList.length := by simp [Str.length]
theorem partC (s : Str) (c : Nat) : (Txt.partition s ⟨#[c]⟩ = (s, Str.empty, Str.empty) ∧ c ∉ s.cps.toList) ∨
    ∃ i, s.cps.toList[i]? = some c ∧ (∀ k, k < i → s.cps.toList[k]? ≠ some c) ∧
      Txt.partition s ⟨#[c]⟩ = (PySem.Builtin.Str.strSub s 0 i, ⟨#[c]⟩, PySem.Builtin.Str.strSub s (i + 1) s.length) := by
  rcases StrLaws.occ_head s ⟨#[c]⟩ 1 (by decide) with ⟨e, h⟩ | ⟨i, r, e, h, hk⟩
  · left
    refine ⟨by unfold Txt.partition; rw [e], fun hc => ?_⟩
    obtain ⟨k, hk⟩ := List.getElem?_of_mem hc
    exact h k ((StrLaws.subAt_one s c k).mpr hk)
  · right
    exact ⟨i, (StrLaws.subAt_one s c i).mp h, fun k q z => hk k q ((StrLaws.subAt_one s c k).mpr z), by unfold Txt.partition; rw [e]; rfl⟩
theorem cut_to_neg {s : Str} {k : Nat} (hk : 1 ≤ k) (h : k ≤ s.length) : (cutS s none (some (-(k : Int)))).cps.toList = s.cps.toList.take (s.length - k) := by
  unfold cutS HT.sIx
  dsimp only
  rw [if_pos (by omega)]
  simp only [List.drop_zero, Nat.sub_zero]
  congr 1
  omega
theorem cut_from_neg {s : Str} {k : Nat} (hk : 1 ≤ k) (h : k ≤ s.length) : (cutS s (some (-(k : Int))) none).cps.toList = s.cps.toList.drop (s.length - k) := by
  unfold cutS HT.sIx
  dsimp only
  rw [if_pos (by omega)]
  rw [show (-(k : Int) + (s.length : Int)).toNat = s.length - k by omega]
  refine List.take_of_length_le ?_
  rw [List.length_drop, ← len_list]
  exact Nat.le_refl _
theorem atI_neg {α : Type} {xs : List α} {k : Nat} (hk : 1 ≤ k) (h : k ≤ xs.length) : atI xs (-(k : Int)) = xs[xs.length - k]? := by
  unfold atI ixN
  rw [if_neg (by omega), if_pos (by omega)]
  show xs[(-(k : Int) + (xs.length : Int)).toNat]? = _
  congr 1
  omega
theorem mom_some {s : Str} {m : Int} (h : momOf s = some m) : 4 ≤ s.length ∧ s.length ≤ 6 ∧ s.cps.toList[s.length - 3]? = some 46 ∧
    digB (cutS s none (some (-3))) = true ∧ digB (cutS s (some (-2)) none) = true := by
  unfold momOf at h
  rcases partC s 46 with ⟨e, _⟩ | ⟨i, hi, hk, e⟩
  · rw [show (("." : Str)) = ⟨#[46]⟩ from rfl, e] at h
    dsimp only at h
    cases hd : numOf s 0 399 with
    | none => rw [hd] at h; cases h
    | some d => rw [hd] at h; dsimp only at h; rw [if_pos (.inl rfl)] at h; cases h
  · rw [show (("." : Str)) = ⟨#[46]⟩ from rfl, e] at h
    dsimp only at h
    have il : i < s.length := by rw [len_list]; exact (List.getElem?_eq_some_iff.mp hi).1
    have l1 : (PySem.Builtin.Str.strSub s 0 i).length = i := by rw [len_list, sub_list, List.drop_zero, List.length_take, ← len_list]; omega
    have l2 : (PySem.Builtin.Str.strSub s (i + 1) s.length).length = s.length - (i + 1) := by rw [len_list, sub_list, List.length_drop, List.length_take, ← len_list]; omega
    cases hd : numOf (PySem.Builtin.Str.strSub s 0 i) 0 399 with
    | none => rw [hd] at h; cases h
    | some d =>
      rw [hd] at h
      dsimp only at h
      by_cases c : (⟨#[46]⟩ : Str) = "" ∨ (PySem.Builtin.Str.strSub s (i + 1) s.length).length ≠ 2 ∨ digB (PySem.Builtin.Str.strSub s (i + 1) s.length) = false
      · rw [if_pos c] at h; cases h
      · have c2 : (PySem.Builtin.Str.strSub s (i + 1) s.length).length = 2 := by
          by_cases z : (PySem.Builtin.Str.strSub s (i + 1) s.length).length = 2
          · exact z
          · exact absurd (.inr (.inl z)) c
        have c3 : digB (PySem.Builtin.Str.strSub s (i + 1) s.length) = true := by
          cases z : digB (PySem.Builtin.Str.strSub s (i + 1) s.length) with
          | true => rfl
          | false => exact absurd (.inr (.inr z)) c
        have n1 : 1 ≤ i ∧ i ≤ 3 ∧ digB (PySem.Builtin.Str.strSub s 0 i) = true := by
          unfold numOf at hd
          rw [l1] at hd
          have e399 : (toString (399 : Int) : Str).length = 3 := by decide +kernel
          rw [e399] at hd
          split at hd
          · rename_i z
            simp only [Bool.and_eq_true, decide_eq_true_eq] at z
            exact ⟨by omega, by omega, z.1.2⟩
          · cases hd
        have hl : s.length = i + 3 := by omega
        have e1 : PySem.Builtin.Str.strSub s 0 i = cutS s none (some (-3)) := str_ext (by
          rw [sub_list, List.drop_zero]
          have := cut_to_neg (s := s) (k := 3) (by decide) (by omega)
          rw [show (-3 : Int) = -((3 : Nat) : Int) from rfl, this]
          congr 1; omega)
        have e2 : PySem.Builtin.Str.strSub s (i + 1) s.length = cutS s (some (-2)) none := str_ext (by
          rw [sub_list]
          have := cut_from_neg (s := s) (k := 2) (by decide) (by omega)
          rw [show (-2 : Int) = -((2 : Nat) : Int) from rfl, this, List.take_of_length_le (by rw [← len_list]; exact Nat.le_refl _)]
          congr 1; omega)
        refine ⟨by omega, by omega, ?_, ?_, ?_⟩
        · rw [show s.length - 3 = i by omega]; exact hi
        · rw [← e1]; exact n1.2.2
        · rw [← e2]; exact c3
theorem mom_part {s : Str} (h1 : 4 ≤ s.length) (h3 : s.cps.toList[s.length - 3]? = some 46) (h4 : digB (cutS s none (some (-3))) = true) :
    Txt.partition s "." = (cutS s none (some (-3)), ("." : Str), cutS s (some (-2)) none) := by
  have c1 := cut_to_neg (s := s) (k := 3) (by decide) (by omega)
  have c2 := cut_from_neg (s := s) (k := 2) (by decide) (by omega)
  have nd : ∀ k, k < s.length - 3 → s.cps.toList[k]? ≠ some 46 := fun k hk z => by
    have m : 46 ∈ (cutS s none (some (-3))).cps.toList := by
      rw [show (-3 : Int) = -((3 : Nat) : Int) from rfl, c1]
      exact List.mem_of_getElem? (i := k) (by rw [List.getElem?_take_of_lt hk]; exact z)
    have := dig_all h4 46 m
    omega
  rw [show (("." : Str)) = ⟨#[46]⟩ from rfl]
  rcases partC s 46 with ⟨e, hn⟩ | ⟨i, hi, hk, e⟩
  · exact absurd (List.mem_of_getElem? h3) hn
  · have ei : i = s.length - 3 := by
      rcases Nat.lt_trichotomy i (s.length - 3) with z | z | z
      · exact absurd hi (nd i z)
      · exact z
      · exact absurd h3 (hk _ z)
    subst ei
    rw [e]
    refine Prod.ext ?_ (Prod.ext rfl ?_)
    · exact str_ext (by rw [sub_list, List.drop_zero, show (-3 : Int) = -((3 : Nat) : Int) from rfl, c1])
    · exact str_ext (by
        dsimp only
        rw [sub_list, show (-2 : Int) = -((2 : Nat) : Int) from rfl, c2, List.take_of_length_le (by rw [← len_list]; exact Nat.le_refl _)]
        congr 1; omega)

theorem in456 {n : Int} : inV (.int n) [.int 4, .int 5, .int 6] = true ↔ (n = 4 ∨ n = 5 ∨ n = 6) := by
  simp [inV, eqV]
  omega
theorem dig_append (a b : Str) : digB (a ++ b) = (digB a && digB b) := by
  unfold digB
  rw [show (a ++ b).cps.toList = a.cps.toList ++ b.cps.toList from Array.toList_append, List.all_append]
theorem one_eq {c d : Nat} : ((⟨#[c]⟩ : Str) = ⟨#[d]⟩) ↔ c = d := ⟨fun h => by injection h with h; simpa using h, fun h => by rw [h]⟩

section
variable {K : PySem.W.Frag} {x : V} {p : Addr} {H : Hp} {Q : VK}
instance (priority := 2000) q_in1 : StepQ (rInM K true x (.ref p) H Q) (fun xs => SqL K H p xs ∨ SqT K H p xs)
  (fun xs => flatV x = true ∧ xs.all flatV = true ∧ Q (.bl (!inV x xs)) H) := ⟨fun xs h ⟨k1, k2, k3⟩ => g_inQ h k1 k2 k3⟩
instance (priority := 2000) q_in0 : StepQ (rInM K false x (.ref p) H Q) (fun xs => SqL K H p xs ∨ SqT K H p xs)
  (fun xs => flatV x = true ∧ xs.all flatV = true ∧ Q (.bl (inV x xs)) H) := ⟨fun xs h ⟨k1, k2, k3⟩ => g_inQ h k1 k2 k3⟩
end

/-- [sign in lit for sign in z] -/
theorem g_signs {K : PySem.W.Frag} {z lit : Str} {i : Nat} {σ : L2.St} {Q : VK} {H : Hp} (hi : i < σ.length) (hz : z.length ≤ 16777216)
    (k : ∀ L H', H L = none → Same H H' → H' L = some (.lst ((z.cps.toList.map fun c => decide (c ∈ lit.cps.toList)).map V.bl)) → Q (.ref L) H') :
    LcW (Its z) (gName i) tYes (tOp (rInM K false) (tVar i) (tC (.str lit))) [i] σ Q H := by
  refine lcG (src_str z) (fun L j acc H' => Same H H' ∧ acc = ((z.cps.toList.take j).map fun c => decide (c ∈ lit.cps.toList)).map V.bl) (fun L hL => ⟨Same.new hL, by simp⟩) (fun _ _ _ _ _ _ => True.intro) ?_ ?_
  · rintro L j acc H' hL hj hA hl ⟨e2, rfl⟩
    show _ ∧ _
    refine ⟨by show ((σ.set i none).set i _).set i none = σ.set i none; simp, ?_⟩
    refine (Step.imp ?_ : tYes _ H' _)
    rw [if_pos rfl]
    refine ⟨_, by show ((σ.set i none).set i _)[i]? = _; rw [List.getElem?_set_self (by simpa using hi)], .inl ⟨_, _, rfl, rfl, ?_⟩⟩
    have hsz : z.cps.size = z.length := rfl
    refine lc_leaf hA hl (by omega) ⟨e2.put hL, ?_⟩
    rw [take_map1 _ (by simpa using hj), List.map_append]
    simp [Array.getD, hj]
  · rintro L acc H' hL hA hl ⟨e2, rfl⟩
    refine k L H' hL e2 ?_
    rw [hA, List.take_of_length_le (by simp)]
theorem all_signs (z : Str) : ((z.cps.toList.map fun c => decide (c ∈ figT.cps.toList))).all id = digB z := by
  rw [List.all_map]; rfl

theorem numOf_of {s : Str} {hi : Int} {n : Int} (h1 : 1 ≤ s.length) (h2 : s.length ≤ (toString hi : Str).length) (h3 : digB s = true) (hn : PySem.intText? s = some n) :
    numOf s 0 hi = if zeroB s then none else if 0 ≤ n ∧ n ≤ hi then some n else none := by
  unfold numOf
  rw [decide_eq_true (by omega), decide_eq_true (by omega), h3, hn]
  cases zeroB s <;> rfl
theorem momOf_of {s day hour : Str} {d h : Nat} (hp : Txt.partition s "." = (day, ("." : Str), hour)) (h1 : 1 ≤ day.length) (h2 : day.length ≤ 3) (h3 : digB day = true) (hd : PySem.intText? day = some (d : Int))
    (h4 : hour.length = 2) (h5 : digB hour = true) (hh : PySem.intText? hour = some (h : Int)) :
    momOf s = if zeroB day then none else if (d : Int) < 400 ∧ (h : Int) < 24 then some ((d : Int) * 24 + h) else none := by
  unfold momOf
  rw [hp]
  dsimp only
  rw [numOf_of h1 (by rw [show (toString (399 : Int) : Str).length = 3 from by decide +kernel]; exact h2) h3 hd]
  cases zeroB day with
  | true => rfl
  | false =>
    rw [if_neg (by decide)]
    by_cases c : (d : Int) < 400
    · rw [if_pos (by omega : (0 : Int) ≤ d ∧ (d : Int) ≤ 399)]
      dsimp only
      rw [if_neg (by rintro (z | z | z); · exact absurd z (by decide)
                     · exact z h4
                     · rw [h5] at z; cases z), hh]
      dsimp only
      by_cases e : (h : Int) < 24
      · rw [if_pos e, if_neg (by decide), if_pos ⟨c, e⟩]
      · rw [if_neg e, if_neg (by decide), if_neg (fun z => e z.2)]
    · rw [if_neg (by omega : ¬ ((0 : Int) ≤ d ∧ (d : Int) ≤ 399)), if_neg (by decide), if_neg (fun z => c z.1)]

theorem asc_cut {a : Str} (lo hi : Option Int) (h : Asc a) : Asc (cutS a lo hi) := fun c hc => h c (List.mem_of_mem_drop (List.mem_of_mem_take hc))
theorem asc_one {c : Nat} (h : c < 16 ^ 8) : Asc ⟨#[c]⟩ := by intro d hd; rw [List.mem_singleton.mp hd]; exact h
theorem asc_fig (d : Int) : Asc (figS d) := by
  refine asc_one ?_
  rw [List.getD_eq_getElem?_getD]
  cases e : ("0123456789" : Str).cps.toList[d.toNat]? with
  | none => decide
  | some c => exact (show ∀ c ∈ ("0123456789" : Str).cps.toList, c < 16 ^ 8 by decide +kernel) c (List.mem_of_getElem? e)
theorem asc_rep {a : Str} {n : Int} (c : Nat) (ha : a = ⟨#[c]⟩) (h : c < 16 ^ 8) : Asc (Txt.mul a n) := by
  subst ha
  intro d hd
  rw [mul_one_list] at hd
  rw [List.eq_of_mem_replicate hd]; exact h
theorem len_rep {a : Str} {n : Nat} (c : Nat) (ha : a = ⟨#[c]⟩) : (Txt.mul a (n : Int)).length = n := by
  subst ha
  rw [len_list, mul_one_list, List.length_replicate]; rfl
theorem mul0 : MulOk "0" 4301 := ⟨by decide, fun _ _ => by decide, fun _ _ => by decide⟩
def R_bent (P : Program) (w : World) : V → V → Hp → VK → Prop := fun x y H Q => ∃ (p : Addr) (n : Nat) (t : Str), x = .ref p ∧ y = .str t ∧ H p = some (PotO P w n p) ∧ n ≤ 100000000 ∧ t.length ≤ 100 ∧ Asc t ∧
  ∀ (z : Str) (H' : Hp) (m : Nat), Mx H H' → m ≤ n + 4 → H' p = some (PotO P w m p) → z.length ≤ 4990 → Asc z → Q (.str z) H'

/-! ### long texts of one figure, as constants -/
@[irreducible] def rep9 : Str := Txt.mul "9" 4301
@[irreducible] def rep0 : Str := Txt.mul "0" 4301
theorem rep9_eq : Txt.mul "9" 4301 = rep9 := by unfold rep9; rfl
theorem rep0_eq : Txt.mul "0" 4301 = rep0 := by unfold rep0; rfl
theorem rep9_len : rep9.length = 4301 := by rw [← rep9_eq]; exact mul9_len
theorem rep0_len : rep0.length = 4301 := by rw [← rep0_eq]; exact len_rep (n := 4301) 48 rfl
theorem rep9_asc : Asc rep9 := by rw [← rep9_eq]; exact asc_rep 57 rfl (by decide)
theorem rep0_asc : Asc rep0 := by rw [← rep0_eq]; exact asc_rep 48 rfl (by decide)
section
variable {X : Cx} {k1 k2 : Nat} {p1 p2 p3 : Pos}
theorem pe_rep9 : PE X (.BinOp (.Constant (.str "9") k1 p1) .Mult (.Constant (.int 4301) k2 p2) p3) (tC (.str rep9)) :=
  ⟨fun pins s σ H Q I h => (pe_op op_mulM pe_str pe_int).run pins s σ H Q I (by show rMulM (.str "9") (.int 4301) H Q; exact g_mulS mul9 (by rw [rep9_eq]; exact h))⟩
theorem pe_rep0 : PE X (.BinOp (.Constant (.str "0") k1 p1) .Mult (.Constant (.int 4301) k2 p2) p3) (tC (.str rep0)) :=
  ⟨fun pins s σ H Q I h => (pe_op op_mulM pe_str pe_int).run pins s σ H Q I (by show rMulM (.str "0") (.int 4301) H Q; exact g_mulS mul0 (by rw [rep0_eq]; exact h))⟩
end
end L2.Pc

namespace K01
open PySem L2 L2.Pc
-- finding what is known: an object at an address, what a value holds
local macro_rules | `(tactic| walk_at "ca") => `(tactic| first
  | assumption
  | exact upd_same
  | (refine L2.Same.at (by assumption) ?_; walk_at "ca")
  | (refine Mx.at (by assumption) ?_ rfl; walk_at "ca")
  | (refine Eq.trans (upd_ne ?_) ?_; rotate_left; (walk_at "ca"); (walk_at "ne")))
local macro_rules | `(tactic| walk_at "ne") => `(tactic| first
  | assumption
  | (refine Ne.symm ?_; assumption)
  | (refine ne_of_none (o := ?no) ?nh (by assumption); (case nh => walk_at "ca"))
  | (refine Ne.symm (ne_of_none (o := ?no) ?nh (by assumption)); (case nh => walk_at "ca"))
  | (refine ne_of (by assumption) (by assumption) ?_; (intro z; cases z)))
local macro_rules | `(tactic| walk_at "sq") => `(tactic| first
  | assumption
  | (refine SqL.of ?_; walk_at "ca")
  | (refine SqT.of ?_; walk_at "ca")
  | exact Kt.sq (by assumption) _
  | (refine L2.SqL.mx (L2.Same.mx (by assumption)) ?_; walk_at "sq")
  | (refine L2.SqT.mx (L2.Same.mx (by assumption)) ?_; walk_at "sq")
  | (refine L2.SqL.mx (by assumption) ?_; walk_at "sq")
  | (refine L2.SqT.mx (by assumption) ?_; walk_at "sq"))
local macro_rules | `(tactic| walk_at "da") => `(tactic| first
  | assumption
  | exact Da.non
  | exact Da.bl _
  | exact Da.int _
  | exact Da.str _
  | (refine Da.mx (L2.Same.mx (by assumption)) ?_; walk_at "da")
  | (refine Da.mx (by assumption) ?_; walk_at "da"))
local macro_rules | `(tactic| walk_at "sz") => `(tactic| first
  | assumption
  | omega
  | (constructor <;> omega)
  | (refine Or.inl (Or.inl ⟨?_, ?_⟩) <;> omega)
  | (refine Or.inl (Or.inr ⟨?_, ?_⟩) <;> omega)
  | (refine Or.inr ?_; assumption)
  | (rw [szl]; first | assumption | omega | (simp only [strLen_append, one_len]; omega) | (simp only [List.length_cons, List.length_nil, List.length_append, List.length_map, List.length_take, List.length_drop, List.length_replicate, List.length_set]; omega))
  | decide
  | (rw [szl]; decide))
local macro_rules | `(tactic| walk_at "mx") => `(tactic| first
  | assumption
  | exact Mx.refl _
  | exact L2.Same.mx (by assumption)
  | (refine Mx.trans ?_ (L2.Same.mx (by assumption)); walk_at "mx")
  | (refine Mx.trans ?_ (by assumption); walk_at "mx"))
-- one step of a reading
local macro_rules | `(tactic| walk_at "sqo") => `(tactic| first
  | (refine Or.inl ?_; walk_at "sq"; done)
  | (refine Or.inr ?_; walk_at "sq"; done)
  | (walk_at "sq"; done)
  | (walk_at "ca"; done))
local macro_rules | `(tactic| walk_at "st") => `(tactic| first
  | (refine Step.imp ?_)
  | (refine g_new ?_; intro p H' hp he hv)
  | (refine g_kT ?_ ?_; assumption)
  | (refine g_kF ?_ ?_; assumption)
  | (refine g_knT ?_ ?_; assumption)
  | (refine g_knF ?_ ?_; assumption)
  | (refine g_draw (n := ?dm) ?dp ?d1 ?d2 ?dn ?dq; (case dp => walk_at "ca"); (case d1 => first | decide | omega); (case d2 => first | decide | omega); (case dn => first | omega | assumption); intro r H' r0 r1 x7 hp7)
  | (refine ⟨(by rfl : wipe _ _ = _), ?_⟩)
  | (refine ⟨(by rfl : flatV _ = true), (by first | rfl | decide +kernel : List.all _ flatV = true), ?_⟩)
  | (refine ⟨(by rfl : List.length _ = _), ?_⟩)
  | (refine StepZ.imp ?zc ?zn; case zc => ((try dsimp only); walk_at "sz"))
  | (refine StepQ.imp ?qx ?qc ?qn; case qc => ((try dsimp only); walk_at "sqo"))
  | (refine ⟨_, (by assumption : atI _ _ = some _), ?_⟩)
  | (refine ⟨_, (by assumption : PySem.intText? _ = some _), ?_⟩)
  | (refine ⟨_, (by with_unfolding_all rfl : atI _ _ = some _), ?_⟩)
  | (refine ⟨_, (by with_unfolding_all rfl : ixN _ _ = some _), ?_⟩)
  | (refine StepD.imp ?dx ?dc ?dn; case dc => ((try dsimp only); walk_at "da")))
local macro_rules | `(tactic| walk_at "go") => `(tactic| (repeat (walk_at "st"); try dsimp only))

def topS (i : Nat) : Stmt := PySem.Challenge.pw_pinnedcards_k01_moments_shown_and_read.main.body.getD i (.Pass ⟨0, 0, 0, 0⟩)
abbrev s_NoText_init : Stmt := inClass (topS 2) 0
theorem sc_NoText_init : FnScope ["self", "text"] ["self", "text"] (defScope s_NoText_init) :=
  ⟨rfl, rfl, rfl, by decide +kernel, rfl, by decide +kernel, by decide +kernel⟩

abbrev s_number_of : Stmt := topS 7
theorem sc_number_of : FnScope ["text", "least", "most"] ["text", "least", "most"] (defScope s_number_of) :=
  ⟨rfl, rfl, rfl, by decide +kernel, rfl, by decide +kernel, by decide +kernel⟩

abbrev s_show_moment : Stmt := topS 8
theorem sc_show_moment : FnScope ["moment"] ["moment"] (defScope s_show_moment) :=
  ⟨rfl, rfl, rfl, by decide +kernel, rfl, by decide +kernel, by decide +kernel⟩

abbrev s_moment_of : Stmt := topS 9
theorem sc_moment_of : FnScope ["text", "days", "day", "sign", "hour"] ["text"] (defScope s_moment_of) :=
  ⟨rfl, rfl, rfl, by decide +kernel, rfl, by decide +kernel, by decide +kernel⟩

abbrev s_read_moment : Stmt := topS 10
theorem sc_read_moment : FnScope ["text", "found"] ["text"] (defScope s_read_moment) :=
  ⟨rfl, rfl, rfl, by decide +kernel, rfl, by decide +kernel, by decide +kernel⟩

abbrev s_law_begin : Stmt := topS 12
theorem sc_law_begin : FnScope ["_law_script", "_law_k", "_law_one", "_law_cell", "_law_seed"] ["_law_script", "_law_k"] (defScope s_law_begin) :=
  ⟨rfl, rfl, rfl, by decide +kernel, rfl, by decide +kernel, by decide +kernel⟩

abbrev s_law_draw : Stmt := topS 13
theorem sc_law_draw : FnScope ["_law_pot", "_law_many", "_law_go", "_law_mixed", "_law_digit"] ["_law_pot", "_law_many"] (defScope s_law_draw) :=
  ⟨rfl, rfl, rfl, by decide +kernel, rfl, by decide +kernel, by decide +kernel⟩

abbrev s_law_moment : Stmt := topS 14
theorem sc_law_moment : FnScope ["_law_pot", "_law_some"] ["_law_pot"] (defScope s_law_moment) :=
  ⟨rfl, rfl, rfl, by decide +kernel, rfl, by decide +kernel, by decide +kernel⟩

abbrev s_law_when : Stmt := topS 15
theorem sc_law_when : FnScope ["_law_at"] ["_law_at"] (defScope s_law_when) :=
  ⟨rfl, rfl, rfl, by decide +kernel, rfl, by decide +kernel, by decide +kernel⟩

abbrev s_law_odd : Stmt := topS 16
theorem sc_law_odd : FnScope ["_law_pot", "_law_thing", "_law_some", "_law_found", "_law_turn"] ["_law_pot", "_law_thing"] (defScope s_law_odd) :=
  ⟨rfl, rfl, rfl, by decide +kernel, rfl, by decide +kernel, by decide +kernel⟩

abbrev s_law_due : Stmt := topS 17
theorem sc_law_due : FnScope ["_law_thing", "_law_day", "_law_hour", "_law_sign"] ["_law_thing"] (defScope s_law_due) :=
  ⟨rfl, rfl, rfl, by decide +kernel, rfl, by decide +kernel, by decide +kernel⟩

abbrev s_law_read : Stmt := topS 18
theorem sc_law_read : FnScope ["_law_thing", "_law_found", "e"] ["_law_thing"] (defScope s_law_read) :=
  ⟨rfl, rfl, rfl, by decide +kernel, rfl, by decide +kernel, by decide +kernel⟩

abbrev s_law_bent : Stmt := topS 19
theorem sc_law_bent : FnScope ["_law_pot", "_law_told", "_law_sign", "_law_some", "_law_at", "_law_way"] ["_law_pot", "_law_told"] (defScope s_law_bent) :=
  ⟨rfl, rfl, rfl, by decide +kernel, rfl, by decide +kernel, by decide +kernel⟩

abbrev s_law : Stmt := topS 20
theorem sc_law : FnScope ["_law_script", "_law_k", "_law_pot", "_law_tour", "_law_moment_here", "_law_told", "_law_thing", "_law_due_here"] ["_law_script"] (defScope s_law) :=
  ⟨rfl, rfl, rfl, by decide +kernel, rfl, by decide +kernel, by decide +kernel⟩

structure Ad where
  c_CardError : Addr
  c_NoText : Addr
  i_NoText : Addr
structure Tx (K : PySem.W.Frag) (mg : Str → Option Value) (ad : Ad) : Prop where
  MOMENTS : Gm mg "MOMENTS" (.int 9600)
  HOURS : Gm mg "HOURS" (.int 24)
  FIGURES : Gm mg "FIGURES" (.str "0123456789")
  b_abs : mg "abs" = none
  b_all : mg "all" = none
  b_int : mg "int" = none
  b_isinstance : mg "isinstance" = none
  b_len : mg "len" = none
  b_range : mg "range" = none
  b_repr : mg "repr" = none
  b_str : mg "str" = none
  B_CardError : XbK K mg "CardError" ad.c_CardError
  X_NoText : XcK K mg "NoText" ad.c_NoText ad.i_NoText ["text"]

section
variable {P : Program} {w : World} {K : PySem.W.Frag} {mg : Str → Option Value} {base : Heap} {ad : Ad} {f : Addr} {fd : FuncData}

theorem ok_NoText_init (T : Tx K mg ad) (F : Df K "__init__" "NoText.__init__" s_NoText_init f fd) :
    FnG P w K mg base CX0 1 f fd ["self", "text"] (Sp2 (R_exc1 ad.c_NoText "text")) := by
  refine F.ok0 sc_NoText_init (fun vs H Q E h => h.len) (fun cdv A outer s H vs Q E hga hr h => ?_)
  obtain ⟨_, y, rfl, a, rfl, ha, q⟩ := h
  refine ⟨_, (pss_cons (ps_expr (pe_cinit (K := K) rfl T.B_CardError (by rfl) (pa_cons (pv 0) (pa_cons pe_str pa_nil))))
      (pss_one (ps_ostK (K := K) rfl (pv 0) (pv 1)))), ?_⟩
  have hlits : (Str.ofString "no such text").length = 12 := rfl; rw [show start ["self", "text"] [.ref a, y] = [some (.ref a), some (y)] from rfl]; try dsimp only [cxOf, Cx.nox, Cx.wish]
  walk_at "go"
  refine ⟨a, ad.c_NoText, _, rfl, by decide, T.X_NoText.oe, ha, ?_⟩
  walk_at "go"
  refine ⟨a, ad.c_NoText, rfl, T.X_NoText.oe, T.X_NoText.no _ (by simp), .inl ⟨ha, fun dx nd ne => ?_⟩⟩
  walk_at "go"
  exact q dx nd ne

theorem ok_draw0 (F : Df K "_law_draw" "_law_draw" s_law_draw f fd) :
    FnG P w K mg base CX0 1 f fd ["_law_pot", "_law_many"] (Sp2 R_draw0) := by
  refine F.ok0 sc_law_draw (fun vs H Q E h => h.len) (fun cdv A outer s H vs Q E hga hr h => ?_)
  obtain ⟨_, _, rfl, p, k, a, b, c, n, rfl, rfl, hp, ok, k1, k2, hn, q⟩ := h
  have hu := hu64 hr
  refine ⟨_, (pss_cons (ps_if (pt_cmpR op_gt (pe_ix (k_ix (K := K) rfl) (pv 0) pe_int (fun _ _ => rfl)) pe_int (nomark _)) (pss_cons (ps_set (i := 4) sc_law_draw.nd rfl (by first | exact Or.inl rfl | exact Or.inr rfl) (pe_op op_mod (pe_ix (k_ix (K := K) rfl) (pv 0) pe_int (fun _ _ => rfl)) (pv 1)))
      (pss_cons (ps_asg (pe_op op_fdiv (pe_ix (k_ix (K := K) rfl) (pv 0) pe_int (fun _ _ => rfl)) (pv 1)) (pg_sub (pv 0) pe_int set_list))
      (pss_one (ps_ret (pv 4))))) pss_nil)
      (pss_cons (ps_asg (pe_op (k_add (K := K) rfl) (pe_ix (k_ix (K := K) rfl) (pv 0) pe_int (fun _ _ => rfl)) pe_int) (pg_sub (pv 0) pe_int set_list))
      (pss_cons (ps_set (i := 2) sc_law_draw.nd rfl (by first | exact Or.inl rfl | exact Or.inr rfl) (pe_ix (k_ix (K := K) rfl) (pv 0) pe_int (fun _ _ => rfl)))
      (pss_cons (ps_set (i := 3) sc_law_draw.nd rfl (by first | exact Or.inl rfl | exact Or.inr rfl) (pe_op op_mod (pe_op op_mulM (pe_op (k_add (K := K) rfl) (pe_ix (k_ix (K := K) rfl) (pv 0) pe_int (fun _ _ => rfl)) (pe_op op_mulM pe_int (pv 2))) (pe_op (k_add (K := K) rfl) (pe_op op_mulM (pe_op op_mulM (pv 2) (pv 2)) pe_int) pe_int)) pe_int))
      (pss_cons (ps_set (i := 3) sc_law_draw.nd rfl (by first | exact Or.inl rfl | exact Or.inr rfl) (pe_op op_mod (pe_op op_mulM (pv 3) (pe_op (k_add (K := K) rfl) (pe_op op_mod (pv 3) pe_int) (pv 2))) pe_int))
      (pss_one (ps_ret (pe_op op_mod (pe_op op_fdiv (pv 3) pe_int) (pv 1))))))))), ?_⟩
  rw [show start ["_law_pot", "_law_many", "_law_go", "_law_mixed", "_law_digit"] [.ref p, .int k] = [some (.ref p), some (.int k), none, none, none] from rfl]; try dsimp only [cxOf, Cx.nox, Cx.wish]
  walk_at "go"
  refine g_br (fun h1 => ?_) (fun h1 => ?_)
  · walk_at "go"
    have ha : 0 < a := by simpa using h1
    obtain ⟨a0, b0, b1, c0, c1⟩ := ok
    exact q (a % k) (a / k) b c (Int.emod_nonneg _ (by omega)) (Int.emod_lt_of_pos _ (by omega)) ⟨Int.ediv_nonneg a0 (by omega), b0, b1, c0, by omega⟩
  · obtain ⟨a0, b0, b1, c0, c1⟩ := ok
    obtain ⟨s1, s2⟩ := mulB (i := c + 1) (j := c + 1) (A := 4294967296) (B := 4294967296) (by omega) (by omega) (by omega) (by omega)
    have m1 : CMulW 40503 (c + 1) := cmn (by decide) (by decide) (by omega) (by omega)
    have m2 : CMulW (c + 1) (c + 1) := cmn (by omega) (by omega) (by omega) (by omega)
    have m3 : CMulW ((c + 1) * (c + 1)) 65539 := cmn s1 (by omega) (by decide) (by decide)
    have m4 : CMulW (b + 40503 * (c + 1)) ((c + 1) * (c + 1) * 65539 + 97) := cmn (by omega) (by omega) (by omega) (by omega)
    walk_at "go"
    exact q _ a b (c + 1) (Int.emod_nonneg _ (by omega)) (Int.emod_lt_of_pos _ (by omega)) ⟨a0, b0, b1, by omega, by omega⟩

theorem ok_draw (F : Df K "_law_draw" "_law_draw" s_law_draw f fd) :
    FnG P w K mg base CX0 1 f fd ["_law_pot", "_law_many"] (Sp2 (R_draw P w)) := by
  have F0 : FnG P w K mg base CX0 1 f fd ["_law_pot", "_law_many"] (Sp2 R_draw0) := ok_draw0 F
  have F1 := FnG.close (sp' := Sp2 fun x y H Q => ∃ (p : Addr) (k : Int) (n : Nat) (u : HO), x = .ref p ∧ y = .int k ∧ H p = some u ∧ PotR n u ∧
      1 ≤ k ∧ k < 1073741824 ∧ n ≤ 1000000000 ∧ ∀ r : Int, 0 ≤ r → r < k → Q (.int r) (upd H p (PotO P w (n + 1) p))) F0 ?_
  · refine FnG.open F1 ?_ (fun vs H Q E h => h.len)
    rintro vs H Q E ⟨x, y, rfl, p, k, n, rfl, rfl, hp, k1, k2, hn, q⟩
    refine ⟨p, PotR n, hp, fun u _ hu => ⟨_, _, rfl, p, k, n, u, rfl, rfl, upd_same, hu, k1, k2, hn, fun r r0 r1 => ?_⟩⟩
    rw [upd_upd]
    exact q r _ r0 r1 ((Mx.refl H).putX hp rfl) upd_same
  · rintro vs H Q E ⟨x, y, rfl, p, k, n, u, rfl, rfl, hp, ⟨a, b, c, rfl, ok⟩, k1, k2, hn, q⟩
    refine ⟨_, _, rfl, p, k, a, b, c, n, rfl, rfl, hp, ok, k1, k2, hn, fun r a' b' c' r0 r1 ok' => ?_⟩
    refine ⟨p, _, PotR (n + 1), upd_same, True.intro, ⟨a', b', c', rfl, ok'⟩, ?_⟩
    rw [upd_upd]
    exact q r r0 r1
theorem ok_begin0 (T : Tx K mg ad) (F : Df K "_law_begin" "_law_begin" s_law_begin f fd) :
    FnG P w K mg base CX0 1 f fd ["_law_script", "_law_k"] (Sp2 (R_begin0 K)) := by
  refine F.ok0 sc_law_begin (fun vs H Q E h => h.len) (fun cdv A outer s H vs Q E hga hr h => ?_)
  obtain ⟨_, _, rfl, sa, ns, k, rfl, rfl, hS, hk, hn, q⟩ := h
  have hu := hu64 hr
  refine ⟨_, (pss_cons (ps_par (i := 3) (j := 4) (by rfl) sc_law_begin.nd rfl rfl (by decide) rfl rfl (pa_cons (pe_cut (pe_ifExp (pt_cmpR op_lt (pv 1) (pe_callB (k_len (K := K) rfl) (by rfl) T.b_len bt_len (pa_cons (pv 0) pa_nil)) (nomark _)) (pe_ix (k_ix (K := K) rfl) (pv 0) (pv 1) (fun _ _ => rfl)) pe_int)) (pa_cons (pe_op (k_add (K := K) rfl) (pe_op op_mulM pe_int (pv 1)) pe_int) pa_nil)) (by rfl))
      (pss_cons (ps_for PassesOwn.never rfl (pi_list (pe_op (k_add (K := K) rfl) (pe_lst (pa_cons (pv 3) pa_nil)) (pe_slice (k_sl (K := K) rfl) (pv 0) po_none (po_some pe_int)))) (pg_name (i := 2) sc_law_begin.nd rfl (by first | exact Or.inl rfl | exact Or.inr rfl))
      (pss_one (ps_set (i := 4) sc_law_begin.nd rfl (by first | exact Or.inl rfl | exact Or.inr rfl) (pe_op op_mod (pe_op (k_add (K := K) rfl) (pe_op (k_add (K := K) rfl) (pe_op op_mulM (pv 4) pe_int) (pe_op op_mulM pe_int (pe_callB call_absM (by rfl) T.b_abs bt_abs (pa_cons (pv 2) pa_nil)))) (pe_callTy call_intM (by rfl) T.b_int bt_int (pa_cons (pe_cmpR op_lt (pv 2) pe_int (nomark _)) pa_nil))) pe_int))))
      (pss_one (ps_ret (pe_lst (pa_cons (pe_cut (pe_ifExp (pt_cmpR op_ge (pe_callB call_absM (by rfl) T.b_abs bt_abs (pa_cons (pv 3) pa_nil)) (pe_op op_pow pe_int pe_int) (nomark _)) (pe_callB call_absM (by rfl) T.b_abs bt_abs (pa_cons (pv 3) pa_nil)) pe_int)) (pa_cons (pv 4) (pa_cons pe_int pa_nil)))))))), ?_⟩
  rw [show start ["_law_script", "_law_k", "_law_one", "_law_cell", "_law_seed"] [.ref sa, .int k] = [some (.ref sa), some (.int k), none, none, none] from rfl]; try dsimp only [cxOf, Cx.nox, Cx.wish]
  walk_at "go"
  refine g_cutV (fun v => ∃ c : Int, v = .int c) ?_ ?_
  · walk_at "go"
    refine g_br (fun h1 => ?_) (fun h1 => ?_)
    · walk_at "go"
      obtain ⟨m, _, e⟩ := atI_map V.int (xs := ns) (i := k) (by omega) (by simpa using h1)
      exact ⟨_, e, ⟨m, rfl⟩, rfl⟩
    · walk_at "go"
      exact ⟨⟨_, rfl⟩, rfl⟩
  rintro _ ⟨c, rfl⟩
  have ec : cutV (ns.map V.int) none (some 60) = (ns.take 60).map V.int := by rw [List.map_take]; exact cutV_to _ 60
  walk_at "go"
  rename_i p1 H1 n1 e1 v1 p2 H2 n2 e2 v2
  rw [ec] at v2 ⊢
  walk_at "go"
  rename_i p3 H3 n3 e3 v3
  have ev : [V.int c] ++ (ns.take 60).map V.int = (c :: ns.take 60).map V.int := rfl
  rw [ev] at v3
  refine forG (src_list K p3 ((c :: ns.take 60).map V.int)) (fun i σ' H' => H' = H3 ∧ ∃ (b : Int) (o : Option V), σ' = [some (.ref sa), some (.int k), o, some (.int c), some (.int b)] ∧ 0 ≤ b ∧ b < 2305843009213693952) ?_ ?_ ?_ ?_
  · exact ⟨rfl, _, _, rfl, by omega, by omega⟩
  · rintro i σ' H' _ ⟨rfl, _⟩
    exact SqL.of v3
  · rintro i σ' H' hi ⟨rfl, b, o, rfl, b0, b1⟩
    rw [List.length_map] at hi
    dsimp only
    rw [getD_map V.int hi]
    generalize (c :: ns.take 60)[i] = m
    walk_at "go"
    refine ⟨rfl, _, _, rfl, Int.emod_nonneg _ (by decide), Int.lt_trans (Int.emod_lt_of_pos _ (by decide)) (by decide)⟩
  · rintro σ' H' ⟨rfl, b, o, rfl, b0, b1⟩
    walk_at "go"
    refine g_cutV (fun v => ∃ d : Int, v = .int d ∧ 0 ≤ d) ?_ ?_
    · walk_at "go"
      refine g_br (fun h1 => ?_) (fun h1 => ?_)
      · walk_at "go"
        refine ⟨⟨_, rfl, ?_⟩, rfl⟩
        split <;> omega
      · walk_at "go"
        exact ⟨⟨_, rfl, by decide⟩, rfl⟩
    rintro _ ⟨d, rfl, d0⟩
    walk_at "go"
    rename_i p4 H4 n4 e4 v4
    have e04 : Same H H4 := ((e1.trans e2).trans e3).trans e4
    exact q p4 H4 d b (((e1.trans e2).trans e3).free n4) e04 v4 ⟨d0, b0, b1, by decide, by decide⟩

theorem ok_begin (T : Tx K mg ad) (F : Df K "_law_begin" "_law_begin" s_law_begin f fd) :
    FnG P w K mg base CX0 1 f fd ["_law_script", "_law_k"] (Sp2 (R_begin P w K)) := by
  refine FnG.close (ok_begin0 T F) ?_
  rintro vs H Q E ⟨x, y, rfl, s, ns, k, rfl, rfl, hS, hk, hn, q⟩
  refine ⟨_, _, rfl, s, ns, k, rfl, rfl, hS, hk, hn, fun p H' a b n e h ok => ?_⟩
  exact ⟨p, _, PotR 0, h, True.intro, ⟨a, b, 0, rfl, ok⟩, q p _ n (Same.put e n) upd_same⟩
def R_odd (P : Program) (w : World) (K : PySem.W.Frag) : V → V → Hp → VK → Prop := fun x y H Q => ∃ (p : Addr) (n : Nat) (d : PyData), x = .ref p ∧
  H p = some (PotO P w n p) ∧ n ≤ 100000000 ∧ Da K H y d ∧ GoodD 0 d ∧
  ∀ (v : V) (H' : Hp) (d' : PyData) (m : Nat), Mx H H' → m ≤ n + 28 → H' p = some (PotO P w m p) → Da K H' v d' → GoodD 27 d' → Q v H'
theorem ok_odd (T : Tx K mg ad) (F : Df K "_law_odd" "_law_odd" s_law_odd f fd)
    (G_law_draw : Kn P w K mg base CX0 "_law_draw" 1 2 [] (fun vs _ => vs) (Sp2 (R_draw P w))) :
    FnG P w K mg base CX0 2 f fd ["_law_pot", "_law_thing"] (Sp2 (R_odd P w K)) := by
  refine F.ok0 sc_law_odd (fun vs H Q E h => h.len) (fun cdv A outer s H vs Q E hga hr h => ?_)
  obtain ⟨_, y, rfl, p, n, d, rfl, hp, hn, hd, gd, q⟩ := h
  have hu := hu64 hr
  refine ⟨_, (pss_cons (ps_set (i := 2) sc_law_odd.nd rfl (by first | exact Or.inl rfl | exact Or.inr rfl) (pe_lst (pa_cons pe_non (pa_cons pe_bl (pa_cons pe_bl (pa_cons pe_int (pa_cons pe_int (pa_cons (pe_un un_neg pe_int) (pa_cons pe_str (pa_cons pe_str (pa_cons (pe_tup pa_nil) (pa_cons (pe_lst pa_nil) (pa_cons pe_dnewK (pa_cons (pe_tup (pa_cons (pv 1) pa_nil)) (pa_cons (pe_lst (pa_cons (pv 1) pa_nil)) (pa_cons (pe_op op_pow pe_int pe_int) (pa_cons pe_str (pa_cons pe_str (pa_cons (pe_op op_mulM pe_str pe_int) pa_nil)))))))))))))))))))
      (pss_cons (ps_set (i := 3) sc_law_odd.nd rfl (by first | exact Or.inl rfl | exact Or.inr rfl) (pe_ix (k_ix (K := K) rfl) (pv 2) (pe_kn G_law_draw hga (hr.mono (by decide)) (by rfl) pass0 (pa_cons (pv 0) (pa_cons pe_int pa_nil))) (fun _ _ => rfl)))
      (pss_cons (ps_for PassesOwn.never rfl (pi_range1 rfl T.b_range (pa_cons (pe_ix (k_ix (K := K) rfl) (pe_lst (pa_cons pe_int (pa_cons pe_int (pa_cons pe_int (pa_cons pe_int pa_nil))))) (pe_kn G_law_draw hga (hr.mono (by decide)) (by rfl) pass0 (pa_cons (pv 0) (pa_cons pe_int pa_nil))) (fun _ _ => rfl)) pa_nil)) (pg_name (i := 4) sc_law_odd.nd rfl (by first | exact Or.inl rfl | exact Or.inr rfl))
      (pss_one (ps_set (i := 3) sc_law_odd.nd rfl (by first | exact Or.inl rfl | exact Or.inr rfl) (pe_ix (k_ix (K := K) rfl) (pe_lst (pa_cons (pe_tup (pa_cons (pv 3) pa_nil)) (pa_cons (pe_lst (pa_cons (pv 3) pa_nil)) pa_nil))) (pe_kn G_law_draw hga (hr.mono (by decide)) (by rfl) pass0 (pa_cons (pv 0) (pa_cons pe_int pa_nil))) (fun _ _ => rfl)))))
      (pss_one (ps_ret (pv 3)))))), ?_⟩
  have hlits : (Str.ofString "").length = 0 ∧ (Str.ofString " ").length = 1 ∧ (Str.ofString "9").length = 1 ∧ (Str.ofString "a").length = 1 ∧ (Str.ofString "pin").length = 3 := ⟨rfl, rfl, rfl, rfl, rfl⟩; rw [show start ["_law_pot", "_law_thing", "_law_some", "_law_found", "_law_turn"] [.ref p, y] = [some (.ref p), some (y), none, none, none] from rfl]; try dsimp only [cxOf, Cx.nox, Cx.wish]
  have m9 := mul9
  walk_at "go"
  rename_i p1 H1 n1 e1 v1 p2 H2 n2 e2 v2 p3 H3 n3 e3 v3 p4 H4 n4 e4 v4 p5 H5 n5 e5 v5 p6 H6 n6 e6 v6 r H7 r0 r1 x7 hp7
  obtain ⟨v, ev, mv, _⟩ := atI_int (α := V) (i := r) (xs := [.non, .bl true, .bl false, .int 0, .int 1, .int (-1), .str "", .str "a", .ref p1, .ref p2, .ref p3, .ref p4, .ref p5, .int (10 ^ Int.toNat 30), .str "pin", .str " ", .str (Txt.mul "9" 4301)]) r0 r1
  have z := hd.mx e1.mx |>.mx e2.mx |>.mx e3.mx
  have all : ∀ v ∈ ([.non, .bl true, .bl false, .int 0, .int 1, .int (-1), .str "", .str "a", .ref p1, .ref p2, .ref p3, .ref p4, .ref p5, .int (10 ^ Int.toNat 30), .str "pin", .str " ", .str (Txt.mul "9" 4301)] : List V), ∃ d', Da K H6 v d' ∧ GoodD 1 d' := by
    have z0 : 0 ≤ 1 := by decide
    simp only [List.forall_mem_cons]
    exact ⟨⟨_, .non, good_non.mono z0⟩, ⟨_, .bl _, (good_bl _).mono z0⟩, ⟨_, .bl _, (good_bl _).mono z0⟩, ⟨_, .int _, (good_int (by decide +kernel)).mono z0⟩, ⟨_, .int _, (good_int (by decide +kernel)).mono z0⟩, ⟨_, .int _, (good_int (by decide +kernel)).mono z0⟩,
      ⟨_, .str _, (good_str (by decide +kernel) (by decide +kernel)).mono z0⟩, ⟨_, .str _, (good_str (by decide +kernel) (by decide +kernel)).mono z0⟩,
      ⟨_, .tup (xs := []) (by walk_at "sq") .nil, good_nilT⟩, ⟨_, .lst (xs := []) (by walk_at "sq") .nil, good_nilL⟩, ⟨_, .dct (kvs := []) (by walk_at "ca") .nil, good_nilM⟩,
      ⟨_, .tup (xs := [y]) (by walk_at "sq") (.cons (by walk_at "da") .nil), good_tup1 gd⟩, ⟨_, .lst (xs := [y]) (by walk_at "sq") (.cons (by walk_at "da") .nil), good_lst1 gd⟩,
      ⟨_, .int _, (good_int (by decide +kernel)).mono z0⟩, ⟨_, .str _, (good_str (by decide +kernel) (by decide +kernel)).mono z0⟩, ⟨_, .str _, (good_str (by decide +kernel) (by decide +kernel)).mono z0⟩, ⟨_, .str _, good_mul9.mono z0⟩, nofun⟩
  refine ⟨v, ev, ?_⟩
  obtain ⟨d1, hd1, gd1⟩ := all v mv
  walk_at "go"
  rename_i p8 H8 n8 e8 v8 r2 H9 r20 r21 x9 hp9
  obtain ⟨j, mj, ej⟩ := atI_map (f := V.int) (xs := [0, 0, 1, 26]) (i := r2) r20 r21
  have hj : 0 ≤ j ∧ j ≤ 26 := by
    simp only [List.mem_cons, List.not_mem_nil, or_false] at mj
    omega
  refine ⟨_, ej, ?_⟩
  walk_at "go"
  refine ⟨j, rfl, by omega, by omega, ?_⟩
  refine forG (src_rng 0 j.toNat) (fun i σ' H' => Mx H H' ∧ H' p = some (PotO P w (n + 2 + i) p) ∧ ∃ (v' : V) (o : Option V) (d' : PyData),
    σ' = [some (.ref p), some y, some (.ref p6), some v', o] ∧ Da K H' v' d' ∧ GoodD (1 + i) d') ?_ (fun _ _ _ _ _ => True.intro) ?_ ?_
  · exact ⟨by walk_at "mx", hp9, v, _, d1, rfl, by walk_at "da", gd1⟩
  · rintro i σ' H' hi ⟨xh, hp', v', o, d', rfl, hd', gd'⟩
    walk_at "go"
    rename_i p10 H10 n10 e10 v10 p11 H11 n11 e11 v11 p12 H12 n12 e12 v12 r3 H13 r30 r31 x13 hp13
    have all2 : ∀ u ∈ ([.ref p10, .ref p11] : List V), ∃ d', Da K H13 u d' ∧ GoodD (1 + i + 1) d' := by
      simp only [List.forall_mem_cons]
      exact ⟨⟨_, .tup (xs := [v']) (by walk_at "sq") (.cons (by walk_at "da") .nil), good_tup1 gd'⟩, ⟨_, .lst (xs := [v']) (by walk_at "sq") (.cons (by walk_at "da") .nil), good_lst1 gd'⟩, nofun⟩
    obtain ⟨u, eu, mu, _⟩ := atI_int (α := V) (i := r3) (xs := [.ref p10, .ref p11]) r30 r31
    obtain ⟨d2, hd2, gd2⟩ := all2 u mu
    refine ⟨u, eu, ?_⟩
    walk_at "go"
    exact ⟨by walk_at "mx", hp13, u, _, d2, rfl, hd2, gd2⟩
  · rintro σ' H' ⟨xh, hp', v', o, d', rfl, hd', gd'⟩
    walk_at "go"
    exact q _ _ d' _ xh (by omega) hp' hd' (gd'.mono (by omega))
theorem ok_moment (T : Tx K mg ad) (F : Df K "_law_moment" "_law_moment" s_law_moment f fd)
    (G_law_draw : Kn P w K mg base CX0 "_law_draw" 1 2 [] (fun vs _ => vs) (Sp2 (R_draw P w))) :
    FnG P w K mg base CX0 2 f fd ["_law_pot"] (Sp1 (R_moment P w)) := by
  refine F.ok0 sc_law_moment (fun vs H Q E h => h.len) (fun cdv A outer s H vs Q E hga hr h => ?_)
  obtain ⟨_, rfl, p, n, rfl, hp, hn, q⟩ := h
  have hu := hu64 hr
  refine ⟨_, (pss_cons (ps_set (i := 1) sc_law_moment.nd rfl (by first | exact Or.inl rfl | exact Or.inr rfl) (pe_lst (pa_cons pe_int (pa_cons pe_int (pa_cons (pe_op op_mulM pe_int (pe_kn G_law_draw hga (hr.mono (by decide)) (by rfl) pass0 (pa_cons (pv 0) (pa_cons pe_int pa_nil)))) (pa_cons (pe_op (k_add (K := K) rfl) (pe_op op_mulM pe_int (pe_kn G_law_draw hga (hr.mono (by decide)) (by rfl) pass0 (pa_cons (pv 0) (pa_cons pe_int pa_nil)))) pe_int) (pa_cons (pe_kn G_law_draw hga (hr.mono (by decide)) (by rfl) pass0 (pa_cons (pv 0) (pa_cons pe_int pa_nil))) (pa_cons (pe_kn G_law_draw hga (hr.mono (by decide)) (by rfl) pass0 (pa_cons (pv 0) (pa_cons pe_int pa_nil))) pa_nil))))))))
      (pss_one (ps_ret (pe_ix (k_ix (K := K) rfl) (pv 1) (pe_kn G_law_draw hga (hr.mono (by decide)) (by rfl) pass0 (pa_cons (pv 0) (pa_cons pe_int pa_nil))) (fun _ _ => rfl))))), ?_⟩
  rw [show start ["_law_pot", "_law_some"] [.ref p] = [some (.ref p), none] from rfl]; try dsimp only [cxOf, Cx.nox, Cx.wish]
  walk_at "go"
  rename_i r1 H1 r10 r11 x1 hp1 r2 H2 r20 r21 x2 hp2 r3 H3 r30 r31 x3 hp3 r4 H4 r40 r41 x4 hp4 p5 H5 n5 e5 v5 r6 H6 r60 r61 x6 hp6
  obtain ⟨v, ev, mv, _⟩ := atI_int (α := V) (i := r6) (xs := [.int 0, .int 9599, .int (24 * r1), .int (24 * r2 + 23), .int r3, .int r4]) r60 r61
  have all : ∀ v ∈ ([.int 0, .int 9599, .int (24 * r1), .int (24 * r2 + 23), .int r3, .int r4] : List V), ∃ m : Int, v = .int m ∧ 0 ≤ m ∧ m < 9600 := by
    simp only [List.forall_mem_cons]
    refine ⟨⟨_, rfl, ?_⟩, ⟨_, rfl, ?_⟩, ⟨_, rfl, ?_⟩, ⟨_, rfl, ?_⟩, ⟨_, rfl, ?_⟩, ⟨_, rfl, ?_⟩, nofun⟩ <;> omega
  obtain ⟨m, rfl, m0, m1⟩ := all v mv
  refine ⟨_, ev, ?_⟩
  exact q m _ (n + 5) (by walk_at "mx") (by omega) hp6 m0 m1
theorem ok_when (T : Tx K mg ad) (F : Df K "_law_when" "_law_when" s_law_when f fd) :
    FnG P w K mg base CX0 1 f fd ["_law_at"] (Sp1 R_when) := by
  refine F.ok0 sc_law_when (fun vs H Q E h => h.len) (fun cdv A outer s H vs Q E hga hr h => ?_)
  obtain ⟨_, rfl, m, rfl, h0, h1, q⟩ := h
  have hu := hu64 hr
  refine ⟨_, (pss_one (ps_ret (pe_op (k_add (K := K) rfl) (pe_op (k_add (K := K) rfl) (pe_op (k_add (K := K) rfl) (pe_callTy call_strM (by rfl) T.b_str bt_str (pa_cons (pe_op op_fdiv (pv 0) pe_int) pa_nil)) pe_str) (pe_ix (k_ix (K := K) rfl) pe_str (pe_op op_fdiv (pe_op op_mod (pv 0) pe_int) pe_int) (fun _ _ => rfl))) (pe_ix (k_ix (K := K) rfl) pe_str (pe_op op_mod (pe_op op_mod (pv 0) pe_int) pe_int) (fun _ _ => rfl))))), ?_⟩
  have hlits : (Str.ofString ".").length = 1 ∧ (Str.ofString "0123456789").length = 10 := ⟨rfl, rfl⟩; rw [show start ["_law_at"] [.int m] = [some (.int m)] from rfl]; try dsimp only [cxOf, Cx.nox, Cx.wish]
  have l1 := log_small (i := m / 24) (by omega) (by omega)
  have l2 := int_len (i := m / 24) (by omega) (by omega)
  have a1 := atFig (d := m % 24 / 10) (by omega) (by omega)
  have a2 := atFig (d := m % 24 % 10) (by omega) (by omega)
  walk_at "go"
  have e : whenT m = (toString (m / 24) : Str) ++ "." ++ figS (m % 24 / 10) ++ figS (m % 24 % 10) := by
    unfold whenT
    rw [two_figs' (by omega) (by omega), str_assoc _ (figS _) (figS _)]
  rw [e] at q
  exact q
theorem ok_show (T : Tx K mg ad) (F : Df K "show_moment" "show_moment" s_show_moment f fd) :
    FnG P w K mg base CX0 1 f fd ["moment"] (Sp1 R_when) := by
  refine F.ok0 sc_show_moment (fun vs H Q E h => h.len) (fun cdv A outer s H vs Q E hga hr h => ?_)
  obtain ⟨_, rfl, m, rfl, h0, h1, q⟩ := h
  have hu := hu64 hr
  refine ⟨_, (pss_one (ps_ret (pe_op (k_add (K := K) rfl) (pe_op (k_add (K := K) rfl) (pe_callTy call_strM (by rfl) T.b_str bt_str (pa_cons (pe_op op_fdiv (pv 0) (pe_gm T.HOURS (by rfl))) pa_nil)) pe_str) (pe_m1 PySem.F.slot_str_zfill PySem.F.type_str_zfill mt_zfillM (pe_callTy call_strM (by rfl) T.b_str bt_str (pa_cons (pe_op op_mod (pv 0) (pe_gm T.HOURS (by rfl))) pa_nil)) pe_int)))), ?_⟩
  have hlits : (Str.ofString ".").length = 1 := rfl; rw [show start ["moment"] [.int m] = [some (.int m)] from rfl]; try dsimp only [cxOf, Cx.nox, Cx.wish]
  have l1 := log_small (i := m / 24) (by omega) (by omega)
  have l2 := int_len (i := m / 24) (by omega) (by omega)
  have l3 := log_small (i := m % 24) (by omega) (by omega)
  have l4 : (Txt.zfill (toString (m % 24) : Str) 2).length = 2 := by rw [two_figs' (by omega) (by omega), strLen_append]; rfl
  walk_at "go"
  exact q
theorem ok_number (T : Tx K mg ad) (F : Df K "number_of" "number_of" s_number_of f fd) :
    FnG P w K mg base CX0 1 f fd ["text", "least", "most"] (Sp3 R_number) := by
  refine F.ok0 sc_number_of (fun vs H Q E h => h.len) (fun cdv A outer s H vs Q E hga hr h => ?_)
  obtain ⟨_, _, _, rfl, s', lo, hi, rfl, rfl, rfl, hs, h0, h1, q⟩ := h
  have hu := hu64 hr
  refine ⟨_, (pss_cons (ps_if (PW.pt (pw_or (pt_not (pt_chain op_le op_le pe_int (pe_callB (k_len (K := K) rfl) (by rfl) T.b_len bt_len (pa_cons (pv 0) pa_nil)) (pe_callB (k_len (K := K) rfl) (by rfl) T.b_len bt_len (pa_cons (pe_callTy call_strM (by rfl) T.b_str bt_str (pa_cons (pv 2) pa_nil)) pa_nil)))) (pw_or1 (pt_cmpR (k_ne (K := K) rfl hu) (pe_m1 PySem.F.slot_str_strip PySem.F.type_str_strip mt_stripM (pv 0) (pe_gm T.FIGURES (by rfl))) pe_str (nomark _))))) (pss_one (ps_ret pe_non)) pss_nil)
      (pss_cons (ps_if (PW.pt (pw_and (pt_cmpR (k_eq (K := K) rfl hu) (pe_ix (k_ix (K := K) rfl) (pv 0) pe_int (fun _ _ => rfl)) pe_str (nomark _)) (pw_and1 (pt_cmpR (k_ne (K := K) rfl hu) (pv 0) pe_str (nomark _))))) (pss_one (ps_ret pe_non)) pss_nil)
      (pss_one (ps_ret (pe_ifExp (pt_chain op_le op_le (pv 1) (pe_callTy call_intM (by rfl) T.b_int bt_int (pa_cons (pv 0) pa_nil)) (pv 2)) (pe_callTy call_intM (by rfl) T.b_int bt_int (pa_cons (pv 0) pa_nil)) pe_non))))), ?_⟩
  have hlits : (Str.ofString "").length = 0 ∧ (Str.ofString "0").length = 1 := ⟨rfl, rfl⟩; rw [show start ["text", "least", "most"] [.str s', .int lo, .int hi] = [some (.str s'), some (.int lo), some (.int hi)] from rfl]; try dsimp only [cxOf, Cx.nox, Cx.wish]
  have l1 := log_small h0 h1
  have l2 := int_len h0 h1
  have hsz : s'.length ≤ sizeLine := by rw [szl]; exact hs
  walk_at "go"
  refine g_br (fun h1 => ?_) (fun h1 => ?_)
  rotate_left
  · walk_at "go"
    rw [show numOf s' lo hi = none by unfold numOf; rw [h1]; rfl] at q
    exact q
  walk_at "go"
  refine g_br (fun h2 => ?_) (fun h2 => ?_) <;> simp only [Bool.not_eq_true', Bool.not_eq_false'] at h2
  · walk_at "go"
    rw [show numOf s' lo hi = none by unfold numOf; rw [h1, h2]; rfl] at q
    exact q
  walk_at "go"
  refine g_br (fun h3 => ?_) (fun h3 => ?_) <;> simp only [Bool.not_eq_true', Bool.not_eq_false'] at h3 <;> rw [strip_dig] at h3
  · walk_at "go"
    rw [show numOf s' lo hi = none by unfold numOf; rw [h1, h2, h3]; rfl] at q
    exact q
  walk_at "go"
  have b1 : 1 ≤ s'.length := by have := of_decide_eq_true h1; omega
  have b2 : s'.length ≤ 65 := by have := of_decide_eq_true h2; omega
  obtain ⟨n, hn⟩ := dig_int h3 b1 (by omega)
  have ec := atS0 b1
  have hz : zeroB s' = (decide ((⟨#[s'.cps.toList.getD 0 0]⟩ : Str) = "0") && !decide (s' = "0")) := rfl
  have hv : numOf s' lo hi = if zeroB s' then none else if lo ≤ (n : Int) ∧ (n : Int) ≤ hi then some (n : Int) else none := by
    unfold numOf; rw [h1, h2, h3, hn]; cases zeroB s' <;> rfl
  have l7 : s'.length ≤ 640 := by omega
  walk_at "go"
  have fin : zeroB s' = false → (tRet (tIf (tTest (tChain (rI0 fun i j => V.bl (decide (i ≤ j))) (rI0 fun i j => V.bl (decide (i ≤ j))) (tVar 1) (tCB rIntM (tCons (tVar 0) tNil)) (tVar 2)))
      (tCB rIntM (tCons (tVar 0) tNil)) (tC V.non))) { nx := fun x H' => Q V.non H', rt := Q } [some (V.str s'), some (V.int lo), some (V.int hi)] H := by
    intro z
    rw [hv, z] at q
    walk_at "go"
    refine g_br (fun h6 => ?_) (fun h6 => ?_)
    · walk_at "go"
      refine g_br (fun h7 => ?_) (fun h7 => ?_)
      · walk_at "go"
        have z1 : (if (false : Bool) = true then none else if lo ≤ (n : Int) ∧ (n : Int) ≤ hi then some (n : Int) else none) = some (n : Int) := by
          rw [if_neg (by decide), if_pos ⟨of_decide_eq_true h6, of_decide_eq_true h7⟩]
        rw [z1] at q
        exact q
      · walk_at "go"
        have z1 : (if (false : Bool) = true then none else if lo ≤ (n : Int) ∧ (n : Int) ≤ hi then some (n : Int) else none) = none := by
          rw [if_neg (by decide), if_neg (fun h => of_decide_eq_false h7 h.2)]
        rw [z1] at q
        exact q
    · walk_at "go"
      have z1 : (if (false : Bool) = true then none else if lo ≤ (n : Int) ∧ (n : Int) ≤ hi then some (n : Int) else none) = none := by
        rw [if_neg (by decide), if_neg (fun h => of_decide_eq_false h6 h.1)]
      rw [z1] at q
      exact q
  refine g_br (fun h4 => ?_) (fun h4 => ?_)
  · walk_at "st"
    walk_at "st"
    walk_at "go"
    refine g_br (fun h5 => ?_) (fun h5 => ?_)
    · walk_at "go"
      rw [hv, hz, h4, h5] at q
      exact q
    · walk_at "st"
      exact fin (by rw [hz, h4, h5]; rfl)
  · walk_at "st"
    exact fin (by rw [hz, h4]; rfl)
theorem ok_moment_of (T : Tx K mg ad) (F : Df K "moment_of" "moment_of" s_moment_of f fd)
    (G_number_of : Kn P w K mg base CX0 "number_of" 1 3 [] (fun vs _ => vs) (Sp3 R_number)) :
    FnG P w K mg base CX0 2 f fd ["text"] (Sp1 R_moment_of) := by
  refine F.ok0 sc_moment_of (fun vs H Q E h => h.len) (fun cdv A outer s H vs Q E hga hr h => ?_)
  obtain ⟨_, rfl, s', rfl, hs, q⟩ := h
  have hu := hu64 hr
  refine ⟨_, (pss_cons (ps_asg (pe_m1 PySem.F.slot_str_partition PySem.F.type_str_partition mt_partM (pv 0) pe_str) (pg_tupK (K := K) rfl rfl (pgs_cons (pg_name (i := 2) sc_moment_of.nd rfl (by first | exact Or.inl rfl | exact Or.inr rfl)) (pgs_cons (pg_name (i := 3) sc_moment_of.nd rfl (by first | exact Or.inl rfl | exact Or.inr rfl)) (pgs_cons (pg_name (i := 4) sc_moment_of.nd rfl (by first | exact Or.inl rfl | exact Or.inr rfl)) pgs_nil)))))
      (pss_cons (ps_set (i := 1) sc_moment_of.nd rfl (by first | exact Or.inl rfl | exact Or.inr rfl) (pe_kn G_number_of hga (hr.mono (by decide)) (by rfl) pass0 (pa_cons (pv 2) (pa_cons pe_int (pa_cons (pe_op op_sub (pe_op op_fdiv (pe_gm T.MOMENTS (by rfl)) (pe_gm T.HOURS (by rfl))) pe_int) pa_nil)))))
      (pss_cons (ps_if (PW.pt (pw_or (pt_cmpR op_isNo (pv 1) pe_non (nomark _)) (pw_or (pt_cmpR (k_eq (K := K) rfl hu) (pv 3) pe_str (nomark _)) (pw_or (pt_cmpR (k_ne (K := K) rfl hu) (pe_callB (k_len (K := K) rfl) (by rfl) T.b_len bt_len (pa_cons (pv 4) pa_nil)) pe_int (nomark _)) (pw_or (pt_cmpR (k_ne (K := K) rfl hu) (pe_m1 PySem.F.slot_str_strip PySem.F.type_str_strip mt_stripM (pv 4) (pe_gm T.FIGURES (by rfl))) pe_str (nomark _)) (pw_or1 (pt_cmpR op_ge (pe_callTy call_intM (by rfl) T.b_int bt_int (pa_cons (pv 4) pa_nil)) (pe_gm T.HOURS (by rfl)) (nomark _)))))))) (pss_one (ps_ret pe_non)) pss_nil)
      (pss_one (ps_ret (pe_op (k_add (K := K) rfl) (pe_op op_mulM (pv 1) (pe_gm T.HOURS (by rfl))) (pe_callTy call_intM (by rfl) T.b_int bt_int (pa_cons (pv 4) pa_nil)))))))), ?_⟩
  have hlits : (Str.ofString "").length = 0 ∧ (Str.ofString ".").length = 1 := ⟨rfl, rfl⟩; rw [show start ["text", "days", "day", "sign", "hour"] [.str s'] = [some (.str s'), none, none, none, none] from rfl]; try dsimp only [cxOf, Cx.nox, Cx.wish]
  have hsz : (Str.length "." == 0) = false ∧ s'.length ≤ sizeLine := ⟨rfl, by rw [szl]; exact hs⟩
  walk_at "go"
  rename_i p1 H1 n1 e1 v1
  obtain ⟨pl1, pl2⟩ := part_len s' "."
  unfold momOf at q
  generalize Txt.partition s' "." = pt at *
  obtain ⟨dd, sg, hh⟩ := pt
  dsimp only at pl1 pl2 q v1 ⊢
  have q := q H1 e1
  refine ⟨dd, 0, 399, rfl, rfl, rfl, by omega, by decide, by decide, ?_⟩
  cases hd : numOf dd 0 399 with
  | none =>
    rw [hd] at q
    dsimp only [optV] at q ⊢
    walk_at "go"
    exact q
  | some d =>
    rw [hd] at q
    obtain ⟨d0, d1⟩ := numOf_le hd
    dsimp only [optV] at q ⊢
    have hl : hh.length ≤ sizeLine := by rw [szl]; omega
    walk_at "go"
    refine g_br (fun h1 => ?_) (fun h1 => ?_)
    · walk_at "go"
      rw [if_pos (.inl (of_decide_eq_true h1))] at q
      exact q
    walk_at "go"
    refine g_br (fun h2 => ?_) (fun h2 => ?_)
    · walk_at "go"
      have h2' : hh.length ≠ 2 := by simp at h2; omega
      rw [if_pos (.inr (.inl h2'))] at q
      exact q
    walk_at "go"
    refine g_br (fun h3 => ?_) (fun h3 => ?_) <;> simp only [Bool.not_eq_true', Bool.not_eq_false'] at h3 <;> rw [strip_dig] at h3
    · walk_at "go"
      rw [if_pos (.inr (.inr h3))] at q
      exact q
    have h2' : hh.length = 2 := by simp at h2; omega
    rw [if_neg (by
      rintro (z | z | z)
      · exact of_decide_eq_false h1 z
      · exact z h2'
      · rw [h3] at z; cases z)] at q
    obtain ⟨n, hn⟩ := dig_int h3 (by omega) (by omega)
    have hl7 : hh.length ≤ 640 := by omega
    rw [hn] at q
    dsimp only at q
    walk_at "go"
    refine g_br (fun h4 => ?_) (fun h4 => ?_)
    · walk_at "go"
      rw [if_neg (by have := of_decide_eq_true h4; omega)] at q
      exact q
    · have cm : CMa d 24 := .inr (cmn d0 (by omega) (by decide) (by decide))
      walk_at "go"
      rw [if_pos (by have := of_decide_eq_false h4; omega)] at q
      exact q
theorem ok_read_moment (T : Tx K mg ad) (F : Df K "read_moment" "read_moment" s_read_moment f fd)
    (G_moment_of : Kn P w K mg base CX0 "moment_of" 2 1 [] (fun vs _ => vs) (Sp1 R_moment_of))
    (I_NoText : XiK P w K mg base ad.i_NoText 1 (Sp2 (R_exc1 ad.c_NoText "text"))) :
    FnG P w K mg base (L2.CX P w) 3 f fd ["text"] (SpX1 (R_read K ad.c_NoText)) := by
  refine F.ok sc_read_moment (fun vs H Q E h => h.len) (fun cdv A outer s H vs Q E hga hr h => ?_)
  obtain ⟨x, rfl, d, hd, hs, q1, q2⟩ := h
  have hu := hu64 hr
  refine ⟨_, (pss_cons (ps_set (i := 1) sc_read_moment.nd rfl (by first | exact Or.inl rfl | exact Or.inr rfl) (pe_cut (pe_ifExp (pt_val (pe_callB (k_isi (K := K) rfl) (by rfl) T.b_isinstance bt_isinstance (pa_cons (pv 0) (pa_cons (pe_bltn (v := .ty "str") (by rfl) T.b_str bt_str rfl) pa_nil)))) (pe_kn G_moment_of hga (hr.mono (by decide)) (by rfl) pass0 (pa_cons (pv 0) pa_nil)) pe_non)))
      (pss_cons (ps_if (pt_cmpR op_isNo (pv 1) pe_non (nomark _)) (pss_one (ps_raise rfl (takes_of (E := E) rfl rfl rfl rfl) (pmk_oexI T.X_NoText I_NoText hga (hr.mono (by decide)) (by rfl) (pa_cons (pv 0) pa_nil)))) pss_nil)
      (pss_one (ps_ret (pv 1))))), ?_⟩
  rw [show start ["text", "found"] [x] = [some (x), none] from rfl]; try dsimp only [cxOf, Cx.nox, Cx.wish]
  walk_at "go"
  refine g_cutE (fun v H' => v = optV (readD d) ∧ Same H H') ?_ ?_
  · cases hb : isStr d with
    | false =>
      walk_at "go"
      exact ⟨by rw [show readD d = none by cases d <;> first | rfl | cases hb]; rfl, Same.refl H⟩
    | true =>
      obtain ⟨s', rfl⟩ : ∃ s', d = .str s' := by cases d <;> first | exact ⟨_, rfl⟩ | cases hb
      cases hd
      walk_at "go"
      exact ⟨s', rfl, hs, fun H' e => ⟨rfl, e⟩⟩
  · rintro _ H' ⟨rfl, e⟩
    cases hm : readD d with
    | some n =>
      dsimp only [optV]
      walk_at "go"
      exact q1 n hm H' e
    | none =>
      dsimp only [optV]
      walk_at "go"
      exact fun e2 H2 ne2 se2 ve2 => q2 hm e2 H2 (e.free ne2) (e.trans se2) ve2

def R_due1 (K : PySem.W.Frag) : V → Hp → VK → Prop := fun x H Q => ∃ d, Da K H x d ∧ smallD d ∧ ∀ H', Same H H' → Q (optV (readD d)) H'
def R_law_read (K : PySem.W.Frag) : V → Hp → VK → Prop := fun x H Q => ∃ d, Da K H x d ∧ GoodD 27 d ∧
  (∀ n, readD d = some n → ∀ H', Same H H' → Q (.int n) H') ∧
  (readD d = none → ∀ p H', Same H H' → H' p = some (.tup [.str "none", .str d.shown]) → Q (.ref p) H')
theorem ok_law_read (T : Tx K mg ad) (M : Sm base) (F : Df K "_law_read" "_law_read" s_law_read f fd)
    (G_read_moment : Kn P w K mg base (L2.CX P w) "read_moment" 3 1 [] (fun vs _ => vs) (SpX1 (R_read K ad.c_NoText))) :
    FnG P w K mg base CX0 4 f fd ["_law_thing"] (Sp1 (R_law_read K)) := by
  refine F.ok0 sc_law_read (fun vs H Q E h => h.len) (fun cdv A outer s H vs Q E hga hr h => ?_)
  obtain ⟨x, rfl, d, hd, gd, q1, q2⟩ := h
  have hu := hu64 hr
  refine ⟨_, (pss_cons (ps_set (i := 1) sc_law_read.nd rfl (by first | exact Or.inl rfl | exact Or.inr rfl) pe_non)
      (pss_cons (ps_try_as (i := 2) rfl rfl sc_law_read.nd rfl rfl ⟨by rfl, by decide, .inl T.X_NoText.g⟩ takes0 (fun W pn xe tk _ => (pss_one (ps_set (i := 1) sc_law_read.nd rfl (by first | exact Or.inl rfl | exact Or.inr rfl) (pe_knS G_read_moment hga (hr.mono (by decide)) (by rfl) (fun σ => passAt tk σ) (pa_cons (pv 0) pa_nil))))) (fun a oe cls d pn hz hf => (pss_one (ps_set (i := 1) sc_law_read.nd rfl (by first | exact Or.inl rfl | exact Or.inr rfl) (pe_tup (pa_cons pe_str (pa_cons (pe_callB (k_repr (K := K) rfl hga hu M) (by rfl) T.b_repr bt_repr (pa_cons (pe_xfK (K := K) rfl T.X_NoText.xf (T.X_NoText.no "text" (by simp)) hz hf (pv 2)) pa_nil)) pa_nil)))))))
      (pss_one (ps_ret (pv 1))))), ?_⟩
  have hlits : (Str.ofString "none").length = 4 := rfl; rw [show start ["_law_thing", "_law_found", "e"] [x] = [some (x), none, none] from rfl]; try dsimp only [cxOf, Cx.nox, Cx.wish]
  walk_at "go"
  refine ⟨d, hd, gd.sm, fun n hn H' e => ?_, fun hm e H' ne se ve => ?_⟩
  · walk_at "go"
    exact q1 n hn H' e
  · refine g_as T.X_NoText.me (fun a na => ?_)
    simp only [List.set_cons_succ, List.set_cons_zero]
    walk_at "go"
    refine ⟨rfl, rfl, e, _, x, rfl, ve, rfl, ?_⟩
    walk_at "go"
    refine ⟨gd.sh, Nat.le_trans gd.dp (by decide), by rw [szl]; have := gd.ln; omega, ?_⟩
    walk_at "go"
    simp only [List.set_cons_succ, List.set_cons_zero]
    walk_at "go"
    rename_i p2 H2 n2 e2 v2
    exact q2 hm p2 H2 (se.trans e2) v2

theorem ok_due (T : Tx K mg ad) (F : Df K "_law_due" "_law_due" s_law_due f fd) :
    FnG P w K mg base CX0 1 f fd ["_law_thing"] (Sp1 (R_due1 K)) := by
  refine F.ok0 sc_law_due (fun vs H Q E h => h.len) (fun cdv A outer s H vs Q E hga hr h => ?_)
  obtain ⟨x, rfl, d, hd, hs, q⟩ := h
  have hu := hu64 hr
  refine ⟨_, (pss_cons (ps_if (PW.pt (pw_or (pt_not (pt_val (pe_callB (k_isi (K := K) rfl) (by rfl) T.b_isinstance bt_isinstance (pa_cons (pv 0) (pa_cons (pe_bltn (v := .ty "str") (by rfl) T.b_str bt_str rfl) pa_nil))))) (pw_or (pt_cmpR (k_notIn (K := K) rfl) (pe_callB (k_len (K := K) rfl) (by rfl) T.b_len bt_len (pa_cons (pv 0) pa_nil)) (pe_tup (pa_cons pe_int (pa_cons pe_int (pa_cons pe_int pa_nil)))) (by with_unfolding_all rfl)) (pw_or1 (pt_cmpR (k_ne (K := K) rfl hu) (pe_ix (k_ix (K := K) rfl) (pv 0) (pe_un un_neg pe_int) (fun _ _ => rfl)) pe_str (nomark _)))))) (pss_one (ps_ret pe_non)) pss_nil)
      (pss_cons (ps_par (i := 1) (j := 2) (by rfl) sc_law_due.nd rfl rfl (by decide) rfl rfl (pa_cons (pe_slice (k_sl (K := K) rfl) (pv 0) po_none (po_some (pe_un un_neg pe_int))) (pa_cons (pe_slice (k_sl (K := K) rfl) (pv 0) (po_some (pe_un un_neg pe_int)) po_none) pa_nil)) (by rfl))
      (pss_cons (ps_if (PW.pt (pw_or (pt_not (pt_val (pe_callB (k_all (K := K) rfl rfl) (by rfl) T.b_all bt_all (pa_cons (pe_lcM (own := [("_law_sign", 3)]) (vs := [3]) rfl (by rfl) sc_law_due.nd (pi_str (pe_op (k_add (K := K) rfl) (pv 1) (pv 2))) (blkOk_by (N := ["_law_thing", "_law_day", "_law_hour", "_law_sign"]) (sc := defScope s_law_due) (by decide +kernel)) (fun _ _ _ _ _ => (pg_name (i := 3) sc_law_due.nd rfl (by first | exact Or.inl rfl | exact Or.inr rfl))) (fun _ _ _ _ _ => pts_nil) (fun _ _ _ _ _ => (pe_cmpR (k_in (K := K) rfl) (pv 3) pe_str (by with_unfolding_all rfl)))) pa_nil)))) (pw_or1 (PW.pt (pw_and (pt_cmpR (k_eq (K := K) rfl hu) (pe_ix (k_ix (K := K) rfl) (pv 1) pe_int (fun _ _ => rfl)) pe_str (nomark _)) (pw_and1 (pt_cmpR (k_ne (K := K) rfl hu) (pv 1) pe_str (nomark _)))))))) (pss_one (ps_ret pe_non)) pss_nil)
      (pss_one (ps_ret (pe_ifExp (PW.pt (pw_and (pt_cmpR op_lt (pe_callTy call_intM (by rfl) T.b_int bt_int (pa_cons (pv 1) pa_nil)) pe_int (nomark _)) (pw_and1 (pt_cmpR op_lt (pe_callTy call_intM (by rfl) T.b_int bt_int (pa_cons (pv 2) pa_nil)) pe_int (nomark _))))) (pe_op (k_add (K := K) rfl) (pe_op op_mulM (pe_callTy call_intM (by rfl) T.b_int bt_int (pa_cons (pv 1) pa_nil)) pe_int) (pe_callTy call_intM (by rfl) T.b_int bt_int (pa_cons (pv 2) pa_nil))) pe_non)))))), ?_⟩
  have hlits : (Str.ofString ".").length = 1 ∧ (Str.ofString "0").length = 1 ∧ (Str.ofString "0123456789").length = 10 := ⟨rfl, rfl, rfl⟩; rw [show start ["_law_thing", "_law_day", "_law_hour", "_law_sign"] [x] = [some (x), none, none, none] from rfl]; try dsimp only [cxOf, Cx.nox, Cx.wish]
  cases hb : isStr d with
  | false =>
    walk_at "go"
    rw [show readD d = none by cases d <;> first | rfl | cases hb] at q
    exact q _ (Same.refl H)
  | true =>
    obtain ⟨s', rfl⟩ : ∃ s', d = .str s' := by cases d <;> first | exact ⟨_, rfl⟩ | cases hb
    cases hd
    have hs : s'.length ≤ 16777216 := hs
    walk_at "go"
    have none_of : (¬ (4 ≤ s'.length ∧ s'.length ≤ 6 ∧ s'.cps.toList[s'.length - 3]? = some 46 ∧ digB (cutS s' none (some (-3))) = true ∧ digB (cutS s' (some (-2)) none) = true)) → momOf s' = none := fun hh => by
      cases hm : momOf s' with
      | none => rfl
      | some m => exact absurd (mom_some hm) hh
    refine g_br (fun h1 => ?_) (fun h1 => ?_) <;> simp only [Bool.not_eq_true', Bool.not_eq_false'] at h1
    · walk_at "go"
      rw [show readD (.str s') = none from none_of (fun hh => by
        have : inV (.int (s'.length : Int)) [.int 4, .int 5, .int 6] = true := in456.mpr (by omega)
        rw [h1] at this; cases this)] at q
      exact q _ (by assumption)
    have hl := in456.mp h1
    have hl4 : 4 ≤ s'.length ∧ s'.length ≤ 6 := by omega
    obtain ⟨c, hc⟩ : ∃ c, s'.cps.toList[s'.length - 3]? = some c := ⟨_, List.getElem?_eq_getElem (by rw [← len_list]; omega)⟩
    have ec : atI s'.cps.toList (-3) = some c := by
      have := atI_neg (xs := s'.cps.toList) (k := 3) (by decide) (by rw [← len_list]; omega)
      rw [show (-3 : Int) = -((3 : Nat) : Int) from rfl, this, ← len_list]; exact hc
    walk_at "go"
    refine g_br (fun h2 => ?_) (fun h2 => ?_) <;> simp only [Bool.not_eq_true', Bool.not_eq_false'] at h2
    · walk_at "go"
      rw [show readD (.str s') = none from none_of (fun hh => by
        rw [hc] at hh
        have z := of_decide_eq_false h2
        exact z (one_eq.mpr (Option.some.inj hh.2.2.1)))] at q
      exact q _ (by assumption)
    have c46 : c = 46 := one_eq.mp (of_decide_eq_true h2)
    have c1 := cutS_length s' none (some (-3))
    have c2 := cutS_length s' (some (-2)) none
    walk_at "go"
    rename_i p1 H1 n1 e1 v1
    refine g_signs (by simp) (by rw [strLen_append]; omega) (fun L H2 nL e2 v2 => ?_)
    walk_at "go"
    refine g_all (.inl (.inl v2)) ?_
    rw [show ("0123456789" : Str) = figT from rfl, all_signs, dig_append]
    walk_at "go"
    have e02 : Same H H2 := e1.trans e2
    refine g_br (fun h3 => ?_) (fun h3 => ?_) <;> simp only [Bool.not_eq_true', Bool.not_eq_false'] at h3
    · walk_at "go"
      rw [show readD (.str s') = none from none_of (fun hh => by rw [hh.2.2.2.1, hh.2.2.2.2] at h3; cases h3)] at q
      exact q _ e02
    have g1 : digB (cutS s' none (some (-3))) = true := by cases z : digB (cutS s' none (some (-3))) with
      | true => rfl
      | false => rw [z] at h3; cases h3
    have g2 : digB (cutS s' (some (-2)) none) = true := by rw [g1] at h3; exact h3
    have hp := mom_part hl4.1 (by rw [hc, c46]) g1
    have ld : (cutS s' none (some (-3))).length = s'.length - 3 := by
      rw [len_list, show (-3 : Int) = -((3 : Nat) : Int) from rfl, cut_to_neg (by decide) (by omega), List.length_take, ← len_list]; omega
    have lh : (cutS s' (some (-2)) none).length = 2 := by
      rw [len_list, show (-2 : Int) = -((2 : Nat) : Int) from rfl, cut_from_neg (by decide) (by omega), List.length_drop, ← len_list]; omega
    generalize cutS s' none (some (-3)) = day at *
    generalize cutS s' (some (-2)) none = hour at *
    obtain ⟨nd, hnd⟩ := dig_int g1 (by omega) (by omega)
    obtain ⟨nh, hnh⟩ := dig_int g2 (by omega) (by omega)
    have hm := momOf_of hp (by omega) (by omega) g1 hnd lh g2 hnh
    have ea := atS0 (a := day) (by omega)
    have q : Q (optV (momOf s')) H2 := q _ e02
    rw [hm] at q
    walk_at "go"
    have hz : zeroB day = (decide ((⟨#[day.cps.toList.getD 0 0]⟩ : Str) = "0") && !decide (day = "0")) := rfl
    have m1 : day.length ≤ 640 := by omega
    have m2 : hour.length ≤ 640 := by omega
    have fin : zeroB day = false → (tRet (tIf (tAnd (tTest (tOp (rI0 fun i j => V.bl (decide (i < j))) (tCB rIntM (tCons (tVar 1) tNil)) (tC (V.int 400))))
        (tTest (tOp (rI0 fun i j => V.bl (decide (i < j))) (tCB rIntM (tCons (tVar 2) tNil)) (tC (V.int 24)))))
        (tOp (rAddM K) (tOp rMulM (tCB rIntM (tCons (tVar 1) tNil)) (tC (V.int 24))) (tCB rIntM (tCons (tVar 2) tNil))) (tC V.non))) { nx := fun x H' => Q V.non H', rt := Q }
        [some (V.str s'), some (V.str day), some (V.str hour), none] H2 := by
      intro z
      rw [z, if_neg (by decide)] at q
      walk_at "go"
      refine g_br (fun h6 => ?_) (fun h6 => ?_)
      · walk_at "go"
        refine g_br (fun h7 => ?_) (fun h7 => ?_)
        · have cm : CMa (nd : Int) 24 := .inr (cmn (by omega) (by have := of_decide_eq_true h6; omega) (by decide) (by decide))
          walk_at "go"
          rw [if_pos ⟨of_decide_eq_true h6, of_decide_eq_true h7⟩] at q
          exact q
        · walk_at "go"
          rw [if_neg (fun h => of_decide_eq_false h7 h.2)] at q
          exact q
      · walk_at "go"
        rw [if_neg (fun h => of_decide_eq_false h6 h.1)] at q
        exact q
    refine g_br (fun h4 => ?_) (fun h4 => ?_)
    · walk_at "go"
      refine g_br (fun h5 => ?_) (fun h5 => ?_)
      · walk_at "go"
        rw [hz, h4, h5, if_pos (by rfl)] at q
        exact q
      · walk_at "st"
        exact fin (by rw [hz, h4, h5]; rfl)
    · walk_at "st"
      exact fin (by rw [hz, h4]; rfl)

theorem ok_bent (T : Tx K mg ad) (F : Df K "_law_bent" "_law_bent" s_law_bent f fd)
    (G_law_draw : Kn P w K mg base CX0 "_law_draw" 1 2 [] (fun vs _ => vs) (Sp2 (R_draw P w))) :
    FnG P w K mg base CX0 2 f fd ["_law_pot", "_law_told"] (Sp2 (R_bent P w)) := by
  refine F.ok0 sc_law_bent (fun vs H Q E h => h.len) (fun cdv A outer s H vs Q E hga hr h => ?_)
  obtain ⟨_, _, rfl, p, n, t, rfl, rfl, hp, hn, hl, ha, q⟩ := h
  have hu := hu64 hr
  refine ⟨_, (pss_cons (ps_par (i := 4) (j := 5) (by rfl) sc_law_bent.nd rfl rfl (by decide) rfl rfl (pa_cons (pe_kn G_law_draw hga (hr.mono (by decide)) (by rfl) pass0 (pa_cons (pv 0) (pa_cons (pe_op (k_add (K := K) rfl) (pe_callB (k_len (K := K) rfl) (by rfl) T.b_len bt_len (pa_cons (pv 1) pa_nil)) pe_int) pa_nil))) (pa_cons (pe_kn G_law_draw hga (hr.mono (by decide)) (by rfl) pass0 (pa_cons (pv 0) (pa_cons pe_int pa_nil))) pa_nil)) (by rfl))
      (pss_cons (ps_set (i := 2) sc_law_bent.nd rfl (by first | exact Or.inl rfl | exact Or.inr rfl) (pe_ix (k_ix (K := K) rfl) pe_str (pe_kn G_law_draw hga (hr.mono (by decide)) (by rfl) pass0 (pa_cons (pv 0) (pa_cons pe_int pa_nil))) (fun _ _ => rfl)))
      (pss_cons (ps_set (i := 3) sc_law_bent.nd rfl (by first | exact Or.inl rfl | exact Or.inr rfl) (pe_lst (pa_cons pe_str (pa_cons pe_str (pa_cons pe_str (pa_cons pe_str (pa_cons pe_str (pa_cons pe_str (pa_cons pe_str (pa_cons pe_str (pa_cons pe_str (pa_cons pe_str (pa_cons pe_str (pa_cons pe_str (pa_cons pe_str pa_nil)))))))))))))))
      (pss_cons (ps_set (i := 3) sc_law_bent.nd rfl (by first | exact Or.inl rfl | exact Or.inr rfl) (pe_op (k_add (K := K) rfl) (pv 3) (pe_lst (pa_cons (pe_op (k_add (K := K) rfl) pe_rep9 pe_str) (pa_cons (pe_op (k_add (K := K) rfl) pe_str pe_rep0) (pa_cons (pe_op (k_add (K := K) rfl) pe_rep0 pe_str) (pa_cons pe_str pa_nil)))))))
      (pss_cons (ps_if (pt_cmpR op_lt (pv 5) pe_int (nomark _)) (pss_one (ps_ret (pe_op (k_add (K := K) rfl) (pe_op (k_add (K := K) rfl) (pe_slice (k_sl (K := K) rfl) (pv 1) po_none (po_some (pv 4))) (pv 2)) (pe_slice (k_sl (K := K) rfl) (pv 1) (po_some (pv 4)) po_none)))) pss_nil)
      (pss_cons (ps_if (pt_cmpR (k_eq (K := K) rfl hu) (pv 5) pe_int (nomark _)) (pss_one (ps_ret (pe_op (k_add (K := K) rfl) (pe_op (k_add (K := K) rfl) (pe_slice (k_sl (K := K) rfl) (pv 1) po_none (po_some (pv 4))) (pv 2)) (pe_slice (k_sl (K := K) rfl) (pv 1) (po_some (pe_op (k_add (K := K) rfl) (pv 4) pe_int)) po_none)))) pss_nil)
      (pss_cons (ps_if (pt_cmpR (k_eq (K := K) rfl hu) (pv 5) pe_int (nomark _)) (pss_one (ps_ret (pe_op (k_add (K := K) rfl) (pe_slice (k_sl (K := K) rfl) (pv 1) po_none (po_some (pv 4))) (pe_slice (k_sl (K := K) rfl) (pv 1) (po_some (pe_op (k_add (K := K) rfl) (pv 4) pe_int)) po_none)))) pss_nil)
      (pss_one (ps_ret (pe_ifExp (pt_cmpR (k_eq (K := K) rfl hu) (pv 5) pe_int (nomark _)) (pe_ix (k_ix (K := K) rfl) (pv 3) (pe_kn G_law_draw hga (hr.mono (by decide)) (by rfl) pass0 (pa_cons (pv 0) (pa_cons pe_int pa_nil))) (fun _ _ => rfl)) (pe_revS (pv 1)))))))))))), ?_⟩
  have hlits : (Str.ofString "").length = 0 ∧ (Str.ofString "-1.00").length = 5 ∧ (Str.ofString ".00").length = 3 ∧ (Str.ofString ".05").length = 3 ∧ (Str.ofString "0").length = 1 ∧ (Str.ofString "0.0").length = 3 ∧ (Str.ofString "00.00").length = 5 ∧ (Str.ofString "0123456789.,:- \n").length = 16 ∧ (Str.ofString "1.").length = 2 ∧ (Str.ofString "1.1.1").length = 5 ∧ (Str.ofString "12").length = 2 ∧ (Str.ofString "399.23 ").length = 7 ∧ (Str.ofString "399.24").length = 6 ∧ (Str.ofString "400.00").length = 6 ∧ (Str.ofString "5.").length = 2 ∧ (Str.ofString "5.005").length = 5 ∧ (Str.ofString "5.5").length = 3 ∧ (Str.ofString "9").length = 1 ∧ (Str.ofString "9999.00").length = 7 := ⟨rfl, rfl, rfl, rfl, rfl, rfl, rfl, rfl, rfl, rfl, rfl, rfl, rfl, rfl, rfl, rfl, rfl, rfl, rfl⟩; rw [show start ["_law_pot", "_law_told", "_law_sign", "_law_some", "_law_at", "_law_way"] [.ref p, .str t] = [some (.ref p), some (.str t), none, none, none, none] from rfl]; try dsimp only [cxOf, Cx.nox, Cx.wish]
  have l9 := rep9_len
  have l0 := rep0_len
  walk_at "go"
  rename_i r1 H1 r10 r11 x1 hp1 r2 H2 r20 r21 x2 hp2 r3 H3 r30 r31 x3 hp3
  obtain ⟨c, ec⟩ := atS (a := "0123456789.,:- \n") r30 r31
  have hc : c < 16 ^ 8 := by
    obtain ⟨c', e', m', _⟩ := atI_int (xs := ("0123456789.,:- \n" : Str).cps.toList) (i := r3) r30 (by exact r31)
    rw [ec] at e'
    cases e'
    exact (show ∀ c ∈ ("0123456789.,:- \n" : Str).cps.toList, c < 16 ^ 8 by decide +kernel) _ m'
  have c1 := cutS_length t none (some r1)
  have c2 := cutS_length t (some r1) none
  have c3 := cutS_length t (some (r1 + 1)) none
  walk_at "go"
  rename_i p4 H4 n4 e4 v4 p5 H5 n5 e5 v5 p6 H6 n6 e6 v6
  have mm : Mx H H6 := by walk_at "mx"
  have hp6 : H6 p = some (PotO P w (n + 1 + 1 + 1) p) := by walk_at "ca"
  refine g_br (fun h1 => ?_) (fun h1 => ?_)
  · walk_at "go"
    exact q _ _ _ mm (by omega) hp6 (by simp only [strLen_append, one_len]; omega) (asc_app (asc_app (asc_cut _ _ ha) (asc_one hc)) (asc_cut _ _ ha))
  walk_at "go"
  refine g_br (fun h2 => ?_) (fun h2 => ?_)
  · walk_at "go"
    exact q _ _ _ mm (by omega) hp6 (by simp only [strLen_append, one_len]; omega) (asc_app (asc_app (asc_cut _ _ ha) (asc_one hc)) (asc_cut _ _ ha))
  walk_at "go"
  refine g_br (fun h3 => ?_) (fun h3 => ?_)
  · walk_at "go"
    exact q _ _ _ mm (by omega) hp6 (by simp only [strLen_append, one_len]; omega) (asc_app (asc_cut _ _ ha) (asc_cut _ _ ha))
  walk_at "go"
  refine g_br (fun h4 => ?_) (fun h4 => ?_)
  · clear mm
    walk_at "go"
    rename_i r7 H7 r70 r71 x7 hp7
    obtain ⟨v, ev, mv, _⟩ := atI_int (α := V) (i := r7) (xs := ([.str "400.00", .str "399.24", .str "0.0", .str "00.00", .str ".05", .str "5.", .str "5.5", .str "5.005", .str "12", .str "", .str "1.1.1", .str "9999.00", .str "-1.00"] ++ [.str (rep9 ++ ".00"), .str ("1." ++ rep0), .str (rep0 ++ ".00"), .str "399.23 "])) r70 (by simpa using r71)
    have all : ∀ v ∈ ([.str "400.00", .str "399.24", .str "0.0", .str "00.00", .str ".05", .str "5.", .str "5.5", .str "5.005", .str "12", .str "", .str "1.1.1", .str "9999.00", .str "-1.00"] ++ [.str (rep9 ++ ".00"), .str ("1." ++ rep0), .str (rep0 ++ ".00"), .str "399.23 "] : List V), ∃ z : Str, v = .str z ∧ z.length ≤ 4990 ∧ Asc z := by
      have a9 := rep9_asc
      have a0 := rep0_asc
      have d1 : Asc ".00" := by unfold Asc; decide +kernel
      have d2 : Asc "1." := by unfold Asc; decide +kernel
      have sm : ∀ z : Str, z.length ≤ 10 → Asc z → ∃ z' : Str, V.str z = .str z' ∧ z'.length ≤ 4990 ∧ Asc z' := fun z h1 h2 => ⟨z, rfl, by omega, h2⟩
      simp only [List.cons_append, List.nil_append, List.forall_mem_cons]
      refine ⟨sm _ (by decide) ?_, sm _ (by decide) ?_, sm _ (by decide) ?_, sm _ (by decide) ?_, sm _ (by decide) ?_, sm _ (by decide) ?_, sm _ (by decide) ?_, sm _ (by decide) ?_, sm _ (by decide) ?_, sm _ (by decide) ?_,
        sm _ (by decide) ?_, sm _ (by decide) ?_, sm _ (by decide) ?_, ⟨_, rfl, ?_, asc_app a9 d1⟩, ⟨_, rfl, ?_, asc_app d2 a0⟩, ⟨_, rfl, ?_, asc_app a0 d1⟩, sm _ (by decide) ?_, nofun⟩ <;>
        first | (unfold Asc; decide +kernel) | (simp only [strLen_append]; omega)
    obtain ⟨z, rfl, hz, az⟩ := all v mv
    refine ⟨_, ev, ?_⟩
    exact q z _ _ (by walk_at "mx") (by omega) hp7 hz az
  · walk_at "go"
    exact fun z hz hm => q z _ _ mm (by omega) hp6 (by omega) (fun c hc => ha c (hm c hc))

theorem day_all : ∀ k ∈ List.range 400, (digB (toString ((k : Nat) : Int) : Str) && !zeroB (toString ((k : Nat) : Int) : Str) && decide (1 ≤ (toString ((k : Nat) : Int) : Str).length) && decide ((toString ((k : Nat) : Int) : Str).length ≤ 3) && decide (PySem.NumText.digitsVal (toString ((k : Nat) : Int) : Str).cps.toList = k)) = true := by decide +kernel
theorem hour_all : ∀ k ∈ List.range 24, (digB (Txt.zfill (toString ((k : Nat) : Int) : Str) 2) && decide ((Txt.zfill (toString ((k : Nat) : Int) : Str) 2).length = 2) && decide (PySem.NumText.digitsVal (Txt.zfill (toString ((k : Nat) : Int) : Str) 2).cps.toList = k)) = true := by decide +kernel
theorem app_list (a b : Str) : (a ++ b).cps.toList = a.cps.toList ++ b.cps.toList := Array.toList_append
theorem mom_when {m : Int} (h0 : 0 ≤ m) (h1 : m < 9600) : momOf (whenT m) = some m := by
  obtain ⟨d, hd⟩ : ∃ d : Nat, m / 24 = d := ⟨(m / 24).toNat, by omega⟩
  obtain ⟨r, hr⟩ : ∃ r : Nat, m % 24 = r := ⟨(m % 24).toNat, by omega⟩
  have D := day_all d (List.mem_range.mpr (by omega))
  have R := hour_all r (List.mem_range.mpr (by omega))
  unfold whenT
  rw [hd, hr]
  generalize (toString ((d : Nat) : Int) : Str) = day at *
  generalize Txt.zfill (toString ((r : Nat) : Int) : Str) 2 = hour at *
  simp only [Bool.and_eq_true, decide_eq_true_eq, Bool.not_eq_true'] at D R
  obtain ⟨⟨⟨⟨D1, D2⟩, D3⟩, D4⟩, D5⟩ := D
  obtain ⟨⟨R1, R2⟩, R3⟩ := R
  have e0 : ("." : Str).cps.toList = [46] := rfl
  have el : (day ++ "." ++ hour).cps.toList = day.cps.toList ++ ([46] ++ hour.cps.toList) := by rw [app_list, app_list, e0, List.append_assoc]
  have ll : (day ++ "." ++ hour).length = day.length + 3 := by rw [len_list, el, List.length_append, List.length_append, ← len_list, ← len_list]; simp; omega
  have i1 : PySem.intText? day = some ((d : Nat) : Int) := by
    rw [PySem.intText_digits (dig_all D1) (fun e => by rw [len_list, e] at D3; simp at D3) (by omega), D5]
  have i2 : PySem.intText? hour = some ((r : Nat) : Int) := by
    rw [PySem.intText_digits (dig_all R1) (fun e => by rw [len_list, e] at R2; simp at R2) (by omega), R3]
  have c1 : cutS (day ++ "." ++ hour) none (some (-3)) = day := str_ext (by
    rw [show (-3 : Int) = -((3 : Nat) : Int) from rfl, cut_to_neg (by decide) (by omega), el, ll, List.take_append_of_le_length (by rw [← len_list]; omega), List.take_of_length_le (by rw [← len_list]; omega)])
  have c2 : cutS (day ++ "." ++ hour) (some (-2)) none = hour := str_ext (by
    rw [show (-2 : Int) = -((2 : Nat) : Int) from rfl, cut_from_neg (by decide) (by omega), el, ll, ← List.append_assoc, List.drop_left' (by rw [List.length_append, ← len_list]; simp)])
  have hp := mom_part (s := day ++ "." ++ hour) (by omega) (by
    rw [el, ll, List.getElem?_append_right (by rw [← len_list]; omega), ← len_list]; simp) (by rw [c1]; exact D1)
  rw [c1, c2] at hp
  rw [momOf_of hp D3 D4 D1 i1 R2 R1 i2, D2, if_neg (by decide), if_pos (by omega)]
  congr 1
  omega
theorem when_len {m : Int} (h0 : 0 ≤ m) (h1 : m < 9600) : (whenT m).length ≤ 100 ∧ Asc (whenT m) := by
  have l2 := int_len (i := m / 24) (by omega) (by omega)
  have e : whenT m = (toString (m / 24) : Str) ++ "." ++ figS (m % 24 / 10) ++ figS (m % 24 % 10) := by
    unfold whenT
    rw [two_figs' (by omega) (by omega), str_assoc _ (figS _) (figS _)]
  refine ⟨?_, ?_⟩
  · rw [e]
    simp only [strLen_append]
    have : (figS (m % 24 / 10)).length = 1 := rfl
    have : (figS (m % 24 % 10)).length = 1 := rfl
    have : ("." : Str).length = 1 := rfl
    omega
  · rw [e]
    refine asc_app (asc_app (asc_app ?_ (by unfold Asc; decide +kernel)) (asc_fig _)) (asc_fig _)
    intro c hc
    have hm := mom_some (mom_when h0 h1)
    have hd := hm.2.2.2.1
    obtain ⟨k, hk⟩ : ∃ k : Nat, m / 24 = k := ⟨(m / 24).toNat, by omega⟩
    rw [hk] at hc
    exact (show ∀ k ∈ List.range 400, ∀ c ∈ (toString ((k : Nat) : Int) : Str).cps.toList, c < 16 ^ 8 by decide +kernel) k (List.mem_range.mpr (by omega)) c hc
theorem read_bound {d : PyData} {n : Int} (h : readD d = some n) : 0 ≤ n ∧ n < 9600 := by
  cases d with
  | str s =>
    have h : momOf s = some n := h
    unfold momOf at h
    split at h
    · cases h
    · rename_i d hd
      have b := numOf_le hd
      split at h
      · cases h
      · rename_i c
        have c2 : (Txt.partition s ".").2.2.length = 2 := Classical.byContradiction fun z => c (.inr (.inl z))
        have c3 : digB (Txt.partition s ".").2.2 = true := by
          cases z : digB (Txt.partition s ".").2.2 with
          | true => rfl
          | false => exact absurd (.inr (.inr z)) c
        obtain ⟨k, hk⟩ := dig_int c3 (by omega) (by omega)
        rw [hk] at h
        dsimp only at h
        split at h
        · cases h; omega
        · cases h
  | _ => cases h
theorem good_none {d : PyData} (g : GoodD 27 d) : (PyData.tuple [.str "none", .str d.shown]).showable = true ∧ (PyData.tuple [.str "none", .str d.shown]).depth ≤ 1 ∧
    (PyData.tuple [.str "none", .str d.shown]).shown.length ≤ sizeLine := by
  refine ⟨by simp [PyData.showable, PyData.showableAll], by simp [PyData.depth, PyData.depthAll], ?_⟩
  have h1 := StrLaws.reprText_len d.shown g.as
  have h2 := StrLaws.reprText_len "none" (asc_of "none")
  have h3 := g.ln
  have h4 : ("none" : Str).length = 4 := rfl
  have : (PyData.tuple [.str "none", .str d.shown]).shown.length = (reprText "none").length + (reprText d.shown).length + 4 := by
    simp only [PyData.shown, PyData.shownAll]
    show (("(" : Str) ++ ((reprText "none") ++ (", " : Str) ++ (reprText d.shown)) ++ (")" : Str)).length = _
    simp only [strLen_append]
    rw [show ("(" : Str).length = 1 from rfl, show (")" : Str).length = 1 from rfl, show (", " : Str).length = 2 from rfl]
    omega
  rw [this, szl]
  omega
theorem good_mo {m : Int} (h0 : 0 ≤ m) (h1 : m < 9600) : GoodD 0 (.int m) := by
  refine good_int ?_
  rcases Nat.eq_zero_or_pos m.natAbs with z | z
  · rw [z]; decide
  · have h : m.natAbs < 2 ^ 14 := by omega
    exact Nat.lt_trans ((Nat.log2_lt (by omega)).mpr h) (by decide)
/-! ### the law -/
def R_law (K : PySem.W.Frag) : V → Hp → VK → Prop := fun x H Q => ∃ (s : Addr) (ns : List Int), x = .ref s ∧ SqL K H s (ns.map V.int) ∧ ns.length ≤ 1000 ∧ ∀ H', Q (.bl true) H'
theorem ok_law (T : Tx K mg ad) (M : Sm base) (F : Df K "law" "law" s_law f fd)
    (G_law_begin : Kn P w K mg base CX0 "_law_begin" 1 2 [] (fun vs _ => vs) (Sp2 (R_begin P w K)))
    (G_law_moment : Kn P w K mg base CX0 "_law_moment" 2 1 [] (fun vs _ => vs) (Sp1 (R_moment P w)))
    (G_law_when : Kn P w K mg base CX0 "_law_when" 1 1 [] (fun vs _ => vs) (Sp1 R_when))
    (G_show_moment : Kn P w K mg base CX0 "show_moment" 1 1 [] (fun vs _ => vs) (Sp1 R_when))
    (G_law_read : Kn P w K mg base CX0 "_law_read" 4 1 [] (fun vs _ => vs) (Sp1 (R_law_read K)))
    (G_law_bent : Kn P w K mg base CX0 "_law_bent" 2 2 [] (fun vs _ => vs) (Sp2 (R_bent P w)))
    (G_law_odd : Kn P w K mg base CX0 "_law_odd" 2 2 [] (fun vs _ => vs) (Sp2 (R_odd P w K)))
    (G_law_due : Kn P w K mg base CX0 "_law_due" 1 1 [] (fun vs _ => vs) (Sp1 (R_due1 K))) :
    FnG P w K mg base CX0 5 f fd ["_law_script"] (Sp1 (R_law K)) := by
  refine F.ok0 sc_law (fun vs H Q E h => h.len) (fun cdv A outer s H vs Q E hga hr h => ?_)
  obtain ⟨_, rfl, sa, ns, rfl, hS, hn, q⟩ := h
  have hu := hu64 hr
  refine ⟨_, (pss_cons (ps_for PassesOwn.never rfl (pi_range1 rfl T.b_range (pa_cons (pe_op (k_add (K := K) rfl) pe_int (pe_callB (k_len (K := K) rfl) (by rfl) T.b_len bt_len (pa_cons (pe_slice (k_sl (K := K) rfl) (pv 0) po_none (po_some pe_int)) pa_nil))) pa_nil)) (pg_name (i := 1) sc_law.nd rfl (by first | exact Or.inl rfl | exact Or.inr rfl))
      (pss_cons (ps_set (i := 2) sc_law.nd rfl (by first | exact Or.inl rfl | exact Or.inr rfl) (pe_kn G_law_begin hga (hr.mono (by decide)) (by rfl) pass0 (pa_cons (pv 0) (pa_cons (pv 1) pa_nil))))
      (pss_one (ps_for PassesOwn.never rfl (pi_range1 rfl T.b_range (pa_cons pe_int pa_nil)) (pg_name (i := 3) sc_law.nd rfl (by first | exact Or.inl rfl | exact Or.inr rfl))
      (pss_cons (ps_set (i := 4) sc_law.nd rfl (by first | exact Or.inl rfl | exact Or.inr rfl) (pe_kn G_law_moment hga (hr.mono (by decide)) (by rfl) pass0 (pa_cons (pv 2) pa_nil)))
      (pss_cons (ps_set (i := 5) sc_law.nd rfl (by first | exact Or.inl rfl | exact Or.inr rfl) (pe_kn G_law_when hga (hr.mono (by decide)) (by rfl) pass0 (pa_cons (pv 4) pa_nil)))
      (pss_cons (ps_if (PW.pt (pw_or (pt_cmpR (k_ne (K := K) rfl hu) (pe_kn G_show_moment hga (hr.mono (by decide)) (by rfl) pass0 (pa_cons (pv 4) pa_nil)) (pv 5) (nomark _)) (pw_or1 (pt_cmpR (k_ne (K := K) rfl hu) (pe_callB (k_repr (K := K) rfl hga hu M) (by rfl) T.b_repr bt_repr (pa_cons (pe_kn G_law_read hga (hr.mono (by decide)) (by rfl) pass0 (pa_cons (pv 5) pa_nil)) pa_nil)) (pe_callB (k_repr (K := K) rfl hga hu M) (by rfl) T.b_repr bt_repr (pa_cons (pv 4) pa_nil)) (nomark _))))) (pss_one (ps_ret pe_bl)) pss_nil)
      (pss_one (ps_for PassesOwn.never rfl (pi_tup (pe_tup (pa_cons (pe_kn G_law_bent hga (hr.mono (by decide)) (by rfl) pass0 (pa_cons (pv 2) (pa_cons (pv 5) pa_nil))) (pa_cons (pe_kn G_law_bent hga (hr.mono (by decide)) (by rfl) pass0 (pa_cons (pv 2) (pa_cons (pv 5) pa_nil))) (pa_cons (pe_kn G_law_odd hga (hr.mono (by decide)) (by rfl) pass0 (pa_cons (pv 2) (pa_cons (pv 5) pa_nil))) pa_nil))))) (pg_name (i := 6) sc_law.nd rfl (by first | exact Or.inl rfl | exact Or.inr rfl))
      (pss_cons (ps_set (i := 7) sc_law.nd rfl (by first | exact Or.inl rfl | exact Or.inr rfl) (pe_kn G_law_due hga (hr.mono (by decide)) (by rfl) pass0 (pa_cons (pv 6) pa_nil)))
      (pss_one (ps_if (pt_cmpR (k_ne (K := K) rfl hu) (pe_callB (k_repr (K := K) rfl hga hu M) (by rfl) T.b_repr bt_repr (pa_cons (pe_kn G_law_read hga (hr.mono (by decide)) (by rfl) pass0 (pa_cons (pv 6) pa_nil)) pa_nil)) (pe_callB (k_repr (K := K) rfl hga hu M) (by rfl) T.b_repr bt_repr (pa_cons (pe_cut (pe_ifExp (pt_cmpR op_notNo (pv 7) pe_non (nomark _)) (pv 7) (pe_tup (pa_cons pe_str (pa_cons (pe_callB (k_repr (K := K) rfl hga hu M) (by rfl) T.b_repr bt_repr (pa_cons (pv 6) pa_nil)) pa_nil))))) pa_nil)) (nomark _)) (pss_one (ps_ret pe_bl)) pss_nil))))))))))))
      (pss_one (ps_ret pe_bl))), ?_⟩
  have hlits : (Str.ofString "none").length = 4 := rfl; rw [show start ["_law_script", "_law_k", "_law_pot", "_law_tour", "_law_moment_here", "_law_told", "_law_thing", "_law_due_here"] [.ref sa] = [some (.ref sa), none, none, none, none, none, none, none] from rfl]; try dsimp only [cxOf, Cx.nox, Cx.wish]
  walk_at "go"
  rename_i p1 H1 n1 e1 v1
  have hc : (cutV (ns.map V.int) none (some 6)).length ≤ 6 := by
    rw [show cutV (ns.map V.int) none (some 6) = (ns.map V.int).take 6 from cutV_to _ 6, List.length_take]; omega
  refine ⟨_, rfl, by omega, by omega, ?_⟩
  refine forG (src_rng 0 _) (fun i σ' H' => Mx H H' ∧ ∃ o1 o2 o3 o4 o5 o6 o7 : Option V, σ' = [some (.ref sa), o1, o2, o3, o4, o5, o6, o7]) ?_ (fun _ _ _ _ _ => True.intro) ?_ ?_
  · exact ⟨by walk_at "mx", _, _, _, _, _, _, _, rfl⟩
  · rintro i σ' H' hi ⟨x2, o1, o2, o3, o4, o5, o6, o7, rfl⟩
    walk_at "go"
    rw [show (0 : Int) + (i : Int) = (i : Int) by omega]
    refine g_begin (SqL.mx x2 hS) (by omega) hn (fun p H2 n2 e2 hp2 => ?_)
    walk_at "go"
    refine ⟨_, rfl, by omega, by omega, ?_⟩
    refine forG (src_rng 0 _) (fun j σ' H' => Mx H2 H' ∧ (∃ m, m ≤ 48 * j ∧ H' p = some (PotO P w m p)) ∧ ∃ o3 o4 o5 o6 o7 : Option V, σ' = [some (.ref sa), some (.int i), some (.ref p), o3, o4, o5, o6, o7]) ?_ (fun _ _ _ _ _ => True.intro) ?_ ?_
    · exact ⟨Mx.refl _, ⟨0, by omega, hp2⟩, _, _, _, _, _, rfl⟩
    · rintro j σ' H3 hj ⟨x3, ⟨m, hm, hp3⟩, o3, o4, o5, o6, o7, rfl⟩
      have hj : j < 6 := hj
      walk_at "go"
      refine ⟨p, m, rfl, hp3, by omega, fun mo H4 m1 x4 hm1 hp4 mo0 mo1 => ?_⟩
      walk_at "go"
      refine ⟨mo, rfl, mo0, mo1, ?_⟩
      walk_at "go"
      refine ⟨mo, rfl, mo0, mo1, ?_⟩
      have wl := when_len mo0 mo1
      have wm := mom_when mo0 mo1
      generalize whenT mo = tt at *
      walk_at "go"
      refine ⟨.str tt, .str tt, good_str wl.2 (by omega) |>.mono (by decide), fun n hn H5 e5 => ?_, fun hn => ?_⟩
      · have hn : momOf tt = some n := hn
        rw [wm] at hn
        cases hn
        have g5 := good_mo mo0 mo1
        refine ⟨_, _, rfl, .int mo, g5.sh, Nat.le_trans g5.dp (by decide), by rw [szl]; have := g5.ln; omega, ?_⟩
        walk_at "go"
        refine ⟨g5.sh, Nat.le_trans g5.dp (by decide), by rw [szl]; have := g5.ln; omega, ?_⟩
        walk_at "go"
        refine ⟨p, m1, tt, rfl, rfl, by walk_at "ca", by omega, wl.1, wl.2, fun z1 H6 m2 x6 hm2 hp6 hz1 az1 => ?_⟩
        walk_at "go"
        refine ⟨p, m2, tt, rfl, rfl, hp6, by omega, wl.1, wl.2, fun z2 H7 m3 x7 hm3 hp7 hz2 az2 => ?_⟩
        walk_at "go"
        refine ⟨p, m3, .str tt, rfl, hp7, by omega, .str _, good_str wl.2 (by omega), fun v H8 d m4 x8 hm4 hp8 hd gd => ?_⟩
        walk_at "go"
        rename_i p9 H9 n9 e9 v9
        refine forG (src_tup K p9 [.str z1, .str z2, v]) (fun l σ' H' => Mx H9 H' ∧ H' p = some (PotO P w m4 p) ∧ ∃ o6 o7 : Option V, σ' = [some (.ref sa), some (.int i), some (.ref p), some (.int (0 + j)), some (.int mo), some (.str tt), o6, o7]) ?_ ?_ ?_ ?_
        · exact ⟨Mx.refl _, by walk_at "ca", _, _, rfl⟩
        · rintro l σ' H10 hl ⟨x10, _, _⟩
          exact SqT.mx x10 (SqT.of v9)
        · rintro l σ' H10 hl ⟨x10, hp10, o6, o7, rfl⟩
          have hx : ∃ d, Da K H10 ([V.str z1, V.str z2, v].getD l .non) d ∧ GoodD 27 d := by
            match l, hl with
            | 0, _ => exact ⟨_, .str z1, (good_str az1 (by omega)).mono (by decide)⟩
            | 1, _ => exact ⟨_, .str z2, (good_str az2 (by omega)).mono (by decide)⟩
            | 2, _ => exact ⟨d, by show Da K H10 v d; walk_at "da", gd⟩
          obtain ⟨d2, hd2, gd2⟩ := hx
          dsimp only
          generalize [V.str z1, V.str z2, v].getD l .non = y at *
          walk_at "go"
          refine ⟨d2, hd2, gd2.sm, fun H11 e11 => ?_⟩
          cases hr2 : readD d2 with
          | some n =>
            have nb := read_bound hr2
            have g6 := good_mo nb.1 nb.2
            have hd3 := hd2.mx e11.mx
            dsimp only [optV]
            walk_at "go"
            refine ⟨d2, by walk_at "da", gd2, fun m hm H12 e12 => ?_, fun hm => by rw [hr2] at hm; cases hm⟩
            rw [hr2] at hm
            cases hm
            walk_at "go"
            refine ⟨g6.sh, Nat.le_trans g6.dp (by decide), by rw [szl]; have := g6.ln; omega, ?_⟩
            walk_at "go"
            refine g_cutV (fun v => v = .int n) (by walk_at "go"; exact ⟨rfl, rfl⟩) (fun v e => ?_)
            subst e
            walk_at "go"
            refine ⟨g6.sh, Nat.le_trans g6.dp (by decide), by rw [szl]; have := g6.ln; omega, ?_⟩
            walk_at "go"
            exact ⟨by walk_at "mx", by walk_at "ca", _, _, rfl⟩
          | none =>
            have g6 := good_none gd2
            dsimp only [optV]
            walk_at "go"
            refine ⟨d2, by walk_at "da", gd2, (fun m hm => by rw [hr2] at hm; cases hm), fun hm q5 H12 e12 v12 => ?_⟩
            walk_at "go"
            refine ⟨_, _, rfl, .tup (xs := [.str "none", .str d2.shown]) (SqT.of v12) (.cons (.str _) (.cons (.str _) .nil)), g6.1, Nat.le_trans g6.2.1 (by decide), g6.2.2, ?_⟩
            walk_at "go"
            refine g_cutE (fun v H' => L2.Same H12 H' ∧ ∃ q, v = .ref q ∧ H' q = some (.tup [.str "none", .str d2.shown])) ?_ (fun v H' z => ?_)
            · walk_at "go"
              refine ⟨gd2.sh, Nat.le_trans gd2.dp (by decide), by rw [szl]; have := gd2.ln; omega, ?_⟩
              walk_at "go"
              rename_i q6 H13 n13 e13 v13
              exact ⟨e13, q6, rfl, v13⟩
            · obtain ⟨x13, q6, rfl, v13⟩ := z
              walk_at "go"
              refine ⟨_, _, rfl, .tup (xs := [.str "none", .str d2.shown]) (SqT.of v13) (.cons (.str _) (.cons (.str _) .nil)), g6.1, Nat.le_trans g6.2.1 (by decide), g6.2.2, ?_⟩
              walk_at "go"
              exact ⟨by walk_at "mx", by walk_at "ca", _, _, rfl⟩
        · rintro σ' H10 ⟨x10, hp10, o6, o7, rfl⟩
          exact ⟨by walk_at "mx", ⟨m4, by omega, hp10⟩, _, _, _, _, _, rfl⟩
      · have hn : momOf tt = none := hn
        rw [wm] at hn
        cases hn
    · rintro σ' H3 ⟨x3, _, o3, o4, o5, o6, o7, rfl⟩
      walk_at "go"
      exact ⟨(x2.trans e2.mx).trans x3, _, _, _, _, _, _, _, rfl⟩
  · rintro σ' H' ⟨x2, o1, o2, o3, o4, o5, o6, o7, rfl⟩
    walk_at "go"
    exact q _
end
theorem all_mk {l : PySem.W.OpenLaw} {w : World} {K : PySem.W.Frag} {h : Heap} {mg : Str → Option Value} {fa : Addr} (X : K.In h) (G : h.Ns mainGlobals mg) (hfa : mg "law" = some (.ref fa))
    {f_number_of : Addr} {od_number_of an_number_of : Option Addr} {sl_number_of : Array (Option Value)} {oc_number_of kV_number_of dc_number_of pm_number_of cd_number_of ct_number_of : Value}
    {f_show_moment : Addr} {od_show_moment an_show_moment : Option Addr} {sl_show_moment : Array (Option Value)} {oc_show_moment kV_show_moment dc_show_moment pm_show_moment cd_show_moment ct_show_moment : Value}
    {f_moment_of : Addr} {od_moment_of an_moment_of : Option Addr} {sl_moment_of : Array (Option Value)} {oc_moment_of kV_moment_of dc_moment_of pm_moment_of cd_moment_of ct_moment_of : Value}
    {f_read_moment : Addr} {od_read_moment an_read_moment : Option Addr} {sl_read_moment : Array (Option Value)} {oc_read_moment kV_read_moment dc_read_moment pm_read_moment cd_read_moment ct_read_moment : Value}
    {f_law_begin : Addr} {od_law_begin an_law_begin : Option Addr} {sl_law_begin : Array (Option Value)} {oc_law_begin kV_law_begin dc_law_begin pm_law_begin cd_law_begin ct_law_begin : Value}
    {f_law_draw : Addr} {od_law_draw an_law_draw : Option Addr} {sl_law_draw : Array (Option Value)} {oc_law_draw kV_law_draw dc_law_draw pm_law_draw cd_law_draw ct_law_draw : Value}
    {f_law_moment : Addr} {od_law_moment an_law_moment : Option Addr} {sl_law_moment : Array (Option Value)} {oc_law_moment kV_law_moment dc_law_moment pm_law_moment cd_law_moment ct_law_moment : Value}
    {f_law_when : Addr} {od_law_when an_law_when : Option Addr} {sl_law_when : Array (Option Value)} {oc_law_when kV_law_when dc_law_when pm_law_when cd_law_when ct_law_when : Value}
    {f_law_odd : Addr} {od_law_odd an_law_odd : Option Addr} {sl_law_odd : Array (Option Value)} {oc_law_odd kV_law_odd dc_law_odd pm_law_odd cd_law_odd ct_law_odd : Value}
    {f_law_due : Addr} {od_law_due an_law_due : Option Addr} {sl_law_due : Array (Option Value)} {oc_law_due kV_law_due dc_law_due pm_law_due cd_law_due ct_law_due : Value}
    {f_law_read : Addr} {od_law_read an_law_read : Option Addr} {sl_law_read : Array (Option Value)} {oc_law_read kV_law_read dc_law_read pm_law_read cd_law_read ct_law_read : Value}
    {f_law_bent : Addr} {od_law_bent an_law_bent : Option Addr} {sl_law_bent : Array (Option Value)} {oc_law_bent kV_law_bent dc_law_bent pm_law_bent cd_law_bent ct_law_bent : Value}
    {f_law : Addr} {od_law an_law : Option Addr} {sl_law : Array (Option Value)} {oc_law kV_law dc_law pm_law cd_law ct_law : Value}
    {c_CardError : Addr}
    {c_NoText : Addr}
    {i_NoText : Addr} {xN_NoText : Addr} {xn_NoText xq_NoText : Str} {xb_NoText xm_NoText : List Value} {xs_NoText : List Str} {xu_NoText : List Value} {xa_NoText : Bool} {xc_NoText : Option Bool} {xd_NoText : Option Addr} {x0_NoText x1_NoText x2_NoText x3_NoText x5_NoText : Option Value}
    {od_NoText_init an_NoText_init : Option Addr} {sl_NoText_init : Array (Option Value)} {oc_NoText_init kV_NoText_init dc_NoText_init pm_NoText_init cd_NoText_init ct_NoText_init : Value}
    {t_MOMENTS : Tok}
    {t_HOURS : Tok}
    {t_FIGURES : Tok}
    (a_number_of : PySem.W.nsIn K mainGlobals "number_of" = some (some (.ref f_number_of))) (l_number_of : K.lookup f_number_of = some ⟨oc_number_of, od_number_of, .func (PySem.W.fnOf "number_of" "number_of" (defArgs s_number_of) (defBody s_number_of) (defScope s_number_of) .none kV_number_of dc_number_of pm_number_of an_number_of cd_number_of ct_number_of), sl_number_of⟩) (c_number_of : PySem.W.codeIn K cd_number_of "number_of" = true) (k_number_of : PySem.W.keepIn K (.ref f_number_of) = true)
    (a_show_moment : PySem.W.nsIn K mainGlobals "show_moment" = some (some (.ref f_show_moment))) (l_show_moment : K.lookup f_show_moment = some ⟨oc_show_moment, od_show_moment, .func (PySem.W.fnOf "show_moment" "show_moment" (defArgs s_show_moment) (defBody s_show_moment) (defScope s_show_moment) .none kV_show_moment dc_show_moment pm_show_moment an_show_moment cd_show_moment ct_show_moment), sl_show_moment⟩) (c_show_moment : PySem.W.codeIn K cd_show_moment "show_moment" = true) (k_show_moment : PySem.W.keepIn K (.ref f_show_moment) = true)
    (a_moment_of : PySem.W.nsIn K mainGlobals "moment_of" = some (some (.ref f_moment_of))) (l_moment_of : K.lookup f_moment_of = some ⟨oc_moment_of, od_moment_of, .func (PySem.W.fnOf "moment_of" "moment_of" (defArgs s_moment_of) (defBody s_moment_of) (defScope s_moment_of) .none kV_moment_of dc_moment_of pm_moment_of an_moment_of cd_moment_of ct_moment_of), sl_moment_of⟩) (c_moment_of : PySem.W.codeIn K cd_moment_of "moment_of" = true) (k_moment_of : PySem.W.keepIn K (.ref f_moment_of) = true)
    (a_read_moment : PySem.W.nsIn K mainGlobals "read_moment" = some (some (.ref f_read_moment))) (l_read_moment : K.lookup f_read_moment = some ⟨oc_read_moment, od_read_moment, .func (PySem.W.fnOf "read_moment" "read_moment" (defArgs s_read_moment) (defBody s_read_moment) (defScope s_read_moment) .none kV_read_moment dc_read_moment pm_read_moment an_read_moment cd_read_moment ct_read_moment), sl_read_moment⟩) (c_read_moment : PySem.W.codeIn K cd_read_moment "read_moment" = true) (k_read_moment : PySem.W.keepIn K (.ref f_read_moment) = true)
    (a_law_begin : PySem.W.nsIn K mainGlobals "_law_begin" = some (some (.ref f_law_begin))) (l_law_begin : K.lookup f_law_begin = some ⟨oc_law_begin, od_law_begin, .func (PySem.W.fnOf "_law_begin" "_law_begin" (defArgs s_law_begin) (defBody s_law_begin) (defScope s_law_begin) .none kV_law_begin dc_law_begin pm_law_begin an_law_begin cd_law_begin ct_law_begin), sl_law_begin⟩) (c_law_begin : PySem.W.codeIn K cd_law_begin "_law_begin" = true) (k_law_begin : PySem.W.keepIn K (.ref f_law_begin) = true)
    (a_law_draw : PySem.W.nsIn K mainGlobals "_law_draw" = some (some (.ref f_law_draw))) (l_law_draw : K.lookup f_law_draw = some ⟨oc_law_draw, od_law_draw, .func (PySem.W.fnOf "_law_draw" "_law_draw" (defArgs s_law_draw) (defBody s_law_draw) (defScope s_law_draw) .none kV_law_draw dc_law_draw pm_law_draw an_law_draw cd_law_draw ct_law_draw), sl_law_draw⟩) (c_law_draw : PySem.W.codeIn K cd_law_draw "_law_draw" = true) (k_law_draw : PySem.W.keepIn K (.ref f_law_draw) = true)
    (a_law_moment : PySem.W.nsIn K mainGlobals "_law_moment" = some (some (.ref f_law_moment))) (l_law_moment : K.lookup f_law_moment = some ⟨oc_law_moment, od_law_moment, .func (PySem.W.fnOf "_law_moment" "_law_moment" (defArgs s_law_moment) (defBody s_law_moment) (defScope s_law_moment) .none kV_law_moment dc_law_moment pm_law_moment an_law_moment cd_law_moment ct_law_moment), sl_law_moment⟩) (c_law_moment : PySem.W.codeIn K cd_law_moment "_law_moment" = true) (k_law_moment : PySem.W.keepIn K (.ref f_law_moment) = true)
    (a_law_when : PySem.W.nsIn K mainGlobals "_law_when" = some (some (.ref f_law_when))) (l_law_when : K.lookup f_law_when = some ⟨oc_law_when, od_law_when, .func (PySem.W.fnOf "_law_when" "_law_when" (defArgs s_law_when) (defBody s_law_when) (defScope s_law_when) .none kV_law_when dc_law_when pm_law_when an_law_when cd_law_when ct_law_when), sl_law_when⟩) (c_law_when : PySem.W.codeIn K cd_law_when "_law_when" = true) (k_law_when : PySem.W.keepIn K (.ref f_law_when) = true)
    (a_law_odd : PySem.W.nsIn K mainGlobals "_law_odd" = some (some (.ref f_law_odd))) (l_law_odd : K.lookup f_law_odd = some ⟨oc_law_odd, od_law_odd, .func (PySem.W.fnOf "_law_odd" "_law_odd" (defArgs s_law_odd) (defBody s_law_odd) (defScope s_law_odd) .none kV_law_odd dc_law_odd pm_law_odd an_law_odd cd_law_odd ct_law_odd), sl_law_odd⟩) (c_law_odd : PySem.W.codeIn K cd_law_odd "_law_odd" = true) (k_law_odd : PySem.W.keepIn K (.ref f_law_odd) = true)
    (a_law_due : PySem.W.nsIn K mainGlobals "_law_due" = some (some (.ref f_law_due))) (l_law_due : K.lookup f_law_due = some ⟨oc_law_due, od_law_due, .func (PySem.W.fnOf "_law_due" "_law_due" (defArgs s_law_due) (defBody s_law_due) (defScope s_law_due) .none kV_law_due dc_law_due pm_law_due an_law_due cd_law_due ct_law_due), sl_law_due⟩) (c_law_due : PySem.W.codeIn K cd_law_due "_law_due" = true) (k_law_due : PySem.W.keepIn K (.ref f_law_due) = true)
    (a_law_read : PySem.W.nsIn K mainGlobals "_law_read" = some (some (.ref f_law_read))) (l_law_read : K.lookup f_law_read = some ⟨oc_law_read, od_law_read, .func (PySem.W.fnOf "_law_read" "_law_read" (defArgs s_law_read) (defBody s_law_read) (defScope s_law_read) .none kV_law_read dc_law_read pm_law_read an_law_read cd_law_read ct_law_read), sl_law_read⟩) (c_law_read : PySem.W.codeIn K cd_law_read "_law_read" = true) (k_law_read : PySem.W.keepIn K (.ref f_law_read) = true)
    (a_law_bent : PySem.W.nsIn K mainGlobals "_law_bent" = some (some (.ref f_law_bent))) (l_law_bent : K.lookup f_law_bent = some ⟨oc_law_bent, od_law_bent, .func (PySem.W.fnOf "_law_bent" "_law_bent" (defArgs s_law_bent) (defBody s_law_bent) (defScope s_law_bent) .none kV_law_bent dc_law_bent pm_law_bent an_law_bent cd_law_bent ct_law_bent), sl_law_bent⟩) (c_law_bent : PySem.W.codeIn K cd_law_bent "_law_bent" = true) (k_law_bent : PySem.W.keepIn K (.ref f_law_bent) = true)
    (a_law : PySem.W.nsIn K mainGlobals "law" = some (some (.ref f_law))) (l_law : K.lookup f_law = some ⟨oc_law, od_law, .func (PySem.W.fnOf "law" "law" (defArgs s_law) (defBody s_law) (defScope s_law) .none kV_law dc_law pm_law an_law cd_law ct_law), sl_law⟩) (c_law : PySem.W.codeIn K cd_law "law" = true) (k_law : PySem.W.keepIn K (.ref f_law) = true)
    (a_CardError : PySem.W.nsIn K mainGlobals "CardError" = some (some (.ref c_CardError)))
    (sp_CardError : PySem.W.specialIn K (.ref c_CardError) "__getattribute__" = some (some (.builtin "type.__getattribute__")))
    (ty_CardError : PySem.W.typeIn K (.ref c_CardError) = some (.type "type"))
    (rd_CardError : PySem.W.readsIn K c_CardError (.type "type") = true)
    (fi_CardError : PySem.W.findCls K (.ref c_CardError) (.type "type") "__init__" = some (.val (.builtin "ValueError.__init__")))
    (a_NoText : PySem.W.nsIn K mainGlobals "NoText" = some (some (.ref c_NoText)))
    (xl_NoText : K.lookup c_NoText = some (excClassObj xn_NoText xq_NoText c_NoText xN_NoText xb_NoText xm_NoText true xs_NoText xu_NoText xa_NoText xc_NoText xd_NoText x0_NoText x1_NoText x2_NoText x3_NoText x5_NoText "ValueError.__new__"))
    (xr_NoText : PySem.HandSPX.refsVE xm_NoText = true)
    (sa_NoText : PySem.W.findIn K (.ref c_NoText) "__setattr__" = some (some (.builtin "object.__setattr__")))
    (ex_NoText : PySem.W.subIn K (.ref c_NoText) (.type "BaseException") = some true)
    (ty_NoText : PySem.W.typeIn K (.ref c_NoText) = some (.type "type"))
    (kp_NoText : PySem.W.keepIn K (.ref c_NoText) = true)
    (ga_NoText : PySem.W.findIn K (.ref c_NoText) "__getattribute__" = some (some (.builtin "BaseException.__getattribute__")))
    (gg_NoText : PySem.W.findIn K (.ref c_NoText) "__getattr__" = some none)
    (hd_NoText : PySem.W.hasDictIn K c_NoText = true)
    (ii_NoText : PySem.W.findIn K (.ref c_NoText) "__init__" = some (some (.ref i_NoText)))
    (it_NoText : PySem.W.typeIn K (.ref i_NoText) = some (.type "function"))
    (is_NoText : PySem.W.isClsIn K c_NoText = true)
    (ss_NoText : PySem.W.subIn K (.ref c_NoText) (.ref c_NoText) = some true)
    (no_text_NoText : PySem.W.findIn K (.ref c_NoText) "text" = some none)
    (l_NoText_init : K.lookup i_NoText = some ⟨oc_NoText_init, od_NoText_init, .func (PySem.W.fnOf "__init__" "NoText.__init__" (defArgs s_NoText_init) (defBody s_NoText_init) (defScope s_NoText_init) .none kV_NoText_init dc_NoText_init pm_NoText_init an_NoText_init cd_NoText_init ct_NoText_init), sl_NoText_init⟩) (c_NoText_init : PySem.W.codeIn K cd_NoText_init "NoText.__init__" = true)
    (v_MOMENTS : PySem.W.nsIn K mainGlobals "MOMENTS" = some (some (.int (9600) t_MOMENTS)))
    (v_HOURS : PySem.W.nsIn K mainGlobals "HOURS" = some (some (.int (24) t_HOURS)))
    (v_FIGURES : PySem.W.nsIn K mainGlobals "FIGURES" = some (some (.str "0123456789" t_FIGURES)))
    (b_abs : PySem.W.nsIn K mainGlobals "abs" = some none)
    (b_all : PySem.W.nsIn K mainGlobals "all" = some none)
    (b_int : PySem.W.nsIn K mainGlobals "int" = some none)
    (b_isinstance : PySem.W.nsIn K mainGlobals "isinstance" = some none)
    (b_len : PySem.W.nsIn K mainGlobals "len" = some none)
    (b_range : PySem.W.nsIn K mainGlobals "range" = some none)
    (b_repr : PySem.W.nsIn K mainGlobals "repr" = some none)
    (b_str : PySem.W.nsIn K mainGlobals "str" = some none) :
    ∃ fd : FuncData, (∀ (s : Shared) (u : Value), BindsTo s fd ⟨[u], []⟩ [("_law_script", u)]) ∧ ∀ base : Heap, K.In base → base.Ns mainGlobals mg → Sm base → FnG l.prog w K mg base CX0 5 fa fd ["_law_script"] (Sp1 (R_law K)) := by
  have e := hfa.symm.trans (PySem.W.mg_of X G a_law)
  cases e
  let ad : Ad := { c_CardError := c_CardError, c_NoText := c_NoText, i_NoText := i_NoText }
  have T : Tx K mg ad := ⟨⟨_, PySem.W.mg_of X G v_MOMENTS, ⟨_, rfl⟩⟩, ⟨_, PySem.W.mg_of X G v_HOURS, ⟨_, rfl⟩⟩, ⟨_, PySem.W.mg_of X G v_FIGURES, ⟨_, rfl⟩⟩, PySem.W.mg_none_of X G b_abs, PySem.W.mg_none_of X G b_all, PySem.W.mg_none_of X G b_int, PySem.W.mg_none_of X G b_isinstance, PySem.W.mg_none_of X G b_len, PySem.W.mg_none_of X G b_range, PySem.W.mg_none_of X G b_repr, PySem.W.mg_none_of X G b_str, ⟨PySem.W.mg_of X G a_CardError, sp_CardError, ty_CardError, rd_CardError, fi_CardError⟩, ⟨PySem.W.mg_of X G a_NoText, oexC_mk xl_NoText xr_NoText sa_NoText ex_NoText ty_NoText kp_NoText, ⟨ga_NoText, gg_NoText, ex_NoText, hd_NoText⟩, ii_NoText, it_NoText, (List.forall_mem_cons.mpr ⟨no_text_NoText, nofun⟩), exm_of ex_NoText is_NoText ty_NoText ss_NoText⟩⟩
  have F_NoText_init := df_mk (st := s_NoText_init) l_NoText_init c_NoText_init
  have F_number_of := df_mk (st := s_number_of) l_number_of c_number_of
  have F_show_moment := df_mk (st := s_show_moment) l_show_moment c_show_moment
  have F_moment_of := df_mk (st := s_moment_of) l_moment_of c_moment_of
  have F_read_moment := df_mk (st := s_read_moment) l_read_moment c_read_moment
  have F_law_begin := df_mk (st := s_law_begin) l_law_begin c_law_begin
  have F_law_draw := df_mk (st := s_law_draw) l_law_draw c_law_draw
  have F_law_moment := df_mk (st := s_law_moment) l_law_moment c_law_moment
  have F_law_when := df_mk (st := s_law_when) l_law_when c_law_when
  have F_law_odd := df_mk (st := s_law_odd) l_law_odd c_law_odd
  have F_law_due := df_mk (st := s_law_due) l_law_due c_law_due
  have F_law_read := df_mk (st := s_law_read) l_law_read c_law_read
  have F_law_bent := df_mk (st := s_law_bent) l_law_bent c_law_bent
  have F_law := df_mk (st := s_law) l_law c_law
  refine ⟨PySem.W.fnOf "law" "law" (defArgs s_law) (defBody s_law) (defScope s_law) .none kV_law dc_law pm_law an_law cd_law ct_law, fun s u => .of_eq rfl, fun base kin hns M => ?_⟩
  have I_NoText : XiK l.prog w K mg base ad.i_NoText 1 (Sp2 (R_exc1 ad.c_NoText "text")) := ⟨_, _, (ok_NoText_init T F_NoText_init), fun us hl => match us, hl with | [_, _], _ => rfl⟩
  have G_law_draw : Kn l.prog w K mg base CX0 "_law_draw" 1 2 [] (fun vs _ => vs) (Sp2 (R_draw l.prog w)) := kn_mk (h := h) (ok_draw F_law_draw) (PySem.W.mg_of X G a_law_draw) k_law_draw (fun us hl => match us, hl with | [_, _], _ => rfl)
  have G_law_begin : Kn l.prog w K mg base CX0 "_law_begin" 1 2 [] (fun vs _ => vs) (Sp2 (R_begin l.prog w K)) := kn_mk (h := h) (ok_begin T F_law_begin) (PySem.W.mg_of X G a_law_begin) k_law_begin (fun us hl => match us, hl with | [_, _], _ => rfl)
  have G_law_odd : Kn l.prog w K mg base CX0 "_law_odd" 2 2 [] (fun vs _ => vs) (Sp2 (R_odd l.prog w K)) := kn_mk (h := h) (ok_odd T F_law_odd G_law_draw) (PySem.W.mg_of X G a_law_odd) k_law_odd (fun us hl => match us, hl with | [_, _], _ => rfl)
  have G_law_moment : Kn l.prog w K mg base CX0 "_law_moment" 2 1 [] (fun vs _ => vs) (Sp1 (R_moment l.prog w)) := kn_mk (h := h) (ok_moment T F_law_moment G_law_draw) (PySem.W.mg_of X G a_law_moment) k_law_moment (fun us hl => match us, hl with | [_], _ => rfl)
  have G_law_when : Kn l.prog w K mg base CX0 "_law_when" 1 1 [] (fun vs _ => vs) (Sp1 R_when) := kn_mk (h := h) (ok_when T F_law_when) (PySem.W.mg_of X G a_law_when) k_law_when (fun us hl => match us, hl with | [_], _ => rfl)
  have G_show_moment : Kn l.prog w K mg base CX0 "show_moment" 1 1 [] (fun vs _ => vs) (Sp1 R_when) := kn_mk (h := h) (ok_show T F_show_moment) (PySem.W.mg_of X G a_show_moment) k_show_moment (fun us hl => match us, hl with | [_], _ => rfl)
  have G_number_of : Kn l.prog w K mg base CX0 "number_of" 1 3 [] (fun vs _ => vs) (Sp3 R_number) := kn_mk (h := h) (ok_number T F_number_of) (PySem.W.mg_of X G a_number_of) k_number_of (fun us hl => match us, hl with | [_, _, _], _ => rfl)
  have G_moment_of : Kn l.prog w K mg base CX0 "moment_of" 2 1 [] (fun vs _ => vs) (Sp1 R_moment_of) := kn_mk (h := h) (ok_moment_of T F_moment_of G_number_of) (PySem.W.mg_of X G a_moment_of) k_moment_of (fun us hl => match us, hl with | [_], _ => rfl)
  have G_read_moment : Kn l.prog w K mg base (L2.CX l.prog w) "read_moment" 3 1 [] (fun vs _ => vs) (SpX1 (R_read K ad.c_NoText)) := kn_mk (h := h) (ok_read_moment T F_read_moment G_moment_of I_NoText) (PySem.W.mg_of X G a_read_moment) k_read_moment (fun us hl => match us, hl with | [_], _ => rfl)
  have G_law_read : Kn l.prog w K mg base CX0 "_law_read" 4 1 [] (fun vs _ => vs) (Sp1 (R_law_read K)) := kn_mk (h := h) (ok_law_read T M F_law_read G_read_moment) (PySem.W.mg_of X G a_law_read) k_law_read (fun us hl => match us, hl with | [_], _ => rfl)
  have G_law_due : Kn l.prog w K mg base CX0 "_law_due" 1 1 [] (fun vs _ => vs) (Sp1 (R_due1 K)) := kn_mk (h := h) (ok_due T F_law_due) (PySem.W.mg_of X G a_law_due) k_law_due (fun us hl => match us, hl with | [_], _ => rfl)
  have G_law_bent : Kn l.prog w K mg base CX0 "_law_bent" 2 2 [] (fun vs _ => vs) (Sp2 (R_bent l.prog w)) := kn_mk (h := h) (ok_bent T F_law_bent G_law_draw) (PySem.W.mg_of X G a_law_bent) k_law_bent (fun us hl => match us, hl with | [_, _], _ => rfl)
  exact ok_law T M F_law G_law_begin G_law_moment G_law_when G_show_moment G_law_read G_law_bent G_law_odd G_law_due
end K01

open PySem PySem.W PyProof.Rows L2 L2.Pc in
set_option maxRecDepth 100000 in
set_option maxHeartbeats 0 in
theorem PySem.Challenge.cw_pinnedcards_k01_moments_shown_and_read_holds : PySem.Challenge.rw_pinnedcards_k01_moments_shown_and_read.Holds := by
  w_on; o_law; k_head; (case hw => w_witness2)
  k_fill
  refine walkG (n := 63) (k := 5) (x := "_law_script") (CX := CX0) (sp := fun w => Sp1 (K01.R_law _)) rfl (by decide) (by decide +kernel) rfl ⟨rfl, by decide, by decide⟩ (fun w h Y => PySem.W.kIn_of Y) ?F (fun w H a ns hl hO hS => ⟨_, rfl, a, ns, rfl, hS, by omega, fun _ => rfl⟩) (fun _ _ _ _ z => z)
  case F =>
    intro w mg fa h KX G hmg
    refine' K01.all_mk KX G hmg ?a_number_of ?l_number_of ?c_number_of ?k_number_of ?a_show_moment ?l_show_moment ?c_show_moment ?k_show_moment ?a_moment_of ?l_moment_of ?c_moment_of ?k_moment_of ?a_read_moment ?l_read_moment ?c_read_moment ?k_read_moment ?a_law_begin ?l_law_begin ?c_law_begin ?k_law_begin ?a_law_draw ?l_law_draw ?c_law_draw ?k_law_draw ?a_law_moment ?l_law_moment ?c_law_moment ?k_law_moment ?a_law_when ?l_law_when ?c_law_when ?k_law_when ?a_law_odd ?l_law_odd ?c_law_odd ?k_law_odd ?a_law_due ?l_law_due ?c_law_due ?k_law_due ?a_law_read ?l_law_read ?c_law_read ?k_law_read ?a_law_bent ?l_law_bent ?c_law_bent ?k_law_bent ?a_law ?l_law ?c_law ?k_law ?a_CardError ?sp_CardError ?ty_CardError ?rd_CardError ?fi_CardError ?a_NoText ?xl_NoText ?xr_NoText ?sa_NoText ?ex_NoText ?ty_NoText ?kp_NoText ?ga_NoText ?gg_NoText ?hd_NoText ?ii_NoText ?it_NoText ?is_NoText ?ss_NoText ?no_text_NoText ?l_NoText_init ?c_NoText_init ?v_MOMENTS ?v_HOURS ?v_FIGURES ?b_abs ?b_all ?b_int ?b_isinstance ?b_len ?b_range ?b_repr ?b_str
    (case a_number_of => k_is)
    (case l_number_of => k_is)
    (case c_number_of => k_is)
    (case k_number_of => k_is)
    (case a_show_moment => k_is)
    (case l_show_moment => k_is)
    (case c_show_moment => k_is)
    (case k_show_moment => k_is)
    (case a_moment_of => k_is)
    (case l_moment_of => k_is)
    (case c_moment_of => k_is)
    (case k_moment_of => k_is)
    (case a_read_moment => k_is)
    (case l_read_moment => k_is)
    (case c_read_moment => k_is)
    (case k_read_moment => k_is)
    (case a_law_begin => k_is)
    (case l_law_begin => k_is)
    (case c_law_begin => k_is)
    (case k_law_begin => k_is)
    (case a_law_draw => k_is)
    (case l_law_draw => k_is)
    (case c_law_draw => k_is)
    (case k_law_draw => k_is)
    (case a_law_moment => k_is)
    (case l_law_moment => k_is)
    (case c_law_moment => k_is)
    (case k_law_moment => k_is)
    (case a_law_when => k_is)
    (case l_law_when => k_is)
    (case c_law_when => k_is)
    (case k_law_when => k_is)
    (case a_law_odd => k_is)
    (case l_law_odd => k_is)
    (case c_law_odd => k_is)
    (case k_law_odd => k_is)
    (case a_law_due => k_is)
    (case l_law_due => k_is)
    (case c_law_due => k_is)
    (case k_law_due => k_is)
    (case a_law_read => k_is)
    (case l_law_read => k_is)
    (case c_law_read => k_is)
    (case k_law_read => k_is)
    (case a_law_bent => k_is)
    (case l_law_bent => k_is)
    (case c_law_bent => k_is)
    (case k_law_bent => k_is)
    (case a_law => k_is)
    (case l_law => k_is)
    (case c_law => k_is)
    (case k_law => k_is)
    (case a_CardError => k_is)
    (case sp_CardError => k_is)
    (case ty_CardError => k_is)
    (case rd_CardError => k_is)
    (case fi_CardError => k_is)
    (case a_NoText => k_is)
    (case xl_NoText => k_is)
    (case xr_NoText => decide +kernel)
    (case sa_NoText => k_is)
    (case ex_NoText => k_is)
    (case ty_NoText => k_is)
    (case kp_NoText => k_is)
    (case ga_NoText => k_is)
    (case gg_NoText => k_is)
    (case hd_NoText => k_is)
    (case ii_NoText => k_is)
    (case it_NoText => k_is)
    (case is_NoText => k_is)
    (case ss_NoText => first | rfl | k_is)
    (case no_text_NoText => k_is)
    (case l_NoText_init => k_is)
    (case c_NoText_init => k_is)
    (case v_MOMENTS => k_is)
    (case v_HOURS => k_is)
    (case v_FIGURES => k_is)
    (case b_abs => k_is)
    (case b_all => k_is)
    (case b_int => k_is)
    (case b_isinstance => k_is)
    (case b_len => k_is)
    (case b_range => k_is)
    (case b_repr => k_is)
    (case b_str => k_is)
