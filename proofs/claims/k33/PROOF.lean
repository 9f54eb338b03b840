import PyProof.Rows.All
import Wide.All
import OpenK.AllK
import Wide.FinOn
import HandS.ForMost
import HandS.Defaults
import HandS.IsInst
import HandS.Deep
import HandS.StrMore
import HandS.Wide
import HandS.Ends
import PyProof.ReprRoads
import HandS.ExcInit
import HandS.ExcField
import HandS.ExcOwn
import HandS.WordsExc
import HandS.TryOnly
import KE.IntTextLaws
import HandS.RaiseMore
import HandS.Style
import HandS.TupAny
import HandS.Rev
import HandS.Zip
import HandS.Small
import HandS.Flt
import HandS.MakeKw
import HandS.FStr
import KE.KCallOwn
import PyProof.InstNe
import PyProof.NeKinds
import PyProof.SeqInW
import HandS.OwnEq
import HandS.More
import HandS.TupLe
import KE.GoesMore
import PySem.Challenge.RW_pinnedcards_k33_photographs_made
set_option Elab.async false
set_option linter.all false
set_option maxRecDepth 100000
set_option maxHeartbeats 4000000
namespace L2.Pc
open PySem PySem.Spec PyProof.Rows

/-! ### defs whose frame no builtin repr surrounds: the promise -/
structure FnG (P : Program) (w : World) (K : PySem.W.Frag) (mg : Str → Option Value) (base : Heap)
    (CX : CXT) (k : Nat) (f : Addr) (fd : FuncData) (ps : List Str) (sp : Sp) : Prop where
  len : ∀ vs H Q E, sp vs H Q E → vs.length = ps.length
  go : ∀ (A : Around) (outer : List Env) (s : Shared) (H : Hp) (args : Args) (us : List Value)
    (vs : List V) (Q : VK) (E : XK), A.guards = some [] → Room k A → Env0 P w K mg base A outer s H →
    BindsTo s fd args (ps.zip us) → Vals vs us → sp vs H Q E →
    codeAny (model P w) A (.call (.ref f) args) (CR CX outer P w H s Q E) s

section
variable {P : Program} {w : World} {K : PySem.W.Frag} {mg : Str → Option Value} {base : Heap}
  {CX : CXT} {f : Addr} {fd : FuncData} {N ps : List Str} {sp sp' : Sp} {k j : Nat}

theorem FnG.mono (F : FnG P w K mg base CX j f fd ps sp) (h : j ≤ k) : FnG P w K mg base CX k f fd ps sp :=
  ⟨F.len, fun A o s H a us vs Q E g r => F.go A o s H a us vs Q E g (r.mono h)⟩
theorem FnG.imp (F : FnG P w K mg base CX k f fd ps sp) (h : ∀ vs H Q E, sp' vs H Q E → sp vs H Q E) :
    FnG P w K mg base CX k f fd ps sp' :=
  ⟨fun vs H Q E q => F.len vs H Q E (h _ _ _ _ q),
   fun A o s H a us vs Q E g r e b v q => F.go A o s H a us vs Q E g r e b v (h _ _ _ _ q)⟩

/-- a def as it stands behind the top, its defaults of any form -/
structure Df (K : PySem.W.Frag) (x qual : Str) (st : Stmt) (f : Addr) (fd : FuncData) : Prop where
  ex : ∃ (oc : Value) (od : Option Addr) (dV kV doc pm : Value) (an : Option Addr) (cdv ct : Value)
      (osl : Array (Option Value)),
    fd = PySem.W.fnOf x qual (defArgs st) (defBody st) (defScope st) dV kV doc pm an cdv ct ∧
    K.lookup f = some ⟨oc, od, .func fd, osl⟩ ∧ PySem.W.codeIn K cdv qual = true

theorem guards_deep {A : Around} {env : Env} (h : A.guards = some []) : (A.deeper env).guards = some [] := h

/-- the def's body, as a term of rules, and its reading -/
theorem Df.ok {x qual : Str} {st : Stmt} (F : Df K x qual st f fd) (S : FnScope N ps (defScope st))
    (len : ∀ vs H Q E, sp vs H Q E → vs.length = ps.length)
    (hb : ∀ (cdv : Value) (A : Around) (outer : List Env) (s : Shared) (H : Hp) (vs : List V) (Q : VK) (E : XK),
      (A.deeper (envOfC qual (defScope st) s.heap.objs.size f cdv)).guards = some [] →
      Room k (A.deeper (envOfC qual (defScope st) s.heap.objs.size f cdv)) → sp vs H Q E →
      ∃ t, PSs (cxOf CX P w K mg base N qual (defScope st) f cdv A outer s H E) (defBody st) t ∧
        t { nx := fun _ H' => Q .non H', rt := Q } (start N vs) H) :
    FnG P w K mg base CX (k + 1) f fd ps sp := by
  obtain ⟨oc, od, dV, kV, doc, pm, an, cdv, ct, osl, rfl, lk, hc⟩ := F.ex
  refine ⟨len, fun A outer s H args us vs Q E hga hr e0 hbi r hsp => ?_⟩
  have hlen := len _ _ _ _ hsp
  have kin : K.In s.heap := e0.mod.kin.keeps (fun b o e => (e0.bs b o e).1)
  have hlm : s.heap.NoLimit := e0.mod.nolimit.keeps (fun b o e => (e0.bs b o e).1)
  have kinds : ∀ y ∈ ps.zip us, (defScope st).names.lookup y.1 = some .local ∨
      ((defScope st).names.lookup y.1 = some .cell ∧
        ((cellsFrom (s.heap.objs.size + 1) (defScope st).names []).lookup y.1).isSome = true) := by
    rintro ⟨n, v⟩ hy
    rcases S.par n (List.of_mem_zip hy).1 with h1 | h1
    · left; exact h1
    · right; exact ⟨h1, PySem.W.cellsFrom_some _ _ _ (Or.inl h1)⟩
  apply codeAny_call_function hr.depth (kin _ _ lk) rfl S.co S.gen rfl (PySem.W.codeRec_of kin hc) (hbi _ _ _ _ ?_)
  apply wpAny_newFunctionEnv_cells S.kind kinds
  intro env he s1 hx
  subst he
  refine ⟨hlm.keeps hx.toInCall.keep, codeAny_func ?_⟩
  obtain ⟨t, ht, hq⟩ := hb cdv A outer s H vs Q E (guards_deep hga) (hr.deeper _) hsp
  have I0 : Inv (cxOf CX P w K mg base N qual (defScope st) f cdv A outer s H E) [] (start N vs) H s1 :=
    inv_start S hr.hd e0 hlen r hx
  refine wpAny_mono (ht.run [] s1 (start N vs) H _ I0 hq) ?_ (fun e s' hs => hs)
  intro fl s' hs
  cases fl with
  | ret u =>
    obtain ⟨v, σ', H', J, rv, q⟩ := hs
    exact ⟨v, H', J.os, J.bare, J.base, J.hok, rv, q⟩
  | next =>
    obtain ⟨σ', H', J, q⟩ := hs
    exact ⟨V.non, H', J.os, J.bare, J.base, J.hok, rfl, q⟩
  | brk => obtain ⟨_, _, _, q⟩ := hs; exact q.elim
  | cont => obtain ⟨_, _, _, q⟩ := hs; exact q.elim
end

/-- the same of a def that lets nothing out -/
theorem Df.ok0 {P : Program} {w : World} {K : PySem.W.Frag} {mg : Str → Option Value} {base : Heap} {f : Addr} {fd : FuncData} {N ps : List Str} {sp : Sp} {k : Nat}
    {x qual : Str} {st : Stmt} (F : Df K x qual st f fd) (S : FnScope N ps (defScope st))
    (len : ∀ vs H Q E, sp vs H Q E → vs.length = ps.length)
    (hb : ∀ (cdv : Value) (A : Around) (outer : List Env) (s : Shared) (H : Hp) (vs : List V) (Q : VK) (E : XK),
      (A.deeper (envOfC qual (defScope st) s.heap.objs.size f cdv)).guards = some [] →
      Room k (A.deeper (envOfC qual (defScope st) s.heap.objs.size f cdv)) → sp vs H Q E →
      ∃ t, PSs (cxOf CX0 P w K mg base N qual (defScope st) f cdv A outer s H E).nox (defBody st) t ∧
        t { nx := fun _ H' => Q .non H', rt := Q } (start N vs) H) :
    FnG P w K mg base CX0 (k + 1) f fd ps sp :=
  F.ok S len fun cdv A outer s H vs Q E g r q => by
    obtain ⟨t, h1, h2⟩ := hb cdv A outer s H vs Q E g r q
    exact ⟨t, h1.nox, h2⟩

/-- a def known by a module's name: n positional values, keywords ks -/
structure Kn (P : Program) (w : World) (K : PySem.W.Frag) (mg : Str → Option Value) (base : Heap) (CX : CXT)
    (x : Str) (k n : Nat) (ks : List Str) (gV : List V → List V → List V) (sp : Sp) : Prop where
  ex : ∃ (f : Addr) (fd : FuncData) (ps : List Str) (g : List Value → List Value → List Value),
    FnG P w K mg base CX k f fd ps sp ∧ mg x = some (.ref f) ∧ PySem.W.keepIn K (.ref f) = true ∧
    KBn K fd ps n ks g gV

section
variable {X : Cx} {CX : CXT} {k n : Nat} {ks : List Str} {gV : List V → List V → List V} {sp : Sp} {E : XK} {x : Str}
  {p pos : Pos} {e : Expr} {es : List Expr} {kws : List Keyword} {t tk : TA}

def tKn (n m : Nat) (gV : List V → List V → List V) (sp : Sp) (E : XK) (t tk : TA) : TE := fun σ H Q =>
  t σ H fun vs H1 => tk σ H1 fun zs H2 => vs.length = n ∧ zs.length = m ∧ sp (gV vs zs) H2 Q E

theorem runG {pins : List (Addr × Obj)} {σ : St} {H : Hp} {s : Shared} {Q : VK} {us ws : List Value} {vs zs : List V}
    {f : Addr} {fd : FuncData} {ps : List Str} {g : List Value → List Value → List Value}
    (F : FnG X.prog X.w X.K X.mg X.base CX k f fd ps sp) (hga : X.A.guards = some []) (hr : Room k X.A)
    (hb : KBn X.K fd ps n ks g gV) (hx : Passes CX X E) (I : Inv X pins σ H s) (r : Vals vs us) (rz : Vals zs ws)
    (hn : vs.length = n) (hm : zs.length = ks.length) (h : sp (gV vs zs) H Q E) :
    wpAny (model X.prog X.w) X.A (call (.ref f) us (ks.zip ws)) (EP X pins σ Q) X.xe s := by
  have hu : us.length = n := by rw [← r.length]; exact hn
  have hw : ws.length = ks.length := by rw [← rz.length]; exact hm
  apply wpAny_call
  refine codeAny_mono (F.go X.A X.stack s H _ (g us ws) (gV vs zs) Q E hga hr I.env0
    (hb.to s us ws I.kIn hu hw) (hb.rel r rz) h) ?_
  intro res s' hq
  cases res with
  | error er => exact hx pins σ H s er s' I hq
  | ok fl =>
    cases fl with
    | ret u => exact I.after hq
    | next => exact hq.elim
    | brk => exact hq.elim
    | cont => exact hq.elim

theorem pe_kn (F : Kn X.prog X.w X.K X.mg X.base CX x k n [] gV sp) (hga : X.A.guards = some []) (hr : Room k X.A)
    (hg : Gl X x) (hx : Passes CX X E) (ha : PA X (e :: es) t)
    (hdb : (x == ("__debug__" : Str)) = false := by decide)
    (he : starEach (e :: es) X.env = (false, eval e X.env) :: starEach es X.env := by rfl)
    (hpl : (backTo pos (starEach es X.env)).any (·.1) = false := by rfl) :
    PE X (.Call (.Name x p) (e :: es) [] pos) (tKn n 0 gV sp E t tNil) := by
  obtain ⟨f, fd, ps, g, G, hm, hk, hb⟩ := F.ex
  refine ⟨fun pins s σ H Q I h => wpAny_Call_Name_kw (ld_glob I hg hm ?_ hdb)⟩
  apply PySem.W.callWith_K (h₀ := X.base) I.ok.mod.kin hk ?_ he hpl
  refine thn (ha.run pos pins s σ H _ I h) ?_
  rintro us s1 ⟨vs, H1, I1, r, q1, q2, q⟩
  exact ⟨I1.kIn, runG (ws := []) (zs := []) G hga hr hb hx I1 r .nil q1 q2 q⟩
theorem pe_kn0 (F : Kn X.prog X.w X.K X.mg X.base CX x k n [] gV sp) (hga : X.A.guards = some []) (hr : Room k X.A)
    (hg : Gl X x) (hx : Passes CX X E) (hdb : (x == ("__debug__" : Str)) = false := by decide) :
    PE X (.Call (.Name x p) [] [] pos) (tKn n 0 gV sp E tNil tNil) := by
  obtain ⟨f, fd, ps, g, G, hm, hk, hb⟩ := F.ex
  refine ⟨fun pins s σ H Q I h => wpAny_Call_Name_kw (ld_glob I hg hm ?_ hdb)⟩
  obtain ⟨q1, q2, q⟩ := h
  exact PySem.W.callWith_K0 I.kIn hk (runG (us := []) (ws := []) (vs := []) (zs := []) G hga hr hb hx I .nil .nil q1 q2 q)
theorem pe_knK (F : Kn X.prog X.w X.K X.mg X.base CX x k n ks gV sp) (hga : X.A.guards = some []) (hr : Room k X.A)
    (hg : Gl X x) (hx : Passes CX X E) (ha : PA X (e :: es) t) (hkw : PK X kws tk)
    (hall : (backToKw pos (keywordEach kws X.env)).all (·.1.isSome) = true := by rfl)
    (hks : (backToKw pos (keywordEach kws X.env)).filterMap (·.1) = ks := by rfl)
    (hdb : (x == ("__debug__" : Str)) = false := by decide)
    (he : starEach (e :: es) X.env = (false, eval e X.env) :: starEach es X.env := by rfl)
    (hpl : ((backTo pos (starEach (e :: es) X.env)).any (·.1) ||
      (backToKw pos (keywordEach kws X.env)).any (·.1.isNone)) = false := by rfl) :
    PE X (.Call (.Name x p) (e :: es) kws pos) (tKn n ks.length gV sp E t tk) := by
  obtain ⟨f, fd, ps, g, G, hm, hk, hb⟩ := F.ex
  refine ⟨fun pins s σ H Q I h => wpAny_Call_Name_kw (ld_glob I hg hm ?_ hdb)⟩
  apply PySem.W.callWith_KW (h₀ := X.base) I.ok.mod.kin hk hall ?_ hpl he
  refine thn (ha.run pos pins s σ H _ I h) ?_
  rintro us s1 ⟨vs, H1, I1, r, q⟩
  refine thn (hkw.run pos pins s1 σ H1 _ I1 q) ?_
  rintro ws s2 ⟨zs, H2, I2, rz, q1, q2, q3⟩
  refine ⟨I2.kIn, ?_⟩
  rw [hks]
  exact runG G hga hr hb hx I2 r rz q1 q2 q3
end

theorem kb_pos {K : PySem.W.Frag} {fd : FuncData} {ps : List Str} {n : Nat}
    (h : ∀ us : List Value, us.length = n → bindArgs fd ⟨us, []⟩ = pure (ps.zip us)) :
    KBn K fd ps n [] (fun us _ => us) (fun vs _ => vs) :=
  ⟨fun s us ws _ hu _ => by
    have e : ([] : List Str).zip ws = [] := rfl
    rw [e]; exact .of_eq (h us hu), fun r _ => r⟩
end L2.Pc

namespace L2.Pc
open PySem PySem.Spec PyProof.Rows

/-- the modules' dict is the head's, untracked -/
structure Sm (base : Heap) : Prop where
  ns : ∃ m, base.Ns sysModules m
/-! ### the law's call, from such a promise -/
section
variable {P : Program} {w : World} {K : PySem.W.Frag} {mg mb : Str → Option Value} {CX : CXT} {k : Nat}
  {fa a : Addr} {fd : FuncData} {x : Str} {sp : Sp} {s1 : Shared} {vs : List Value} {ns : List Int}

def LawEnd (s1 : Shared) (r : Result) (s' : Shared) : Prop :=
  r = .ok (.ret (.bool true)) ∧ OldK s1.heap s'.heap ∧ s'.os = s1.os ∧ AllBare s'.gens

theorem law_core {H : Hp} (KX : K.In s1.heap) (hns : s1.heap.Ns mainGlobals mg) (hb : s1.heap.Ns builtinsNs mb)
    (hbb : ∀ y : Str, y ≠ "__name__" → mb y = bootBuiltins y) (hlim : s1.heap.NoLimit) (hge : s1.gens = #[])
    (ha : s1.heap.get? a = some { cls := .type "list", data := .seq vs.toArray }) (hr : Room k callerA)
    (hsm : ∃ m, s1.heap.Ns sysModules m) (F : ∀ base : Heap, K.In base → base.Ns mainGlobals mg → Sm base → FnG P w K mg base CX k fa fd [x] sp)
    (hbind : ∀ (s : Shared) (u : Value), BindsTo s fd ⟨[u], []⟩ [(x, u)])
    (hsp : sp [.ref a] H (fun v _ => v = .bl true) fun _ _ _ => False)
    (hCX : ∀ e s', CX [] H s1 (fun _ _ _ => False) e s' → False)
    (hO : Only H) (hok : HOk P w H s1.heap) (hA : ∀ b, H b ≠ none → b = a) (hK : H a ≠ none → K.lookup a = none) :
    codeAny (model P w) callerA (.call (.ref fa) ⟨[.ref a], []⟩) (LawEnd s1) s1 := by
  have keep1 : ∀ {b : Addr} {o : Obj}, s1.heap.get? b = some o → H b = none → (hidT s1.heap H).get? b = some o :=
    fun e n => hidT_get e n
  have isA : ∀ {b : Addr} {u : HO}, H b = some u → b = a := fun {b u} q => hA b (by rw [q]; exact Option.some_ne_none _)
  have nodict : ∀ {b : Addr} {o : Obj} {es : Array DictEntry} {ep : Nat},
      s1.heap.get? b = some o → o.data = .dict es ep → H b = none := by
    intro b o es ep e d
    cases q : H b with
    | none => rfl
    | some u =>
      have e2 := isA q
      subst e2
      rw [ha] at e
      cases e
      cases (show Data.seq vs.toArray _ = Data.dict es ep from d)
  have ns1 : ∀ {b : Addr} {m : Str → Option Value}, s1.heap.Ns b m → (hidT s1.heap H).Ns b m := by
    rintro b m ⟨o, es, ep, e, d, r⟩
    exact ⟨o, es, ep, keep1 e (nodict e d), d, r⟩
  have kin : K.In (hidT s1.heap H) := by
    intro b o e
    refine keep1 (KX b o e) ?_
    cases q : H b with
    | none => rfl
    | some u =>
      have e2 := isA q
      subst e2
      rw [hK (by rw [q]; exact Option.some_ne_none _)] at e
      cases e
  have md : Mod K mg (hidT s1.heap H) :=
    ⟨kin, ns1 hns, ⟨mb, ns1 hb, hbb⟩, by obtain ⟨mc, h1, h2⟩ := hlim; exact ⟨mc, ns1 h1, h2⟩⟩
  have en : Env0 P w K mg (hidT s1.heap H) callerA [] s1 H :=
    ⟨rfl, md, fun b o e => of_hidT e, Nat.le_of_eq (hidT_size _ _), trivial, fun b hb => (nomatch hb), hok, .of_eq hge⟩
  have run := (F _ kin (ns1 hns) (let ⟨m, hm⟩ := hsm; ⟨m, ns1 hm⟩)).go callerA [] s1 H ⟨[.ref a], []⟩ [.ref a] [.ref a] _ _ rfl hr en
    (hbind s1 (.ref a)) (.cons rfl .nil) hsp
  refine codeAny_mono run ?_
  intro r s' h
  cases r with
  | error e => exact (hCX e s' h).elim
  | ok fl =>
    cases fl with
    | next => exact h.elim
    | brk => exact h.elim
    | cont => exact h.elim
    | ret u =>
      obtain ⟨v, H', os, bare, un, hok2, r2, q⟩ := h
      have qv : v = .bl true := q
      subst qv
      have hu : u = Value.bool true := r2
      subst hu
      refine ⟨rfl, OldK.of_keep ?_, os, bare⟩
      intro b o e
      cases q : H b with
      | none => exact un.keep b o e q (fun z => nomatch z) (fun z => nomatch z)
      | some u =>
        rcases hO b with z | ⟨ob, xs, z⟩
        · rw [q] at z
          cases z
        · obtain ⟨e1, _⟩ := hok b _ z
          obtain ⟨e2, _⟩ := hok2 b _ (un.frzs b ob _ z)
          rw [e] at e1
          cases e1
          exact e2

theorem law_callG (KX : K.In s1.heap) (hns : s1.heap.Ns mainGlobals mg) (hb : s1.heap.Ns builtinsNs mb)
    (hbb : ∀ y : Str, y ≠ "__name__" → mb y = bootBuiltins y) (hlim : s1.heap.NoLimit) (hge : s1.gens = #[])
    (ha : s1.heap.get? a = some { cls := .type "list", data := .seq vs.toArray }) (hi : IntsAre vs ns)
    (hl : ns.length ≤ sizeLine) (hr : Room k callerA)
    (hsm : ∃ m, s1.heap.Ns sysModules m) (F : ∀ base : Heap, K.In base → base.Ns mainGlobals mg → Sm base → FnG P w K mg base CX k fa fd [x] sp)
    (hbind : ∀ (s : Shared) (u : Value), BindsTo s fd ⟨[u], []⟩ [(x, u)])
    (hsp : ∀ H : Hp, Only H → SqL K H a (ns.map V.int) → sp [.ref a] H (fun v _ => v = .bl true) fun _ _ _ => False)
    (hCX : ∀ H e s', CX [] H s1 (fun _ _ _ => False) e s' → False) :
    codeAny (model P w) callerA (.call (.ref fa) ⟨[.ref a], []⟩) (LawEnd s1) s1 := by
  have rv := vals_ints hi
  cases hk : K.lookup a with
  | some o =>
    have e := KX a o hk
    rw [ha] at e
    cases e
    have hsz : vs.toArray.size ≤ sizeLine := by rw [List.size_toArray, hi.length]; exact hl
    refine law_core (H := fun _ => none) KX hns hb hbb hlim hge ha hr hsm F hbind ?_ (fun e s' => hCX _ e s')
      (fun _ => Or.inl rfl) (fun b u z => by cases z) (fun b z => absurd rfl z) (fun z => absurd rfl z)
    exact hsp _ (fun _ => Or.inl rfl) (Or.inr ⟨_, vs.toArray, _, hk, rfl, rfl, rfl, hsz, by simpa using rv⟩)
  | none =>
    have hin : (if a = a then some (HO.frz { cls := .type "list", data := .seq vs.toArray } (.lst (ns.map V.int))) else none)
      = some (HO.frz { cls := .type "list", data := .seq vs.toArray } (.lst (ns.map V.int))) := if_pos rfl
    have only : Only (fun b => if b = a then some (.frz { cls := .type "list", data := .seq vs.toArray } (.lst (ns.map V.int))) else none) := by
      intro b
      by_cases hb : b = a
      · right; exact ⟨_, _, if_pos hb⟩
      · left; exact if_neg hb
    refine law_core KX hns hb hbb hlim hge ha hr hsm F hbind (hsp _ only (Or.inl (Or.inr ⟨_, hin⟩))) (fun e s' => hCX _ e s') only ?_ ?_ (fun _ => hk)
    · intro b u z
      by_cases hb : b = a
      · have z2 := (if_pos hb).symm.trans z
        cases z2
        subst hb
        exact ⟨ha, by rw [List.length_map]; exact hl, vs, _, rv, ha⟩
      · have z2 := (if_neg hb).symm.trans z
        cases z2
    · intro b z
      by_cases hb : b = a
      · exact hb
      · exact absurd (if_neg hb) z
end

/-- the goal behind k_head, k_fill -/
theorem walkG {l : PySem.W.OpenLaw} {n k : Nat} {q : Program} {loose : List Str} {XP : (Str → Option Value) → Heap → Prop}
    {YP : World → Heap → Prop} {d : DefRec} {K : Params → PySem.W.Frag} {CX : CXT} {sp : World → Sp} {x : Str}
    (hn : l.most = some n) (hn2 : n ≤ sizeLine) (hi : importsNone q = true) (hdf : d.params.defaults = []) (hr : Room k callerA)
    (hY : ∀ (w : World) (h : Heap), YP w h → (K w.params).In h)
    (F : ∀ (w : World) (mg : Str → Option Value) (fa : Addr) (h : Heap), (K w.params).In h → h.Ns mainGlobals mg →
      mg d.name = some (.ref fa) →
      ∃ fd : FuncData, (∀ (s : Shared) (u : Value), BindsTo s fd ⟨[u], []⟩ [(x, u)]) ∧
        ∀ base : Heap, (K w.params).In base → base.Ns mainGlobals mg → Sm base →
          FnG l.prog w (K w.params) mg base CX k fa fd [x] (sp w))
    (hsp : ∀ (w : World) (H : Hp) (a : Addr) (ns : List Int), ns.length ≤ n → Only H →
      SqL (K w.params) H a (ns.map V.int) → sp w [.ref a] H (fun v _ => v = .bl true) fun _ _ _ => False)
    (hCX : ∀ (H : Hp) (s : Shared) (e : Value) (s' : Shared), CX [] H s (fun _ _ _ => False) e s' → False) :
    PySem.W.WalkO q loose XP YP l.row.toRowW d [] (fun f vs => PySem.call f vs) := by
  refine Att.attach_call hn hdf ?_
  intro w s0 s1 mg mb fa o pm cd doc a vs ns G Y ho hd hcd hmg hobj hints hlen hge
  have KX := hY w _ Y
  obtain ⟨fd, hbi, hF⟩ := F w mg fa _ KX G.T.g hmg
  exact law_callG KX G.T.g G.T.b G.T.builtins G.T.nolimit hge hobj hints (Nat.le_trans hlen hn2) hr ((G.T.seer hi).mods.imp fun _ h => h.1) hF hbi
    (fun H hO hS => hsp w H a ns hlen hO hS) (fun H e s' => hCX H s1 e s')
end L2.Pc

namespace L2.Pc
open PySem PySem.Spec PyProof.Rows

/-! ### what stays: every tracked object but those that are known by a property alone -/
def isX : HO → Bool
  | .ext _ => true
  | _ => false
def Mx (H H' : Hp) : Prop := ∀ a o, H a = some o → isX o = false → H' a = some o
theorem Mx.refl (H : Hp) : Mx H H := fun _ _ h _ => h
theorem Mx.trans {H H1 H2 : Hp} (a : Mx H H1) (b : Mx H1 H2) : Mx H H2 := fun x o h n => b x o (a x o h n) n
theorem _root_.L2.Same.mx {H H' : Hp} (a : Same H H') : Mx H H' := fun x o h _ => a x o h
theorem Mx.at {H H' : Hp} {a : Addr} {o : HO} (e : Mx H H') (h : H a = some o) (n : isX o = false := by rfl) : H' a = some o := e a o h n
theorem _root_.L2.Same.at {H H' : Hp} {a : Addr} {o : HO} (e : Same H H') (h : H a = some o) : H' a = some o := e a o h
theorem _root_.L2.Same.new {H : Hp} {p : Addr} {o : HO} (h : H p = none) : Same H (upd H p o) := fun b x e => by
  rw [upd_ne (ne_of_none e h)]; exact e
theorem _root_.L2.Same.put {H H1 : Hp} {p : Addr} {o : HO} (e : Same H H1) (h : H p = none) : Same H (upd H1 p o) := fun b x q => by
  rw [upd_ne (ne_of_none q h)]; exact e b x q
theorem Mx.new {H : Hp} {p : Addr} {o : HO} (h : H p = none) : Mx H (upd H p o) := Same.mx (Same.new h)
theorem Mx.put {H H1 : Hp} {p : Addr} {o : HO} (e : Mx H H1) (h : H p = none) : Mx H (upd H1 p o) := fun b x q n => by
  rw [upd_ne (ne_of_none q h)]; exact e b x q n
theorem Mx.putX {H H1 : Hp} {p : Addr} {o u : HO} (e : Mx H H1) (h : H p = some u) (hu : isX u = true) : Mx H (upd H1 p o) := fun b x q n => by
  by_cases hb : b = p
  · subst hb; rw [h] at q; cases q; rw [hu] at n; cases n
  · rw [upd_ne hb]; exact e b x q n
theorem Mx.free {H H' : Hp} {p : Addr} (e : Same H H') (h : H' p = none) : H p = none := e.free h
theorem _root_.L2.Rd.mx {H H' : Hp} {a : Addr} {u : HO} (e : Mx H H') (n : isX u = false) (h : Rd H a u) : Rd H' a u := by
  rcases h with h | ⟨o, h⟩
  · exact .inl (e a _ h n)
  · exact .inr ⟨o, e a _ h rfl⟩
theorem _root_.L2.SqL.mx {K : PySem.W.Frag} {H H' : Hp} {a : Addr} {xs : List V} (e : Mx H H') (h : SqL K H a xs) : SqL K H' a xs := by
  rcases h with h | h
  · exact .inl (Rd.mx e rfl h)
  · exact .inr h
theorem _root_.L2.SqT.mx {K : PySem.W.Frag} {H H' : Hp} {a : Addr} {xs : List V} (e : Mx H H') (h : SqT K H a xs) : SqT K H' a xs := by
  rcases h with h | h
  · exact .inl (Rd.mx e rfl h)
  · exact .inr h

/-! ### data: None, truths, ints, texts, lists, tuples, dicts of these -/
def keyD : Key → PyData
  | .inl i => .int i
  | .inr x => .str x
mutual
inductive Da (K : PySem.W.Frag) (H : Hp) : V → PyData → Prop
  | non : Da K H .non .none
  | bl (b : Bool) : Da K H (.bl b) (.bool b)
  | int (i : Int) : Da K H (.int i) (.int i)
  | str (x : Str) : Da K H (.str x) (.str x)
  | lst {a : Addr} {xs : List V} {ds : List PyData} : SqL K H a xs → DaAll K H xs ds → Da K H (.ref a) (.list ds)
  | tup {a : Addr} {xs : List V} {ds : List PyData} : SqT K H a xs → DaAll K H xs ds → Da K H (.ref a) (.tuple ds)
  | dct {a : Addr} {kvs : List (Key × V)} {ds : List PyData} : Rd H a (.dK kvs) → DaAll K H (kvs.map (·.2)) ds →
      Da K H (.ref a) (.dict ((kvs.map fun p => keyD p.1).zip ds))
inductive DaAll (K : PySem.W.Frag) (H : Hp) : List V → List PyData → Prop
  | nil : DaAll K H [] []
  | cons {v : V} {vs : List V} {d : PyData} {ds : List PyData} : Da K H v d → DaAll K H vs ds → DaAll K H (v :: vs) (d :: ds)
end
mutual
theorem Da.mx {K : PySem.W.Frag} {H H' : Hp} (e : Mx H H') : ∀ {v : V} {d : PyData}, Da K H v d → Da K H' v d
  | _, _, .non => .non
  | _, _, .bl b => .bl b
  | _, _, .int i => .int i
  | _, _, .str x => .str x
  | _, _, .lst h hs => .lst (SqL.mx e h) (DaAll.mx e hs)
  | _, _, .tup h hs => .tup (SqT.mx e h) (DaAll.mx e hs)
  | _, _, .dct h hs => .dct (Rd.mx e rfl h) (DaAll.mx e hs)
theorem DaAll.mx {K : PySem.W.Frag} {H H' : Hp} (e : Mx H H') : ∀ {vs : List V} {ds : List PyData}, DaAll K H vs ds → DaAll K H' vs ds
  | _, _, .nil => .nil
  | _, _, .cons h hs => .cons (Da.mx e h) (DaAll.mx e hs)
end
theorem DaAll.len {K : PySem.W.Frag} {H : Hp} : ∀ {vs : List V} {ds : List PyData}, DaAll K H vs ds → vs.length = ds.length
  | _, _, .nil => rfl
  | _, _, .cons _ hs => congrArg (· + 1) (DaAll.len hs)

section
variable {X : Cx} {pins : List (Addr × Obj)} {σ : L2.St} {H : Hp} {s : Shared}
theorem Sm.free (M : Sm X.base) (I : Inv X pins σ H s) : H sysModules = none := by
  obtain ⟨m, o, es, ep, h, _⟩ := M.ns
  exact (I.bs _ _ h).2
theorem Sm.noList (M : Sm X.base) (I : Inv X pins σ H s) {a : Addr} {xs : List V} (h : SqL X.K H a xs) : a ≠ sysModules := by
  rintro rfl
  rcases h with (h | ⟨o, h⟩) | ⟨o, its, n, h, _, _, hd, _⟩
  · rw [M.free I] at h; cases h
  · rw [M.free I] at h; cases h
  · obtain ⟨m, o2, es, ep, h2, hd2, _⟩ := M.ns
    have e := I.mod.kin _ _ h
    rw [h2] at e
    cases e
    rw [hd2] at hd
    cases hd
theorem pairs_reads {h : Heap} {P : Program} {w : World} : ∀ {l : List DictEntry} {vs : List (Key × Value)}, Pairs (mixKind P w) l vs →
    ReadsAll h (l.map (·.key)) (vs.map fun p => keyD p.1) []
  | _, _, .nil => .nil
  | e :: l, (k, v) :: vs, .cons h1 h2 h3 => by
    have r := pairs_reads (h := h) h3
    have hk : Reads h e.key (keyD k) [] := by
      rcases keyIs_shape (show keyIs k e.key = true from h1) with ⟨i, t, rfl, e2⟩ | ⟨x, t, rfl, e2⟩
      · rw [e2]; exact .int i t
      · rw [e2]; exact .str x t
    exact ReadsAll.cons hk r
theorem pairs_vals {P : Program} {w : World} : ∀ {l : List DictEntry} {vs : List (Key × Value)}, Pairs (mixKind P w) l vs → l.map (·.val) = vs.map (·.2)
  | _, _, .nil => rfl
  | e :: l, (k, v) :: vs, .cons h1 h2 h3 => by
    rw [List.map_cons, List.map_cons, pairs_vals h3, h2]
theorem kv_vals : ∀ {kvs : List (Key × V)} {vs : List (Key × Value)}, KV kvs vs → Vals (kvs.map (·.2)) (vs.map (·.2)) ∧ kvs.map (fun p => keyD p.1) = vs.map (fun p => keyD p.1)
  | _, _, .nil => ⟨.nil, rfl⟩
  | (k, v) :: kvs, (k2, v2) :: vs, .cons ⟨h1, h2⟩ h3 => by
    obtain ⟨r, e⟩ := kv_vals h3
    refine ⟨.cons h2 r, ?_⟩
    have h1 : k = k2 := h1
    rw [List.map_cons, List.map_cons, e, h1]
mutual
theorem Da.reads (M : Sm X.base) (I : Inv X pins σ H s) : ∀ {v : V} {d : PyData} {u : Value}, Da X.K H v d → RelV v u → ∃ as, Reads s.heap u d as ∧ sysModules ∉ as
  | _, _, _, .non, r => by cases r; exact ⟨_, .none, fun h => nomatch h⟩
  | _, _, _, .bl b, r => by cases r; exact ⟨_, .bool b, fun h => nomatch h⟩
  | _, _, _, .int i, r => by obtain ⟨t, rfl⟩ := r; exact ⟨_, .int i t, fun h => nomatch h⟩
  | _, _, _, .str x, r => by obtain ⟨t, rfl⟩ := r; exact ⟨_, .str x t, fun h => nomatch h⟩
  | _, _, _, .lst h hs, r => by
    cases r
    obtain ⟨its, rv, ⟨o, n, ho, hc, _, hd⟩, _⟩ := I.list h
    obtain ⟨as, hr, hn⟩ := DaAll.reads M I hs rv
    refine ⟨_, .list ho hc hd hr, fun z => ?_⟩
    rcases List.mem_cons.mp z with z | z
    · exact M.noList I h z.symm
    · exact hn z
  | _, _, _, .tup h hs, r => by
    cases r
    obtain ⟨its, rv, ⟨o, ho, hc, n, hd⟩, _⟩ := I.tuple h
    obtain ⟨as, hr, hn⟩ := DaAll.reads M I hs rv
    exact ⟨_, .tuple ho hc hd hr, hn⟩
  | _, _, _, @Da.dct _ _ a kvs ds h hs, r => by
    cases r
    obtain ⟨_, hsm, vs, kv, o, es, ep, ho, hx, hd, _, pr, _⟩ := h.ok I.hok
    obtain ⟨rv, ek⟩ := kv_vals kv
    obtain ⟨as, hr, hn⟩ := DaAll.reads M I hs rv
    have l1 := hs.len
    rw [List.length_map] at l1
    have e1 : ((kvs.map fun p => keyD p.1).zip ds).map (·.1) = kvs.map fun p => keyD p.1 := List.map_fst_zip (by rw [List.length_map]; omega)
    have e2 : ((kvs.map fun p => keyD p.1).zip ds).map (·.2) = ds := List.map_snd_zip (by rw [List.length_map]; omega)
    refine ⟨_, .dict (as := []) (bs := as) ho hx.1 hd ?_ ?_, fun z => ?_⟩
    · rw [e1, ek]; exact pairs_reads pr
    · rw [e2, pairs_vals pr]; exact hr
    · rcases List.mem_cons.mp (show sysModules ∈ a :: ([] ++ as) from z) with z | z
      · rw [← z] at hsm; exact absurd hsm (by decide)
      · exact hn (by simpa using z)
theorem DaAll.reads (M : Sm X.base) (I : Inv X pins σ H s) : ∀ {vs : List V} {ds : List PyData} {us : List Value}, DaAll X.K H vs ds → Vals vs us → ∃ as, ReadsAll s.heap us ds as ∧ sysModules ∉ as
  | _, _, _, .nil, .nil => ⟨_, .nil, fun h => nomatch h⟩
  | _, _, _, .cons h hs, .cons r rs => by
    obtain ⟨as, q1, n1⟩ := Da.reads M I h r
    obtain ⟨bs, q2, n2⟩ := DaAll.reads M I hs rs
    refine ⟨_, .cons q1 q2, fun z => ?_⟩
    rcases List.mem_append.mp z with z | z
    · exact n1 z
    · exact n2 z
end
end

/-- repr of data -/
def rRepr (K : PySem.W.Frag) : List V → Hp → VK → Prop := fun xs H Q => ∃ (x : V) (d : PyData), xs = [x] ∧ Da K H x d ∧
  d.showable = true ∧ d.depth ≤ 60 ∧ d.shown.length ≤ sizeLine ∧ Q (.str d.shown) H
theorem call_reprD {X : Cx} (hga : X.A.guards = some []) (hu : X.A.units + 64 < cLine) (M : Sm X.base) : CallR X (.builtin "repr") (rRepr X.K) := by
  intro pins s σ H xs us Q I r h
  obtain ⟨x, d, rfl, hd, hs, hdp, hz, q⟩ := h
  obtain ⟨u, rfl, ru⟩ : ∃ u, us = [u] ∧ RelV x u := by
    cases r with
    | cons p q => cases q; exact ⟨_, rfl, p⟩
  cases hd with
  | non => cases ru; exact PySem.P.repr_of_none ⟨.str _, H, I.tok _, ⟨_, rfl⟩, q⟩
  | bl b => cases ru; exact PySem.P.repr_of_bool ⟨.str _, H, I.tok _, ⟨_, rfl⟩, q⟩
  | int i =>
    obtain ⟨t, rfl⟩ := ru
    exact PySem.P.repr_of_int (by simpa [PyData.showable] using hs) ⟨.str _, H, I.tok _, ⟨_, rfl⟩, q⟩
  | str y =>
    obtain ⟨t, rfl⟩ := ru
    exact PySem.P.repr_of_str ⟨.str _, H, I.tok _, ⟨_, rfl⟩, q⟩ hz
  | lst h1 h2 =>
    cases ru
    obtain ⟨as, rd, hn⟩ := Da.reads M I (.lst h1 h2) rfl
    exact PySem.repr_of_reads' rd hs (fun _ => hn) hga (by omega) (fun _ _ e => e) (fun h' u tk hk => ⟨.str _, H, I.kept hk, ⟨_, rfl⟩, q⟩) hz
  | tup h1 h2 =>
    cases ru
    obtain ⟨as, rd, hn⟩ := Da.reads M I (.tup h1 h2) rfl
    exact PySem.repr_of_reads' rd hs (fun _ => hn) hga (by omega) (fun _ _ e => e) (fun h' u tk hk => ⟨.str _, H, I.kept hk, ⟨_, rfl⟩, q⟩) hz
  | dct h1 h2 =>
    cases ru
    obtain ⟨as, rd, hn⟩ := Da.reads M I (.dct h1 h2) rfl
    exact PySem.repr_of_reads' rd hs (fun _ => hn) hga (by omega) (fun _ _ e => e) (fun h' u tk hk => ⟨.str _, H, I.kept hk, ⟨_, rfl⟩, q⟩) hz
end L2.Pc

namespace L2.Pc
open PySem PySem.Spec PyProof.Rows

/-! ### a list or dict known by a property of what it holds -/
def flatO : HO → Prop
  | .lst _ => True
  | .dK _ => True
  | _ => False
def AbsO (P : Program) (w : World) (R : HO → Prop) (z : Addr) : HO :=
  .ext fun h => ∃ u, flatO u ∧ R u ∧ ObjOk P w (fun _ => none) h z u
section
variable {P : Program} {w : World} {H H' : Hp} {h h' : Heap} {z : Addr} {u : HO} {R : HO → Prop}
theorem flat_any (f : flatO u) (o : ObjOk P w H h z u) : ObjOk P w H' h z u := by
  cases u with
  | lst _ => exact o
  | dK _ => exact o
  | _ => cases f
theorem flat_stay (f : flatO u) (o : ObjOk P w H h z u) (k : ∀ o, h.get? z = some o → h'.get? z = some o) : ObjOk P w H h' z u := by
  cases u with
  | lst xs => obtain ⟨a, its, n, r, e⟩ := o; exact ⟨a, its, n, r, k _ e⟩
  | dK xs => obtain ⟨a, b, vs, r, ob, es, ep, e, c⟩ := o; exact ⟨a, b, vs, r, ob, es, ep, k _ e, c⟩
  | _ => cases f
theorem flat_there (f : flatO u) (o : ObjOk P w H h z u) : ∃ ob, h.get? z = some ob := by
  cases u with
  | lst xs => obtain ⟨a, its, n, r, e⟩ := o; exact ⟨_, e⟩
  | dK xs => obtain ⟨a, b, vs, r, ob, es, ep, e, c⟩ := o; exact ⟨_, e⟩
  | _ => cases f
theorem absO_mk (f : flatO u) (r : R u) (o : ObjOk P w H h z u) : ObjOk P w H' h z (AbsO P w R z) :=
  ⟨⟨u, f, r, flat_any f o⟩, flat_there f o, fun h1 h2 ⟨u2, f2, r2, o2⟩ k => ⟨u2, f2, r2, flat_stay f2 o2 k⟩⟩
/-- one object's description exchanged -/
theorem HOk.swap {v : HO} (ok : HOk P w H h) (hz : H z = some v) (n1 : ∀ x, v ≠ .own x) (n2 : ∀ xs, v ≠ .tup xs)
    (new : ObjOk P w (upd H z u) h z u) : HOk P w (upd H z u) h := by
  intro b o e
  by_cases hb : b = z
  · subst hb; rw [upd_same] at e; cases e; exact new
  · rw [upd_ne hb] at e
    refine (ok b o e).stay (fun _ _ _ q => q) (fun c q => ?_) (fun c xs q => ?_)
    · rw [upd_ne (fun ec => by subst ec; rw [hz] at q; exact n1 _ (Option.some.inj q))]; exact q
    · rw [upd_ne (fun ec => by subst ec; rw [hz] at q; exact n2 _ (Option.some.inj q))]; exact q
theorem absO_open (ok : HOk P w H h) (hz : H z = some (AbsO P w R z)) : ∃ u, flatO u ∧ R u ∧ HOk P w (upd H z u) h := by
  obtain ⟨⟨u, f, r, o⟩, _, _⟩ := ok z _ hz
  exact ⟨u, f, r, HOk.swap ok hz (fun x e => by cases e) (fun xs e => by cases e) (flat_any f o)⟩
theorem absO_close (ok : HOk P w H h) (hz : H z = some u) (f : flatO u) (r : R u) : HOk P w (upd H z (AbsO P w R z)) h :=
  HOk.swap ok hz (fun x e => by subst e; exact f) (fun xs e => by subst e; exact f) (absO_mk f r (ok z _ hz))
end

section
variable {P : Program} {w : World} {K : PySem.W.Frag} {mg : Str → Option Value} {base : Heap}
  {f : Addr} {fd : FuncData} {ps : List Str} {sp sp' : Sp} {k : Nat} {outer : List Env} {H : Hp} {s s' : Shared} {Q : VK} {rv : Value}

/-- what is wanted behind a call, an object's description exchanged for a property -/
def Cls1 (P : Program) (w : World) (Q : VK) : VK := fun v H' => ∃ z u R, H' z = some u ∧ flatO u ∧ R u ∧ Q v (upd H' z (AbsO P w R z))
theorem ce_close (c : CE outer P w H s (Cls1 P w Q) rv s') : CE outer P w H s Q rv s' := by
  obtain ⟨v, H', os, bare, un, hok, r, z, u, R, hz, fl, hR, q⟩ := c
  have nb : ∀ b o, H' b = some o → ¬ flatO o → b ≠ z := fun b o e nf eb => by
    subst eb; rw [hz] at e; cases e; exact nf fl
  refine ⟨v, _, os, bare, ⟨un.keep, un.slot, ?_, un.there, ?_, ?_, ?_⟩, absO_close hok hz fl hR, r, q⟩
  · intro b o e n hx
    have e2 := un.free b o e n hx
    rw [upd_ne (fun eb => by subst eb; rw [hz] at e2; cases e2)]
    exact e2
  · intro b xs e
    have e2 := un.tups b xs e
    rw [upd_ne (nb _ _ e2 id)]
    exact e2
  · intro b o xs e
    have e2 := un.frzs b o xs e
    rw [upd_ne (nb _ _ e2 id)]
    exact e2
  · intro b xs e
    obtain ⟨more, e2⟩ := un.tbls b xs e
    refine ⟨more, ?_⟩
    rw [upd_ne (nb _ _ e2 id)]
    exact e2
theorem FnG.close (F : FnG P w K mg base CX0 k f fd ps sp) (h : ∀ vs H Q E, sp' vs H Q E → sp vs H (Cls1 P w Q) E) :
    FnG P w K mg base CX0 k f fd ps sp' := by
  refine ⟨fun vs H Q E q => F.len _ _ _ _ (h _ _ _ _ q), fun A outer s H args us vs Q E g r e b v q => ?_⟩
  refine codeAny_mono (F.go A outer s H args us vs (Cls1 P w Q) E g r e b v (h _ _ _ _ q)) ?_
  intro res s' hq
  cases res with
  | error er => exact hq
  | ok fl =>
    cases fl with
    | ret u => exact ce_close hq
    | next => exact hq
    | brk => exact hq
    | cont => exact hq
theorem FnG.open (F : FnG P w K mg base CX0 k f fd ps sp)
    (h : ∀ vs H Q E, sp' vs H Q E → ∃ z R, H z = some (AbsO P w R z) ∧ ∀ u, flatO u → R u → sp vs (upd H z u) Q E)
    (hlen : ∀ vs H Q E, sp' vs H Q E → vs.length = ps.length) :
    FnG P w K mg base CX0 k f fd ps sp' := by
  refine ⟨hlen, fun A outer s H args us vs Q E g r e b v q => ?_⟩
  obtain ⟨z, R, hz, q⟩ := h _ _ _ _ q
  obtain ⟨u, fl, hR, hok⟩ := absO_open e.hok hz
  have nz : ∀ b, H b = none → b ≠ z := fun b n eb => by subst eb; rw [hz] at n; cases n
  have e2 : Env0 P w K mg base A outer s (upd H z u) :=
    ⟨e.frames, e.mod, fun b o x => ⟨(e.bs b o x).1, by rw [upd_ne (nz _ (e.bs b o x).2)]; exact (e.bs b o x).2⟩, e.bsz, e.funs,
      fun b x => by rw [upd_ne (nz _ (e.frf b x))]; exact e.frf b x, hok, e.bare⟩
  refine codeAny_mono (F.go A outer s _ args us vs Q E g r e2 b v (q u fl hR)) ?_
  intro res s' hq
  cases res with
  | error er => exact hq
  | ok fw =>
    cases fw with
    | ret rv =>
      obtain ⟨v2, H', os, bare, un, hok2, r2, q2⟩ := hq
      have st : ∀ b o, H b = some o → (∀ R, o ≠ AbsO P w R z) → b ≠ z := fun b o eb nn ez => by
        subst ez; rw [hz] at eb; cases eb; exact nn R rfl
      refine ⟨v2, H', os, bare, ⟨?_, ?_, ?_, un.there, ?_, ?_, ?_⟩, hok2, r2, q2⟩
      · intro b o eb n h1 h2; exact un.keep b o eb (by rw [upd_ne (nz b n)]; exact n) h1 h2
      · intro b o eb n h1 h2; exact un.slot b o eb (by rw [upd_ne (nz b n)]; exact n) h1 h2
      · intro b o eb n h1; exact un.free b o eb (by rw [upd_ne (nz b n)]; exact n) h1
      · intro b xs eb; exact un.tups b xs (by rw [upd_ne (st b _ eb fun _ z => by cases z)]; exact eb)
      · intro b o xs eb; exact un.frzs b o xs (by rw [upd_ne (st b _ eb fun _ z => by cases z)]; exact eb)
      · intro b xs eb; exact un.tbls b xs (by rw [upd_ne (st b _ eb fun _ z => by cases z)]; exact eb)
    | next => exact hq
    | brk => exact hq
    | cont => exact hq
end
end L2.Pc

namespace L2.Pc
open PySem PySem.Spec PyProof.Rows

/-! ### rules that take values of several kinds -/
structure Gm (mg : Str → Option Value) (x : Str) (v : V) : Prop where
  ex : ∃ u, mg x = some u ∧ RelV v u
section
variable {X : Cx} {x : Str} {v : V} {pos : Pos}
theorem pe_gm (h : Gm X.mg x v) (hg : Gl X x) (hd : (x == ("__debug__" : Str)) = false := by decide) : PE X (.Name x pos) (tC v) := by
  obtain ⟨u, h1, h2⟩ := h.ex
  exact pe_glob hg h1 h2 hd

def rAddM (K : PySem.W.Frag) : R2 := fun a b H Q =>
  rI0 (fun i j => .int (i + j)) a b H Q ∨ (∃ i j, a = .str i ∧ b = .str j ∧ i.length + j.length ≤ sizeLine ∧ Q (.str (i ++ j)) H) ∨
  rCat a b H Q ∨ rCatT K a b H Q
theorem op_addM : OpR X (binaryOp .Add) (rAddM X.K) := by
  intro pins s σ H a b v u Q I ra rb h
  rcases h with h | h | h | h
  · exact op_add pins s σ H a b v u Q I ra rb h
  · exact op_add_str pins s σ H a b v u Q I ra rb h
  · exact op_cat pins s σ H a b v u Q I ra rb h
  · exact op_catT pins s σ H a b v u Q I ra rb h
def rMulS : R2 := fun a b H Q => ∃ i n, a = .str i ∧ b = .int n ∧ MulOk i n ∧ Q (.str (Txt.mul i n)) H
theorem op_mulS : OpR X (binaryOp .Mult) rMulS := by
  intro pins s σ H a b v u Q I ra rb h
  obtain ⟨i, n, rfl, rfl, hok, q⟩ := h
  obtain ⟨t, rfl⟩ := ra
  obtain ⟨t2, rfl⟩ := rb
  exact PySem.SB.mul hok fun t' k => ⟨.str _, H, I.tok _, ⟨_, rfl⟩, q⟩
def CMa (i j : Int) : Prop := CMul i j ∨ CMulW i j
theorem op_mulI : OpR X (binaryOp .Mult) (rI CMa fun i j => .int (i * j)) := by
  intro pins s σ H a b v u Q I ra rb h
  obtain ⟨i, j, e1, e2, hc | hc, q⟩ := h
  · exact op_mul pins s σ H a b v u Q I ra rb ⟨i, j, e1, e2, hc, q⟩
  · exact op_mulW pins s σ H a b v u Q I ra rb ⟨i, j, e1, e2, hc, q⟩
def rMulM : R2 := fun a b H Q => rI CMa (fun i j => .int (i * j)) a b H Q ∨ rMulS a b H Q ∨ rRep a b H Q
theorem op_mulM : OpR X (binaryOp .Mult) rMulM := by
  intro pins s σ H a b v u Q I ra rb h
  rcases h with h | h | h
  · exact op_mulI pins s σ H a b v u Q I ra rb h
  · exact op_mulS pins s σ H a b v u Q I ra rb h
  · exact op_rep pins s σ H a b v u Q I ra rb h
def rEqM (K : PySem.W.Frag) : R2 := fun a b H Q => rEq a b H Q ∨ rEqD K a b H Q
theorem op_eqM (hu : X.A.units + 64 < cLine) : OpR X (compareOp .Eq) (rEqM X.K) := by
  intro pins s σ H a b v u Q I ra rb h
  rcases h with h | h
  · exact op_eq pins s σ H a b v u Q I ra rb h
  · exact op_eqD hu pins s σ H a b v u Q I ra rb h
def rNeM (K : PySem.W.Frag) : R2 := fun a b H Q => rNe a b H Q ∨ rNeD K a b H Q
theorem op_neM (hu : X.A.units + 64 < cLine) : OpR X (compareOp .NotEq) (rNeM X.K) := by
  intro pins s σ H a b v u Q I ra rb h
  rcases h with h | h
  · exact op_ne pins s σ H a b v u Q I ra rb h
  · exact op_neD hu pins s σ H a b v u Q I ra rb h
def rInM (K : PySem.W.Frag) (neg : Bool) : R2 := fun a b H Q =>
  (∃ (c : Nat) (z : Str), a = .str ⟨#[c]⟩ ∧ b = .str z ∧ Q (.bl (if neg then !decide (c ∈ z.cps.toList) else decide (c ∈ z.cps.toList))) H) ∨ rIn K neg a b H Q
theorem op_inM : OpR X (compareOp .In) (rInM X.K false) := by
  intro pins s σ H a b v u Q I ra rb h
  rcases h with ⟨c, z, e1, e2, q⟩ | h
  · exact op_in_sign pins s σ H a b v u Q I ra rb ⟨c, z, e1, e2, q⟩
  · exact op_in_seq pins s σ H a b v u Q I ra rb h
theorem op_notInM : OpR X (compareOp .NotIn) (rInM X.K true) := by
  intro pins s σ H a b v u Q I ra rb h
  rcases h with ⟨c, z, e1, e2, q⟩ | h
  · exact op_notIn_sign pins s σ H a b v u Q I ra rb ⟨c, z, e1, e2, q⟩
  · exact op_notIn_seq pins s σ H a b v u Q I ra rb h
def rIxM (K : PySem.W.Frag) : R2 := fun a b H Q => rIxL K a b H Q ∨ rIxT K a b H Q ∨ rIxS a b H Q
theorem ixM : IxR X (rIxM X.K) := IxR.or ix_list (IxR.or ix_tup ix_str)
def rSlM (K : PySem.W.Frag) : V → Option Int → Option Int → Hp → VK → Prop := fun a lo hi H Q => rSlL K a lo hi H Q ∨ rSlS a lo hi H Q
theorem slM : SlR X (rSlM X.K) := SlR.or sl_list sl_str
def rIntM : List V → Hp → VK → Prop := fun xs H Q => (∃ i, xs = [.int i] ∧ Q (.int i) H) ∨ (∃ k, xs = [.bl k] ∧ Q (.int (if k then 1 else 0)) H) ∨
  ∃ a n, xs = [.str a] ∧ PySem.intText? a = some n ∧ a.length ≤ 640 ∧ Q (.int n) H
theorem call_intM : CallR X (.type "int") rIntM := by
  intro pins s σ H xs us Q I r h
  rcases h with h | h | h
  · exact call_int1 pins s σ H xs us Q I r (.inl h)
  · exact call_int1 pins s σ H xs us Q I r (.inr h)
  · exact call_int_str pins s σ H xs us Q I r h
end

section
variable {X : Cx} {o e : Expr} {to te : TE} {apos pos : Pos}
def rLen (K : PySem.W.Frag) : List V → Hp → VK → Prop := fun xs H Q => ∃ x n, xs = [x] ∧ LenV K x H n ∧ Q (.int (n : Nat)) H
theorem call_lenM : CallR X (.builtin "len") (rLen X.K) := call_len
def rAbs : List V → Hp → VK → Prop := fun xs H Q => ∃ i, xs = [.int i] ∧ Q (.int (if i < 0 then -i else i)) H
theorem call_absM : CallR X (.builtin "abs") rAbs := call_abs
def rStrip : V → List V → Hp → VK → Prop := fun x xs H Q => ∃ a b, x = .str a ∧ xs = [.str b] ∧ a.length ≤ sizeLine ∧ Q (.str (Txt.stripChars a b)) H
theorem mt_stripM : MtR X "str.strip" rStrip := mt_stripChars
def rUpper : V → List V → Hp → VK → Prop := fun x xs H Q => ∃ a, x = .str a ∧ xs = [] ∧ a.length ≤ 5592405 ∧ Q (.str (Txt.upper a)) H
theorem mt_upperM : MtR X "str.upper" rUpper := mt_upper
def rJoin (K : PySem.W.Frag) : V → List V → Hp → VK → Prop := fun x xs H Q => ∃ a p, ∃ ys : List Str, x = .str a ∧ xs = [.ref p] ∧
  (SqL K H p (ys.map V.str) ∨ SqT K H p (ys.map V.str)) ∧ (ys.map (·.length)).sum + ys.length * a.length ≤ 16777216 ∧ Q (.str (Txt.join a ys)) H
theorem mt_joinM : MtR X "str.join" (rJoin X.K) := mt_join
end

/-! ### a word between an expression and what follows -/
def tCutE (t : TE) : TE := fun σ H Q => ∃ P : V → Hp → Prop, t σ H P ∧ ∀ v H', P v H' → Q v H'
theorem pe_cut {X : Cx} {e : Expr} {t : TE} (h : PE X e t) : PE X e (tCutE t) := by
  refine ⟨fun pins s σ H Q I q => ?_⟩
  obtain ⟨P, q1, q2⟩ := q
  refine thn (h.run pins s σ H P I q1) ?_
  rintro u s2 ⟨v, H', I2, r, p⟩
  exact ⟨v, H', I2, r, q2 v H' p⟩
def tCutS (t u : TS) : TS := fun D σ H => ∃ P : L2.St → Hp → Prop, t { D with nx := P } σ H ∧ ∀ σ' H', P σ' H' → u D σ' H'
theorem pss_cutS {X : Cx} {st : Stmt} {rest : List Stmt} {t u : TS} (h1 : PS X st t) (h2 : PSs X rest u) : PSs X (st :: rest) (tCutS t u) := by
  refine ⟨fun pins s σ H D I h => ?_⟩
  obtain ⟨P, q1, q2⟩ := h
  refine wpAny_execs_cons (thn (h1.run pins s σ H { D with nx := P } I q1) ?_)
  intro fl s1 q
  cases fl with
  | next =>
    obtain ⟨σ', H', I2, p⟩ := q
    exact h2.run pins s1 σ' H' D I2 (q2 σ' H' p)
  | ret v => exact q
  | brk => exact q
  | cont => exact q
theorem g_cutS {σ : L2.St} {H : Hp} {D : Ends} {t u : TS} (P : L2.St → Hp → Prop) (h : t { D with nx := P } σ H) (k : ∀ σ' H', P σ' H' → u D σ' H') : tCutS t u D σ H := ⟨P, h, k⟩
theorem g_cutE {σ : L2.St} {H : Hp} {Q : VK} {t : TE} (P : V → Hp → Prop) (h : t σ H P) (k : ∀ v H', P v H' → Q v H') : tCutE t σ H Q := ⟨P, h, k⟩
/-- the value alone is of interest, the heap is as it was -/
theorem g_cutV {σ : L2.St} {H : Hp} {Q : VK} {t : TE} (P : V → Prop) (h : t σ H fun v H' => P v ∧ H' = H) (k : ∀ v, P v → Q v H) : tCutE t σ H Q :=
  ⟨_, h, fun v H' ⟨p, e⟩ => by rw [e]; exact k v p⟩

/-! ### a new object -/
def NewO (H : Hp) (o : HO) (Q : VK) : Prop := ∀ p, H p = none → Q (.ref p) (upd H p o)
theorem g_new {H : Hp} {o : HO} {Q : VK} (k : ∀ p H', H p = none → Same H H' → H' p = some o → Q (.ref p) H') : NewO H o Q :=
  fun p hp => k p _ hp (Same.new hp) upd_same

/-! ### a datum's class -/
def tyName : PyData → String
  | .none => "NoneType"
  | .bool _ => "bool"
  | .int _ => "int"
  | .str _ => "str"
  | .list _ => "list"
  | .tuple _ => "tuple"
  | .dict _ => "dict"
theorem Da.ty {K : PySem.W.Frag} {H : Hp} {v : V} {d : PyData} (h : Da K H v d) : TyX K H v (.type (tyName d)) := by
  cases h with
  | non => exact .base .non
  | bl b => exact .base (.bl b)
  | int i => exact .base (.int i)
  | str x => exact .base (.str x)
  | lst h _ =>
    rcases h with (h | ⟨o, h⟩) | ⟨o, its, n, h, hc, _⟩
    · exact .base (.lst h)
    · exact .base (.frz h)
    · exact .kList h hc
  | tup h _ =>
    rcases h with (h | ⟨o, h⟩) | ⟨o, its, n, h, hc, _⟩
    · exact .base (.tup h)
    · exact .fTuple h
    · exact .kTuple h hc
  | dct h _ =>
    rcases h with h | ⟨o, h⟩
    · exact .base (.dK h)
    · exact .fDict h
@[reducible] def isStr : PyData → Bool
  | .str _ => true
  | _ => false
@[reducible] def isInt : PyData → Bool
  | .int _ => true
  | .bool _ => true
  | _ => false
@[reducible] def isBool : PyData → Bool
  | .bool _ => true
  | _ => false
@[reducible] def isTup : PyData → Bool
  | .tuple _ => true
  | _ => false

theorem kit_isStr : ∀ d : PyData, kitB (tyName d) "str" = some (isStr d)
  | .none => (show kitB "NoneType" "str" = some false by decide +kernel)
  | .bool _ => (show kitB "bool" "str" = some false by decide +kernel)
  | .int _ => (show kitB "int" "str" = some false by decide +kernel)
  | .str _ => (show kitB "str" "str" = some true by decide +kernel)
  | .list _ => (show kitB "list" "str" = some false by decide +kernel)
  | .tuple _ => (show kitB "tuple" "str" = some false by decide +kernel)
  | .dict _ => (show kitB "dict" "str" = some false by decide +kernel)
theorem kit_isInt : ∀ d : PyData, kitB (tyName d) "int" = some (isInt d)
  | .none => (show kitB "NoneType" "int" = some false by decide +kernel)
  | .bool _ => (show kitB "bool" "int" = some true by decide +kernel)
  | .int _ => (show kitB "int" "int" = some true by decide +kernel)
  | .str _ => (show kitB "str" "int" = some false by decide +kernel)
  | .list _ => (show kitB "list" "int" = some false by decide +kernel)
  | .tuple _ => (show kitB "tuple" "int" = some false by decide +kernel)
  | .dict _ => (show kitB "dict" "int" = some false by decide +kernel)
theorem kit_isBool : ∀ d : PyData, kitB (tyName d) "bool" = some (isBool d)
  | .none => (show kitB "NoneType" "bool" = some false by decide +kernel)
  | .bool _ => (show kitB "bool" "bool" = some true by decide +kernel)
  | .int _ => (show kitB "int" "bool" = some false by decide +kernel)
  | .str _ => (show kitB "str" "bool" = some false by decide +kernel)
  | .list _ => (show kitB "list" "bool" = some false by decide +kernel)
  | .tuple _ => (show kitB "tuple" "bool" = some false by decide +kernel)
  | .dict _ => (show kitB "dict" "bool" = some false by decide +kernel)
theorem kit_isTup : ∀ d : PyData, kitB (tyName d) "tuple" = some (isTup d)
  | .none => (show kitB "NoneType" "tuple" = some false by decide +kernel)
  | .bool _ => (show kitB "bool" "tuple" = some false by decide +kernel)
  | .int _ => (show kitB "int" "tuple" = some false by decide +kernel)
  | .str _ => (show kitB "str" "tuple" = some false by decide +kernel)
  | .list _ => (show kitB "list" "tuple" = some false by decide +kernel)
  | .tuple _ => (show kitB "tuple" "tuple" = some true by decide +kernel)
  | .dict _ => (show kitB "dict" "tuple" = some false by decide +kernel)

/-! ### readings, step by step -/
section
variable {σ : L2.St} {H : Hp} {Q : VK} {v x y : V} {ta tb tc te : TE} {t u c : TT} {K : PySem.W.Frag} {D : Ends} {t1 t2 : TS}
  {r r' : R2} {i j : Int} {b : Bool} {g : TG} {a q : Str}
theorem g_var {n : Nat} (h : σ[n]? = some (some v)) (k : Q v H) : tVar n σ H Q := ⟨v, h, k⟩
theorem g_c (k : Q v H) : tC v σ H Q := k
theorem g_op (k : ta σ H fun x H1 => tb σ H1 fun y H2 => r x y H2 Q) : tOp r ta tb σ H Q := k
theorem g_un {r : V → Hp → VK → Prop} (k : ta σ H fun x H1 => r x H1 Q) : tUn r ta σ H Q := k
theorem g_test {R : Bool → Hp → Prop} (k : te σ H fun x H' => ∃ k, x = .bl k ∧ R k H') : tTest te σ H R := k
theorem g_tB {R : Bool → Hp → Prop} (k : te σ H fun x H' => ∃ k, x = .bl k ∧ R k H') : tB te σ H R := k
theorem g_bl {R : Bool → Prop} (k : R b) : ∃ k, V.bl b = .bl k ∧ R k := ⟨b, rfl, k⟩
theorem g_and {R : Bool → Hp → Prop} (k : t σ H fun c H1 => if c = true then u σ H1 R else R false H1) : tAnd t u σ H R := k
theorem g_or {R : Bool → Hp → Prop} (k : t σ H fun c H1 => if c = true then R true H1 else u σ H1 R) : tOr t u σ H R := k
theorem g_not {R : Bool → Hp → Prop} (k : t σ H fun c H1 => R (!c) H1) : tNot t σ H R := k
theorem g_andV (k : ta σ H fun x H1 => ∃ c, x = .bl c ∧ if c = true then tb σ H1 Q else Q (.bl false) H1) : tAndV ta tb σ H Q := k
theorem g_orV (k : ta σ H fun x H1 => ∃ c, x = .bl c ∧ if c = true then Q (.bl true) H1 else tb σ H1 Q) : tOrV ta tb σ H Q := k
theorem g_notV (k : ta σ H fun x H1 => ∃ c, x = .bl c ∧ Q (.bl (!c)) H1) : tNotV ta σ H Q := k
theorem g_if (k : t σ H fun c H1 => if c = true then ta σ H1 Q else tb σ H1 Q) : tIf t ta tb σ H Q := k
theorem g_chain (k : ta σ H fun x H1 => tb σ H1 fun y H2 => r x y H2 fun z H3 => ∃ k, z = .bl k ∧
  (if k = true then tc σ H3 fun w' H4 => r' y w' H4 Q else Q (.bl false) H3)) : tChain r r' ta tb tc σ H Q := k
theorem g_nil {R : List V → Hp → Prop} (k : R [] H) : tNil σ H R := k
theorem g_cons {tr : TA} {R : List V → Hp → Prop} (k : ta σ H fun x H1 => tr σ H1 fun xs H2 => R (x :: xs) H2) : tCons ta tr σ H R := k
theorem g_cb {f : List V → Hp → VK → Prop} {tr : TA} (k : tr σ H fun vs H1 => f vs H1 Q) : tCB f tr σ H Q := k
theorem g_kn {n m : Nat} {gV : List V → List V → List V} {sp : Sp} {E : XK} {ts tk : TA}
  (k : ts σ H fun vs H1 => tk σ H1 fun zs H2 => vs.length = n ∧ zs.length = m ∧ sp (gV vs zs) H2 Q E) : tKn n m gV sp E ts tk σ H Q := k
theorem g_tup {tr : TA} (k : tr σ H fun xs H1 => xs.length ≤ sizeLine ∧ NewO H1 (.tup xs) Q) : tTup tr σ H Q := k
theorem g_lst {tr : TA} (k : tr σ H fun xs H1 => xs.length ≤ sizeLine ∧ NewO H1 (.lst xs) Q) : tLst tr σ H Q := k
theorem g_dnew (k : NewO H (.dK []) Q) : tDNewK σ H Q := k
theorem g_sl {f : V → Option Int → Option Int → Hp → VK → Prop} {tl th : TO} (k : te σ H fun x H1 => tl σ H1 fun l H2 => th σ H2 fun u H3 => f x l u H3 Q) : tSl f te tl th σ H Q := k
theorem g_nopart {R : Option Int → Hp → Prop} (k : R none H) : tNoPart σ H R := k
theorem g_part {R : Option Int → Hp → Prop} (k : te σ H fun x H1 => ∃ i, x = .int i ∧ R (some i) H1) : tPart te σ H R := k
theorem g_int {R : Int → Prop} (k : R i) : ∃ j, V.int i = .int j ∧ R j := ⟨i, rfl, k⟩
theorem g_m1 {f : V → List V → Hp → VK → Prop} (k : ta σ H fun x H1 => (∃ a, x = .str a) ∧ te σ H1 fun y H2 => f x [y] H2 Q) : tM1 f ta te σ H Q := k
theorem g_m0 {f : V → List V → Hp → VK → Prop} (k : ta σ H fun x H1 => (∃ a, x = .str a) ∧ f x [] H1 Q) : tM0 f ta σ H Q := k
theorem g_isS {R : Prop} (k : R) : (∃ b, V.str a = .str b) ∧ R := ⟨⟨a, rfl⟩, k⟩
-- statements
theorem g_seq (k : t1 { D with nx := t2 D } σ H) : tSeq t1 t2 D σ H := k
theorem g_next (k : D.nx σ H) : tNext D σ H := k
theorem g_ifS (k : c σ H fun b H1 => if b = true then t1 D σ H1 else t2 D σ H1) : tIfS c t1 t2 D σ H := k
theorem g_ret (k : te σ H D.rt) : tRet te D σ H := k
theorem g_asg (k : te σ H fun x H1 => g x σ H1 D.nx) : tAsg te g D σ H := k
theorem g_name {n : Nat} {R : L2.St → Hp → Prop} (k : R (σ.set n (some v)) H) : gName n v σ H R := k
theorem g_drop (k : te σ H fun _ H1 => D.nx σ H1) : tDrop te D σ H := k
theorem g_par {n m : Nat} {tr : TA} (k : tr σ H fun vs H1 => ∃ v w, vs = [v, w] ∧ D.nx ((σ.set n (some v)).set m (some w)) H1) : tPar n m tr D σ H := k
theorem g_two {R : V → V → Prop} (k : R x y) : ∃ v w, [x, y] = [v, w] ∧ R v w := ⟨x, y, rfl, k⟩
theorem g_ifT {A B : Prop} {i : Decidable (true = true)} (k : A) : @ite Prop (true = true) i A B := by rw [if_pos rfl]; exact k
theorem g_ifF {A B : Prop} {i : Decidable (false = true)} (k : B) : @ite Prop (false = true) i A B := by rw [if_neg (by simp)]; exact k
theorem g_ifnT {A B : Prop} {i : Decidable ((!true) = true)} (k : B) : @ite Prop ((!true) = true) i A B := by rw [if_neg (by simp)]; exact k
theorem g_ifnF {A B : Prop} {i : Decidable ((!false) = true)} (k : A) : @ite Prop ((!false) = true) i A B := by rw [if_pos (by simp)]; exact k
theorem g_br {A B : Prop} {i : Decidable (b = true)} (k1 : b = true → A) (k2 : b = false → B) : @ite Prop (b = true) i A B := by
  cases b with
  | true => rw [if_pos rfl]; exact k1 rfl
  | false => rw [if_neg (by simp)]; exact k2 rfl
theorem g_kT {A B : Prop} {i : Decidable (b = true)} (h : b = true) (k : A) : @ite Prop (b = true) i A B := by rw [if_pos h]; exact k
theorem g_kF {A B : Prop} {i : Decidable (b = true)} (h : b = false) (k : B) : @ite Prop (b = true) i A B := by rw [if_neg (by rw [h]; simp)]; exact k
theorem g_knT {A B : Prop} {i : Decidable ((!b) = true)} (h : b = true) (k : B) : @ite Prop ((!b) = true) i A B := by rw [if_neg (by rw [h]; simp)]; exact k
theorem g_knF {A B : Prop} {i : Decidable ((!b) = true)} (h : b = false) (k : A) : @ite Prop ((!b) = true) i A B := by rw [if_pos (by rw [h]; simp)]; exact k
theorem g_brk (k : D.bk σ H) : tBreak D σ H := k
theorem g_cont (k : D.ct σ H) : tCont D σ H := k
-- operators by values
theorem g_addI (k : Q (.int (i + j)) H) : rAddM K (.int i) (.int j) H Q := .inl ⟨i, j, rfl, rfl, k⟩
theorem g_addS (hz : a.length + q.length ≤ sizeLine) (k : Q (.str (a ++ q)) H) : rAddM K (.str a) (.str q) H Q := .inr (.inl ⟨a, q, rfl, rfl, hz, k⟩)
theorem g_addL {l m : Addr} {xs ys : List V} (h1 : H l = some (.lst xs)) (h2 : H m = some (.lst ys)) (hz : xs.length + ys.length ≤ sizeLine)
    (k : NewO H (.lst (xs ++ ys)) Q) : rAddM K (.ref l) (.ref m) H Q := .inr (.inr (.inl ⟨l, m, xs, ys, rfl, rfl, h1, h2, hz, k⟩))
theorem g_mulI (hc : CMa i j) (k : Q (.int (i * j)) H) : rMulM (.int i) (.int j) H Q := .inl ⟨i, j, rfl, rfl, hc, k⟩
theorem g_mulS (hc : MulOk a j) (k : Q (.str (Txt.mul a j)) H) : rMulM (.str a) (.int j) H Q := .inr (.inl ⟨a, j, rfl, rfl, hc, k⟩)
theorem g_i0 {f : Int → Int → V} (k : Q (f i j) H) : rI0 f (.int i) (.int j) H Q := ⟨i, j, rfl, rfl, k⟩
theorem g_i {C : Int → Int → Prop} {f : Int → Int → V} (hc : C i j) (k : Q (f i j) H) : rI C f (.int i) (.int j) H Q := ⟨i, j, rfl, rfl, hc, k⟩
theorem g_u {f : Int → V} (k : Q (f i) H) : rU f (.int i) H Q := ⟨i, rfl, k⟩
theorem g_eq (h : scal x y = true) (k : Q (.bl (decide (x = y))) H) : rEqM K x y H Q := .inl ⟨h, k⟩
theorem g_ne (h : scal x y = true) (k : Q (.bl (!decide (x = y))) H) : rNeM K x y H Q := .inl ⟨h, k⟩
theorem g_inS {n : Nat} {neg : Bool} (k : Q (.bl (if neg then !decide (n ∈ a.cps.toList) else decide (n ∈ a.cps.toList))) H) : rInM K neg (.str ⟨#[n]⟩) (.str a) H Q := .inl ⟨n, a, rfl, rfl, k⟩
theorem g_inQ {p : Addr} {xs : List V} {neg : Bool} (h : SqL K H p xs ∨ SqT K H p xs) (f1 : flatV x = true) (f2 : xs.all flatV = true)
    (k : Q (.bl (if neg then !inV x xs else inV x xs)) H) : rInM K neg x (.ref p) H Q := .inr ⟨p, xs, rfl, h, f1, f2, k⟩
theorem g_ixL {p : Addr} {xs : List V} (h : SqL K H p xs) (ha : atI xs i = some v) (k : Q v H) : rIxM K (.ref p) (.int i) H Q := .inl ⟨p, xs, i, v, rfl, rfl, h, ha, k⟩
theorem g_ixT {p : Addr} {xs : List V} (h : SqT K H p xs) (ha : atI xs i = some v) (k : Q v H) : rIxM K (.ref p) (.int i) H Q := .inr (.inl ⟨p, xs, i, v, rfl, rfl, h, ha, k⟩)
theorem g_ixS {n : Nat} (hz : a.length ≤ sizeLine) (ha : atI a.cps.toList i = some n) (k : Q (.str ⟨#[n]⟩) H) : rIxM K (.str a) (.int i) H Q := .inr (.inr ⟨a, i, n, rfl, rfl, hz, ha, k⟩)
theorem g_slL {p : Addr} {xs : List V} {lo hi : Option Int} (h : SqL K H p xs) (k : NewO H (.lst (cutV xs lo hi)) Q) : rSlM K (.ref p) lo hi H Q := .inl ⟨p, xs, rfl, h, k⟩
theorem g_slS {lo hi : Option Int} (hz : a.length ≤ sizeLine) (k : Q (.str (cutS a lo hi)) H) : rSlM K (.str a) lo hi H Q := .inr ⟨a, rfl, hz, k⟩
-- calls of built-ins by values
theorem g_lenS (hz : a.length ≤ sizeLine) (k : Q (.int a.length) H) : rLen K [.str a] H Q := ⟨_, _, rfl, ⟨hz, rfl⟩, k⟩
theorem g_lenL {p : Addr} {xs : List V} (h : SqL K H p xs) (k : Q (.int xs.length) H) : rLen K [.ref p] H Q := ⟨_, _, rfl, .inl ⟨xs, h, rfl⟩, k⟩
theorem g_lenT {p : Addr} {xs : List V} (h : SqT K H p xs) (k : Q (.int xs.length) H) : rLen K [.ref p] H Q := ⟨_, _, rfl, .inr ⟨xs, h, rfl⟩, k⟩
theorem g_abs (k : Q (.int (if i < 0 then -i else i)) H) : rAbs [.int i] H Q := ⟨i, rfl, k⟩
theorem g_intI (k : Q (.int i) H) : rIntM [.int i] H Q := .inl ⟨i, rfl, k⟩
theorem g_intB (k : Q (.int (if b then 1 else 0)) H) : rIntM [.bl b] H Q := .inr (.inl ⟨b, rfl, k⟩)
theorem g_intS {n : Int} (h : PySem.intText? a = some n) (hz : a.length ≤ 640) (k : Q (.int n) H) : rIntM [.str a] H Q := .inr (.inr ⟨a, n, rfl, h, hz, k⟩)
theorem g_isiStr {d : PyData} (h : Da K H x d) (k : Q (.bl (isStr d)) H) : rIsi K [x, .ty "str"] H Q :=
  ⟨x, .ty "str", _, _, isStr d, rfl, .ty _, h.ty, kit_ty (kit_isStr d), k⟩
theorem g_isiInt {d : PyData} (h : Da K H x d) (k : Q (.bl (isInt d)) H) : rIsi K [x, .ty "int"] H Q :=
  ⟨x, .ty "int", _, _, isInt d, rfl, .ty _, h.ty, kit_ty (kit_isInt d), k⟩
theorem g_isiBool {d : PyData} (h : Da K H x d) (k : Q (.bl (isBool d)) H) : rIsi K [x, .ty "bool"] H Q :=
  ⟨x, .ty "bool", _, _, isBool d, rfl, .ty _, h.ty, kit_ty (kit_isBool d), k⟩
theorem g_isiTup {d : PyData} (h : Da K H x d) (k : Q (.bl (isTup d)) H) : rIsi K [x, .ty "tuple"] H Q :=
  ⟨x, .ty "tuple", _, _, isTup d, rfl, .ty _, h.ty, kit_ty (kit_isTup d), k⟩
theorem g_isiStr_true {d : PyData} (h : Da K H x d) (e : isStr d = true) (k : Q (.bl true) H) : rIsi K [x, .ty "str"] H Q := g_isiStr h (by rw [e]; exact k)
theorem g_isiStr_false {d : PyData} (h : Da K H x d) (e : isStr d = false) (k : Q (.bl false) H) : rIsi K [x, .ty "str"] H Q := g_isiStr h (by rw [e]; exact k)
theorem g_isiInt_true {d : PyData} (h : Da K H x d) (e : isInt d = true) (k : Q (.bl true) H) : rIsi K [x, .ty "int"] H Q := g_isiInt h (by rw [e]; exact k)
theorem g_isiInt_false {d : PyData} (h : Da K H x d) (e : isInt d = false) (k : Q (.bl false) H) : rIsi K [x, .ty "int"] H Q := g_isiInt h (by rw [e]; exact k)
theorem g_isiBool_true {d : PyData} (h : Da K H x d) (e : isBool d = true) (k : Q (.bl true) H) : rIsi K [x, .ty "bool"] H Q := g_isiBool h (by rw [e]; exact k)
theorem g_isiBool_false {d : PyData} (h : Da K H x d) (e : isBool d = false) (k : Q (.bl false) H) : rIsi K [x, .ty "bool"] H Q := g_isiBool h (by rw [e]; exact k)
theorem g_isiTup_true {d : PyData} (h : Da K H x d) (e : isTup d = true) (k : Q (.bl true) H) : rIsi K [x, .ty "tuple"] H Q := g_isiTup h (by rw [e]; exact k)
theorem g_isiTup_false {d : PyData} (h : Da K H x d) (e : isTup d = false) (k : Q (.bl false) H) : rIsi K [x, .ty "tuple"] H Q := g_isiTup h (by rw [e]; exact k)
theorem g_repr {d : PyData} (h : Da K H x d) (h1 : d.showable = true) (h2 : d.depth ≤ 60) (h3 : d.shown.length ≤ sizeLine) (k : Q (.str d.shown) H) : rRepr K [x] H Q :=
  ⟨x, d, rfl, h, h1, h2, h3, k⟩
theorem g_all {p : Addr} {bs : List Bool} (h : SqL K H p (bs.map V.bl)) (k : Q (.bl (bs.all id)) H) : rAll K [.ref p] H Q := ⟨p, bs, rfl, h, k⟩
theorem g_any {p : Addr} {bs : List Bool} (h : SqL K H p (bs.map V.bl)) (k : Q (.bl (bs.any id)) H) : rAny K [.ref p] H Q := ⟨p, bs, rfl, h, k⟩
theorem g_strip (hz : a.length ≤ sizeLine) (k : Q (.str (Txt.stripChars a q)) H) : rStrip (.str a) [.str q] H Q := ⟨a, q, rfl, rfl, hz, k⟩
theorem g_upper (hz : a.length ≤ 5592405) (k : Q (.str (Txt.upper a)) H) : rUpper (.str a) [] H Q := ⟨a, rfl, rfl, hz, k⟩
theorem g_join {p : Addr} {ys : List Str} (h : SqL K H p (ys.map V.str) ∨ SqT K H p (ys.map V.str)) (hz : (ys.map (·.length)).sum + ys.length * a.length ≤ 16777216)
    (k : Q (.str (Txt.join a ys)) H) : rJoin K (.str a) [.ref p] H Q := ⟨a, p, ys, rfl, rfl, h, hz, k⟩
end
/-! ### steps found by their form -/
class Step (G : Prop) (N : outParam Prop) : Prop where
  imp : N → G
class GetSlot (σ : L2.St) (n : Nat) (v : outParam V) : Prop where
  get : σ[n]? = some (some v)
instance i_get0 {σ : L2.St} {v : V} : GetSlot (some v :: σ) 0 v := ⟨rfl⟩
instance i_getS {σ : L2.St} {n : Nat} {v : V} {x : Option V} [h : GetSlot σ n v] : GetSlot (x :: σ) (n + 1) v := ⟨by rw [List.getElem?_cons_succ]; exact h.get⟩
class SetSlot (σ : L2.St) (n : Nat) (v : V) (τ : outParam L2.St) : Prop where
  set : σ.set n (some v) = τ
instance i_set0 {σ : L2.St} {v : V} {x : Option V} : SetSlot (x :: σ) 0 v (some v :: σ) := ⟨rfl⟩
instance i_setS {σ τ : L2.St} {n : Nat} {v : V} {x : Option V} [h : SetSlot σ n v τ] : SetSlot (x :: σ) (n + 1) v (x :: τ) := ⟨by rw [List.set_cons_succ, h.set]⟩
section
variable {σ : L2.St} {H : Hp} {Q : VK} {v x y : V} {ta tb tc te : TE} {t u c : TT} {K : PySem.W.Frag} {D : Ends} {t1 t2 : TS}
  {r r' : R2} {i j : Int} {b : Bool} {g : TG} {a q : Str}
instance i_var {n : Nat} [h : GetSlot σ n v] : Step (tVar n σ H Q) (Q v H) := ⟨fun k => ⟨v, h.get, k⟩⟩
instance i_name {n : Nat} {τ : L2.St} {R : L2.St → Hp → Prop} [h : SetSlot σ n v τ] : Step (gName n v σ H R) (R τ H) := ⟨fun k => by
  have e := h.set
  show R (σ.set n (some v)) H
  rw [e]; exact k⟩
instance i_par {n m : Nat} {ts : TA} : Step (tPar n m ts D σ H) (ts σ H fun vs H1 => ∃ v w, vs = [v, w] ∧ gName n v σ H1 fun τ H2 => gName m w τ H2 D.nx) := ⟨fun k => k⟩
instance i_eqI : Step (rEqM K (.int i) (.int j) H Q) (Q (.bl (decide (i = j))) H) := ⟨fun k => g_eq rfl (by simpa using k)⟩
instance i_eqS : Step (rEqM K (.str a) (.str q) H Q) (Q (.bl (decide (a = q))) H) := ⟨fun k => g_eq rfl (by simpa using k)⟩
instance i_eqB {b c : Bool} : Step (rEqM K (.bl b) (.bl c) H Q) (Q (.bl (decide (b = c))) H) := ⟨fun k => g_eq rfl (by simpa using k)⟩
instance i_neI : Step (rNeM K (.int i) (.int j) H Q) (Q (.bl (!decide (i = j))) H) := ⟨fun k => g_ne rfl (by simpa using k)⟩
instance i_neS : Step (rNeM K (.str a) (.str q) H Q) (Q (.bl (!decide (a = q))) H) := ⟨fun k => g_ne rfl (by simpa using k)⟩
instance i_neB {b c : Bool} : Step (rNeM K (.bl b) (.bl c) H Q) (Q (.bl (!decide (b = c))) H) := ⟨fun k => g_ne rfl (by simpa using k)⟩
instance i_c  : Step (tC v σ H Q) (Q v H) := ⟨fun k => g_c k⟩
instance i_op  : Step (tOp r ta tb σ H Q) (ta σ H fun x H1 => tb σ H1 fun y H2 => r x y H2 Q) := ⟨fun k => g_op k⟩
instance i_un {r : V → Hp → VK → Prop} : Step (tUn r ta σ H Q) (ta σ H fun x H1 => r x H1 Q) := ⟨fun k => g_un k⟩
instance i_test {R : Bool → Hp → Prop} : Step (tTest te σ H R) (te σ H fun x H' => ∃ k, x = .bl k ∧ R k H') := ⟨fun k => g_test k⟩
instance i_tB {R : Bool → Hp → Prop} : Step (tB te σ H R) (te σ H fun x H' => ∃ k, x = .bl k ∧ R k H') := ⟨fun k => g_tB k⟩
instance i_bl {R : Bool → Prop} : Step (∃ k, V.bl b = .bl k ∧ R k) (R b) := ⟨fun k => g_bl k⟩
instance i_and {R : Bool → Hp → Prop} : Step (tAnd t u σ H R) (t σ H fun c H1 => if c = true then u σ H1 R else R false H1) := ⟨fun k => g_and k⟩
instance i_or {R : Bool → Hp → Prop} : Step (tOr t u σ H R) (t σ H fun c H1 => if c = true then R true H1 else u σ H1 R) := ⟨fun k => g_or k⟩
instance i_not {R : Bool → Hp → Prop} : Step (tNot t σ H R) (t σ H fun c H1 => R (!c) H1) := ⟨fun k => g_not k⟩
instance i_andV  : Step (tAndV ta tb σ H Q) (ta σ H fun x H1 => ∃ c, x = .bl c ∧ if c = true then tb σ H1 Q else Q (.bl false) H1) := ⟨fun k => g_andV k⟩
instance i_orV  : Step (tOrV ta tb σ H Q) (ta σ H fun x H1 => ∃ c, x = .bl c ∧ if c = true then Q (.bl true) H1 else tb σ H1 Q) := ⟨fun k => g_orV k⟩
instance i_notV  : Step (tNotV ta σ H Q) (ta σ H fun x H1 => ∃ c, x = .bl c ∧ Q (.bl (!c)) H1) := ⟨fun k => g_notV k⟩
instance i_if  : Step (tIf t ta tb σ H Q) (t σ H fun c H1 => if c = true then ta σ H1 Q else tb σ H1 Q) := ⟨fun k => g_if k⟩
instance i_chain  : Step (tChain r r' ta tb tc σ H Q) (ta σ H fun x H1 => tb σ H1 fun y H2 => r x y H2 fun z H3 => ∃ k, z = .bl k ∧
  (if k = true then tc σ H3 fun w' H4 => r' y w' H4 Q else Q (.bl false) H3)) := ⟨fun k => g_chain k⟩
instance i_nil {R : List V → Hp → Prop} : Step (tNil σ H R) (R [] H) := ⟨fun k => g_nil k⟩
instance i_cons {tr : TA} {R : List V → Hp → Prop} : Step (tCons ta tr σ H R) (ta σ H fun x H1 => tr σ H1 fun xs H2 => R (x :: xs) H2) := ⟨fun k => g_cons k⟩
instance i_cb {f : List V → Hp → VK → Prop} {tr : TA} : Step (tCB f tr σ H Q) (tr σ H fun vs H1 => f vs H1 Q) := ⟨fun k => g_cb k⟩
instance i_kn {n m : Nat} {gV : List V → List V → List V} {sp : Sp} {E : XK} {ts tk : TA} : Step (tKn n m gV sp E ts tk σ H Q) (ts σ H fun vs H1 => tk σ H1 fun zs H2 => vs.length = n ∧ zs.length = m ∧ sp (gV vs zs) H2 Q E) := ⟨fun k => g_kn k⟩
instance i_tup {tr : TA} : Step (tTup tr σ H Q) (tr σ H fun xs H1 => xs.length ≤ sizeLine ∧ NewO H1 (.tup xs) Q) := ⟨fun k => g_tup k⟩
instance i_lst {tr : TA} : Step (tLst tr σ H Q) (tr σ H fun xs H1 => xs.length ≤ sizeLine ∧ NewO H1 (.lst xs) Q) := ⟨fun k => g_lst k⟩
instance i_dnew  : Step (tDNewK σ H Q) (NewO H (.dK []) Q) := ⟨fun k => g_dnew k⟩
instance i_sl {f : V → Option Int → Option Int → Hp → VK → Prop} {tl th : TO} : Step (tSl f te tl th σ H Q) (te σ H fun x H1 => tl σ H1 fun l H2 => th σ H2 fun u H3 => f x l u H3 Q) := ⟨fun k => g_sl k⟩
instance i_nopart {R : Option Int → Hp → Prop} : Step (tNoPart σ H R) (R none H) := ⟨fun k => g_nopart k⟩
instance i_part {R : Option Int → Hp → Prop} : Step (tPart te σ H R) (te σ H fun x H1 => ∃ i, x = .int i ∧ R (some i) H1) := ⟨fun k => g_part k⟩
instance i_int {R : Int → Prop} : Step (∃ j, V.int i = .int j ∧ R j) (R i) := ⟨fun k => g_int k⟩
instance i_m1 {f : V → List V → Hp → VK → Prop} : Step (tM1 f ta te σ H Q) (ta σ H fun x H1 => (∃ a, x = .str a) ∧ te σ H1 fun y H2 => f x [y] H2 Q) := ⟨fun k => g_m1 k⟩
instance i_m0 {f : V → List V → Hp → VK → Prop} : Step (tM0 f ta σ H Q) (ta σ H fun x H1 => (∃ a, x = .str a) ∧ f x [] H1 Q) := ⟨fun k => g_m0 k⟩
instance i_isS {R : Prop} : Step ((∃ b, V.str a = .str b) ∧ R) (R) := ⟨fun k => g_isS k⟩
instance i_seq  : Step (tSeq t1 t2 D σ H) (t1 { D with nx := t2 D } σ H) := ⟨fun k => g_seq k⟩
instance i_next  : Step (tNext D σ H) (D.nx σ H) := ⟨fun k => g_next k⟩
instance i_ifS  : Step (tIfS c t1 t2 D σ H) (c σ H fun b H1 => if b = true then t1 D σ H1 else t2 D σ H1) := ⟨fun k => g_ifS k⟩
instance i_ret  : Step (tRet te D σ H) (te σ H D.rt) := ⟨fun k => g_ret k⟩
instance i_asg  : Step (tAsg te g D σ H) (te σ H fun x H1 => g x σ H1 D.nx) := ⟨fun k => g_asg k⟩
instance i_drop  : Step (tDrop te D σ H) (te σ H fun _ H1 => D.nx σ H1) := ⟨fun k => g_drop k⟩
instance i_two {R : V → V → Prop} : Step (∃ v w, [x, y] = [v, w] ∧ R v w) (R x y) := ⟨fun k => g_two k⟩
instance i_ifT {A B : Prop} {i : Decidable (true = true)} : Step (@ite Prop (true = true) i A B) (A) := ⟨fun k => g_ifT k⟩
instance i_ifF {A B : Prop} {i : Decidable (false = true)} : Step (@ite Prop (false = true) i A B) (B) := ⟨fun k => g_ifF k⟩
instance i_ifnT {A B : Prop} {i : Decidable ((!true) = true)} : Step (@ite Prop ((!true) = true) i A B) (B) := ⟨fun k => g_ifnT k⟩
instance i_ifnF {A B : Prop} {i : Decidable ((!false) = true)} : Step (@ite Prop ((!false) = true) i A B) (A) := ⟨fun k => g_ifnF k⟩
instance i_brk  : Step (tBreak D σ H) (D.bk σ H) := ⟨fun k => g_brk k⟩
instance i_cont  : Step (tCont D σ H) (D.ct σ H) := ⟨fun k => g_cont k⟩
instance i_addI  : Step (rAddM K (.int i) (.int j) H Q) (Q (.int (i + j)) H) := ⟨fun k => g_addI k⟩
instance i_i0 {f : Int → Int → V} : Step (rI0 f (.int i) (.int j) H Q) (Q (f i j) H) := ⟨fun k => g_i0 k⟩
instance i_u {f : Int → V} : Step (rU f (.int i) H Q) (Q (f i) H) := ⟨fun k => g_u k⟩
instance i_inS {n : Nat} {neg : Bool} : Step (rInM K neg (.str ⟨#[n]⟩) (.str a) H Q) (Q (.bl (if neg then !decide (n ∈ a.cps.toList) else decide (n ∈ a.cps.toList))) H) := ⟨fun k => g_inS k⟩
instance i_abs  : Step (rAbs [.int i] H Q) (Q (.int (if i < 0 then -i else i)) H) := ⟨fun k => g_abs k⟩
instance i_intI  : Step (rIntM [.int i] H Q) (Q (.int i) H) := ⟨fun k => g_intI k⟩
instance i_intB  : Step (rIntM [.bl b] H Q) (Q (.int (if b then 1 else 0)) H) := ⟨fun k => g_intB k⟩
/-- a step that asks for a size -/
class StepZ (G : Prop) (C N : outParam Prop) : Prop where
  imp : C → N → G
instance z_addS : StepZ (rAddM K (.str a) (.str q) H Q) (a.length + q.length ≤ sizeLine) (Q (.str (a ++ q)) H) := ⟨g_addS⟩
instance z_lenS : StepZ (rLen K [.str a] H Q) (a.length ≤ sizeLine) (Q (.int a.length) H) := ⟨g_lenS⟩
instance z_strip : StepZ (rStrip (.str a) [.str q] H Q) (a.length ≤ sizeLine) (Q (.str (Txt.stripChars a q)) H) := ⟨g_strip⟩
instance z_slS {lo hi : Option Int} : StepZ (rSlM K (.str a) lo hi H Q) (a.length ≤ sizeLine) (Q (.str (cutS a lo hi)) H) := ⟨g_slS⟩
instance z_mulI : StepZ (rMulM (.int i) (.int j) H Q) (CMa i j) (Q (.int (i * j)) H) := ⟨g_mulI⟩
instance z_mulS : StepZ (rMulM (.str a) (.int j) H Q) (MulOk a j) (Q (.str (Txt.mul a j)) H) := ⟨g_mulS⟩
instance z_upper : StepZ (rUpper (.str a) [] H Q) (a.length ≤ 5592405) (Q (.str (Txt.upper a)) H) := ⟨g_upper⟩
instance z_i {C : Int → Int → Prop} {f : Int → Int → V} : StepZ (rI C f (.int i) (.int j) H Q) (C i j) (Q (f i j) H) := ⟨g_i⟩
instance z_and {n : Nat} {R : Prop} : StepZ (n ≤ sizeLine ∧ R) (n ≤ sizeLine) R := ⟨fun a b => ⟨a, b⟩⟩
instance z_andL {n : Nat} {R : Prop} : StepZ (n < sizeLine ∧ R) (n < sizeLine) R := ⟨fun a b => ⟨a, b⟩⟩
/-- a step that asks what stands at an address -/
class StepQ (G : Prop) (C N : outParam (List V → Prop)) : Prop where
  imp : ∀ xs, C xs → N xs → G
instance q_lenL {p : Addr} : StepQ (rLen K [.ref p] H Q) (fun xs => SqL K H p xs ∨ SqT K H p xs) (fun xs => Q (.int xs.length) H) :=
  ⟨fun xs h k => h.elim (fun h => g_lenL h k) (fun h => g_lenT h k)⟩
instance q_ix {p : Addr} : StepQ (rIxM K (.ref p) (.int i) H Q) (fun xs => SqL K H p xs ∨ SqT K H p xs) (fun xs => ∃ v, atI xs i = some v ∧ Q v H) :=
  ⟨fun xs h ⟨v, e, k⟩ => h.elim (fun h => g_ixL h e k) (fun h => g_ixT h e k)⟩
instance q_slL {p : Addr} {lo hi : Option Int} : StepQ (rSlM K (.ref p) lo hi H Q) (fun xs => SqL K H p xs) (fun xs => NewO H (.lst (cutV xs lo hi)) Q) :=
  ⟨fun xs h k => g_slL h k⟩
instance q_in {p : Addr} {neg : Bool} : StepQ (rInM K neg x (.ref p) H Q) (fun xs => SqL K H p xs ∨ SqT K H p xs)
  (fun xs => flatV x = true ∧ xs.all flatV = true ∧ Q (.bl (if neg then !inV x xs else inV x xs)) H) := ⟨fun xs h ⟨k1, k2, k3⟩ => g_inQ h k1 k2 k3⟩
instance q_addL {l m : Addr} : StepQ (rAddM K (.ref l) (.ref m) H Q) (fun xs => H l = some (.lst xs))
  (fun xs => ∃ ys, H m = some (.lst ys) ∧ xs.length + ys.length ≤ sizeLine ∧ NewO H (.lst (xs ++ ys)) Q) :=
  ⟨fun xs h ⟨ys, k1, k2, k3⟩ => g_addL h k1 k2 k3⟩
instance q_exL {p : Addr} {R : List V → Prop} : StepQ (∃ ys, H p = some (.lst ys) ∧ R ys) (fun ys => H p = some (.lst ys)) R := ⟨fun ys h k => ⟨ys, h, k⟩⟩
instance q_itL {p : Addr} {R : Addr → Prop} : StepQ (∃ b, V.ref p = .ref b ∧ (∃ xs, SqL K H b xs) ∧ R b) (fun xs => SqL K H p xs) (fun _ => R p) := ⟨fun xs h k => ⟨p, rfl, ⟨xs, h⟩, k⟩⟩
instance q_itT {p : Addr} {R : Addr → Prop} : StepQ (∃ b, V.ref p = .ref b ∧ (∃ xs, SqT K H b xs) ∧ R b) (fun xs => SqT K H p xs) (fun _ => R p) := ⟨fun xs h k => ⟨p, rfl, ⟨xs, h⟩, k⟩⟩
instance q_tyL {p : Addr} {R : Prop} : StepQ (tyV K "list" (.ref p) H ∧ R) (fun xs => SqL K H p xs) (fun _ => R) := ⟨fun xs h k => ⟨.inl ⟨rfl, xs, h⟩, k⟩⟩
instance q_append {l : Addr} : StepQ (rAppend (.ref l) [v] H Q) (fun xs => H l = some (.lst xs)) (fun xs => xs.length < sizeLine ∧ Q .non (upd H l (.lst (xs ++ [v])))) :=
  ⟨fun xs h k => ⟨l, xs, v, rfl, rfl, h, k⟩⟩
instance q_extend {l m : Addr} : StepQ (rExtend (.ref l) [.ref m] H Q) (fun xs => H l = some (.lst xs))
  (fun xs => ∃ zs, H m = some (.lst zs) ∧ xs.length + zs.length ≤ sizeLine ∧ Q .non (upd H l (.lst (xs ++ zs)))) := ⟨fun xs h ⟨zs, k1, k2, k3⟩ => ⟨l, m, xs, zs, rfl, rfl, h, k1, k2, k3⟩⟩
instance q_setL {p : Addr} {R : Hp → Prop} : StepQ (rSetL (.ref p) (.int i) v H R) (fun xs => H p = some (.lst xs)) (fun xs => ∃ j, ixN xs.length i = some j ∧ R (upd H p (.lst (xs.set j v)))) :=
  ⟨fun xs h ⟨j, e, k⟩ => ⟨p, xs, i, j, rfl, rfl, h, e, k⟩⟩
instance i_gSub {t : TSet} {R : L2.St → Hp → Prop} : Step (gSub ta tb t v σ H R) (ta σ H fun o H1 => tb σ H1 fun i H2 => t o i v H2 fun H3 => R σ H3) := ⟨fun k => k⟩
instance i_bm {T : String} {f : V → List V → Hp → VK → Prop} {ts : TA} : Step (tBM K T f ta ts σ H Q) (ta σ H fun x H1 => tyV K T x H1 ∧ ts σ H1 fun xs H2 => f x xs H2 Q) := ⟨fun k => k⟩
instance i_bm0 {T : String} {f : V → List V → Hp → VK → Prop} : Step (tBM0 K T f ta σ H Q) (ta σ H fun x H1 => tyV K T x H1 ∧ f x [] H1 Q) := ⟨fun k => k⟩
/-- a step that asks for a datum -/
class StepD (G : Prop) (C N : outParam (PyData → Prop)) : Prop where
  imp : ∀ d, C d → N d → G
instance d_isStr : StepD (rIsi K [x, .ty "str"] H Q) (fun d => Da K H x d) (fun d => Q (.bl (isStr d)) H) := ⟨fun d h k => g_isiStr h k⟩
instance d_isInt : StepD (rIsi K [x, .ty "int"] H Q) (fun d => Da K H x d) (fun d => Q (.bl (isInt d)) H) := ⟨fun d h k => g_isiInt h k⟩
instance d_isBool : StepD (rIsi K [x, .ty "bool"] H Q) (fun d => Da K H x d) (fun d => Q (.bl (isBool d)) H) := ⟨fun d h k => g_isiBool h k⟩
instance d_isTup : StepD (rIsi K [x, .ty "tuple"] H Q) (fun d => Da K H x d) (fun d => Q (.bl (isTup d)) H) := ⟨fun d h k => g_isiTup h k⟩
instance d_repr : StepD (rRepr K [x] H Q) (fun d => Da K H x d) (fun d => d.showable = true ∧ d.depth ≤ 60 ∧ d.shown.length ≤ sizeLine ∧ Q (.str d.shown) H) :=
  ⟨fun d h ⟨k1, k2, k3, k4⟩ => g_repr h k1 k2 k3 k4⟩
end
end L2.Pc

namespace L2.Pc
open PySem PySem.Spec PyProof.Rows

theorem bt_len : bootBuiltins "len" = some (.builtin "len") := by decide +kernel
theorem bt_abs : bootBuiltins "abs" = some (.builtin "abs") := by decide +kernel
theorem bt_repr : bootBuiltins "repr" = some (.builtin "repr") := by decide +kernel
theorem bt_isinstance : bootBuiltins "isinstance" = some (.builtin "isinstance") := by decide +kernel
theorem bt_all : bootBuiltins "all" = some (.builtin "all") := by decide +kernel
theorem bt_any : bootBuiltins "any" = some (.builtin "any") := by decide +kernel
theorem bt_sorted : bootBuiltins "sorted" = some (.builtin "sorted") := by decide +kernel
theorem bt_max : bootBuiltins "max" = some (.builtin "max") := by decide +kernel
theorem bt_min : bootBuiltins "min" = some (.builtin "min") := by decide +kernel
theorem bt_int : bootBuiltins "int" = some (.type "int") := by decide +kernel
theorem bt_str : bootBuiltins "str" = some (.type "str") := by decide +kernel
theorem bt_bool : bootBuiltins "bool" = some (.type "bool") := by decide +kernel
theorem bt_tuple : bootBuiltins "tuple" = some (.type "tuple") := by decide +kernel
theorem bt_list : bootBuiltins "list" = some (.type "list") := by decide +kernel
theorem bt_dict : bootBuiltins "dict" = some (.type "dict") := by decide +kernel
theorem bt_set : bootBuiltins "set" = some (.type "set") := by decide +kernel

theorem hu64 {k : Nat} {A : Around} (r : Room k A) : A.units + 64 < cLine := by have := r.un; omega
theorem szl : sizeLine = 16777216 := by decide

/-! ### promises by the number of arguments -/
def Sp1 (R : V → Hp → VK → Prop) : Sp := fun vs H Q _ => ∃ x, vs = [x] ∧ R x H Q
def Sp2 (R : V → V → Hp → VK → Prop) : Sp := fun vs H Q _ => ∃ x y, vs = [x, y] ∧ R x y H Q
def Sp3 (R : V → V → V → Hp → VK → Prop) : Sp := fun vs H Q _ => ∃ x y z, vs = [x, y, z] ∧ R x y z H Q
def Sp4 (R : V → V → V → V → Hp → VK → Prop) : Sp := fun vs H Q _ => ∃ x y z u, vs = [x, y, z, u] ∧ R x y z u H Q
section
variable {vs : List V} {H : Hp} {Q : VK} {E : XK} {x y z u : V}
theorem Sp1.len {R : V → Hp → VK → Prop} (h : Sp1 R vs H Q E) : vs.length = 1 := by obtain ⟨x, rfl, _⟩ := h; rfl
theorem Sp2.len {R : V → V → Hp → VK → Prop} (h : Sp2 R vs H Q E) : vs.length = 2 := by obtain ⟨x, y, rfl, _⟩ := h; rfl
theorem Sp3.len {R : V → V → V → Hp → VK → Prop} (h : Sp3 R vs H Q E) : vs.length = 3 := by obtain ⟨x, y, z, rfl, _⟩ := h; rfl
theorem Sp4.len {R : V → V → V → V → Hp → VK → Prop} (h : Sp4 R vs H Q E) : vs.length = 4 := by obtain ⟨x, y, z, u, rfl, _⟩ := h; rfl
theorem g_call1 {R : V → Hp → VK → Prop} (k : R x H Q) : [x].length = 1 ∧ ([] : List V).length = 0 ∧ Sp1 R [x] H Q E := ⟨rfl, rfl, x, rfl, k⟩
theorem g_call2 {R : V → V → Hp → VK → Prop} (k : R x y H Q) : [x, y].length = 2 ∧ ([] : List V).length = 0 ∧ Sp2 R [x, y] H Q E := ⟨rfl, rfl, x, y, rfl, k⟩
theorem g_call3 {R : V → V → V → Hp → VK → Prop} (k : R x y z H Q) : [x, y, z].length = 3 ∧ ([] : List V).length = 0 ∧ Sp3 R [x, y, z] H Q E := ⟨rfl, rfl, x, y, z, rfl, k⟩
theorem g_call4 {R : V → V → V → V → Hp → VK → Prop} (k : R x y z u H Q) : [x, y, z, u].length = 4 ∧ ([] : List V).length = 0 ∧ Sp4 R [x, y, z, u] H Q E := ⟨rfl, rfl, x, y, z, u, rfl, k⟩
end

/-- a written tuple of the module -/
def Kt (K : PySem.W.Frag) (a : Addr) (xs : List V) : Prop :=
  ∃ (o : Obj) (its : Array Value) (n : Nat), K.lookup a = some o ∧ o.cls = .type "tuple" ∧ o.data = .seq its n ∧ its.size ≤ sizeLine ∧ Vals xs its.toList
theorem Kt.sq {K : PySem.W.Frag} {a : Addr} {xs : List V} (h : Kt K a xs) (H : Hp) : SqT K H a xs := .inr h

/-! ### loops and comprehensions -/
def ForW (J : It) (g : TG) (tb : TS) (D : Ends) : L2.St → Hp → Prop := fun σ H =>
  ∃ W : Nat → Nat → L2.St → Hp → Prop, (∃ m, W 0 m σ H) ∧ ∀ i m σ H, W i m σ H → (J.stop i H ∧ D.nx σ H) ∨
    (J.go i H ∧ ∃ N : L2.St → Hp → Prop, (∀ σ' H', N σ' H' → ∃ m', m' < m ∧ W (i + 1) m' σ' H') ∧
      ∀ x H', J.yld i H x H' → g x σ H' fun σ2 H2 => tb { D with nx := N, ct := N, bk := D.nx } σ2 H2)
def LcW (J : It) (g : TG) (tt : TT) (te : TE) (vs : List Nat) (σ : L2.St) (Q : VK) : Hp → Prop := fun H1 =>
  ∀ D, H1 D = none → ∃ W : Nat → Nat → Hp → Prop, (∃ m, W 0 m (upd H1 D (.lst []))) ∧ ∀ i m H, W i m H →
    (J.stop i H ∧ Q (.ref D) H) ∨ (J.go i H ∧ ∃ Nx : Hp → Prop, (∀ H', Nx H' → ∃ m', m' < m ∧ W (i + 1) m' H') ∧
      ∀ x H', J.yld i H x H' → g x (wipe σ vs) H' fun σ2 H2 => wipe σ2 vs = wipe σ vs ∧ tt σ2 H2 fun b H3 =>
        if b = true then te σ2 H3 fun y H4 => ∃ acc, H4 D = some (.lst acc) ∧ acc.length < sizeLine ∧ Nx (upd H4 D (.lst (acc ++ [y]))) else Nx H3)
/-- what is walked: n items, as long as G -/
structure Src (J : It) (n : Nat) (it : Nat → V) (G : Hp → Prop) : Prop where
  go : ∀ i H, i < n → G H → J.go i H
  yld : ∀ i H x H', i < n → G H → J.yld i H x H' → x = it i ∧ H' = H
  stop : ∀ H, G H → J.stop n H
theorem getD_of {xs : List V} {i : Nat} (h : i < xs.length) : xs[i]? = some (xs.getD i .non) := by
  rw [List.getD_eq_getElem?_getD, List.getElem?_eq_getElem h]; rfl
theorem src_list (K : PySem.W.Frag) (a : Addr) (xs : List V) : Src (Itl K a) xs.length (fun i => xs.getD i .non) (fun H => SqL K H a xs) where
  go := fun i H h g => ⟨xs, _, g, getD_of h⟩
  yld := fun i H x H' h g y => ⟨Option.some.inj ((y.2 xs g).symm.trans (getD_of h)), y.1⟩
  stop := fun H g => ⟨xs, g, Nat.le_refl _⟩
theorem src_tup (K : PySem.W.Frag) (a : Addr) (xs : List V) : Src (Itt K a) xs.length (fun i => xs.getD i .non) (fun H => SqT K H a xs) where
  go := fun i H h g => ⟨xs, _, g, getD_of h⟩
  yld := fun i H x H' h g y => ⟨Option.some.inj ((y.2 xs g).symm.trans (getD_of h)), y.1⟩
  stop := fun H g => ⟨xs, g, Nat.le_refl _⟩
theorem src_rng (lo : Int) (n : Nat) : Src (Itr lo n) n (fun i => .int (lo + i)) (fun _ => True) where
  go := fun i H h _ => h
  yld := fun i H x H' _ _ y => ⟨y.2, y.1⟩
  stop := fun H _ => Nat.le_refl _
theorem src_str (z : Str) : Src (Its z) z.cps.size (fun i => .str ⟨#[z.cps.getD i 0]⟩) (fun _ => True) where
  go := fun i H h _ => h
  yld := fun i H x H' h _ y => by
    obtain ⟨e, c, hc, rfl⟩ := y
    refine ⟨?_, e⟩
    have : z.cps.getD i 0 = c := by rw [Array.getD_eq_getD_getElem?, hc]; rfl
    rw [this]
  stop := fun H _ => Nat.le_refl _
section
variable {K : PySem.W.Frag} {σ : L2.St} {H : Hp} {Q : VK} {D : Ends} {tb : TS} {g : TG} {tt : TT} {te tl : TE} {vs : List Nat} {ta : TA}
  {J : It} {n : Nat} {it : Nat → V} {G : Hp → Prop} {wi : TI} {R : It → Hp → Prop}
theorem g_for (k : wi σ H fun J H1 => ForW J g tb D σ H1) : tFor wi g tb D σ H := k
theorem g_lc (k : wi σ H fun J H1 => LcW J g tt te vs σ Q H1) : tLc wi g tt te vs σ H Q := k
theorem g_rng1 (k : ta σ H fun vs H1 => ∃ j : Int, vs = [.int j] ∧ -(2 ^ 62) ≤ j ∧ j < 2 ^ 62 ∧ R (Itr 0 j.toNat) H1) : iRng1 ta σ H R := k
theorem g_rng2 (k : ta σ H fun vs H1 => ∃ i j : Int, vs = [.int i, .int j] ∧ (-(2 ^ 62) ≤ i ∧ i < 2 ^ 62 ∧ -(2 ^ 62) ≤ j ∧ j < 2 ^ 62) ∧ R (Itr i (j - i).toNat) H1) : iRng2 ta σ H R := k
theorem g_rngV {m : Int} (h1 : -(2 ^ 62) ≤ m) (h2 : m < 2 ^ 62) (k : R (Itr 0 m.toNat) H) :
    ∃ j : Int, [V.int m] = [.int j] ∧ -(2 ^ 62) ≤ j ∧ j < 2 ^ 62 ∧ R (Itr 0 j.toNat) H := ⟨m, rfl, h1, h2, k⟩
theorem g_rngW {l m : Int} (h1 : -(2 ^ 62) ≤ l ∧ l < 2 ^ 62 ∧ -(2 ^ 62) ≤ m ∧ m < 2 ^ 62) (k : R (Itr l (m - l).toNat) H) :
    ∃ i j : Int, [V.int l, V.int m] = [.int i, .int j] ∧ (-(2 ^ 62) ≤ i ∧ i < 2 ^ 62 ∧ -(2 ^ 62) ≤ j ∧ j < 2 ^ 62) ∧ R (Itr i (j - i).toNat) H := ⟨l, m, rfl, h1, k⟩
theorem g_iList (k : tl σ H fun x H1 => ∃ a, x = .ref a ∧ (∃ xs, SqL K H1 a xs) ∧ R (Itl K a) H1) : iList K tl σ H R := k
theorem g_iTup (k : tl σ H fun x H1 => ∃ a, x = .ref a ∧ (∃ xs, SqT K H1 a xs) ∧ R (Itt K a) H1) : iTup K tl σ H R := k
theorem g_iStr (k : tl σ H fun x H1 => ∃ z, x = .str z ∧ R (Its z) H1) : iStr tl σ H R := k
theorem g_itL {a : Addr} {xs : List V} (h : SqL K H a xs) (k : R (Itl K a) H) : ∃ b, V.ref a = .ref b ∧ (∃ xs, SqL K H b xs) ∧ R (Itl K b) H := ⟨a, rfl, ⟨xs, h⟩, k⟩
theorem g_itT {a : Addr} {xs : List V} (h : SqT K H a xs) (k : R (Itt K a) H) : ∃ b, V.ref a = .ref b ∧ (∃ xs, SqT K H b xs) ∧ R (Itt K b) H := ⟨a, rfl, ⟨xs, h⟩, k⟩
theorem g_itS {z : Str} (k : R (Its z) H) : ∃ y, V.str z = .str y ∧ R (Its y) H := ⟨z, rfl, k⟩
/-- a for, by what holds behind each turn -/
theorem forG (S : Src J n it G) (Pv : Nat → L2.St → Hp → Prop) (h0 : Pv 0 σ H) (hG : ∀ i σ' H', i ≤ n → Pv i σ' H' → G H')
    (hs : ∀ i σ' H', i < n → Pv i σ' H' → g (it i) σ' H' fun σ2 H2 => tb { D with nx := Pv (i + 1), ct := Pv (i + 1), bk := D.nx } σ2 H2)
    (hd : ∀ σ' H', Pv n σ' H' → D.nx σ' H') : ForW J g tb D σ H := by
  refine ⟨fun i m σ' H' => m = n - i ∧ i ≤ n ∧ Pv i σ' H', ⟨n, rfl, Nat.zero_le _, h0⟩, ?_⟩
  rintro i m σ' H' ⟨rfl, hi, p⟩
  have gg := hG i σ' H' hi p
  rcases Nat.lt_or_ge i n with hl | hl
  · refine Or.inr ⟨S.go i H' hl gg, Pv (i + 1), fun σ2 H2 q => ⟨n - (i + 1), by omega, rfl, hl, q⟩, fun x H2 y => ?_⟩
    obtain ⟨e1, e2⟩ := S.yld i H' x H2 hl gg y
    rw [e1, e2]
    exact hs i σ' H' hl p
  · have e : i = n := by omega
    subst e
    exact Or.inl ⟨S.stop H' gg, hd σ' H' p⟩
/-- behind turn i the new list at L holds acc -/
def LcN (Pv : Addr → Nat → List V → Hp → Prop) (L : Addr) (i : Nat) : Hp → Prop := fun H' => ∃ acc, H' L = some (.lst acc) ∧ acc.length ≤ i ∧ Pv L i acc H'
theorem lc_leaf {Pv : Addr → Nat → List V → Hp → Prop} {L : Addr} {i : Nat} {acc : List V} {y : V} {H4 : Hp} (h : H4 L = some (.lst acc)) (hl : acc.length ≤ i) (hi : i < 16777216)
    (p : Pv L (i + 1) (acc ++ [y]) (upd H4 L (.lst (acc ++ [y])))) : ∃ a, H4 L = some (.lst a) ∧ a.length < sizeLine ∧ LcN Pv L (i + 1) (upd H4 L (.lst (a ++ [y]))) :=
  ⟨acc, h, by rw [szl]; omega, acc ++ [y], upd_same, by rw [List.length_append, List.length_singleton]; omega, p⟩
theorem lc_skip {Pv : Addr → Nat → List V → Hp → Prop} {L : Addr} {i : Nat} {acc : List V} {H4 : Hp} (h : H4 L = some (.lst acc)) (hl : acc.length ≤ i)
    (p : Pv L (i + 1) acc H4) : LcN Pv L (i + 1) H4 := ⟨acc, h, by omega, p⟩
/-- a comprehension, by what holds behind each turn of what is made so far -/
theorem lcG (S : Src J n it G) (Pv : Addr → Nat → List V → Hp → Prop) (h0 : ∀ L, H L = none → Pv L 0 [] (upd H L (.lst [])))
    (hG : ∀ L i acc H', i ≤ n → Pv L i acc H' → G H')
    (hs : ∀ L i acc H', H L = none → i < n → H' L = some (.lst acc) → acc.length ≤ i → Pv L i acc H' →
      g (it i) (wipe σ vs) H' fun σ2 H2 => wipe σ2 vs = wipe σ vs ∧ tt σ2 H2 fun b H3 =>
        if b = true then te σ2 H3 fun y H4 => ∃ a, H4 L = some (.lst a) ∧ a.length < sizeLine ∧ LcN Pv L (i + 1) (upd H4 L (.lst (a ++ [y])))
        else LcN Pv L (i + 1) H3)
    (hd : ∀ L acc H', H L = none → H' L = some (.lst acc) → acc.length ≤ n → Pv L n acc H' → Q (.ref L) H') : LcW J g tt te vs σ Q H := by
  intro L hL
  refine ⟨fun i m H' => m = n - i ∧ i ≤ n ∧ LcN Pv L i H', ⟨n, rfl, Nat.zero_le _, [], upd_same, Nat.le_refl _, h0 L hL⟩, ?_⟩
  rintro i m H' ⟨rfl, hi, acc, ha, hla, p⟩
  have gg := hG L i acc H' hi p
  rcases Nat.lt_or_ge i n with hl | hl
  · refine Or.inr ⟨S.go i H' hl gg, LcN Pv L (i + 1), fun H2 q => ⟨n - (i + 1), by omega, rfl, hl, q⟩, fun x H2 y => ?_⟩
    obtain ⟨e1, e2⟩ := S.yld i H' x H2 hl gg y
    rw [e1, e2]
    exact hs L i acc H' hL hl ha hla p
  · have e : i = n := by omega
    subst e
    exact Or.inl ⟨S.stop H' gg, hd L acc H' hL ha hla p⟩
end
/-! ### steps found by their form -/
section
variable {vs : List V} {H : Hp} {Q : VK} {E : XK} {x y z u : V}
instance i_call1 {R : V → Hp → VK → Prop} : Step ([x].length = 1 ∧ ([] : List V).length = 0 ∧ Sp1 R [x] H Q E) (R x H Q) := ⟨fun k => g_call1 k⟩
instance i_call2 {R : V → V → Hp → VK → Prop} : Step ([x, y].length = 2 ∧ ([] : List V).length = 0 ∧ Sp2 R [x, y] H Q E) (R x y H Q) := ⟨fun k => g_call2 k⟩
instance i_call3 {R : V → V → V → Hp → VK → Prop} : Step ([x, y, z].length = 3 ∧ ([] : List V).length = 0 ∧ Sp3 R [x, y, z] H Q E) (R x y z H Q) := ⟨fun k => g_call3 k⟩
instance i_call4 {R : V → V → V → V → Hp → VK → Prop} : Step ([x, y, z, u].length = 4 ∧ ([] : List V).length = 0 ∧ Sp4 R [x, y, z, u] H Q E) (R x y z u H Q) := ⟨fun k => g_call4 k⟩
end
section
variable {K : PySem.W.Frag} {σ : L2.St} {H : Hp} {Q : VK} {D : Ends} {tb : TS} {g : TG} {tt : TT} {te tl : TE} {vs : List Nat} {ta : TA}
  {J : It} {n : Nat} {it : Nat → V} {G : Hp → Prop} {wi : TI} {R : It → Hp → Prop}
instance i_for  : Step (tFor wi g tb D σ H) (wi σ H fun J H1 => ForW J g tb D σ H1) := ⟨fun k => g_for k⟩
instance i_lc  : Step (tLc wi g tt te vs σ H Q) (wi σ H fun J H1 => LcW J g tt te vs σ Q H1) := ⟨fun k => g_lc k⟩
instance i_rng1  : Step (iRng1 ta σ H R) (ta σ H fun vs H1 => ∃ j : Int, vs = [.int j] ∧ -(2 ^ 62) ≤ j ∧ j < 2 ^ 62 ∧ R (Itr 0 j.toNat) H1) := ⟨fun k => g_rng1 k⟩
instance i_rng2  : Step (iRng2 ta σ H R) (ta σ H fun vs H1 => ∃ i j : Int, vs = [.int i, .int j] ∧ (-(2 ^ 62) ≤ i ∧ i < 2 ^ 62 ∧ -(2 ^ 62) ≤ j ∧ j < 2 ^ 62) ∧ R (Itr i (j - i).toNat) H1) := ⟨fun k => g_rng2 k⟩
instance i_iList  : Step (iList K tl σ H R) (tl σ H fun x H1 => ∃ a, x = .ref a ∧ (∃ xs, SqL K H1 a xs) ∧ R (Itl K a) H1) := ⟨fun k => g_iList k⟩
instance i_iTup  : Step (iTup K tl σ H R) (tl σ H fun x H1 => ∃ a, x = .ref a ∧ (∃ xs, SqT K H1 a xs) ∧ R (Itt K a) H1) := ⟨fun k => g_iTup k⟩
instance i_iStr  : Step (iStr tl σ H R) (tl σ H fun x H1 => ∃ z, x = .str z ∧ R (Its z) H1) := ⟨fun k => g_iStr k⟩
instance i_itS {z : Str} : Step (∃ y, V.str z = .str y ∧ R (Its y) H) (R (Its z) H) := ⟨fun k => g_itS k⟩
end
end L2.Pc

namespace L2.Pc
open PySem PySem.Spec PyProof.Rows

/-! ### lists cut and read -/
theorem cutV_to (xs : List V) (k : Nat) : cutV xs none (some (k : Int)) = xs.take k := by
  unfold cutV
  rw [HT.sIx_none, HT.sIx_nat, List.drop_zero, Nat.sub_zero]
  rcases Nat.le_total k xs.length with h | h
  · rw [Nat.min_eq_left h]
  · rw [Nat.min_eq_right h, List.take_of_length_le (Nat.le_refl _), List.take_of_length_le h]
theorem cutV_from (xs : List V) (k : Nat) : cutV xs (some (k : Int)) none = xs.drop k := by
  unfold cutV
  rw [HT.sIx_none, HT.sIx_nat]
  rcases Nat.le_total k xs.length with h | h
  · rw [Nat.min_eq_left h, List.take_of_length_le (by rw [List.length_drop]; exact Nat.le_refl _)]
  · rw [Nat.min_eq_right h, List.drop_eq_nil_of_le (Nat.le_refl _), List.drop_eq_nil_of_le h, List.take_nil]
theorem atI_nat' {α : Type} {xs : List α} {k : Nat} {v : α} (h : xs[k]? = some v) : atI xs (k : Int) = some v := by
  have hk : k < xs.length := (List.getElem?_eq_some_iff.mp h).1
  unfold atI ixN
  rw [if_pos (by omega), if_pos (by omega), Int.toNat_natCast]
  exact h
theorem atI_int {α : Type} {xs : List α} {i : Int} (h0 : 0 ≤ i) (h1 : i < xs.length) : ∃ v, atI xs i = some v ∧ v ∈ xs ∧ xs[i.toNat]? = some v := by
  obtain ⟨k, rfl⟩ : ∃ k : Nat, i = k := ⟨i.toNat, by omega⟩
  have hk : k < xs.length := by omega
  refine ⟨xs[k], atI_nat' (List.getElem?_eq_getElem hk), List.getElem_mem hk, ?_⟩
  rw [Int.toNat_natCast]
  exact List.getElem?_eq_getElem hk
theorem atI_map {α β : Type} (f : α → β) {xs : List α} {i : Int} (h0 : 0 ≤ i) (h1 : i < xs.length) : ∃ v, v ∈ xs ∧ atI (xs.map f) i = some (f v) := by
  obtain ⟨k, rfl⟩ : ∃ k : Nat, i = k := ⟨i.toNat, by omega⟩
  have hk : k < xs.length := by omega
  refine ⟨xs[k], List.getElem_mem hk, atI_nat' ?_⟩
  rw [List.getElem?_map, List.getElem?_eq_getElem hk]; rfl
theorem getD_map {α : Type} (f : α → V) {xs : List α} {i : Nat} (h : i < xs.length) : (xs.map f).getD i .non = f (xs[i]) := by
  rw [List.getD_eq_getElem?_getD, List.getElem?_map, List.getElem?_eq_getElem h]; rfl
theorem getD_cons0 {x : V} {xs : List V} : (x :: xs).getD 0 .non = x := rfl
end L2.Pc

namespace L2.Pc
open PySem PySem.Spec PyProof.Rows

/-! ### the same rules, of a module's K that is named -/
section
variable {X : Cx} {K : PySem.W.Frag} (h : X.K = K)
include h
theorem k_add : OpR X (binaryOp .Add) (rAddM K) := h ▸ op_addM
theorem k_eq (hu : X.A.units + 64 < cLine) : OpR X (compareOp .Eq) (rEqM K) := h ▸ op_eqM hu
theorem k_ne (hu : X.A.units + 64 < cLine) : OpR X (compareOp .NotEq) (rNeM K) := h ▸ op_neM hu
theorem k_in : OpR X (compareOp .In) (rInM K false) := h ▸ op_inM
theorem k_notIn : OpR X (compareOp .NotIn) (rInM K true) := h ▸ op_notInM
theorem k_ix : IxR X (rIxM K) := h ▸ ixM
theorem k_sl : SlR X (rSlM K) := h ▸ slM
theorem k_len : CallR X (.builtin "len") (rLen K) := h ▸ call_lenM
theorem k_join : MtR X "str.join" (rJoin K) := h ▸ mt_joinM
theorem k_isi : CallR X (.builtin "isinstance") (rIsi K) := h ▸ call_isi
theorem k_all (hc : X.calm = true) : CallR X (.builtin "all") (rAll K) := h ▸ cr_all hc
theorem k_any (hc : X.calm = true) : CallR X (.builtin "any") (rAny K) := h ▸ cr_any hc
theorem k_repr (hga : X.A.guards = some []) (hu : X.A.units + 64 < cLine) (M : Sm X.base) : CallR X (.builtin "repr") (rRepr K) := h ▸ call_reprD hga hu M
end
instance i_exS {a : Str} {R : Str → Prop} : Step (∃ z, V.str a = .str z ∧ R z) (R a) := ⟨fun k => ⟨a, rfl, k⟩⟩
instance i_yes {σ : L2.St} {H : Hp} {R : Bool → Hp → Prop} : Step (tYes σ H R) (R true H) := ⟨fun k => k⟩
section
variable {X : Cx}
theorem pe_lcM {elt tg iter : Expr} {ifs : List Expr} {scope : Scope} {own : List (Str × Nat)} {vs : List Nat} {pos : Pos} {wi : TI} {g : TG} {tt : TT} {te : TE} (hv : own.map (·.2) = vs) (hc : X.calm = true) (hN : X.N.Nodup) (hi : PI X tg iter wi) (ok : BlkOk X.N X.env.scope scope own)
    (hg : ∀ (s : Shared) (H : Hp) (C : Addr) (cl : List (Str × Addr)) (fp : List Addr), PG (X.blk s H scope (compEnvC scope cl C X.env) fp) tg g) (ht : ∀ (s : Shared) (H : Hp) (C : Addr) (cl : List (Str × Addr)) (fp : List Addr), PTs (X.blk s H scope (compEnvC scope cl C X.env) fp) ifs tt)
    (he : ∀ (s : Shared) (H : Hp) (C : Addr) (cl : List (Str × Addr)) (fp : List Addr), PE (X.blk s H scope (compEnvC scope cl C X.env) fp) elt te) (hs : ∀ x, foldedSetIterable iter X.env x = pure x := by intro _; rfl) :
    PE X (.ListComp elt [⟨tg, iter, ifs, 0⟩] scope pos) (tLc wi g tt te vs) := hv ▸ pe_lc hc hN hi ok hg ht he hs
theorem ps_setLcM {i : Nat} {y : Str} {py : Pos} {elt tg iter : Expr} {ifs : List Expr} {scope : Scope} {own : List (Str × Nat)} {vs : List Nat} {pos spos : Pos} {wi : TI} {g : TG} {tt : TT} {te : TE} (hv : own.map (·.2) = vs) (hc : X.calm = true) (hN : X.N.Nodup) (hy : X.N[i]? = some y) (hyl : X.env.scope.names.lookup y = some .local)
    (hsw : swapsWith (.ListComp elt [⟨tg, iter, ifs, 0⟩] scope pos) (some (.Name y py)) spos.line X.env = pure true) (hi : PI X tg iter wi) (ok : BlkOk X.N X.env.scope scope own)
    (hg : ∀ (s : Shared) (H : Hp) (C : Addr) (cl : List (Str × Addr)) (fp : List Addr), PG (X.blk s H scope (compEnvC scope cl C X.env) fp) tg g) (ht : ∀ (s : Shared) (H : Hp) (C : Addr) (cl : List (Str × Addr)) (fp : List Addr), PTs (X.blk s H scope (compEnvC scope cl C X.env) fp) ifs tt)
    (he : ∀ (s : Shared) (H : Hp) (C : Addr) (cl : List (Str × Addr)) (fp : List Addr), PE (X.blk s H scope (compEnvC scope cl C X.env) fp) elt te) (hs : ∀ x, foldedSetIterable iter X.env x = pure x := by intro _; rfl) :
    PS X (.Assign [.Name y py] (.ListComp elt [⟨tg, iter, ifs, 0⟩] scope pos) spos) (tAsg (tLc wi g tt te vs) (gName i)) := hv ▸ ps_setLc hc hN hy hyl hsw hi ok hg ht he hs
end
class NoSlot (σ : L2.St) (n : Nat) (τ : outParam L2.St) : Prop where
  set : σ.set n none = τ
instance i_no0 {σ : L2.St} {x : Option V} : NoSlot (x :: σ) 0 (none :: σ) := ⟨rfl⟩
instance i_noS {σ τ : L2.St} {n : Nat} {x : Option V} [h : NoSlot σ n τ] : NoSlot (x :: σ) (n + 1) (x :: τ) := ⟨by rw [List.set_cons_succ, h.set]⟩
class Wip (σ : L2.St) (vs : List Nat) (τ : outParam L2.St) : Prop where
  eq : wipe σ vs = τ
instance i_wip0 {σ : L2.St} : Wip σ [] σ := ⟨rfl⟩
instance i_wipS {σ τ υ : L2.St} {v : Nat} {vs : List Nat} [h : Wip σ vs τ] [k : NoSlot τ v υ] : Wip σ (v :: vs) υ := ⟨by show (wipe σ vs).set v none = υ; rw [h.eq, k.set]⟩
theorem lcW {J : It} {n : Nat} {it : Nat → V} {G : Hp → Prop} {H : Hp} {Q : VK} {σ τ : L2.St} {g : TG} {tt : TT} {te : TE} {vs : List Nat} (S : Src J n it G) [hw : Wip σ vs τ] (Pv : Addr → Nat → List V → Hp → Prop) (h0 : ∀ L, H L = none → Pv L 0 [] (upd H L (.lst [])))
    (hG : ∀ L i acc H', i ≤ n → Pv L i acc H' → G H')
    (hs : ∀ L i acc H', H L = none → i < n → H' L = some (.lst acc) → acc.length ≤ i → Pv L i acc H' →
      g (it i) τ H' fun σ2 H2 => wipe σ2 vs = τ ∧ tt σ2 H2 fun b H3 =>
        if b = true then te σ2 H3 fun y H4 => ∃ a, H4 L = some (.lst a) ∧ a.length < sizeLine ∧ LcN Pv L (i + 1) (upd H4 L (.lst (a ++ [y])))
        else LcN Pv L (i + 1) H3)
    (hd : ∀ L acc H', H L = none → H' L = some (.lst acc) → acc.length ≤ n → Pv L n acc H' → Q (.ref L) H') : LcW J g tt te vs σ Q H := by
  have hw := hw.eq
  subst hw
  exact lcG S Pv h0 hG hs hd
theorem strip_iff (x y : Str) : Txt.stripChars x y = "" ↔ ∀ c ∈ x.cps.toList, c ∈ y.cps.toList := by
  have hc : ∀ c, y.cps.contains c = true ↔ c ∈ y.cps.toList := fun c => by simp
  unfold Txt.stripChars
  rw [PyProof.Rows.stripBy_eq]
  obtain ⟨l1, l2, l3⟩ := lo_facts y.cps.contains x
  obtain ⟨h1, h2, h3, h4⟩ := hi_facts y.cps.contains x _ l1
  generalize stripLo y.cps.contains true x = lo at *
  generalize stripHi y.cps.contains true x lo = hi at *
  have hn : x.length = x.cps.toList.length := by simp [Str.length]
  constructor
  · intro e c hcx
    have e2 : (PySem.Builtin.Str.strSub x lo hi).length = 0 := by rw [e]; rfl
    have e3 : (PySem.Builtin.Str.strSub x lo hi).length = min hi x.length - lo := by
      show (x.cps.extract lo hi).size = _
      simp [Str.length]
    obtain ⟨k, hk, rfl⟩ := List.mem_iff_getElem.mp hcx
    rw [← hc]
    have gk : x.cps.getD k 0 = x.cps.toList[k] := by simp [Array.getD, show k < x.cps.size by simpa using hk]
    rw [← gk]
    rcases Nat.lt_or_ge k lo with q | q
    · exact l2 k q
    · exact h3 k (by omega) (by omega)
  · intro e
    have el : lo = x.length := by
      rcases l3 with q | q
      · exact q
      · rcases Nat.lt_or_ge lo x.cps.toList.length with z | z
        · have gk : x.cps.getD lo 0 = x.cps.toList[lo] := by simp [Array.getD, show lo < x.cps.size by simpa using z]
          rw [gk, (hc _).mpr (e _ (List.getElem_mem z))] at q
          cases q
        · omega
    have eh : hi = x.length := by omega
    rw [el, eh]
    show (⟨x.cps.extract x.cps.size x.cps.size⟩ : Str) = _
    rw [Array.extract_eq_empty_of_le (by simp)]
    rfl
theorem strip_all (x y : Str) : decide (V.str (Txt.stripChars x y) = V.str "") = x.cps.toList.all (fun c => decide (c ∈ y.cps.toList)) := by
  rw [Bool.eq_iff_iff, decide_eq_true_iff, List.all_eq_true]
  constructor
  · intro h c hc
    exact decide_eq_true ((strip_iff x y).mp (V.str.inj h) c hc)
  · intro h
    rw [(strip_iff x y).mpr fun c hc => of_decide_eq_true (h c hc)]
instance z_ixS {K : PySem.W.Frag} {a : Str} {i : Int} {H : Hp} {Q : VK} : StepZ (rIxM K (.str a) (.int i) H Q) (a.length ≤ sizeLine) (∃ n, atI a.cps.toList i = some n ∧ Q (.str ⟨#[n]⟩) H) :=
  ⟨fun hz ⟨n, e, k⟩ => g_ixS hz e k⟩
theorem atS {a : Str} {i : Int} (h0 : 0 ≤ i) (h1 : i < a.length) : ∃ n, atI a.cps.toList i = some n := by
  obtain ⟨n, e, _⟩ := atI_int (xs := a.cps.toList) (i := i) h0 (by simpa [Str.length] using h1)
  exact ⟨n, e⟩
theorem one_len (n : Nat) : (⟨#[n]⟩ : Str).length = 1 := rfl
theorem join_ones (l : List Str) (h : ∀ a ∈ l, a.length = 1) : (Txt.join "" l).length = l.length := PySem.W.KT.join_ones l h
theorem lc_put {Pv : Addr → Nat → List V → Hp → Prop} {L : Addr} {i : Nat} {acc : List V} {y : V} {H4 : Hp} (hl : acc.length ≤ i) (hi : i < 16777216)
    (p : Pv L (i + 1) (acc ++ [y]) (upd H4 L (.lst (acc ++ [y])))) : acc.length < sizeLine ∧ LcN Pv L (i + 1) (upd H4 L (.lst (acc ++ [y]))) :=
  ⟨by rw [szl]; omega, acc ++ [y], upd_same, by rw [List.length_append, List.length_singleton]; omega, p⟩
theorem lc_end {Pv : Addr → Nat → List V → Hp → Prop} {L : Addr} {i : Nat} {acc : List V} {y : V} {H4 : Hp} (hl : acc.length ≤ i)
    (p : Pv L (i + 1) (acc ++ [y]) (upd H4 L (.lst (acc ++ [y])))) : LcN Pv L (i + 1) (upd H4 L (.lst (acc ++ [y]))) :=
  ⟨acc ++ [y], upd_same, by rw [List.length_append, List.length_singleton]; omega, p⟩
theorem reprB {K : PySem.W.Frag} {b : Bool} {H : Hp} {Q : VK} (k : Q (.str (PyData.bool b).shown) H) : rRepr K [.bl b] H Q :=
  g_repr (.bl b) (by simp [PyData.showable]) (by simp [PyData.depth]) (by rw [szl]; simp only [PyData.shown]; cases b <;> decide) k
instance i_reprB {K : PySem.W.Frag} {b : Bool} {H : Hp} {Q : VK} : Step (rRepr K [.bl b] H Q) (Q (.str (PyData.bool b).shown) H) := ⟨fun k => reprB k⟩
instance (priority := 2000) i_neSame {K : PySem.W.Frag} {a : Str} {H : Hp} {Q : VK} : Step (rNeM K (.str a) (.str a) H Q) (Q (.bl false) H) := ⟨fun k => g_ne rfl (by simpa using k)⟩
theorem take_map1 {α β : Type} (f : α → β) {xs : List α} {i : Nat} (h : i < xs.length) : (xs.take (i + 1)).map f = (xs.take i).map f ++ [f xs[i]] := by
  rw [List.take_add_one, List.getElem?_eq_getElem h, List.map_append]
  rfl
theorem Mx.atL {H H' : Hp} {a : Addr} {xs : List V} (e : Mx H H') (h : H a = some (.lst xs)) : H' a = some (.lst xs) := e a _ h rfl
theorem Mx.atT {H H' : Hp} {a : Addr} {xs : List V} (e : Mx H H') (h : H a = some (.tup xs)) : H' a = some (.tup xs) := e a _ h rfl
theorem Mx.atD {H H' : Hp} {a : Addr} {xs : List (Key × V)} (e : Mx H H') (h : H a = some (.dK xs)) : H' a = some (.dK xs) := e a _ h rfl
/-! ### a law's draws -/
structure PotOk (n : Nat) (a b c : Int) : Prop where
  a0 : 0 ≤ a
  b0 : 0 ≤ b
  b1 : b < 2305843009213693952
  c0 : 0 ≤ c
  c1 : c ≤ n
theorem cmn {i j : Int} (h1 : 0 ≤ i) (h2 : i < 2 ^ 200) (h3 : 0 ≤ j) (h4 : j < 2 ^ 200) : CMulW i j :=
  wide_mul (a := 200) (b := 200) (by omega) (by omega) (by decide) (by decide) (by decide)
theorem mulB {i j A B : Int} (h1 : 0 ≤ i) (h2 : i < A) (h3 : 0 ≤ j) (h4 : j < B) : 0 ≤ i * j ∧ i * j < A * B :=
  ⟨Int.mul_nonneg h1 h3, Int.lt_of_le_of_lt (Int.mul_le_mul_of_nonneg_left (Int.le_of_lt h4) h1) (Int.mul_lt_mul_of_pos_right h2 (by omega))⟩
def R_draw0 : V → V → Hp → VK → Prop := fun x y H Q => ∃ (p : Addr) (k a b c : Int) (n : Nat), x = .ref p ∧ y = .int k ∧
  H p = some (.lst [.int a, .int b, .int c]) ∧ PotOk n a b c ∧ 1 ≤ k ∧ k < 1073741824 ∧ n ≤ 1000000000 ∧
  ∀ r a' b' c' : Int, 0 ≤ r → r < k → PotOk (n + 1) a' b' c' → Q (.int r) (upd H p (.lst [.int a', .int b', .int c']))
def PotR (n : Nat) : HO → Prop := fun u => ∃ a b c : Int, u = .lst [.int a, .int b, .int c] ∧ PotOk n a b c
abbrev PotO (P : Program) (w : World) (n : Nat) (z : Addr) : HO := AbsO P w (PotR n) z
def R_draw (P : Program) (w : World) : V → V → Hp → VK → Prop := fun x y H Q => ∃ (p : Addr) (k : Int) (n : Nat), x = .ref p ∧ y = .int k ∧
  H p = some (PotO P w n p) ∧ 1 ≤ k ∧ k < 1073741824 ∧ n ≤ 1000000000 ∧
  ∀ (r : Int) (H' : Hp), 0 ≤ r → r < k → Mx H H' → H' p = some (PotO P w (n + 1) p) → Q (.int r) H'
theorem g_draw {P : Program} {w : World} {p : Addr} {k : Int} {n : Nat} {H : Hp} {Q : VK} (hp : H p = some (PotO P w n p)) (k1 : 1 ≤ k) (k2 : k < 1073741824) (hn : n ≤ 1000000000)
    (q : ∀ (r : Int) (H' : Hp), 0 ≤ r → r < k → Mx H H' → H' p = some (PotO P w (n + 1) p) → Q (.int r) H') : R_draw P w (.ref p) (.int k) H Q :=
  ⟨p, k, n, rfl, rfl, hp, k1, k2, hn, q⟩
def R_begin0 (K : PySem.W.Frag) : V → V → Hp → VK → Prop := fun x y H Q => ∃ (s : Addr) (ns : List Int) (k : Nat), x = .ref s ∧ y = .int k ∧
  SqL K H s (ns.map V.int) ∧ k ≤ 1000 ∧ ns.length ≤ 1000 ∧
  ∀ (p : Addr) (H' : Hp) (a b : Int), H p = none → Same H H' → H' p = some (.lst [.int a, .int b, .int 0]) → PotOk 0 a b 0 → Q (.ref p) H'
def R_begin (P : Program) (w : World) (K : PySem.W.Frag) : V → V → Hp → VK → Prop := fun x y H Q => ∃ (s : Addr) (ns : List Int) (k : Nat), x = .ref s ∧ y = .int k ∧
  SqL K H s (ns.map V.int) ∧ k ≤ 1000 ∧ ns.length ≤ 1000 ∧
  ∀ (p : Addr) (H' : Hp), H p = none → Same H H' → H' p = some (PotO P w 0 p) → Q (.ref p) H'
theorem g_begin {P : Program} {w : World} {K : PySem.W.Frag} {s : Addr} {ns : List Int} {k : Nat} {H : Hp} {Q : VK} (hS : SqL K H s (ns.map V.int)) (hk : k ≤ 1000) (hn : ns.length ≤ 1000)
    (q : ∀ (p : Addr) (H' : Hp), H p = none → Same H H' → H' p = some (PotO P w 0 p) → Q (.ref p) H') : R_begin P w K (.ref s) (.int k) H Q :=
  ⟨s, ns, k, rfl, rfl, hS, hk, hn, q⟩
/-- a text that is no longer than a text may be -/
def smallD : PyData → Prop
  | .str s => s.length ≤ 16777216
  | _ => True
/-! ### texts of signs that repr shows -/
def Asc (z : Str) : Prop := ∀ c ∈ z.cps.toList, c < 16 ^ 8
theorem asc_app {a b : Str} (h1 : Asc a) (h2 : Asc b) : Asc (a ++ b) := by
  intro c hc
  rw [show (a ++ b).cps.toList = a.cps.toList ++ b.cps.toList from Array.toList_append] at hc
  rcases List.mem_append.mp hc with h | h
  · exact h1 c h
  · exact h2 c h
theorem chr_lt (c : Char) : c.toNat < 16 ^ 8 := c.val.toNat_lt
theorem asc_of (s : String) : Asc (Str.ofString s) := by
  intro c hc
  rw [Str.ofString_eq_toList] at hc
  have hc : c ∈ (s.toList.map Char.toNat).toArray.toList := hc
  rw [List.toList_toArray] at hc
  obtain ⟨d, _, rfl⟩ := List.mem_map.mp hc
  exact chr_lt d
theorem reprChar_lt {q c : Nat} (hq : q < 16 ^ 8) (hc : c < 16 ^ 8) : ∀ d ∈ PySem.Builtin.Str.reprChar q c, d < 16 ^ 8 := by
  have hh : ∀ w, ∀ d ∈ List.replicate (w - ((Nat.toDigits 16 c).map Char.toNat).length) 48 ++ (Nat.toDigits 16 c).map Char.toNat, d < 16 ^ 8 := by
    intro w d hd
    rcases List.mem_append.mp hd with h | h
    · rw [List.eq_of_mem_replicate h]; decide
    · obtain ⟨e, _, rfl⟩ := List.mem_map.mp h
      exact chr_lt e
  have two : ∀ a b : Nat, a < 16 ^ 8 → b < 16 ^ 8 → ∀ d ∈ [a, b], d < 16 ^ 8 := by
    intro a b ha hb d hd
    rcases List.mem_cons.mp hd with h | h
    · rw [h]; exact ha
    · rw [List.mem_singleton.mp h]; exact hb
  have cat : ∀ (l m : List Nat), (∀ d ∈ l, d < 16 ^ 8) → (∀ d ∈ m, d < 16 ^ 8) → ∀ d ∈ l ++ m, d < 16 ^ 8 := fun l m h1 h2 d hd => (List.mem_append.mp hd).elim (h1 d) (h2 d)
  unfold PySem.Builtin.Str.reprChar
  dsimp only
  repeat' split
  · exact two _ _ (by decide) hc
  · exact two _ _ (by decide) (by decide)
  · exact two _ _ (by decide) (by decide)
  · exact two _ _ (by decide) (by decide)
  · intro d hd; rw [List.mem_singleton.mp hd]; exact hc
  · exact cat _ _ (two _ _ (by decide) (by decide)) (hh 2)
  · exact cat _ _ (two _ _ (by decide) (by decide)) (hh 4)
  · exact cat _ _ (two _ _ (by decide) (by decide)) (hh 8)
theorem foldl_repr_lt {q : Nat} (hq : q < 16 ^ 8) : ∀ (l : List Nat) (acc : Array Nat), (∀ d ∈ acc.toList, d < 16 ^ 8) → (∀ c ∈ l, c < 16 ^ 8) →
    ∀ d ∈ (l.foldl (fun out c => out ++ (PySem.Builtin.Str.reprChar q c).toArray) acc).toList, d < 16 ^ 8
  | [], acc, h, _ => h
  | c :: r, acc, h, k => by
    refine foldl_repr_lt hq r _ (fun d hd => ?_) (fun c hc => k c (List.mem_cons_of_mem _ hc))
    rw [Array.toList_append] at hd
    rcases List.mem_append.mp hd with z | z
    · exact h d z
    · exact reprChar_lt hq (k c List.mem_cons_self) d z
theorem asc_repr {x : Str} (h : Asc x) : Asc (PyData.str x).shown := by
  simp only [PyData.shown]
  unfold reprText
  have hq : reprQuote x < 16 ^ 8 := by unfold reprQuote; split <;> decide
  intro d hd
  have hd : d ∈ ((x.cps.foldl (fun out c => out ++ (PySem.Builtin.Str.reprChar (reprQuote x) c).toArray) #[reprQuote x]).push (reprQuote x)).toList := hd
  rw [Array.toList_push, ← Array.foldl_toList] at hd
  rcases List.mem_append.mp hd with z | z
  · exact foldl_repr_lt hq _ _ (fun d hd => by rw [List.mem_singleton.mp hd]; exact hq) h d z
  · rw [List.mem_singleton.mp z]; exact hq
/-! ### things of any kind -/
structure GoodD (k : Nat) (d : PyData) : Prop where
  sh : d.showable = true
  dp : d.depth ≤ k
  ln : d.shown.length ≤ 50000 + 4 * k
  sm : smallD d
  as : Asc d.shown
theorem GoodD.mono {k j : Nat} {d : PyData} (g : GoodD k d) (h : k ≤ j) : GoodD j d := ⟨g.sh, Nat.le_trans g.dp h, by have := g.ln; omega, g.sm, g.as⟩
theorem good_tup1 {k : Nat} {d : PyData} (g : GoodD k d) : GoodD (k + 1) (.tuple [d]) := by
  obtain ⟨h1, h2, h3, h4, h5⟩ := g
  refine ⟨by simp [PyData.showable, PyData.showableAll, h1], by simp [PyData.depth, PyData.depthAll]; omega, ?_, True.intro, by
    simp only [PyData.shown, PyData.shownAll]
    show Asc (("(" : Str) ++ d.shown ++ (",)" : Str))
    exact asc_app (asc_app (asc_of _) h5) (asc_of _)⟩
  have : (PyData.tuple [d]).shown.length = d.shown.length + 3 := by
    simp only [PyData.shown, PyData.shownAll]
    show (("(" : Str) ++ d.shown ++ (",)" : Str)).length = d.shown.length + 3
    rw [strLen_append, strLen_append, show ("(" : Str).length = 1 from rfl, show (",)" : Str).length = 2 from rfl]
    omega
  omega
theorem good_lst1 {k : Nat} {d : PyData} (g : GoodD k d) : GoodD (k + 1) (.list [d]) := by
  obtain ⟨h1, h2, h3, h4, h5⟩ := g
  refine ⟨by simp [PyData.showable, PyData.showableAll, h1], by simp [PyData.depth, PyData.depthAll]; omega, ?_, True.intro, by
    simp only [PyData.shown, PyData.shownAll]
    show Asc (("[" : Str) ++ ("" : Str) ++ d.shown ++ ("]" : Str))
    exact asc_app (asc_app (asc_app (asc_of _) (asc_of _)) h5) (asc_of _)⟩
  have : (PyData.list [d]).shown.length = d.shown.length + 2 := by
    simp only [PyData.shown, PyData.shownAll]
    show (("[" : Str) ++ ("" : Str) ++ d.shown ++ ("]" : Str)).length = d.shown.length + 2
    rw [strLen_append, strLen_append, strLen_append, show ("[" : Str).length = 1 from rfl, show ("" : Str).length = 0 from rfl, show ("]" : Str).length = 1 from rfl]
    omega
  omega
theorem good_small {d : PyData} (h1 : d.showable = true) (h2 : d.depth ≤ 0) (h3 : d.shown.length ≤ 50000) (h4 : smallD d) (h5 : Asc d.shown) : GoodD 0 d := ⟨h1, h2, by omega, h4, h5⟩
theorem good_non : GoodD 0 .none := ⟨by simp [PyData.showable], by simp [PyData.depth], by simp only [PyData.shown]; decide, True.intro, by simp only [PyData.shown]; exact asc_of _⟩
theorem good_bl (b : Bool) : GoodD 0 (.bool b) := ⟨by simp [PyData.showable], by simp [PyData.depth], by simp only [PyData.shown]; cases b <;> decide, True.intro, by simp only [PyData.shown]; cases b <;> exact asc_of _⟩
theorem good_int {i : Int} (h : i.natAbs.log2 < 1900) : GoodD 0 (.int i) := by
  refine ⟨by simp [PyData.showable]; omega, by simp [PyData.depth], ?_, True.intro, by simp only [PyData.shown]; exact asc_of _⟩
  have := int_text_length_le (k := 1900) (by decide) h
  simp only [PyData.shown]
  rw [PySem.ofString_length]
  omega
theorem good_str {x : Str} (hx : ∀ c ∈ x.cps.toList, c < 16 ^ 8) (hl : x.length ≤ 4990) : GoodD 0 (.str x) := by
  have := StrLaws.reprText_len x hx
  refine ⟨by simp [PyData.showable], by simp [PyData.depth], ?_, show x.length ≤ 16777216 by omega, asc_repr hx⟩
  simp only [PyData.shown]
  omega
theorem good_nilT : GoodD 1 (.tuple []) := ⟨by simp [PyData.showable, PyData.showableAll], by simp [PyData.depth, PyData.depthAll], by simp only [PyData.shown, PyData.shownAll]; decide, True.intro, by simp only [PyData.shown, PyData.shownAll]; unfold Asc; decide +kernel⟩
theorem good_nilL : GoodD 1 (.list []) := ⟨by simp [PyData.showable, PyData.showableAll], by simp [PyData.depth, PyData.depthAll], by simp only [PyData.shown, PyData.shownAll]; decide, True.intro, by simp only [PyData.shown, PyData.shownAll]; unfold Asc; decide +kernel⟩
theorem good_nilM : GoodD 1 (.dict []) := ⟨by simp [PyData.showable, PyData.showableKv], by simp [PyData.depth, PyData.depthKv], by simp only [PyData.shown, PyData.shownKv]; decide, True.intro, by simp only [PyData.shown, PyData.shownKv]; unfold Asc; decide +kernel⟩
theorem foldl_rep (c : Nat) : ∀ (n : Nat) (acc : Array Nat), ((List.replicate n #[c]).foldl (· ++ ·) acc).toList = acc.toList ++ List.replicate n c
  | 0, acc => by simp
  | n + 1, acc => by
    rw [List.replicate_succ, List.foldl_cons, foldl_rep c n]
    simp [List.replicate_succ]
theorem mul9_cps : (Txt.mul "9" 4301).cps.toList = List.replicate 4301 57 := by
  have e : Txt.mul "9" 4301 = ⟨(List.replicate 4301 #[57]).foldl (· ++ ·) #[]⟩ := rfl
  rw [e]
  exact foldl_rep 57 4301 #[]
theorem mul9_len : (Txt.mul "9" 4301).length = 4301 := by
  show (Txt.mul "9" 4301).cps.size = 4301
  rw [← Array.length_toList, mul9_cps, List.length_replicate]
theorem good_mul9 : GoodD 0 (.str (Txt.mul "9" 4301)) := by
  refine good_str (fun c hc => ?_) (by rw [mul9_len]; decide)
  rw [mul9_cps] at hc
  rw [List.eq_of_mem_replicate hc]
  decide
theorem mul9 : MulOk "9" 4301 := ⟨by decide, fun _ _ => by decide, fun _ _ => by decide⟩

/-! ### what the top has left -/
theorem kt_mk {K : PySem.W.Frag} {a : Addr} {od : Option Addr} {its : Array Value} {n : Nat} {sl : Array (Option Value)} {xs : List V}
    (h : K.lookup a = some ⟨.type "tuple", od, .seq its n, sl⟩) (hz : its.size ≤ sizeLine) (hv : Vals xs its.toList) : Kt K a xs := ⟨_, its, n, h, rfl, rfl, hz, hv⟩
theorem df_mk {K : PySem.W.Frag} {x qual : Str} {st : Stmt} {f : Addr} {oc : Value} {od : Option Addr} {dV kV doc pm : Value} {an : Option Addr} {cdv ct : Value} {sl : Array (Option Value)}
    (l : K.lookup f = some ⟨oc, od, .func (PySem.W.fnOf x qual (defArgs st) (defBody st) (defScope st) dV kV doc pm an cdv ct), sl⟩) (c : PySem.W.codeIn K cdv qual = true) :
    Df K x qual st f (PySem.W.fnOf x qual (defArgs st) (defBody st) (defScope st) dV kV doc pm an cdv ct) := ⟨oc, od, dV, kV, doc, pm, an, cdv, ct, sl, rfl, l, c⟩
theorem Df.pos {K : PySem.W.Frag} {x qual : Str} {st : Stmt} {f : Addr} {fd : FuncData} {ps : List Str} {n : Nat} (F : Df K x qual st f fd)
    (h : ∀ (dV kV doc pm : Value) (an : Option Addr) (cdv ct : Value) (us : List Value), us.length = n →
      bindArgs (PySem.W.fnOf x qual (defArgs st) (defBody st) (defScope st) dV kV doc pm an cdv ct) ⟨us, []⟩ = pure (ps.zip us)) :
    ∀ us : List Value, us.length = n → bindArgs fd ⟨us, []⟩ = pure (ps.zip us) := by
  obtain ⟨oc, od, dV, kV, doc, pm, an, cdv, ct, sl, rfl, _, _⟩ := F.ex
  exact h dV kV doc pm an cdv ct
theorem kn_mk {P : Program} {w : World} {K : PySem.W.Frag} {h base : Heap} {mg : Str → Option Value} {CX : CXT} {k n : Nat} {f : Addr} {fd : FuncData} {ps : List Str} {sp : Sp} {x : Str}
    (ok : FnG P w K mg base CX k f fd ps sp) (g : mg x = some (.ref f)) (kp : PySem.W.keepIn K (.ref f) = true)
    (hb : ∀ us : List Value, us.length = n → bindArgs fd ⟨us, []⟩ = pure (ps.zip us)) : Kn P w K mg base CX x k n [] (fun vs _ => vs) sp := ⟨f, fd, ps, _, ok, g, kp, kb_pos hb⟩

/-! ### names -/
abbrev lettersT : Str := "abcdefghijklmnopqrstuvwxyz"
def keptT : List Str := ["pin", "again", "move", "take", "tear", "at", "to", "until", "strips", "known"]
def keptV : List V := keptT.map V.str
theorem keptV_flat : keptV.all flatV = true := by decide +kernel
def isNameS (s : Str) : Bool := decide (1 ≤ (s.length : Int)) && decide ((s.length : Int) ≤ 8) && decide (V.str (Txt.stripChars s lettersT) = V.str "") && !inV (.str s) keptV
def isNameB : PyData → Bool
  | .str s => isNameS s
  | _ => false
def R_is_name (K : PySem.W.Frag) : V → Hp → VK → Prop := fun x H Q => ∃ d, Da K H x d ∧ smallD d ∧ Q (.bl (isNameB d)) H
end L2.Pc

namespace L2.Pc
open PySem PySem.Spec PyProof.Rows

/-! ### promises that tell of exceptions too -/
def SpX1 (R : V → Hp → VK → XK → Prop) : Sp := fun vs H Q E => ∃ x, vs = [x] ∧ R x H Q E
def SpX2 (R : V → V → Hp → VK → XK → Prop) : Sp := fun vs H Q E => ∃ x y, vs = [x, y] ∧ R x y H Q E
def SpX3 (R : V → V → V → Hp → VK → XK → Prop) : Sp := fun vs H Q E => ∃ x y z, vs = [x, y, z] ∧ R x y z H Q E
def SpX4 (R : V → V → V → V → Hp → VK → XK → Prop) : Sp := fun vs H Q E => ∃ x y z u, vs = [x, y, z, u] ∧ R x y z u H Q E
def SpX5 (R : V → V → V → V → V → Hp → VK → XK → Prop) : Sp := fun vs H Q E => ∃ x y z u t, vs = [x, y, z, u, t] ∧ R x y z u t H Q E
def SpX6 (R : V → V → V → V → V → V → Hp → VK → XK → Prop) : Sp := fun vs H Q E => ∃ x y z u t r, vs = [x, y, z, u, t, r] ∧ R x y z u t r H Q E
section
variable {vs : List V} {H : Hp} {Q : VK} {E : XK} {x y z u t r : V}
theorem SpX1.len {R : V → Hp → VK → XK → Prop} (h : SpX1 R vs H Q E) : vs.length = 1 := by obtain ⟨x, rfl, _⟩ := h; rfl
theorem SpX2.len {R : V → V → Hp → VK → XK → Prop} (h : SpX2 R vs H Q E) : vs.length = 2 := by obtain ⟨x, y, rfl, _⟩ := h; rfl
theorem SpX3.len {R : V → V → V → Hp → VK → XK → Prop} (h : SpX3 R vs H Q E) : vs.length = 3 := by obtain ⟨x, y, z, rfl, _⟩ := h; rfl
theorem SpX4.len {R : V → V → V → V → Hp → VK → XK → Prop} (h : SpX4 R vs H Q E) : vs.length = 4 := by obtain ⟨x, y, z, u, rfl, _⟩ := h; rfl
theorem SpX5.len {R : V → V → V → V → V → Hp → VK → XK → Prop} (h : SpX5 R vs H Q E) : vs.length = 5 := by obtain ⟨x, y, z, u, t, rfl, _⟩ := h; rfl
theorem SpX6.len {R : V → V → V → V → V → V → Hp → VK → XK → Prop} (h : SpX6 R vs H Q E) : vs.length = 6 := by obtain ⟨x, y, z, u, t, r, rfl, _⟩ := h; rfl
instance i_callX1 {R : V → Hp → VK → XK → Prop} : Step ([x].length = 1 ∧ ([] : List V).length = 0 ∧ SpX1 R [x] H Q E) (R x H Q E) := ⟨fun k => ⟨rfl, rfl, x, rfl, k⟩⟩
instance i_callX2 {R : V → V → Hp → VK → XK → Prop} : Step ([x, y].length = 2 ∧ ([] : List V).length = 0 ∧ SpX2 R [x, y] H Q E) (R x y H Q E) := ⟨fun k => ⟨rfl, rfl, x, y, rfl, k⟩⟩
instance i_callX3 {R : V → V → V → Hp → VK → XK → Prop} : Step ([x, y, z].length = 3 ∧ ([] : List V).length = 0 ∧ SpX3 R [x, y, z] H Q E) (R x y z H Q E) := ⟨fun k => ⟨rfl, rfl, x, y, z, rfl, k⟩⟩
instance i_callX4 {R : V → V → V → V → Hp → VK → XK → Prop} : Step ([x, y, z, u].length = 4 ∧ ([] : List V).length = 0 ∧ SpX4 R [x, y, z, u] H Q E) (R x y z u H Q E) := ⟨fun k => ⟨rfl, rfl, x, y, z, u, rfl, k⟩⟩
end

/-! ### calls of defs that may raise -/
section
variable {X : Cx} {CX : CXT} {k n : Nat} {ks : List Str} {gV : List V → List V → List V} {sp : Sp} {E : L2.St → XK} {x : Str}
  {p pos : Pos} {e : Expr} {es : List Expr} {kws : List Keyword} {t tk : TA}
def tKnS (n m : Nat) (gV : List V → List V → List V) (sp : Sp) (E : L2.St → XK) (t tk : TA) : TE := fun σ H Q =>
  t σ H fun vs H1 => tk σ H1 fun zs H2 => vs.length = n ∧ zs.length = m ∧ sp (gV vs zs) H2 Q (E σ)
instance i_knS {σ : L2.St} {H : Hp} {Q : VK} {m : Nat} {ts tk : TA} : Step (tKnS n m gV sp E ts tk σ H Q) (ts σ H fun vs H1 => tk σ H1 fun zs H2 => vs.length = n ∧ zs.length = m ∧ sp (gV vs zs) H2 Q (E σ)) := ⟨fun k => k⟩
theorem runGS {pins : List (Addr × Obj)} {σ : L2.St} {H : Hp} {s : Shared} {Q : VK} {us ws : List Value} {vs zs : List V}
    {f : Addr} {fd : FuncData} {ps : List Str} {g : List Value → List Value → List Value}
    (F : FnG X.prog X.w X.K X.mg X.base CX k f fd ps sp) (hga : X.A.guards = some []) (hr : Room k X.A)
    (hb : KBn X.K fd ps n ks g gV) (hx : ∀ σ, PassesAt CX X σ (E σ)) (I : Inv X pins σ H s) (r : Vals vs us) (rz : Vals zs ws)
    (hn : vs.length = n) (hm : zs.length = ks.length) (h : sp (gV vs zs) H Q (E σ)) :
    wpAny (model X.prog X.w) X.A (call (.ref f) us (ks.zip ws)) (EP X pins σ Q) X.xe s := by
  have hu : us.length = n := by rw [← r.length]; exact hn
  have hw : ws.length = ks.length := by rw [← rz.length]; exact hm
  apply wpAny_call
  refine codeAny_mono (F.go X.A X.stack s H _ (g us ws) (gV vs zs) Q (E σ) hga hr I.env0
    (hb.to s us ws I.kIn hu hw) (hb.rel r rz) h) ?_
  intro res s' hq
  cases res with
  | error er => exact hx σ pins H s er s' I hq
  | ok fl =>
    cases fl with
    | ret u => exact I.after hq
    | next => exact hq.elim
    | brk => exact hq.elim
    | cont => exact hq.elim
theorem pe_knS (F : Kn X.prog X.w X.K X.mg X.base CX x k n [] gV sp) (hga : X.A.guards = some []) (hr : Room k X.A)
    (hg : Gl X x) (hx : ∀ σ, PassesAt CX X σ (E σ)) (ha : PA X (e :: es) t)
    (hdb : (x == ("__debug__" : Str)) = false := by decide)
    (he : starEach (e :: es) X.env = (false, eval e X.env) :: starEach es X.env := by rfl)
    (hpl : (backTo pos (starEach es X.env)).any (·.1) = false := by rfl) :
    PE X (.Call (.Name x p) (e :: es) [] pos) (tKnS n 0 gV sp E t tNil) := by
  obtain ⟨f, fd, ps, g, G, hm, hk, hb⟩ := F.ex
  refine ⟨fun pins s σ H Q I h => wpAny_Call_Name_kw (ld_glob I hg hm ?_ hdb)⟩
  apply PySem.W.callWith_K (h₀ := X.base) I.ok.mod.kin hk ?_ he hpl
  refine thn (ha.run pos pins s σ H _ I h) ?_
  rintro us s1 ⟨vs, H1, I1, r, q1, q2, q⟩
  exact ⟨I1.kIn, runGS (ws := []) (zs := []) G hga hr hb hx I1 r .nil q1 q2 q⟩
end

/-! ### an own exception class with its own __init__ -/
/-- the class x stands at C, its __init__ at fI; fs: the fields -/
structure XcK (K : PySem.W.Frag) (mg : Str → Option Value) (x : Str) (C fI : Addr) (fs : List Str) : Prop where
  g : mg x = some (.ref C)
  oe : OexC K C
  xf : XfC K C
  iC : PySem.W.findIn K (.ref C) "__init__" = some (some (.ref fI))
  tI : PySem.W.typeIn K (.ref fI) = some (.type "function")
  no : ∀ f ∈ fs, PySem.W.findIn K (.ref C) f = some none
  me : PySem.W.exmOne K (.ref C) (.ref C) = some true
/-- the base class x, without own __init__ -/
structure XbK (K : PySem.W.Frag) (mg : Str → Option Value) (x : Str) (C : Addr) : Prop where
  g : mg x = some (.ref C)
  sp : PySem.W.specialIn K (.ref C) "__getattribute__" = some (some (.builtin "type.__getattribute__"))
  ty : PySem.W.typeIn K (.ref C) = some (.type "type")
  rd : PySem.W.readsIn K C (.type "type") = true
  fi : PySem.W.findCls K (.ref C) (.type "type") "__init__" = some (.val (.builtin "ValueError.__init__"))
section
variable {X : Cx} {o e : Expr} {es : List Expr} {to te : TE} {ta : TA} {f x : Str} {p p' p1 p2 pos : Pos} {C : Addr} {K : PySem.W.Frag}
/-- C.__init__(self, ..), C without own __init__ -/
theorem pe_cinit {pl : Sem Bool} (hK : X.K = K) (B : XbK K X.mg x C) (hg : Gl X x) (ha : PA X (e :: es) ta)
    (hc : eval (.Call (.Attribute (.Name x p1) "__init__" p2) (e :: es) [] pos) X.env = (do
      let ov ← eval (.Name x p1) X.env
      standAt p2.atName
      let (f, first) ← holding [ov] (getMethod ov "__init__" pl)
      callWith pos f first (backTo pos (starEach (e :: es) X.env)) (backToKw pos (keywordEach [] X.env))) := by rfl)
    (he : starEach (e :: es) X.env = (false, eval e X.env) :: starEach es X.env := by rfl) (hpl : (backTo pos (starEach es X.env)).any (·.1) = false := by rfl)
    (hdb : (x == ("__debug__" : Str)) = false := by decide) :
    PE X (.Call (.Attribute (.Name x p1) "__init__" p2) (e :: es) [] pos) (tVeI K ta) := by
  subst hK
  refine ⟨fun pins s σ H Q I h => ?_⟩
  refine PySem.W.methodCall_KW (ld_glob I hg B.g ?_ hdb) hc
  obtain ⟨m, fr⟩ := I.fr
  refine PySem.W.method_of_cls fr I.ok.mod.kin B.sp (PySem.W.cls_val fr I.ok.mod.kin B.ty B.rd B.fi (by rfl) ?_)
  show wpAny _ _ (callWith pos (Value.builtin "ValueError.__init__") [] (backTo pos (starEach (e :: es) X.env)) []) _ _ _
  refine PyProof.Rows.callWith_method1 (thn (ha.run pos pins _ σ H _ (I.tok _) h) fun us s1 ⟨vs, H1, I1, r1, a, C, ws, ev, hl, T, ea, q⟩ => ?_) he hpl
  subst ev
  cases r1 with
  | @cons _ u0 _ ur ra rw' =>
    obtain rfl : u0 = Value.ref a := ra
    have hlen : ur.length ≤ sizeLine := by
      rw [← Paired.length rw', sizeLine_eq]
      omega
    exact oinit_ok T I1 ea hlen fun s' J => ⟨.non, H1, J, rfl, q⟩
/-- C(e, ..) raised, C's own __init__ keeping sp -/
theorem pmk_oexG {fI : Addr} {fs : List Str} {k : Nat} {fd : FuncData} {ps : List Str} {sp : Sp} (T : XcK X.K X.mg x C fI fs)
    (F1 : FnG X.prog X.w X.K X.mg X.base CX0 k fI fd ps sp) (hga : X.A.guards = some []) (hr : Room (k + 1) X.A)
    (hb : ∀ us : List Value, us.length = ps.length → bindArgs fd ⟨us, []⟩ = pure (ps.zip us)) (hg : Gl X x) (ha : PA X (e :: es) ta)
    (hdb : (x == ("__debug__" : Str)) = false := by decide) (he : starEach (e :: es) X.env = (false, eval e X.env) :: starEach es X.env := by rfl) (hpl : (backTo pos (starEach es X.env)).any (·.1) = false := by rfl) :
    PMk X (.Call (.Name x p) (e :: es) [] pos) (tMkO C sp [] ta) := by
  intro pins s σ H Q I h
  obtain ⟨nm, q, N, bs, bm, sn, sub, ab, col, dd, k0, k1, k2, k3, k5, hC, hbm⟩ := T.oe.cls
  refine wpAny_Call_Name_kw (ld_glob I hg T.g ?_ hdb)
  refine PySem.W.callWith_K (h₀ := X.base) I.ok.mod.kin T.oe.kC (thn (ha.run pos pins s σ H _ I h) fun us s1 ⟨vs, H1, I1, r1, hz, q1⟩ => ⟨I1.kIn, ?_⟩) he hpl
  show wpAny _ _ (call (.ref C) us) _ _ _
  obtain ⟨hp, g, dr, tk, os⟩ := s1
  have hsz : hp.objs.size ≤ hp.objs.size + 1 := Nat.le_succ _
  have hn : H1 (hp.objs.size + 1) = none := I1.hok.fresh hsz
  have hq := q1 (hp.objs.size + 1) hn
  rw [List.append_nil] at hq
  have kk : ∀ b o, hp.get? b = some o → ((hp.push (PySem.W.kdv_tup us)).push (PySem.HandSPX.excO C hp.objs.size)).get? b = some o := fun b o e => Heap.get?_push_of_some _ (Heap.get?_push_of_some _ e)
  have hget : ((hp.push (PySem.W.kdv_tup us)).push (PySem.HandSPX.excO C hp.objs.size)).get? (hp.objs.size + 1) = some (PySem.HandSPX.excO C hp.objs.size) := by heap_get
  have I2 : Inv X pins σ (upd H1 (hp.objs.size + 1) (exo (hp.objs.size + 1) C none)) ⟨(hp.push (PySem.W.kdv_tup us)).push (PySem.HandSPX.excO C hp.objs.size), g, dr, tk, os⟩ :=
    I1.laid (t' := tk) (a := hp.objs.size + 1) (o := exo (hp.objs.size + 1) C none) (h' := (hp.push (PySem.W.kdv_tup us)).push (PySem.HandSPX.excO C hp.objs.size)) kk hsz (exo_ok hget)
  have r2 : Vals (V.ref (hp.objs.size + 1) :: vs) (Value.ref (hp.objs.size + 1) :: us) := .cons rfl r1
  have hl : (Value.ref (hp.objs.size + 1) :: us).length = ps.length := by
    have e := r2.length
    rw [F1.len _ _ _ _ hq] at e
    exact e.symm
  have hus : us.length ≤ sizeLine := by
    rw [← Paired.length r1, sizeLine_eq]
    omega
  refine wpAny_call (PySem.HandSPX.call_own F.excBase_ValueError (fun Y => PySem.HandSPX.refsVE_contains Y bm hbm) (I1.kIn _ _ hC) (PySem.W.looks_findIn I1.kIn T.iC) (fun self => PySem.W.bind_fn I1.kIn self T.tI) hus
    (codeAny_mono (F1.go _ X.stack _ _ ⟨Value.ref (hp.objs.size + 1) :: us, []⟩ (Value.ref (hp.objs.size + 1) :: us) _ _ (fun _ _ _ => False) hga (hr.make C us []) (I2.env0.make C us []) (.of_eq (hb _ hl)) r2 hq) fun r s' hq' => ?_))
  cases r with
  | error er => exact False.elim hq'
  | ok fl =>
    cases fl with
    | ret u =>
      obtain ⟨v, H2, os2, bare2, un2, hok2, rv, ev, d, fs, ea, ed, hd1, q2⟩ := hq'
      subst ev
      obtain ⟨h2, g2, d2, t2, os'⟩ := s'
      exact ⟨rv, mk_end (raises_own T.oe.exC T.oe.tyC) I1 hsz kk un2 hok2 os2 bare2 ea ed hd1 q2⟩
    | next => exact False.elim hq'
    | brk => exact False.elim hq'
    | cont => exact False.elim hq'
theorem ps_ostK (hK : X.K = K) (ho : PE X o to) (he : PE X e te) (hs : swapsWith e (some (.Attribute o f p')) pos.line X.env = pure false := by rfl) : PS X (.Assign [.Attribute o f p'] e pos) (tOst K f to te) := hK ▸ ps_ost ho he hs
end

/-! ### readings -/
/-- what an __init__ of one field promises -/
def R_exc1 (C : Addr) (f : Str) : V → V → Hp → VK → Prop := fun x y H Q => ∃ a, x = .ref a ∧ H a = some (exo a C none) ∧
  ∀ dx, H dx = none → dx ≠ a → Q .non (upd (upd H dx (exd dx [(f, y)])) a (exo a C (some dx)))
/-- a new exception of the class at C, its field -/
def NewX (C : Addr) (f : Str) (y : V) (H : Hp) (Q : XK) : Prop := ∀ d H2, H d = none → Same H H2 → H2 d = some (.xd [(f, y)]) → Q (.ref C) (some d) H2
/-- the leaf of C(e, ..) -/
def MkX (C : Addr) (sp : Sp) (H1 : Hp) (Q : XK) (vs : List V) : Prop := vs.length ≤ 1000 ∧ ∀ a, H1 a = none → sp (.ref a :: (vs ++ [])) (upd H1 a (exo a C none))
  (fun v H2 => v = .non ∧ ∃ (d : Addr) (fs : List (Str × V)), H2 a = some (exo a C (some d)) ∧ H2 d = some (exd d fs) ∧ H1 d = none ∧ Q (.ref C) (some d) (upd (del H2 a) d (.xd fs))) (fun _ _ _ => False)
theorem g_mkX {C : Addr} {f : Str} {H1 : Hp} {Q : XK} {y : V} (q : NewX C f y H1 Q) : MkX C (Sp2 (R_exc1 C f)) H1 Q [y] := by
  refine ⟨by simp, fun a na => ⟨_, y, rfl, a, rfl, upd_same, fun dx nd ne => ⟨rfl, dx, [(f, y)], upd_same, ?_, ?_, ?_⟩⟩⟩
  · rw [upd_ne ne, upd_same]
  · rw [upd_ne ne] at nd; exact nd
  · rw [upd_ne ne] at nd
    refine q dx _ nd (fun b o hb => ?_) upd_same
    have b1 : b ≠ dx := ne_of_none hb nd
    have b2 : b ≠ a := ne_of_none hb na
    rw [upd_ne b1, del_ne b2, upd_ne b2, upd_ne b1, upd_ne b2]
    exact hb
theorem g_newX {C : Addr} {f : Str} {y : V} {H : Hp} {Q : XK} (k : ∀ d H2, H d = none → Same H H2 → H2 d = some (.xd [(f, y)]) → Q (.ref C) (some d) H2) : NewX C f y H Q := k
section
variable {σ : L2.St} {H : Hp} {K : PySem.W.Frag} {C : Addr} {f : Str} {y : V}
instance i_mkO {sp : Sp} {ta : TA} {Q : XK} : Step (tMkO C sp [] ta σ H Q) (ta σ H fun vs H1 => MkX C sp H1 Q vs) := ⟨fun k => k⟩
instance i_mkX {Q : XK} : Step (MkX C (Sp2 (R_exc1 C f)) H Q [y]) (NewX C f y H Q) := ⟨g_mkX⟩
instance i_vei {ta : TA} {Q : VK} : Step (tVeI K ta σ H Q) (ta σ H fun vs H1 => ∃ (a C : Addr) (ws : List V), vs = .ref a :: ws ∧ ws.length ≤ 1000 ∧ OexC K C ∧ H1 a = some (exo a C none) ∧ Q .non H1) := ⟨fun k => k⟩
instance i_ost {to te : TE} {D : Ends} : Step (tOst K f to te D σ H) (te σ H fun y H1 => to σ H1 fun x H2 => ∃ a C : Addr, x = .ref a ∧ OexC K C ∧ PySem.W.findIn K (.ref C) f = some none ∧
  ((H2 a = some (exo a C none) ∧ ∀ dx, H2 dx = none → dx ≠ a → D.nx σ (upd (upd H2 dx (exd dx [(f, y)])) a (exo a C (some dx)))) ∨
    ∃ (dx : Addr) (fs : List (Str × V)), H2 a = some (exo a C (some dx)) ∧ H2 dx = some (exd dx fs) ∧ fs.length ≤ 900 ∧ D.nx σ (upd H2 dx (exd dx ((f, y) :: fs))))) := ⟨fun k => k⟩
/-- an exception caught by its class -/
theorem g_as {i : Nat} {ts : Addr → Value → Option Addr → TS} {Wout : WX} {D : Ends} {c cls : Value} {d : Option Addr} (me : PySem.W.exmOne K cls c = some true)
    (k : ∀ a, H a = none → ts a cls d { nx := fun σ' H' => D.nx (σ'.set i none) H', rt := D.rt, bk := fun σ' H' => D.bk (σ'.set i none) H', ct := fun σ' H' => D.ct (σ'.set i none) H' } (σ.set i (some (.ref a))) H) :
    wAs K c i ts Wout D cls d σ H := ⟨true, me, fun _ => k, fun z => by cases z⟩
/-- .. by another class: it goes on -/
theorem g_asOut {i : Nat} {ts : Addr → Value → Option Addr → TS} {Wout : WX} {D : Ends} {c cls : Value} {d : Option Addr} (me : PySem.W.exmOne K cls c = some false)
    (k : Wout cls d σ H) : wAs K c i ts Wout D cls d σ H := ⟨false, me, (fun z => absurd z (by decide)), fun _ => k⟩
theorem g_only {ts : Addr → Value → Option Addr → TS} {Wout : WX} {D : Ends} {c cls : Value} {d : Option Addr} (me : PySem.W.exmOne K cls c = some true)
    (k : ∀ a, H a = none → ts a cls d D σ H) : wOnly K c ts Wout D cls d σ H := ⟨true, me, fun _ => k, fun z => by cases z⟩
theorem g_onlyOut {ts : Addr → Value → Option Addr → TS} {Wout : WX} {D : Ends} {c cls : Value} {d : Option Addr} (me : PySem.W.exmOne K cls c = some false)
    (k : Wout cls d σ H) : wOnly K c ts Wout D cls d σ H := ⟨false, me, (fun z => absurd z (by decide)), fun _ => k⟩
end
/-- e.f in a suite, with a named K -/
theorem pe_xfK {X : Cx} {K : PySem.W.Frag} {a C : Addr} {oe : Obj} {cls : Value} {d : Option Addr} {pn : List (Addr × Obj)} {e : Expr} {te : TE} {pos : Pos} {n : Str} (hK : X.K = K) (T : XfC K C) (hno : PySem.W.findIn K (.ref C) n = some none)
    (hz : Zc cls d oe) (hf : ∃ vs, oe.data = .fields vs) (he : PE (X.suite a ((a, oe) :: pn)) e te) (hb : attributeBase e n X.env (eval e X.env) = eval e X.env := by rfl) :
    PE (X.suite a ((a, oe) :: pn)) (.Attribute e n pos) (tXf a cls d C n te) := by
  subst hK
  exact pe_xf T hno hz hf he hb
instance i_xf {a C : Addr} {cls : Value} {d : Option Addr} {f : Str} {te : TE} {σ : L2.St} {H : Hp} {Q : VK} : Step (tXf a cls d C f te σ H Q) (te σ H fun x H1 => x = .ref a ∧ cls = .ref C ∧ ∃ (dd : Addr) (fs : List (Str × V)) (v : V), d = some dd ∧ H1 dd = some (.xd fs) ∧ fs.lookup f = some v ∧ Q v H1) := ⟨fun k => k⟩

theorem exm_of {K : PySem.W.Frag} {C S : Addr} {b : Bool} (h1 : PySem.W.subIn K (.ref S) (.type "BaseException") = some true) (h2 : PySem.W.isClsIn K S = true) (h3 : PySem.W.typeIn K (.ref S) = some (.type "type")) (h4 : PySem.W.subIn K (.ref C) (.ref S) = some b) :
    PySem.W.exmOne K (.ref C) (.ref S) = some b := by
  have e1 : (PySem.W.subIn K (.ref S) (.type "BaseException") == some true) = true := by rw [h1] <;> rfl
  have e2 : ((PySem.W.clsIn K S).isSome && PySem.W.typeIn K (.ref S) == some (.type "type")) = true := by
    have h2' : (PySem.W.clsIn K S).isSome = true := h2
    rw [h2', h3] <;> rfl
  show (if (PySem.W.subIn K (.ref S) (.type "BaseException") == some true) = true then (if ((PySem.W.clsIn K S).isSome && PySem.W.typeIn K (.ref S) == some (.type "type")) = true then PySem.W.subIn K (.ref C) (.ref S) else none) else none) = some b
  rw [if_pos e1, if_pos e2]
  exact h4
theorem oexC_mk {K : PySem.W.Frag} {C N : Addr} {nm q : Str} {bs bm : List Value} {sn : List Str} {sub : List Value} {ab : Bool} {col : Option Bool} {dd : Option Addr} {k0 k1 k2 k3 k5 : Option Value}
    (l : K.lookup C = some (excClassObj nm q C N bs bm true sn sub ab col dd k0 k1 k2 k3 k5 "ValueError.__new__")) (r : PySem.HandSPX.refsVE bm = true)
    (sa : PySem.W.findIn K (.ref C) "__setattr__" = some (some (.builtin "object.__setattr__"))) (ex : PySem.W.subIn K (.ref C) (.type "BaseException") = some true)
    (ty : PySem.W.typeIn K (.ref C) = some (.type "type")) (kp : PySem.W.keepIn K (.ref C) = true) : OexC K C := ⟨⟨nm, q, N, bs, bm, sn, sub, ab, col, dd, k0, k1, k2, k3, k5, l, r⟩, sa, ex, ty, kp⟩

/-- an exception's __init__ as a promise -/
structure XiK (P : Program) (w : World) (K : PySem.W.Frag) (mg : Str → Option Value) (base : Heap) (fI : Addr) (k : Nat) (sp : Sp) : Prop where
  ex : ∃ (fd : FuncData) (ps : List Str), FnG P w K mg base CX0 k fI fd ps sp ∧ ∀ us : List Value, us.length = ps.length → bindArgs fd ⟨us, []⟩ = pure (ps.zip us)
theorem pmk_oexI {X : Cx} {e : Expr} {es : List Expr} {ta : TA} {x : Str} {p pos : Pos} {C fI : Addr} {fs : List Str} {k : Nat} {sp : Sp} (T : XcK X.K X.mg x C fI fs)
    (I : XiK X.prog X.w X.K X.mg X.base fI k sp) (hga : X.A.guards = some []) (hr : Room (k + 1) X.A) (hg : Gl X x) (ha : PA X (e :: es) ta)
    (hdb : (x == ("__debug__" : Str)) = false := by decide) (he : starEach (e :: es) X.env = (false, eval e X.env) :: starEach es X.env := by rfl) (hpl : (backTo pos (starEach es X.env)).any (·.1) = false := by rfl) :
    PMk X (.Call (.Name x p) (e :: es) [] pos) (tMkO C sp [] ta) := by
  obtain ⟨fd, ps, F, hb⟩ := I.ex
  exact pmk_oexG T F hga hr hb hg ha hdb he hpl
end L2.Pc

namespace L2.Pc
open PySem PySem.Spec PyProof.Rows

/-! ### texts further -/
section
variable {X : Cx}
def rStrM : List V → Hp → VK → Prop := fun xs H Q => (∃ i, xs = [.int i] ∧ i.natAbs.log2 < 1920 ∧ Q (.str (toString i)) H) ∨ ∃ a, xs = [.str a] ∧ Q (.str a) H
theorem call_strM : CallR X (.type "str") rStrM := by
  intro pins s σ H xs us Q I r h
  rcases h with h | h
  · exact call_str_int pins s σ H xs us Q I r h
  · exact SkE.call_str_str pins s σ H xs us Q I r h
def rZfill : V → List V → Hp → VK → Prop := fun x xs H Q => ∃ (a : Str) (i : Int), x = .str a ∧ xs = [.int i] ∧ PadOk i = true ∧ Q (.str (Txt.zfill a i)) H
theorem mt_zfillM : MtR X "str.zfill" rZfill := mt_zfill
def rPart : V → List V → Hp → VK → Prop := fun x xs H Q => ∃ a b, x = .str a ∧ xs = [.str b] ∧ (b.length == 0) = false ∧ a.length ≤ sizeLine ∧
  ∀ p, H p = none → Q (.ref p) (upd H p (.tup [.str (Txt.partition a b).1, .str (Txt.partition a b).2.1, .str (Txt.partition a b).2.2]))
theorem mt_partM : MtR X "str.partition" rPart := mt_partition
end
section
variable {σ : L2.St} {H : Hp} {Q : VK} {a b : Str} {i : Int}
instance z_strI : StepZ (rStrM [.int i] H Q) (i.natAbs.log2 < 1920) (Q (.str (toString i)) H) := ⟨fun h k => .inl ⟨i, rfl, h, k⟩⟩
instance i_strS : Step (rStrM [.str a] H Q) (Q (.str a) H) := ⟨fun k => .inr ⟨a, rfl, k⟩⟩
instance z_zfill : StepZ (rZfill (.str a) [.int i] H Q) (PadOk i = true) (Q (.str (Txt.zfill a i)) H) := ⟨fun h k => ⟨a, i, rfl, rfl, h, k⟩⟩
instance z_part : StepZ (rPart (.str a) [.str b] H Q) ((b.length == 0) = false ∧ a.length ≤ sizeLine) (NewO H (.tup [.str (Txt.partition a b).1, .str (Txt.partition a b).2.1, .str (Txt.partition a b).2.2]) Q) :=
  ⟨fun h k => ⟨a, b, rfl, rfl, h.1, h.2, k⟩⟩
end
/-- a[::-1] of a text: a text of signs of it, no longer -/
def tRevS (te : TE) : TE := fun σ H Q => te σ H fun x H1 => ∃ a, x = .str a ∧ a.length ≤ sizeLine ∧ ∀ z : Str, z.length ≤ a.length → (∀ c ∈ z.cps.toList, c ∈ a.cps.toList) → Q (.str z) H1
instance i_revS {te : TE} {σ : L2.St} {H : Hp} {Q : VK} : Step (tRevS te σ H Q) (te σ H fun x H1 => ∃ a, x = .str a ∧ a.length ≤ sizeLine ∧ ∀ z : Str, z.length ≤ a.length → (∀ c ∈ z.cps.toList, c ∈ a.cps.toList) → Q (.str z) H1) := ⟨fun k => k⟩
theorem sliceBy_mem (x : Str) (l u : Option (Int × Tok)) (st : Int × Tok) : ∀ c ∈ (Txt.sliceBy x l u st).cps.toList, c ∈ x.cps.toList := by
  intro c hc
  unfold Txt.sliceBy at hc
  split at hc
  · exact hc
  · rw [show ((⟨(List.filterMap (fun j => x.cps[j]?) (slicePicked x l u (some st))).toArray⟩ : Str).cps.toList) = List.filterMap (fun j => x.cps[j]?) (slicePicked x l u (some st)) from rfl] at hc
    obtain ⟨j, _, hj⟩ := List.mem_filterMap.mp hc
    have := Array.mem_of_getElem? hj
    exact Array.mem_toList_iff.mpr this
theorem pe_revS {X : Cx} {e : Expr} {te : TE} {k : Nat} {p1 p2 p3 pos : Pos} (he : PE X e te) : PE X (.Subscript e (.Slice none none (some (.UnaryOp .USub (.Constant (.int 1) k p1) p2)) p3) pos) (tRevS te) := by
  refine ⟨fun pins s σ H Q I h => ?_⟩
  refine Subscript_ (thn (he.run pins s σ H _ I h) fun v s1 ⟨x, H1, I1, r1, q1⟩ => ?_)
  obtain ⟨a, ex, hx, q⟩ := q1
  subst ex
  obtain ⟨t, rfl⟩ := r1
  have hst : PO X (some (.UnaryOp .USub (.Constant (.int 1) k p1) p2)) (tPart (tUn (rU fun i => .int (-i)) (tC (.int 1)))) := po_some (pe_un un_neg pe_int)
  refine wpAny_Slice (thn (po_none.run pins s1 σ H1 (fun o H2 => o = none ∧ H2 = H1) I1 ⟨rfl, rfl⟩) fun vl s2 ⟨l, H2, I2, pl, el, e2⟩ => ?_)
  subst el e2
  refine thn (po_none.run pins s2 σ H2 (fun o H3 => o = none ∧ H3 = H2) I2 ⟨rfl, rfl⟩) fun vu s3 ⟨u, H3, I3, pu, eu, e3⟩ => ?_
  subst eu e3
  refine thn (hst.run pins s3 σ H3 (fun o H4 => o = some (-1) ∧ H4 = H3) I3 ⟨1, rfl, -1, rfl, rfl, rfl⟩) fun vs s4 ⟨o, H4, I4, ps, eo, e4⟩ => ?_
  subst eo e4
  have I5 : Inv X pins σ H4 { s4 with heap := s4.heap.push { cls := .type "slice", data := .fields #[vl, vu, vs] } } := I4.kept (t' := s4.toks) fun b ob q => Heap.get?_push_of_some _ q
  cases pl
  cases pu
  obtain ⟨tk, rfl⟩ : ∃ tk, vs = .int (-1) tk := by cases ps; exact ⟨_, rfl⟩
  show wpAny (model X.prog X.w) X.A (subscriptTail e (.Slice none none (some (.UnaryOp .USub (.Constant (.int 1) k p1) p2)) p3) (.str a t) (.ref s4.heap.objs.size)) (EP X pins σ Q) X.xe { s4 with heap := s4.heap.push { cls := .type "slice", data := .fields #[.none, .none, .int (-1) tk] } }
  have z1 : ((Option.map (fun x => x.fst) (some ((-1 : Int), tk))).getD 1 == 0) = false := rfl
  have z2 : ((-1 : Int), tk).fst ≠ 0 := by show (-1 : Int) ≠ 0; decide
  refine tail_any (ops := [.ref s4.heap.objs.size, .str a t]) (typeIs_str _ _ _) F.slot_str_getitem.lookup ?_ (by with_unfolding_all rfl)
  refine wpAny_getItem_str_slice (l := none) (u := none) (st := some (-1, tk)) ⟨_, Heap.get?_push_size _ rfl, rfl, rfl⟩ z1
    (post_val_or_str ⟨Nat.le_trans (Txt.sliceBy_le a none none (-1, tk) z2) hx, fun t' c => ?_⟩)
  exact ⟨.str _, _, I5.tok _, ⟨_, rfl⟩, q _ (Txt.sliceBy_le a none none (-1, tk) z2) (sliceBy_mem a none none (-1, tk))⟩

/-! ### small numbers as texts -/
theorem log_small {i : Int} (h0 : 0 ≤ i) (h1 : i < 18446744073709551616) : i.natAbs.log2 < 1920 := by
  have : i.natAbs < 2 ^ 64 := by omega
  by_cases hz : i.natAbs = 0
  · rw [hz]; decide
  · exact Nat.lt_trans ((Nat.log2_lt hz).mpr this) (by decide)
theorem int_len {i : Int} (h0 : 0 ≤ i) (h1 : i < 18446744073709551616) : (toString i : Str).length ≤ 65 := by
  have h2 : i.natAbs.log2 < 64 := by
    have : i.natAbs < 2 ^ 64 := by omega
    by_cases hz : i.natAbs = 0
    · rw [hz]; decide
    · exact (Nat.log2_lt hz).mpr this
  have := int_text_length_le (k := 64) (by decide) h2
  show (Str.ofString (toString i)).length ≤ 65
  rw [PySem.ofString_length]
  exact this
def figS (d : Int) : Str := ⟨#[("0123456789" : Str).cps.toList.getD d.toNat 0]⟩
theorem atFig {d : Int} (h0 : 0 ≤ d) (h1 : d < 10) : atI ("0123456789" : Str).cps.toList d = some (("0123456789" : Str).cps.toList.getD d.toNat 0) := by
  obtain ⟨k, rfl⟩ : ∃ k : Nat, d = k := ⟨d.toNat, by omega⟩
  have hk : k < ("0123456789" : Str).cps.toList.length := by show k < 10; omega
  rw [Int.toNat_natCast]
  refine atI_nat' ?_
  rw [List.getD_eq_getElem?_getD, List.getElem?_eq_getElem hk]
  rfl
theorem two_figs : ∀ h ∈ List.range 24, Txt.zfill (toString (h : Int) : Str) 2 = figS ((h : Int) / 10) ++ figS ((h : Int) % 10) := by decide +kernel
theorem two_figs' {h : Int} (h0 : 0 ≤ h) (h1 : h < 24) : Txt.zfill (toString h : Str) 2 = figS (h / 10) ++ figS (h % 10) := by
  obtain ⟨k, rfl⟩ : ∃ k : Nat, h = k := ⟨h.toNat, by omega⟩
  exact two_figs k (List.mem_range.mpr (by omega))
/-- a moment's text: day, point, two figures -/
def whenT (m : Int) : Str := (toString (m / 24) : Str) ++ "." ++ Txt.zfill (toString (m % 24) : Str) 2
def R_when : V → Hp → VK → Prop := fun x H Q => ∃ m : Int, x = .int m ∧ 0 ≤ m ∧ m < 9600 ∧ Q (.str (whenT m)) H
theorem str_assoc (a b c : Str) : (a ++ b) ++ c = a ++ (b ++ c) := by
  obtain ⟨a⟩ := a; obtain ⟨b⟩ := b; obtain ⟨c⟩ := c
  show Str.mk ((a ++ b) ++ c) = Str.mk (a ++ (b ++ c))
  rw [Array.append_assoc]
def R_moment (P : Program) (w : World) : V → Hp → VK → Prop := fun x H Q => ∃ (p : Addr) (n : Nat), x = .ref p ∧ H p = some (PotO P w n p) ∧ n ≤ 100000000 ∧
  ∀ (m : Int) (H' : Hp) (k : Nat), Mx H H' → k ≤ n + 5 → H' p = some (PotO P w k p) → 0 ≤ m → m < 9600 → Q (.int m) H'

/-! ### texts of figures -/
abbrev figT : Str := "0123456789"
def digB (s : Str) : Bool := s.cps.toList.all fun c => decide (c ∈ figT.cps.toList)
theorem fig_iff (c : Nat) : c ∈ figT.cps.toList ↔ 48 ≤ c ∧ c ≤ 57 := by
  rw [show figT.cps.toList = [48, 49, 50, 51, 52, 53, 54, 55, 56, 57] from by decide +kernel]
  simp only [List.mem_cons, List.not_mem_nil, or_false]
  omega
theorem dig_all {s : Str} (h : digB s = true) : PySem.NumText.AllDigits s.cps.toList := fun c hc => (fig_iff c).mp (of_decide_eq_true ((List.all_eq_true.mp h) c hc))
theorem dig_int {s : Str} (h : digB s = true) (h1 : 1 ≤ s.length) (h2 : s.length ≤ 640) : ∃ n : Nat, PySem.intText? s = some (n : Int) := by
  refine ⟨_, PySem.intText_digits (dig_all h) ?_ (by omega)⟩
  intro e
  have : s.length = s.cps.toList.length := by simp [Str.length]
  rw [e] at this
  simp at this
  omega
theorem strip_dig (s : Str) : decide (Txt.stripChars s figT = "") = digB s := by
  rw [← show decide (V.str (Txt.stripChars s figT) = V.str "") = decide (Txt.stripChars s figT = "") by simp]
  exact strip_all s figT
theorem atS0 {a : Str} (h : 1 ≤ a.length) : atI a.cps.toList 0 = some (a.cps.toList.getD 0 0) := by
  have hk : 0 < a.cps.toList.length := by
    have : a.length = a.cps.toList.length := by simp [Str.length]
    omega
  have e1 := atI_nat' (xs := a.cps.toList) (k := 0) (List.getElem?_eq_getElem hk)
  rw [List.getD_eq_getElem?_getD, List.getElem?_eq_getElem hk]
  exact e1
instance z_intS {a : Str} {H : Hp} {Q : VK} : StepZ (rIntM [.str a] H Q) (a.length ≤ 640) (∃ n, PySem.intText? a = some n ∧ Q (.int n) H) := ⟨fun h ⟨n, e, k⟩ => g_intS e h k⟩
def zeroB (s : Str) : Bool := decide ((⟨#[s.cps.toList.getD 0 0]⟩ : Str) = "0") && !decide (s = "0")
/-- what number_of tells -/
def numOf (s : Str) (lo hi : Int) : Option Int :=
  if decide (1 ≤ (s.length : Int)) && decide ((s.length : Int) ≤ ((toString hi : Str).length : Int)) && digB s && !zeroB s then
    match PySem.intText? s with
    | some n => if lo ≤ n ∧ n ≤ hi then some n else none
    | none => none
  else none
def optV : Option Int → V
  | none => .non
  | some n => .int n
def R_number : V → V → V → Hp → VK → Prop := fun x y z H Q => ∃ (s : Str) (lo hi : Int), x = .str s ∧ y = .int lo ∧ z = .int hi ∧ s.length ≤ 16777216 ∧ 0 ≤ hi ∧ hi < 18446744073709551616 ∧ Q (optV (numOf s lo hi)) H

/-! ### is None; a tuple unpacked -/
def rIsNo : R2 := fun x y H Q => y = .non ∧ Q (.bl (decide (x = .non))) H
def rNotNo : R2 := fun x y H Q => y = .non ∧ Q (.bl (!decide (x = .non))) H
theorem op_isNo {X : Cx} : OpR X (compareOp .Is) rIsNo := op_isN
theorem op_notNo {X : Cx} : OpR X (compareOp .IsNot) rNotNo := op_notN
section
variable {H : Hp} {Q : VK} {i : Int} {a : Str} {b : Bool} {p : Addr} {m : String}
instance i_isNoN : Step (rIsNo .non .non H Q) (Q (.bl true) H) := ⟨fun k => ⟨rfl, k⟩⟩
instance i_notNoN : Step (rNotNo .non .non H Q) (Q (.bl false) H) := ⟨fun k => ⟨rfl, k⟩⟩
instance i_isNoI : Step (rIsNo (.int i) .non H Q) (Q (.bl false) H) := ⟨fun k => ⟨rfl, by rw [show decide ((.int i : V) = .non) = false from decide_eq_false (fun z => by cases z)]; exact k⟩⟩
instance i_notNoI : Step (rNotNo (.int i) .non H Q) (Q (.bl true) H) := ⟨fun k => ⟨rfl, by rw [show decide ((.int i : V) = .non) = false from decide_eq_false (fun z => by cases z)]; exact k⟩⟩
instance i_isNoS : Step (rIsNo (.str a) .non H Q) (Q (.bl false) H) := ⟨fun k => ⟨rfl, by rw [show decide ((.str a : V) = .non) = false from decide_eq_false (fun z => by cases z)]; exact k⟩⟩
instance i_notNoS : Step (rNotNo (.str a) .non H Q) (Q (.bl true) H) := ⟨fun k => ⟨rfl, by rw [show decide ((.str a : V) = .non) = false from decide_eq_false (fun z => by cases z)]; exact k⟩⟩
instance i_isNoB : Step (rIsNo (.bl b) .non H Q) (Q (.bl false) H) := ⟨fun k => ⟨rfl, by rw [show decide ((.bl b : V) = .non) = false from decide_eq_false (fun z => by cases z)]; exact k⟩⟩
instance i_notNoB : Step (rNotNo (.bl b) .non H Q) (Q (.bl true) H) := ⟨fun k => ⟨rfl, by rw [show decide ((.bl b : V) = .non) = false from decide_eq_false (fun z => by cases z)]; exact k⟩⟩
instance i_isNoR : Step (rIsNo (.ref p) .non H Q) (Q (.bl false) H) := ⟨fun k => ⟨rfl, by rw [show decide ((.ref p : V) = .non) = false from decide_eq_false (fun z => by cases z)]; exact k⟩⟩
instance i_notNoR : Step (rNotNo (.ref p) .non H Q) (Q (.bl true) H) := ⟨fun k => ⟨rfl, by rw [show decide ((.ref p : V) = .non) = false from decide_eq_false (fun z => by cases z)]; exact k⟩⟩
instance i_isNoTy : Step (rIsNo (.ty m) .non H Q) (Q (.bl false) H) := ⟨fun k => ⟨rfl, by rw [show decide ((.ty m : V) = .non) = false from decide_eq_false (fun z => by cases z)]; exact k⟩⟩
instance i_notNoTy : Step (rNotNo (.ty m) .non H Q) (Q (.bl true) H) := ⟨fun k => ⟨rfl, by rw [show decide ((.ty m : V) = .non) = false from decide_eq_false (fun z => by cases z)]; exact k⟩⟩
end
theorem pg_tupK {X : Cx} {K : PySem.W.Frag} {es : List Expr} {k : Nat} {t : TGs} {n : Nat} {pos : Pos} (hK : X.K = K) (hc : X.calm = true) (h : PGs X es t)
    (hn : (assignEach es X.env).length = n := by rfl) (hst : (assignEach es X.env).findIdx? (·.1) = none := by rfl) : PG X (.Tuple es k pos) (gTup K n t) := hK ▸ pg_tup hc h hn hst
section
variable {K : PySem.W.Frag} {σ : L2.St} {H : Hp} {t : TG} {u : TGs} {n : Nat} {v : V} {vs : List V} {a : Addr} {R : L2.St → Hp → Prop}
instance q_gTup : StepQ (gTup K n u (.ref a) σ H R) (fun xs => SqT K H a xs) (fun xs => xs.length = n ∧ u xs σ H R) := ⟨fun xs h k => ⟨a, xs, rfl, h, k.1, k.2⟩⟩
instance i_gCons : Step (gCons t u (v :: vs) σ H R) (t v σ H fun σ' H' => u vs σ' H' R) := ⟨fun k => ⟨v, vs, rfl, k⟩⟩
instance i_gNil : Step (gNil [] σ H R) (R σ H) := ⟨fun k => ⟨rfl, k⟩⟩
end
theorem part_len (x y : Str) : (Txt.partition x y).1.length ≤ x.length ∧ (Txt.partition x y).2.2.length ≤ x.length := by
  unfold Txt.partition
  split
  · exact ⟨len_strSub x _ _, len_strSub x _ _⟩
  · exact ⟨Nat.le_refl _, Nat.zero_le _⟩
theorem numOf_le {s : Str} {lo hi n : Int} (h : numOf s lo hi = some n) : lo ≤ n ∧ n ≤ hi := by
  unfold numOf at h
  split at h
  · split at h
    · split at h
      · cases h; assumption
      · cases h
    · cases h
  · cases h
/-- the moment of a text -/
def momOf (s : Str) : Option Int :=
  match numOf (Txt.partition s ".").1 0 399 with
  | none => none
  | some d =>
    if (Txt.partition s ".").2.1 = "" ∨ (Txt.partition s ".").2.2.length ≠ 2 ∨ digB (Txt.partition s ".").2.2 = false then none
    else match PySem.intText? (Txt.partition s ".").2.2 with
      | some h => if h < 24 then some (d * 24 + h) else none
      | none => none
def R_moment_of : V → Hp → VK → Prop := fun x H Q => ∃ s : Str, x = .str s ∧ s.length ≤ 16777216 ∧ ∀ H', Same H H' → Q (optV (momOf s)) H'

def readD : PyData → Option Int
  | .str s => momOf s
  | _ => none
def R_read (K : PySem.W.Frag) (C : Addr) : V → Hp → VK → XK → Prop := fun x H Q E => ∃ d, Da K H x d ∧ smallD d ∧
  (∀ n, readD d = some n → ∀ H', Same H H' → Q (.int n) H') ∧
  (readD d = none → ∀ e H', H e = none → Same H H' → H' e = some (.xd [("text", x)]) → E (.ref C) (some e) H')
end L2.Pc

namespace L2.Pc
open PySem PySem.Spec PyProof.Rows

/-! ### a text cut at its first sign c -/
theorem str_ext {a b : Str} (h : a.cps.toList = b.cps.toList) : a = b := by
  obtain ⟨⟨a⟩⟩ := a; obtain ⟨⟨b⟩⟩ := b
  rw [show a = b from h]
theorem sub_list (x : Str) (a b : Nat) : (PySem.Builtin.Str.strSub x a b).cps.toList = (x.cps.toList.take b).drop a := by
  show (x.cps.extract a b).toList = _
  rw [Array.toList_extract]
  simp [List.extract, List.drop_take]
theorem len_list (x : Str) : x.length = x.cps.toList.length := by simp [Str.length]
theorem partC (s : Str) (c : Nat) : (Txt.partition s ⟨#[c]⟩ = (s, Str.empty, Str.empty) ∧ c ∉ s.cps.toList) ∨
    ∃ i, s.cps.toList[i]? = some c ∧ (∀ k, k < i → s.cps.toList[k]? ≠ some c) ∧
      Txt.partition s ⟨#[c]⟩ = (PySem.Builtin.Str.strSub s 0 i, ⟨#[c]⟩, PySem.Builtin.Str.strSub s (i + 1) s.length) := by
  rcases StrLaws.occ_head s ⟨#[c]⟩ 1 (by decide) with ⟨e, h⟩ | ⟨i, r, e, h, hk⟩
  · left
    refine ⟨by unfold Txt.partition; rw [e], fun hc => ?_⟩
    obtain ⟨k, hk⟩ := List.getElem?_of_mem hc
    exact h k ((StrLaws.subAt_one s c k).mpr hk)
  · right
    exact ⟨i, (StrLaws.subAt_one s c i).mp h, fun k q z => hk k q ((StrLaws.subAt_one s c k).mpr z), by unfold Txt.partition; rw [e]; rfl⟩
theorem cut_to_neg {s : Str} {k : Nat} (hk : 1 ≤ k) (h : k ≤ s.length) : (cutS s none (some (-(k : Int)))).cps.toList = s.cps.toList.take (s.length - k) := by
  unfold cutS HT.sIx
  dsimp only
  rw [if_pos (by omega)]
  simp only [List.drop_zero, Nat.sub_zero]
  congr 1
  omega
theorem cut_from_neg {s : Str} {k : Nat} (hk : 1 ≤ k) (h : k ≤ s.length) : (cutS s (some (-(k : Int))) none).cps.toList = s.cps.toList.drop (s.length - k) := by
  unfold cutS HT.sIx
  dsimp only
  rw [if_pos (by omega)]
  rw [show (-(k : Int) + (s.length : Int)).toNat = s.length - k by omega]
  refine List.take_of_length_le ?_
  rw [List.length_drop, ← len_list]
  exact Nat.le_refl _
theorem atI_neg {α : Type} {xs : List α} {k : Nat} (hk : 1 ≤ k) (h : k ≤ xs.length) : atI xs (-(k : Int)) = xs[xs.length - k]? := by
  unfold atI ixN
  rw [if_neg (by omega), if_pos (by omega)]
  show xs[(-(k : Int) + (xs.length : Int)).toNat]? = _
  congr 1
  omega
theorem mom_some {s : Str} {m : Int} (h : momOf s = some m) : 4 ≤ s.length ∧ s.length ≤ 6 ∧ s.cps.toList[s.length - 3]? = some 46 ∧
    digB (cutS s none (some (-3))) = true ∧ digB (cutS s (some (-2)) none) = true := by
  unfold momOf at h
  rcases partC s 46 with ⟨e, _⟩ | ⟨i, hi, hk, e⟩
  · rw [show (("." : Str)) = ⟨#[46]⟩ from rfl, e] at h
    dsimp only at h
    cases hd : numOf s 0 399 with
    | none => rw [hd] at h; cases h
    | some d => rw [hd] at h; dsimp only at h; rw [if_pos (.inl rfl)] at h; cases h
  · rw [show (("." : Str)) = ⟨#[46]⟩ from rfl, e] at h
    dsimp only at h
    have il : i < s.length := by rw [len_list]; exact (List.getElem?_eq_some_iff.mp hi).1
    have l1 : (PySem.Builtin.Str.strSub s 0 i).length = i := by rw [len_list, sub_list, List.drop_zero, List.length_take, ← len_list]; omega
    have l2 : (PySem.Builtin.Str.strSub s (i + 1) s.length).length = s.length - (i + 1) := by rw [len_list, sub_list, List.length_drop, List.length_take, ← len_list]; omega
    cases hd : numOf (PySem.Builtin.Str.strSub s 0 i) 0 399 with
    | none => rw [hd] at h; cases h
    | some d =>
      rw [hd] at h
      dsimp only at h
      by_cases c : (⟨#[46]⟩ : Str) = "" ∨ (PySem.Builtin.Str.strSub s (i + 1) s.length).length ≠ 2 ∨ digB (PySem.Builtin.Str.strSub s (i + 1) s.length) = false
      · rw [if_pos c] at h; cases h
      · have c2 : (PySem.Builtin.Str.strSub s (i + 1) s.length).length = 2 := by
          by_cases z : (PySem.Builtin.Str.strSub s (i + 1) s.length).length = 2
          · exact z
          · exact absurd (.inr (.inl z)) c
        have c3 : digB (PySem.Builtin.Str.strSub s (i + 1) s.length) = true := by
          cases z : digB (PySem.Builtin.Str.strSub s (i + 1) s.length) with
          | true => rfl
          | false => exact absurd (.inr (.inr z)) c
        have n1 : 1 ≤ i ∧ i ≤ 3 ∧ digB (PySem.Builtin.Str.strSub s 0 i) = true := by
          unfold numOf at hd
          rw [l1] at hd
          have e399 : (toString (399 : Int) : Str).length = 3 := by decide +kernel
          rw [e399] at hd
          split at hd
          · rename_i z
            simp only [Bool.and_eq_true, decide_eq_true_eq] at z
            exact ⟨by omega, by omega, z.1.2⟩
          · cases hd
        have hl : s.length = i + 3 := by omega
        have e1 : PySem.Builtin.Str.strSub s 0 i = cutS s none (some (-3)) := str_ext (by
          rw [sub_list, List.drop_zero]
          have := cut_to_neg (s := s) (k := 3) (by decide) (by omega)
          rw [show (-3 : Int) = -((3 : Nat) : Int) from rfl, this]
          congr 1; omega)
        have e2 : PySem.Builtin.Str.strSub s (i + 1) s.length = cutS s (some (-2)) none := str_ext (by
          rw [sub_list]
          have := cut_from_neg (s := s) (k := 2) (by decide) (by omega)
          rw [show (-2 : Int) = -((2 : Nat) : Int) from rfl, this, List.take_of_length_le (by rw [← len_list]; exact Nat.le_refl _)]
          congr 1; omega)
        refine ⟨by omega, by omega, ?_, ?_, ?_⟩
        · rw [show s.length - 3 = i by omega]; exact hi
        · rw [← e1]; exact n1.2.2
        · rw [← e2]; exact c3
theorem mom_part {s : Str} (h1 : 4 ≤ s.length) (h3 : s.cps.toList[s.length - 3]? = some 46) (h4 : digB (cutS s none (some (-3))) = true) :
    Txt.partition s "." = (cutS s none (some (-3)), ("." : Str), cutS s (some (-2)) none) := by
  have c1 := cut_to_neg (s := s) (k := 3) (by decide) (by omega)
  have c2 := cut_from_neg (s := s) (k := 2) (by decide) (by omega)
  have nd : ∀ k, k < s.length - 3 → s.cps.toList[k]? ≠ some 46 := fun k hk z => by
    have m : 46 ∈ (cutS s none (some (-3))).cps.toList := by
      rw [show (-3 : Int) = -((3 : Nat) : Int) from rfl, c1]
      exact List.mem_of_getElem? (i := k) (by rw [List.getElem?_take_of_lt hk]; exact z)
    have := dig_all h4 46 m
    omega
  rw [show (("." : Str)) = ⟨#[46]⟩ from rfl]
  rcases partC s 46 with ⟨e, hn⟩ | ⟨i, hi, hk, e⟩
  · exact absurd (List.mem_of_getElem? h3) hn
  · have ei : i = s.length - 3 := by
      rcases Nat.lt_trichotomy i (s.length - 3) with z | z | z
      · exact absurd hi (nd i z)
      · exact z
      · exact absurd h3 (hk _ z)
    subst ei
    rw [e]
    refine Prod.ext ?_ (Prod.ext rfl ?_)
    · exact str_ext (by rw [sub_list, List.drop_zero, show (-3 : Int) = -((3 : Nat) : Int) from rfl, c1])
    · exact str_ext (by
        dsimp only
        rw [sub_list, show (-2 : Int) = -((2 : Nat) : Int) from rfl, c2, List.take_of_length_le (by rw [← len_list]; exact Nat.le_refl _)]
        congr 1; omega)

theorem in456 {n : Int} : inV (.int n) [.int 4, .int 5, .int 6] = true ↔ (n = 4 ∨ n = 5 ∨ n = 6) := by
  simp [inV, eqV]
  omega
theorem dig_append (a b : Str) : digB (a ++ b) = (digB a && digB b) := by
  unfold digB
  rw [show (a ++ b).cps.toList = a.cps.toList ++ b.cps.toList from Array.toList_append, List.all_append]
theorem one_eq {c d : Nat} : ((⟨#[c]⟩ : Str) = ⟨#[d]⟩) ↔ c = d := ⟨fun h => by injection h with h; simpa using h, fun h => by rw [h]⟩

section
variable {K : PySem.W.Frag} {x : V} {p : Addr} {H : Hp} {Q : VK}
instance (priority := 2000) q_in1 : StepQ (rInM K true x (.ref p) H Q) (fun xs => SqL K H p xs ∨ SqT K H p xs)
  (fun xs => flatV x = true ∧ xs.all flatV = true ∧ Q (.bl (!inV x xs)) H) := ⟨fun xs h ⟨k1, k2, k3⟩ => g_inQ h k1 k2 k3⟩
instance (priority := 2000) q_in0 : StepQ (rInM K false x (.ref p) H Q) (fun xs => SqL K H p xs ∨ SqT K H p xs)
  (fun xs => flatV x = true ∧ xs.all flatV = true ∧ Q (.bl (inV x xs)) H) := ⟨fun xs h ⟨k1, k2, k3⟩ => g_inQ h k1 k2 k3⟩
end

/-- [sign in lit for sign in z] -/
theorem g_signs {K : PySem.W.Frag} {z lit : Str} {i : Nat} {σ : L2.St} {Q : VK} {H : Hp} (hi : i < σ.length) (hz : z.length ≤ 16777216)
    (k : ∀ L H', H L = none → Same H H' → H' L = some (.lst ((z.cps.toList.map fun c => decide (c ∈ lit.cps.toList)).map V.bl)) → Q (.ref L) H') :
    LcW (Its z) (gName i) tYes (tOp (rInM K false) (tVar i) (tC (.str lit))) [i] σ Q H := by
  refine lcG (src_str z) (fun L j acc H' => Same H H' ∧ acc = ((z.cps.toList.take j).map fun c => decide (c ∈ lit.cps.toList)).map V.bl) (fun L hL => ⟨Same.new hL, by simp⟩) (fun _ _ _ _ _ _ => True.intro) ?_ ?_
  · rintro L j acc H' hL hj hA hl ⟨e2, rfl⟩
    show _ ∧ _
    refine ⟨by show ((σ.set i none).set i _).set i none = σ.set i none; simp, ?_⟩
    refine (Step.imp ?_ : tYes _ H' _)
    rw [if_pos rfl]
    refine ⟨_, by show ((σ.set i none).set i _)[i]? = _; rw [List.getElem?_set_self (by simpa using hi)], .inl ⟨_, _, rfl, rfl, ?_⟩⟩
    have hsz : z.cps.size = z.length := rfl
    refine lc_leaf hA hl (by omega) ⟨e2.put hL, ?_⟩
    rw [take_map1 _ (by simpa using hj), List.map_append]
    simp [Array.getD, hj]
  · rintro L acc H' hL hA hl ⟨e2, rfl⟩
    refine k L H' hL e2 ?_
    rw [hA, List.take_of_length_le (by simp)]
theorem all_signs (z : Str) : ((z.cps.toList.map fun c => decide (c ∈ figT.cps.toList))).all id = digB z := by
  rw [List.all_map]; rfl

theorem numOf_of {s : Str} {hi : Int} {n : Int} (h1 : 1 ≤ s.length) (h2 : s.length ≤ (toString hi : Str).length) (h3 : digB s = true) (hn : PySem.intText? s = some n) :
    numOf s 0 hi = if zeroB s then none else if 0 ≤ n ∧ n ≤ hi then some n else none := by
  unfold numOf
  rw [decide_eq_true (by omega), decide_eq_true (by omega), h3, hn]
  cases zeroB s <;> rfl
theorem momOf_of {s day hour : Str} {d h : Nat} (hp : Txt.partition s "." = (day, ("." : Str), hour)) (h1 : 1 ≤ day.length) (h2 : day.length ≤ 3) (h3 : digB day = true) (hd : PySem.intText? day = some (d : Int))
    (h4 : hour.length = 2) (h5 : digB hour = true) (hh : PySem.intText? hour = some (h : Int)) :
    momOf s = if zeroB day then none else if (d : Int) < 400 ∧ (h : Int) < 24 then some ((d : Int) * 24 + h) else none := by
  unfold momOf
  rw [hp]
  dsimp only
  rw [numOf_of h1 (by rw [show (toString (399 : Int) : Str).length = 3 from by decide +kernel]; exact h2) h3 hd]
  cases zeroB day with
  | true => rfl
  | false =>
    rw [if_neg (by decide)]
    by_cases c : (d : Int) < 400
    · rw [if_pos (by omega : (0 : Int) ≤ d ∧ (d : Int) ≤ 399)]
      dsimp only
      rw [if_neg (by rintro (z | z | z); · exact absurd z (by decide)
                     · exact z h4
                     · rw [h5] at z; cases z), hh]
      dsimp only
      by_cases e : (h : Int) < 24
      · rw [if_pos e, if_neg (by decide), if_pos ⟨c, e⟩]
      · rw [if_neg e, if_neg (by decide), if_neg (fun z => e z.2)]
    · rw [if_neg (by omega : ¬ ((0 : Int) ≤ d ∧ (d : Int) ≤ 399)), if_neg (by decide), if_neg (fun z => c z.1)]

theorem asc_cut {a : Str} (lo hi : Option Int) (h : Asc a) : Asc (cutS a lo hi) := fun c hc => h c (List.mem_of_mem_drop (List.mem_of_mem_take hc))
theorem asc_one {c : Nat} (h : c < 16 ^ 8) : Asc ⟨#[c]⟩ := by intro d hd; rw [List.mem_singleton.mp hd]; exact h
theorem asc_fig (d : Int) : Asc (figS d) := by
  refine asc_one ?_
  rw [List.getD_eq_getElem?_getD]
  cases e : ("0123456789" : Str).cps.toList[d.toNat]? with
  | none => decide
  | some c => exact (show ∀ c ∈ ("0123456789" : Str).cps.toList, c < 16 ^ 8 by decide +kernel) c (List.mem_of_getElem? e)
theorem asc_rep {a : Str} {n : Int} (c : Nat) (ha : a = ⟨#[c]⟩) (h : c < 16 ^ 8) : Asc (Txt.mul a n) := by
  subst ha
  intro d hd
  rw [mul_one_list] at hd
  rw [List.eq_of_mem_replicate hd]; exact h
theorem len_rep {a : Str} {n : Nat} (c : Nat) (ha : a = ⟨#[c]⟩) : (Txt.mul a (n : Int)).length = n := by
  subst ha
  rw [len_list, mul_one_list, List.length_replicate]; rfl
theorem mul0 : MulOk "0" 4301 := ⟨by decide, fun _ _ => by decide, fun _ _ => by decide⟩
def R_bent (P : Program) (w : World) : V → V → Hp → VK → Prop := fun x y H Q => ∃ (p : Addr) (n : Nat) (t : Str), x = .ref p ∧ y = .str t ∧ H p = some (PotO P w n p) ∧ n ≤ 100000000 ∧ t.length ≤ 100 ∧ Asc t ∧
  ∀ (z : Str) (H' : Hp) (m : Nat), Mx H H' → m ≤ n + 4 → H' p = some (PotO P w m p) → z.length ≤ 4990 → Asc z → Q (.str z) H'

/-! ### long texts of one figure, as constants -/
@[irreducible] def rep9 : Str := Txt.mul "9" 4301
@[irreducible] def rep0 : Str := Txt.mul "0" 4301
theorem rep9_eq : Txt.mul "9" 4301 = rep9 := by unfold rep9; rfl
theorem rep0_eq : Txt.mul "0" 4301 = rep0 := by unfold rep0; rfl
theorem rep9_len : rep9.length = 4301 := by rw [← rep9_eq]; exact mul9_len
theorem rep0_len : rep0.length = 4301 := by rw [← rep0_eq]; exact len_rep (n := 4301) 48 rfl
theorem rep9_asc : Asc rep9 := by rw [← rep9_eq]; exact asc_rep 57 rfl (by decide)
theorem rep0_asc : Asc rep0 := by rw [← rep0_eq]; exact asc_rep 48 rfl (by decide)
section
variable {X : Cx} {k1 k2 : Nat} {p1 p2 p3 : Pos}
theorem pe_rep9 : PE X (.BinOp (.Constant (.str "9") k1 p1) .Mult (.Constant (.int 4301) k2 p2) p3) (tC (.str rep9)) :=
  ⟨fun pins s σ H Q I h => (pe_op op_mulM pe_str pe_int).run pins s σ H Q I (by show rMulM (.str "9") (.int 4301) H Q; exact g_mulS mul9 (by rw [rep9_eq]; exact h))⟩
theorem pe_rep0 : PE X (.BinOp (.Constant (.str "0") k1 p1) .Mult (.Constant (.int 4301) k2 p2) p3) (tC (.str rep0)) :=
  ⟨fun pins s σ H Q I h => (pe_op op_mulM pe_str pe_int).run pins s σ H Q I (by show rMulM (.str "0") (.int 4301) H Q; exact g_mulS mul0 (by rw [rep0_eq]; exact h))⟩
end
end L2.Pc

namespace L2.Tr
open PySem PySem.Spec PyProof.Rows L2 L2.Pc

/-! ### values as trees -/
inductive D where
  | non | bl (b : Bool) | int (i : Int) | str (s : Str)
  | tup (xs : List D) | lst (xs : List D) | lsk (xs : List D) | tuk (xs : List D) | dct (kvs : List (D × D)) | dcu (kvs : List (D × D))
  | ins (c : Str) (fs : List (Str × D)) | cel (n : Nat) | fn (f : Str) | ty (n : String) | xob (c : Str) (fs : List (Str × D))
/-- a tree whose objects are owned, down to frozen leaves -/
inductive O where
  | fz (d : D) | lst (xs : List D) | dct (kvs : List (D × D)) | dcu (kvs : List (D × D)) | ins (c : Str) (fs : List (Str × O)) | dco (kvs : List (D × O)) | dcv (kvs : List (D × O))
def kD : Key → D
  | .inl i => .int i
  | .inr x => .str x
mutual
def O.toD : O → D
  | .fz d => d
  | .lst xs => .lst xs
  | .dct kvs => .dct kvs
  | .ins c fs => .ins c (O.toDf fs)
  | .dco kvs => .dct (O.toDk kvs)
  | .dcu kvs => .dcu kvs
  | .dcv kvs => .dcu (O.toDk kvs)
def O.toDf : List (Str × O) → List (Str × D)
  | [] => []
  | (n, o) :: r => (n, O.toD o) :: O.toDf r
def O.toDk : List (D × O) → List (D × D)
  | [] => []
  | (n, o) :: r => (n, O.toD o) :: O.toDk r
end
theorem toDf_map : ∀ fs : List (Str × O), O.toDf fs = fs.map fun p => (p.1, p.2.toD)
  | [] => rfl
  | (n, o) :: r => by rw [O.toDf, toDf_map r]; rfl
theorem toDk_map : ∀ fs : List (D × O), O.toDk fs = fs.map fun p => (p.1, p.2.toD)
  | [] => rfl
  | (n, o) :: r => by rw [O.toDk, toDk_map r]; rfl

/-- the module's facts that values lean on -/
structure Gi where
  K : PySem.W.Frag
  mg : Str → Option Value
  /-- the exception that a suite has in hand: its address, its class, its dict -/
  xo : Option (Addr × Addr × Option Addr) := none

mutual
inductive Rp (G : Gi) (F : Hp) (al : List Addr) : V → D → Prop
  | non : Rp G F al .non .non
  | bl (b : Bool) : Rp G F al (.bl b) (.bl b)
  | int (i : Int) : Rp G F al (.int i) (.int i)
  | str (x : Str) : Rp G F al (.str x) (.str x)
  | tup {a : Addr} {xs : List V} {ds : List D} : F a = some (.tup xs) → RpA G F al xs ds → Rp G F al (.ref a) (.tup ds)
  | tuk {a : Addr} {xs : List V} {ds : List D} : SqT G.K F a xs → RpA G F al xs ds → Rp G F al (.ref a) (.tuk ds)
  | lst {a : Addr} {xs : List V} {ds : List D} : F a = some (.lst xs) → RpA G F al xs ds → Rp G F al (.ref a) (.lst ds)
  | lsk {a : Addr} {xs : List V} {ds : List D} : SqL G.K F a xs → RpA G F al xs ds → Rp G F al (.ref a) (.lsk ds)
  | dcK {a : Addr} {kvs : List (Key × V)} {ds : List (D × D)} : Rd F a (.dK kvs) → ds.map (·.1) = kvs.map (fun p => kD p.1) →
      RpA G F al (kvs.map (·.2)) (ds.map (·.2)) → Rp G F al (.ref a) (.dct ds)
  | dcT {a : Addr} {kvs : List (List Key × V)} {ds : List (D × D)} : Rd F a (.dT kvs) → ds.map (·.1) = kvs.map (fun p => .tup (p.1.map kD)) →
      RpA G F al (kvs.map (·.2)) (ds.map (·.2)) → Rp G F al (.ref a) (.dcu ds)
  | ins {a C dx : Addr} {c : Str} {fs : List (Str × V)} {ds : List (Str × D)} : F a = some (.ins C dx fs) → G.mg c = some (.ref C) → ds.map (·.1) = fs.map (·.1) →
      RpA G F al (fs.map (·.2)) (ds.map (·.2)) → Rp G F al (.ref a) (.ins c ds)
  | cel {a : Addr} {n : Nat} : al[n]? = some a → Rp G F al (.ref a) (.cel n)
  | fn {a : Addr} {f : Str} : G.mg f = some (.ref a) → Rp G F al (.ref a) (.fn f)
  | ty (n : String) : Rp G F al (.ty n) (.ty n)
  | xob {a C dx : Addr} {c : Str} {fs : List (Str × V)} {ds : List (Str × D)} : G.xo = some (a, C, some dx) → G.mg c = some (.ref C) → F dx = some (.xd fs) → ds.map (·.1) = fs.map (·.1) →
      RpA G F al (fs.map (·.2)) (ds.map (·.2)) → Rp G F al (.ref a) (.xob c ds)
  | xob0 {a C : Addr} {c : Str} : G.xo = some (a, C, none) → G.mg c = some (.ref C) → Rp G F al (.ref a) (.xob c [])
inductive RpA (G : Gi) (F : Hp) (al : List Addr) : List V → List D → Prop
  | nil : RpA G F al [] []
  | cons {v : V} {vs : List V} {d : D} {ds : List D} : Rp G F al v d → RpA G F al vs ds → RpA G F al (v :: vs) (d :: ds)
end
/-- dicts: locked while they are walked -/
def dictO : HO → Bool
  | .dK _ => true
  | .dT _ => true
  | .frz _ _ => true
  | _ => false
/-- more frozen objects, more cells -/
structure Mo (F F' : Hp) (al al' : List Addr) : Prop where
  mF : ∀ (a : Addr) (o : HO), F a = some o → dictO o = false → F' a = some o
  mR : ∀ (a : Addr) (o : HO), Rd F a o → Rd F' a o
  mA : ∀ (n : Nat) (a : Addr), al[n]? = some a → al'[n]? = some a
theorem rd_mo {F F' : Hp} (e : ∀ a o, F a = some o → F' a = some o) {a : Addr} {u : HO} (h : Rd F a u) : Rd F' a u := by
  rcases h with h | ⟨o, h⟩
  · exact .inl (e _ _ h)
  · exact .inr ⟨o, e _ _ h⟩
theorem Mo.of {F F' : Hp} {al al' : List Addr} (e : ∀ a o, F a = some o → F' a = some o) (k : ∀ (n : Nat) (a : Addr), al[n]? = some a → al'[n]? = some a) : Mo F F' al al' :=
  ⟨fun a o h _ => e a o h, fun a o h => rd_mo e h, k⟩
theorem Mo.refl (F : Hp) (al : List Addr) : Mo F F al al := .of (fun _ _ h => h) fun _ _ h => h
theorem Mo.trans {F F1 F2 : Hp} {al al1 al2 : List Addr} (a : Mo F F1 al al1) (b : Mo F1 F2 al1 al2) : Mo F F2 al al2 :=
  ⟨fun x o h k => b.mF x o (a.mF x o h k) k, fun x o h => b.mR x o (a.mR x o h), fun n x h => b.mA n x (a.mA n x h)⟩
theorem sqL_mo {K : PySem.W.Frag} {F F' : Hp} (e : ∀ a o, F a = some o → F' a = some o) {a : Addr} {xs : List V} (h : SqL K F a xs) : SqL K F' a xs := by
  rcases h with h | h
  · exact .inl (rd_mo e h)
  · exact .inr h
theorem sqT_mo {K : PySem.W.Frag} {F F' : Hp} (e : ∀ a o, F a = some o → F' a = some o) {a : Addr} {xs : List V} (h : SqT K F a xs) : SqT K F' a xs := by
  rcases h with h | h
  · exact .inl (rd_mo e h)
  · exact .inr h
theorem sqL_mr {K : PySem.W.Frag} {F F' : Hp} (e : ∀ a o, Rd F a o → Rd F' a o) {a : Addr} {xs : List V} (h : SqL K F a xs) : SqL K F' a xs := by
  rcases h with h | h
  · exact .inl (e _ _ h)
  · exact .inr h
theorem sqT_mr {K : PySem.W.Frag} {F F' : Hp} (e : ∀ a o, Rd F a o → Rd F' a o) {a : Addr} {xs : List V} (h : SqT K F a xs) : SqT K F' a xs := by
  rcases h with h | h
  · exact .inl (e _ _ h)
  · exact .inr h
mutual
theorem Rp.mo {G : Gi} {F F' : Hp} {al al' : List Addr} (e : Mo F F' al al') : ∀ {v : V} {d : D}, Rp G F al v d → Rp G F' al' v d
  | _, _, .non => .non
  | _, _, .bl b => .bl b
  | _, _, .int i => .int i
  | _, _, .str x => .str x
  | _, _, .tup h hs => .tup (e.mF _ _ h rfl) (RpA.mo e hs)
  | _, _, .tuk h hs => .tuk (sqT_mr e.mR h) (RpA.mo e hs)
  | _, _, .lst h hs => .lst (e.mF _ _ h rfl) (RpA.mo e hs)
  | _, _, .lsk h hs => .lsk (sqL_mr e.mR h) (RpA.mo e hs)
  | _, _, .dcK h k hs => .dcK (e.mR _ _ h) k (RpA.mo e hs)
  | _, _, .dcT h k hs => .dcT (e.mR _ _ h) k (RpA.mo e hs)
  | _, _, .ins h k n hs => .ins (e.mF _ _ h rfl) k n (RpA.mo e hs)
  | _, _, .cel h => .cel (e.mA _ _ h)
  | _, _, .fn h => .fn h
  | _, _, .ty n => .ty n
  | _, _, .xob h q k n hs => .xob h q (e.mF _ _ k rfl) n (RpA.mo e hs)
  | _, _, .xob0 h q => .xob0 h q
theorem RpA.mo {G : Gi} {F F' : Hp} {al al' : List Addr} (e : Mo F F' al al') : ∀ {vs : List V} {ds : List D}, RpA G F al vs ds → RpA G F' al' vs ds
  | _, _, .nil => .nil
  | _, _, .cons h hs => .cons (Rp.mo e h) (RpA.mo e hs)
end
theorem RpA.len {G : Gi} {F : Hp} {al : List Addr} : ∀ {vs : List V} {ds : List D}, RpA G F al vs ds → vs.length = ds.length
  | _, _, .nil => rfl
  | _, _, .cons _ hs => congrArg (· + 1) (RpA.len hs)
theorem RpA.get {G : Gi} {F : Hp} {al : List Addr} : ∀ {vs : List V} {ds : List D} {i : Nat} {d : D}, RpA G F al vs ds → ds[i]? = some d → ∃ v, vs[i]? = some v ∧ Rp G F al v d
  | _, _, _, _, .nil, e => by simp at e
  | _, _, 0, _, .cons h _, e => by simp at e; subst e; exact ⟨_, rfl, h⟩
  | _, _, i + 1, _, .cons _ hs, e => by
    obtain ⟨v, h1, h2⟩ := RpA.get (i := i) hs (by simpa using e)
    exact ⟨v, by simpa using h1, h2⟩
theorem RpA.getV {G : Gi} {F : Hp} {al : List Addr} : ∀ {vs : List V} {ds : List D} {i : Nat} {v : V}, RpA G F al vs ds → vs[i]? = some v → ∃ d, ds[i]? = some d ∧ Rp G F al v d
  | _, _, _, _, .nil, e => by simp at e
  | _, _, 0, _, .cons h _, e => by simp at e; subst e; exact ⟨_, rfl, h⟩
  | _, _, i + 1, _, .cons _ hs, e => by
    obtain ⟨v, h1, h2⟩ := RpA.getV (i := i) hs (by simpa using e)
    exact ⟨v, by simpa using h1, h2⟩
theorem RpA.app {G : Gi} {F : Hp} {al : List Addr} : ∀ {vs ws : List V} {ds es : List D}, RpA G F al vs ds → RpA G F al ws es → RpA G F al (vs ++ ws) (ds ++ es)
  | _, _, _, _, .nil, k => k
  | _, _, _, _, .cons h hs, k => .cons h (RpA.app hs k)
theorem RpA.drop {G : Gi} {F : Hp} {al : List Addr} : ∀ {vs : List V} {ds : List D} (n : Nat), RpA G F al vs ds → RpA G F al (vs.drop n) (ds.drop n)
  | _, _, 0, h => h
  | _, _, _ + 1, .nil => .nil
  | _, _, n + 1, .cons _ hs => RpA.drop n hs
theorem RpA.take {G : Gi} {F : Hp} {al : List Addr} : ∀ {vs : List V} {ds : List D} (n : Nat), RpA G F al vs ds → RpA G F al (vs.take n) (ds.take n)
  | _, _, 0, h => .nil
  | _, _, _ + 1, .nil => .nil
  | _, _, n + 1, .cons h hs => .cons h (RpA.take n hs)
theorem RpA.set {G : Gi} {F : Hp} {al : List Addr} {v : V} {d : D} (r : Rp G F al v d) : ∀ {vs : List V} {ds : List D} (n : Nat), RpA G F al vs ds → RpA G F al (vs.set n v) (ds.set n d)
  | _, _, _, .nil => .nil
  | _, _, 0, .cons _ hs => .cons r hs
  | _, _, n + 1, .cons h hs => .cons h (RpA.set r n hs)
theorem RpA.rev {G : Gi} {F : Hp} {al : List Addr} : ∀ {vs : List V} {ds : List D}, RpA G F al vs ds → RpA G F al vs.reverse ds.reverse
  | _, _, .nil => .nil
  | _, _, .cons h hs => by rw [List.reverse_cons, List.reverse_cons]; exact RpA.app (RpA.rev hs) (.cons h .nil)

mutual
inductive OwnT (G : Gi) (F : Hp) (al : List Addr) (H : Hp) : O → V → List Addr → Prop
  | fz {v : V} {d : D} : Rp G F al v d → OwnT G F al H (.fz d) v []
  | lst {a : Addr} {vs : List V} {ds : List D} : H a = some (.lst vs) → RpA G F al vs ds → OwnT G F al H (.lst ds) (.ref a) [a]
  | dcK {a : Addr} {kvs : List (Key × V)} {ds : List (D × D)} : H a = some (.dK kvs) → ds.map (·.1) = kvs.map (fun p => kD p.1) →
      RpA G F al (kvs.map (·.2)) (ds.map (·.2)) → OwnT G F al H (.dct ds) (.ref a) [a]
  | dcT {a : Addr} {kvs : List (List Key × V)} {ds : List (D × D)} : H a = some (.dT kvs) → ds.map (·.1) = kvs.map (fun p => .tup (p.1.map kD)) →
      RpA G F al (kvs.map (·.2)) (ds.map (·.2)) → OwnT G F al H (.dcu ds) (.ref a) [a]
  | ins {a C dx : Addr} {c : Str} {fs : List (Str × V)} {os : List (Str × O)} {fp : List Addr} : H a = some (.ins C dx fs) → G.mg c = some (.ref C) →
      os.map (·.1) = fs.map (·.1) → OwnA G F al H (os.map (·.2)) (fs.map (·.2)) fp → OwnT G F al H (.ins c os) (.ref a) (a :: fp)
  | dcoK {a : Addr} {kvs : List (Key × V)} {os : List (D × O)} {fp : List Addr} : H a = some (.dK kvs) → os.map (·.1) = kvs.map (fun p => kD p.1) →
      OwnA G F al H (os.map (·.2)) (kvs.map (·.2)) fp → OwnT G F al H (.dco os) (.ref a) (a :: fp)
  | dcoT {a : Addr} {kvs : List (List Key × V)} {os : List (D × O)} {fp : List Addr} : H a = some (.dT kvs) → os.map (·.1) = kvs.map (fun p => .tup (p.1.map kD)) →
      OwnA G F al H (os.map (·.2)) (kvs.map (·.2)) fp → OwnT G F al H (.dcv os) (.ref a) (a :: fp)
inductive OwnA (G : Gi) (F : Hp) (al : List Addr) (H : Hp) : List O → List V → List Addr → Prop
  | nil : OwnA G F al H [] [] []
  | cons {o : O} {v : V} {os : List O} {vs : List V} {fp fq : List Addr} : OwnT G F al H o v fp → OwnA G F al H os vs fq → OwnA G F al H (o :: os) (v :: vs) (fp ++ fq)
end
mutual
theorem OwnT.mo {G : Gi} {F F' : Hp} {al al' : List Addr} {H H' : Hp} (e : Mo F F' al al') : ∀ {o : O} {v : V} {fp : List Addr}, OwnT G F al H o v fp →
    (∀ a ∈ fp, H' a = H a) → OwnT G F' al' H' o v fp
  | _, _, _, .fz h, _ => .fz (h.mo e)
  | _, _, _, .lst h hs, k => .lst ((k _ (List.mem_singleton_self _)).trans h) (hs.mo e)
  | _, _, _, .dcK h q hs, k => .dcK ((k _ (List.mem_singleton_self _)).trans h) q (hs.mo e)
  | _, _, _, .dcT h q hs, k => .dcT ((k _ (List.mem_singleton_self _)).trans h) q (hs.mo e)
  | _, _, _, .ins h q n hs, k => .ins ((k _ List.mem_cons_self).trans h) q n (OwnA.mo e hs fun a ha => k a (List.mem_cons_of_mem _ ha))
  | _, _, _, .dcoK h q hs, k => .dcoK ((k _ List.mem_cons_self).trans h) q (OwnA.mo e hs fun a ha => k a (List.mem_cons_of_mem _ ha))
  | _, _, _, .dcoT h q hs, k => .dcoT ((k _ List.mem_cons_self).trans h) q (OwnA.mo e hs fun a ha => k a (List.mem_cons_of_mem _ ha))
theorem OwnA.mo {G : Gi} {F F' : Hp} {al al' : List Addr} {H H' : Hp} (e : Mo F F' al al') : ∀ {os : List O} {vs : List V} {fp : List Addr}, OwnA G F al H os vs fp →
    (∀ a ∈ fp, H' a = H a) → OwnA G F' al' H' os vs fp
  | _, _, _, .nil, _ => .nil
  | _, _, _, .cons h hs, k => .cons (OwnT.mo e h fun a ha => k a (List.mem_append_left _ ha)) (OwnA.mo e hs fun a ha => k a (List.mem_append_right _ ha))
end
mutual
theorem OwnT.there {G : Gi} {F : Hp} {al : List Addr} {H : Hp} : ∀ {o : O} {v : V} {fp : List Addr}, OwnT G F al H o v fp → ∀ a ∈ fp, H a ≠ none
  | _, _, _, .fz _, a, ha => by cases ha
  | _, _, _, .lst h _, a, ha => by rw [List.mem_singleton.mp ha, h]; exact Option.some_ne_none _
  | _, _, _, .dcK h _ _, a, ha => by rw [List.mem_singleton.mp ha, h]; exact Option.some_ne_none _
  | _, _, _, .dcT h _ _, a, ha => by rw [List.mem_singleton.mp ha, h]; exact Option.some_ne_none _
  | _, _, _, .ins h _ _ hs, a, ha => by
    rcases List.mem_cons.mp ha with e | e
    · rw [e, h]; exact Option.some_ne_none _
    · exact OwnA.there hs a e
  | _, _, _, .dcoK h _ hs, a, ha => by
    rcases List.mem_cons.mp ha with e | e
    · rw [e, h]; exact Option.some_ne_none _
    · exact OwnA.there hs a e
  | _, _, _, .dcoT h _ hs, a, ha => by
    rcases List.mem_cons.mp ha with e | e
    · rw [e, h]; exact Option.some_ne_none _
    · exact OwnA.there hs a e
theorem OwnA.there {G : Gi} {F : Hp} {al : List Addr} {H : Hp} : ∀ {os : List O} {vs : List V} {fp : List Addr}, OwnA G F al H os vs fp → ∀ a ∈ fp, H a ≠ none
  | _, _, _, .nil, a, ha => by cases ha
  | _, _, _, .cons h hs, a, ha => (List.mem_append.mp ha).elim (fun e => OwnT.there h a e) fun e => OwnA.there hs a e
end
/-! frozen, with all objects of its footprint -/
mutual
theorem OwnT.freeze {G : Gi} {F F' : Hp} {al : List Addr} {H : Hp} (e : ∀ a o, F a = some o → F' a = some o) : ∀ {o : O} {v : V} {fp : List Addr}, OwnT G F al H o v fp →
    (∀ a ∈ fp, F' a = H a) → Rp G F' al v o.toD
  | _, _, _, .fz h, _ => by rw [O.toD]; exact h.mo (.of e fun _ _ q => q)
  | _, _, _, .lst h hs, k => by rw [O.toD]; exact .lst ((k _ (List.mem_singleton_self _)).trans h) (hs.mo (.of e fun _ _ q => q))
  | _, _, _, .dcK h q hs, k => by rw [O.toD]; exact .dcK (.inl ((k _ (List.mem_singleton_self _)).trans h)) q (hs.mo (.of e fun _ _ q => q))
  | _, _, _, .dcT h q hs, k => by rw [O.toD]; exact .dcT (.inl ((k _ (List.mem_singleton_self _)).trans h)) q (hs.mo (.of e fun _ _ q => q))
  | _, _, _, @OwnT.ins _ _ _ _ a C dx c fs os fp h q n hs, k => by
    rw [O.toD, toDf_map]
    have r := OwnA.freeze e hs fun a ha => k a (List.mem_cons_of_mem _ ha)
    refine .ins ((k _ List.mem_cons_self).trans h) q (by rw [List.map_map]; exact n) ?_
    rw [List.map_map]
    rw [List.map_map] at r
    exact r
  | _, _, _, @OwnT.dcoK _ _ _ _ a kvs os fp h q hs, k => by
    rw [O.toD, toDk_map]
    have r := OwnA.freeze e hs fun a ha => k a (List.mem_cons_of_mem _ ha)
    refine .dcK (.inl ((k _ List.mem_cons_self).trans h)) (by rw [List.map_map]; exact q) ?_
    rw [List.map_map]
    rw [List.map_map] at r
    exact r
  | _, _, _, @OwnT.dcoT _ _ _ _ a kvs os fp h q hs, k => by
    rw [O.toD, toDk_map]
    have r := OwnA.freeze e hs fun a ha => k a (List.mem_cons_of_mem _ ha)
    refine .dcT (.inl ((k _ List.mem_cons_self).trans h)) (by rw [List.map_map]; exact q) ?_
    rw [List.map_map]
    rw [List.map_map] at r
    exact r
theorem OwnA.freeze {G : Gi} {F F' : Hp} {al : List Addr} {H : Hp} (e : ∀ a o, F a = some o → F' a = some o) : ∀ {os : List O} {vs : List V} {fp : List Addr}, OwnA G F al H os vs fp →
    (∀ a ∈ fp, F' a = H a) → RpA G F' al vs (os.map O.toD)
  | _, _, _, .nil, _ => .nil
  | _, _, _, .cons h hs, k => .cons (OwnT.freeze e h fun a ha => k a (List.mem_append_left _ ha)) (OwnA.freeze e hs fun a ha => k a (List.mem_append_right _ ha))
end

/-! ### states of a def's body -/
structure S where
  env : List (Option O)
  mu : List O
inductive Slots (G : Gi) (F : Hp) (al : List Addr) (H : Hp) : List (Option O) → L2.St → List Addr → Prop
  | nil : Slots G F al H [] [] []
  | un {env : List (Option O)} {x : Option V} {σ : L2.St} {fp : List Addr} : Slots G F al H env σ fp → Slots G F al H (none :: env) (x :: σ) fp
  | so {o : O} {v : V} {env : List (Option O)} {σ : L2.St} {fp fq : List Addr} : OwnT G F al H o v fp → Slots G F al H env σ fq →
      Slots G F al H (some o :: env) (some v :: σ) (fp ++ fq)
/-- a configuration: the frozen part, the heap, the cells' addresses, the objects that slots and cells own -/
structure Cf where
  F : Hp
  H : Hp
  al : List Addr
  fs : List Addr
  fc : List Addr
structure Rel (G : Gi) (st : S) (σ : L2.St) (c : Cf) : Prop where
  sub : ∀ a o, c.F a = some o → c.H a = some o
  own : ∀ a, a ∈ c.fs ∨ a ∈ c.fc → c.F a = none
  nds : c.fs.Nodup
  ndc : c.fc.Nodup
  dis : ∀ a ∈ c.fs, a ∉ c.fc
  slots : Slots G c.F c.al c.H st.env σ c.fs
  cells : OwnA G c.F c.al c.H st.mu (c.al.map V.ref) c.fc
/-- what code may do -/
structure Go (c c' : Cf) : Prop where
  mo : Mo c.F c'.F c.al c'.al
  fr : ∀ a, c.H a ≠ none → a ∉ c.fs → a ∉ c.fc → c'.H a = c.H a
  fp : ∀ a, a ∈ c'.fs ∨ a ∈ c'.fc → a ∈ c.fs ∨ a ∈ c.fc ∨ c.H a = none
  nF : ∀ a, c'.F a ≠ none → c.F a ≠ none ∨ a ∈ c.fs ∨ a ∈ c.fc ∨ c.H a = none
theorem Slots.there {G : Gi} {F : Hp} {al : List Addr} {H : Hp} : ∀ {env : List (Option O)} {σ : L2.St} {fp : List Addr}, Slots G F al H env σ fp → ∀ a ∈ fp, H a ≠ none
  | _, _, _, .nil, a, ha => by cases ha
  | _, _, _, .un h, a, ha => Slots.there h a ha
  | _, _, _, .so h hs, a, ha => (List.mem_append.mp ha).elim (fun e => OwnT.there h a e) fun e => Slots.there hs a e
theorem Slots.mo {G : Gi} {F F' : Hp} {al al' : List Addr} {H H' : Hp} (e : Mo F F' al al') : ∀ {env : List (Option O)} {σ : L2.St} {fp : List Addr}, Slots G F al H env σ fp →
    (∀ a ∈ fp, H' a = H a) → Slots G F' al' H' env σ fp
  | _, _, _, .nil, _ => .nil
  | _, _, _, .un h, k => .un (Slots.mo e h k)
  | _, _, _, .so h hs, k => .so (OwnT.mo e h fun a ha => k a (List.mem_append_left _ ha)) (Slots.mo e hs fun a ha => k a (List.mem_append_right _ ha))
theorem Rel.there {G : Gi} {st : S} {σ : L2.St} {c : Cf} (r : Rel G st σ c) {a : Addr} (h : a ∈ c.fs ∨ a ∈ c.fc) : c.H a ≠ none :=
  h.elim (fun h => r.slots.there a h) fun h => r.cells.there a h
theorem Go.refl {G : Gi} {st : S} {σ : L2.St} {c : Cf} : Go c c :=
  ⟨Mo.refl _ _, fun _ _ _ _ => rfl, fun a h => h.elim .inl fun h => .inr (.inl h), fun a h => .inl h⟩
theorem Go.rfl' {c : Cf} : Go c c := ⟨Mo.refl _ _, fun _ _ _ _ => rfl, fun a h => h.elim .inl fun h => .inr (.inl h), fun a h => .inl h⟩
theorem Go.keep {c c' : Cf} (g : Go c c') {a : Addr} (h : c.H a ≠ none) (h1 : a ∉ c.fs) (h2 : a ∉ c.fc) : c'.H a = c.H a ∧ a ∉ c'.fs ∧ a ∉ c'.fc :=
  ⟨g.fr a h h1 h2, fun z => (g.fp a (.inl z)).elim h1 fun z => z.elim h2 h, fun z => (g.fp a (.inr z)).elim h1 fun z => z.elim h2 h⟩
theorem Go.trans {c c1 c2 : Cf} (g : Go c c1) (k : Go c1 c2) : Go c c2 where
  mo := g.mo.trans k.mo
  fr := fun a h h1 h2 => by
    obtain ⟨e, n1, n2⟩ := g.keep h h1 h2
    rw [← e] at h
    exact (k.fr a h n1 n2).trans e
  fp := fun a h => by
    rcases k.fp a h with z | z | z
    · exact g.fp a (.inl z)
    · exact g.fp a (.inr z)
    · by_cases h1 : a ∈ c.fs
      · exact .inl h1
      · by_cases h2 : a ∈ c.fc
        · exact .inr (.inl h2)
        · refine .inr (.inr ?_)
          cases e : c.H a with
          | none => rfl
          | some o => rw [g.fr a (by rw [e]; exact Option.some_ne_none _) h1 h2, e] at z; cases z
  nF := fun a h => by
    rcases k.nF a h with z | z | z | z
    · exact g.nF a z
    · rcases g.fp a (.inl z) with y | y | y
      · exact .inr (.inl y)
      · exact .inr (.inr (.inl y))
      · exact .inr (.inr (.inr y))
    · rcases g.fp a (.inr z) with y | y | y
      · exact .inr (.inl y)
      · exact .inr (.inr (.inl y))
      · exact .inr (.inr (.inr y))
    · by_cases h1 : a ∈ c.fs
      · exact .inr (.inl h1)
      · by_cases h2 : a ∈ c.fc
        · exact .inr (.inr (.inl h2))
        · refine .inr (.inr (.inr ?_))
          cases e : c.H a with
          | none => rfl
          | some o => rw [g.fr a (by rw [e]; exact Option.some_ne_none _) h1 h2, e] at z; cases z
/-- objects that nothing else owns -/
structure Fresh (fp : List Addr) (c : Cf) : Prop where
  nd : fp.Nodup
  nf : ∀ a ∈ fp, c.F a = none
  ns : ∀ a ∈ fp, a ∉ c.fs
  nc : ∀ a ∈ fp, a ∉ c.fc
def New (fp : List Addr) (c : Cf) : Prop := ∀ a ∈ fp, a ∈ c.fs ∨ a ∈ c.fc ∨ c.H a = none
theorem Fresh.go {fp : List Addr} {c c' : Cf} (f : Fresh fp c) (h : ∀ a ∈ fp, c.H a ≠ none) (g : Go c c') : Fresh fp c' ∧ ∀ a ∈ fp, c'.H a = c.H a := by
  refine ⟨⟨f.nd, fun a ha => ?_, fun a ha => (g.keep (h a ha) (f.ns a ha) (f.nc a ha)).2.1, fun a ha => (g.keep (h a ha) (f.ns a ha) (f.nc a ha)).2.2⟩,
    fun a ha => g.fr a (h a ha) (f.ns a ha) (f.nc a ha)⟩
  cases e : c'.F a with
  | none => rfl
  | some o =>
    rcases g.nF a (by rw [e]; exact Option.some_ne_none _) with z | z | z | z
    · exact absurd (f.nf a ha) z
    · exact absurd z (f.ns a ha)
    · exact absurd z (f.nc a ha)
    · exact absurd z (h a ha)
theorem OwnT.go {G : Gi} {c c' : Cf} {o : O} {v : V} {fp : List Addr} (t : OwnT G c.F c.al c.H o v fp) (f : Fresh fp c) (g : Go c c') :
    OwnT G c'.F c'.al c'.H o v fp ∧ Fresh fp c' := by
  obtain ⟨f2, e⟩ := f.go t.there g
  exact ⟨t.mo g.mo e, f2⟩
theorem New.go {fp : List Addr} {c c1 : Cf} (n : New fp c1) (g : Go c c1) : New fp c := fun a ha => by
  rcases n a ha with z | z | z
  · exact g.fp a (.inl z)
  · exact g.fp a (.inr z)
  · by_cases h1 : a ∈ c.fs
    · exact .inl h1
    · by_cases h2 : a ∈ c.fc
      · exact .inr (.inl h2)
      · refine .inr (.inr ?_)
        cases e : c.H a with
        | none => rfl
        | some o => rw [g.fr a (by rw [e]; exact Option.some_ne_none _) h1 h2, e] at z; cases z
theorem New.nil (c : Cf) : New [] c := fun _ h => nomatch h
theorem Fresh.nil (c : Cf) : Fresh [] c := ⟨.nil, (fun _ h => nomatch h), (fun _ h => nomatch h), (fun _ h => nomatch h)⟩

/-! ### freezing -/
def frzF (c : Cf) (fp : List Addr) : Hp := fun a => if a ∈ fp then c.H a else c.F a
def Cf.frz (c : Cf) (fp : List Addr) : Cf := { c with F := frzF c fp }
theorem frz_sub {G : Gi} {st : S} {σ : L2.St} {c : Cf} {fp : List Addr} (r : Rel G st σ c) : ∀ a o, c.F a = some o → frzF c fp a = some o := fun a o e => by
  unfold frzF
  split
  · exact r.sub a o e
  · exact e
theorem Rel.freeze {G : Gi} {st : S} {σ : L2.St} {c : Cf} {fp : List Addr} (r : Rel G st σ c) (f : Fresh fp c) : Rel G st σ (c.frz fp) := by
  have mo : Mo c.F (frzF c fp) c.al c.al := .of (frz_sub r) fun _ _ h => h
  refine ⟨fun a o e => ?_, fun a h => ?_, r.nds, r.ndc, r.dis, r.slots.mo mo fun _ _ => rfl, r.cells.mo mo fun _ _ => rfl⟩
  · have e : frzF c fp a = some o := e
    unfold frzF at e
    split at e
    · exact e
    · exact r.sub a o e
  · show frzF c fp a = none
    unfold frzF
    rw [if_neg (fun z => h.elim (f.ns a z) (f.nc a z))]
    exact r.own a h
theorem Go.freeze {c0 c : Cf} {fp : List Addr} (g : Go c0 c) (n : New fp c0) (s : ∀ a o, c.F a = some o → frzF c fp a = some o) : Go c0 (c.frz fp) where
  mo := g.mo.trans (.of s fun _ _ h => h)
  fr := g.fr
  fp := g.fp
  nF := fun a h => by
    have h : frzF c fp a ≠ none := h
    unfold frzF at h
    split at h
    · rename_i ha
      exact .inr (n a ha)
    · exact g.nF a h
theorem OwnT.frz {G : Gi} {st : S} {σ : L2.St} {c : Cf} {o : O} {v : V} {fp : List Addr} (t : OwnT G c.F c.al c.H o v fp) (r : Rel G st σ c) :
    Rp G (c.frz fp).F (c.frz fp).al v o.toD := t.freeze (frz_sub r) fun a ha => by
  show frzF c fp a = _
  unfold frzF
  rw [if_pos ha]

/-- what an expression may do: the slots' own objects stay as they are -/
structure GoE (c c' : Cf) : Prop extends Go c c' where
  hs : ∀ a ∈ c.fs, c.H a ≠ none → c'.H a = c.H a
  sf : ∀ a ∈ c'.fs, a ∈ c.fs
  cf : ∀ a ∈ c'.fc, a ∈ c.fs → c.H a = none
theorem GoE.refl {G : Gi} {st : S} {σ : L2.St} {c : Cf} (r : Rel G st σ c) : GoE c c :=
  { Go.rfl' with hs := fun _ _ _ => rfl, sf := fun _ h => h, cf := fun a h k => absurd h (r.dis a k) }
theorem GoE.trans {c c1 c2 : Cf} (g : GoE c c1) (k : GoE c1 c2) : GoE c c2 :=
  { g.toGo.trans k.toGo with
    hs := fun a h n => by
      have e := g.hs a h n
      have n1 : c1.H a ≠ none := by rw [e]; exact n
      by_cases h1 : a ∈ c1.fs
      · exact (k.hs a h1 n1).trans e
      · exact (k.fr a n1 h1 (fun z => n (g.cf a z h))).trans e
    sf := fun a h => g.sf a (k.sf a h)
    cf := fun a h q => by
      cases e : c.H a with
      | none => rfl
      | some o =>
        have n : c.H a ≠ none := by rw [e]; exact Option.some_ne_none _
        have e1 := g.hs a q n
        rcases k.fp a (.inr h) with z | z | z
        · have := k.cf a h z; rw [e1, e] at this; cases this
        · have := g.cf a z q; rw [e] at this; cases this
        · rw [e1, e] at z; cases z }
/-- kept by every expression -/
def Keep (fp : List Addr) (c : Cf) : Prop := ∀ a ∈ fp, a ∉ c.fc
theorem Fresh.keep {fp : List Addr} {c : Cf} (f : Fresh fp c) : Keep fp c := f.nc
theorem Keep.go {G : Gi} {c c' : Cf} {o : O} {v : V} {fp : List Addr} (t : OwnT G c.F c.al c.H o v fp) (k : Keep fp c) (g : GoE c c') : OwnT G c'.F c'.al c'.H o v fp :=
  t.mo g.mo fun a ha => by
    have n := t.there a ha
    by_cases h : a ∈ c.fs
    · exact g.hs a h n
    · exact g.fr a n h (k a ha)
/-- a new object, owned by nothing yet -/
def Cf.new (c : Cf) (p : Addr) (o : HO) : Cf := { c with H := upd c.H p o }
theorem Rel.new {G : Gi} {st : S} {σ : L2.St} {c : Cf} {p : Addr} {o : HO} (r : Rel G st σ c) (h : c.H p = none) : Rel G st σ (c.new p o) := by
  have ne : ∀ a, c.H a ≠ none → upd c.H p o a = c.H a := fun a n => upd_ne (fun e => n (by rw [e]; exact h))
  refine ⟨fun a u e => ?_, r.own, r.nds, r.ndc, r.dis, r.slots.mo (Mo.refl _ _) fun a ha => ne a (r.there (.inl ha)), r.cells.mo (Mo.refl _ _) fun a ha => ne a (r.there (.inr ha))⟩
  have e2 := r.sub a u e
  rw [show (c.new p o).H a = upd c.H p o a from rfl, ne a (by rw [e2]; exact Option.some_ne_none _)]
  exact e2
theorem GoE.new {G : Gi} {st : S} {σ : L2.St} {c : Cf} {p : Addr} {o : HO} (r : Rel G st σ c) (h : c.H p = none) : GoE c (c.new p o) where
  mo := Mo.refl _ _
  fr := fun a n _ _ => upd_ne (fun e => n (by rw [e]; exact h))
  fp := fun a h => h.elim .inl fun h => .inr (.inl h)
  nF := fun a h => .inl h
  hs := fun a _ n => upd_ne (fun e => n (by rw [e]; exact h))
  sf := fun _ h => h
  cf := fun a h k => absurd h (r.dis a k)
theorem Fresh.new {G : Gi} {st : S} {σ : L2.St} {c : Cf} {p : Addr} {o : HO} (r : Rel G st σ c) (h : c.H p = none) : Fresh [p] (c.new p o) := by
  refine ⟨by simp, fun a ha => ?_, fun a ha => ?_, fun a ha => ?_⟩ <;> rw [List.mem_singleton.mp ha]
  · cases e : c.F p with
    | none => exact e
    | some u => have := r.sub p u e; rw [h] at this; cases this
  · exact fun z => r.there (.inl z) h
  · exact fun z => r.there (.inr z) h
theorem New.new {c : Cf} {p : Addr} (h : c.H p = none) : New [p] c := fun a ha => by
  rw [List.mem_singleton.mp ha]; exact .inr (.inr h)
theorem GoE.freeze {G : Gi} {st : S} {σ : L2.St} {c0 c : Cf} {fp : List Addr} (g : GoE c0 c) (n : New fp c0) (r : Rel G st σ c) : GoE c0 (c.frz fp) :=
  { g.toGo.freeze n (frz_sub r) with hs := g.hs, sf := g.sf, cf := g.cf }
/-- the lengths that the heap bears -/
theorem Rel.rdT {G : Gi} {st : S} {σ : L2.St} {c : Cf} {K : PySem.W.Frag} {a : Addr} {xs : List V} (r : Rel G st σ c) (h : SqT K c.F a xs) : SqT K c.H a xs := sqT_mo r.sub h
theorem Rel.rdL {G : Gi} {st : S} {σ : L2.St} {c : Cf} {K : PySem.W.Frag} {a : Addr} {xs : List V} (r : Rel G st σ c) (h : SqL K c.F a xs) : SqL K c.H a xs := sqL_mo r.sub h
end L2.Tr

namespace L2.Tr
open PySem PySem.Spec PyProof.Rows L2 L2.Pc

/-! ### what code gives, over trees -/
structure Exc where
  cls : Str
  fs : List (Str × D)
inductive R (α : Type) where
  | ok (a : α) (s : S) | exc (x : Exc) (s : S) | no
abbrev M (α : Type) := S → R α
section
variable {α β : Type}
def R.bind (r : R α) (f : α → M β) : R β := match r with
  | .ok a s => f a s
  | .exc x s => .exc x s
  | .no => .no
def bnd (m : M α) (f : α → M β) : M β := fun s => (m s).bind f
def ret (a : α) : M α := fun s => .ok a s
def ofO (o : Option α) : M α := fun s => match o with
  | some a => .ok a s
  | none => .no
@[simp] theorem R.bind_ok (a : α) (s : S) (f : α → M β) : (R.ok a s).bind f = f a s := rfl
@[simp] theorem R.bind_exc (x : Exc) (s : S) (f : α → M β) : (R.exc x s : R α).bind f = .exc x s := rfl
@[simp] theorem R.bind_no (f : α → M β) : (R.no : R α).bind f = .no := rfl
@[simp] theorem bnd_app (m : M α) (f : α → M β) (s : S) : bnd m f s = (m s).bind f := rfl
@[simp] theorem ret_app (a : α) (s : S) : ret a s = .ok a s := rfl
@[simp] theorem ofO_some (a : α) (s : S) : ofO (some a) s = .ok a s := rfl
@[simp] theorem ofO_none (s : S) : ofO (none : Option α) s = .no := rfl
def wp (r : R α) (Q : α → S → Prop) (E : Exc → S → Prop) : Prop := match r with
  | .ok a s => Q a s
  | .exc x s => E x s
  | .no => False
theorem wp_mono {r : R α} {Q Q' : α → S → Prop} {E E' : Exc → S → Prop} (h : wp r Q E) (q : ∀ a s, Q a s → Q' a s) (e : ∀ x s, E x s → E' x s) : wp r Q' E' := by
  cases r with
  | ok a s => exact q a s h
  | exc x s => exact e x s h
  | no => exact h
theorem wp_bind {r : R α} {f : α → M β} {Q : β → S → Prop} {E : Exc → S → Prop} : wp (r.bind f) Q E ↔ wp r (fun a s => wp (f a s) Q E) E := by
  cases r <;> exact Iff.rfl
theorem wp_ofO {o : Option α} {s : S} {Q : α → S → Prop} {E : Exc → S → Prop} : wp (ofO o s) Q E ↔ ∃ a, o = some a ∧ Q a s := by
  cases o with
  | none => exact ⟨fun h => h.elim, fun ⟨_, h, _⟩ => by cases h⟩
  | some a => exact ⟨fun h => ⟨a, rfl, h⟩, fun ⟨_, h, q⟩ => by cases h; exact q⟩
end

/-! ### what they mean for the heap -/
def XRp (G : Gi) (c : Cf) (x : Exc) (v : Value) (d : Option Addr) : Prop := ∃ C, v = .ref C ∧ G.mg x.cls = some (.ref C) ∧
  ((x.fs = [] ∧ d = none) ∨ ∃ dx vs, d = some dx ∧ c.F dx = some (.xd vs) ∧ x.fs.map (·.1) = vs.map (·.1) ∧ RpA G c.F c.al (vs.map (·.2)) (x.fs.map (·.2)))
def xw (G : Gi) (W : WX) (σ : L2.St) (c : Cf) : Exc → S → Prop := fun x st' => ∀ v d c', Rel G st' σ c' → GoE c c' → XRp G c' x v d → W v d σ c'.H
theorem xw.go {G : Gi} {W : WX} {σ : L2.St} {c c1 : Cf} (g : GoE c c1) {x : Exc} {s : S} (h : xw G W σ c x s) : xw G W σ c1 x s :=
  fun v d c' r k q => h v d c' r (g.trans k) q
section
variable (G : Gi) (W : WX)
/-- what a reading asks: the state as trees, and that the code goes well there -/
def tG {α β : Type} (Pr : α → Cf → Cf → β → Prop) (m : M α) : L2.St → Hp → (β → Hp → Prop) → Prop := fun σ H Q =>
  ∃ c st, c.H = H ∧ Rel G st σ c ∧ wp (m st) (fun a st' => ∀ v c', Rel G st' σ c' → GoE c c' → Pr a c c' v → Q v c'.H) (xw G W σ c)
/-- a value of which what is owned is its own alone -/
def PrO : O → Cf → Cf → V → Prop := fun o c c' v => ∃ fp, OwnT G c'.F c'.al c'.H o v fp ∧ Fresh fp c' ∧ New fp c
/-- a value that expressions leave as it is -/
def PrB : O → Cf → Cf → V → Prop := fun o _ c' v => ∃ fp, OwnT G c'.F c'.al c'.H o v fp ∧ Keep fp c'
/-- a value as it is just now -/
def PrL : O → Cf → Cf → V → Prop := fun o _ c' v => ∃ fp, OwnT G c'.F c'.al c'.H o v fp
def PrD : D → Cf → Cf → V → Prop := fun d _ c' v => Rp G c'.F c'.al v d
def PrA : List D → Cf → Cf → List V → Prop := fun ds _ c' vs => RpA G c'.F c'.al vs ds
def PrT : Bool → Cf → Cf → Bool → Prop := fun b _ _ v => v = b
abbrev tO (m : M O) : TE := tG G W (PrO G) m
abbrev tBr (m : M O) : TE := tG G W (PrB G) m
abbrev tLa (m : M O) : TE := tG G W (PrL G) m
abbrev tD (m : M D) : TE := tG G W (PrD G) m
abbrev tAs (m : M (List D)) : TA := tG G W (PrA G) m
abbrev tTs (m : M Bool) : TT := tG G W PrT m
end
theorem _root_.L2.PE.weak {X : Cx} {e : Expr} {t t' : TE} (h : PE X e t) (k : ∀ σ H Q, t' σ H Q → t σ H Q) : PE X e t' := ⟨fun pins s σ H Q I q => h.run pins s σ H Q I (k _ _ _ q)⟩
theorem _root_.L2.PT.weak {X : Cx} {e : Expr} {t t' : TT} (h : PT X e t) (k : ∀ σ H Q, t' σ H Q → t σ H Q) : PT X e t' := ⟨fun pins s σ H Q I q => h.run pins s σ H Q I (k _ _ _ q)⟩
theorem _root_.L2.PW.weak {X : Cx} {e : Expr} {t t' : TT} (h : PW X e t) (k : ∀ σ H Q, t' σ H Q → t σ H Q) : PW X e t' := ⟨fun wh pins s σ H Q I q => h.run wh pins s σ H Q I (k _ _ _ q)⟩
theorem _root_.L2.PA.weak {X : Cx} {e : List Expr} {t t' : TA} (h : PA X e t) (k : ∀ σ H Q, t' σ H Q → t σ H Q) : PA X e t' := ⟨fun p pins s σ H Q I q => h.run p pins s σ H Q I (k _ _ _ q)⟩
theorem _root_.L2.PK.weak {X : Cx} {e : List Keyword} {t t' : TA} (h : PK X e t) (k : ∀ σ H Q, t' σ H Q → t σ H Q) : PK X e t' := ⟨fun p pins s σ H Q I q => h.run p pins s σ H Q I (k _ _ _ q)⟩
section
variable {G : Gi} {W : WX} {α β γ δ : Type} {Pr : α → Cf → Cf → β → Prop} {Pr' : γ → Cf → Cf → δ → Prop}
/-- first m, then what follows in the state behind it -/
theorem tG.seq0 {m : M α} {f : α → M γ} {σ : L2.St} {H : Hp} {Q : δ → Hp → Prop} (h : tG G W Pr' (bnd m f) σ H Q) (R : β → Hp → Prop)
    (k : ∀ a v c c1 st1, Rel G st1 σ c1 → GoE c c1 → Pr a c c1 v →
      wp (f a st1) (fun x st' => ∀ u c', Rel G st' σ c' → GoE c c' → Pr' x c c' u → Q u c'.H) (xw G W σ c) → R v c1.H) : tG G W Pr m σ H R := by
  obtain ⟨c, st, e, r, h⟩ := h
  exact ⟨c, st, e, r, wp_mono (wp_bind.mp h) (fun a st1 q v c1 r1 g p => k a v c c1 st1 r1 g p q) (fun x s q => q)⟩
/-- what is told of a value holds from an earlier start, too -/
def Bk (Pr : α → Cf → Cf → β → Prop) : Prop := ∀ x c c1 c' u, GoE c c1 → Pr x c1 c' u → Pr x c c' u
theorem tG.seq (hb : Bk Pr') {m : M α} {f : α → M γ} {σ : L2.St} {H : Hp} {Q : δ → Hp → Prop} (h : tG G W Pr' (bnd m f) σ H Q) (R : β → Hp → Prop)
    (k : ∀ a v c c1 st1, Rel G st1 σ c1 → GoE c c1 → Pr a c c1 v →
      wp (f a st1) (fun x st' => ∀ u c', Rel G st' σ c' → GoE c1 c' → Pr' x c1 c' u → Q u c'.H) (xw G W σ c1) → R v c1.H) : tG G W Pr m σ H R :=
  h.seq0 R fun a v c c1 st1 r1 g p w => k a v c c1 st1 r1 g p
    (wp_mono w (fun x st' q u c' r' g' p' => q u c' r' (g.trans g') (hb _ _ _ _ _ g p')) (fun x s q => q.go g))
theorem tG.seq1 (hb : Bk Pr') {m : M α} {f : α → M γ} {σ : L2.St} {c1 : Cf} {st1 : S} {Q : δ → Hp → Prop} (r1 : Rel G st1 σ c1)
    (w : wp (bnd m f st1) (fun x st' => ∀ u c', Rel G st' σ c' → GoE c1 c' → Pr' x c1 c' u → Q u c'.H) (xw G W σ c1)) (R : β → Hp → Prop)
    (k : ∀ a v c2 st2, Rel G st2 σ c2 → GoE c1 c2 → Pr a c1 c2 v →
      wp (f a st2) (fun x st' => ∀ u c', Rel G st' σ c' → GoE c2 c' → Pr' x c2 c' u → Q u c'.H) (xw G W σ c2) → R v c2.H) : tG G W Pr m σ c1.H R :=
  ⟨c1, st1, rfl, r1, wp_mono (wp_bind.mp w) (fun a st2 q v c2 r2 g p => k a v c2 st2 r2 g p
    (wp_mono q (fun x st' q u c' r' g' p' => q u c' r' (g.trans g') (hb _ _ _ _ _ g p')) (fun x s q => q.go g))) (fun x s q => q)⟩
/-- a further reading from within -/
theorem tG.at {m : M α} {σ : L2.St} {c : Cf} {st : S} {Q : β → Hp → Prop} (r : Rel G st σ c)
    (h : wp (m st) (fun a st' => ∀ v c', Rel G st' σ c' → GoE c c' → Pr a c c' v → Q v c'.H) (xw G W σ c)) : tG G W Pr m σ c.H Q := ⟨c, st, rfl, r, h⟩
theorem bkO : Bk (PrO G) := fun o c c1 c' v g ⟨fp, t, f, n⟩ => ⟨fp, t, f, n.go g.toGo⟩
theorem bkB : Bk (PrB G) := fun _ _ _ _ _ _ h => h
theorem bkL : Bk (PrL G) := fun _ _ _ _ _ _ h => h
theorem bkD : Bk (PrD G) := fun _ _ _ _ _ _ h => h
theorem bkA : Bk (PrA G) := fun _ _ _ _ _ _ h => h
theorem bkT : Bk PrT := fun _ _ _ _ _ _ h => h
theorem PrO.new {c c1 c' : Cf} {o : O} {v : V} (g : GoE c c1) (h : PrO G o c1 c' v) : PrO G o c c' v := by
  obtain ⟨fp, t, f, n⟩ := h
  exact ⟨fp, t, f, n.go g.toGo⟩
end

section
variable {X : Cx} {G : Gi} {W : WX} {e a b : Expr} {m ma mb : M O}
/-! ### frozen, borrowed -/
def frz (m : M O) : M D := bnd m fun o => ret o.toD
def fzd (m : M D) : M O := bnd m fun d => ret (.fz d)
@[simp] theorem frz_app (m : M O) (s : S) : frz m s = (m s).bind fun o => ret o.toD := rfl
@[simp] theorem fzd_app (m : M D) (s : S) : fzd m s = (m s).bind fun d => ret (.fz d) := rfl
theorem x_frz (h : PE X e (tO G W m)) : PE X e (tD G W (frz m)) := h.weak fun σ H Q q => by
  refine q.seq0 Q (fun o v c c1 st1 r1 g p w => ?_)
  obtain ⟨fp, t, f, n⟩ := p
  exact w v (c1.frz fp) (r1.freeze f) (g.freeze n r1) (t.frz r1)
theorem x_fzd {m : M D} (h : PE X e (tD G W m)) : PE X e (tO G W (fzd m)) := h.weak fun σ H Q q => by
  refine q.seq0 Q (fun o v c c1 st1 r1 g p w => ?_)
  exact w v c1 r1 g ⟨[], .fz p, Fresh.nil _, New.nil _⟩
theorem x_bor (h : PE X e (tO G W m)) : PE X e (tBr G W m) := h.weak fun σ H Q q => by
  obtain ⟨c, st, e, r, h⟩ := q
  exact ⟨c, st, e, r, wp_mono h (fun a st1 q v c1 r1 g ⟨fp, t, f, n⟩ => q v c1 r1 g ⟨fp, t, f.keep⟩) (fun x s q => q)⟩
theorem x_las (h : PE X e (tBr G W m)) : PE X e (tLa G W m) := h.weak fun σ H Q q => by
  obtain ⟨c, st, e, r, h⟩ := q
  exact ⟨c, st, e, r, wp_mono h (fun a st1 q v c1 r1 g ⟨fp, t, _⟩ => q v c1 r1 g ⟨fp, t⟩) (fun x s q => q)⟩
theorem tG.weakPr {α β : Type} {Pr Pr' : α → Cf → Cf → β → Prop} {m : M α} {σ : L2.St} {H : Hp} {Q : β → Hp → Prop} (q : tG G W Pr m σ H Q)
    (k : ∀ a c c' v, Rel G ⟨[], []⟩ [] c' ∨ True → Pr' a c c' v → Pr a c c' v) : tG G W Pr' m σ H Q := by
  obtain ⟨c, st, e, r, h⟩ := q
  exact ⟨c, st, e, r, wp_mono h (fun a st1 q v c1 r1 g p => q v c1 r1 g (k _ _ _ _ (.inr trivial) p)) (fun x s q => q)⟩

/-! ### names and constants -/
def getS : List (Option O) → Nat → Option O
  | [], _ => none
  | x :: _, 0 => x
  | _ :: l, n + 1 => getS l n
def setS : List (Option O) → Nat → Option O → List (Option O)
  | [], _, _ => []
  | _ :: l, 0, o => o :: l
  | x :: l, n + 1, o => x :: setS l n o
def isFz : O → Bool
  | .fz _ => true
  | _ => false
/-- a name's value; an owned one is frozen from here on -/
def xVar (i : Nat) : M O := fun s => match getS s.env i with
  | some o => .ok (.fz o.toD) ⟨if isFz o then s.env else setS s.env i (some (.fz o.toD)), s.mu⟩
  | none => .no
/-- .. read in passing -/
def xBor (i : Nat) : M O := fun s => match getS s.env i with
  | some o => .ok o s
  | none => .no
/-- .. taken out of its slot -/
def xMov (i : Nat) : M O := fun s => match getS s.env i with
  | some o => .ok o ⟨if isFz o then s.env else setS s.env i none, s.mu⟩
  | none => .no
def xC (d : D) : M O := ret (.fz d)
@[simp] theorem xC_app (d : D) (s : S) : xC d s = .ok (.fz d) s := rfl
theorem slots_get {F H : Hp} {al : List Addr} : ∀ {env : List (Option O)} {σ : L2.St} {fp : List Addr} {i : Nat} {o : O}, Slots G F al H env σ fp → getS env i = some o →
    ∃ v f1 f2 f3, σ[i]? = some (some v) ∧ OwnT G F al H o v f2 ∧ fp = f1 ++ (f2 ++ f3)
  | _, _, _, i, o, .nil, e => by cases i <;> cases e
  | _, _, _, 0, o, .un h, e => by cases e
  | _, _, _, i + 1, o, .un h, e => by
    obtain ⟨v, f1, f2, f3, q1, q2, q3⟩ := slots_get (i := i) h e
    exact ⟨v, f1, f2, f3, by simpa using q1, q2, q3⟩
  | _, _, _, 0, o, .so (fp := fp) (fq := fq) h hs, e => by cases e; exact ⟨_, [], fp, fq, rfl, h, rfl⟩
  | _, _, _, i + 1, o, .so (fp := fp) h hs, e => by
    obtain ⟨v, f1, f2, f3, q1, q2, q3⟩ := slots_get (i := i) hs e
    exact ⟨v, fp ++ f1, f2, f3, by simpa using q1, q2, by rw [q3, List.append_assoc]⟩
/-- a slot exchanged -/
theorem slots_set {F H : Hp} {al : List Addr} : ∀ {env : List (Option O)} {σ : L2.St} {fp : List Addr} {i : Nat} {o : O}, Slots G F al H env σ fp → getS env i = some o →
    ∃ v f1 f2 f3, σ[i]? = some (some v) ∧ OwnT G F al H o v f2 ∧ fp = f1 ++ (f2 ++ f3) ∧ ∀ (F' H' : Hp) (al' : List Addr), Mo F F' al al' → (∀ a ∈ f1 ++ f3, H' a = H a) →
      (∀ o' f', OwnT G F' al' H' o' v f' → Slots G F' al' H' (setS env i (some o')) σ (f1 ++ (f' ++ f3))) ∧ Slots G F' al' H' (setS env i none) σ (f1 ++ f3)
  | _, _, _, i, o, .nil, e => by cases i <;> cases e
  | _, _, _, 0, o, .un h, e => by cases e
  | _, _, _, i + 1, o, .un h, e => by
    obtain ⟨v, f1, f2, f3, q1, q2, q3, q4⟩ := slots_set (i := i) h e
    exact ⟨v, f1, f2, f3, by simpa using q1, q2, q3, fun F' H' al' m k => ⟨fun o' f' t => .un ((q4 F' H' al' m k).1 o' f' t), .un (q4 F' H' al' m k).2⟩⟩
  | _, _, _, 0, o, .so (fp := fp) (fq := fq) h hs, e => by
    cases e
    exact ⟨_, [], fp, fq, rfl, h, rfl, fun F' H' al' m k => ⟨fun o' f' t => .so (fp := f') t (hs.mo m k), .un (hs.mo m k)⟩⟩
  | _, _, _, i + 1, o, .so (fp := fp) h hs, e => by
    obtain ⟨v, f1, f2, f3, q1, q2, q3, q4⟩ := slots_set (i := i) hs e
    refine ⟨v, fp ++ f1, f2, f3, by simpa using q1, q2, by rw [q3, List.append_assoc], fun F' H' al' m k => ?_⟩
    have k1 : ∀ a ∈ fp, H' a = H a := fun a ha => k a (List.mem_append_left _ (List.mem_append_left _ ha))
    have k2 : ∀ a ∈ f1 ++ f3, H' a = H a := fun a ha => k a (by
      rw [List.append_assoc]; exact List.mem_append_right _ ha)
    refine ⟨fun o' f' t => ?_, ?_⟩
    · rw [List.append_assoc]; exact .so (h.mo m k1) ((q4 F' H' al' m k2).1 o' f' t)
    · rw [List.append_assoc]; exact .so (h.mo m k1) (q4 F' H' al' m k2).2
/-- a slot stored to -/
theorem slots_put {F H : Hp} {al : List Addr} : ∀ {env : List (Option O)} {σ : L2.St} {fp : List Addr} (i : Nat), Slots G F al H env σ fp →
    ∃ f1 f2 f3, fp = f1 ++ (f2 ++ f3) ∧ (env.length ≤ i → f2 = []) ∧ ∀ (F' H' : Hp) (al' : List Addr), Mo F F' al al' → (∀ a ∈ f1 ++ f3, H' a = H a) →
      (i < env.length → ∀ o' v' f', OwnT G F' al' H' o' v' f' → Slots G F' al' H' (setS env i (some o')) (σ.set i (some v')) (f1 ++ (f' ++ f3))) ∧
      ∀ x, Slots G F' al' H' (setS env i none) (σ.set i x) (f1 ++ f3)
  | _, _, _, i, .nil => ⟨[], [], [], rfl, fun _ => rfl, fun F' H' al' m k => ⟨fun h => absurd h (Nat.not_lt_zero _), fun x => by cases i <;> exact .nil⟩⟩
  | _, _, _, 0, .un (fp := fp) h => ⟨[], [], fp, rfl, fun _ => rfl, fun F' H' al' m k => ⟨fun _ o' v' f' t => .so (fp := f') t (h.mo m k), fun x => .un (h.mo m k)⟩⟩
  | _, _, _, i + 1, .un h => by
    obtain ⟨f1, f2, f3, q3, q5, q4⟩ := slots_put i h
    exact ⟨f1, f2, f3, q3, fun z => q5 (by simpa using z), fun F' H' al' m k => ⟨fun z o' v' f' t => .un ((q4 F' H' al' m k).1 (by simpa using z) o' v' f' t), fun x => .un ((q4 F' H' al' m k).2 x)⟩⟩
  | _, _, _, 0, .so (fp := fp) (fq := fq) h hs => ⟨[], fp, fq, rfl, fun z => absurd z (by simp), fun F' H' al' m k => ⟨fun _ o' v' f' t => .so (fp := f') t (hs.mo m k), fun x => .un (hs.mo m k)⟩⟩
  | _, _, _, i + 1, .so (fp := fp) h hs => by
    obtain ⟨f1, f2, f3, q3, q5, q4⟩ := slots_put i hs
    refine ⟨fp ++ f1, f2, f3, by rw [q3, List.append_assoc], fun z => q5 (by simpa using z), fun F' H' al' m k => ?_⟩
    have k1 : ∀ a ∈ fp, H' a = H a := fun a ha => k a (List.mem_append_left _ (List.mem_append_left _ ha))
    have k2 : ∀ a ∈ f1 ++ f3, H' a = H a := fun a ha => k a (by
      rw [List.append_assoc]; exact List.mem_append_right _ ha)
    refine ⟨fun z o' v' f' t => ?_, fun x => ?_⟩
    · rw [List.append_assoc]; exact .so (h.mo m k1) ((q4 F' H' al' m k2).1 (by simpa using z) o' v' f' t)
    · rw [List.append_assoc]; exact .so (h.mo m k1) ((q4 F' H' al' m k2).2 x)
theorem mem_ends {f1 f2 f3 : List Addr} {a : Addr} (h : a ∈ f1 ++ f3) : a ∈ f1 ++ (f2 ++ f3) := by
  rcases List.mem_append.mp h with k | k
  · exact List.mem_append_left _ k
  · exact List.mem_append_right _ (List.mem_append_right _ k)
theorem mem_mid {f1 f2 f3 : List Addr} {a : Addr} (h : a ∈ f2) : a ∈ f1 ++ (f2 ++ f3) := List.mem_append_right _ (List.mem_append_left _ h)
theorem nd_ends {f1 f2 f3 : List Addr} (h : (f1 ++ (f2 ++ f3)).Nodup) : (f1 ++ f3).Nodup ∧ f2.Nodup ∧ ∀ a ∈ f2, a ∉ f1 ++ f3 := by
  have h1 := List.nodup_append.mp h
  have h2 := List.nodup_append.mp h1.2.1
  refine ⟨h.sublist (List.Sublist.append_left (List.sublist_append_right _ _) _), h2.1, fun a ha hk => ?_⟩
  rcases List.mem_append.mp hk with k | k
  · exact h1.2.2 a k a (List.mem_append_left _ ha) rfl
  · exact h2.2.2 a ha a k rfl
/-- the slot at i given up: what it owned is owned by nothing -/
theorem rel_out {st : S} {σ : L2.St} {c : Cf} {i : Nat} {o : O} (r : Rel G st σ c) (e : getS st.env i = some o) : ∃ v f2 fs', σ[i]? = some (some v) ∧ OwnT G c.F c.al c.H o v f2 ∧
    Rel G ⟨setS st.env i none, st.mu⟩ σ { c with fs := fs' } ∧ Fresh f2 { c with fs := fs' } ∧ GoE c { c with fs := fs' } ∧ (∀ a ∈ f2, a ∈ c.fs) ∧
    ∀ F' H' al', Mo c.F F' c.al al' → (∀ a ∈ fs', H' a = c.H a) → ∀ o', OwnT G F' al' H' o' v [] → Slots G F' al' H' (setS st.env i (some o')) σ fs' := by
  obtain ⟨v, f1, f2, f3, q1, q2, q3, q4⟩ := slots_set r.slots e
  have nd := r.nds
  rw [q3] at nd
  obtain ⟨n1, n2, n3⟩ := nd_ends nd
  have sub : ∀ a, a ∈ f1 ++ f3 → a ∈ c.fs := fun a h => by rw [q3]; exact mem_ends h
  have sub2 : ∀ a, a ∈ f2 → a ∈ c.fs := fun a h => by rw [q3]; exact mem_mid h
  refine ⟨v, f2, f1 ++ f3, q1, q2, ⟨r.sub, fun a h => r.own a (h.elim (fun h => .inl (sub a h)) .inr), n1, r.ndc, fun a h => r.dis a (sub a h), (q4 c.F c.H c.al (Mo.refl _ _) fun _ _ => rfl).2, r.cells⟩,
    ⟨n2, fun a h => r.own a (.inl (sub2 a h)), n3, fun a h => r.dis a (sub2 a h)⟩,
    { mo := Mo.refl _ _, fr := fun _ _ _ _ => rfl, fp := fun a h => h.elim (fun h => .inl (sub a h)) (fun h => .inr (.inl h)), nF := fun a h => .inl h,
      hs := fun _ _ _ => rfl, sf := sub, cf := fun a h k => absurd h (r.dis a k) }, sub2, fun F' H' al' m k o' t => (q4 F' H' al' m k).1 o' [] t⟩
theorem own_fz {F H : Hp} {al : List Addr} {o : O} {v : V} {fp : List Addr} (h : OwnT G F al H o v fp) (z : isFz o = true) : fp = [] ∧ Rp G F al v o.toD := by
  cases h with
  | fz h => exact ⟨rfl, by rw [O.toD]; exact h⟩
  | _ => cases z
theorem x_var {i : Nat} {x : Str} {pos : Pos} (hN : X.N[i]? = some x) (hv : Vis X.env.scope x) (hd : (x == ("__debug__" : Str)) = false := by decide) (hcd : (x == ("__classdict__" : Str)) = false := by decide) :
    PE X (.Name x pos) (tO G W (xVar i)) := (pe_var hN hv hd hcd).weak fun σ H Q q => by
  obtain ⟨c, st, rfl, r, h⟩ := q
  unfold xVar at h
  cases e : getS st.env i with
  | none => rw [e] at h; exact h.elim
  | some o =>
    rw [e] at h
    dsimp only [wp] at h
    obtain ⟨v, f2, fs', q1, q2, r2, fr, g, sb, q4⟩ := rel_out r e
    refine ⟨v, q1, ?_⟩
    cases z : isFz o with
    | true =>
      obtain ⟨rfl, rp⟩ := own_fz q2 z
      rw [z] at h
      exact h v c r (GoE.refl r) ⟨[], .fz rp, Fresh.nil _, New.nil _⟩
    | false =>
      rw [z] at h
      have r3 := r2.freeze fr
      have t3 := OwnT.frz (c := { c with fs := fs' }) q2 r2
      have nw : New f2 c := fun a ha => .inl (sb a ha)
      refine h v (Cf.frz { c with fs := fs' } f2) ?_ (g.freeze nw r2) ⟨[], .fz t3, Fresh.nil _, New.nil _⟩
      exact ⟨r3.sub, r3.own, r3.nds, r3.ndc, r3.dis, q4 _ _ _ (.of (frz_sub (c := { c with fs := fs' }) r2) fun _ _ h => h) (fun _ _ => rfl) _ (.fz t3), r3.cells⟩
theorem x_mov {i : Nat} {x : Str} {pos : Pos} (hN : X.N[i]? = some x) (hv : Vis X.env.scope x) (hd : (x == ("__debug__" : Str)) = false := by decide) (hcd : (x == ("__classdict__" : Str)) = false := by decide) :
    PE X (.Name x pos) (tO G W (xMov i)) := (pe_var hN hv hd hcd).weak fun σ H Q q => by
  obtain ⟨c, st, rfl, r, h⟩ := q
  unfold xMov at h
  cases e : getS st.env i with
  | none => rw [e] at h; exact h.elim
  | some o =>
    rw [e] at h
    dsimp only [wp] at h
    obtain ⟨v, f2, fs', q1, q2, r2, fr, g, sb, q4⟩ := rel_out r e
    refine ⟨v, q1, ?_⟩
    cases z : isFz o with
    | true =>
      obtain ⟨rfl, rp⟩ := own_fz q2 z
      rw [z] at h
      exact h v c r (GoE.refl r) ⟨[], q2, Fresh.nil _, New.nil _⟩
    | false =>
      rw [z] at h
      exact h v { c with fs := fs' } r2 g ⟨f2, q2, fr, fun a ha => .inl (sb a ha)⟩
theorem x_bvar {i : Nat} {x : Str} {pos : Pos} (hN : X.N[i]? = some x) (hv : Vis X.env.scope x) (hd : (x == ("__debug__" : Str)) = false := by decide) (hcd : (x == ("__classdict__" : Str)) = false := by decide) :
    PE X (.Name x pos) (tBr G W (xBor i)) := (pe_var hN hv hd hcd).weak fun σ H Q q => by
  obtain ⟨c, st, rfl, r, h⟩ := q
  unfold xBor at h
  cases e : getS st.env i with
  | none => rw [e] at h; exact h.elim
  | some o =>
    rw [e] at h
    dsimp only [wp] at h
    obtain ⟨v, f2, fs', q1, q2, r2, fr, g, sb, q4⟩ := rel_out r e
    exact ⟨v, q1, h v c r (GoE.refl r) ⟨f2, q2, fun a ha => r.dis a (sb a ha)⟩⟩
theorem x_c {e : Expr} {v : V} {d : D} (h : PE X e (tC v)) (hr : ∀ F al, Rp G F al v d) : PE X e (tO G W (xC d)) := h.weak fun σ H Q q => by
  obtain ⟨c, st, rfl, r, h⟩ := q
  exact h v c r (GoE.refl r) ⟨[], .fz (hr _ _), Fresh.nil _, New.nil _⟩

/-! ### operators -/
/-- an operator by values, and what it gives of trees -/
def OpD (G : Gi) (r : R2) (g : D → D → Option O) : Prop := ∀ (st : S) (σ : L2.St) (c : Cf) (x y : V) (ox oy : O) (fx fy : List Addr) (o : O) (Q : VK), Rel G st σ c →
  OwnT G c.F c.al c.H ox x fx → OwnT G c.F c.al c.H oy y fy → g ox.toD oy.toD = some o →
  (∀ v c', Rel G st σ c' → GoE c c' → PrO G o c c' v → Q v c'.H) → r x y c.H Q
def UnD (G : Gi) (r : V → Hp → VK → Prop) (g : D → Option O) : Prop := ∀ (st : S) (σ : L2.St) (c : Cf) (x : V) (ox : O) (fx : List Addr) (o : O) (Q : VK), Rel G st σ c →
  OwnT G c.F c.al c.H ox x fx → g ox.toD = some o → (∀ v c', Rel G st σ c' → GoE c c' → PrO G o c c' v → Q v c'.H) → r x c.H Q
def xOp (g : D → D → Option O) (ma mb : M O) : M O := bnd ma fun x => bnd mb fun y => ofO (g x.toD y.toD)
def xUn (g : D → Option O) (ma : M O) : M O := bnd ma fun x => ofO (g x.toD)
@[simp] theorem xOp_app (g : D → D → Option O) (ma mb : M O) (s : S) : xOp g ma mb s = (ma s).bind fun x s1 => (mb s1).bind fun y s2 => ofO (g x.toD y.toD) s2 := rfl
@[simp] theorem xUn_app (g : D → Option O) (ma : M O) (s : S) : xUn g ma s = (ma s).bind fun x s1 => ofO (g x.toD) s1 := rfl
theorem op_t {r : R2} {g : D → D → Option O} (hr : OpD G r g) {σ : L2.St} {H : Hp} {Q : VK} (q : tO G W (xOp g ma mb) σ H Q) : tOp r (tBr G W ma) (tLa G W mb) σ H Q := by
  show tBr G W ma σ H (fun x H1 => tLa G W mb σ H1 (fun y H2 => r x y H2 Q))
  refine q.seq bkO _ (fun ox x c c1 st1 r1 g1 p1 w => ?_)
  obtain ⟨fx, tx, kx⟩ := p1
  refine tG.seq1 bkO r1 w _ (fun oy y c2 st2 r2 g2 p2 w2 => ?_)
  obtain ⟨fy, ty⟩ := p2
  obtain ⟨o, eo, q3⟩ := wp_ofO.mp w2
  exact hr st2 σ c2 x y ox oy fx fy o Q r2 (kx.go tx g2) ty eo q3
theorem un_t {r : V → Hp → VK → Prop} {g : D → Option O} (hr : UnD G r g) {σ : L2.St} {H : Hp} {Q : VK} (q : tO G W (xUn g ma) σ H Q) : tUn r (tLa G W ma) σ H Q := by
  show tLa G W ma σ H (fun x H1 => r x H1 Q)
  refine q.seq bkO _ (fun ox x c c1 st1 r1 g1 p1 w => ?_)
  obtain ⟨fx, tx⟩ := p1
  obtain ⟨o, eo, q3⟩ := wp_ofO.mp w
  exact hr st1 σ c1 x ox fx o Q r1 tx eo q3
theorem x_op {op : Operator} {r : R2} {g : D → D → Option O} {pos : Pos} (ho : OpR X (binaryOp op) r) (hr : OpD G r g) (ha : PE X a (tBr G W ma)) (hb : PE X b (tLa G W mb)) :
    PE X (.BinOp a op b pos) (tO G W (xOp g ma mb)) := (pe_op ho ha hb).weak fun σ H Q q => op_t hr q
theorem x_cmp {op : CmpOp} {r : R2} {g : D → D → Option O} {pos : Pos} (ho : OpR X (compareOp op) r) (hr : OpD G r g) (ha : PE X a (tBr G W ma)) (hb : PE X b (tLa G W mb)) (hm : behindInMarks op b = false) :
    PE X (.Compare a [op] [b] pos) (tO G W (xOp g ma mb)) := (pe_cmpR ho ha hb hm).weak fun σ H Q q => op_t hr q
theorem x_ix {r : R2} {g : D → D → Option O} {pos : Pos} (ho : IxR X r) (hr : OpD G r g) (ha : PE X a (tBr G W ma)) (hb : PE X b (tLa G W mb)) (hs : PlainIx b) :
    PE X (.Subscript a b pos) (tO G W (xOp g ma mb)) := (pe_ix ho ha hb hs).weak fun σ H Q q => op_t hr q
theorem x_un {op : UnaryOp} {r : V → Hp → VK → Prop} {g : D → Option O} {pos : Pos} (ho : UnR X (unaryOp op) r) (hr : UnD G r g) (ha : PE X a (tLa G W ma)) :
    PE X (.UnaryOp op a pos) (tO G W (xUn g ma)) := (pe_un ho ha).weak fun σ H Q q => un_t hr q
/-- a truth out of a tree -/
def asB : O → Option Bool
  | .fz (.bl b) => some b
  | _ => none
def toB (m : M O) : M Bool := bnd m fun o => ofO (asB o)
@[simp] theorem toB_app (m : M O) (s : S) : toB m s = (m s).bind fun o => ofO (asB o) := rfl
theorem test_t {Pr : O → Cf → Cf → V → Prop} (hp : ∀ b c c' v, Pr (.fz (.bl b)) c c' v → v = .bl b) {σ : L2.St} {H : Hp} {Q : Bool → Hp → Prop} (q : tTs G W (toB m) σ H Q) :
    tG G W Pr m σ H fun x H' => ∃ k, x = .bl k ∧ Q k H' := by
  refine q.seq bkT _ (fun o v c c1 st1 r1 g1 p w => ?_)
  obtain ⟨b, eb, q3⟩ := wp_ofO.mp w
  have eo : o = .fz (.bl b) := by
    unfold asB at eb
    split at eb
    · cases eb; rfl
    · cases eb
  subst eo
  exact ⟨b, hp b c c1 v p, q3 b c1 r1 (GoE.refl r1) rfl⟩
theorem own_bl {F H : Hp} {al : List Addr} {b : Bool} {v : V} {fp : List Addr} (h : OwnT G F al H (.fz (.bl b)) v fp) : v = .bl b := by
  cases h with
  | fz h => cases h; rfl
theorem prO_bl (b : Bool) (c c' : Cf) (v : V) (h : PrO G (.fz (.bl b)) c c' v) : v = .bl b := by obtain ⟨fp, t, _⟩ := h; exact own_bl t
theorem xt_val (h : PE X e (tO G W m)) (he : ∀ whole, isTrue e X.env whole = (do let v ← whole; standAt e.pos; holding [v] (truthy v)) := by intro _; rfl) :
    PT X e (tTs G W (toB m)) := (pt_val h he).weak fun σ H Q q => test_t (prO_bl) q
theorem xt_cmp {op : CmpOp} {r : R2} {g : D → D → Option O} {pos : Pos} (ho : OpR X (compareOp op) r) (hr : OpD G r g) (ha : PE X a (tBr G W ma)) (hb : PE X b (tLa G W mb)) (hm : behindInMarks op b = false) :
    PT X (.Compare a [op] [b] pos) (tTs G W (toB (xOp g ma mb))) := (pt_cmpR ho ha hb hm).weak fun σ H Q q => by
  have q2 := test_t (prO_bl (G := G)) q
  exact op_t hr q2

/-! ### and, or, not; a if b else c -/
def bAnd (ma mb : M Bool) : M Bool := bnd ma fun x => if x = true then mb else ret false
def bOr (ma mb : M Bool) : M Bool := bnd ma fun x => if x = true then ret true else mb
def bNot (ma : M Bool) : M Bool := bnd ma fun x => ret (!x)
def xIf (mt : M Bool) (ma mb : M O) : M O := bnd mt fun x => if x = true then ma else mb
@[simp] theorem bAnd_app (ma mb : M Bool) (s : S) : bAnd ma mb s = (ma s).bind fun x => if x = true then mb else ret false := rfl
@[simp] theorem bOr_app (ma mb : M Bool) (s : S) : bOr ma mb s = (ma s).bind fun x => if x = true then ret true else mb := rfl
@[simp] theorem bNot_app (ma : M Bool) (s : S) : bNot ma s = (ma s).bind fun x => ret (!x) := rfl
@[simp] theorem xIf_app (mt : M Bool) (ma mb : M O) (s : S) : xIf mt ma mb s = (mt s).bind fun x => if x = true then ma else mb := rfl
theorem and_t {ma mb : M Bool} {σ : L2.St} {H : Hp} {Q : Bool → Hp → Prop} (q : tTs G W (bAnd ma mb) σ H Q) : tAnd (tTs G W ma) (tTs G W mb) σ H Q := by
  show tTs G W ma σ H fun c H1 => if c = true then tTs G W mb σ H1 Q else Q false H1
  refine q.seq bkT _ (fun o v c c1 st1 r1 g1 p w => ?_)
  obtain rfl : v = o := p
  cases v with
  | true => exact tG.at r1 w
  | false => exact w false c1 r1 (GoE.refl r1) rfl
theorem or_t {ma mb : M Bool} {σ : L2.St} {H : Hp} {Q : Bool → Hp → Prop} (q : tTs G W (bOr ma mb) σ H Q) : tOr (tTs G W ma) (tTs G W mb) σ H Q := by
  show tTs G W ma σ H fun c H1 => if c = true then Q true H1 else tTs G W mb σ H1 Q
  refine q.seq bkT _ (fun o v c c1 st1 r1 g1 p w => ?_)
  obtain rfl : v = o := p
  cases v with
  | false => exact tG.at r1 w
  | true => exact w true c1 r1 (GoE.refl r1) rfl
theorem not_t {ma : M Bool} {σ : L2.St} {H : Hp} {Q : Bool → Hp → Prop} (q : tTs G W (bNot ma) σ H Q) : tNot (tTs G W ma) σ H Q := by
  show tTs G W ma σ H fun c H1 => Q (!c) H1
  refine q.seq bkT _ (fun o v c c1 st1 r1 g1 p w => ?_)
  obtain rfl : v = o := p
  exact w (!v) c1 r1 (GoE.refl r1) rfl
theorem if_t {Pr : O → Cf → Cf → V → Prop} (hb : Bk Pr) {mt : M Bool} {σ : L2.St} {H : Hp} {Q : VK} (q : tG G W Pr (xIf mt ma mb) σ H Q) : tIf (tTs G W mt) (tG G W Pr ma) (tG G W Pr mb) σ H Q := by
  show tTs G W mt σ H fun c H1 => if c = true then tG G W Pr ma σ H1 Q else tG G W Pr mb σ H1 Q
  refine q.seq hb _ (fun o v c c1 st1 r1 g1 p w => ?_)
  obtain rfl : v = o := p
  cases v with
  | true => exact tG.at r1 w
  | false => exact tG.at r1 w
section
variable {A B A2 : Expr} {rest : List Expr} {pos : Pos} {ma mb mt : M Bool}
theorem xw_and1 (ha : PT X A (tTs G W ma)) : PW X (.BoolOp .And [A] pos) (tTs G W ma) := pw_and1 ha
theorem xw_or1 (ha : PT X A (tTs G W ma)) : PW X (.BoolOp .Or [A] pos) (tTs G W ma) := pw_or1 ha
theorem xw_and (ha : PT X A (tTs G W ma)) (hb : PW X (.BoolOp .And (B :: rest) pos) (tTs G W mb)) : PW X (.BoolOp .And (A :: B :: rest) pos) (tTs G W (bAnd ma mb)) := (pw_and ha hb).weak fun _ _ _ q => and_t q
theorem xw_or (ha : PT X A (tTs G W ma)) (hb : PW X (.BoolOp .Or (B :: rest) pos) (tTs G W mb)) : PW X (.BoolOp .Or (A :: B :: rest) pos) (tTs G W (bOr ma mb)) := (pw_or ha hb).weak fun _ _ _ q => or_t q
theorem xt_not (ha : PT X A (tTs G W ma)) : PT X (.UnaryOp .Not A pos) (tTs G W (bNot ma)) := (pt_not ha).weak fun _ _ _ q => not_t q
theorem x_if {mx my : M O} (ht : PT X A (tTs G W mt)) (ha : PE X B (tO G W mx)) (hb : PE X A2 (tO G W my)) : PE X (.IfExp A B A2 pos) (tO G W (xIf mt mx my)) :=
  (pe_ifExp ht ha hb).weak fun _ _ _ q => if_t bkO q
end
/-- and, or, not as values: truths alone -/
def xAndV (ma mb : M O) : M O := bnd (toB ma) fun x => if x = true then mb else ret (.fz (.bl false))
def xOrV (ma mb : M O) : M O := bnd (toB ma) fun x => if x = true then ret (.fz (.bl true)) else mb
def xNotV (ma : M O) : M O := bnd (toB ma) fun x => ret (.fz (.bl (!x)))
@[simp] theorem xAndV_app (ma mb : M O) (s : S) : xAndV ma mb s = (toB ma s).bind fun x => if x = true then mb else ret (.fz (.bl false)) := rfl
@[simp] theorem xOrV_app (ma mb : M O) (s : S) : xOrV ma mb s = (toB ma s).bind fun x => if x = true then ret (.fz (.bl true)) else mb := rfl
@[simp] theorem xNotV_app (ma : M O) (s : S) : xNotV ma s = (toB ma s).bind fun x => ret (.fz (.bl (!x))) := rfl
theorem prO_fz {c c' : Cf} {v : V} {d : D} (h : Rp G c'.F c'.al v d) : PrO G (.fz d) c c' v := ⟨[], .fz h, Fresh.nil _, New.nil _⟩
theorem andV_t {σ : L2.St} {H : Hp} {Q : VK} (q : tO G W (xAndV ma mb) σ H Q) : tAndV (tO G W ma) (tO G W mb) σ H Q := by
  show tO G W ma σ H fun x H1 => ∃ c, x = .bl c ∧ if c = true then tO G W mb σ H1 Q else Q (.bl false) H1
  refine test_t prO_bl (q.seq bkO (fun b H1 => if b = true then tO G W mb σ H1 Q else Q (.bl false) H1) (fun o v c c1 st1 r1 g1 p w => ?_))
  obtain rfl : v = o := p
  cases v with
  | true => exact tG.at r1 w
  | false => exact w _ c1 r1 (GoE.refl r1) (prO_fz (.bl _))
theorem orV_t {σ : L2.St} {H : Hp} {Q : VK} (q : tO G W (xOrV ma mb) σ H Q) : tOrV (tO G W ma) (tO G W mb) σ H Q := by
  show tO G W ma σ H fun x H1 => ∃ c, x = .bl c ∧ if c = true then Q (.bl true) H1 else tO G W mb σ H1 Q
  refine test_t prO_bl (q.seq bkO (fun b H1 => if b = true then Q (.bl true) H1 else tO G W mb σ H1 Q) (fun o v c c1 st1 r1 g1 p w => ?_))
  obtain rfl : v = o := p
  cases v with
  | false => exact tG.at r1 w
  | true => exact w _ c1 r1 (GoE.refl r1) (prO_fz (.bl _))
theorem notV_t {σ : L2.St} {H : Hp} {Q : VK} (q : tO G W (xNotV ma) σ H Q) : tNotV (tO G W ma) σ H Q := by
  show tO G W ma σ H fun x H1 => ∃ c, x = .bl c ∧ Q (.bl (!c)) H1
  refine test_t prO_bl (q.seq bkO (fun b H1 => Q (.bl (!b)) H1) (fun o v c c1 st1 r1 g1 p w => ?_))
  obtain rfl : v = o := p
  exact w _ c1 r1 (GoE.refl r1) (prO_fz (.bl _))
theorem x_and {rest : List Expr} {pos : Pos} (ha : PE X a (tO G W ma)) (hb : PE X (.BoolOp .And (b :: rest) pos) (tO G W mb)) : PE X (.BoolOp .And (a :: b :: rest) pos) (tO G W (xAndV ma mb)) := (pe_and ha hb).weak fun _ _ _ q => andV_t q
theorem x_or {rest : List Expr} {pos : Pos} (ha : PE X a (tO G W ma)) (hb : PE X (.BoolOp .Or (b :: rest) pos) (tO G W mb)) : PE X (.BoolOp .Or (a :: b :: rest) pos) (tO G W (xOrV ma mb)) := (pe_or ha hb).weak fun _ _ _ q => orV_t q
theorem x_not {pos : Pos} (ha : PE X a (tO G W ma)) : PE X (.UnaryOp .Not a pos) (tO G W (xNotV ma)) := (pe_not ha).weak fun _ _ _ q => notV_t q

/-! ### argument lists, tuples, lists -/
def aNil : M (List D) := ret []
def aCons (m : M D) (ms : M (List D)) : M (List D) := bnd m fun d => bnd ms fun ds => ret (d :: ds)
@[simp] theorem aNil_app (s : S) : aNil s = .ok [] s := rfl
@[simp] theorem aCons_app (m : M D) (ms : M (List D)) (s : S) : aCons m ms s = (m s).bind fun d s1 => (ms s1).bind fun ds => ret (d :: ds) := rfl
theorem xa_nil : PA X [] (tAs G W aNil) := (pa_nil (X := X)).weak fun σ H Q q => by
  obtain ⟨c, st, rfl, r, h⟩ := q
  exact h [] c r (GoE.refl r) .nil
theorem cons_t {m : M D} {ms : M (List D)} {σ : L2.St} {H : Hp} {Q : List V → Hp → Prop} (q : tAs G W (aCons m ms) σ H Q) : tCons (tD G W m) (tAs G W ms) σ H Q := by
  show tD G W m σ H fun x H1 => tAs G W ms σ H1 fun xs H2 => Q (x :: xs) H2
  refine q.seq bkA _ (fun d v c c1 st1 r1 g1 p1 w => ?_)
  refine tG.seq1 bkA r1 w _ (fun ds vs c2 st2 r2 g2 p2 w2 => ?_)
  exact w2 (v :: vs) c2 r2 (GoE.refl r2) (.cons (p1.mo g2.mo) p2)
theorem xa_cons {m : M D} {ms : M (List D)} {es : List Expr} (ha : PE X e (tD G W m)) (hr : PA X es (tAs G W ms)) (hs : starEach (e :: es) X.env = (false, eval e X.env) :: starEach es X.env := by rfl) :
    PA X (e :: es) (tAs G W (aCons m ms)) := (pa_cons ha hr hs).weak fun _ _ _ q => cons_t q
theorem xk_nil : PK X [] (tAs G W aNil) := (pk_nil (X := X)).weak fun σ H Q q => by
  obtain ⟨c, st, rfl, r, h⟩ := q
  exact h [] c r (GoE.refl r) .nil
theorem xk_cons {m : M D} {ms : M (List D)} {nm : Option Str} {kpos : Pos} {kws : List Keyword} (ha : PE X e (tD G W m)) (hr : PK X kws (tAs G W ms)) : PK X (⟨nm, e, kpos⟩ :: kws) (tAs G W (aCons m ms)) :=
  (pk_cons ha hr).weak fun _ _ _ q => cons_t q
/-- what a display of n things gives -/
def dTup (ds : List D) : Option O := if ds.length ≤ 16777216 then some (.fz (.tup ds)) else none
def dLst (ds : List D) : Option O := if ds.length ≤ 16777216 then some (.lst ds) else none
def xTup (ms : M (List D)) : M O := bnd ms fun ds => ofO (dTup ds)
def xLst (ms : M (List D)) : M O := bnd ms fun ds => ofO (dLst ds)
@[simp] theorem xTup_app (ms : M (List D)) (s : S) : xTup ms s = (ms s).bind fun ds => ofO (dTup ds) := rfl
@[simp] theorem xLst_app (ms : M (List D)) (s : S) : xLst ms s = (ms s).bind fun ds => ofO (dLst ds) := rfl
/-- a new frozen object -/
theorem new_fz {st : S} {σ : L2.St} {c : Cf} {p : Addr} {o : HO} {d : D} (r : Rel G st σ c) (h : c.H p = none)
    (hp : Rp G (frzF (c.new p o) [p]) c.al (.ref p) d) : ∃ c', c'.H = upd c.H p o ∧ Rel G st σ c' ∧ GoE c c' ∧ PrO G (.fz d) c c' (.ref p) := by
  have r1 := r.new (o := o) h
  have f := Fresh.new (o := o) r h
  exact ⟨(c.new p o).frz [p], rfl, r1.freeze f, (GoE.new r h).freeze (New.new h) r1, [], .fz hp, Fresh.nil _, New.nil _⟩
theorem new_ow {st : S} {σ : L2.St} {c : Cf} {p : Addr} {o : HO} {t : O} (r : Rel G st σ c) (h : c.H p = none)
    (hp : OwnT G c.F c.al (upd c.H p o) t (.ref p) [p]) : ∃ c', c'.H = upd c.H p o ∧ Rel G st σ c' ∧ GoE c c' ∧ PrO G t c c' (.ref p) :=
  ⟨c.new p o, rfl, r.new h, GoE.new r h, [p], hp, Fresh.new r h, New.new h⟩
theorem frzF_same {c : Cf} {p : Addr} {o : HO} : frzF (c.new p o) [p] p = some o := by
  unfold frzF
  rw [if_pos (List.mem_singleton_self _)]
  exact upd_same
theorem mo_new {st : S} {σ : L2.St} {c : Cf} {p : Addr} {o : HO} (r : Rel G st σ c) (h : c.H p = none) : Mo c.F (frzF (c.new p o) [p]) c.al c.al :=
  .of (frz_sub (r.new (o := o) h)) fun _ _ h => h
theorem x_tup {es : List Expr} {ms : M (List D)} {x1 : Nat} {pos : Pos} (h : PA X es (tAs G W ms)) : PE X (.Tuple es x1 pos) (tO G W (xTup ms)) := (pe_tup h).weak fun σ H Q q => by
  show tAs G W ms σ H fun xs H1 => xs.length ≤ sizeLine ∧ ∀ p, H1 p = none → Q (.ref p) (upd H1 p (.tup xs))
  refine q.seq bkO _ (fun ds vs c c1 st1 r1 g1 p1 w => ?_)
  obtain ⟨o, eo, q3⟩ := wp_ofO.mp w
  unfold dTup at eo
  split at eo
  · rename_i hl
    cases eo
    have hl2 := p1.len
    refine ⟨by rw [szl]; omega, fun p hp => ?_⟩
    obtain ⟨c', e, r', g', p'⟩ := new_fz (G := G) (o := .tup vs) (d := .tup ds) r1 hp (.tup frzF_same (p1.mo (mo_new r1 hp)))
    rw [← e]
    exact q3 _ c' r' g' p'
  · cases eo
theorem x_lst {es : List Expr} {ms : M (List D)} {pos : Pos} (h : PA X es (tAs G W ms)) : PE X (.List es pos) (tO G W (xLst ms)) := (pe_lst h).weak fun σ H Q q => by
  show tAs G W ms σ H fun xs H1 => xs.length ≤ sizeLine ∧ ∀ p, H1 p = none → Q (.ref p) (upd H1 p (.lst xs))
  refine q.seq bkO _ (fun ds vs c c1 st1 r1 g1 p1 w => ?_)
  obtain ⟨o, eo, q3⟩ := wp_ofO.mp w
  unfold dLst at eo
  split at eo
  · rename_i hl
    cases eo
    have hl2 := p1.len
    refine ⟨by rw [szl]; omega, fun p hp => ?_⟩
    obtain ⟨c', e, r', g', p'⟩ := new_ow (G := G) (o := .lst vs) (t := .lst ds) r1 hp (.lst upd_same p1)
    rw [← e]
    exact q3 _ c' r' g' p'
  · cases eo
end
end L2.Tr

namespace L2.Tr
open PySem PySem.Spec PyProof.Rows L2 L2.Pc

/-! ### what a value is, by its tree -/
def Vi (G : Gi) (c : Cf) (v : V) : D → Prop
  | .non => v = .non
  | .bl b => v = .bl b
  | .int i => v = .int i
  | .str s => v = .str s
  | .tup ds => ∃ a xs, v = .ref a ∧ SqT G.K c.H a xs ∧ RpA G c.F c.al xs ds ∧ Rp G c.F c.al v (.tup ds)
  | .tuk ds => ∃ a xs, v = .ref a ∧ SqT G.K c.H a xs ∧ RpA G c.F c.al xs ds
  | .lst ds => ∃ a xs, v = .ref a ∧ c.H a = some (.lst xs) ∧ RpA G c.F c.al xs ds
  | .lsk ds => ∃ a xs, v = .ref a ∧ SqL G.K c.H a xs ∧ RpA G c.F c.al xs ds
  | .dct _ => ∃ a, v = .ref a
  | .dcu _ => ∃ a, v = .ref a
  | .ins _ _ => ∃ a, v = .ref a
  | .cel n => ∃ a, v = .ref a ∧ c.al[n]? = some a
  | .fn f => ∃ a, v = .ref a ∧ G.mg f = some (.ref a)
  | .ty n => v = .ty n
  | .xob _ _ => ∃ a, v = .ref a
theorem rp_view {G : Gi} {st : S} {σ : L2.St} {c : Cf} {v : V} {d : D} (r : Rel G st σ c) (t : Rp G c.F c.al v d) : Vi G c v d := by
  cases t with
  | non => rfl
  | bl b => rfl
  | int i => rfl
  | str x => rfl
  | tup h hs => exact ⟨_, _, rfl, r.rdT (.inl (.inl h)), hs, .tup h hs⟩
  | tuk h hs => exact ⟨_, _, rfl, r.rdT h, hs⟩
  | lst h hs => exact ⟨_, _, rfl, r.sub _ _ h, hs⟩
  | lsk h hs => exact ⟨_, _, rfl, r.rdL h, hs⟩
  | dcK h q hs => exact ⟨_, rfl⟩
  | dcT h q hs => exact ⟨_, rfl⟩
  | ins h q n hs => exact ⟨_, rfl⟩
  | cel h => exact ⟨_, rfl, h⟩
  | fn h => exact ⟨_, rfl, h⟩
  | ty n => rfl
  | xob h q k n hs => exact ⟨_, rfl⟩
  | xob0 h q => exact ⟨_, rfl⟩
theorem own_view {G : Gi} {st : S} {σ : L2.St} {c : Cf} {v : V} {o : O} {fp : List Addr} (r : Rel G st σ c) (t : OwnT G c.F c.al c.H o v fp) : Vi G c v o.toD := by
  cases t with
  | fz h => rw [O.toD]; exact rp_view r h
  | lst h hs => rw [O.toD]; exact ⟨_, _, rfl, h, hs⟩
  | dcK h q hs => rw [O.toD]; exact ⟨_, rfl⟩
  | dcT h q hs => rw [O.toD]; exact ⟨_, rfl⟩
  | ins h q n hs => rw [O.toD]; exact ⟨_, rfl⟩
  | dcoK h q hs => rw [O.toD]; exact ⟨_, rfl⟩
  | dcoT h q hs => rw [O.toD]; exact ⟨_, rfl⟩
/-! data without own classes; b: dicts too -/
mutual
def D.py (b : Bool) : D → Option PyData
  | .non => some .none
  | .bl x => some (.bool x)
  | .int i => some (.int i)
  | .str s => some (.str s)
  | .tup xs => (D.pyA b xs).map .tuple
  | .tuk xs => (D.pyA b xs).map .tuple
  | .lst xs => (D.pyA b xs).map .list
  | .lsk xs => (D.pyA b xs).map .list
  | .dct kvs => if b then (D.pyK b kvs).map .dict else none
  | .dcu _ => none
  | .ins _ _ => none
  | .cel _ => none
  | .fn _ => none
  | .ty _ => none
  | .xob _ _ => none
def D.pyA (b : Bool) : List D → Option (List PyData)
  | [] => some []
  | x :: xs => (D.py b x).bind fun y => (D.pyA b xs).map (y :: ·)
def D.pyK (b : Bool) : List (D × D) → Option (List (PyData × PyData))
  | [] => some []
  | (k, x) :: xs => (D.py b k).bind fun j => (D.py b x).bind fun y => (D.pyK b xs).map ((j, y) :: ·)
end
theorem map_some {α β : Type} {f : α → β} {o : Option α} {b : β} (h : o.map f = some b) : ∃ a, o = some a ∧ b = f a := by
  cases o with
  | none => cases h
  | some a => cases h; exact ⟨a, rfl, rfl⟩
theorem bind_some {α β : Type} {f : α → Option β} {o : Option α} {b : β} (h : o.bind f = some b) : ∃ a, o = some a ∧ f a = some b := by
  cases o with
  | none => cases h
  | some a => exact ⟨a, rfl, h⟩
theorem py_key {b : Bool} {k : Key} : D.py b (kD k) = some (keyD k) := by cases k <;> rfl
theorem pyK_zip {b : Bool} {kvs : List (Key × V)} : ∀ {ds : List (D × D)} {l : List (PyData × PyData)}, D.pyK b ds = some l → ds.map (·.1) = kvs.map (fun p => kD p.1) →
    ∃ ps, D.pyA b (ds.map (·.2)) = some ps ∧ l = (kvs.map fun p => keyD p.1).zip ps := by
  intro ds
  induction ds generalizing kvs with
  | nil =>
    intro l h e
    cases kvs with
    | nil => cases h; exact ⟨[], rfl, rfl⟩
    | cons _ _ => cases e
  | cons p ds ih =>
    obtain ⟨k, x⟩ := p
    intro l h e
    cases kvs with
    | nil => cases e
    | cons q kvs =>
      rw [List.map_cons, List.map_cons] at e
      injection e with e1 e2
      rw [D.pyK] at h
      obtain ⟨j, h1, h⟩ := bind_some h
      obtain ⟨y, h2, h⟩ := bind_some h
      obtain ⟨l', h3, rfl⟩ := map_some h
      obtain ⟨ps, h4, rfl⟩ := ih h3 e2
      have e1 : k = kD q.1 := e1
      rw [e1, py_key] at h1
      cases h1
      refine ⟨y :: ps, ?_, rfl⟩
      rw [List.map_cons, D.pyA, h2]
      show (D.pyA b (ds.map (·.2))).map _ = _
      rw [h4]; rfl
mutual
theorem Rp.da {G : Gi} {F H : Hp} {al : List Addr} (e : ∀ a o, F a = some o → H a = some o) : ∀ {v : V} {d : D} {p : PyData}, Rp G F al v d → d.py true = some p → Da G.K H v p
  | _, _, _, .non, h => by cases h; exact .non
  | _, _, _, .bl b, h => by cases h; exact .bl b
  | _, _, _, .int i, h => by cases h; exact .int i
  | _, _, _, .str x, h => by cases h; exact .str x
  | _, _, _, .tup q hs, h => by rw [D.py] at h; obtain ⟨ps, h1, rfl⟩ := map_some h; exact .tup (.inl (.inl (e _ _ q))) (RpA.da e hs h1)
  | _, _, _, .tuk q hs, h => by rw [D.py] at h; obtain ⟨ps, h1, rfl⟩ := map_some h; exact .tup (sqT_mo e q) (RpA.da e hs h1)
  | _, _, _, .lst q hs, h => by rw [D.py] at h; obtain ⟨ps, h1, rfl⟩ := map_some h; exact .lst (.inl (.inl (e _ _ q))) (RpA.da e hs h1)
  | _, _, _, .lsk q hs, h => by rw [D.py] at h; obtain ⟨ps, h1, rfl⟩ := map_some h; exact .lst (sqL_mo e q) (RpA.da e hs h1)
  | _, _, _, @Rp.dcK _ _ _ a kvs ds q k hs, h => by
    rw [D.py, if_pos rfl] at h
    obtain ⟨ps, h1, rfl⟩ := map_some h
    obtain ⟨ps2, h2, rfl⟩ := pyK_zip h1 k
    exact .dct (rd_mo e q) (RpA.da e hs h2)
  | _, _, _, .dcT _ _ _, h => by rw [D.py] at h; cases h
  | _, _, _, .ins _ _ _ _, h => by rw [D.py] at h; cases h
  | _, _, _, .cel _, h => by rw [D.py] at h; cases h
  | _, _, _, .fn _, h => by rw [D.py] at h; cases h
  | _, _, _, .ty _, h => by rw [D.py] at h; cases h
  | _, _, _, .xob _ _ _ _ _, h => by rw [D.py] at h; cases h
  | _, _, _, .xob0 _ _, h => by rw [D.py] at h; cases h
theorem RpA.da {G : Gi} {F H : Hp} {al : List Addr} (e : ∀ a o, F a = some o → H a = some o) : ∀ {vs : List V} {ds : List D} {ps : List PyData}, RpA G F al vs ds → D.pyA true ds = some ps → DaAll G.K H vs ps
  | _, _, _, .nil, h => by cases h; exact .nil
  | _, _, _, .cons q hs, h => by
    rw [D.pyA] at h
    obtain ⟨y, h1, h⟩ := bind_some h
    obtain ⟨ys, h2, rfl⟩ := map_some h
    exact .cons (Rp.da e q h1) (RpA.da e hs h2)
end
mutual
theorem Rp.dp {G : Gi} {F H : Hp} {al : List Addr} (e : ∀ a o, F a = some o → H a = some o) : ∀ {v : V} {d : D} {p : PyData}, Rp G F al v d → d.py false = some p → Dp G.K H v p
  | _, _, _, .non, h => by cases h; exact .non
  | _, _, _, .bl b, h => by cases h; exact .bl b
  | _, _, _, .int i, h => by cases h; exact .int i
  | _, _, _, .str x, h => by cases h; exact .str x
  | _, _, _, .tup q hs, h => by rw [D.py] at h; obtain ⟨ps, h1, rfl⟩ := map_some h; exact .tup (.inl (.inl (e _ _ q))) (RpA.dp e hs h1)
  | _, _, _, .tuk q hs, h => by rw [D.py] at h; obtain ⟨ps, h1, rfl⟩ := map_some h; exact .tup (sqT_mo e q) (RpA.dp e hs h1)
  | _, _, _, .lst q hs, h => by rw [D.py] at h; obtain ⟨ps, h1, rfl⟩ := map_some h; exact .lst (.inl (.inl (e _ _ q))) (RpA.dp e hs h1)
  | _, _, _, .lsk q hs, h => by rw [D.py] at h; obtain ⟨ps, h1, rfl⟩ := map_some h; exact .lst (sqL_mo e q) (RpA.dp e hs h1)
  | _, _, _, .dcK _ _ _, h => by rw [D.py, if_neg (by decide)] at h; cases h
  | _, _, _, .dcT _ _ _, h => by rw [D.py] at h; cases h
  | _, _, _, .ins _ _ _ _, h => by rw [D.py] at h; cases h
  | _, _, _, .cel _, h => by rw [D.py] at h; cases h
  | _, _, _, .fn _, h => by rw [D.py] at h; cases h
  | _, _, _, .ty _, h => by rw [D.py] at h; cases h
  | _, _, _, .xob _ _ _ _ _, h => by rw [D.py] at h; cases h
  | _, _, _, .xob0 _ _, h => by rw [D.py] at h; cases h
theorem RpA.dp {G : Gi} {F H : Hp} {al : List Addr} (e : ∀ a o, F a = some o → H a = some o) : ∀ {vs : List V} {ds : List D} {ps : List PyData}, RpA G F al vs ds → D.pyA false ds = some ps → DpAll G.K H vs ps
  | _, _, _, .nil, h => by cases h; exact .nil
  | _, _, _, .cons q hs, h => by
    rw [D.pyA] at h
    obtain ⟨y, h1, h⟩ := bind_some h
    obtain ⟨ys, h2, rfl⟩ := map_some h
    exact .cons (Rp.dp e q h1) (RpA.dp e hs h2)
end
theorem pyK_own {b : Bool} {kvs : List (Key × V)} {os : List (D × O)} {l : List (PyData × PyData)} (h : D.pyK b (O.toDk os) = some l) (e : os.map (·.1) = kvs.map (fun p => kD p.1)) :
    ∃ ps, D.pyA b ((os.map (·.2)).map O.toD) = some ps ∧ l = (kvs.map fun p => keyD p.1).zip ps := by
  rw [toDk_map] at h
  have := pyK_zip (kvs := kvs) h (by rw [List.map_map]; exact e)
  rw [List.map_map] at this ⊢
  exact this
mutual
theorem own_da {G : Gi} {F H : Hp} {al : List Addr} (e : ∀ a o, F a = some o → H a = some o) : ∀ {o : O} {v : V} {fp : List Addr} {p : PyData}, OwnT G F al H o v fp → o.toD.py true = some p → Da G.K H v p
  | _, _, _, _, .fz t, h => by rw [O.toD] at h; exact t.da e h
  | _, _, _, _, .lst t hs, h => by rw [O.toD, D.py] at h; obtain ⟨ps, h1, rfl⟩ := map_some h; exact .lst (.inl (.inl t)) (hs.da e h1)
  | _, _, _, _, .dcK t k hs, h => by
    rw [O.toD, D.py, if_pos rfl] at h
    obtain ⟨ps, h1, rfl⟩ := map_some h
    obtain ⟨ps2, h2, rfl⟩ := pyK_zip h1 k
    exact .dct (.inl t) (hs.da e h2)
  | _, _, _, _, .dcT t k hs, h => by rw [O.toD, D.py] at h; cases h
  | _, _, _, _, .ins t q n hs, h => by rw [O.toD, D.py] at h; cases h
  | _, _, _, _, .dcoK t q hs, h => by
    rw [O.toD, D.py, if_pos rfl] at h
    obtain ⟨ps, h1, rfl⟩ := map_some h
    obtain ⟨ps2, h2, rfl⟩ := pyK_own h1 q
    exact .dct (.inl t) (ownA_da e hs h2)
  | _, _, _, _, .dcoT t q hs, h => by rw [O.toD, D.py] at h; cases h
theorem ownA_da {G : Gi} {F H : Hp} {al : List Addr} (e : ∀ a o, F a = some o → H a = some o) : ∀ {os : List O} {vs : List V} {fp : List Addr} {ps : List PyData}, OwnA G F al H os vs fp →
    D.pyA true (os.map O.toD) = some ps → DaAll G.K H vs ps
  | _, _, _, _, .nil, h => by cases h; exact .nil
  | _, _, _, _, .cons q hs, h => by
    rw [List.map_cons, D.pyA] at h
    obtain ⟨y, h1, h⟩ := bind_some h
    obtain ⟨ys, h2, rfl⟩ := map_some h
    exact .cons (own_da e q h1) (ownA_da e hs h2)
end
section
variable {G : Gi} {st : S} {σ : L2.St} {c : Cf} {v : V} {o : O} {fp : List Addr}
theorem own_dp {p : PyData} (r : Rel G st σ c) (t : OwnT G c.F c.al c.H o v fp) (h : o.toD.py false = some p) : Dp G.K c.H v p := by
  cases t with
  | fz t => rw [O.toD] at h; exact t.dp r.sub h
  | lst t hs => rw [O.toD, D.py] at h; obtain ⟨ps, h1, rfl⟩ := map_some h; exact .lst (.inl (.inl t)) (hs.dp r.sub h1)
  | dcK t k hs => rw [O.toD, D.py, if_neg (by decide)] at h; cases h
  | dcT t k hs => rw [O.toD, D.py] at h; cases h
  | ins t q n hs => rw [O.toD, D.py] at h; cases h
  | dcoK t q hs => rw [O.toD, D.py, if_neg (by decide)] at h; cases h
  | dcoT t q hs => rw [O.toD, D.py] at h; cases h

/-! ### ends of rules -/
theorem fin {d : D} {Q : VK} (r : Rel G st σ c) (h : Rp G c.F c.al v d) (q : ∀ v c', Rel G st σ c' → GoE c c' → PrO G (.fz d) c c' v → Q v c'.H) : Q v c.H :=
  q v c r (GoE.refl r) (prO_fz h)
theorem finL {vs : List V} {ds : List D} {Q : VK} (r : Rel G st σ c) (h : RpA G c.F c.al vs ds) (q : ∀ v c', Rel G st σ c' → GoE c c' → PrO G (.lst ds) c c' v → Q v c'.H) :
    ∀ p, c.H p = none → Q (.ref p) (upd c.H p (.lst vs)) := fun p hp => by
  obtain ⟨c', e, r', g', p'⟩ := new_ow (G := G) (o := .lst vs) (t := .lst ds) r hp (.lst upd_same h)
  rw [← e]; exact q _ c' r' g' p'
theorem finT {vs : List V} {ds : List D} {Q : VK} (r : Rel G st σ c) (h : RpA G c.F c.al vs ds) (q : ∀ v c', Rel G st σ c' → GoE c c' → PrO G (.fz (.tup ds)) c c' v → Q v c'.H) :
    ∀ p, c.H p = none → Q (.ref p) (upd c.H p (.tup vs)) := fun p hp => by
  obtain ⟨c', e, r', g', p'⟩ := new_fz (G := G) (o := .tup vs) (d := .tup ds) r hp (.tup frzF_same (h.mo (mo_new r hp)))
  rw [← e]; exact q _ c' r' g' p'
end

/-! ### arithmetic -/
def addD (x y : D) : Option O := match x, y with
  | .int i, .int j => some (.fz (.int (i + j)))
  | .str a, .str b => if a.length + b.length ≤ 16777216 then some (.fz (.str (a ++ b))) else none
  | .lst xs, .lst ys => if xs.length + ys.length ≤ 16777216 then some (.lst (xs ++ ys)) else none
  | .tup xs, .tup ys => if xs.length + ys.length ≤ 16777216 then some (.fz (.tup (xs ++ ys))) else none
  | _, _ => none
def rAddA (K : PySem.W.Frag) : R2 := fun a b H Q =>
  rI0 (fun i j => .int (i + j)) a b H Q ∨ (∃ i j, a = .str i ∧ b = .str j ∧ i.length + j.length ≤ sizeLine ∧ Q (.str (i ++ j)) H) ∨
  rCat a b H Q ∨ rCatA K a b H Q
theorem op_addA {X : Cx} {K : PySem.W.Frag} (hK : X.K = K) : OpR X (binaryOp .Add) (rAddA K) := by
  subst hK
  intro pins s σ H a b v u Q I ra rb h
  rcases h with h | h | h | h
  · exact op_add pins s σ H a b v u Q I ra rb h
  · exact op_add_str pins s σ H a b v u Q I ra rb h
  · exact op_cat pins s σ H a b v u Q I ra rb h
  · exact op_catA pins s σ H a b v u Q I ra rb h
theorem d_add {G : Gi} : OpD G (rAddA G.K) addD := by
  intro st σ c x y ox oy fx fy o Q r tx ty e q
  have vx := own_view r tx
  have vy := own_view r ty
  generalize ox.toD = dx at *
  generalize oy.toD = dy at *
  unfold addD at e
  split at e
  · cases e
    obtain rfl : x = _ := vx
    obtain rfl : y = _ := vy
    exact .inl ⟨_, _, rfl, rfl, fin r (.int _) q⟩
  · split at e
    · rename_i hl
      cases e
      obtain rfl : x = _ := vx
      obtain rfl : y = _ := vy
      exact .inr (.inl ⟨_, _, rfl, rfl, by rw [szl]; exact hl, fin r (.str _) q⟩)
    · cases e
  · split at e
    · rename_i hl
      cases e
      obtain ⟨a, xs, rfl, hx, rx⟩ := vx
      obtain ⟨b, ys, rfl, hy, ry⟩ := vy
      exact .inr (.inr (.inl ⟨_, _, _, _, rfl, rfl, hx, hy, by rw [rx.len, ry.len, szl]; exact hl, finL r (rx.app ry) q⟩))
    · cases e
  · split at e
    · rename_i hl
      cases e
      obtain ⟨a, xs, rfl, hx, rx, rpx⟩ := vx
      obtain ⟨b, ys, rfl, hy, ry, rpy⟩ := vy
      refine .inr (.inr (.inr ⟨_, _, _, _, rfl, rfl, hx, hy, by rw [rx.len, ry.len, szl]; exact hl, fun h => ?_, fun _ h => ?_, fun _ _ => finT r (rx.app ry) q⟩))
      · subst h
        cases rx
        exact fin r rpy (by simpa using q)
      · subst h
        cases ry
        exact fin r rpx (by simpa using q)
    · cases e
  · cases e
/-- two ints -/
def iiD (C : Int → Int → Bool) (g : Int → Int → D) (x y : D) : Option O := match x, y with
  | .int i, .int j => if C i j = true then some (.fz (g i j)) else none
  | _, _ => none
theorem d_ii {G : Gi} {C : Int → Int → Bool} {C' : Int → Int → Prop} {g : Int → Int → D} {g' : Int → Int → V} (hC : ∀ i j, C i j = true → C' i j) (hg : ∀ i j F al, Rp G F al (g' i j) (g i j)) :
    OpD G (rI C' g') (iiD C g) := by
  intro st σ c x y ox oy fx fy o Q r tx ty e q
  have vx := own_view r tx
  have vy := own_view r ty
  generalize ox.toD = dx at *
  generalize oy.toD = dy at *
  unfold iiD at e
  split at e
  · split at e
    · rename_i hc
      cases e
      obtain rfl : x = _ := vx
      obtain rfl : y = _ := vy
      exact ⟨_, _, rfl, rfl, hC _ _ hc, fin r (hg _ _ _ _) q⟩
    · cases e
  · cases e
def ii0 (g : Int → Int → D) (x y : D) : Option O := match x, y with
  | .int i, .int j => some (.fz (g i j))
  | _, _ => none
theorem d_ii0 {G : Gi} {g : Int → Int → D} {g' : Int → Int → V} (hg : ∀ i j F al, Rp G F al (g' i j) (g i j)) : OpD G (rI0 g') (ii0 g) := by
  intro st σ c x y ox oy fx fy o Q r tx ty e q
  have vx := own_view r tx
  have vy := own_view r ty
  generalize ox.toD = dx at *
  generalize oy.toD = dy at *
  unfold ii0 at e
  split at e
  · cases e
    obtain rfl : x = _ := vx
    obtain rfl : y = _ := vy
    exact ⟨_, _, rfl, rfl, fin r (hg _ _ _ _) q⟩
  · cases e
def subD : D → D → Option O := ii0 fun i j => .int (i - j)
def ltD : D → D → Option O := ii0 fun i j => .bl (decide (i < j))
def leD : D → D → Option O := ii0 fun i j => .bl (decide (i ≤ j))
def gtD : D → D → Option O := ii0 fun i j => .bl (decide (j < i))
def geD : D → D → Option O := ii0 fun i j => .bl (decide (j ≤ i))
def divD : D → D → Option O := iiD (fun _ j => decide (0 < j) && decide (j < 1073741824)) fun i j => .int (i / j)
def modD : D → D → Option O := iiD (fun _ j => decide (0 < j)) fun i j => .int (i % j)
def powD : D → D → Option O := iiD (fun i j => decide (0 ≤ j) && decide (j ≤ 1000000) && decide (i.natAbs < 2 ^ 64)) fun i j => .int (i ^ j.toNat)
section
variable {G : Gi}
theorem d_sub : OpD G (rI0 fun i j => .int (i - j)) subD := d_ii0 fun _ _ _ _ => .int _
theorem d_lt : OpD G (rI0 fun i j => .bl (decide (i < j))) ltD := d_ii0 fun _ _ _ _ => .bl _
theorem d_le : OpD G (rI0 fun i j => .bl (decide (i ≤ j))) leD := d_ii0 fun _ _ _ _ => .bl _
theorem d_gt : OpD G (rI0 fun i j => .bl (decide (j < i))) gtD := d_ii0 fun _ _ _ _ => .bl _
theorem d_ge : OpD G (rI0 fun i j => .bl (decide (j ≤ i))) geD := d_ii0 fun _ _ _ _ => .bl _
theorem d_div : OpD G (rI CDiv fun i j => .int (i / j)) divD := d_ii (fun i j h => by simp at h; exact h) fun _ _ _ _ => .int _
theorem d_mod : OpD G (rI (fun _ j => 0 < j) fun i j => .int (i % j)) modD := d_ii (fun i j h => by simpa using h) fun _ _ _ _ => .int _
theorem d_pow : OpD G (rI CPow fun i j => .int (i ^ j.toNat)) powD := d_ii (fun i j h => by simp at h; exact ⟨h.1.1, h.1.2, h.2⟩) fun _ _ _ _ => .int _
end
/-- * : ints; a text, a list so often -/
def mulOkB (i j : Int) : Bool := (decide (-(2 ^ 64) < i) && decide (i < 2 ^ 64)) || (decide (-(2 ^ 64) < j) && decide (j < 2 ^ 64)) || decide (i.natAbs.log2 + j.natAbs.log2 < 1000000)
def mulD (x y : D) : Option O := match x, y with
  | .int i, .int j => if mulOkB i j = true then some (.fz (.int (i * j))) else none
  | .str a, .int n => if 0 ≤ n ∧ n ≤ 100000 ∧ a.length ≤ 100 then some (.fz (.str (Txt.mul a n))) else none
  | .lst xs, .int n => if 0 ≤ n ∧ n ≤ 10000 ∧ xs.length ≤ 1000 then some (.lst (List.replicate n.toNat xs).flatten) else none
  | _, _ => none
theorem mulOk_small {a : Str} {n : Int} (h0 : 0 ≤ n) (h1 : n ≤ 100000) (h2 : a.length ≤ 100) : MulOk a n := by
  refine ⟨by simp; omega, fun z1 z2 => ?_, fun z1 z2 => ?_⟩
  · have : (100 : Int) ≤ (2 ^ 63 - 1) / n := Int.le_ediv_of_mul_le (by omega) (by omega)
    omega
  · have : a.length * n.toNat ≤ 100 * 100000 := Nat.mul_le_mul h2 (by omega)
    unfold PySem.Builtin.Str.tooLong
    rw [sizeLine_eq]
    simp
    omega
theorem RpA.rep {G : Gi} {F : Hp} {al : List Addr} {vs : List V} {ds : List D} (h : RpA G F al vs ds) : ∀ n : Nat, RpA G F al (List.replicate n vs).flatten (List.replicate n ds).flatten
  | 0 => .nil
  | n + 1 => by rw [List.replicate_succ, List.replicate_succ, List.flatten_cons, List.flatten_cons]; exact h.app (RpA.rep h n)
theorem d_mul {G : Gi} : OpD G rMulM mulD := by
  intro st σ c x y ox oy fx fy o Q r tx ty e q
  have vx := own_view r tx
  have vy := own_view r ty
  generalize ox.toD = dx at *
  generalize oy.toD = dy at *
  unfold mulD at e
  split at e
  · split at e
    · rename_i hc
      cases e
      obtain rfl : x = _ := vx
      obtain rfl : y = _ := vy
      refine .inl ⟨_, _, rfl, rfl, ?_, fin r (.int _) q⟩
      unfold mulOkB at hc
      simp only [Bool.or_eq_true, Bool.and_eq_true, decide_eq_true_eq] at hc
      rcases hc with (h | h) | h
      · exact .inl (.inl h)
      · exact .inl (.inr h)
      · exact .inr h
    · cases e
  · split at e
    · rename_i hc
      cases e
      obtain rfl : x = _ := vx
      obtain rfl : y = _ := vy
      exact .inr (.inl ⟨_, _, rfl, rfl, mulOk_small hc.1 hc.2.1 hc.2.2, fin r (.str _) q⟩)
    · cases e
  · split at e
    · rename_i hc
      cases e
      obtain ⟨a, xs, rfl, hx, rx⟩ := vx
      obtain rfl : y = _ := vy
      refine .inr (.inr ⟨_, _, _, rfl, rfl, hx, by omega, by omega, ?_, finL r (rx.rep _) q⟩)
      have h1 := rx.len
      refine Nat.le_trans (Nat.mul_le_mul (show xs.length ≤ 1000 by omega) (show _ ≤ 10000 by omega)) ?_
      rw [szl]; decide
    · cases e
  · cases e
def negD : D → Option O
  | .int i => some (.fz (.int (-i)))
  | _ => none
theorem d_neg {G : Gi} : UnD G (rU fun i => .int (-i)) negD := by
  intro st σ c x ox fx o Q r tx e q
  have vx := own_view r tx
  generalize ox.toD = dx at *
  unfold negD at e
  split at e
  · cases e
    obtain rfl : x = _ := vx
    exact ⟨_, rfl, fin r (.int _) q⟩
  · cases e

/-! ### equal or not, None or not -/
/-- plain values: compared by themselves -/
def plainEq : D → D → Option Bool
  | .int i, .int j => some (decide (i = j))
  | .str a, .str b => some (decide (a = b))
  | .bl a, .bl b => some (decide (a = b))
  | .non, .non => some true
  | .non, .int _ => some false
  | .int _, .non => some false
  | .non, .str _ => some false
  | .str _, .non => some false
  | .str _, .int _ => some false
  | .int _, .str _ => some false
  | x, y => match D.py false x, D.py false y with
    | some p, some q => if SeqAt.shaped p = true ∧ SeqAt.shaped q = true then some (PyData.eqv p q) else none
    | _, _ => none
def eqD (x y : D) : Option O := (plainEq x y).map fun b => .fz (.bl b)
def neD (x y : D) : Option O := (plainEq x y).map fun b => .fz (.bl (!b))
theorem plain_ok {G : Gi} {st : S} {σ : L2.St} {c : Cf} {x y : V} {ox oy : O} {fx fy : List Addr} {b : Bool} (r : Rel G st σ c) (tx : OwnT G c.F c.al c.H ox x fx) (ty : OwnT G c.F c.al c.H oy y fy)
    (e : plainEq ox.toD oy.toD = some b) : (scal x y = true ∧ b = decide (x = y)) ∨ ∃ d e, Dp G.K c.H x d ∧ Dp G.K c.H y e ∧ SeqAt.shaped d = true ∧ SeqAt.shaped e = true ∧ b = PyData.eqv d e := by
  have vx := own_view r tx
  have vy := own_view r ty
  have dx := fun p h => own_dp (p := p) r tx h
  have dy := fun p h => own_dp (p := p) r ty h
  generalize ox.toD = tdx at *
  generalize oy.toD = tdy at *
  unfold plainEq at e
  split at e
  · cases e; obtain rfl : x = _ := vx; obtain rfl : y = _ := vy; exact .inl ⟨rfl, by simp⟩
  · cases e; obtain rfl : x = _ := vx; obtain rfl : y = _ := vy; exact .inl ⟨rfl, by simp⟩
  · cases e; obtain rfl : x = _ := vx; obtain rfl : y = _ := vy; exact .inl ⟨rfl, by simp⟩
  · cases e; obtain rfl : x = _ := vx; obtain rfl : y = _ := vy; exact .inl ⟨rfl, by simp⟩
  · cases e; obtain rfl : x = _ := vx; obtain rfl : y = _ := vy; exact .inl ⟨rfl, by simp⟩
  · cases e; obtain rfl : x = _ := vx; obtain rfl : y = _ := vy; exact .inl ⟨rfl, by simp⟩
  · cases e; obtain rfl : x = _ := vx; obtain rfl : y = _ := vy; exact .inl ⟨rfl, by simp⟩
  · cases e; obtain rfl : x = _ := vx; obtain rfl : y = _ := vy; exact .inl ⟨rfl, by simp⟩
  · cases e; obtain rfl : x = _ := vx; obtain rfl : y = _ := vy; exact .inl ⟨rfl, by simp⟩
  · cases e; obtain rfl : x = _ := vx; obtain rfl : y = _ := vy; exact .inl ⟨rfl, by simp⟩
  · split at e
    · rename_i p q h1 h2
      split at e
      · rename_i hs
        cases e
        exact .inr ⟨p, q, dx p h1, dy q h2, hs.1, hs.2, rfl⟩
      · cases e
    · cases e
theorem d_eq {G : Gi} : OpD G (rEqM G.K) eqD := by
  intro st σ c x y ox oy fx fy o Q r tx ty e q
  obtain ⟨b, eb, rfl⟩ := map_some e
  rcases plain_ok r tx ty eb with ⟨h1, h2⟩ | ⟨d, e', h1, h2, h3, h4, h5⟩
  · exact .inl ⟨h1, by rw [← h2]; exact fin r (.bl _) q⟩
  · exact .inr ⟨d, e', h1, h2, h3, h4, by rw [← h5]; exact fin r (.bl _) q⟩
theorem d_ne {G : Gi} : OpD G (rNeM G.K) neD := by
  intro st σ c x y ox oy fx fy o Q r tx ty e q
  obtain ⟨b, eb, rfl⟩ := map_some e
  rcases plain_ok r tx ty eb with ⟨h1, h2⟩ | ⟨d, e', h1, h2, h3, h4, h5⟩
  · exact .inl ⟨h1, by rw [← h2]; exact fin r (.bl _) q⟩
  · exact .inr ⟨d, e', h1, h2, h3, h4, by rw [← h5]; exact fin r (.bl _) q⟩
def isNon : D → Bool
  | .non => true
  | _ => false
theorem view_non {G : Gi} {c : Cf} {x : V} {d : D} (h : Vi G c x d) : decide (x = .non) = isNon d := by
  cases d with
  | non => obtain rfl : x = _ := h; rfl
  | bl b => obtain rfl : x = _ := h; rfl
  | int b => obtain rfl : x = _ := h; rfl
  | str b => obtain rfl : x = _ := h; rfl
  | ty b => obtain rfl : x = _ := h; rfl
  | tup ds => obtain ⟨a, _, rfl, _⟩ := h; rfl
  | tuk ds => obtain ⟨a, _, rfl, _⟩ := h; rfl
  | lst ds => obtain ⟨a, _, rfl, _⟩ := h; rfl
  | lsk ds => obtain ⟨a, _, rfl, _⟩ := h; rfl
  | dct ds => obtain ⟨a, rfl⟩ := h; rfl
  | dcu ds => obtain ⟨a, rfl⟩ := h; rfl
  | ins c fs => obtain ⟨a, rfl⟩ := h; rfl
  | cel n => obtain ⟨a, rfl, _⟩ := h; rfl
  | fn f => obtain ⟨a, rfl, _⟩ := h; rfl
  | xob c fs => obtain ⟨a, rfl⟩ := h; rfl
def isD (x y : D) : Option O := if isNon y = true then some (.fz (.bl (isNon x))) else none
def isntD (x y : D) : Option O := if isNon y = true then some (.fz (.bl (!isNon x))) else none
theorem d_is {G : Gi} : OpD G rIsNo isD := by
  intro st σ c x y ox oy fx fy o Q r tx ty e q
  unfold isD at e
  split at e
  · rename_i hy
    cases e
    refine ⟨?_, ?_⟩
    · have := view_non (own_view r ty); rw [hy] at this; exact of_decide_eq_true this
    · rw [view_non (own_view r tx)]; exact fin r (.bl _) q
  · cases e
theorem d_isnt {G : Gi} : OpD G rNotNo isntD := by
  intro st σ c x y ox oy fx fy o Q r tx ty e q
  unfold isntD at e
  split at e
  · rename_i hy
    cases e
    refine ⟨?_, ?_⟩
    · have := view_non (own_view r ty); rw [hy] at this; exact of_decide_eq_true this
    · rw [view_non (own_view r tx)]; exact fin r (.bl _) q
  · cases e
end L2.Tr

namespace L2.Tr
open PySem PySem.Spec PyProof.Rows L2 L2.Pc

/-! ### statements -/
inductive Fl where
  | nx | bk | ct | rt (o : O)
section
variable (G : Gi) (W : WX)
def xs (c : Cf) : Exc → S → Prop := fun x st' => ∀ σ' v d c', Rel G st' σ' c' → Go c c' → XRp G c' x v d → W v d σ' c'.H
/-- what holds behind a statement -/
def Fw (D : Ends) (c : Cf) (f : Fl) (st' : S) : Prop := match f with
  | .nx => ∀ σ' c', Rel G st' σ' c' → Go c c' → D.nx σ' c'.H
  | .bk => ∀ σ' c', Rel G st' σ' c' → Go c c' → D.bk σ' c'.H
  | .ct => ∀ σ' c', Rel G st' σ' c' → Go c c' → D.ct σ' c'.H
  | .rt o => ∀ v c' fp, Rel G ⟨[], st'.mu⟩ [] c' → Go c c' → OwnT G c'.F c'.al c'.H o v fp → Fresh fp c' → New fp c → D.rt v c'.H
def tS (m : M Fl) : TS := fun D σ H => ∃ c st, c.H = H ∧ Rel G st σ c ∧ wp (m st) (Fw G D c) (xs G W c)
end
theorem _root_.L2.PS.weak {X : Cx} {e : Stmt} {t t' : TS} (h : PS X e t) (k : ∀ D σ H, t' D σ H → t D σ H) : PS X e t' := ⟨fun pins s σ H Q I q => h.run pins s σ H Q I (k _ _ _ q)⟩
theorem _root_.L2.PSs.weak {X : Cx} {e : List Stmt} {t t' : TS} (h : PSs X e t) (k : ∀ D σ H, t' D σ H → t D σ H) : PSs X e t' := ⟨fun pins s σ H Q I q => h.run pins s σ H Q I (k _ _ _ q)⟩
section
variable {X : Cx} {G : Gi} {W : WX} {e : Expr} {st : Stmt} {rest : List Stmt} {m m1 m2 : M Fl} {me : M O} {mt : M Bool} {pos pos' : Pos}
theorem xs.go {c c1 : Cf} (g : Go c c1) {x : Exc} {s : S} (h : xs G W c x s) : xs G W c1 x s := fun σ' v d c' r k q => h σ' v d c' r (g.trans k) q
theorem Fw.go {D : Ends} {c c1 : Cf} (g : Go c c1) {f : Fl} {s : S} (h : Fw G D c f s) : Fw G D c1 f s := by
  cases f with
  | nx => exact fun σ' c' r k => h σ' c' r (g.trans k)
  | bk => exact fun σ' c' r k => h σ' c' r (g.trans k)
  | ct => exact fun σ' c' r k => h σ' c' r (g.trans k)
  | rt o => exact fun v c' fp r k t f n => h v c' fp r (g.trans k) t f (n.go g)
/-- an expression within a statement -/
theorem tS.ex {α β : Type} {Pr : α → Cf → Cf → β → Prop} {D : Ends} {σ : L2.St} {H : Hp} {ma : M α} {f : α → M Fl} (h : tS G W (bnd ma f) D σ H) (R : β → Hp → Prop)
    (k : ∀ a v c c1 st1, Rel G st1 σ c1 → GoE c c1 → Pr a c c1 v → wp (f a st1) (Fw G D c) (xs G W c) → R v c1.H) : tG G W Pr ma σ H R := by
  obtain ⟨c, st, e, r, h⟩ := h
  exact ⟨c, st, e, r, wp_mono (wp_bind.mp h) (fun a st1 q v c1 r1 g p => k a v c c1 st1 r1 g p q) (fun x s q v d c' r' g' x' => q σ v d c' r' g'.toGo x')⟩
theorem tS.at {D : Ends} {σ : L2.St} {c : Cf} {st : S} (r : Rel G st σ c) (h : wp (m st) (Fw G D c) (xs G W c)) : tS G W m D σ c.H := ⟨c, st, rfl, r, h⟩
theorem wpS_go {D : Ends} {c c1 : Cf} (g : Go c c1) {r : R Fl} (h : wp r (Fw G D c) (xs G W c)) : wp r (Fw G D c1) (xs G W c1) := wp_mono h (fun _ _ q => q.go g) (fun _ _ q => q.go g)

def sNil : M Fl := ret .nx
def sSeq (m1 m2 : M Fl) : M Fl := bnd m1 fun f => match f with
  | .nx => m2
  | f => ret f
@[simp] theorem sNil_app (s : S) : sNil s = .ok .nx s := rfl
theorem sSeq_app (m1 m2 : M Fl) (s : S) : sSeq m1 m2 s = (m1 s).bind fun f => match f with
  | .nx => m2
  | f => ret f := rfl
theorem ss_nil : PSs X [] (tS G W sNil) := (pss_nil (X := X)).weak fun D σ H q => by
  obtain ⟨c, st, rfl, r, h⟩ := q
  exact h σ c r Go.rfl'
theorem seq_t {D : Ends} {σ : L2.St} {H : Hp} (q : tS G W (sSeq m1 m2) D σ H) : tSeq (tS G W m1) (tS G W m2) D σ H := by
  obtain ⟨c, st, rfl, r, h⟩ := q
  refine ⟨c, st, rfl, r, wp_mono (wp_bind.mp h) (fun f st1 q => ?_) (fun _ _ q => q)⟩
  cases f with
  | nx => exact fun σ1 c1 r1 g1 => tS.at r1 (wpS_go g1 q)
  | bk => exact q
  | ct => exact q
  | rt o => exact q
theorem ss_cons (h1 : PS X st (tS G W m1)) (h2 : PSs X rest (tS G W m2)) : PSs X (st :: rest) (tS G W (sSeq m1 m2)) := (pss_cons h1 h2).weak fun _ _ _ q => seq_t q
theorem ss_one (h1 : PS X st (tS G W m1)) : PSs X [st] (tS G W m1) := pss_one h1
theorem s_pass : PS X (.Pass pos) (tS G W sNil) := (ps_pass (X := X)).weak fun D σ H q => by
  obtain ⟨c, st, rfl, r, h⟩ := q
  exact h σ c r Go.rfl'
theorem s_doc {x j pos pos'} : PS X (.Expr (.Constant (.str x) j pos) pos') (tS G W sNil) := (ps_doc (X := X)).weak fun D σ H q => by
  obtain ⟨c, st, rfl, r, h⟩ := q
  exact h σ c r Go.rfl'
theorem s_break : PS X (.Break pos) (tS G W (ret .bk)) := (ps_break (X := X)).weak fun D σ H q => by
  obtain ⟨c, st, rfl, r, h⟩ := q
  exact h σ c r Go.rfl'
theorem s_continue : PS X (.Continue pos) (tS G W (ret .ct)) := (ps_continue (X := X)).weak fun D σ H q => by
  obtain ⟨c, st, rfl, r, h⟩ := q
  exact h σ c r Go.rfl'
def sExpr (me : M O) : M Fl := bnd me fun _ => ret .nx
@[simp] theorem sExpr_app (me : M O) (s : S) : sExpr me s = (me s).bind fun _ => ret .nx := rfl
theorem s_expr (he : PE X e (tO G W me)) (hs : swapsWith e none pos.line X.env = pure false := by rfl) : PS X (.Expr e pos) (tS G W (sExpr me)) := (ps_expr he hs).weak fun D σ H q => by
  show tO G W me σ H fun _ H1 => D.nx σ H1
  refine tS.ex q _ (fun o v c c1 st1 r1 g1 p1 w => ?_)
  exact w σ c1 r1 g1.toGo
def sRet (me : M O) : M Fl := bnd me fun o => ret (.rt o)
@[simp] theorem sRet_app (me : M O) (s : S) : sRet me s = (me s).bind fun o => ret (.rt o) := rfl
/-- the slots dropped -/
theorem Rel.drop {st : S} {σ : L2.St} {c : Cf} (r : Rel G st σ c) : Rel G ⟨[], st.mu⟩ [] { c with fs := [] } :=
  ⟨r.sub, fun a h => r.own a (h.elim (fun h => nomatch h) .inr), List.nodup_nil, r.ndc, (fun a h => nomatch h), .nil, r.cells⟩
theorem Go.drop {c : Cf} : Go c { c with fs := [] } := ⟨Mo.refl _ _, fun _ _ _ _ => rfl, fun a h => h.elim (fun h => nomatch h) (fun h => .inr (.inl h)), fun a h => .inl h⟩
theorem Fresh.drop {c : Cf} {fp : List Addr} (f : Fresh fp c) : Fresh fp { c with fs := [] } := ⟨f.nd, f.nf, (fun a _ h => nomatch h), f.nc⟩
theorem s_ret (he : PE X e (tO G W me)) : PS X (.Return (some e) pos) (tS G W (sRet me)) := (ps_ret he).weak fun D σ H q => by
  show tO G W me σ H D.rt
  refine tS.ex q _ (fun o v c c1 st1 r1 g1 p1 w => ?_)
  obtain ⟨fp, t, f, n⟩ := p1
  exact w v { c1 with fs := [] } fp r1.drop (g1.toGo.trans Go.drop) t f.drop n
theorem s_retN : PS X (.Return none pos) (tS G W (ret (.rt (.fz .non)))) := (ps_retN (X := X)).weak fun D σ H q => by
  obtain ⟨c, st, rfl, r, h⟩ := q
  exact h .non { c with fs := [] } [] r.drop Go.drop (.fz .non) (Fresh.nil _) (New.nil _)
def sIf (mt : M Bool) (m1 m2 : M Fl) : M Fl := bnd mt fun b => if b = true then m1 else m2
@[simp] theorem sIf_app (mt : M Bool) (m1 m2 : M Fl) (s : S) : sIf mt m1 m2 s = (mt s).bind fun b => if b = true then m1 else m2 := rfl
theorem s_if {c : Expr} {a b : List Stmt} (hc : PT X c (tTs G W mt)) (ha : PSs X a (tS G W m1)) (hb : PSs X b (tS G W m2)) : PS X (.If c a b pos) (tS G W (sIf mt m1 m2)) := (ps_if hc ha hb).weak fun D σ H q => by
  show tTs G W mt σ H fun b H1 => if b = true then tS G W m1 D σ H1 else tS G W m2 D σ H1
  refine tS.ex q _ (fun o v c c1 st1 r1 g1 p1 w => ?_)
  obtain rfl : v = o := p1
  cases v with
  | true => exact tS.at r1 (wpS_go g1.toGo w)
  | false => exact tS.at r1 (wpS_go g1.toGo w)

/-! ### storing to names -/
theorem slots_len {F H : Hp} {al : List Addr} : ∀ {env : List (Option O)} {σ : L2.St} {fp : List Addr}, Slots G F al H env σ fp → env.length = σ.length
  | _, _, _, .nil => rfl
  | _, _, _, .un h => congrArg (· + 1) (slots_len h)
  | _, _, _, .so _ h => congrArg (· + 1) (slots_len h)
theorem setS_big : ∀ (env : List (Option O)) (i : Nat) (x : Option O), env.length ≤ i → setS env i x = env
  | [], _, _, _ => rfl
  | _ :: _, 0, _, h => absurd h (by simp)
  | a :: l, i + 1, x, h => by rw [setS, setS_big l i x (by simpa using h)]
/-- a slot stored to -/
theorem rel_put {st : S} {σ : L2.St} {c0 c : Cf} {i : Nat} {o : O} {v : V} {fp : List Addr} (r : Rel G st σ c) (t : OwnT G c.F c.al c.H o v fp) (f : Fresh fp c) (g : Go c0 c) (n : New fp c0) :
    ∃ c', c'.H = c.H ∧ Rel G ⟨setS st.env i (some o), st.mu⟩ (σ.set i (some v)) c' ∧ Go c0 c' ∧ c'.F = c.F ∧ c'.al = c.al ∧ (∀ a, a ∉ fp → a ∉ c.fs → a ∉ c'.fs) ∧ c'.fc = c.fc := by
  by_cases hi : i < st.env.length
  · obtain ⟨f1, f2, f3, e, _, q⟩ := slots_put i r.slots
    obtain ⟨n1, n2, n3⟩ := nd_ends (by rw [← e]; exact r.nds)
    have sub : ∀ a, a ∈ f1 ++ f3 → a ∈ c.fs := fun a h => by rw [e]; exact mem_ends h
    have sub' : ∀ a, a ∈ f1 ++ (fp ++ f3) → a ∈ fp ∨ a ∈ f1 ++ f3 := fun a h => by
      rcases List.mem_append.mp h with k | k
      · exact .inr (List.mem_append_left _ k)
      · rcases List.mem_append.mp k with k | k
        · exact .inl k
        · exact .inr (List.mem_append_right _ k)
    refine ⟨{ c with fs := f1 ++ (fp ++ f3) }, rfl, ⟨r.sub, fun a h => ?_, ?_, r.ndc, fun a h => ?_, (q c.F c.H c.al (Mo.refl _ _) fun _ _ => rfl).1 hi o v fp t, r.cells⟩,
      ⟨g.mo, g.fr, fun a h => ?_, g.nF⟩, rfl, rfl, fun a h1 h2 h3 => (sub' a h3).elim h1 (fun z => h2 (sub a z)), rfl⟩
    · rcases h with h | h
      · exact (sub' a h).elim (f.nf a) (fun z => r.own a (.inl (sub a z)))
      · exact r.own a (.inr h)
    · have h1 := List.nodup_append.mp n1
      refine List.nodup_append.mpr ⟨h1.1, List.nodup_append.mpr ⟨f.nd, h1.2.1, fun a ha b hb ab => ?_⟩, fun a ha b hb ab => ?_⟩
      · subst ab; exact f.ns a ha (sub a (List.mem_append_right _ hb))
      · subst ab
        rcases List.mem_append.mp hb with k | k
        · exact f.ns a k (sub a (List.mem_append_left _ ha))
        · exact h1.2.2 a ha a k rfl
    · exact (sub' a h).elim (f.nc a) (fun z => r.dis a (sub a z))
    · rcases h with h | h
      · exact (sub' a h).elim (n a) (fun z => g.fp a (.inl (sub a z)))
      · exact g.fp a (.inr h)
  · have hl := slots_len r.slots
    refine ⟨c, rfl, ?_, g, rfl, rfl, fun _ _ h => h, rfl⟩
    rw [setS_big _ _ _ (by omega), List.set_eq_of_length_le (by omega)]
    exact r
def sAsg (i : Nat) (me : M O) : M Fl := bnd me fun o s => .ok .nx ⟨setS s.env i (some o), s.mu⟩
@[simp] theorem sAsg_app (i : Nat) (me : M O) (s : S) : sAsg i me s = (me s).bind fun o s => .ok .nx ⟨setS s.env i (some o), s.mu⟩ := rfl
theorem asg_t {i : Nat} {D : Ends} {σ : L2.St} {H : Hp} (q : tS G W (sAsg i me) D σ H) : tAsg (tO G W me) (gName i) D σ H := by
  show tO G W me σ H fun v H1 => D.nx (σ.set i (some v)) H1
  refine tS.ex q _ (fun o v c c1 st1 r1 g1 p1 w => ?_)
  obtain ⟨fp, t, f, n⟩ := p1
  obtain ⟨c', e, r', g', _⟩ := rel_put (i := i) r1 t f g1.toGo n
  have w : Fw G D c .nx _ := w
  rw [← e]
  exact w _ c' r' g'
theorem s_asg {i : Nat} {x : Str} {pos' : Pos} (hN : X.N.Nodup) (hi : X.N[i]? = some x) (hx : Loc X.env.scope x) (he : PE X e (tO G W me)) (hs : swapsWith e (some (.Name x pos')) pos.line X.env = pure false := by rfl)
    (hf : X.fn x = true ∨ X.env.scope.names.lookup x = some .local := by first | exact .inl rfl | exact .inr rfl | assumption) : PS X (.Assign [.Name x pos'] e pos) (tS G W (sAsg i me)) :=
  (ps_set hN hi hx he hs hf).weak fun _ _ _ q => asg_t q

/-! ### targets: names, tuples of targets -/
/-- a target's store of a frozen value -/
abbrev MT := D → S → Option S
def gN (i : Nat) : MT := fun d s => some ⟨setS s.env i (some (.fz d)), s.mu⟩
def gsN : List MT → List D → S → Option S
  | [], [], s => some s
  | t :: ts, d :: ds, s => (t d s).bind (gsN ts ds)
  | _, _, _ => none
def seqOf : D → Option (List D)
  | .tup ds => some ds
  | .tuk ds => some ds
  | _ => none
def gT (ts : List MT) : MT := fun d s => (seqOf d).bind fun ds => gsN ts ds s
/-- the reading of a target, over trees -/
def TgOk (G : Gi) (g : TG) (t : MT) : Prop := ∀ (st st' : S) (σ : L2.St) (c : Cf) (v : V) (d : D) (Q : L2.St → Hp → Prop), Rel G st σ c → Rp G c.F c.al v d → t d st = some st' →
  (∀ σ' c', Rel G st' σ' c' → c'.H = c.H → c'.F = c.F → c'.al = c.al → c'.fc = c.fc → (∀ a ∈ c'.fs, a ∈ c.fs) → Q σ' c'.H) → g v σ c.H Q
def TgsOk (G : Gi) (g : TGs) (t : List MT) : Prop := ∀ (st st' : S) (σ : L2.St) (c : Cf) (vs : List V) (ds : List D) (Q : L2.St → Hp → Prop), Rel G st σ c → RpA G c.F c.al vs ds → gsN t ds st = some st' →
  (∀ σ' c', Rel G st' σ' c' → c'.H = c.H → c'.F = c.F → c'.al = c.al → c'.fc = c.fc → (∀ a ∈ c'.fs, a ∈ c.fs) → Q σ' c'.H) → g vs σ c.H Q
theorem tg_name {i : Nat} : TgOk G (gName i) (gN i) := by
  intro st st' σ c v d Q r h e q
  cases e
  obtain ⟨c', e, r', g', eF, eA, hs, hc⟩ := rel_put (i := i) r (.fz h) (Fresh.nil _) (Go.rfl' (c := c)) (New.nil _)
  show Q (σ.set i (some v)) c.H
  rw [← e]
  exact q _ c' r' e eF eA hc (fun a ha => Classical.byContradiction fun z => hs a (fun k => nomatch k) z ha)
theorem tgs_nil : TgsOk G gNil [] := by
  intro st st' σ c vs ds Q r h e q
  cases h with
  | nil => cases e; exact ⟨rfl, q σ c r rfl rfl rfl rfl fun _ h => h⟩
  | cons _ _ => cases e
theorem tgs_cons {g : TG} {gs : TGs} {t : MT} {ts : List MT} (h1 : TgOk G g t) (h2 : TgsOk G gs ts) : TgsOk G (gCons g gs) (t :: ts) := by
  intro st st' σ c vs ds Q r h e q
  cases h with
  | nil => cases e
  | @cons v vs d ds h hs =>
    obtain ⟨s1, e1, e2⟩ := bind_some (show (t d st).bind (gsN ts ds) = some st' from e)
    refine ⟨v, vs, rfl, h1 st s1 σ c v d _ r h e1 (fun σ1 c1 r1 k1 k2 k3 k4 k5 => ?_)⟩
    refine h2 s1 st' σ1 c1 vs ds Q r1 (by rw [k2, k3]; exact hs) e2 (fun σ' c' r' j1 j2 j3 j4 j5 => ?_)
    exact q σ' c' r' (j1.trans k1) (j2.trans k2) (j3.trans k3) (j4.trans k4) (fun a ha => k5 a (j5 a ha))
theorem tg_tup {gs : TGs} {ts : List MT} {n : Nat} (h : TgsOk G gs ts) (hn : ts.length = n) : TgOk G (gTup G.K n gs) (gT ts) := by
  intro st st' σ c v d Q r hv e q
  obtain ⟨ds, e1, e2⟩ := bind_some e
  have len : ∀ (ts : List MT) (ds : List D) (s s' : S), gsN ts ds s = some s' → ts.length = ds.length := by
    intro ts
    induction ts with
    | nil => intro ds s s' h; cases ds with
      | nil => rfl
      | cons _ _ => cases h
    | cons t ts ih => intro ds s s' h; cases ds with
      | nil => cases h
      | cons d ds =>
        obtain ⟨s1, _, h2⟩ := bind_some (show (t d s).bind (gsN ts ds) = some s' from h)
        rw [List.length_cons, List.length_cons, ih ds s1 s' h2]
  have hl := len _ _ _ _ e2
  have vv := rp_view r hv
  cases d with
  | tup ds' =>
    cases e1
    obtain ⟨a, xs, rfl, hx, rx, _⟩ := vv
    exact ⟨a, xs, rfl, hx, by rw [rx.len]; omega, h st st' σ c xs _ Q r rx e2 q⟩
  | tuk ds' =>
    cases e1
    obtain ⟨a, xs, rfl, hx, rx⟩ := vv
    exact ⟨a, xs, rfl, hx, by rw [rx.len]; omega, h st st' σ c xs _ Q r rx e2 q⟩
  | _ => cases e1
def sAsgT (t : MT) (me : M D) : M Fl := bnd me fun d s => match t d s with
  | some s' => .ok .nx s'
  | none => .no
@[simp] theorem sAsgT_app (t : MT) (me : M D) (s : S) : sAsgT t me s = (me s).bind fun d s => match t d s with
  | some s' => .ok .nx s'
  | none => .no := rfl
theorem go_tg {c c' : Cf} (k1 : c'.H = c.H) (k2 : c'.F = c.F) (k3 : c'.al = c.al) (k4 : c'.fc = c.fc) (k5 : ∀ a ∈ c'.fs, a ∈ c.fs) : Go c c' :=
  ⟨.of (fun a o h => by rw [k2]; exact h) (fun n a h => by rw [k3]; exact h), fun a _ _ _ => by rw [k1], fun a h => h.elim (fun h => .inl (k5 a h)) (fun h => .inr (.inl (by rw [← k4]; exact h))), fun a h => .inl (by rw [← k2]; exact h)⟩
theorem asgT_t {g : TG} {t : MT} {md : M D} (hg : TgOk G g t) {D : Ends} {σ : L2.St} {H : Hp} (q : tS G W (sAsgT t md) D σ H) : tAsg (tD G W md) g D σ H := by
  show tD G W md σ H fun v H1 => g v σ H1 D.nx
  refine tS.ex q _ (fun d v c c1 st1 r1 g1 p1 w => ?_)
  cases e : t d st1 with
  | none => rw [e] at w; exact w.elim
  | some s' =>
    rw [e] at w
    have w : Fw G D c .nx s' := w
    exact hg st1 s' σ c1 v d D.nx r1 p1 e (fun σ' c' r' k1 k2 k3 k4 k5 => w σ' c' r' (g1.toGo.trans (go_tg k1 k2 k3 k4 k5)))
theorem s_asgT {tg : Expr} {g : TG} {t : MT} {md : M D} (he : PE X e (tD G W md)) (hg : PG X tg g) (ht : TgOk G g t) (hs : swapsWithSole [tg] e pos.line X.env = pure false := by rfl) (hw : swappedStores [tg] e X.env = pure none := by rfl)
    (h1 : (assignEach [tg] X.env).map (·.2) = [assign tg X.env] := by rfl) : PS X (.Assign [tg] e pos) (tS G W (sAsgT t md)) := (ps_asg he hg hs hw h1).weak fun _ _ _ q => asgT_t ht q
end
end L2.Tr

namespace L2.Tr
open PySem PySem.Spec PyProof.Rows L2 L2.Pc

/-! ### defs -/
abbrev MF := List D → List O → R O
def SpM (G : Gi) (n : Nat) (m : MF) : Sp := fun vs H Q E => ∃ c ds mu, c.H = H ∧ c.fs = [] ∧ Rel G ⟨[], mu⟩ [] c ∧ RpA G c.F c.al vs ds ∧ vs.length = n ∧
  wp (m ds mu) (fun o s' => ∀ v c' fp, Rel G ⟨[], s'.mu⟩ [] c' → Go c c' → OwnT G c'.F c'.al c'.H o v fp → Fresh fp c' → New fp c → Q v c'.H)
    (fun x s' => ∀ v d c', Rel G ⟨[], s'.mu⟩ [] c' → Go c c' → XRp G c' x v d → E v d c'.H)
def env0 (N : Nat) (ds : List D) : List (Option O) := ds.map (fun d => some (.fz d)) ++ List.replicate (N - ds.length) none
/-- a def's body as a function of its arguments -/
def fnM (N : Nat) (body : M Fl) : MF := fun ds mu => match body ⟨env0 N ds, mu⟩ with
  | .ok (.rt o) s => .ok o ⟨[], s.mu⟩
  | .ok .nx s => .ok (.fz .non) ⟨[], s.mu⟩
  | .ok _ _ => .no
  | .exc x s => .exc x ⟨[], s.mu⟩
  | .no => .no
structure FnT (P : Program) (w : World) (G : Gi) (base : Heap) (gb : Bool) (k : Nat) (f : Addr) (fd : FuncData) (ps : List Str) (m : MF) : Prop where
  go : ∀ (A : Around) (outer : List Env) (s : Shared) (H : Hp) (args : Args) (us : List Value)
    (vs : List V) (Q : VK) (E : XK), (gb = true → A.guards = some []) → Room k A → Env0 P w G.K G.mg base A outer s H →
    BindsTo s fd args (ps.zip us) → Vals vs us → SpM G ps.length m vs H Q E →
    codeAny (model P w) A (.call (.ref f) args) (CR (L2.CX P w) outer P w H s Q E) s
section
variable {P : Program} {w : World} {G : Gi} {base : Heap} {gb : Bool} {k j : Nat} {f : Addr} {fd : FuncData} {N ps : List Str} {m m' : MF}
theorem FnT.mono (F : FnT P w G base gb j f fd ps m) (h : j ≤ k) : FnT P w G base gb k f fd ps m :=
  ⟨fun A o s H a us vs Q E g r => F.go A o s H a us vs Q E g (r.mono h)⟩
theorem FnT.gd (F : FnT P w G base false k f fd ps m) : FnT P w G base gb k f fd ps m :=
  ⟨fun A o s H a us vs Q E _ r => F.go A o s H a us vs Q E (fun z => by cases z) r⟩
theorem slots_start {c : Cf} : ∀ {vs : List V} {ds : List D} (n : Nat), RpA G c.F c.al vs ds → Slots G c.F c.al c.H (ds.map (fun d => some (.fz d)) ++ List.replicate n none) (vs.map some ++ List.replicate n none) []
  | _, _, 0, .nil => .nil
  | _, _, n + 1, .nil => by rw [List.replicate_succ, List.replicate_succ]; exact .un (slots_start (vs := []) (ds := []) n .nil)
  | _, _, n, .cons h hs => .so (fp := []) (fq := []) (.fz h) (slots_start n hs)
/-- the def's body, as a term of rules -/
theorem Df.okT {x qual : Str} {st : Stmt} {body : M Fl} (F : Df G.K x qual st f fd) (S : FnScope N ps (defScope st))
    (hb : ∀ (cdv : Value) (A : Around) (outer : List Env) (s : Shared) (H : Hp) (E : XK),
      (gb = true → (A.deeper (envOfC qual (defScope st) s.heap.objs.size f cdv)).guards = some []) →
      Room k (A.deeper (envOfC qual (defScope st) s.heap.objs.size f cdv)) →
      PSs (cxOf (L2.CX P w) P w G.K G.mg base N qual (defScope st) f cdv A outer s H E) (defBody st) (tS G (fun v d _ H => E v d H) body)) :
    FnT P w G base gb (k + 1) f fd ps (fnM N.length body) := by
  obtain ⟨oc, od, dV, kV, doc, pm, an, cdv, ct, osl, rfl, lk, hc⟩ := F.ex
  refine ⟨fun A outer s H args us vs Q E hga hr e0 hbi r hsp => ?_⟩
  obtain ⟨c, ds, mu, rfl, hfs, rl, rp, hlen, h⟩ := hsp
  have kin : G.K.In s.heap := e0.mod.kin.keeps (fun b o e => (e0.bs b o e).1)
  have hlm : s.heap.NoLimit := e0.mod.nolimit.keeps (fun b o e => (e0.bs b o e).1)
  have kinds : ∀ y ∈ ps.zip us, (defScope st).names.lookup y.1 = some .local ∨
      ((defScope st).names.lookup y.1 = some .cell ∧
        ((cellsFrom (s.heap.objs.size + 1) (defScope st).names []).lookup y.1).isSome = true) := by
    rintro ⟨n, v⟩ hy
    rcases S.par n (List.of_mem_zip hy).1 with h1 | h1
    · left; exact h1
    · right; exact ⟨h1, PySem.W.cellsFrom_some _ _ _ (Or.inl h1)⟩
  apply codeAny_call_function hr.depth (kin _ _ lk) rfl S.co S.gen rfl (PySem.W.codeRec_of kin hc) (hbi _ _ _ _ ?_)
  apply wpAny_newFunctionEnv_cells S.kind kinds
  intro env he s1 hx
  subst he
  refine ⟨hlm.keeps hx.toInCall.keep, codeAny_func ?_⟩
  have ht := hb cdv A outer s c.H E (fun z => guards_deep (hga z)) (hr.deeper _)
  have I0 : Inv (cxOf (L2.CX P w) P w G.K G.mg base N qual (defScope st) f cdv A outer s c.H E) [] (start N vs) c.H s1 :=
    inv_start S hr.hd e0 hlen r hx
  have hq : tS G (fun v d _ H => E v d H) body { nx := fun _ H' => Q .non H', rt := Q } (start N vs) c.H := by
    refine ⟨c, ⟨env0 N.length ds, mu⟩, rfl, ⟨rl.sub, rl.own, rl.nds, rl.ndc, rl.dis, ?_, rl.cells⟩, ?_⟩
    · rw [hfs]
      unfold env0 start
      rw [← rp.len]
      exact slots_start _ rp
    · unfold fnM at h
      cases e : body ⟨env0 N.length ds, mu⟩ with
      | no => rw [e] at h; exact h
      | exc x s' =>
        rw [e] at h
        exact fun σ' v d c' r' g' x' => h v d { c' with fs := [] } r'.drop (g'.trans Go.drop) x'
      | ok fl s' =>
        rw [e] at h
        cases fl with
        | rt o => exact fun v c' fp r' g' t f n => h v c' fp r' g' t f n
        | nx => exact fun σ' c' r' g' => h .non { c' with fs := [] } [] r'.drop (g'.trans Go.drop) (.fz .non) (Fresh.nil _) (New.nil _)
        | bk => exact h.elim
        | ct => exact h.elim
  refine wpAny_mono (ht.run [] s1 (start N vs) c.H _ I0 hq) ?_ (fun e s' hs => hs)
  intro fl s' hs
  cases fl with
  | ret u =>
    obtain ⟨v, σ', H', J, rv, q⟩ := hs
    exact ⟨v, H', J.os, J.bare, J.base, J.hok, rv, q⟩
  | next =>
    obtain ⟨σ', H', J, q⟩ := hs
    exact ⟨V.non, H', J.os, J.bare, J.base, J.hok, rfl, q⟩
  | brk => obtain ⟨_, _, _, q⟩ := hs; exact q.elim
  | cont => obtain ⟨_, _, _, q⟩ := hs; exact q.elim
end

/-! ### calls of defs -/
/-- how the written arguments and keywords become the parameters' values -/
structure BdD (K : PySem.W.Frag) (fd : FuncData) (ps : List Str) (n : Nat) (ks : List Str) (gD : List D → List D → List D) : Prop where
  ex : ∃ (g : List Value → List Value → List Value) (gV : List V → List V → List V), KBn K fd ps n ks g gV ∧
    (∀ vs zs, vs.length = n → zs.length = ks.length → (gV vs zs).length = ps.length) ∧
    ∀ (G : Gi) (F : Hp) (al : List Addr) vs zs ds es, RpA G F al vs ds → RpA G F al zs es → vs.length = n → zs.length = ks.length → RpA G F al (gV vs zs) (gD ds es)
structure KnT (P : Program) (w : World) (G : Gi) (base : Heap) (gb : Bool) (x : Str) (k n : Nat) (ks : List Str) (gD : List D → List D → List D) (m : MF) : Prop where
  ex : ∃ (f : Addr) (fd : FuncData) (ps : List Str), FnT P w G base gb k f fd ps m ∧ G.mg x = some (.ref f) ∧ PySem.W.keepIn G.K (.ref f) = true ∧ BdD G.K fd ps n ks gD
/-- a def's function run on trees -/
def runF (m : MF) (ds : List D) : M O := fun s => match m ds s.mu with
  | .ok o s' => .ok o ⟨s.env, s'.mu⟩
  | .exc x s' => .exc x ⟨s.env, s'.mu⟩
  | .no => .no
theorem rel_lift {G : Gi} {st : S} {σ : L2.St} {c c2 : Cf} {mu' : List O} (r : Rel G st σ c) (r2 : Rel G ⟨[], mu'⟩ [] c2) (g : Go { c with fs := [] } c2) :
    Rel G ⟨st.env, mu'⟩ σ { c2 with fs := c.fs } ∧ GoE c { c2 with fs := c.fs } := by
  have there : ∀ a ∈ c.fs, c.H a ≠ none := fun a h => r.there (.inl h)
  have kp : ∀ a ∈ c.fs, c2.H a = c.H a ∧ a ∉ c2.fc := fun a h => by
    obtain ⟨e, _, n⟩ := g.keep (c := { c with fs := [] }) (there a h) (fun z => nomatch z) (r.dis a h)
    exact ⟨e, n⟩
  refine ⟨⟨r2.sub, fun a h => ?_, r.nds, r2.ndc, fun a h => (kp a h).2, r.slots.mo g.mo fun a h => (kp a h).1, r2.cells⟩, ?_⟩
  · rcases h with h | h
    · cases e : c2.F a with
      | none => rfl
      | some o =>
        rcases g.nF a (by rw [e]; exact Option.some_ne_none _) with z | z | z | z
        · exact absurd (r.own a (.inl h)) z
        · cases z
        · exact absurd z (r.dis a h)
        · exact absurd z (there a h)
    · exact r2.own a (.inr h)
  · exact { mo := g.mo, fr := fun a h h1 h2 => g.fr a h (fun z => nomatch z) h2,
            fp := fun a h => h.elim .inl fun h => (g.fp a (.inr h)).elim (fun z => nomatch z) .inr,
            nF := fun a h => (g.nF a h).elim .inl fun z => z.elim (fun z => nomatch z) fun z => .inr (.inr z),
            hs := fun a h _ => (kp a h).1, sf := fun _ h => h, cf := fun a h k => absurd h (kp a k).2 }
theorem call_t {G : Gi} {W : WX} {m : MF} {st : S} {σ : L2.St} {c : Cf} {vs : List V} {ds : List D} {Q : VK} {n : Nat} (r : Rel G st σ c) (rp : RpA G c.F c.al vs ds) (hn : vs.length = n)
    (h : wp (runF m ds st) (fun o st' => ∀ v c', Rel G st' σ c' → GoE c c' → PrO G o c c' v → Q v c'.H) (xw G W σ c)) : SpM G n m vs c.H Q (WE W σ) := by
  refine ⟨{ c with fs := [] }, ds, st.mu, rfl, rfl, r.drop, rp, hn, ?_⟩
  unfold runF at h
  cases e : m ds st.mu with
  | no => rw [e] at h; exact h
  | exc x s' =>
    rw [e] at h
    intro v d c2 r2 g x2
    obtain ⟨r3, g3⟩ := rel_lift r r2 g
    exact h v d { c2 with fs := c.fs } r3 g3 x2
  | ok o s' =>
    rw [e] at h
    intro v c2 fp r2 g t f nw
    obtain ⟨r3, g3⟩ := rel_lift r r2 g
    refine h v { c2 with fs := c.fs } r3 g3 ⟨fp, t, ⟨f.nd, f.nf, fun a ha hs => ?_, f.nc⟩, fun a ha => ?_⟩
    · rcases nw a ha with z | z | z
      · cases z
      · exact r.dis a hs z
      · exact r.there (.inl hs) z
    · rcases nw a ha with z | z | z
      · cases z
      · exact .inr (.inl z)
      · exact .inr (.inr z)
section
variable {X : Cx} {G : Gi} {W : WX} {gb : Bool} {k n : Nat} {ks : List Str} {gD : List D → List D → List D} {m : MF} {x : Str} {p pos : Pos} {e : Expr} {es : List Expr} {kws : List Keyword} {ma mk : M (List D)}
def xCall (m : MF) (gD : List D → List D → List D) (n k : Nat) (ma mk : M (List D)) : M O := bnd ma fun ds => bnd mk fun es => if ds.length = n ∧ es.length = k then runF m (gD ds es) else fun _ => .no
@[simp] theorem xCall_app (m : MF) (gD : List D → List D → List D) (n k : Nat) (ma mk : M (List D)) (s : S) :
    xCall m gD n k ma mk s = (ma s).bind fun ds s1 => (mk s1).bind fun es => if ds.length = n ∧ es.length = k then runF m (gD ds es) else fun _ => .no := rfl
theorem runT {pins : List (Addr × Obj)} {σ : L2.St} {H : Hp} {s : Shared} {Q : VK} {us ws : List Value} {vs zs : List V}
    {f : Addr} {fd : FuncData} {ps : List Str} {g : List Value → List Value → List Value} {gV : List V → List V → List V} (hK : X.K = G.K) (hM : X.mg = G.mg)
    (F : FnT X.prog X.w G X.base gb k f fd ps m) (hga : gb = true → X.A.guards = some []) (hr : Room k X.A)
    (hb : KBn G.K fd ps n ks g gV) (hx : ∀ σ, PassesAt (L2.CX X.prog X.w) X σ (WE W σ)) (I : Inv X pins σ H s) (r : Vals vs us) (rz : Vals zs ws)
    (hn : vs.length = n) (hm : zs.length = ks.length) (h : SpM G ps.length m (gV vs zs) H Q (WE W σ)) :
    wpAny (model X.prog X.w) X.A (call (.ref f) us (ks.zip ws)) (EP X pins σ Q) X.xe s := by
  have hu : us.length = n := by rw [← r.length]; exact hn
  have hw : ws.length = ks.length := by rw [← rz.length]; exact hm
  apply wpAny_call
  have kin := I.kIn
  rw [hK] at kin
  have env := I.env0
  rw [hK, hM] at env
  refine codeAny_mono (F.go X.A X.stack s H _ (g us ws) (gV vs zs) Q (WE W σ) hga hr env (hb.to s us ws kin hu hw) (hb.rel r rz) h) ?_
  intro res s' hq
  cases res with
  | error er => exact hx σ pins H s er s' I hq
  | ok fl =>
    cases fl with
    | ret u => exact I.after hq
    | next => exact hq.elim
    | brk => exact hq.elim
    | cont => exact hq.elim
/-- the reading of a call -/
theorem call_rd {vs : List V} {ds es' : List D} {zs : List V} {σ : L2.St} {c : Cf} {st : S} {Q : VK} {gV : List V → List V → List V} {ps : List Str}
    (hl : ∀ vs zs, vs.length = n → zs.length = ks.length → (gV vs zs).length = ps.length)
    (hd : ∀ (G : Gi) (F : Hp) (al : List Addr) vs zs ds es, RpA G F al vs ds → RpA G F al zs es → vs.length = n → zs.length = ks.length → RpA G F al (gV vs zs) (gD ds es))
    (r : Rel G st σ c) (r1 : RpA G c.F c.al vs ds) (r2 : RpA G c.F c.al zs es')
    (h : wp ((if ds.length = n ∧ es'.length = ks.length then runF m (gD ds es') else fun _ => .no) st) (fun o st' => ∀ v c', Rel G st' σ c' → GoE c c' → PrO G o c c' v → Q v c'.H) (xw G W σ c)) :
    vs.length = n ∧ zs.length = ks.length ∧ SpM G ps.length m (gV vs zs) c.H Q (WE W σ) := by
  split at h
  · rename_i hc
    have h1 : vs.length = n := by rw [r1.len]; exact hc.1
    have h2 : zs.length = ks.length := by rw [r2.len]; exact hc.2
    exact ⟨h1, h2, call_t r (hd _ _ _ _ _ _ _ r1 r2 h1 h2) (hl _ _ h1 h2) h⟩
  · exact h.elim
theorem x_call (hK : X.K = G.K) (hM : X.mg = G.mg) (F : KnT X.prog X.w G X.base gb x k n ks gD m) (hga : gb = true → X.A.guards = some []) (hr : Room k X.A)
    (hg : Gl X x) (hx : ∀ σ, PassesAt (L2.CX X.prog X.w) X σ (WE W σ)) (ha : PA X (e :: es) (tAs G W ma)) (hkw : PK X kws (tAs G W mk))
    (hall : (backToKw pos (keywordEach kws X.env)).all (·.1.isSome) = true := by rfl)
    (hks : (backToKw pos (keywordEach kws X.env)).filterMap (·.1) = ks := by rfl)
    (hdb : (x == ("__debug__" : Str)) = false := by decide)
    (he : starEach (e :: es) X.env = (false, eval e X.env) :: starEach es X.env := by rfl)
    (hpl : ((backTo pos (starEach (e :: es) X.env)).any (·.1) || (backToKw pos (keywordEach kws X.env)).any (·.1.isNone)) = false := by rfl) :
    PE X (.Call (.Name x p) (e :: es) kws pos) (tO G W (xCall m gD n ks.length ma mk)) := by
  obtain ⟨f, fd, ps, FT, hm, hk, g, gV, hb, hl, hd⟩ := F.ex
  refine ⟨fun pins s σ H Q I q => wpAny_Call_Name_kw (ld_glob I hg (by rw [hM]; exact hm) ?_ hdb)⟩
  apply PySem.W.callWith_KW (h₀ := X.base) I.ok.mod.kin (by rw [hK]; exact hk) hall ?_ hpl he
  refine thn (ha.run pos pins s σ H (fun vs H1 => tAs G W mk σ H1 fun zs H2 => vs.length = n ∧ zs.length = ks.length ∧ SpM G ps.length m (gV vs zs) H2 Q (WE W σ)) I ?_) ?_
  · refine q.seq bkO _ (fun ds vs c c1 st1 r1 g1 p1 w => ?_)
    refine tG.seq1 bkO r1 w _ (fun es' zs c2 st2 r2 g2 p2 w2 => ?_)
    exact call_rd hl hd r2 (p1.mo g2.mo) p2 w2
  · rintro us s1 ⟨vs, H1, I1, r, q⟩
    refine thn (hkw.run pos pins s1 σ H1 _ I1 q) ?_
    rintro ws s2 ⟨zs, H2, I2, rz, q1, q2, q3⟩
    refine ⟨I2.kIn, ?_⟩
    rw [hks]
    exact runT hK hM FT hga hr hb hx I2 r rz q1 q2 q3
/-- no argument by place -/
theorem x_call0 (hK : X.K = G.K) (hM : X.mg = G.mg) (F : KnT X.prog X.w G X.base gb x k 0 [] gD m) (hga : gb = true → X.A.guards = some []) (hr : Room k X.A)
    (hg : Gl X x) (hx : ∀ σ, PassesAt (L2.CX X.prog X.w) X σ (WE W σ)) (hdb : (x == ("__debug__" : Str)) = false := by decide) :
    PE X (.Call (.Name x p) [] [] pos) (tO G W (xCall m gD 0 0 aNil aNil)) := by
  obtain ⟨f, fd, ps, FT, hm, hk, g, gV, hb, hl, hd⟩ := F.ex
  refine ⟨fun pins s σ H Q I q => wpAny_Call_Name_kw (ld_glob I hg (by rw [hM]; exact hm) ?_ hdb)⟩
  obtain ⟨c, st, rfl, r, w⟩ := q
  obtain ⟨q1, q2, q3⟩ := call_rd (ks := []) hl hd r .nil .nil w
  exact PySem.W.callWith_K0 I.kIn (by rw [hK]; exact hk) (runT (us := []) (ws := []) (vs := []) (zs := []) hK hM FT hga hr hb hx I .nil .nil q1 q2 q3)
end
end L2.Tr

namespace L2.Tr
open PySem PySem.Spec PyProof.Rows L2 L2.Pc

/-! ### what is walked -/
/-- the iterator gives these, whatever the code between does -/
def Srcs (G : Gi) (J : It) (ds : List D) (c0 : Cf) : Prop := ∀ (st : S) (σ : L2.St) (c : Cf), Rel G st σ c → Go c0 c →
  (∀ i d, ds[i]? = some d → J.go i c.H ∧ ∀ x H', J.yld i c.H x H' → ∃ c', c'.H = H' ∧ Rel G st σ c' ∧ GoE c c' ∧ Rp G c'.F c'.al x d) ∧ J.stop ds.length c.H
def PrI (G : Gi) : List D → Cf → Cf → It → Prop := fun ds _ c' J => Srcs G J ds c'
abbrev tI (G : Gi) (W : WX) (mi : M (List D)) : TI := tG G W (PrI G) mi
theorem _root_.L2.PI.weak {X : Cx} {tg e : Expr} {t t' : TI} (h : PI X tg e t) (k : ∀ σ H Q, t' σ H Q → t σ H Q) : PI X tg e t' := ⟨fun pins s σ H Q I q => h.run pins s σ H Q I (k _ _ _ q)⟩
/-- things that may be walked by their places -/
def seqI : D → Option (List D)
  | .lst ds => some ds
  | .lsk ds => some ds
  | .tup ds => some ds
  | .tuk ds => some ds
  | .str s => some (s.cps.toList.map fun c => .str ⟨#[c]⟩)
  | _ => none
def iAny (K : PySem.W.Frag) (te : TE) : TI := fun σ H R => te σ H fun x H1 =>
  (∃ a, x = .ref a ∧ (∃ xs, SqL K H1 a xs) ∧ R (Itl K a) H1) ∨ (∃ a, x = .ref a ∧ (∃ xs, SqT K H1 a xs) ∧ R (Itt K a) H1) ∨ ∃ z, x = .str z ∧ R (Its z) H1
theorem pi_any {X : Cx} {tg l : Expr} {tl : TE} {K : PySem.W.Frag} (hK : X.K = K) (hl : PE X l tl) : PI X tg l (iAny K tl) := by
  subst hK
  refine ⟨fun pins s σ H R I h => ?_⟩
  refine thn (hl.run pins s σ H _ I h) fun v s1 ⟨x, H1, I1, r1, q1⟩ => ?_
  rcases q1 with ⟨a, e, ⟨xs, hq⟩, q⟩ | ⟨a, e, ⟨xs, hq⟩, q⟩ | ⟨z, e, q⟩
  · subst e
    cases r1
    obtain ⟨its, rv, p, hz⟩ := I1.list hq
    refine wpAny_pyIter_list p.isList ?_
    refine ⟨s1.heap.objs.size, [s1.heap.objs.size], _, _, H1, rfl, I1.kept (t' := s1.toks) fun b o e => Heap.get?_push_of_some _ e, turn_list a _, ⟨_, Heap.get?_push_size _ rfl, rfl, rfl⟩, fun b hb => ?_, q⟩
    have e : b = s1.heap.objs.size := by simpa using hb
    subst e
    exact I1.fpOk (Nat.le_refl _) (I1.hok.fresh (Nat.le_refl _))
  · subst e
    cases r1
    obtain ⟨its, rv, p, hz⟩ := I1.tuple hq
    refine wpAny_pyIter_tuple (show s1.heap.IsTuple a its.toArray from p) ?_
    refine ⟨s1.heap.objs.size, [s1.heap.objs.size], _, _, H1, rfl, I1.kept (t' := s1.toks) fun b o e => Heap.get?_push_of_some _ e, turn_tuple a _, ⟨_, Heap.get?_push_size _ rfl, rfl, rfl⟩, fun b hb => ?_, q⟩
    have e : b = s1.heap.objs.size := by simpa using hb
    subst e
    exact I1.fpOk (Nat.le_refl _) (I1.hok.fresh (Nat.le_refl _))
  · subst e
    obtain ⟨t, rfl⟩ := r1
    cases ha : z.cps.all (· < 128)
    · exact wpAny_pyIter_wide ha (pi_one (tk := s1.toks) I1 _ (turn_str _ z t "str_iterator" (.inr rfl)) ⟨_, Heap.get?_push_size _ rfl, rfl, rfl⟩ q)
    · exact wpAny_pyIter_ascii ha (pi_one (tk := s1.toks) I1 _ (turn_str _ z t "str_ascii_iterator" (.inl rfl)) ⟨_, Heap.get?_push_size _ rfl, rfl, rfl⟩ q)
theorem srcs_seq {G : Gi} {st : S} {σ : L2.St} {c : Cf} {v : V} {d : D} {ds : List D} (r : Rel G st σ c) (t : Rp G c.F c.al v d) (e : seqI d = some ds) :
    (∃ a, v = .ref a ∧ (∃ xs, SqL G.K c.H a xs) ∧ Srcs G (Itl G.K a) ds c) ∨ (∃ a, v = .ref a ∧ (∃ xs, SqT G.K c.H a xs) ∧ Srcs G (Itt G.K a) ds c) ∨ ∃ z, v = .str z ∧ Srcs G (Its z) ds c := by
  have lst : ∀ {a : Addr} {xs : List V}, SqL G.K c.F a xs → RpA G c.F c.al xs ds → Srcs G (Itl G.K a) ds c := fun {a xs} h hs st' σ' c2 r2 g2 => by
    have h2 := r2.rdL (sqL_mr g2.mo.mR h)
    refine ⟨fun i d hd => ?_, xs, h2, by rw [hs.len]; exact Nat.le_refl _⟩
    obtain ⟨x, hx, rx⟩ := (hs.mo g2.mo).get hd
    refine ⟨⟨xs, x, h2, hx⟩, fun y H' hy => ?_⟩
    obtain ⟨rfl, hy⟩ := hy
    have := hy xs h2
    rw [hx] at this
    cases this
    exact ⟨c2, rfl, r2, GoE.refl r2, rx⟩
  have tup : ∀ {a : Addr} {xs : List V}, SqT G.K c.F a xs → RpA G c.F c.al xs ds → Srcs G (Itt G.K a) ds c := fun {a xs} h hs st' σ' c2 r2 g2 => by
    have h2 := r2.rdT (sqT_mr g2.mo.mR h)
    refine ⟨fun i d hd => ?_, xs, h2, by rw [hs.len]; exact Nat.le_refl _⟩
    obtain ⟨x, hx, rx⟩ := (hs.mo g2.mo).get hd
    refine ⟨⟨xs, x, h2, hx⟩, fun y H' hy => ?_⟩
    obtain ⟨rfl, hy⟩ := hy
    have := hy xs h2
    rw [hx] at this
    cases this
    exact ⟨c2, rfl, r2, GoE.refl r2, rx⟩
  cases t with
  | lst h hs => cases e; exact .inl ⟨_, rfl, ⟨_, r.rdL (.inl (.inl h))⟩, lst (.inl (.inl h)) hs⟩
  | lsk h hs => cases e; exact .inl ⟨_, rfl, ⟨_, r.rdL h⟩, lst h hs⟩
  | tup h hs => cases e; exact .inr (.inl ⟨_, rfl, ⟨_, r.rdT (.inl (.inl h))⟩, tup (.inl (.inl h)) hs⟩)
  | tuk h hs => cases e; exact .inr (.inl ⟨_, rfl, ⟨_, r.rdT h⟩, tup h hs⟩)
  | str s =>
    cases e
    refine .inr (.inr ⟨s, rfl, fun st' σ' c2 r2 g2 => ⟨fun i d hd => ?_, ?_⟩⟩)
    · rw [List.getElem?_map] at hd
      obtain ⟨ch, hc, rfl⟩ := map_some hd
      have hc' : s.cps[i]? = some ch := by rw [← Array.getElem?_toList]; exact hc
      refine ⟨(Array.getElem?_eq_some_iff.mp hc').1, fun y H' hy => ?_⟩
      obtain ⟨rfl, ch', h1, rfl⟩ := hy
      rw [hc'] at h1
      cases h1
      exact ⟨c2, rfl, r2, GoE.refl r2, .str _⟩
    · show s.cps.size ≤ _
      simp
  | _ => cases e
section
variable {X : Cx} {G : Gi} {W : WX} {tg e : Expr} {md : M D} {ma : M (List D)} {p pos : Pos}
def mSeq (md : M D) : M (List D) := bnd md fun d => ofO (seqI d)
@[simp] theorem mSeq_app (md : M D) (s : S) : mSeq md s = (md s).bind fun d => ofO (seqI d) := rfl
theorem xi_any (hK : X.K = G.K) (he : PE X e (tD G W md)) : PI X tg e (tI G W (mSeq md)) := (pi_any hK he).weak fun σ H R q => by
  unfold iAny
  refine q.seq0 _ (fun d v c c1 st1 r1 g1 p1 w => ?_)
  obtain ⟨ds, e1, q⟩ := wp_ofO.mp w
  rcases srcs_seq r1 p1 e1 with ⟨a, rfl, h1, h2⟩ | ⟨a, rfl, h1, h2⟩ | ⟨z, rfl, h2⟩
  · exact .inl ⟨a, rfl, h1, q _ c1 r1 g1 h2⟩
  · exact .inr (.inl ⟨a, rfl, h1, q _ c1 r1 g1 h2⟩)
  · exact .inr (.inr ⟨z, rfl, q _ c1 r1 g1 h2⟩)
/-- range -/
def rngL (i : Int) (n : Nat) : List D := (List.range n).map fun k : Nat => .int (i + (k : Int))
def rng1 : List D → Option (List D)
  | [.int j] => if j < 2 ^ 62 ∧ -(2 ^ 62) ≤ j then some (rngL 0 j.toNat) else none
  | _ => none
def rng2 : List D → Option (List D)
  | [.int i, .int j] => if (-(2 ^ 62) ≤ i ∧ i < 2 ^ 62) ∧ -(2 ^ 62) ≤ j ∧ j < 2 ^ 62 then some (rngL i (j - i).toNat) else none
  | _ => none
theorem srcs_rng {c : Cf} {i : Int} {n : Nat} : Srcs G (Itr i n) (rngL i n) c := fun st σ c2 r2 g2 => by
  refine ⟨fun k d hd => ?_, by unfold rngL; rw [List.length_map, List.length_range]; exact Nat.le_refl _⟩
  unfold rngL at hd
  rw [List.getElem?_map] at hd
  obtain ⟨j, hj, rfl⟩ := map_some hd
  obtain ⟨hk, rfl⟩ : k < n ∧ k = j := by
    have h1 := (List.getElem?_eq_some_iff.mp hj)
    obtain ⟨h1, h2⟩ := h1
    rw [List.length_range] at h1
    rw [List.getElem_range] at h2
    exact ⟨h1, h2⟩
  refine ⟨hk, fun y H' hy => ?_⟩
  obtain ⟨rfl, rfl⟩ := hy
  exact ⟨c2, rfl, r2, GoE.refl r2, .int _⟩
theorem rp_ints1 {F : Hp} {al : List Addr} {vs : List V} {i : Int} (h : RpA G F al vs [.int i]) : vs = [.int i] := by
  cases h with
  | cons h hs => cases h; cases hs; rfl
theorem rp_ints2 {F : Hp} {al : List Addr} {vs : List V} {i j : Int} (h : RpA G F al vs [.int i, .int j]) : vs = [.int i, .int j] := by
  cases h with
  | cons h hs => cases h; rw [rp_ints1 hs]
def mRng1 (ma : M (List D)) : M (List D) := bnd ma fun ds => ofO (rng1 ds)
def mRng2 (ma : M (List D)) : M (List D) := bnd ma fun ds => ofO (rng2 ds)
@[simp] theorem mRng1_app (ma : M (List D)) (s : S) : mRng1 ma s = (ma s).bind fun ds => ofO (rng1 ds) := rfl
@[simp] theorem mRng2_app (ma : M (List D)) (s : S) : mRng2 ma s = (ma s).bind fun ds => ofO (rng2 ds) := rfl
theorem xi_range1 {a : Expr} (hg : Gl X "range") (hm : X.mg "range" = none) (ha : PA X [a] (tAs G W ma)) (hs : starEach [a] X.env = [(false, eval a X.env)] := by rfl) :
    PI X tg (.Call (.Name "range" p) [a] [] pos) (tI G W (mRng1 ma)) := (pi_range1 hg hm ha hs).weak fun σ H R q => by
  unfold iRng1
  refine q.seq0 _ (fun ds vs c c1 st1 r1 g1 p1 w => ?_)
  obtain ⟨l, e1, q⟩ := wp_ofO.mp w
  unfold rng1 at e1
  split at e1
  · split at e1
    · rename_i h
      cases e1
      exact ⟨_, rp_ints1 p1, h.2, h.1, q _ c1 r1 g1 srcs_rng⟩
    · cases e1
  · cases e1
theorem xi_range2 {a b : Expr} (hg : Gl X "range") (hm : X.mg "range" = none) (ha : PA X [a, b] (tAs G W ma)) (hs : starEach [a, b] X.env = [(false, eval a X.env), (false, eval b X.env)] := by rfl) (hs2 : starEach [b] X.env = [(false, eval b X.env)] := by rfl) :
    PI X tg (.Call (.Name "range" p) [a, b] [] pos) (tI G W (mRng2 ma)) := (pi_range2 hg hm ha hs hs2).weak fun σ H R q => by
  unfold iRng2
  refine q.seq0 _ (fun ds vs c c1 st1 r1 g1 p1 w => ?_)
  obtain ⟨l, e1, q⟩ := wp_ofO.mp w
  unfold rng2 at e1
  split at e1
  · split at e1
    · rename_i h
      cases e1
      exact ⟨_, _, rp_ints2 p1, ⟨h.1.1, h.1.2, h.2.1, h.2.2⟩, q _ c1 r1 g1 srcs_rng⟩
    · cases e1
  · cases e1
end

/-! ### for -/
def forL (t : MT) (mb : M Fl) : List D → M Fl
  | [] => ret .nx
  | d :: ds => fun s => match t d s with
    | none => .no
    | some s1 => (mb s1).bind fun f => match f with
      | .nx => forL t mb ds
      | .ct => forL t mb ds
      | .bk => ret .nx
      | .rt o => ret (.rt o)
def sFor (mi : M (List D)) (t : MT) (mb : M Fl) : M Fl := bnd mi fun ds => forL t mb ds
@[simp] theorem sFor_app (mi : M (List D)) (t : MT) (mb : M Fl) (s : S) : sFor mi t mb s = (mi s).bind fun ds => forL t mb ds := rfl
section
variable {X : Cx} {G : Gi} {W : WX} {tg iter : Expr} {body : List Stmt} {mi : M (List D)} {t : MT} {mb : M Fl} {g : TG} {pos : Pos}
theorem for_t (ht : TgOk G g t) {D' : Ends} {σ : L2.St} {H : Hp} (q : tS G W (sFor mi t mb) D' σ H) : tFor (tI G W mi) g (tS G W mb) D' σ H := by
  show tI G W mi σ H fun J H1 => ∃ W' : Nat → Nat → L2.St → Hp → Prop, (∃ m, W' 0 m σ H1) ∧ ∀ i m σ H, W' i m σ H →
    (J.stop i H ∧ D'.nx σ H) ∨ (J.go i H ∧ ∃ N : L2.St → Hp → Prop, (∀ σ' H', N σ' H' → ∃ m', m' < m ∧ W' (i + 1) m' σ' H') ∧ ∀ x H', J.yld i H x H' → g x σ H' fun σ2 H2 => tS G W mb { D' with nx := N, ct := N, bk := D'.nx } σ2 H2)
  refine tS.ex q _ (fun ds J c c1 st1 r1 g1 src w => ?_)
  have w := wpS_go g1.toGo w
  refine ⟨fun i m σ' H' => m = ds.length - i ∧ i ≤ ds.length ∧ ∃ c2 st2, c2.H = H' ∧ Rel G st2 σ' c2 ∧ Go c1 c2 ∧ wp (forL t mb (ds.drop i) st2) (Fw G D' c1) (xs G W c1),
    ⟨ds.length, rfl, Nat.zero_le _, c1, st1, rfl, r1, Go.rfl', w⟩, ?_⟩
  rintro i m σ' H' ⟨rfl, hi, c2, st2, rfl, r2, g2, w2⟩
  obtain ⟨s1, s2⟩ := src st2 σ' c2 r2 g2
  rcases Nat.lt_or_ge i ds.length with hl | hl
  · refine .inr ?_
    have hd := List.getElem?_eq_getElem hl
    obtain ⟨go, yl⟩ := s1 i _ hd
    refine ⟨go, fun σ'' H'' => ∃ c3 st3, c3.H = H'' ∧ Rel G st3 σ'' c3 ∧ Go c1 c3 ∧ wp (forL t mb (ds.drop (i + 1)) st3) (Fw G D' c1) (xs G W c1),
      fun σ'' H'' ⟨c3, st3, e, r, g, w⟩ => ⟨ds.length - (i + 1), by omega, rfl, hl, c3, st3, e, r, g, w⟩, fun x H'' hy => ?_⟩
    obtain ⟨c3, rfl, r3, g3, rx⟩ := yl x H'' hy
    rw [List.drop_eq_getElem_cons hl] at w2
    rw [forL] at w2
    dsimp only at w2
    cases e : t ds[i] st2 with
    | none => rw [e] at w2; exact w2.elim
    | some st3 =>
      rw [e] at w2
      refine ht st2 st3 σ' c3 x ds[i] _ r3 rx e (fun σ4 c4 r4 k1 k2 k3 k4 k5 => ?_)
      have g4 : Go c1 c4 := (g2.trans g3.toGo).trans (go_tg k1 k2 k3 k4 k5)
      refine tS.at r4 (wpS_go g4 (wp_mono (wp_bind.mp w2) (fun f st5 w5 => ?_) (fun _ _ h => h)))
      cases f with
      | nx => exact fun σ5 c5 r5 g5 => ⟨c5, st5, rfl, r5, g5, w5⟩
      | ct => exact fun σ5 c5 r5 g5 => ⟨c5, st5, rfl, r5, g5, w5⟩
      | bk => exact w5
      | rt o => exact w5
  · have e : i = ds.length := by omega
    subst e
    refine .inl ⟨s2, ?_⟩
    rw [List.drop_length] at w2
    exact w2 σ' c2 r2 g2
theorem s_for (hp : PassesOwn (model X.prog X.w) X.A X.env X.xe) (hc : X.calm = true) (hi : PI X tg iter (tI G W mi)) (hg : PG X tg g) (ht : TgOk G g t) (hb : PSs X body (tS G W mb))
    (hs : ∀ x, foldedSetIterable iter X.env x = pure x := by intro _; rfl) : PS X (.For tg iter body [] pos) (tS G W (sFor mi t mb)) := (ps_for hp hc hi hg hb hs).weak fun _ _ _ q => for_t ht q
end

/-! ### while, with so many turns at most -/
def whileL (mt : M Bool) (mb : M Fl) : Nat → M Fl
  | 0 => fun _ => .no
  | n + 1 => bnd mt fun b => if b = true then (bnd mb fun f => match f with
      | .nx => whileL mt mb n
      | .ct => whileL mt mb n
      | .bk => ret .nx
      | .rt o => ret (.rt o)) else ret .nx
section
variable {X : Cx} {G : Gi} {W : WX} {cnd : Expr} {body : List Stmt} {mt : M Bool} {mb : M Fl} {pos : Pos} {n : Nat}
theorem while_t {D' : Ends} {σ : L2.St} {H : Hp} (q : tS G W (whileL mt mb n) D' σ H) : tWhile (tTs G W mt) (tS G W mb) D' σ H := by
  obtain ⟨c, st, rfl, r, w⟩ := q
  refine ⟨fun m σ' H' => ∃ c2 st2, c2.H = H' ∧ Rel G st2 σ' c2 ∧ Go c c2 ∧ wp (whileL mt mb m st2) (Fw G D' c) (xs G W c), ⟨n, c, st, rfl, r, Go.rfl', w⟩, ?_⟩
  rintro m σ' H' ⟨c2, st2, rfl, r2, g2, w2⟩
  cases m with
  | zero => exact w2.elim
  | succ m =>
    refine ⟨c2, st2, rfl, r2, wp_mono (wp_bind.mp w2) (fun b st3 w3 v c3 r3 g3 p3 => ?_) (fun x s q v d c' r' g' x' => q σ' v d c' r' (g2.trans g'.toGo) x')⟩
    obtain rfl : v = b := p3
    cases v with
    | false => exact w3 σ' c3 r3 (g2.trans g3.toGo)
    | true =>
      refine ⟨fun σ'' H'' => ∃ c4 st4, c4.H = H'' ∧ Rel G st4 σ'' c4 ∧ Go c c4 ∧ wp (whileL mt mb m st4) (Fw G D' c) (xs G W c), fun σ'' H'' h => ⟨m, Nat.lt_succ_self _, h⟩, ?_⟩
      refine tS.at r3 (wpS_go (g2.trans g3.toGo) (wp_mono (wp_bind.mp w3) (fun f st5 w5 => ?_) (fun _ _ h => h)))
      cases f with
      | nx => exact fun σ5 c5 r5 g5 => ⟨c5, st5, rfl, r5, g5, w5⟩
      | ct => exact fun σ5 c5 r5 g5 => ⟨c5, st5, rfl, r5, g5, w5⟩
      | bk => exact w5
      | rt o => exact w5
theorem s_while (n : Nat) (hp : PassesOwn (model X.prog X.w) X.A X.env X.xe) (hc : PT X cnd (tTs G W mt)) (hb : PSs X body (tS G W mb)) : PS X (.While cnd body [] pos) (tS G W (whileL mt mb n)) :=
  (ps_while hp hc hb).weak fun _ _ _ q => while_t q
end
end L2.Tr

namespace L2.Tr
open PySem PySem.Spec PyProof.Rows L2 L2.Pc

/-! ### list comprehensions -/
/-- the comprehension's own slots forgotten -/
def wipeE (env : List (Option O)) : List Nat → List (Option O)
  | [] => env
  | v :: vs => setS (wipeE env vs) v none
/-- .. put back as they were -/
def backE (old new : List (Option O)) : List Nat → List (Option O)
  | [] => new
  | v :: vs => backE old (setS new v (getS old v)) vs
/-- nothing is owned there -/
def freeE (env : List (Option O)) : List Nat → Bool
  | [] => true
  | v :: vs => (match getS env v with
    | some o => isFz o
    | none => true) && freeE env vs
/-- the turns of a comprehension -/
def lcL (vs : List Nat) (t : MT) (mt : M Bool) (me : M D) : List D → M (List D)
  | [] => ret []
  | d :: ds => fun s => match t d s with
    | none => .no
    | some s1 => (mt s1).bind fun b s2 =>
      if b = true then (me s2).bind (fun y s3 => if freeE s3.env vs = true then (lcL vs t mt me ds ⟨wipeE s3.env vs, s3.mu⟩).bind fun ys => ret (y :: ys) else .no)
      else if freeE s2.env vs = true then lcL vs t mt me ds ⟨wipeE s2.env vs, s2.mu⟩ else .no
def noExc {α : Type} (r : R α) : R α := match r with
  | .exc _ _ => .no
  | r => r
def xLc (vs : List Nat) (mi : M (List D)) (t : MT) (mt : M Bool) (me : M D) : M O := bnd mi fun ds s => if freeE s.env vs = true ∧ ds.length ≤ 16777216 then
  (noExc (lcL vs t mt me ds ⟨wipeE s.env vs, s.mu⟩)).bind fun ys s2 => .ok (.lst ys) ⟨backE s.env s2.env vs, s2.mu⟩ else .no
@[simp] theorem xLc_app (vs : List Nat) (mi : M (List D)) (t : MT) (mt : M Bool) (me : M D) (s : S) : xLc vs mi t mt me s = (mi s).bind fun ds s => if freeE s.env vs = true ∧ ds.length ≤ 16777216 then
  (noExc (lcL vs t mt me ds ⟨wipeE s.env vs, s.mu⟩)).bind fun ys s2 => .ok (.lst ys) ⟨backE s.env s2.env vs, s2.mu⟩ else .no := rfl
def noW : WX := fun _ _ _ _ => False
section
variable {G : Gi}
/-- a slot that owns nothing set to nothing -/
theorem slots_clear {F H : Hp} {al : List Addr} : ∀ {env : List (Option O)} {σ : L2.St} {fp : List Addr} (i : Nat), Slots G F al H env σ fp →
    (match getS env i with
      | some o => isFz o = true
      | none => True) → ∀ x, Slots G F al H (setS env i none) (σ.set i x) fp
  | _, _, _, i, .nil, _, x => by cases i <;> exact .nil
  | _, _, _, 0, .un h, _, x => .un h
  | _, _, _, i + 1, .un h, k, x => .un (slots_clear i h k x)
  | _, _, _, 0, .so (fp := fp) h hs, k, x => by
    obtain ⟨rfl, _⟩ := own_fz h k
    exact .un hs
  | _, _, _, i + 1, .so h hs, k, x => .so h (slots_clear i hs k x)
theorem getS_set_ne : ∀ {env : List (Option O)} {i j : Nat} {x : Option O}, i ≠ j → getS (setS env i x) j = getS env j
  | [], _, _, _, _ => rfl
  | _ :: _, 0, 0, _, h => absurd rfl h
  | _ :: _, 0, _ + 1, _, _ => rfl
  | _ :: _, _ + 1, 0, _, _ => rfl
  | _ :: l, i + 1, j + 1, x, h => getS_set_ne (env := l) (fun e => h (by rw [e]))
theorem getS_set_none : ∀ {env : List (Option O)} {i : Nat}, getS (setS env i none) i = none
  | [], i => by cases i <;> rfl
  | _ :: _, 0 => rfl
  | _ :: l, i + 1 => getS_set_none (env := l)
theorem wipe_get {env : List (Option O)} : ∀ {vs : List Nat} {i : Nat}, getS (wipeE env vs) i = none ∨ getS (wipeE env vs) i = getS env i
  | [], _ => .inr rfl
  | v :: vs, i => by
    by_cases h : v = i
    · subst h; exact .inl getS_set_none
    · show getS (setS (wipeE env vs) v none) i = none ∨ getS (setS (wipeE env vs) v none) i = _
      rw [getS_set_ne h]; exact wipe_get
theorem slots_wipe {F H : Hp} {al : List Addr} {env : List (Option O)} {σ : L2.St} {fp : List Addr} (h : Slots G F al H env σ fp) : ∀ {vs : List Nat}, freeE env vs = true → Slots G F al H (wipeE env vs) (wipe σ vs) fp
  | [], _ => h
  | v :: vs, k => by
    unfold freeE at k
    rw [Bool.and_eq_true] at k
    refine slots_clear v (slots_wipe h k.2) ?_ none
    rcases wipe_get (env := env) (vs := vs) (i := v) with e | e
    · rw [e]; trivial
    · rw [e]
      have k1 := k.1
      cases e2 : getS env v with
      | none => trivial
      | some o => rw [e2] at k1; exact k1
theorem wipe_none {env : List (Option O)} : ∀ {vs : List Nat} {i : Nat}, i ∈ vs → getS (wipeE env vs) i = none
  | v :: vs, i, h => by
    by_cases e : v = i
    · subst e; exact getS_set_none
    · show getS (setS (wipeE env vs) v none) i = none
      rw [getS_set_ne e]
      exact wipe_none ((List.mem_cons.mp h).resolve_left fun z => e z.symm)
def BackOk (G : Gi) (F : Hp) (al : List Addr) (H : Hp) (τ : L2.St) (v : Nat) : Option O → Prop
  | some o => ∃ x, τ[v]? = some (some x) ∧ OwnT G F al H o x []
  | none => True
theorem slots_back {F H : Hp} {al : List Addr} : ∀ {env : List (Option O)} {τ : L2.St} {fp : List Addr} (v : Nat) (o : Option O), Slots G F al H env (τ.set v none) fp → getS env v = none →
    BackOk G F al H τ v o → Slots G F al H (setS env v o) τ fp
  | [], τ, _, v, o, h, _, k => by
    cases τ with
    | nil => cases h; exact .nil
    | cons x τ => cases v <;> cases h
  | e :: env, τ, _, 0, o, h, e0, k => by
    cases τ with
    | nil => cases h
    | cons x τ =>
      obtain rfl : e = none := e0
      cases h with
      | un h =>
        cases o with
        | none => exact .un h
        | some o =>
          obtain ⟨y, e2, t⟩ := k
          obtain rfl : x = some y := by simpa using e2
          exact .so (fp := []) t h
  | e :: env, τ, _, v + 1, o, h, e0, k => by
    cases τ with
    | nil => cases h
    | cons x τ =>
      have k' : BackOk G F al H τ v o := by
        cases o with
        | none => trivial
        | some o => obtain ⟨y, e2, t⟩ := k; exact ⟨y, by simpa using e2, t⟩
      cases h with
      | un h => exact .un (slots_back v o h e0 k')
      | so h hs => exact .so h (slots_back v o hs e0 k')
theorem wipe_at {σ : L2.St} : ∀ {vs : List Nat} {v : Nat}, v ∉ vs → (wipe σ vs)[v]? = σ[v]?
  | [], _, _ => rfl
  | u :: vs, v, h => by
    rw [List.mem_cons, not_or] at h
    show ((wipe σ vs).set u none)[v]? = _
    rw [List.getElem?_set_ne (fun e => h.1 e.symm)]
    exact wipe_at h.2
/-- the def's slots put back behind a comprehension -/
theorem slots_home {F0 H0 F H : Hp} {al0 al : List Addr} {env : List (Option O)} {σ : L2.St} {f0 fp : List Addr} (h0 : Slots G F0 al0 H0 env σ f0) (m : Mo F0 F al0 al) :
    ∀ {vs : List Nat} {env2 : List (Option O)}, vs.Nodup → freeE env vs = true → (∀ v ∈ vs, getS env2 v = none) → Slots G F al H env2 (wipe σ vs) fp → Slots G F al H (backE env env2 vs) σ fp
  | [], _, _, _, _, h => h
  | v :: vs, env2, nd, fr, hn, h => by
    obtain ⟨n1, n2⟩ := List.nodup_cons.mp nd
    unfold freeE at fr
    rw [Bool.and_eq_true] at fr
    refine slots_home h0 m (vs := vs) n2 fr.2 (fun u hu => ?_) (slots_back v (getS env v) h (hn v List.mem_cons_self) ?_)
    · rw [getS_set_ne (fun e => n1 (by rw [e]; exact hu))]
      exact hn u (List.mem_cons_of_mem _ hu)
    · cases e : getS env v with
      | none => trivial
      | some o =>
        have f1 := fr.1
        rw [e] at f1
        obtain ⟨x, g1, g2, g3, q1, q2, q3⟩ := slots_get h0 e
        obtain ⟨rfl, rp⟩ := own_fz q2 f1
        refine ⟨x, by rw [wipe_at n1]; exact q1, ?_⟩
        cases o with
        | fz d => rw [O.toD] at rp; exact .fz (rp.mo m)
        | _ => cases f1
/-- an object of our own written -/
theorem rel_own {st : S} {σ : L2.St} {c : Cf} {p : Addr} {o : HO} (r : Rel G st σ c) (f : Fresh [p] c) : Rel G st σ (c.new p o) := by
  have m := List.mem_singleton_self p
  have ne : ∀ a, a ≠ p → upd c.H p o a = c.H a := fun a n => upd_ne n
  refine ⟨fun a u e => ?_, r.own, r.nds, r.ndc, r.dis, r.slots.mo (Mo.refl _ _) fun a ha => ne a (fun e => f.ns p m (e ▸ ha)), r.cells.mo (Mo.refl _ _) fun a ha => ne a (fun e => f.nc p m (e ▸ ha))⟩
  show upd c.H p o a = some u
  rw [ne a (fun z => by subst z; have e : c.F a = some u := e; rw [f.nf a m] at e; cases e)]
  exact r.sub a u e
theorem goE_own {c0 c : Cf} {p : Addr} {o : HO} (g : GoE c0 c) (h : c0.H p = none) : GoE c0 (c.new p o) where
  mo := g.mo
  fr := fun a n h1 h2 => (upd_ne (fun e => n (by rw [e]; exact h))).trans (g.fr a n h1 h2)
  fp := g.fp
  nF := g.nF
  hs := fun a h1 n => (upd_ne (fun e => n (by rw [e]; exact h))).trans (g.hs a h1 n)
  sf := g.sf
  cf := g.cf
theorem goE_tg {st : S} {σ : L2.St} {c c' : Cf} (r : Rel G st σ c) (k1 : c'.H = c.H) (k2 : c'.F = c.F) (k3 : c'.al = c.al) (k4 : c'.fc = c.fc) (k5 : ∀ a ∈ c'.fs, a ∈ c.fs) : GoE c c' :=
  { go_tg k1 k2 k3 k4 k5 with hs := fun a _ _ => by rw [k1], sf := k5, cf := fun a h k => absurd (by rw [← k4]; exact h) (r.dis a k) }
/-- a target that fills the comprehension's own slots alone -/
def TgW (G : Gi) (g : TG) (t : MT) (vs : List Nat) : Prop := ∀ (st st' : S) (σ : L2.St) (c : Cf) (v : V) (d : D) (Q : L2.St → Hp → Prop), Rel G st σ c → Rp G c.F c.al v d → t d st = some st' →
  (∀ σ' c', wipe σ' vs = wipe σ vs → Rel G st' σ' c' → c'.H = c.H → c'.F = c.F → c'.al = c.al → c'.fc = c.fc → (∀ a ∈ c'.fs, a ∈ c.fs) → Q σ' c'.H) → g v σ c.H Q
def TgsW (G : Gi) (g : TGs) (t : List MT) (ws : List Nat) : Prop := ∀ (st st' : S) (σ : L2.St) (c : Cf) (vs : List V) (ds : List D) (Q : L2.St → Hp → Prop), Rel G st σ c → RpA G c.F c.al vs ds → gsN t ds st = some st' →
  (∀ σ' c', wipe σ' ws = wipe σ ws → Rel G st' σ' c' → c'.H = c.H → c'.F = c.F → c'.al = c.al → c'.fc = c.fc → (∀ a ∈ c'.fs, a ∈ c.fs) → Q σ' c'.H) → g vs σ c.H Q
theorem wipe_set {σ : L2.St} {i : Nat} {x : Option V} : ∀ {vs : List Nat}, i ∈ vs → wipe (σ.set i x) vs = wipe σ vs
  | v :: vs, h => by
    show (wipe (σ.set i x) vs).set v none = (wipe σ vs).set v none
    by_cases e : i ∈ vs
    · rw [wipe_set e]
    · obtain rfl : i = v := (List.mem_cons.mp h).resolve_right e
      have : ∀ (vs : List Nat) (τ : L2.St), i ∉ vs → wipe (τ.set i x) vs = (wipe τ vs).set i x := by
        intro vs
        induction vs with
        | nil => intro _ _; rfl
        | cons u vs ih =>
          intro τ hn
          rw [List.mem_cons, not_or] at hn
          show (wipe (τ.set i x) vs).set u none = ((wipe τ vs).set u none).set i x
          rw [ih τ hn.2, List.set_comm _ _ hn.1]
      rw [this vs σ e, List.set_set]
theorem tw_name {i : Nat} {vs : List Nat} (hi : i ∈ vs) : TgW G (gName i) (gN i) vs := by
  intro st st' σ c v d Q r h e q
  cases e
  obtain ⟨c', e, r', g', eF, eA, hs, hc⟩ := rel_put (i := i) r (.fz h) (Fresh.nil _) (Go.rfl' (c := c)) (New.nil _)
  show Q (σ.set i (some v)) c.H
  rw [← e]
  exact q _ c' (wipe_set hi) r' e eF eA hc (fun a ha => Classical.byContradiction fun z => hs a (fun k => nomatch k) z ha)
theorem tws_nil {ws : List Nat} : TgsW G gNil [] ws := by
  intro st st' σ c vs ds Q r h e q
  cases h with
  | nil => cases e; exact ⟨rfl, q σ c rfl r rfl rfl rfl rfl fun _ h => h⟩
  | cons _ _ => cases e
theorem tws_cons {g : TG} {gs : TGs} {t : MT} {ts : List MT} {ws : List Nat} (h1 : TgW G g t ws) (h2 : TgsW G gs ts ws) : TgsW G (gCons g gs) (t :: ts) ws := by
  intro st st' σ c vs ds Q r h e q
  cases h with
  | nil => cases e
  | @cons v vs d ds h hs =>
    obtain ⟨s1, e1, e2⟩ := bind_some (show (t d st).bind (gsN ts ds) = some st' from e)
    refine ⟨v, vs, rfl, h1 st s1 σ c v d _ r h e1 (fun σ1 c1 w1 r1 k1 k2 k3 k4 k5 => ?_)⟩
    refine h2 s1 st' σ1 c1 vs ds Q r1 (by rw [k2, k3]; exact hs) e2 (fun σ' c' w2 r' j1 j2 j3 j4 j5 => ?_)
    exact q σ' c' (w2.trans w1) r' (j1.trans k1) (j2.trans k2) (j3.trans k3) (j4.trans k4) (fun a ha => k5 a (j5 a ha))
theorem gsN_len : ∀ {ts : List MT} {ds : List D} {s s' : S}, gsN ts ds s = some s' → ts.length = ds.length
  | [], [], _, _, _ => rfl
  | [], _ :: _, _, _, h => by cases h
  | _ :: _, [], _, _, h => by cases h
  | t :: ts, d :: ds, s, s', h => by
    obtain ⟨s1, _, h2⟩ := bind_some (show (t d s).bind (gsN ts ds) = some s' from h)
    rw [List.length_cons, List.length_cons, gsN_len h2]
theorem tw_tup {gs : TGs} {ts : List MT} {n : Nat} {ws : List Nat} (h : TgsW G gs ts ws) (hn : ts.length = n) : TgW G (gTup G.K n gs) (gT ts) ws := by
  intro st st' σ c v d Q r hv e q
  obtain ⟨ds, e1, e2⟩ := bind_some e
  have hl := gsN_len e2
  have vv := rp_view r hv
  cases d with
  | tup ds' =>
    cases e1
    obtain ⟨a, xs, rfl, hx, rx, _⟩ := vv
    exact ⟨a, xs, rfl, hx, by rw [rx.len]; omega, h st st' σ c xs _ Q r rx e2 q⟩
  | tuk ds' =>
    cases e1
    obtain ⟨a, xs, rfl, hx, rx⟩ := vv
    exact ⟨a, xs, rfl, hx, by rw [rx.len]; omega, h st st' σ c xs _ Q r rx e2 q⟩
  | _ => cases e1
theorem wp_noExc {α : Type} {r : R α} {Q : α → S → Prop} {E : Exc → S → Prop} (h : wp (noExc r) Q E) : wp r Q (fun _ _ => False) := by
  cases r with
  | ok a s => exact h
  | exc x s => exact h.elim
  | no => exact h
theorem lc_t {W : WX} {vs : List Nat} {mi : M (List D)} {t : MT} {mt : M Bool} {me : M D} {g : TG} (nd : vs.Nodup) (ht : TgW G g t vs) {σ : L2.St} {H : Hp} {Q : VK} (q : tO G W (xLc vs mi t mt me) σ H Q) :
    tLc (tI G W mi) g (tTs G noW mt) (tD G noW me) vs σ H Q := by
  show tI G W mi σ H fun J H1 => ∀ L, H1 L = none → ∃ W' : Nat → Nat → Hp → Prop, (∃ m, W' 0 m (upd H1 L (.lst []))) ∧ ∀ i m H, W' i m H →
    (J.stop i H ∧ Q (.ref L) H) ∨ (J.go i H ∧ ∃ Nx : Hp → Prop, (∀ H', Nx H' → ∃ m', m' < m ∧ W' (i + 1) m' H') ∧ ∀ x H', J.yld i H x H' → g x (wipe σ vs) H' fun σ2 H2 => wipe σ2 vs = wipe σ vs ∧ tTs G noW mt σ2 H2 fun b H3 =>
    if b = true then tD G noW me σ2 H3 fun y H4 => ∃ acc, H4 L = some (.lst acc) ∧ acc.length < sizeLine ∧ Nx (upd H4 L (.lst (acc ++ [y]))) else Nx H3)
  refine q.seq bkO _ (fun ds J c0 c1 st1 r1 g1 src w => ?_)
  split at w
  · rename_i hfr
    obtain ⟨hfr, hlen⟩ := hfr
    have w := wp_noExc (wp_bind.mp w |> fun h => h)
    intro L hL
    -- the state within
    have rw1 : Rel G ⟨wipeE st1.env vs, st1.mu⟩ (wipe σ vs) c1 := ⟨r1.sub, r1.own, r1.nds, r1.ndc, r1.dis, slots_wipe r1.slots hfr, r1.cells⟩
    have rn := rw1.new (o := .lst []) hL
    refine ⟨fun i m H' => m = ds.length - i ∧ i ≤ ds.length ∧ ∃ c2 st2 accV accD, c2.H = H' ∧ Rel G st2 (wipe σ vs) c2 ∧ (∃ e, st2.env = wipeE e vs) ∧ GoE c1 c2 ∧ Fresh [L] c2 ∧ c2.H L = some (.lst accV) ∧
        RpA G c2.F c2.al accV accD ∧ accV.length ≤ i ∧ wp (lcL vs t mt me (ds.drop i) st2) (fun ys s2 => ∀ u c', Rel G ⟨backE st1.env s2.env vs, s2.mu⟩ σ c' → GoE c1 c' → PrO G (.lst (accD ++ ys)) c1 c' u → Q u c'.H) (fun _ _ => False),
      ⟨ds.length, rfl, Nat.zero_le _, c1.new L (.lst []), _, [], [], rfl, rn, ⟨_, rfl⟩, GoE.new rw1 hL, Fresh.new rw1 hL, upd_same, .nil, Nat.le_refl _, w⟩, ?_⟩
    rintro i m H' ⟨rfl, hi, c2, st2, accV, accD, rfl, r2, ⟨env2, he2⟩, g2, f2, hL2, ra, hacc, w2⟩
    obtain ⟨s1, s2⟩ := src st2 (wipe σ vs) c2 r2 g2.toGo
    rcases Nat.lt_or_ge i ds.length with hl | hl
    · refine .inr ?_
      have hd := List.getElem?_eq_getElem hl
      obtain ⟨go, yl⟩ := s1 i _ hd
      have mL := List.mem_singleton_self L
      -- the next turn
      refine ⟨go, fun H'' => ∃ c3 st3 accV3 accD3, c3.H = H'' ∧ Rel G st3 (wipe σ vs) c3 ∧ (∃ e, st3.env = wipeE e vs) ∧ GoE c1 c3 ∧ Fresh [L] c3 ∧ c3.H L = some (.lst accV3) ∧
          RpA G c3.F c3.al accV3 accD3 ∧ accV3.length ≤ i + 1 ∧ wp (lcL vs t mt me (ds.drop (i + 1)) st3) (fun ys s2 => ∀ u c', Rel G ⟨backE st1.env s2.env vs, s2.mu⟩ σ c' → GoE c1 c' → PrO G (.lst (accD3 ++ ys)) c1 c' u → Q u c'.H) (fun _ _ => False),
        fun H'' ⟨c3, st3, a3, d3, q⟩ => ⟨ds.length - (i + 1), by omega, rfl, hl, c3, st3, a3, d3, q⟩, fun x H'' hy => ?_⟩
      obtain ⟨c3, rfl, r3, g3, rx⟩ := yl x H'' hy
      rw [List.drop_eq_getElem_cons hl, lcL] at w2
      dsimp only at w2
      cases e : t ds[i] st2 with
      | none => rw [e] at w2; exact w2.elim
      | some st4 =>
        rw [e] at w2
        refine ht st2 st4 (wipe σ vs) c3 x ds[i] _ r3 rx e (fun σ4 c4 hw r4 k1 k2 k3 k4 k5 => ?_)
        have wid : wipe (wipe σ vs) vs = wipe σ vs := by
          have : ∀ vs' : List Nat, (∀ v ∈ vs', v ∈ vs) → wipe (wipe σ vs') vs = wipe σ vs := by
            intro vs'
            induction vs' with
            | nil => intro _; rfl
            | cons u vs' ih => intro h; show wipe ((wipe σ vs').set u none) vs = _; rw [wipe_set (h u List.mem_cons_self)]; exact ih fun v hv => h v (List.mem_cons_of_mem _ hv)
          exact this vs fun _ h => h
        rw [wid] at hw
        have g4 : GoE c2 c4 := g3.trans (goE_tg r3 k1 k2 k3 k4 k5)
        have noe : ∀ {c' : Cf} (x : Exc) (s : S), False → xw G noW σ4 c' x s := fun _ _ z => z.elim
        refine ⟨hw, tG.at r4 (wp_mono (wp_bind.mp w2) (fun b st5 w5 v c5 r5 g5 p5 => ?_) (fun x s z => z.elim))⟩
        obtain rfl : v = b := p5
        -- the list is as it was
        have keepL : ∀ {c' : Cf}, GoE c2 c' → Fresh [L] c' ∧ c'.H L = some (.lst accV) := fun {c'} gg => by
          obtain ⟨fa, fb⟩ := f2.go (fun a ha => by rw [List.mem_singleton.mp ha, hL2]; exact Option.some_ne_none _) gg.toGo
          exact ⟨fa, (fb L mL).trans hL2⟩
        cases v with
        | false =>
          rw [if_neg (by decide)] at w5 ⊢
          split at w5
          · rename_i hf5
            have gg := g4.trans g5
            obtain ⟨fa, fb⟩ := keepL gg
            have rw5 : Rel G ⟨wipeE st5.env vs, st5.mu⟩ (wipe σ vs) c5 := by
              rw [← hw]
              exact ⟨r5.sub, r5.own, r5.nds, r5.ndc, r5.dis, slots_wipe r5.slots hf5, r5.cells⟩
            exact ⟨c5, _, accV, accD, rfl, rw5, ⟨_, rfl⟩, g2.trans gg, fa, fb, ra.mo gg.mo, by omega, w5⟩
          · exact w5.elim
        | true =>
          rw [if_pos rfl] at w5 ⊢
          refine tG.at r5 (wp_mono (wp_bind.mp w5) (fun y st6 w6 u c6 r6 g6 p6 => ?_) (fun x s z => z.elim))
          split at w6
          · rename_i hf6
            have gg := (g4.trans g5).trans g6
            obtain ⟨fa, fb⟩ := keepL gg
            have rw6 : Rel G ⟨wipeE st6.env vs, st6.mu⟩ (wipe σ vs) c6 := by
              rw [← hw]
              exact ⟨r6.sub, r6.own, r6.nds, r6.ndc, r6.dis, slots_wipe r6.slots hf6, r6.cells⟩
            refine ⟨accV, fb, by rw [szl]; omega, c6.new L (.lst (accV ++ [u])), _, accV ++ [u], accD ++ [y], rfl, rel_own rw6 fa, ⟨_, rfl⟩, goE_own (g2.trans gg) hL, ⟨fa.nd, fa.nf, fa.ns, fa.nc⟩, upd_same,
              (ra.mo gg.mo).app (.cons p6 .nil), by rw [List.length_append, List.length_singleton]; omega, ?_⟩
            refine wp_mono (wp_bind.mp w6) (fun ys s7 w7 => ?_) (fun x s z => z.elim)
            have w7 : ∀ u c', Rel G ⟨backE st1.env s7.env vs, s7.mu⟩ σ c' → GoE c1 c' → PrO G (.lst (accD ++ (y :: ys))) c1 c' u → Q u c'.H := w7
            rw [List.append_assoc]
            exact w7
          · exact w6.elim
    · have e : i = ds.length := by omega
      subst e
      refine .inl ⟨s2, ?_⟩
      rw [List.drop_length] at w2
      have w2 : ∀ u c', Rel G ⟨backE st1.env st2.env vs, st2.mu⟩ σ c' → GoE c1 c' → PrO G (.lst (accD ++ [])) c1 c' u → Q u c'.H := w2
      rw [List.append_nil] at w2
      refine w2 _ c2 ⟨r2.sub, r2.own, r2.nds, r2.ndc, r2.dis, ?_, r2.cells⟩ g2 ⟨[L], .lst hL2 ra, f2, New.new hL⟩
      exact slots_home r1.slots g2.mo nd hfr (fun v hv => by rw [he2]; exact wipe_none hv) r2.slots
  · exact w.elim
section
variable {X : Cx} {W : WX} {elt tg iter : Expr} {ifs : List Expr} {scope : Scope} {own : List (Str × Nat)} {vs : List Nat} {pos : Pos} {mi : M (List D)} {t : MT} {mt : M Bool} {me : M D} {g : TG}
theorem xts_nil : PTs X [] (tTs G W (ret true)) := by
  refine ⟨fun pins s σ H Q I q => (pts_nil (X := X)).run pins s σ H Q I ?_⟩
  obtain ⟨c, st, rfl, r, h⟩ := q
  exact h true c r (GoE.refl r) rfl
theorem xts_one {c : Expr} (h : PT X c (tTs G W mt)) : PTs X [c] (tTs G W mt) := pts_one h
theorem x_lc (hv : own.map (·.2) = vs) (nd : vs.Nodup) (hc : X.calm = true) (hN : X.N.Nodup) (hi : PI X tg iter (tI G W mi)) (ok : BlkOk X.N X.env.scope scope own) (htg : TgW G g t vs)
    (hg : ∀ (s : Shared) (H : Hp) (C : Addr) (cl : List (Str × Addr)) (fp : List Addr), PG (X.blk s H scope (compEnvC scope cl C X.env) fp) tg g) (ht : ∀ (s : Shared) (H : Hp) (C : Addr) (cl : List (Str × Addr)) (fp : List Addr), PTs (X.blk s H scope (compEnvC scope cl C X.env) fp) ifs (tTs G noW mt))
    (he : ∀ (s : Shared) (H : Hp) (C : Addr) (cl : List (Str × Addr)) (fp : List Addr), PE (X.blk s H scope (compEnvC scope cl C X.env) fp) elt (tD G noW me)) (hs : ∀ x, foldedSetIterable iter X.env x = pure x := by intro _; rfl) :
    PE X (.ListComp elt [⟨tg, iter, ifs, 0⟩] scope pos) (tO G W (xLc vs mi t mt me)) := (pe_lcM hv hc hN hi ok hg ht he hs).weak fun _ _ _ q => lc_t nd htg q
theorem s_setLc {i : Nat} {y : Str} {py spos : Pos} (hv : own.map (·.2) = vs) (nd : vs.Nodup) (hc : X.calm = true) (hN : X.N.Nodup) (hy : X.N[i]? = some y) (hyl : X.env.scope.names.lookup y = some .local)
    (hsw : swapsWith (.ListComp elt [⟨tg, iter, ifs, 0⟩] scope pos) (some (.Name y py)) spos.line X.env = pure true) (hi : PI X tg iter (tI G W mi)) (ok : BlkOk X.N X.env.scope scope own) (htg : TgW G g t vs)
    (hg : ∀ (s : Shared) (H : Hp) (C : Addr) (cl : List (Str × Addr)) (fp : List Addr), PG (X.blk s H scope (compEnvC scope cl C X.env) fp) tg g) (ht : ∀ (s : Shared) (H : Hp) (C : Addr) (cl : List (Str × Addr)) (fp : List Addr), PTs (X.blk s H scope (compEnvC scope cl C X.env) fp) ifs (tTs G noW mt))
    (he : ∀ (s : Shared) (H : Hp) (C : Addr) (cl : List (Str × Addr)) (fp : List Addr), PE (X.blk s H scope (compEnvC scope cl C X.env) fp) elt (tD G noW me)) (hs : ∀ x, foldedSetIterable iter X.env x = pure x := by intro _; rfl) :
    PS X (.Assign [.Name y py] (.ListComp elt [⟨tg, iter, ifs, 0⟩] scope pos) spos) (tS G W (sAsg i (xLc vs mi t mt me))) :=
  (ps_setLcM hv hc hN hy hyl hsw hi ok hg ht he hs).weak fun D' σ H q => by
    have q2 := asg_t (G := G) (W := W) q
    exact lc_t nd htg q2
end
end
end L2.Tr

namespace L2.Tr
open PySem PySem.Spec PyProof.Rows L2 L2.Pc

/-! ### what a slot owns, or the cell it names -/
def getM : List O → Nat → Option O
  | [], _ => none
  | x :: _, 0 => some x
  | _ :: l, n + 1 => getM l n
def setM : List O → Nat → O → List O
  | [], _, _ => []
  | _ :: l, 0, o => o :: l
  | x :: l, n + 1, o => x :: setM l n o
/-- the root that the slot i stands for: itself, or a cell -/
def getP (s : S) (i : Nat) : Option O := match getS s.env i with
  | some (.fz (.cel n)) => getM s.mu n
  | some (.fz _) => none
  | x => x
def putP (s : S) (i : Nat) (o : O) : S := match getS s.env i with
  | some (.fz (.cel n)) => ⟨s.env, setM s.mu n o⟩
  | some (.fz _) => s
  | some _ => ⟨setS s.env i (some o), s.mu⟩
  | none => s
section
variable {G : Gi}
theorem ownA_set {F H : Hp} {al : List Addr} : ∀ {os : List O} {vs : List V} {fp : List Addr} {i : Nat} {o : O}, OwnA G F al H os vs fp → getM os i = some o →
    ∃ v f1 f2 f3, vs[i]? = some v ∧ OwnT G F al H o v f2 ∧ fp = f1 ++ (f2 ++ f3) ∧ ∀ (F' H' : Hp) (al' : List Addr), Mo F F' al al' → (∀ a ∈ f1 ++ f3, H' a = H a) →
      ∀ o' f', OwnT G F' al' H' o' v f' → OwnA G F' al' H' (setM os i o') vs (f1 ++ (f' ++ f3))
  | _, _, _, i, o, .nil, e => by cases i <;> cases e
  | _, _, _, 0, o, .cons (fp := fp) (fq := fq) h hs, e => by
    cases e
    exact ⟨_, [], fp, fq, rfl, h, rfl, fun F' H' al' m k o' f' t => .cons (fp := f') t (hs.mo m k)⟩
  | _, _, _, i + 1, o, .cons (fp := fp) h hs, e => by
    obtain ⟨v, f1, f2, f3, q1, q2, q3, q4⟩ := ownA_set (i := i) hs e
    refine ⟨v, fp ++ f1, f2, f3, by simpa using q1, q2, by rw [q3, List.append_assoc], fun F' H' al' m k o' f' t => ?_⟩
    have k1 : ∀ a ∈ fp, H' a = H a := fun a ha => k a (List.mem_append_left _ (List.mem_append_left _ ha))
    have k2 : ∀ a ∈ f1 ++ f3, H' a = H a := fun a ha => k a (by rw [List.append_assoc]; exact List.mem_append_right _ ha)
    show OwnA G F' al' H' (_ :: setM _ i o') _ _
    rw [List.append_assoc]
    exact .cons (h.mo m k1) (q4 F' H' al' m k2 o' f' t)
/-- the root at slot i: where it stands, and how it is written -/
theorem place {st : S} {σ : L2.St} {c : Cf} {i : Nat} {o : O} (r : Rel G st σ c) (e : getP st i = some o) : ∃ v f2, σ[i]? = some (some v) ∧ OwnT G c.F c.al c.H o v f2 ∧
    ∀ (H' : Hp) (o' : O), (∀ a, a ∉ f2 → H' a = c.H a) → OwnT G c.F c.al H' o' v f2 → Rel G (putP st i o') σ { c with H := H' } ∧ Go c { c with H := H' } := by
  have go : ∀ {f2 : List Addr} {H' : Hp}, (∀ a ∈ f2, a ∈ c.fs ∨ a ∈ c.fc) → (∀ a, a ∉ f2 → H' a = c.H a) → Go c { c with H := H' } := fun {f2 H'} sub k =>
    ⟨Mo.refl _ _, fun a _ h1 h2 => k a fun z => (sub a z).elim h1 h2, fun a h => h.elim .inl fun h => .inr (.inl h), fun a h => .inl h⟩
  have sb : ∀ {f2 : List Addr} {H' : Hp}, (∀ a ∈ f2, a ∈ c.fs ∨ a ∈ c.fc) → (∀ a, a ∉ f2 → H' a = c.H a) → ∀ a u, c.F a = some u → H' a = some u := fun {f2 H'} sub k a u z => by
    rw [k a (fun y => by have := r.own a (sub a y); rw [z] at this; cases this)]
    exact r.sub a u z
  -- a cell
  have cell : ∀ n, getS st.env i = some (.fz (.cel n)) → getM st.mu n = some o → putP st i = (fun o' => ⟨st.env, setM st.mu n o'⟩) → ∃ v f2, σ[i]? = some (some v) ∧ OwnT G c.F c.al c.H o v f2 ∧
      ∀ (H' : Hp) (o' : O), (∀ a, a ∉ f2 → H' a = c.H a) → OwnT G c.F c.al H' o' v f2 → Rel G (putP st i o') σ { c with H := H' } ∧ Go c { c with H := H' } := by
    intro n e1 e2 e3
    obtain ⟨v, g1, g2, g3, q1, q2, _⟩ := slots_get r.slots e1
    obtain ⟨v', f1, f2, f3, p1, p2, p3, p4⟩ := ownA_set r.cells e2
    have ev : v = v' := by
      cases q2 with
      | fz t =>
        cases t with
        | cel h =>
          rw [List.getElem?_map, h] at p1
          exact Option.some.inj p1
    subst ev
    have nd := r.ndc
    rw [p3] at nd
    obtain ⟨n1, n2, n3⟩ := nd_ends nd
    have sub : ∀ a ∈ f2, a ∈ c.fs ∨ a ∈ c.fc := fun a h => .inr (by rw [p3]; exact mem_mid h)
    refine ⟨v, f2, q1, p2, fun H' o' k t => ⟨?_, go sub k⟩⟩
    rw [e3]
    refine ⟨sb sub k, r.own, r.nds, r.ndc, r.dis, r.slots.mo (Mo.refl _ _) fun a ha => k a fun z => r.dis a ha (by rw [p3]; exact mem_mid z), ?_⟩
    have := p4 c.F H' c.al (Mo.refl _ _) (fun a ha => k a fun z => n3 a z ha) o' f2 t
    rw [← p3] at this
    exact this
  unfold getP at e
  split at e
  · rename_i n h
    exact cell n h e (by funext o'; unfold putP; rw [h])
  · cases e
  · rename_i h1 h2
    obtain ⟨v, f1, f2, f3, q1, q2, q3, q4⟩ := slots_set r.slots e
    have nd := r.nds
    rw [q3] at nd
    obtain ⟨n1, n2, n3⟩ := nd_ends nd
    have sub : ∀ a ∈ f2, a ∈ c.fs ∨ a ∈ c.fc := fun a h => .inl (by rw [q3]; exact mem_mid h)
    refine ⟨v, f2, q1, q2, fun H' o' k t => ⟨?_, go sub k⟩⟩
    have hp : putP st i o' = ⟨setS st.env i (some o'), st.mu⟩ := by
      unfold putP
      cases o with
      | fz d =>
        cases d with
        | cel n => exact absurd e (h1 n)
        | _ => exact absurd e (h2 _)
      | _ => rw [e]
    rw [hp]
    refine ⟨sb sub k, r.own, r.nds, r.ndc, r.dis, ?_, r.cells.mo (Mo.refl _ _) fun a ha => k a fun z => r.dis a (by rw [q3]; exact mem_mid z) ha⟩
    have := (q4 c.F H' c.al (Mo.refl _ _) (fun a ha => k a fun z => n3 a z ha)).1 o' f2 t
    rw [← q3] at this
    exact this
end
section
variable {X : Cx} {G : Gi} {W : WX} {e k value : Expr} {me mk : M O} {md mkd : M D} {pos pos' apos cpos : Pos} {i : Nat}
/-! ### x.append(e), x.extend(e) -/
def sApp (i : Nat) (md : M D) : M Fl := fun s => match getP s i with
  | some (.lst _) => (md s).bind fun d s1 => match getP s1 i with
    | some (.lst xs) => if xs.length < 16777216 then .ok .nx (putP s1 i (.lst (xs ++ [d]))) else .no
    | _ => .no
  | _ => .no
theorem own_lst {F H : Hp} {al : List Addr} {ds : List D} {v : V} {fp : List Addr} (h : OwnT G F al H (.lst ds) v fp) : ∃ a vs, v = .ref a ∧ fp = [a] ∧ H a = some (.lst vs) ∧ RpA G F al vs ds := by
  cases h with
  | lst h hs => exact ⟨_, _, rfl, rfl, h, hs⟩
/-- a tracked list's content exchanged -/
theorem put_lst {st : S} {σ : L2.St} {c : Cf} {ds' : List D} {o : O} {a : Addr} {vs' : List V} (hp : ∀ (H' : Hp) (o' : O), (∀ b, b ∉ [a] → H' b = c.H b) → OwnT G c.F c.al H' o' (.ref a) [a] → Rel G (putP st i o') σ { c with H := H' } ∧ Go c { c with H := H' })
    (h : RpA G c.F c.al vs' ds') : Rel G (putP st i (.lst ds')) σ { c with H := upd c.H a (.lst vs') } ∧ Go c { c with H := upd c.H a (.lst vs') } :=
  hp _ _ (fun b hb => upd_ne fun e => hb (by rw [e]; exact List.mem_singleton_self _)) (.lst upd_same h)
theorem app_t {D' : Ends} {σ : L2.St} {H : Hp} (q : tS G W (sApp i md) D' σ H) : tDrop (tBM G.K "list" rAppend (tVar i) (tCons (tD G W md) tNil)) D' σ H := by
  obtain ⟨c, st, rfl, r, w⟩ := q
  unfold sApp at w
  split at w
  · rename_i xs0 e0
    obtain ⟨v, f2, q1, q2, _⟩ := place r e0
    obtain ⟨a, vs, rfl, rfl, hv, rv⟩ := own_lst q2
    refine ⟨.ref a, q1, .inl ⟨rfl, _, .inl (.inl hv)⟩, ?_⟩
    show tD G W md σ c.H fun x H1 => rAppend (.ref a) [x] H1 fun _ H2 => D'.nx σ H2
    refine ⟨c, st, rfl, r, wp_mono (wp_bind.mp w) (fun d st1 w1 v c1 r1 g1 p1 => ?_) (fun x s q v d c' r' g' x' => q σ v d c' r' g'.toGo x')⟩
    split at w1
    · rename_i xs e1
      split at w1
      · rename_i hl
        obtain ⟨v', f2', q1', q2', hp⟩ := place r1 e1
        rw [q1] at q1'
        cases q1'
        obtain ⟨a', vs', ea, rfl, hv', rv'⟩ := own_lst q2'
        cases ea
        obtain ⟨r2, g2⟩ := put_lst (o := .lst xs) hp (rv'.app (.cons p1 .nil))
        exact ⟨a, vs', v, rfl, rfl, hv', by rw [szl, rv'.len]; exact hl, w1 σ _ r2 (g1.toGo.trans g2)⟩
      · exact w1.elim
    · exact w1.elim
  · exact w.elim
theorem s_app {x : Str} {px : Pos} (hK : X.K = G.K) (hN : X.N[i]? = some x) (hv : Vis X.env.scope x) (he : PE X e (tD G W md)) (hd : (x == ("__debug__" : Str)) = false := by decide) (hcd : (x == ("__classdict__" : Str)) = false := by decide)
    (hs : swapsWith (.Call (.Attribute (.Name x px) "append" apos) [e] [] cpos) none pos.line X.env = pure false := by rfl)
    (hbase : attributeBase (.Name x px) "append" X.env (eval (.Name x px) X.env) = eval (.Name x px) X.env := by rfl)
    (hfew : ((backTo cpos (starEach [e] X.env)).all (fun x => !x.1) && (backToKw cpos (keywordEach [] X.env)).all (fun x => x.1.isSome)
      && decide (([e] : List Expr).length + ([] : List Keyword).length + (if ([] : List Keyword).isEmpty then 0 else 1) < 30)) = true := by rfl)
    (hline : (apos.endLine == cpos.line) = true := by rfl) (hst : starEach [e] X.env = (false, eval e X.env) :: starEach [] X.env := by rfl) (hplain : (backTo cpos (starEach [] X.env)).any (·.1) = false := by rfl) :
    PS X (.Expr (.Call (.Attribute (.Name x px) "append" apos) [e] [] cpos) pos) (tS G W (sApp i md)) :=
  (ps_expr (pe_bm PySem.F.plainAttrs_list PySem.F.slot_list_append PySem.F.type_list_append mt_append (pe_var hN hv hd hcd) (pa_cons he pa_nil hst) hbase hfew hline hst hplain) hs).weak fun D' σ H q => by
    rw [hK]; exact app_t q
/-! ### x[k] = e -/
def keyEq : D → D → Bool
  | .int i, .int j => decide (i = j)
  | .str a, .str b => decide (a = b)
  | .tup xs, .tup ys => keyEqs xs ys
  | _, _ => false
where keyEqs : List D → List D → Bool
  | [], [] => true
  | .int i :: xs, .int j :: ys => decide (i = j) && keyEqs xs ys
  | .str a :: xs, .str b :: ys => decide (a = b) && keyEqs xs ys
  | _, _ => false
def putAt (i : Nat) (d k : D) : M Fl := fun s => match getP s i, k with
  | some (.lst xs), .int j => match ixN xs.length j with
    | some q => .ok .nx (putP s i (.lst (xs.set q d)))
    | none => .no
  | _, _ => .no
def sPutL (i : Nat) (mk md : M D) : M Fl := bnd md fun d s1 => match getP s1 i with
  | none => .no
  | some _ => (mk s1).bind fun k => putAt i d k
theorem putL_t {D' : Ends} {σ : L2.St} {H : Hp} (q : tS G W (sPutL i mkd md) D' σ H) : tAsg (tD G W md) (gSub (tVar i) (tD G W mkd) rSetL) D' σ H := by
  show tD G W md σ H fun v H1 => tVar i σ H1 fun o H1 => tD G W mkd σ H1 fun k H2 => rSetL o k v H2 fun H3 => D'.nx σ H3
  refine tS.ex q _ (fun d v c c1 st1 r1 g1 p1 w => ?_)
  split at w
  · exact w.elim
  · rename_i o0 e0
    obtain ⟨x, f0, hx, _⟩ := place r1 e0
    refine ⟨x, hx, c1, st1, rfl, r1, wp_mono (wp_bind.mp w) (fun k st2 w2 u c2 r2 g2 p2 => ?_) (fun x s q v d c' r' g' x' => q σ v d c' r' (g1.toGo.trans g'.toGo) x')⟩
    unfold putAt at w2
    split at w2
    · rename_i xs j e1
      split at w2
      · rename_i q' eq'
        obtain ⟨v', f2', q1', q2', hp⟩ := place r2 e1
        rw [hx] at q1'
        cases q1'
        obtain ⟨a', vs', rfl, rfl, hv', rv'⟩ := own_lst q2'
        cases p2
        obtain ⟨r3, g3⟩ := put_lst (o := .lst xs) hp (RpA.set (p1.mo g2.mo) q' rv')
        exact ⟨a', vs', j, q', rfl, rfl, hv', by rw [rv'.len]; exact eq', w2 σ _ r3 ((g1.toGo.trans g2.toGo).trans g3)⟩
      · exact w2.elim
    · exact w2.elim
theorem s_putL {x : Str} {px : Pos} (hN : X.N[i]? = some x) (hv : Vis X.env.scope x) (hk : PE X k (tD G W mkd)) (he : PE X e (tD G W md)) (hd : (x == ("__debug__" : Str)) = false := by decide) (hcd : (x == ("__classdict__" : Str)) = false := by decide)
    (hs : swapsWithSole [.Subscript (.Name x px) k pos'] e pos.line X.env = pure false := by rfl) (hw : swappedStores [.Subscript (.Name x px) k pos'] e X.env = pure none := by rfl)
    (h1 : (assignEach [.Subscript (.Name x px) k pos'] X.env).map (·.2) = [assign (.Subscript (.Name x px) k pos') X.env] := by rfl)
    (ha : ∀ v, assign (.Subscript (.Name x px) k pos') X.env v = (do
      let ov ← holding [v] (eval (.Name x px) X.env)
      let iv ← holding [v, ov] (eval k X.env)
      standAt pos'
      holding [v, ov, iv] (setItem ov iv v)
      release [v, ov, iv] []) := by intro _; rfl) :
    PS X (.Assign [.Subscript (.Name x px) k pos'] e pos) (tS G W (sPutL i mkd md)) :=
  (ps_asg he (pg_sub (pe_var hN hv hd hcd) hk set_list ha) hs hw h1).weak fun _ _ _ q => putL_t q

/-! ### a new cell -/
def cellO : O → Bool
  | .fz _ => false
  | _ => true
def sAsgC (i : Nat) (me : M O) : M Fl := bnd me fun o s => if cellO o = true then .ok .nx ⟨setS s.env i (some (.fz (.cel s.mu.length))), s.mu ++ [o]⟩ else .no
@[simp] theorem sAsgC_app (i : Nat) (me : M O) (s : S) : sAsgC i me s = (me s).bind fun o s => if cellO o = true then .ok .nx ⟨setS s.env i (some (.fz (.cel s.mu.length))), s.mu ++ [o]⟩ else .no := rfl
theorem own_ref {F H : Hp} {al : List Addr} {o : O} {v : V} {fp : List Addr} (h : OwnT G F al H o v fp) (k : cellO o = true) : ∃ a, v = .ref a := by
  cases h with
  | fz _ => cases k
  | _ => exact ⟨_, rfl⟩
theorem ownA_snoc {F H : Hp} {al : List Addr} : ∀ {os : List O} {vs : List V} {fp : List Addr} {o : O} {v : V} {fq : List Addr}, OwnA G F al H os vs fp → OwnT G F al H o v fq → OwnA G F al H (os ++ [o]) (vs ++ [v]) (fp ++ fq)
  | _, _, _, _, _, _, .nil, t => by
    have := OwnA.cons t (.nil (G := G) (F := F) (al := al) (H := H))
    rw [List.append_nil] at this
    exact this
  | _, _, _, _, _, _, .cons h hs, t => by
    rw [List.append_assoc]
    exact .cons h (ownA_snoc hs t)
theorem ownA_len {F H : Hp} {al : List Addr} : ∀ {os : List O} {vs : List V} {fp : List Addr}, OwnA G F al H os vs fp → os.length = vs.length
  | _, _, _, .nil => rfl
  | _, _, _, .cons _ hs => congrArg (· + 1) (ownA_len hs)
/-- an owned thing becomes a cell -/
theorem rel_cell {st : S} {σ : L2.St} {c0 c : Cf} {o : O} {a : Addr} {fp : List Addr} (r : Rel G st σ c) (t : OwnT G c.F c.al c.H o (.ref a) fp) (f : Fresh fp c) (g : Go c0 c) (n : New fp c0) :
    Rel G ⟨st.env, st.mu ++ [o]⟩ σ { c with al := c.al ++ [a], fc := c.fc ++ fp } ∧ Go c0 { c with al := c.al ++ [a], fc := c.fc ++ fp } ∧ (c.al ++ [a])[st.mu.length]? = some a := by
  have mo : Mo c.F c.F c.al (c.al ++ [a]) := .of (fun _ _ h => h) fun n b h => by
    have hl := (List.getElem?_eq_some_iff.mp h).1
    rw [List.getElem?_append_left hl]; exact h
  have hl : st.mu.length = c.al.length := by rw [ownA_len r.cells, List.length_map]
  refine ⟨⟨r.sub, fun b h => ?_, r.nds, ?_, fun b h k => ?_, r.slots.mo mo fun _ _ => rfl, ?_⟩, ⟨g.mo.trans mo, g.fr, fun b h => ?_, g.nF⟩, ?_⟩
  · rcases h with h | h
    · exact r.own b (.inl h)
    · exact (List.mem_append.mp h).elim (fun h => r.own b (.inr h)) (f.nf b)
  · exact List.nodup_append.mpr ⟨r.ndc, f.nd, fun x hx y hy e => by subst e; exact f.nc x hy hx⟩
  · exact (List.mem_append.mp k).elim (r.dis b h) (fun z => f.ns b z h)
  · show OwnA G c.F (c.al ++ [a]) c.H (st.mu ++ [o]) ((c.al ++ [a]).map V.ref) (c.fc ++ fp)
    rw [List.map_append]
    exact ownA_snoc (r.cells.mo mo fun _ _ => rfl) (t.mo mo fun _ _ => rfl)
  · rcases h with h | h
    · exact g.fp b (.inl h)
    · exact (List.mem_append.mp h).elim (fun h => g.fp b (.inr h)) (n b)
  · rw [hl, List.getElem?_append_right (Nat.le_refl _), Nat.sub_self]; rfl
theorem asgC_t {D' : Ends} {σ : L2.St} {H : Hp} (q : tS G W (sAsgC i me) D' σ H) : tAsg (tO G W me) (gName i) D' σ H := by
  show tO G W me σ H fun v H1 => D'.nx (σ.set i (some v)) H1
  refine tS.ex q _ (fun o v c c1 st1 r1 g1 p1 w => ?_)
  obtain ⟨fp, t, f, n⟩ := p1
  split at w
  · rename_i hc
    obtain ⟨a, rfl⟩ := own_ref t hc
    obtain ⟨r2, g2, e2⟩ := rel_cell r1 t f g1.toGo n
    obtain ⟨c', e, r', g', _⟩ := rel_put (i := i) (o := .fz (.cel st1.mu.length)) r2 (.fz (.cel e2)) (Fresh.nil _) g2 (New.nil _)
    have w : Fw G D' c .nx _ := w
    have e : c'.H = c1.H := e
    rw [← e]
    exact w _ c' r' g'
  · exact w.elim
theorem s_asgC {x : Str} (hN : X.N.Nodup) (hi : X.N[i]? = some x) (hx : Loc X.env.scope x) (he : PE X e (tO G W me)) (hs : swapsWith e (some (.Name x pos')) pos.line X.env = pure false := by rfl)
    (hf : X.fn x = true ∨ X.env.scope.names.lookup x = some .local := by first | exact .inl rfl | exact .inr rfl | assumption) : PS X (.Assign [.Name x pos'] e pos) (tS G W (sAsgC i me)) :=
  (ps_set hN hi hx he hs hf).weak fun _ _ _ q => asgC_t q

/-! ### reading that changes nothing -/
/-- a quiet expression -/
def tQ (G : Gi) (f : S → Option D) : TE := fun σ H Q => ∃ c st d, c.H = H ∧ Rel G st σ c ∧ f st = some d ∧ ∀ v, Rp G c.F c.al v d → Q v c.H
def qVar (i : Nat) : S → Option D := fun s => match getS s.env i with
  | some (.fz d) => some d
  | _ => none
theorem xq_var {x : Str} (hN : X.N[i]? = some x) (hv : Vis X.env.scope x) (hd : (x == ("__debug__" : Str)) = false := by decide) (hcd : (x == ("__classdict__" : Str)) = false := by decide) : PE X (.Name x pos) (tQ G (qVar i)) :=
  (pe_var hN hv hd hcd).weak fun σ H Q q => by
    obtain ⟨c, st, d, rfl, r, e, k⟩ := q
    unfold qVar at e
    split at e
    · rename_i d' h
      cases e
      obtain ⟨v, g1, g2, g3, q1, q2, _⟩ := slots_get r.slots h
      cases q2 with
      | fz t => exact ⟨v, q1, k v t⟩
    · cases e
theorem xq_c {v : V} {d : D} (h : PE X e (tC v)) (hr : ∀ F al, Rp G F al v d) : PE X e (tQ G (fun _ => some d)) := h.weak fun σ H Q q => by
  obtain ⟨c, st, d', rfl, r, e, k⟩ := q
  cases e
  exact k v (hr _ _)
/-- a root read: a slot's own thing or a cell -/
def xRoot (i : Nat) : M O := fun s => match getP s i with
  | some o => .ok o s
  | none => .no
theorem x_root {x : Str} (hN : X.N[i]? = some x) (hv : Vis X.env.scope x) (hd : (x == ("__debug__" : Str)) = false := by decide) (hcd : (x == ("__classdict__" : Str)) = false := by decide) : PE X (.Name x pos) (tLa G W (xRoot i)) :=
  (pe_var hN hv hd hcd).weak fun σ H Q q => by
    obtain ⟨c, st, rfl, r, w⟩ := q
    unfold xRoot at w
    split at w
    · rename_i o h
      obtain ⟨v, f2, q1, q2, _⟩ := place r h
      exact ⟨v, q1, w v c r (GoE.refl r) ⟨f2, q2⟩⟩
    · exact w.elim
/-- an operator whose second operand is quiet -/
def xOpQ (g : D → D → Option O) (ma : M O) (f : S → Option D) : M O := bnd ma fun x s => match f s with
  | some y => ofO (g x.toD y) s
  | none => .no
theorem opq_t {r : R2} {g : D → D → Option O} {ma : M O} {f : S → Option D} (hr : OpD G r g) {σ : L2.St} {H : Hp} {Q : VK} (q : tO G W (xOpQ g ma f) σ H Q) : tOp r (tLa G W ma) (tQ G f) σ H Q := by
  show tLa G W ma σ H fun x H1 => tQ G f σ H1 fun y H2 => r x y H2 Q
  refine q.seq bkO _ (fun ox x c c1 st1 r1 g1 p1 w => ?_)
  obtain ⟨fx, tx⟩ := p1
  split at w
  · rename_i d hd
    obtain ⟨o, eo, q3⟩ := wp_ofO.mp w
    exact ⟨c1, st1, d, rfl, r1, hd, fun v hv => hr st1 σ c1 x v ox (.fz d) fx [] o Q r1 tx (.fz hv) (by rw [O.toD]; exact eo) q3⟩
  · exact w.elim
theorem x_ixQ {a b : Expr} {r : R2} {g : D → D → Option O} {ma : M O} {f : S → Option D} (ho : IxR X r) (hr : OpD G r g) (ha : PE X a (tLa G W ma)) (hb : PE X b (tQ G f)) (hs : PlainIx b) :
    PE X (.Subscript a b pos) (tO G W (xOpQ g ma f)) := (pe_ix ho ha hb hs).weak fun σ H Q q => opq_t hr q
end
/-! ### subscripts -/
def ixD (x y : D) : Option O := match x, y with
  | .lst ds, .int i => (atI ds i).map .fz
  | .lsk ds, .int i => (atI ds i).map .fz
  | .tup ds, .int i => (atI ds i).map .fz
  | .tuk ds, .int i => (atI ds i).map .fz
  | .str s, .int i => if s.length ≤ 16777216 then (atI s.cps.toList i).map fun c => .fz (.str ⟨#[c]⟩) else none
  | _, _ => none
theorem rp_at {G : Gi} {F : Hp} {al : List Addr} {vs : List V} {ds : List D} {i : Int} {d : D} (h : RpA G F al vs ds) (e : atI ds i = some d) : ∃ v, atI vs i = some v ∧ Rp G F al v d := by
  unfold atI at e ⊢
  rw [h.len]
  obtain ⟨j, e1, e2⟩ := bind_some e
  obtain ⟨v, h1, h2⟩ := h.get e2
  exact ⟨v, by rw [e1]; exact h1, h2⟩
theorem d_ix {G : Gi} : OpD G (rIxM G.K) ixD := by
  intro st σ c x y ox oy fx fy o Q r tx ty e q
  have vx := own_view r tx
  have vy := own_view r ty
  generalize ox.toD = dx at *
  generalize oy.toD = dy at *
  unfold ixD at e
  split at e
  · obtain ⟨d, h1, rfl⟩ := map_some e
    obtain ⟨a, xs, rfl, hx, rx⟩ := vx
    obtain rfl : y = _ := vy
    obtain ⟨v, h2, h3⟩ := rp_at rx h1
    exact .inl ⟨a, xs, _, v, rfl, rfl, .inl (.inl hx), h2, fin r h3 q⟩
  · obtain ⟨d, h1, rfl⟩ := map_some e
    obtain ⟨a, xs, rfl, hx, rx⟩ := vx
    obtain rfl : y = _ := vy
    obtain ⟨v, h2, h3⟩ := rp_at rx h1
    exact .inl ⟨a, xs, _, v, rfl, rfl, hx, h2, fin r h3 q⟩
  · obtain ⟨d, h1, rfl⟩ := map_some e
    obtain ⟨a, xs, rfl, hx, rx, _⟩ := vx
    obtain rfl : y = _ := vy
    obtain ⟨v, h2, h3⟩ := rp_at rx h1
    exact .inr (.inl ⟨a, xs, _, v, rfl, rfl, hx, h2, fin r h3 q⟩)
  · obtain ⟨d, h1, rfl⟩ := map_some e
    obtain ⟨a, xs, rfl, hx, rx⟩ := vx
    obtain rfl : y = _ := vy
    obtain ⟨v, h2, h3⟩ := rp_at rx h1
    exact .inr (.inl ⟨a, xs, _, v, rfl, rfl, hx, h2, fin r h3 q⟩)
  · split at e
    · rename_i hl
      obtain ⟨ch, h1, rfl⟩ := map_some e
      obtain rfl : x = _ := vx
      obtain rfl : y = _ := vy
      exact .inr (.inr ⟨_, _, ch, rfl, rfl, by rw [szl]; exact hl, h1, fin r (.str _) q⟩)
    · cases e
  · cases e
/-- slices -/
def cutD (ds : List D) (lo hi : Option Int) : List D := (ds.drop (HT.sIx ds.length 0 lo)).take (HT.sIx ds.length ds.length hi - HT.sIx ds.length 0 lo)
theorem rp_cut {G : Gi} {F : Hp} {al : List Addr} {vs : List V} {ds : List D} (lo hi : Option Int) (h : RpA G F al vs ds) : RpA G F al (cutV vs lo hi) (cutD ds lo hi) := by
  unfold cutV cutD
  rw [h.len]
  exact RpA.take _ (RpA.drop _ h)
def slD (x : D) (lo hi : Option Int) : Option O := match x with
  | .lst ds => some (.lst (cutD ds lo hi))
  | .lsk ds => some (.lst (cutD ds lo hi))
  | .str s => if s.length ≤ 16777216 then some (.fz (.str (cutS s lo hi))) else none
  | .tup ds => some (.fz (.tup (cutD ds lo hi)))
  | _ => none
def rSlX (K : PySem.W.Frag) : V → Option Int → Option Int → Hp → VK → Prop := fun a lo hi H Q => rSlL K a lo hi H Q ∨ rSlS a lo hi H Q ∨ rSlA K a lo hi H Q
theorem slX {X : Cx} {K : PySem.W.Frag} (hK : X.K = K) : SlR X (rSlX K) := hK ▸ SlR.or sl_list (SlR.or sl_str sl_tupA)
def PartD (G : Gi) (W : WX) (t : TO) (m : M (Option Int)) : Prop := ∀ σ H Q, tG G W (fun (i : Option Int) _ _ (v : Option Int) => v = i) m σ H Q → t σ H Q
def mPart (md : M O) : M (Option Int) := bnd md fun o => match o with
  | .fz (.int i) => ret (some i)
  | _ => fun _ => .no
section
variable {X : Cx} {G : Gi} {W : WX} {e : Expr} {me ma : M O} {pos : Pos} {lo hi : Option Expr} {ml mh : M (Option Int)}
theorem xp_none : PO X none (tG G W (fun (i : Option Int) _ _ (v : Option Int) => v = i) (ret none)) := by
  refine ⟨fun pins s σ H Q I q => (po_none (X := X)).run pins s σ H Q I ?_⟩
  obtain ⟨c, st, rfl, r, w⟩ := q
  exact w none c r (GoE.refl r) rfl
theorem xp_some (h : PE X e (tO G W me)) : PO X (some e) (tG G W (fun (i : Option Int) _ _ (v : Option Int) => v = i) (mPart me)) := by
  refine ⟨fun pins s σ H Q I q => (po_some h).run pins s σ H Q I ?_⟩
  show tO G W me σ H fun x H1 => ∃ i, x = .int i ∧ Q (some i) H1
  refine q.seq0 _ (fun o v c c1 st1 r1 g1 p1 w => ?_)
  obtain ⟨fp, t, _⟩ := p1
  split at w
  · rename_i i
    cases t with
    | fz t => cases t; exact ⟨i, rfl, w _ c1 r1 g1 rfl⟩
  · exact w.elim
def xSl (ma : M O) (ml mh : M (Option Int)) : M O := bnd ma fun x => bnd ml fun l => bnd mh fun h => ofO (slD x.toD l h)
@[simp] theorem xSl_app (ma : M O) (ml mh : M (Option Int)) (s : S) : xSl ma ml mh s = (ma s).bind fun x s1 => (ml s1).bind fun l s2 => (mh s2).bind fun h => ofO (slD x.toD l h) := rfl
theorem finS {st : S} {σ : L2.St} {c : Cf} {x : V} {ox : O} {fx : List Addr} {o : O} {l h : Option Int} {Q : VK} (r : Rel G st σ c) (tx : OwnT G c.F c.al c.H ox x fx) (e : slD ox.toD l h = some o)
    (q : ∀ v c', Rel G st σ c' → GoE c c' → PrO G o c c' v → Q v c'.H) : rSlX G.K x l h c.H Q := by
  have vx := own_view r tx
  generalize ox.toD = dx at *
  unfold slD at e
  split at e
  · cases e
    obtain ⟨a, xs, rfl, hx, rx⟩ := vx
    exact .inl ⟨a, xs, rfl, .inl (.inl hx), finL r (rp_cut l h rx) q⟩
  · cases e
    obtain ⟨a, xs, rfl, hx, rx⟩ := vx
    exact .inl ⟨a, xs, rfl, hx, finL r (rp_cut l h rx) q⟩
  · split at e
    · rename_i hl
      cases e
      obtain rfl : x = _ := vx
      exact .inr (.inl ⟨_, rfl, by rw [szl]; exact hl, fin r (.str _) q⟩)
    · cases e
  · cases e
    obtain ⟨a, xs, rfl, hx, rx, rp⟩ := vx
    refine .inr (.inr ⟨a, xs, rfl, hx, fun hw => ?_, fun _ => finT r (rp_cut l h rx) q⟩)
    rename_i ds
    have e1 : cutD ds l h = ds := by
      unfold cutD
      rw [rx.len] at hw
      rw [hw.1, hw.2, Nat.sub_zero, List.drop_zero, List.take_length]
    rw [e1] at q
    exact fin r rp q
  · cases e
theorem x_sl {p2 : Pos} (hK : X.K = G.K) (he : PE X e (tBr G W ma)) (hl : PO X lo (tG G W (fun (i : Option Int) _ _ (v : Option Int) => v = i) ml)) (hu : PO X hi (tG G W (fun (i : Option Int) _ _ (v : Option Int) => v = i) mh)) :
    PE X (.Subscript e (.Slice lo hi none p2) pos) (tO G W (xSl ma ml mh)) := (pe_slice (slX hK) he hl hu).weak fun σ H Q q => by
  show tBr G W ma σ H fun x H1 => tG G W _ ml σ H1 fun l H2 => tG G W _ mh σ H2 fun h H3 => rSlX G.K x l h H3 Q
  refine q.seq bkO _ (fun ox x c c1 st1 r1 g1 p1 w => ?_)
  obtain ⟨fx, tx, kx⟩ := p1
  refine tG.seq1 bkO r1 w _ (fun l' l c2 st2 r2 g2 p2 w2 => ?_)
  obtain rfl : l = l' := p2
  refine tG.seq1 bkO r2 w2 _ (fun h' h c3 st3 r3 g3 p3 w3 => ?_)
  obtain rfl : h = h' := p3
  obtain ⟨o, eo, q3⟩ := wp_ofO.mp w3
  exact finS r3 (kx.go tx (g2.trans g3)) eo q3
end
end L2.Tr

namespace L2.Tr
open PySem PySem.Spec PyProof.Rows L2 L2.Pc

/-! ### calls of built-ins -/
def CnD (G : Gi) (r : List V → Hp → VK → Prop) (g : List D → Option O) : Prop := ∀ (st : S) (σ : L2.St) (c : Cf) (vs : List V) (ds : List D) (o : O) (Q : VK), Rel G st σ c →
  RpA G c.F c.al vs ds → g ds = some o → (∀ v c', Rel G st σ c' → GoE c c' → PrO G o c c' v → Q v c'.H) → r vs c.H Q
section
variable {X : Cx} {G : Gi} {W : WX} {e o : Expr} {es : List Expr} {m : M O} {ma : M (List D)} {x : Str} {p pos apos cpos : Pos} {id T : String} {r : List V → Hp → VK → Prop}
def xCn (g : List D → Option O) (ma : M (List D)) : M O := bnd ma fun ds => ofO (g ds)
@[simp] theorem xCn_app (g : List D → Option O) (ma : M (List D)) (s : S) : xCn g ma s = (ma s).bind fun ds => ofO (g ds) := rfl
theorem cn_t {g : List D → Option O} (hr : CnD G r g) {σ : L2.St} {H : Hp} {Q : VK} (q : tO G W (xCn g ma) σ H Q) : tCB r (tAs G W ma) σ H Q := by
  show tAs G W ma σ H fun vs H1 => r vs H1 Q
  refine q.seq bkO _ (fun ds vs c c1 st1 r1 g1 p1 w => ?_)
  obtain ⟨o, eo, q3⟩ := wp_ofO.mp w
  exact hr st1 σ c1 vs ds o Q r1 p1 eo q3
theorem c1_t {g : D → Option O} (hr : UnD G (fun x => r [x]) g) {σ : L2.St} {H : Hp} {Q : VK} (q : tO G W (xUn g m) σ H Q) : tCB r (tCons (tLa G W m) tNil) σ H Q := by
  show tLa G W m σ H fun x H1 => r [x] H1 Q
  exact un_t hr q
theorem x_b1 {g : D → Option O} (hc : CallR X (.builtin id) r) (hr : UnD G (fun x => r [x]) g) (hg : Gl X x) (hm : X.mg x = none) (hv : bootBuiltins x = some (.builtin id)) (ha : PE X e (tLa G W m)) (hn : x ≠ "__name__" := by decide) (hdb : (x == ("__debug__" : Str)) = false := by decide)
    (he : starEach [e] X.env = (false, eval e X.env) :: starEach [] X.env := by rfl) (hpl : (backTo pos (starEach [] X.env)).any (·.1) = false := by rfl) : PE X (.Call (.Name x p) [e] [] pos) (tO G W (xUn g m)) :=
  (pe_callB hc hg hm hv (pa_cons ha pa_nil he) hn hdb he hpl).weak fun _ _ _ q => c1_t hr q
theorem x_bn {g : List D → Option O} (hc : CallR X (.builtin id) r) (hr : CnD G r g) (hg : Gl X x) (hm : X.mg x = none) (hv : bootBuiltins x = some (.builtin id)) (ha : PA X (e :: es) (tAs G W ma)) (hn : x ≠ "__name__" := by decide) (hdb : (x == ("__debug__" : Str)) = false := by decide)
    (he : starEach (e :: es) X.env = (false, eval e X.env) :: starEach es X.env := by rfl) (hpl : (backTo pos (starEach es X.env)).any (·.1) = false := by rfl) : PE X (.Call (.Name x p) (e :: es) [] pos) (tO G W (xCn g ma)) :=
  (pe_callB hc hg hm hv ha hn hdb he hpl).weak fun _ _ _ q => cn_t hr q
theorem x_t1 {g : D → Option O} (hc : CallR X (.type T) r) (hr : UnD G (fun x => r [x]) g) (hg : Gl X x) (hm : X.mg x = none) (hv : bootBuiltins x = some (.type T)) (ha : PE X e (tLa G W m)) (hn : x ≠ "__name__" := by decide) (hdb : (x == ("__debug__" : Str)) = false := by decide)
    (he : starEach [e] X.env = (false, eval e X.env) :: starEach [] X.env := by rfl) (hpl : (backTo pos (starEach [] X.env)).any (·.1) = false := by rfl) : PE X (.Call (.Name x p) [e] [] pos) (tO G W (xUn g m)) :=
  (pe_callTy hc hg hm hv (pa_cons ha pa_nil he) hn hdb he hpl).weak fun _ _ _ q => c1_t hr q
/-- a built-in type as a value -/
theorem x_ty {n : String} (hg : Gl X x) (hm : X.mg x = none) (hv : bootBuiltins x = some (.type n)) (hn : x ≠ "__name__" := by decide) (hd : (x == ("__debug__" : Str)) = false := by decide) : PE X (.Name x pos) (tD G W (ret (.ty n))) :=
  (pe_bltn (v := .ty n) hg hm hv rfl hn hd).weak fun σ H Q q => by
    obtain ⟨c, st, rfl, r, h⟩ := q
    exact h _ c r (GoE.refl r) (.ty n)
/-! ### methods of texts -/
def MnD (G : Gi) (r : V → List V → Hp → VK → Prop) (g : D → List D → Option O) : Prop := ∀ (st : S) (σ : L2.St) (c : Cf) (x : V) (vs : List V) (ox : O) (fx : List Addr) (ds : List D) (o : O) (Q : VK), Rel G st σ c →
  OwnT G c.F c.al c.H ox x fx → RpA G c.F c.al vs ds → g ox.toD ds = some o → (∀ v c', Rel G st σ c' → GoE c c' → PrO G o c c' v → Q v c'.H) → r x vs c.H Q
def isS : D → Bool
  | .str _ => true
  | _ => false
def xM1 (g : D → List D → Option O) (m : M O) (md : M D) : M O := bnd m fun x => if isS x.toD = true then bnd md fun d => ofO (g x.toD [d]) else fun _ => .no
def xM0 (g : D → List D → Option O) (m : M O) : M O := bnd m fun x => if isS x.toD = true then ofO (g x.toD []) else fun _ => .no
@[simp] theorem xM1_app (g : D → List D → Option O) (m : M O) (md : M D) (s : S) : xM1 g m md s = (m s).bind fun x => if isS x.toD = true then bnd md fun d => ofO (g x.toD [d]) else fun _ => .no := rfl
@[simp] theorem xM0_app (g : D → List D → Option O) (m : M O) (s : S) : xM0 g m s = (m s).bind fun x => if isS x.toD = true then ofO (g x.toD []) else fun _ => .no := rfl
theorem view_str {c : Cf} {v : V} {d : D} (h : Vi G c v d) (k : isS d = true) : ∃ a, v = .str a := by
  cases d with
  | str s => exact ⟨s, h⟩
  | _ => cases k
theorem m1_t {r : V → List V → Hp → VK → Prop} {g : D → List D → Option O} {md : M D} (hr : MnD G r g) {σ : L2.St} {H : Hp} {Q : VK} (q : tO G W (xM1 g m md) σ H Q) : tM1 r (tBr G W m) (tD G W md) σ H Q := by
  show tBr G W m σ H fun x H1 => (∃ a, x = .str a) ∧ tD G W md σ H1 fun y H2 => r x [y] H2 Q
  refine q.seq bkO _ (fun ox x c c1 st1 r1 g1 p1 w => ?_)
  obtain ⟨fx, tx, kx⟩ := p1
  split at w
  · rename_i hs
    refine ⟨view_str (own_view r1 tx) hs, ?_⟩
    refine tG.seq1 bkO r1 w _ (fun d y c2 st2 r2 g2 p2 w2 => ?_)
    obtain ⟨o, eo, q3⟩ := wp_ofO.mp w2
    exact hr st2 σ c2 x [y] ox fx [d] o Q r2 (kx.go tx g2) (.cons p2 .nil) eo q3
  · exact w.elim
theorem m0_t {r : V → List V → Hp → VK → Prop} {g : D → List D → Option O} (hr : MnD G r g) {σ : L2.St} {H : Hp} {Q : VK} (q : tO G W (xM0 g m) σ H Q) : tM0 r (tBr G W m) σ H Q := by
  show tBr G W m σ H fun x H1 => (∃ a, x = .str a) ∧ r x [] H1 Q
  refine q.seq bkO _ (fun ox x c c1 st1 r1 g1 p1 w => ?_)
  obtain ⟨fx, tx, kx⟩ := p1
  split at w
  · rename_i hs
    obtain ⟨o, eo, q3⟩ := wp_ofO.mp w
    exact ⟨view_str (own_view r1 tx) hs, hr st1 σ c1 x [] ox fx [] o Q r1 tx .nil eo q3⟩
  · exact w.elim
end
/-! ### built-ins by their values -/
section
variable {G : Gi}
def lenD : D → Option O
  | .str s => if s.length ≤ 16777216 then some (.fz (.int s.length)) else none
  | .lst ds => some (.fz (.int ds.length))
  | .lsk ds => some (.fz (.int ds.length))
  | .tup ds => some (.fz (.int ds.length))
  | .tuk ds => some (.fz (.int ds.length))
  | _ => none
theorem d_len : UnD G (fun x => L2.Pc.rLen G.K [x]) lenD := by
  intro st σ c x ox fx o Q r tx e q
  have vx := own_view r tx
  generalize ox.toD = dx at *
  unfold lenD at e
  split at e
  · split at e
    · rename_i hl
      cases e
      obtain rfl : x = _ := vx
      exact ⟨_, _, rfl, ⟨by rw [szl]; exact hl, rfl⟩, fin r (.int _) q⟩
    · cases e
  · cases e
    obtain ⟨a, xs, rfl, hx, rx⟩ := vx
    exact ⟨_, _, rfl, .inl ⟨xs, .inl (.inl hx), rx.len.symm⟩, fin r (.int _) q⟩
  · cases e
    obtain ⟨a, xs, rfl, hx, rx⟩ := vx
    exact ⟨_, _, rfl, .inl ⟨xs, hx, rx.len.symm⟩, fin r (.int _) q⟩
  · cases e
    obtain ⟨a, xs, rfl, hx, rx, _⟩ := vx
    exact ⟨_, _, rfl, .inr ⟨xs, hx, rx.len.symm⟩, fin r (.int _) q⟩
  · cases e
    obtain ⟨a, xs, rfl, hx, rx⟩ := vx
    exact ⟨_, _, rfl, .inr ⟨xs, hx, rx.len.symm⟩, fin r (.int _) q⟩
  · cases e
def absD : D → Option O
  | .int i => some (.fz (.int (if i < 0 then -i else i)))
  | _ => none
theorem d_abs : UnD G (fun x => rAbs [x]) absD := by
  intro st σ c x ox fx o Q r tx e q
  have vx := own_view r tx
  generalize ox.toD = dx at *
  unfold absD at e
  split at e
  · cases e
    obtain rfl : x = _ := vx
    exact ⟨_, rfl, fin r (.int _) q⟩
  · cases e
def intD : D → Option O
  | .int i => some (.fz (.int i))
  | .bl b => some (.fz (.int (if b then 1 else 0)))
  | .str s => if s.length ≤ 640 then (PySem.intText? s).map fun n => .fz (.int n) else none
  | _ => none
theorem d_int : UnD G (fun x => rIntM [x]) intD := by
  intro st σ c x ox fx o Q r tx e q
  have vx := own_view r tx
  generalize ox.toD = dx at *
  unfold intD at e
  split at e
  · cases e
    obtain rfl : x = _ := vx
    exact .inl ⟨_, rfl, fin r (.int _) q⟩
  · cases e
    obtain rfl : x = _ := vx
    exact .inr (.inl ⟨_, rfl, fin r (.int _) q⟩)
  · split at e
    · rename_i hl
      obtain ⟨n, h1, rfl⟩ := map_some e
      obtain rfl : x = _ := vx
      exact .inr (.inr ⟨_, n, rfl, h1, hl, fin r (.int _) q⟩)
    · cases e
  · cases e
def strD : D → Option O
  | .int i => if i.natAbs.log2 < 1920 then some (.fz (.str (toString i))) else none
  | .str s => some (.fz (.str s))
  | _ => none
theorem d_str : UnD G (fun x => rStrM [x]) strD := by
  intro st σ c x ox fx o Q r tx e q
  have vx := own_view r tx
  generalize ox.toD = dx at *
  unfold strD at e
  split at e
  · split at e
    · rename_i hl
      cases e
      obtain rfl : x = _ := vx
      exact .inl ⟨_, rfl, hl, fin r (.str _) q⟩
    · cases e
  · cases e
    obtain rfl : x = _ := vx
    exact .inr ⟨_, rfl, fin r (.str _) q⟩
  · cases e
/-- repr of data without own classes -/
def reprD (d : D) : Option O := (D.py true d).bind fun p => if p.showable = true ∧ p.depth ≤ 60 ∧ p.shown.length ≤ 16777216 then some (.fz (.str p.shown)) else none
theorem d_repr : UnD G (fun x => rRepr G.K [x]) reprD := by
  intro st σ c x ox fx o Q r tx e q
  unfold reprD at e
  obtain ⟨p, h1, h2⟩ := bind_some e
  split at h2
  · rename_i h
    cases h2
    exact ⟨x, p, rfl, own_da r.sub tx h1, h.1, h.2.1, by rw [szl]; exact h.2.2, fin r (.str _) q⟩
  · cases h2
/-- truths in a list -/
def blsD : List D → Option (List Bool)
  | [] => some []
  | .bl b :: ds => (blsD ds).map (b :: ·)
  | _ => none
theorem rp_bls {F : Hp} {al : List Addr} : ∀ {ds : List D} {vs : List V} {bs : List Bool}, RpA G F al vs ds → blsD ds = some bs → vs = bs.map V.bl
  | _, _, _, .nil, h => by cases h; rfl
  | d :: ds, _, _, .cons h hs, e => by
    unfold blsD at e
    split at e
    · rename_i h0; cases h0
    · rename_i b ds' h0
      cases h0
      obtain ⟨bs', h1, rfl⟩ := map_some e
      cases h
      rw [rp_bls hs h1]; rfl
    · cases e
def allD : D → Option O
  | .lst ds => (blsD ds).map fun bs => .fz (.bl (bs.all id))
  | _ => none
def anyD : D → Option O
  | .lst ds => (blsD ds).map fun bs => .fz (.bl (bs.any id))
  | _ => none
theorem d_all : UnD G (fun x => L2.rAll G.K [x]) allD := by
  intro st σ c x ox fx o Q r tx e q
  have vx := own_view r tx
  generalize ox.toD = dx at *
  unfold allD at e
  split at e
  · obtain ⟨bs, h1, rfl⟩ := map_some e
    obtain ⟨a, xs, rfl, hx, rx⟩ := vx
    rw [rp_bls rx h1] at hx
    exact ⟨a, bs, rfl, .inl (.inl hx), fin r (.bl _) q⟩
  · cases e
theorem d_any : UnD G (fun x => L2.rAny G.K [x]) anyD := by
  intro st σ c x ox fx o Q r tx e q
  have vx := own_view r tx
  generalize ox.toD = dx at *
  unfold anyD at e
  split at e
  · obtain ⟨bs, h1, rfl⟩ := map_some e
    obtain ⟨a, xs, rfl, hx, rx⟩ := vx
    rw [rp_bls rx h1] at hx
    exact ⟨a, bs, rfl, .inl (.inl hx), fin r (.bl _) q⟩
  · cases e
/-- tuple(x), list(x) of what is walked by places -/
def tupleD : D → Option O
  | .lst ds => some (.fz (.tup ds))
  | .lsk ds => some (.fz (.tup ds))
  | .tup ds => some (.fz (.tup ds))
  | _ => none
def rTupOf (K : PySem.W.Frag) : List V → Hp → VK → Prop := fun xs H Q => ∃ p ys, xs = [.ref p] ∧ ((SqL K H p ys ∧ ∀ l, H l = none → Q (.ref l) (upd H l (.tup ys))) ∨ (SqT K H p ys ∧ Q (.ref p) H))
theorem call_tupK {X : Cx} {K : PySem.W.Frag} (hK : X.K = K) : CallR X (.type "tuple") (rTupOf K) := hK ▸ call_tuple_of
theorem d_tuple : UnD G (fun x => rTupOf G.K [x]) tupleD := by
  intro st σ c x ox fx o Q r tx e q
  have vx := own_view r tx
  generalize ox.toD = dx at *
  unfold tupleD at e
  split at e
  · cases e
    obtain ⟨a, xs, rfl, hx, rx⟩ := vx
    exact ⟨a, xs, rfl, .inl ⟨.inl (.inl hx), finT r rx q⟩⟩
  · cases e
    obtain ⟨a, xs, rfl, hx, rx⟩ := vx
    exact ⟨a, xs, rfl, .inl ⟨hx, finT r rx q⟩⟩
  · cases e
    obtain ⟨a, xs, rfl, hx, rx, rp⟩ := vx
    exact ⟨a, xs, rfl, .inr ⟨hx, fin r rp q⟩⟩
  · cases e
def listD : D → Option O
  | .lst ds => some (.lst ds)
  | .lsk ds => some (.lst ds)
  | .tup ds => some (.lst ds)
  | .tuk ds => some (.lst ds)
  | _ => none
def rLstOf (K : PySem.W.Frag) : List V → Hp → VK → Prop := fun xs H Q => ∃ p ys, xs = [.ref p] ∧ (SqL K H p ys ∨ SqT K H p ys) ∧ ∀ l, H l = none → Q (.ref l) (upd H l (.lst ys))
theorem call_lstK {X : Cx} {K : PySem.W.Frag} (hK : X.K = K) : CallR X (.type "list") (rLstOf K) := hK ▸ call_list_of
theorem d_list : UnD G (fun x => rLstOf G.K [x]) listD := by
  intro st σ c x ox fx o Q r tx e q
  have vx := own_view r tx
  generalize ox.toD = dx at *
  unfold listD at e
  split at e
  · cases e; obtain ⟨a, xs, rfl, hx, rx⟩ := vx; exact ⟨a, xs, rfl, .inl (.inl (.inl hx)), finL r rx q⟩
  · cases e; obtain ⟨a, xs, rfl, hx, rx⟩ := vx; exact ⟨a, xs, rfl, .inl hx, finL r rx q⟩
  · cases e; obtain ⟨a, xs, rfl, hx, rx, _⟩ := vx; exact ⟨a, xs, rfl, .inr hx, finL r rx q⟩
  · cases e; obtain ⟨a, xs, rfl, hx, rx⟩ := vx; exact ⟨a, xs, rfl, .inr hx, finL r rx q⟩
  · cases e
/-! ### in -/
def flatD : D → Bool
  | .non => true
  | .bl _ => true
  | .int _ => true
  | .str _ => true
  | _ => false
def eqF : D → D → Bool
  | .non, .non => true
  | .bl a, .bl b => a == b
  | .bl a, .int b => (if a then 1 else 0) == b
  | .int a, .bl b => a == (if b then 1 else 0)
  | .int a, .int b => a == b
  | .str a, .str b => a == b
  | _, _ => false
theorem flat_view {c : Cf} {v : V} {d : D} (h : Vi G c v d) (k : flatD d = true) : flatV v = true := by
  cases d with
  | non => obtain rfl : v = _ := h; rfl
  | bl _ => obtain rfl : v = _ := h; rfl
  | int _ => obtain rfl : v = _ := h; rfl
  | str _ => obtain rfl : v = _ := h; rfl
  | _ => cases k
theorem eqF_view {c : Cf} {v u : V} {d e : D} (h : Vi G c v d) (h2 : Vi G c u e) (k : flatD d = true) (k2 : flatD e = true) : eqV v u = eqF d e := by
  cases d with
  | non => cases e <;> first | (obtain rfl : v = _ := h; obtain rfl : u = _ := h2; rfl) | cases k2
  | bl _ => cases e <;> first | (obtain rfl : v = _ := h; obtain rfl : u = _ := h2; rfl) | cases k2
  | int _ => cases e <;> first | (obtain rfl : v = _ := h; obtain rfl : u = _ := h2; rfl) | cases k2
  | str _ => cases e <;> first | (obtain rfl : v = _ := h; obtain rfl : u = _ := h2; rfl) | cases k2
  | _ => cases k
theorem in_flat {st : S} {σ : L2.St} {c : Cf} {x : V} {d : D} (r : Rel G st σ c) (hx : Vi G c x d) (k : flatD d = true) : ∀ {vs : List V} {ds : List D}, RpA G c.F c.al vs ds → ds.all flatD = true →
    vs.all flatV = true ∧ inV x vs = ds.any fun y => eqF y d
  | _, _, .nil, _ => ⟨rfl, rfl⟩
  | _, _, .cons h hs, e => by
    rw [List.all_cons, Bool.and_eq_true] at e
    obtain ⟨i1, i2⟩ := in_flat r hx k hs e.2
    have vv := rp_view r h
    refine ⟨by rw [List.all_cons, flat_view vv e.1, i1]; rfl, ?_⟩
    show (eqV _ x || inV x _) = _
    rw [i2, eqF_view vv hx e.1 k, List.any_cons]
def itemsD : D → Option (List D)
  | .lst ds => some ds
  | .lsk ds => some ds
  | .tup ds => some ds
  | .tuk ds => some ds
  | _ => none
theorem items_view {c : Cf} {v : V} {d : D} {es : List D} (h : Vi G c v d) (hi : itemsD d = some es) : ∃ p xs, v = .ref p ∧ (SqL G.K c.H p xs ∨ SqT G.K c.H p xs) ∧ RpA G c.F c.al xs es := by
  cases d with
  | lst _ => cases hi; obtain ⟨a, xs, rfl, hx, rx⟩ := h; exact ⟨a, xs, rfl, .inl (.inl (.inl hx)), rx⟩
  | lsk _ => cases hi; obtain ⟨a, xs, rfl, hx, rx⟩ := h; exact ⟨a, xs, rfl, .inl hx, rx⟩
  | tup _ => cases hi; obtain ⟨a, xs, rfl, hx, rx, _⟩ := h; exact ⟨a, xs, rfl, .inr hx, rx⟩
  | tuk _ => cases hi; obtain ⟨a, xs, rfl, hx, rx⟩ := h; exact ⟨a, xs, rfl, .inr hx, rx⟩
  | _ => cases hi
def inB (x y : D) : Option Bool := match x, y with
  | .str a, .str z => if a.length = 1 then some (decide (a.cps.toList.getD 0 0 ∈ z.cps.toList)) else none
  | x, y => match itemsD y with
    | some ds => if flatD x = true ∧ ds.all flatD = true then some (ds.any fun y => eqF y x) else none
    | none => none
def inD (x y : D) : Option O := (inB x y).map fun b => .fz (.bl b)
def ninD (x y : D) : Option O := (inB x y).map fun b => .fz (.bl (!b))
theorem in_ok {st : S} {σ : L2.St} {c : Cf} {x y : V} {ox oy : O} {fx fy : List Addr} {b : Bool} (r : Rel G st σ c) (tx : OwnT G c.F c.al c.H ox x fx) (ty : OwnT G c.F c.al c.H oy y fy) (e : inB ox.toD oy.toD = some b) :
    (∃ (n : Nat) (z : Str), x = .str ⟨#[n]⟩ ∧ y = .str z ∧ b = decide (n ∈ z.cps.toList)) ∨ ∃ p xs, y = .ref p ∧ (SqL G.K c.H p xs ∨ SqT G.K c.H p xs) ∧ flatV x = true ∧ xs.all flatV = true ∧ b = inV x xs := by
  have vx := own_view r tx
  have vy := own_view r ty
  generalize ox.toD = dx at *
  generalize oy.toD = dy at *
  unfold inB at e
  split at e
  · rename_i a z
    split at e
    · rename_i hl
      cases e
      obtain rfl : x = _ := vx
      obtain rfl : y = _ := vy
      obtain ⟨n, hn⟩ : ∃ n, a.cps.toList = [n] := by
        have : a.cps.toList.length = 1 := by rw [← L2.Pc.len_list]; exact hl
        cases h : a.cps.toList with
        | nil => rw [h] at this; cases this
        | cons n l => cases l with
          | nil => exact ⟨n, rfl⟩
          | cons _ _ => rw [h] at this; simp at this
      refine .inl ⟨n, z, ?_, rfl, by rw [hn]; rfl⟩
      rw [show a = (⟨#[n]⟩ : Str) from str_ext hn]
    · cases e
  · split at e
    · rename_i ds hi
      split at e
      · rename_i hf
        cases e
        obtain ⟨p, xs, rfl, hs, rx⟩ := items_view vy hi
        obtain ⟨i1, i2⟩ := in_flat r vx hf.1 rx hf.2
        exact .inr ⟨p, xs, rfl, hs, flat_view vx hf.1, i1, i2.symm⟩
      · cases e
    · cases e
theorem d_in : OpD G (rInM G.K false) inD := by
  intro st σ c x y ox oy fx fy o Q r tx ty e q
  obtain ⟨b, h1, rfl⟩ := map_some e
  rcases in_ok r tx ty h1 with ⟨n, z, rfl, rfl, rfl⟩ | ⟨p, xs, rfl, h2, h3, h4, rfl⟩
  · exact .inl ⟨n, z, rfl, rfl, fin r (.bl _) q⟩
  · exact .inr ⟨p, xs, rfl, h2, h3, h4, fin r (.bl _) q⟩
theorem d_nin : OpD G (rInM G.K true) ninD := by
  intro st σ c x y ox oy fx fy o Q r tx ty e q
  obtain ⟨b, h1, rfl⟩ := map_some e
  rcases in_ok r tx ty h1 with ⟨n, z, rfl, rfl, rfl⟩ | ⟨p, xs, rfl, h2, h3, h4, rfl⟩
  · exact .inl ⟨n, z, rfl, rfl, fin r (.bl _) q⟩
  · exact .inr ⟨p, xs, rfl, h2, h3, h4, fin r (.bl _) q⟩
/-! ### methods of texts, by their values -/
def strsD : List D → Option (List Str)
  | [] => some []
  | .str b :: ds => (strsD ds).map (b :: ·)
  | _ => none
theorem rp_strs {F : Hp} {al : List Addr} : ∀ {ds : List D} {vs : List V} {bs : List Str}, RpA G F al vs ds → strsD ds = some bs → vs = bs.map V.str
  | _, _, _, .nil, h => by cases h; rfl
  | d :: ds, _, _, .cons h hs, e => by
    unfold strsD at e
    split at e
    · rename_i h0; cases h0
    · rename_i b ds' h0
      cases h0
      obtain ⟨bs', h1, rfl⟩ := map_some e
      cases h
      rw [rp_strs hs h1]; rfl
    · cases e
def joinD (x : D) (ds : List D) : Option O := match x, ds with
  | .str a, [d] => match itemsD d with
    | some es => (strsD es).bind fun ys => if (ys.map (·.length)).sum + ys.length * a.length ≤ 16777216 then some (.fz (.str (Txt.join a ys))) else none
    | none => none
  | _, _ => none
theorem d_join : MnD G (L2.Pc.rJoin G.K) joinD := by
  intro st σ c x vs ox fx ds o Q r tx rv e q
  have vx := own_view r tx
  generalize ox.toD = dx at *
  unfold joinD at e
  split at e
  · rename_i a d
    split at e
    · rename_i es hi
      obtain ⟨ys, h1, h2⟩ := bind_some e
      split at h2
      · rename_i hl
        cases h2
        obtain rfl : x = _ := vx
        cases rv with
        | cons h hs =>
          cases hs
          have vd := rp_view r h
          obtain ⟨p, xs, rfl, hsq, rx⟩ := items_view vd hi
          rw [rp_strs rx h1] at hsq
          exact ⟨a, p, ys, rfl, rfl, hsq, hl, fin r (.str _) q⟩
      · cases h2
    · cases e
  · cases e
def stripD (x : D) (ds : List D) : Option O := match x, ds with
  | .str a, [.str b] => if a.length ≤ 16777216 then some (.fz (.str (Txt.stripChars a b))) else none
  | _, _ => none
theorem d_strip : MnD G rStrip stripD := by
  intro st σ c x vs ox fx ds o Q r tx rv e q
  have vx := own_view r tx
  generalize ox.toD = dx at *
  unfold stripD at e
  split at e
  · split at e
    · rename_i hl
      cases e
      obtain rfl : x = _ := vx
      cases rv with
      | cons h hs => cases h; cases hs; exact ⟨_, _, rfl, rfl, by rw [szl]; exact hl, fin r (.str _) q⟩
    · cases e
  · cases e
def zfillD (x : D) (ds : List D) : Option O := match x, ds with
  | .str a, [.int i] => if PadOk i = true then some (.fz (.str (Txt.zfill a i))) else none
  | _, _ => none
theorem d_zfill : MnD G rZfill zfillD := by
  intro st σ c x vs ox fx ds o Q r tx rv e q
  have vx := own_view r tx
  generalize ox.toD = dx at *
  unfold zfillD at e
  split at e
  · split at e
    · rename_i hl
      cases e
      obtain rfl : x = _ := vx
      cases rv with
      | cons h hs => cases h; cases hs; exact ⟨_, _, rfl, rfl, hl, fin r (.str _) q⟩
    · cases e
  · cases e
def upperD (x : D) (ds : List D) : Option O := match x, ds with
  | .str a, [] => if a.length ≤ 5592405 then some (.fz (.str (Txt.upper a))) else none
  | _, _ => none
theorem d_upper : MnD G rUpper upperD := by
  intro st σ c x vs ox fx ds o Q r tx rv e q
  have vx := own_view r tx
  generalize ox.toD = dx at *
  unfold upperD at e
  split at e
  · split at e
    · rename_i hl
      cases e
      obtain rfl : x = _ := vx
      cases rv
      exact ⟨_, rfl, rfl, hl, fin r (.str _) q⟩
    · cases e
  · cases e
def partD (x : D) (ds : List D) : Option O := match x, ds with
  | .str a, [.str b] => if b.length ≠ 0 ∧ a.length ≤ 16777216 then some (.fz (.tup [.str (Txt.partition a b).1, .str (Txt.partition a b).2.1, .str (Txt.partition a b).2.2])) else none
  | _, _ => none
theorem d_part : MnD G rPart partD := by
  intro st σ c x vs ox fx ds o Q r tx rv e q
  have vx := own_view r tx
  generalize ox.toD = dx at *
  unfold partD at e
  split at e
  · split at e
    · rename_i hl
      cases e
      obtain rfl : x = _ := vx
      cases rv with
      | cons h hs =>
        cases h; cases hs
        exact ⟨_, _, rfl, rfl, by simpa using hl.1, by rw [szl]; exact hl.2, finT r (.cons (.str _) (.cons (.str _) (.cons (.str _) .nil))) q⟩
    · cases e
  · cases e
/-! ### isinstance of data -/
def clsName : D → Option String
  | .non => some "NoneType"
  | .bl _ => some "bool"
  | .int _ => some "int"
  | .str _ => some "str"
  | .tup _ => some "tuple"
  | .tuk _ => some "tuple"
  | .lst _ => some "list"
  | .lsk _ => some "list"
  | .dct _ => some "dict"
  | _ => none
theorem rd_ty {K : PySem.W.Frag} {H : Hp} {a : Addr} {kvs : List (Key × V)} (h : Rd H a (.dK kvs)) : TyX K H (.ref a) (.type "dict") := by
  rcases h with h | ⟨o, h⟩
  · exact .base (.dK h)
  · exact .fDict h
theorem sqL_ty {K : PySem.W.Frag} {H : Hp} {a : Addr} {xs : List V} (h : SqL K H a xs) : TyX K H (.ref a) (.type "list") := by
  rcases h with (h | ⟨o, h⟩) | ⟨o, its, n, h, hc, _⟩
  · exact .base (.lst h)
  · exact .base (.frz h)
  · exact .kList h hc
theorem sqT_ty {K : PySem.W.Frag} {H : Hp} {a : Addr} {xs : List V} (h : SqT K H a xs) : TyX K H (.ref a) (.type "tuple") := by
  rcases h with (h | ⟨o, h⟩) | ⟨o, its, n, h, hc, _⟩
  · exact .base (.tup h)
  · exact .fTuple h
  · exact .kTuple h hc
theorem rp_ty {st : S} {σ : L2.St} {c : Cf} {v : V} {d : D} {k : String} (r : Rel G st σ c) (t : Rp G c.F c.al v d) (e : clsName d = some k) : TyX G.K c.H v (.type k) := by
  cases t with
  | non => cases e; exact .base .non
  | bl b => cases e; exact .base (.bl b)
  | int i => cases e; exact .base (.int i)
  | str x => cases e; exact .base (.str x)
  | tup h hs => cases e; exact sqT_ty (.inl (.inl (r.sub _ _ h)))
  | tuk h hs => cases e; exact sqT_ty (r.rdT h)
  | lst h hs => cases e; exact sqL_ty (.inl (.inl (r.sub _ _ h)))
  | lsk h hs => cases e; exact sqL_ty (r.rdL h)
  | dcK h q hs => cases e; exact rd_ty (rd_mo r.sub h)
  | _ => cases e
/-- what isinstance tells of a kind and a built-in type -/
def kindIs : String → String → Option Bool
  | k, "str" => some (k == "str")
  | k, "int" => some (k == "int" || k == "bool")
  | k, "bool" => some (k == "bool")
  | k, "tuple" => some (k == "tuple")
  | k, "list" => some (k == "list")
  | k, "dict" => some (k == "dict")
  | _, _ => none
theorem kind_kit {d : D} {k n : String} {b : Bool} (e : clsName d = some k) (h : kindIs k n = some b) : kitB k n = some b := by
  have all : ∀ k ∈ ["NoneType", "bool", "int", "str", "tuple", "list", "dict"], ∀ n ∈ ["str", "int", "bool", "tuple", "list", "dict"], kitB k n = kindIs k n := by decide +kernel
  have hk : k ∈ ["NoneType", "bool", "int", "str", "tuple", "list", "dict"] := by
    cases d <;> cases e <;> decide
  have hn : n ∈ ["str", "int", "bool", "tuple", "list", "dict"] := by
    unfold kindIs at h
    split at h <;> first | decide | cases h
  rw [all k hk n hn, h]
def isiD : List D → Option O
  | [x, .ty n] => (clsName x).bind fun k => (kindIs k n).map fun b => .fz (.bl b)
  | _ => none
theorem d_isi : CnD G (rIsi G.K) isiD := by
  intro st σ c vs ds o Q r rv e q
  unfold isiD at e
  split at e
  · rename_i x n
    obtain ⟨k, h1, h2⟩ := bind_some e
    obtain ⟨b, h3, rfl⟩ := map_some h2
    cases rv with
    | cons h hs =>
      cases hs with
      | cons h' hs' =>
        cases h'
        cases hs'
        exact ⟨_, .ty n, _, _, b, rfl, .ty _, rp_ty r h h1, kit_ty (kind_kit h1 h3), fin r (.bl _) q⟩
  · cases e
end
end L2.Tr

namespace L2.Tr
open PySem PySem.Spec PyProof.Rows L2 L2.Pc

/-! ### short words for derivations -/
section
variable {X : Cx} {G : Gi} {W : WX} {e : Expr} {m : M O} {pos : Pos}
theorem noPass {σ : L2.St} : PassesAt (L2.CX X.prog X.w) X σ (WE noW σ) := fun _ _ _ _ _ _ c => by
  obtain ⟨_, _, _, _, _, _, _, _, _, _, _, _, h⟩ := c
  exact h.elim
theorem nog {p : Prop} : false = true → p := fun z => by cases z
theorem tv (i : Nat) {x : Str} (hN : X.N[i]? = some x := by rfl) (hv : Vis X.env.scope x := by first | exact Or.inl rfl | exact Or.inr (Or.inl rfl) | exact Or.inr (Or.inr rfl)) (hd : (x == ("__debug__" : Str)) = false := by decide)
    (hcd : (x == ("__classdict__" : Str)) = false := by decide) : PE X (.Name x pos) (tO G W (xVar i)) := x_var hN hv hd hcd
theorem tm (i : Nat) {x : Str} (hN : X.N[i]? = some x := by rfl) (hv : Vis X.env.scope x := by first | exact Or.inl rfl | exact Or.inr (Or.inl rfl) | exact Or.inr (Or.inr rfl)) (hd : (x == ("__debug__" : Str)) = false := by decide)
    (hcd : (x == ("__classdict__" : Str)) = false := by decide) : PE X (.Name x pos) (tO G W (xMov i)) := x_mov hN hv hd hcd
theorem tb (i : Nat) {x : Str} (hN : X.N[i]? = some x := by rfl) (hv : Vis X.env.scope x := by first | exact Or.inl rfl | exact Or.inr (Or.inl rfl) | exact Or.inr (Or.inr rfl)) (hd : (x == ("__debug__" : Str)) = false := by decide)
    (hcd : (x == ("__classdict__" : Str)) = false := by decide) : PE X (.Name x pos) (tBr G W (xBor i)) := x_bvar hN hv hd hcd
theorem tq (i : Nat) {x : Str} (hN : X.N[i]? = some x := by rfl) (hv : Vis X.env.scope x := by first | exact Or.inl rfl | exact Or.inr (Or.inl rfl) | exact Or.inr (Or.inr rfl)) (hd : (x == ("__debug__" : Str)) = false := by decide)
    (hcd : (x == ("__classdict__" : Str)) = false := by decide) : PE X (.Name x pos) (tQ G (qVar i)) := xq_var hN hv hd hcd
/-- a slot's thing, or what its cell holds -/
def xRd (i : Nat) : M O := fun s => match getS s.env i with
  | some (.fz (.cel n)) => (match getM s.mu n with
    | some o => .ok o s
    | none => .no)
  | some o => .ok o s
  | none => .no
theorem x_rd {i : Nat} {x : Str} (hN : X.N[i]? = some x) (hv : Vis X.env.scope x) (hd : (x == ("__debug__" : Str)) = false := by decide) (hcd : (x == ("__classdict__" : Str)) = false := by decide) : PE X (.Name x pos) (tLa G W (xRd i)) :=
  (pe_var hN hv hd hcd).weak fun σ H Q q => by
    obtain ⟨c, st, rfl, r, w⟩ := q
    unfold xRd at w
    split at w
    · rename_i n h
      split at w
      · rename_i o h2
        obtain ⟨v, f2, q1, q2, _⟩ := place (i := i) r (show getP st i = some o by unfold getP; rw [h]; exact h2)
        exact ⟨v, q1, w v c r (GoE.refl r) ⟨f2, q2⟩⟩
      · exact w.elim
    · rename_i o h1 h
      obtain ⟨v, g1, g2, g3, q1, q2, _⟩ := slots_get r.slots h
      exact ⟨v, q1, w v c r (GoE.refl r) ⟨g2, q2⟩⟩
    · exact w.elim
theorem tr (i : Nat) {x : Str} (hN : X.N[i]? = some x := by rfl) (hv : Vis X.env.scope x := by first | exact Or.inl rfl | exact Or.inr (Or.inl rfl) | exact Or.inr (Or.inr rfl)) (hd : (x == ("__debug__" : Str)) = false := by decide)
    (hcd : (x == ("__classdict__" : Str)) = false := by decide) : PE X (.Name x pos) (tLa G W (xRd i)) := x_rd hN hv hd hcd
theorem tc_int {i : Int} {j : Nat} : PE X (.Constant (.int i) j pos) (tO G W (xC (.int i))) := x_c pe_int fun _ _ => .int i
theorem tc_bl {b : Bool} {j : Nat} : PE X (.Constant (.bool b) j pos) (tO G W (xC (.bl b))) := x_c pe_bl fun _ _ => .bl b
theorem tc_non {j : Nat} : PE X (.Constant .none j pos) (tO G W (xC .non)) := x_c pe_non fun _ _ => .non
theorem tc_str {s : Str} {j : Nat} : PE X (.Constant (.str s) j pos) (tO G W (xC (.str s))) := x_c pe_str fun _ _ => .str s
theorem tq_int {i : Int} {j : Nat} : PE X (.Constant (.int i) j pos) (tQ G fun _ => some (.int i)) := xq_c pe_int fun _ _ => .int i
theorem tq_str {s : Str} {j : Nat} : PE X (.Constant (.str s) j pos) (tQ G fun _ => some (.str s)) := xq_c pe_str fun _ _ => .str s
/-- a module's constant -/
structure Gc (G : Gi) (x : Str) (d : D) : Prop where
  ex : ∃ v, Gm G.mg x v ∧ ∀ F al, Rp G F al v d
theorem tg {x : Str} {d : D} (h : Gc G x d) (hM : X.mg = G.mg) (hg : Gl X x) (hd : (x == ("__debug__" : Str)) = false := by decide) : PE X (.Name x pos) (tO G W (xC d)) := by
  obtain ⟨v, h1, h2⟩ := h.ex
  exact x_c (pe_gm (by rw [hM]; exact h1) hg hd) h2
end
/-! ### several values, owned -/
section
variable {G : Gi} {W : WX}
def PrAO (G : Gi) : List O → Cf → Cf → List V → Prop := fun os c c' vs => ∃ fp, OwnA G c'.F c'.al c'.H os vs fp ∧ Fresh fp c' ∧ New fp c
theorem bkAO : Bk (PrAO G) := fun o c c1 c' v g ⟨fp, t, f, n⟩ => ⟨fp, t, f, n.go g.toGo⟩
abbrev tAo (G : Gi) (W : WX) (m : M (List O)) : TA := tG G W (PrAO G) m
def oNil : M (List O) := ret []
def oCons (m : M O) (ms : M (List O)) : M (List O) := bnd m fun d => bnd ms fun ds => ret (d :: ds)
@[simp] theorem oNil_app (s : S) : oNil s = .ok [] s := rfl
@[simp] theorem oCons_app (m : M O) (ms : M (List O)) (s : S) : oCons m ms s = (m s).bind fun d s1 => (ms s1).bind fun ds => ret (d :: ds) := rfl
variable {X : Cx} {e : Expr} {es : List Expr} {m : M O} {ms : M (List O)}
theorem xo_nil : PA X [] (tAo G W oNil) := (pa_nil (X := X)).weak fun σ H Q q => by
  obtain ⟨c, st, rfl, r, h⟩ := q
  exact h [] c r (GoE.refl r) ⟨[], .nil, Fresh.nil _, New.nil _⟩
theorem ocons_t {σ : L2.St} {H : Hp} {Q : List V → Hp → Prop} (q : tAo G W (oCons m ms) σ H Q) : tCons (tO G W m) (tAo G W ms) σ H Q := by
  show tO G W m σ H fun x H1 => tAo G W ms σ H1 fun xs H2 => Q (x :: xs) H2
  obtain ⟨c0, st0, e0, r0, h0⟩ := q
  refine ⟨c0, st0, e0, r0, wp_mono (wp_bind.mp h0) (fun o st1 w v c1 r1 g1 p1 => ?_) (fun _ _ h => h)⟩
  obtain ⟨f1, t1, fr1, n1⟩ := p1
  refine ⟨c1, st1, rfl, r1, wp_mono (wp_bind.mp w) (fun os st2 w2 vs c2 r2 g2 p2 => ?_) (fun x s h => h.go g1)⟩
  obtain ⟨f2, t2, fr2, n2⟩ := p2
  obtain ⟨t1', fr1'⟩ := OwnT.go t1 fr1 g2.toGo
  refine w2 (v :: vs) c2 r2 (g1.trans g2) ⟨f1 ++ f2, .cons t1' t2, ?_, fun a ha => (List.mem_append.mp ha).elim (n1 a) (n2.go g1.toGo a)⟩
  refine ⟨List.nodup_append.mpr ⟨fr1'.nd, fr2.nd, fun a ha b hb e => ?_⟩, fun a ha => (List.mem_append.mp ha).elim (fr1'.nf a) (fr2.nf a), fun a ha => (List.mem_append.mp ha).elim (fr1'.ns a) (fr2.ns a),
    fun a ha => (List.mem_append.mp ha).elim (fr1'.nc a) (fr2.nc a)⟩
  subst e
  rcases n2 a hb with z | z | z
  · exact fr1.ns a ha z
  · exact fr1.nc a ha z
  · exact t1.there a ha z
theorem xo_cons (ha : PE X e (tO G W m)) (hr : PA X es (tAo G W ms)) (hs : starEach (e :: es) X.env = (false, eval e X.env) :: starEach es X.env := by rfl) : PA X (e :: es) (tAo G W (oCons m ms)) :=
  (pa_cons ha hr hs).weak fun _ _ _ q => ocons_t q
/-- a, b = x, y -/
def sPar (i j : Nat) (ms : M (List O)) : M Fl := bnd ms fun os s => match os with
  | [o, p] => .ok .nx ⟨setS (setS s.env i (some o)) j (some p), s.mu⟩
  | _ => .no
def sPar3 (i j l : Nat) (ms : M (List O)) : M Fl := bnd ms fun os s => match os with
  | [o, p, r] => .ok .nx ⟨setS (setS (setS s.env i (some o)) j (some p)) l (some r), s.mu⟩
  | _ => .no
/-- a slot stored to, the rest of what is at hand stays at hand -/
theorem rel_put2 {st : S} {σ : L2.St} {c0 c : Cf} {i : Nat} {o : O} {v : V} {fp fq : List Addr} (r : Rel G st σ c) (t : OwnT G c.F c.al c.H o v fp) (f : Fresh (fp ++ fq) c) (g : Go c0 c) (n : New fp c0) :
    ∃ c', c'.H = c.H ∧ Rel G ⟨setS st.env i (some o), st.mu⟩ (σ.set i (some v)) c' ∧ Go c0 c' ∧ c'.F = c.F ∧ c'.al = c.al ∧ Fresh fq c' := by
  have nd := List.nodup_append.mp f.nd
  have f1 : Fresh fp c := ⟨nd.1, fun a h => f.nf a (List.mem_append_left _ h), fun a h => f.ns a (List.mem_append_left _ h), fun a h => f.nc a (List.mem_append_left _ h)⟩
  obtain ⟨c', e, r', g', eF, eA, hs, hc⟩ := rel_put (i := i) r t f1 g n
  refine ⟨c', e, r', g', eF, eA, nd.2.1, fun a h => by rw [eF]; exact f.nf a (List.mem_append_right _ h), fun a h => hs a (fun z => nd.2.2 a z a h rfl) (f.ns a (List.mem_append_right _ h)), fun a h => by rw [hc]; exact f.nc a (List.mem_append_right _ h)⟩
theorem par_t {i j : Nat} {D' : Ends} {σ : L2.St} {H : Hp} (q : tS G W (sPar i j ms) D' σ H) : tPar i j (tAo G W ms) D' σ H := by
  show tAo G W ms σ H fun vs H1 => ∃ v w, vs = [v, w] ∧ D'.nx ((σ.set i (some v)).set j (some w)) H1
  refine tS.ex q _ (fun os vs c c1 st1 r1 g1 p1 w => ?_)
  obtain ⟨fp, t, f, n⟩ := p1
  split at w
  · rename_i o p
    cases t with
    | @cons _ v _ _ fa fb t1 ts =>
      cases ts with
      | @cons _ u _ _ fc fd t2 ts =>
        cases ts
        rw [List.append_nil] at f n
        refine ⟨v, u, rfl, ?_⟩
        obtain ⟨c2, e2, r2, g2, eF, eA, f2⟩ := rel_put2 (i := i) r1 t1 f g1.toGo (fun a h => n a (List.mem_append_left _ h))
        obtain ⟨c3, e3, r3, g3, _⟩ := rel_put (i := j) r2 (t2.mo (by rw [eF, eA]; exact Mo.refl _ _) fun a _ => by rw [e2]) f2 g2 (fun a h => n a (List.mem_append_right _ h))
        have w : Fw G D' c .nx _ := w
        rw [← e2, ← e3]
        exact w _ c3 r3 g3
  · exact w.elim
theorem par3_t {i j l : Nat} {D' : Ends} {σ : L2.St} {H : Hp} (q : tS G W (sPar3 i j l ms) D' σ H) : tPar3 i j l (tAo G W ms) D' σ H := by
  show tAo G W ms σ H fun vs H1 => ∃ u v w, vs = [u, v, w] ∧ D'.nx (((σ.set i (some u)).set j (some v)).set l (some w)) H1
  refine tS.ex q _ (fun os vs c c1 st1 r1 g1 p1 w => ?_)
  obtain ⟨fp, t, f, n⟩ := p1
  split at w
  · rename_i o p s
    cases t with
    | @cons _ v _ _ fa fb t1 ts =>
      cases ts with
      | @cons _ u _ _ fc fd t2 ts =>
        cases ts with
        | @cons _ x _ _ fe ff t3 ts =>
          cases ts
          rw [List.append_nil] at f n
          refine ⟨v, u, x, rfl, ?_⟩
          obtain ⟨c2, e2, r2, g2, eF, eA, f2⟩ := rel_put2 (i := i) r1 t1 f g1.toGo (fun a h => n a (List.mem_append_left _ h))
          obtain ⟨c3, e3, r3, g3, eF3, eA3, f3⟩ := rel_put2 (i := j) r2 (t2.mo (by rw [eF, eA]; exact Mo.refl _ _) fun a _ => by rw [e2]) f2 g2 (fun a h => n a (List.mem_append_right _ (List.mem_append_left _ h)))
          obtain ⟨c4, e4, r4, g4, _⟩ := rel_put (i := l) r3 (t3.mo (by rw [eF3, eA3, eF, eA]; exact Mo.refl _ _) fun a _ => by rw [e3, e2]) f3 g3 (fun a h => n a (List.mem_append_right _ (List.mem_append_right _ h)))
          have w : Fw G D' c .nx _ := w
          rw [← e2, ← e3, ← e4]
          exact w _ c4 r4 g4
  · exact w.elim
end
/-! ### chains of two comparisons -/
section
variable {X : Cx} {G : Gi} {W : WX} {a b c : Expr} {ma mb mc : M O} {pos : Pos}
/-- a < b < c -/
def xChain (g g' : D → D → Option O) (ma mb mc : M O) : M O := bnd ma fun x => bnd mb fun y => match (g x.toD y.toD).bind asB with
  | some true => bnd mc fun z => ofO (g' y.toD z.toD)
  | some false => ret (.fz (.bl false))
  | none => fun _ => .no
theorem asB_some {o : O} {b : Bool} (h : asB o = some b) : o = .fz (.bl b) := by
  unfold asB at h
  split at h
  · cases h; rfl
  · cases h
theorem chain_t {r r' : R2} {g g' : D → D → Option O} (hr : OpD G r g) (hr' : OpD G r' g') {σ : L2.St} {H : Hp} {Q : VK} (q : tO G W (xChain g g' ma mb mc) σ H Q) :
    tChain r r' (tBr G W ma) (tBr G W mb) (tLa G W mc) σ H Q := by
  show tBr G W ma σ H fun x H1 => tBr G W mb σ H1 fun y H2 => r x y H2 fun z H3 => ∃ k, z = .bl k ∧ (if k = true then tLa G W mc σ H3 fun w' H4 => r' y w' H4 Q else Q (.bl false) H3)
  refine q.seq bkO _ (fun ox x c c1 st1 r1 g1 p1 w => ?_)
  obtain ⟨fx, tx, kx⟩ := p1
  refine tG.seq1 bkO r1 w _ (fun oy y c2 st2 r2 g2 p2 w2 => ?_)
  obtain ⟨fy, ty, ky⟩ := p2
  cases e : (g ox.toD oy.toD).bind asB with
  | none => rw [e] at w2; exact w2.elim
  | some b =>
    rw [e] at w2
    obtain ⟨o, e1, e2⟩ := bind_some e
    obtain rfl := asB_some e2
    refine hr st2 σ c2 x y ox oy fx fy _ _ r2 (kx.go tx g2) ty e1 (fun v c3 r3 g3 p3 => ⟨b, prO_bl b _ _ _ p3, ?_⟩)
    have w2 := wp_mono w2 (fun (o : O) st' (q : ∀ u c', Rel G st' σ c' → GoE c2 c' → PrO G o c2 c' u → Q u c'.H) => (fun u c' r' g' p' => q u c' r' (g3.trans g') (bkO _ _ _ _ _ g3 p') : ∀ u c', Rel G st' σ c' → GoE c3 c' → PrO G o c3 c' u → Q u c'.H)) (fun x s q => q.go g3)
    cases b with
    | false => exact w2 _ c3 r3 (GoE.refl r3) (prO_fz (.bl _))
    | true =>
      rw [if_pos rfl]
      refine tG.seq1 bkO r3 w2 _ (fun oz z c4 st4 r4 g4 p4 w4 => ?_)
      obtain ⟨fz, tz⟩ := p4
      obtain ⟨o, eo, q3⟩ := wp_ofO.mp w4
      exact hr' st4 σ c4 y z oy oz fy fz o Q r4 (ky.go ty (g3.trans g4)) tz eo q3
theorem x_chain {op op' : CmpOp} {r r' : R2} {g g' : D → D → Option O} (ho : OpR X (compareOp op) r) (ho' : OpR X (compareOp op') r') (hr : OpD G r g) (hr' : OpD G r' g') (ha : PE X a (tBr G W ma)) (hb : PE X b (tBr G W mb)) (hc : PE X c (tLa G W mc))
    (hm : lastMarks [op, op'] [b, c] = false := by with_unfolding_all rfl) : PE X (.Compare a [op, op'] [b, c] pos) (tO G W (xChain g g' ma mb mc)) := (pe_chain ho ho' ha hb hc hm).weak fun _ _ _ q => chain_t hr hr' q
theorem xt_chain {op op' : CmpOp} {r r' : R2} {g g' : D → D → Option O} (ho : OpR X (compareOp op) r) (ho' : OpR X (compareOp op') r') (hr : OpD G r g) (hr' : OpD G r' g') (ha : PE X a (tBr G W ma)) (hb : PE X b (tBr G W mb)) (hc : PE X c (tLa G W mc))
    (hm : lastMarks [op, op'] [b, c] = false := by with_unfolding_all rfl) : PT X (.Compare a [op, op'] [b, c] pos) (tTs G W (toB (xChain g g' ma mb mc))) := (pt_chain ho ho' ha hb hc hm).weak fun _ _ _ q => by
  have q2 := test_t (prO_bl (G := G)) q
  exact chain_t hr hr' q2
/-- the last of and, or as a value -/
theorem x_one {op : BoolOp} (ha : PE X a (tO G W ma)) : PE X (.BoolOp op [a] pos) (tO G W ma) := pe_one ha
end
section
variable {X : Cx} {G : Gi} {W : WX} {ms : M (List O)} {pos : Pos}
theorem s_par {i j : Nat} {x y : Str} {a b : Expr} {px py pt : Pos} {kt k2 : Nat} {pt2 : Pos} (h : PS X (.Assign [.Tuple [.Name x px, .Name y py] kt pt] (.Tuple [a, b] k2 pt2) pos) (tPar i j (tAo G W ms))) :
    PS X (.Assign [.Tuple [.Name x px, .Name y py] kt pt] (.Tuple [a, b] k2 pt2) pos) (tS G W (sPar i j ms)) := h.weak fun _ _ _ q => par_t q
theorem s_par3 {i j l : Nat} {st : Stmt} (h : PS X st (tPar3 i j l (tAo G W ms))) : PS X st (tS G W (sPar3 i j l ms)) := h.weak fun _ _ _ q => par3_t q
theorem tg_tupK {K : PySem.W.Frag} {gs : TGs} {ts : List MT} {n : Nat} (hK : G.K = K) (h : TgsOk G gs ts) (hn : ts.length = n := by rfl) : TgOk G (gTup K n gs) (gT ts) := hK ▸ tg_tup h hn
theorem tw_tupK {K : PySem.W.Frag} {gs : TGs} {ts : List MT} {n : Nat} {ws : List Nat} (hK : G.K = K) (h : TgsW G gs ts ws) (hn : ts.length = n := by rfl) : TgW G (gTup K n gs) (gT ts) ws := hK ▸ tw_tup h hn
end
/-! ### max, min of some ints -/
def intsD : List D → Option (List Int)
  | [] => some []
  | .int i :: ds => (intsD ds).map (i :: ·)
  | _ => none
end L2.Tr

namespace L2.Tr
open PySem PySem.Spec PyProof.Rows L2 L2.Pc
section
variable {G : Gi}
def min2D : List D → Option O
  | [.int i, .int j] => some (.fz (.int (if j < i then j else i)))
  | _ => none
def max2D : List D → Option O
  | [.int i, .int j] => some (.fz (.int (if j > i then j else i)))
  | _ => none
def min3D : List D → Option O
  | [.int i, .int j, .int k] => some (.fz (.int (if k < (if j < i then j else i) then k else if j < i then j else i)))
  | _ => none
theorem d_min2 : CnD G (fun xs H Q => ∃ i j, xs = [V.int i, .int j] ∧ Q (.int (if j < i then j else i)) H) min2D := by
  intro st σ c vs ds o Q r rv e q
  unfold min2D at e
  split at e
  · cases e; exact ⟨_, _, rp_ints2 rv, fin r (.int _) q⟩
  · cases e
theorem d_max2 : CnD G (fun xs H Q => ∃ i j, xs = [V.int i, .int j] ∧ Q (.int (if j > i then j else i)) H) max2D := by
  intro st σ c vs ds o Q r rv e q
  unfold max2D at e
  split at e
  · cases e; exact ⟨_, _, rp_ints2 rv, fin r (.int _) q⟩
  · cases e
theorem d_min3 : CnD G (rNuC3 nuMin3) min3D := by
  intro st σ c vs ds o Q r rv e q
  unfold min3D at e
  split at e
  · rename_i i j k
    cases e
    cases rv with
    | cons h hs =>
      cases h
      rw [rp_ints2 hs]
      refine ⟨_, _, _, .int (if k < (if j < i then j else i) then k else if j < i then j else i), rfl, ?_, fin r (.int _) q⟩
      by_cases h1 : j < i
      · by_cases h2 : k < j <;> simp [nuMin3, nuMin2, nuLt, nuCB, h1, h2]
      · by_cases h2 : k < i <;> simp [nuMin3, nuMin2, nuLt, nuCB, h1, h2]
  · cases e
end
section
variable {X : Cx} {G : Gi} {W : WX} {e o : Expr} {m : M O} {md : M D} {pos apos cpos : Pos} {r : V → List V → Hp → VK → Prop} {g : D → List D → Option O} {id : String} {name : Str}
theorem x_m1 (slot : Slot "str" name id) (ty : typeOf (.builtin id) = pure (.type "method_descriptor")) (rule : MtR X id r) (hr : MnD G r g) (ho : PE X o (tBr G W m)) (he : PE X e (tD G W md))
    (hs : starEach [e] X.env = [(false, eval e X.env)] := by rfl) (hbase : attributeBase o name X.env (eval o X.env) = eval o X.env := by rfl) (hline : (apos.endLine == pos.line) = true := by rfl) :
    PE X (.Call (.Attribute o name apos) [e] [] pos) (tO G W (xM1 g m md)) := (pe_m1 slot ty rule ho he hs hbase hline).weak fun _ _ _ q => m1_t hr q
theorem x_m0 (slot : Slot "str" name id) (ty : typeOf (.builtin id) = pure (.type "method_descriptor")) (rule : MtR X id r) (hr : MnD G r g) (ho : PE X o (tBr G W m))
    (hbase : attributeBase o name X.env (eval o X.env) = eval o X.env := by rfl) (hline : (apos.endLine == pos.line) = true := by rfl) :
    PE X (.Call (.Attribute o name apos) [] [] pos) (tO G W (xM0 g m)) := (pe_m0 slot ty rule ho hbase hline).weak fun _ _ _ q => m0_t hr q
end
end L2.Tr

namespace L2.Tr
open PySem PySem.Spec PyProof.Rows L2 L2.Pc

/-! ### trees without cells -/
mutual
def noC : D → Bool
  | .cel _ => false
  | .tup xs => noCA xs
  | .lst xs => noCA xs
  | .lsk xs => noCA xs
  | .tuk xs => noCA xs
  | .dct kvs => noCK kvs
  | .dcu kvs => noCK kvs
  | .ins _ fs => noCF fs
  | .xob _ fs => noCF fs
  | .non => true
  | .bl _ => true
  | .int _ => true
  | .str _ => true
  | .fn _ => true
  | .ty _ => true
def noCA : List D → Bool
  | [] => true
  | d :: ds => noC d && noCA ds
def noCK : List (D × D) → Bool
  | [] => true
  | (_, d) :: ds => noC d && noCK ds
def noCF : List (Str × D) → Bool
  | [] => true
  | (_, d) :: ds => noC d && noCF ds
end
theorem noCF_map : ∀ fs : List (Str × D), noCF fs = noCA (fs.map (·.2))
  | [] => by rw [noCF]; rfl
  | (_, d) :: r => by rw [noCF, List.map_cons, noCA, noCF_map r]
theorem noCK_map : ∀ fs : List (D × D), noCK fs = noCA (fs.map (·.2))
  | [] => by rw [noCK]; rfl
  | (_, d) :: r => by rw [noCK, List.map_cons, noCA, noCK_map r]
mutual
theorem Rp.al {G : Gi} {F : Hp} {al al' : List Addr} : ∀ {v : V} {d : D}, Rp G F al v d → noC d = true → Rp G F al' v d
  | _, _, .non, _ => .non
  | _, _, .bl b, _ => .bl b
  | _, _, .int i, _ => .int i
  | _, _, .str x, _ => .str x
  | _, _, .tup h hs, n => by rw [noC] at n; exact .tup h (RpA.al hs n)
  | _, _, .tuk h hs, n => by rw [noC] at n; exact .tuk h (RpA.al hs n)
  | _, _, .lst h hs, n => by rw [noC] at n; exact .lst h (RpA.al hs n)
  | _, _, .lsk h hs, n => by rw [noC] at n; exact .lsk h (RpA.al hs n)
  | _, _, .dcK h k hs, n => by rw [noC, noCK_map] at n; exact .dcK h k (RpA.al hs n)
  | _, _, .dcT h k hs, n => by rw [noC, noCK_map] at n; exact .dcT h k (RpA.al hs n)
  | _, _, .ins h k m hs, n => by rw [noC, noCF_map] at n; exact .ins h k m (RpA.al hs n)
  | _, _, .cel h, n => by rw [noC] at n; cases n
  | _, _, .fn h, _ => .fn h
  | _, _, .ty n, _ => .ty n
  | _, _, .xob h q k m hs, n => by rw [noC, noCF_map] at n; exact .xob h q k m (RpA.al hs n)
  | _, _, .xob0 h q, _ => .xob0 h q
theorem RpA.al {G : Gi} {F : Hp} {al al' : List Addr} : ∀ {vs : List V} {ds : List D}, RpA G F al vs ds → noCA ds = true → RpA G F al' vs ds
  | _, _, .nil, _ => .nil
  | _, _, .cons h hs, n => by rw [noCA, Bool.and_eq_true] at n; exact .cons (Rp.al h n.1) (RpA.al hs n.2)
end
mutual
def noCO : O → Bool
  | .fz d => noC d
  | .lst xs => noCA xs
  | .dct kvs => noCK kvs
  | .dcu kvs => noCK kvs
  | .ins _ fs => noCOF fs
  | .dco kvs => noCOK kvs
  | .dcv kvs => noCOK kvs
def noCOF : List (Str × O) → Bool
  | [] => true
  | (_, d) :: ds => noCO d && noCOF ds
def noCOK : List (D × O) → Bool
  | [] => true
  | (_, d) :: ds => noCO d && noCOK ds
end
def noCOA : List O → Bool
  | [] => true
  | d :: ds => noCO d && noCOA ds
theorem noCOF_map : ∀ fs : List (Str × O), noCOF fs = noCOA (fs.map (·.2))
  | [] => by rw [noCOF]; rfl
  | (_, d) :: r => by rw [noCOF, List.map_cons, noCOA, noCOF_map r]
theorem noCOK_map : ∀ fs : List (D × O), noCOK fs = noCOA (fs.map (·.2))
  | [] => by rw [noCOK]; rfl
  | (_, d) :: r => by rw [noCOK, List.map_cons, noCOA, noCOK_map r]
mutual
theorem OwnT.al {G : Gi} {F H : Hp} {al al' : List Addr} : ∀ {o : O} {v : V} {fp : List Addr}, OwnT G F al H o v fp → noCO o = true → OwnT G F al' H o v fp
  | _, _, _, .fz h, n => by rw [noCO] at n; exact .fz (h.al n)
  | _, _, _, .lst h hs, n => by rw [noCO] at n; exact .lst h (hs.al n)
  | _, _, _, .dcK h q hs, n => by rw [noCO, noCK_map] at n; exact .dcK h q (hs.al n)
  | _, _, _, .dcT h q hs, n => by rw [noCO, noCK_map] at n; exact .dcT h q (hs.al n)
  | _, _, _, .ins h q m hs, n => by rw [noCO, noCOF_map] at n; exact .ins h q m (OwnA.al hs n)
  | _, _, _, .dcoK h q hs, n => by rw [noCO, noCOK_map] at n; exact .dcoK h q (OwnA.al hs n)
  | _, _, _, .dcoT h q hs, n => by rw [noCO, noCOK_map] at n; exact .dcoT h q (OwnA.al hs n)
theorem OwnA.al {G : Gi} {F H : Hp} {al al' : List Addr} : ∀ {os : List O} {vs : List V} {fp : List Addr}, OwnA G F al H os vs fp → noCOA os = true → OwnA G F al' H os vs fp
  | _, _, _, .nil, _ => .nil
  | _, _, _, .cons h hs, n => by rw [noCOA, Bool.and_eq_true] at n; exact .cons (OwnT.al h n.1) (OwnA.al hs n.2)
end

/-! ### attributes -/
abbrev CTab := List (Str × List Str)
def okF (CT : CTab) (c f : Str) : Bool := match CT.lookup c with
  | some fl => fl.contains f
  | none => false
structure Kc (G : Gi) (CT : CTab) : Prop where
  ex : ∀ c f, okF CT c f = true → ∃ C, G.mg c = some (.ref C) ∧ Cls G.K C ∧ NoAttr G.K C f
def fldD (CT : CTab) (f : Str) : D → Option D
  | .ins c fs => if okF CT c f = true then fs.lookup f else none
  | _ => none
def fldO (CT : CTab) (f : Str) : O → Option O
  | .fz d => (fldD CT f d).map .fz
  | .ins c fs => if okF CT c f = true then fs.lookup f else none
  | _ => none
theorem lk_rp {G : Gi} {F : Hp} {al : List Addr} {f : Str} {d : D} : ∀ {fs : List (Str × V)} {ds : List (Str × D)}, ds.map (·.1) = fs.map (·.1) → RpA G F al (fs.map (·.2)) (ds.map (·.2)) → ds.lookup f = some d →
    ∃ v, fs.lookup f = some v ∧ Rp G F al v d
  | [], [], _, _, h => by cases h
  | [], _ :: _, e, _, _ => by cases e
  | _ :: _, [], e, _, _ => by cases e
  | (n, v) :: fs, (m, x) :: ds, e, .cons r rs, h => by
    rw [List.map_cons, List.map_cons] at e
    injection e with e1 e2
    have e1 : m = n := e1
    subst e1
    unfold List.lookup at h ⊢
    cases q : f == m with
    | true => rw [q] at h; cases h; exact ⟨v, rfl, r⟩
    | false => rw [q] at h; exact lk_rp e2 rs h
theorem lk_own {G : Gi} {F H : Hp} {al : List Addr} {f : Str} {d : O} : ∀ {fs : List (Str × V)} {ds : List (Str × O)} {fp : List Addr}, ds.map (·.1) = fs.map (·.1) → OwnA G F al H (ds.map (·.2)) (fs.map (·.2)) fp → ds.lookup f = some d →
    ∃ v fq, fs.lookup f = some v ∧ OwnT G F al H d v fq
  | [], [], _, _, _, h => by cases h
  | [], _ :: _, _, e, _, _ => by cases e
  | _ :: _, [], _, e, _, _ => by cases e
  | (n, v) :: fs, (m, x) :: ds, _, e, .cons r rs, h => by
    rw [List.map_cons, List.map_cons] at e
    injection e with e1 e2
    have e1 : m = n := e1
    subst e1
    unfold List.lookup at h ⊢
    cases q : f == m with
    | true => rw [q] at h; cases h; exact ⟨v, _, rfl, r⟩
    | false => rw [q] at h; exact lk_own e2 rs h
theorem own_ins {G : Gi} {F H : Hp} {al : List Addr} {c : Str} {os : List (Str × O)} {v : V} {fp : List Addr} (t : OwnT G F al H (.ins c os) v fp) : ∃ a C dx fs fq, v = .ref a ∧ fp = a :: fq ∧
    H a = some (.ins C dx fs) ∧ G.mg c = some (.ref C) ∧ os.map (·.1) = fs.map (·.1) ∧ OwnA G F al H (os.map (·.2)) (fs.map (·.2)) fq := by
  cases t with
  | ins h k n hs => exact ⟨_, _, _, _, _, rfl, rfl, h, k, n, hs⟩
theorem fld_own {G : Gi} {CT : CTab} {f : Str} {st : S} {σ : L2.St} {c : Cf} {o o' : O} {v : V} {fp : List Addr} (T : Kc G CT) (r : Rel G st σ c) (t : OwnT G c.F c.al c.H o v fp) (e : fldO CT f o = some o') :
    ∃ a C dx fs u fq, v = .ref a ∧ c.H a = some (.ins C dx fs) ∧ Cls G.K C ∧ NoAttr G.K C f ∧ fs.lookup f = some u ∧ OwnT G c.F c.al c.H o' u fq := by
  unfold fldO at e
  split at e
  · rename_i d
    obtain ⟨d', e1, rfl⟩ := map_some e
    unfold fldD at e1
    split at e1
    · rename_i cn ds
      split at e1
      · rename_i ho
        obtain ⟨C, q1, q2, q3⟩ := T.ex _ _ ho
        cases t with
        | fz t =>
          cases t with
          | ins h k n hs =>
            rw [q1] at k
            cases k
            obtain ⟨u, l1, l2⟩ := lk_rp n hs e1
            exact ⟨_, _, _, _, u, [], rfl, r.sub _ _ h, q2, q3, l1, .fz l2⟩
      · cases e1
    · cases e1
  · rename_i cn os
    split at e
    · rename_i ho
      obtain ⟨C, q1, q2, q3⟩ := T.ex _ _ ho
      obtain ⟨a, C', dx, fs, fq, rfl, rfl, h, k, n, hs⟩ := own_ins t
      rw [q1] at k
      cases k
      obtain ⟨u, f2, l1, l2⟩ := lk_own n hs e
      exact ⟨_, _, _, _, u, f2, rfl, h, q2, q3, l1, l2⟩
    · cases e
  · cases e
section
variable {X : Cx} {G : Gi} {W : WX} {e value : Expr} {m : M O} {md : M D} {pos pos' : Pos} {CT : CTab} {f : Str} {i : Nat}
/-- e.f, as it is now -/
def xFld (CT : CTab) (f : Str) (m : M O) : M O := bnd m fun o => ofO (fldO CT f o)
def fzO : O → Option O
  | .fz d => some (.fz d)
  | _ => none
/-- e.f, frozen -/
def xFldF (CT : CTab) (f : Str) (m : M O) : M O := bnd m fun o => ofO ((fldO CT f o).bind fzO)
@[simp] theorem xFld_app (m : M O) (s : S) : xFld CT f m s = (m s).bind fun o => ofO (fldO CT f o) := rfl
@[simp] theorem xFldF_app (m : M O) (s : S) : xFldF CT f m s = (m s).bind fun o => ofO ((fldO CT f o).bind fzO) := rfl
theorem x_fld (T : Kc G CT) (hK : X.K = G.K) (he : PE X e (tLa G W m)) (hb : attributeBase e f X.env (eval e X.env) = eval e X.env := by rfl) : PE X (.Attribute e f pos) (tLa G W (xFld CT f m)) :=
  (pe_fld he hb).weak fun σ H Q q => by
    show tLa G W m σ H fun x H1 => ∃ a C dx fs v, x = .ref a ∧ H1 a = some (.ins C dx fs) ∧ Cls X.K C ∧ NoAttr X.K C f ∧ fs.lookup f = some v ∧ Q v H1
    refine q.seq bkL _ (fun o v c c1 st1 r1 g1 p1 w => ?_)
    obtain ⟨fp, t⟩ := p1
    obtain ⟨o', e1, q3⟩ := wp_ofO.mp w
    obtain ⟨a, C, dx, fs, u, fq, rfl, h, k1, k2, k3, k4⟩ := fld_own T r1 t e1
    rw [hK]
    exact ⟨a, C, dx, fs, u, rfl, h, k1, k2, k3, q3 u c1 r1 (GoE.refl r1) ⟨fq, k4⟩⟩
theorem x_fldF (T : Kc G CT) (hK : X.K = G.K) (he : PE X e (tLa G W m)) (hb : attributeBase e f X.env (eval e X.env) = eval e X.env := by rfl) : PE X (.Attribute e f pos) (tO G W (xFldF CT f m)) :=
  (pe_fld he hb).weak fun σ H Q q => by
    show tLa G W m σ H fun x H1 => ∃ a C dx fs v, x = .ref a ∧ H1 a = some (.ins C dx fs) ∧ Cls X.K C ∧ NoAttr X.K C f ∧ fs.lookup f = some v ∧ Q v H1
    refine q.seq bkO _ (fun o v c c1 st1 r1 g1 p1 w => ?_)
    obtain ⟨fp, t⟩ := p1
    obtain ⟨o', e1, q3⟩ := wp_ofO.mp w
    obtain ⟨o2, e2, e3⟩ := bind_some e1
    obtain ⟨a, C, dx, fs, u, fq, rfl, h, k1, k2, k3, k4⟩ := fld_own T r1 t e2
    rw [hK]
    refine ⟨a, C, dx, fs, u, rfl, h, k1, k2, k3, ?_⟩
    unfold fzO at e3
    split at e3
    · cases e3
      cases k4 with
      | fz k4 => exact q3 u c1 r1 (GoE.refl r1) (prO_fz k4)
    · cases e3
def putO (f : Str) (o : O) : List (Str × O) → List (Str × O)
  | [] => [(f, o)]
  | (g, x) :: r => if g = f then (g, o) :: r else (g, x) :: putO f o r
theorem put_nm {f : Str} {o : O} {v : V} : ∀ {fs : List (Str × V)} {os : List (Str × O)}, os.map (·.1) = fs.map (·.1) → (putO f o os).map (·.1) = (putF f v fs).map (·.1)
  | [], [], _ => rfl
  | [], _ :: _, e => by cases e
  | _ :: _, [], e => by cases e
  | (n, u) :: fs, (m, x) :: os, e => by
    rw [List.map_cons, List.map_cons] at e
    injection e with e1 e2
    have e1 : m = n := e1
    subst e1
    unfold putO putF
    by_cases h : m = f
    · rw [if_pos h, if_pos h, List.map_cons, List.map_cons, e2]
    · rw [if_neg h, if_neg h, List.map_cons, List.map_cons, put_nm e2]
theorem allfz {F H H' : Hp} {al : List Addr} : ∀ {os : List O} {vs : List V} {fp : List Addr}, OwnA G F al H os vs fp → os.all isFz = true → fp = [] ∧ OwnA G F al H' os vs []
  | _, _, _, .nil, _ => ⟨rfl, .nil⟩
  | _, _, _, .cons (o := o) h hs, k => by
    rw [List.all_cons, Bool.and_eq_true] at k
    obtain ⟨e, t⟩ := allfz (H' := H') hs k.2
    subst e
    cases o with
    | fz d =>
      cases h with
      | fz h => exact ⟨rfl, .cons (fp := []) (fq := []) (.fz h) t⟩
    | _ => cases k.1
theorem put_own {F H : Hp} {al : List Addr} {f : Str} {d : D} {v : V} (rv : Rp G F al v d) : ∀ {fs : List (Str × V)} {os : List (Str × O)}, os.map (·.1) = fs.map (·.1) → OwnA G F al H (os.map (·.2)) (fs.map (·.2)) [] →
    (os.map (·.2)).all isFz = true → OwnA G F al H ((putO f (.fz d) os).map (·.2)) ((putF f v fs).map (·.2)) []
  | [], [], _, _, _ => .cons (fp := []) (fq := []) (.fz rv) .nil
  | [], _ :: _, e, _, _ => by cases e
  | _ :: _, [], e, _, _ => by cases e
  | (n, u) :: fs, (m, x) :: os, e, t, k => by
    rw [List.map_cons, List.map_cons] at e
    injection e with e1 e2
    have e1 : m = n := e1
    subst e1
    rw [List.map_cons, List.all_cons, Bool.and_eq_true] at k
    rw [List.map_cons, List.map_cons] at t
    have t2 := allfz (H' := H) t (by rw [List.all_cons, k.1, k.2]; rfl)
    unfold putO putF
    generalize hfp : ([] : List Addr) = fp0 at t
    cases t with
    | @cons _ _ _ _ f1 f2 h hs =>
      obtain ⟨h1, h2⟩ := List.append_eq_nil_iff.mp hfp.symm
      subst h1
      subst h2
      by_cases hm : m = f
      · rw [if_pos hm, if_pos hm]; exact .cons (fp := []) (fq := []) (.fz rv) hs
      · rw [if_neg hm, if_neg hm]; exact .cons (fp := []) (fq := []) h (put_own rv e2 hs k.2)
/-- self.f = e, self a name: all attributes frozen -/
def sFldD (CT : CTab) (f : Str) (i : Nat) (md : M D) : M Fl := bnd md fun d s => match getP s i with
  | some (.ins c os) => if okF CT c f = true ∧ (os.map (·.2)).all isFz = true ∧ os.length < 1000 then .ok .nx (putP s i (.ins c (putO f (.fz d) os))) else .no
  | _ => .no
theorem fldS_t (T : Kc G CT) {D' : Ends} {σ : L2.St} {H : Hp} (q : tS G W (sFldD CT f i md) D' σ H) : sFld G.K (tVar i) (tD G W md) f D' σ H := by
  show tD G W md σ H fun y H1 => tVar i σ H1 fun x H2 => ∃ a C dx fs, x = .ref a ∧ H2 a = some (.ins C dx fs) ∧ Cls G.K C ∧ NoAttr G.K C f ∧ fs.length < 1000 ∧ D'.nx σ (upd H2 a (.ins C dx (putF f y fs)))
  refine tS.ex q _ (fun d y c c1 st1 r1 g1 p1 w => ?_)
  split at w
  · rename_i cn os e1
    split at w
    · rename_i hh
      obtain ⟨h1, h2, h3⟩ := hh
      obtain ⟨C, q1, q2, q3⟩ := T.ex _ _ h1
      obtain ⟨v, f2, k1, k2, hp⟩ := place r1 e1
      obtain ⟨a, C', dx, fs, fq, rfl, rfl, ha, k, n, hs⟩ := own_ins k2
      rw [q1] at k
      cases k
      have hfs : fs.length = os.length := by have := congrArg List.length n; simpa using this.symm
      refine ⟨.ref a, k1, a, C, dx, fs, rfl, ha, q2, q3, by omega, ?_⟩
      obtain ⟨e0, t0⟩ := allfz (H' := upd c1.H a (.ins C dx (putF f y fs))) hs h2
      subst e0
      obtain ⟨r2, g2⟩ := hp (upd c1.H a (.ins C dx (putF f y fs))) (.ins cn (putO f (.fz d) os)) (fun b hb => upd_ne (by simpa using hb))
        (.ins (fp := []) upd_same q1 (put_nm n) (put_own p1 n t0 h2))
      have w : Fw G D' c .nx _ := w
      exact w σ _ r2 (g1.toGo.trans g2)
    · exact w.elim
  · exact w.elim
theorem s_fld {x : Str} {px : Pos} (T : Kc G CT) (hK : X.K = G.K) (hN : X.N[i]? = some x) (hv : Vis X.env.scope x) (he : PE X value (tD G W md)) (hd : (x == ("__debug__" : Str)) = false := by decide) (hcd : (x == ("__classdict__" : Str)) = false := by decide)
    (hs : swapsWith value (some (.Attribute (.Name x px) f pos')) pos.line X.env = pure false := by rfl) :
    PS X (.Assign [.Attribute (.Name x px) f pos'] value pos) (tS G W (sFldD CT f i md)) := (ps_fld (pe_var hN hv hd hcd) he hs).weak fun D' σ H q => by
  rw [hK]; exact fldS_t T q
end

/-! ### a new instance -/
/-- what an __init__ promises: self is new -/
def SpI (G : Gi) (x : Str) (n : Nat) (m : MF) : Sp := fun vs H Q E => ∃ c0 ds mu a C dx ws, c0.fs = [] ∧ Rel G ⟨[], mu⟩ [] c0 ∧ c0.H a = none ∧ c0.H dx = none ∧ dx ≠ a ∧
  H = upd (upd c0.H dx (.own a)) a (.ins C dx []) ∧ G.mg x = some (.ref C) ∧ vs = .ref a :: ws ∧ RpA G c0.F c0.al ws ds ∧ vs.length = n ∧
  wp (m ds mu) (fun o s' => ∀ c' fp, Rel G ⟨[], s'.mu⟩ [] c' → Go c0 c' → OwnT G c'.F c'.al c'.H o (.ref a) fp → Fresh fp c' → New fp c0 → Q .non c'.H)
    (fun e s' => ∀ v d c', Rel G ⟨[], s'.mu⟩ [] c' → Go c0 c' → XRp G c' e v d → E v d c'.H)
/-- an __init__'s body as a function: self is the only cell -/
def fnI (N : Nat) (x : Str) (body : M Fl) : MF := fun ds mu => if noCA ds = true then (match body ⟨some (.fz (.cel 0)) :: env0 (N - 1) ds, [.ins x []]⟩ with
  | .ok .nx ⟨_, [o]⟩ => if noCO o = true then .ok o ⟨[], mu⟩ else .no
  | .exc e _ => if noCF e.fs = true then .exc e ⟨[], mu⟩ else .no
  | _ => .no) else .no
structure FnI (P : Program) (w : World) (G : Gi) (base : Heap) (k : Nat) (f : Addr) (fd : FuncData) (ps : List Str) (x : Str) (m : MF) : Prop where
  go : ∀ (A : Around) (outer : List Env) (s : Shared) (H : Hp) (args : Args) (us : List Value)
    (vs : List V) (Q : VK) (E : XK), Room k A → Env0 P w G.K G.mg base A outer s H →
    BindsTo s fd args (ps.zip us) → Vals vs us → SpI G x ps.length m vs H Q E →
    codeAny (model P w) A (.call (.ref f) args) (CR (L2.CX P w) outer P w H s Q E) s
/-- the new instance as the only cell -/
theorem rel_self {G : Gi} {mu : List O} {c0 : Cf} {a C dx : Addr} {x : Str} {ws : List V} {ds : List D} {N : Nat} (hfs : c0.fs = []) (r : Rel G ⟨[], mu⟩ [] c0) (ha : c0.H a = none) (hd : c0.H dx = none) (hm : G.mg x = some (.ref C))
    (rp : RpA G c0.F c0.al ws ds) (nc : noCA ds = true) : Rel G ⟨some (.fz (.cel 0)) :: env0 N ds, [.ins x []]⟩ (some (.ref a) :: (ws.map some ++ List.replicate (N - ds.length) none))
      { F := c0.F, H := upd (upd c0.H dx (.own a)) a (.ins C dx []), al := [a], fs := [], fc := [a] } := by
  have old : ∀ b, c0.H b ≠ none → upd (upd c0.H dx (.own a)) a (.ins C dx []) b = c0.H b := fun b n => by
    rw [upd_ne (fun e => n (by rw [e]; exact ha)), upd_ne (fun e => n (by rw [e]; exact hd))]
  refine ⟨fun b o e => ?_, fun b h => ?_, .nil, by simp, (fun b h => nomatch h), ?_, ?_⟩
  · have e2 := r.sub b o e
    show upd (upd c0.H dx (.own a)) a (.ins C dx []) b = some o
    rw [old b (by rw [e2]; exact Option.some_ne_none _)]
    exact e2
  · rcases h with h | h
    · cases h
    · rw [List.mem_singleton.mp h]
      show c0.F a = none
      cases e : c0.F a with
      | none => rfl
      | some o => have := r.sub a o e; rw [ha] at this; cases this
  · refine .so (fp := []) (fq := []) (.fz (.cel rfl)) ?_
    unfold env0
    exact slots_start (c := ⟨c0.F, upd (upd c0.H dx (.own a)) a (.ins C dx []), [a], [], [a]⟩) _ (rp.al nc)
  · exact .cons (fp := [a]) (fq := []) (.ins (fp := []) (fs := []) upd_same hm rfl .nil) .nil
/-- back to the caller's cells -/
theorem rel_back {G : Gi} {mu : List O} {c0 c' : Cf} {a C dx : Addr} (hfs : c0.fs = []) (r : Rel G ⟨[], mu⟩ [] c0) (ha : c0.H a = none) (hd : c0.H dx = none)
    (g : Go { F := c0.F, H := upd (upd c0.H dx (.own a)) a (.ins C dx []), al := [a], fs := [], fc := [a] } c') (sub : ∀ b o, c'.F b = some o → c'.H b = some o) :
    Rel G ⟨[], mu⟩ [] { F := c'.F, H := c'.H, al := c0.al, fs := [], fc := c0.fc } ∧ Go c0 { F := c'.F, H := c'.H, al := c0.al, fs := [], fc := c0.fc } := by
  have old : ∀ b, c0.H b ≠ none → upd (upd c0.H dx (.own a)) a (.ins C dx []) b = c0.H b := fun b n => by
    rw [upd_ne (fun e => n (by rw [e]; exact ha)), upd_ne (fun e => n (by rw [e]; exact hd))]
  have none1 : ∀ b, upd (upd c0.H dx (.own a)) a (.ins C dx []) b = none → c0.H b = none := fun b e => by
    cases q : c0.H b with
    | none => rfl
    | some o => rw [old b (by rw [q]; exact Option.some_ne_none _), q] at e; cases e
  have kp : ∀ b, c0.H b ≠ none → c'.H b = c0.H b := fun b n => by
    rw [← old b n]
    exact g.fr b (by show upd (upd c0.H dx (.own a)) a (.ins C dx []) b ≠ none; rw [old b n]; exact n) (fun z => nomatch z) (fun z => n (by rw [List.mem_singleton.mp z]; exact ha))
  have nF : ∀ b, c'.F b ≠ none → c0.F b ≠ none ∨ c0.H b = none := fun b h => by
    rcases g.nF b h with z | z | z | z
    · exact .inl z
    · cases z
    · rw [List.mem_singleton.mp z]; exact .inr ha
    · exact .inr (none1 b z)
  have mo : Mo c0.F c'.F c0.al c0.al := ⟨g.mo.mF, g.mo.mR, fun _ _ h => h⟩
  refine ⟨⟨sub, fun b h => ?_, .nil, r.ndc, (fun b h => nomatch h), .nil, r.cells.mo mo fun b hb => kp b (r.there (.inr hb))⟩, ⟨mo, fun b n _ _ => kp b n, fun b h => ?_, fun b h => (nF b h).elim .inl fun z => .inr (.inr (.inr z))⟩⟩
  · rcases h with h | h
    · cases h
    · show c'.F b = none
      cases e : c'.F b with
      | none => rfl
      | some o =>
        rcases nF b (by rw [e]; exact Option.some_ne_none _) with z | z
        · exact absurd (r.own b (.inr h)) z
        · exact absurd z (r.there (.inr h))
  · rcases h with h | h
    · cases h
    · exact .inr (.inl h)
section
variable {P : Program} {w : World} {G : Gi} {base : Heap} {k j : Nat} {f : Addr} {fd : FuncData} {N ps : List Str} {m m' : MF} {cn : Str}
theorem FnI.mono (F : FnI P w G base j f fd ps cn m) (h : j ≤ k) : FnI P w G base k f fd ps cn m :=
  ⟨fun A o s H a us vs Q E r => F.go A o s H a us vs Q E (r.mono h)⟩
theorem Df.okI {x qual : Str} {st : Stmt} {body : M Fl} (F : Df G.K x qual st f fd) (S : FnScope N ps (defScope st)) (hN : ∃ n, N.length = n + 1)
    (hb : ∀ (cdv : Value) (A : Around) (outer : List Env) (s : Shared) (H : Hp) (E : XK),
      Room k (A.deeper (envOfC qual (defScope st) s.heap.objs.size f cdv)) →
      PSs (cxOf (L2.CX P w) P w G.K G.mg base N qual (defScope st) f cdv A outer s H E) (defBody st) (tS G (fun v d _ H => E v d H) body)) :
    FnI P w G base (k + 1) f fd ps cn (fnI N.length cn body) := by
  obtain ⟨oc, od, dV, kV, doc, pm, an, cdv, ct, osl, rfl, lk, hc⟩ := F.ex
  refine ⟨fun A outer s H args us vs Q E hr e0 hbi r hsp => ?_⟩
  obtain ⟨c, ds, mu, a, C, dx, ws, hfs, rl, ha, hdx, hne, rfl, hm, rfl, rp, hlen, h⟩ := hsp
  have kin : G.K.In s.heap := e0.mod.kin.keeps (fun b o e => (e0.bs b o e).1)
  have hlm : s.heap.NoLimit := e0.mod.nolimit.keeps (fun b o e => (e0.bs b o e).1)
  have kinds : ∀ y ∈ ps.zip us, (defScope st).names.lookup y.1 = some .local ∨
      ((defScope st).names.lookup y.1 = some .cell ∧
        ((cellsFrom (s.heap.objs.size + 1) (defScope st).names []).lookup y.1).isSome = true) := by
    rintro ⟨n, v⟩ hy
    rcases S.par n (List.of_mem_zip hy).1 with h1 | h1
    · left; exact h1
    · right; exact ⟨h1, PySem.W.cellsFrom_some _ _ _ (Or.inl h1)⟩
  apply codeAny_call_function hr.depth (kin _ _ lk) rfl S.co S.gen rfl (PySem.W.codeRec_of kin hc) (hbi _ _ _ _ ?_)
  apply wpAny_newFunctionEnv_cells S.kind kinds
  intro env he s1 hx
  subst he
  refine ⟨hlm.keeps hx.toInCall.keep, codeAny_func ?_⟩
  have ht := hb cdv A outer s (upd (upd c.H dx (.own a)) a (.ins C dx [])) E (hr.deeper _)
  have I0 : Inv (cxOf (L2.CX P w) P w G.K G.mg base N qual (defScope st) f cdv A outer s (upd (upd c.H dx (.own a)) a (.ins C dx [])) E) [] (start N (.ref a :: ws)) (upd (upd c.H dx (.own a)) a (.ins C dx [])) s1 :=
    inv_start S hr.hd e0 hlen r hx
  have hq : tS G (fun v d _ H => E v d H) body { nx := fun _ H' => Q .non H', rt := Q } (start N (.ref a :: ws)) (upd (upd c.H dx (.own a)) a (.ins C dx [])) := by
    unfold fnI at h
    split at h
    · rename_i nc
      obtain ⟨n, hn⟩ := hN
      have r0 := rel_self (N := n) hfs rl ha hdx hm rp nc
      rw [hn, show n + 1 - 1 = n from rfl] at h
      refine ⟨{ F := c.F, H := upd (upd c.H dx (.own a)) a (.ins C dx []), al := [a], fs := [], fc := [a] }, ⟨some (.fz (.cel 0)) :: env0 n ds, [.ins cn []]⟩, rfl, ?_, ?_⟩
      · unfold start
        rw [hn, show n + 1 - (V.ref a :: ws).length = n - ds.length by rw [List.length_cons, rp.len]; omega]
        exact r0
      · cases e : body ⟨some (.fz (.cel 0)) :: env0 n ds, [.ins cn []]⟩ with
        | no => rw [e] at h; exact h
        | exc y s' =>
          rw [e] at h
          dsimp only at h
          split at h
          · rename_i nx
            intro σ' v d c' r' g' x'
            obtain ⟨r2, g2⟩ := rel_back hfs rl ha hdx g' r'.sub
            refine h v d { F := c'.F, H := c'.H, al := c.al, fs := [], fc := c.fc } r2 g2 ?_
            obtain ⟨D', q1, q2, q3⟩ := x'
            refine ⟨D', q1, q2, q3.imp id ?_⟩
            rintro ⟨dx', vs', p1, p2, p3, p4⟩
            exact ⟨dx', vs', p1, p2, p3, p4.al (by rw [← noCF_map]; exact nx)⟩
          · exact h.elim
        | ok fl s' =>
          rw [e] at h
          obtain ⟨env', mu'⟩ := s'
          cases fl with
          | rt o => exact h.elim
          | bk => exact h.elim
          | ct => exact h.elim
          | nx =>
            cases mu' with
            | nil => exact h.elim
            | cons o l =>
              cases l with
              | cons _ _ => exact h.elim
              | nil =>
                dsimp only at h
                split at h
                · rename_i nco
                  intro σ' c' r' g'
                  obtain ⟨r2, g2⟩ := rel_back hfs rl ha hdx g' r'.sub
                  have cl := r'.cells
                  have ha' := g'.mo.mA 0 a rfl
                  have nd := r'.ndc
                  have ow := r'.own
                  have fpc := g'.fp
                  generalize hfc : c'.fc = fc' at cl nd ow fpc
                  generalize hv : c'.al.map V.ref = vs' at cl
                  cases cl with
                  | @cons _ v _ ws' f1 f2 t ts =>
                    cases ts
                    rw [List.append_nil] at nd ow fpc
                    have ev : v = .ref a := by
                      have := congrArg (fun l => l[0]?) hv
                      simp only [List.getElem?_map, ha'] at this
                      exact (Option.some.inj this).symm
                    subst ev
                    have isn : ∀ b ∈ f1, c.H b = none := fun b hb => by
                      rcases fpc b (.inr hb) with z | z | z
                      · cases z
                      · rw [List.mem_singleton.mp z]; exact ha
                      · cases q : c.H b with
                        | none => rfl
                        | some u =>
                          have z : upd (upd c.H dx (.own a)) a (.ins C dx []) b = none := z
                          rw [upd_ne (fun e => by rw [e, ha] at q; cases q), upd_ne (fun e => by rw [e, hdx] at q; cases q), q] at z
                          cases z
                    refine h { F := c'.F, H := c'.H, al := c.al, fs := [], fc := c.fc } f1 r2 g2 (t.al nco) ⟨nd, fun b hb => ow b (.inr hb), (fun b _ z => nomatch z), fun b hb z => rl.there (.inr z) (isn b hb)⟩ fun b hb => .inr (.inr (isn b hb))
                · exact h.elim
    · exact h.elim
  refine wpAny_mono (ht.run [] s1 (start N (.ref a :: ws)) _ _ I0 hq) ?_ (fun e s' hs => hs)
  intro fl s' hs
  cases fl with
  | ret u =>
    obtain ⟨v, σ', H', J, rv, q⟩ := hs
    exact ⟨v, H', J.os, J.bare, J.base, J.hok, rv, q⟩
  | next =>
    obtain ⟨σ', H', J, q⟩ := hs
    exact ⟨V.non, H', J.os, J.bare, J.base, J.hok, rfl, q⟩
  | brk => obtain ⟨_, _, _, q⟩ := hs; exact q.elim
  | cont => obtain ⟨_, _, _, q⟩ := hs; exact q.elim
end
structure BdI (K : PySem.W.Frag) (fd : FuncData) (ps : List Str) (n : Nat) (ks : List Str) (gD : List D → List D → List D) : Prop where
  ex : ∃ (g : List Value → List Value → List Value) (gV : List V → List V → List V), KBn K fd ps (n + 1) ks g gV ∧
    ∀ x vs zs, vs.length = n → zs.length = ks.length → ∃ ws, gV (x :: vs) zs = x :: ws ∧ (x :: ws).length = ps.length ∧
      ∀ (G : Gi) (F : Hp) (al : List Addr) ds es, RpA G F al vs ds → RpA G F al zs es → RpA G F al ws (gD ds es)
structure MkT (P : Program) (w : World) (G : Gi) (base : Heap) (x : Str) (k n : Nat) (ks : List Str) (gD : List D → List D → List D) (m : MF) : Prop where
  ex : ∃ (C f : Addr) (fd : FuncData) (ps : List Str), Mk G.K C f ∧ G.mg x = some (.ref C) ∧ FnI P w G base k f fd ps x m ∧ BdI G.K fd ps n ks gD
theorem make_t {G : Gi} {W : WX} {m : MF} {st : S} {σ : L2.St} {c : Cf} {ws : List V} {ds : List D} {Q : VK} {n : Nat} {a C dx : Addr} {x : Str} (r : Rel G st σ c) (rp : RpA G c.F c.al ws ds) (hn : (V.ref a :: ws).length = n)
    (ha : c.H a = none) (hd : c.H dx = none) (hne : dx ≠ a) (hm : G.mg x = some (.ref C))
    (h : wp (runF m ds st) (fun o st' => ∀ v c', Rel G st' σ c' → GoE c c' → PrO G o c c' v → Q v c'.H) (xw G W σ c)) :
    SpI G x n m (.ref a :: ws) (upd (upd c.H dx (.own a)) a (.ins C dx [])) (fun v H3 => v = .non ∧ Q (.ref a) H3) (WE W σ) := by
  refine ⟨{ c with fs := [] }, ds, st.mu, a, C, dx, ws, rfl, r.drop, ha, hd, hne, rfl, hm, rfl, rp, hn, ?_⟩
  unfold runF at h
  cases e : m ds st.mu with
  | no => rw [e] at h; exact h
  | exc x s' =>
    rw [e] at h
    intro v d c2 r2 g x2
    obtain ⟨r3, g3⟩ := rel_lift r r2 g
    exact h v d { c2 with fs := c.fs } r3 g3 x2
  | ok o s' =>
    rw [e] at h
    intro c2 fp r2 g t f nw
    obtain ⟨r3, g3⟩ := rel_lift r r2 g
    refine ⟨rfl, h (.ref a) { c2 with fs := c.fs } r3 g3 ⟨fp, t, ⟨f.nd, f.nf, fun b hb hs => ?_, f.nc⟩, fun b hb => ?_⟩⟩
    · rcases nw b hb with z | z | z
      · cases z
      · exact r.dis b hs z
      · exact r.there (.inl hs) z
    · rcases nw b hb with z | z | z
      · cases z
      · exact .inr (.inl z)
      · exact .inr (.inr z)
section
variable {X : Cx} {G : Gi} {W : WX} {k n : Nat} {ks : List Str} {gD : List D → List D → List D} {m : MF} {x : Str} {p pos : Pos} {e : Expr} {es : List Expr} {kws : List Keyword} {ma mk : M (List D)}
theorem runI {pins : List (Addr × Obj)} {σ : L2.St} {H : Hp} {s : Shared} {Q : VK} {us ws : List Value} {vs zs : List V} {C f : Addr} {fd : FuncData} {ps : List Str} {g : List Value → List Value → List Value} {gV : List V → List V → List V}
    (hK : X.K = G.K) (hM : X.mg = G.mg) (M : Mk G.K C f) (F : FnI X.prog X.w G X.base k f fd ps x m) (hr : Room (k + 1) X.A) (hb : KBn G.K fd ps (n + 1) ks g gV)
    (hx : ∀ σ, PassesAt (L2.CX X.prog X.w) X σ (WE W σ)) (I : Inv X pins σ H s) (r : Vals vs us) (rz : Vals zs ws) (l1 : vs.length = n) (l2 : zs.length = ks.length)
    (h : ∀ a dx, H a = none → H dx = none → dx ≠ a → SpI G x ps.length m (gV (.ref a :: vs) zs) (upd (upd H dx (.own a)) a (.ins C dx [])) (fun v H2 => v = .non ∧ Q (.ref a) H2) (WE W σ)) :
    wpAny (model X.prog X.w) X.A (call (.ref C) us (ks.zip ws)) (EP X pins σ Q) X.xe s := by
  have hq := h (s.heap.objs.size + 1) s.heap.objs.size (I.hok.fresh (Nat.le_succ _)) (I.hok.fresh (Nat.le_refl _)) (Nat.ne_of_lt (Nat.lt_succ_self _))
  have I2 := Inv.made (C := C) I
  have r1 : Vals (V.ref (s.heap.objs.size + 1) :: vs) (Value.ref (s.heap.objs.size + 1) :: us) := .cons rfl r
  have r2 := hb.rel r1 rz
  have e1 : (Value.ref (s.heap.objs.size + 1) :: us).length = n + 1 := r1.length.symm.trans (congrArg Nat.succ l1)
  have e2 : ws.length = ks.length := rz.length.symm.trans l2
  have kin := I.kIn
  have kin2 := I2.kIn
  have env := I2.env0
  rw [hK] at kin kin2
  rw [hK, hM] at env
  refine wpAny_call (make_map (f := f) kin M.makes M.init (beq_iff_eq.mp M.fn) (codeAny_mono (F.go _ X.stack _ _ ⟨Value.ref (s.heap.objs.size + 1) :: us, ks.zip ws⟩ (g (Value.ref (s.heap.objs.size + 1) :: us) ws) _ _ (WE W σ) (hr.make C us (ks.zip ws))
    (env.make C us (ks.zip ws)) (hb.to _ (Value.ref (s.heap.objs.size + 1) :: us) ws kin2 e1 e2) r2 hq) fun r s' hq' => ?_))
  cases r with
  | error e => exact hx σ pins _ _ e s' I2 hq'
  | ok fl =>
    cases fl with
    | ret u =>
      obtain ⟨v, H', I3, rv, ev, q3⟩ := I2.after hq'
      subst ev
      exact ⟨rv, ⟨V.ref (s.heap.objs.size + 1), H', I3, rfl, q3⟩⟩
    | next => exact False.elim hq'
    | brk => exact False.elim hq'
    | cont => exact False.elim hq'
theorem x_make (hK : X.K = G.K) (hM : X.mg = G.mg) (F : MkT X.prog X.w G X.base x k n ks gD m) (hr : Room (k + 1) X.A)
    (hg : Gl X x) (hx : ∀ σ, PassesAt (L2.CX X.prog X.w) X σ (WE W σ)) (ha : PA X (e :: es) (tAs G W ma)) (hkw : PK X kws (tAs G W mk))
    (hall : (backToKw pos (keywordEach kws X.env)).all (·.1.isSome) = true := by rfl)
    (hks : (backToKw pos (keywordEach kws X.env)).filterMap (·.1) = ks := by rfl)
    (hdb : (x == ("__debug__" : Str)) = false := by decide)
    (he : starEach (e :: es) X.env = (false, eval e X.env) :: starEach es X.env := by rfl)
    (hpl : ((backTo pos (starEach (e :: es) X.env)).any (·.1) || (backToKw pos (keywordEach kws X.env)).any (·.1.isNone)) = false := by rfl) :
    PE X (.Call (.Name x p) (e :: es) kws pos) (tO G W (xCall m gD n ks.length ma mk)) := by
  obtain ⟨C, f, fd, ps, M, hm, FT, g, gV, hb, hl⟩ := F.ex
  refine ⟨fun pins s σ H Q I q => wpAny_Call_Name_kw (ld_glob I hg (by rw [hM]; exact hm) ?_ hdb)⟩
  apply PySem.W.callWith_KW (h₀ := X.base) I.ok.mod.kin (by rw [hK]; exact M.kp) hall ?_ hpl he
  refine thn (ha.run pos pins s σ H (fun vs H1 => tAs G W mk σ H1 fun zs H2 => vs.length = n ∧ zs.length = ks.length ∧
    ∀ a dx, H2 a = none → H2 dx = none → dx ≠ a → SpI G x ps.length m (gV (.ref a :: vs) zs) (upd (upd H2 dx (.own a)) a (.ins C dx [])) (fun v H3 => v = .non ∧ Q (.ref a) H3) (WE W σ)) I ?_) ?_
  · refine q.seq bkO _ (fun ds vs c c1 st1 r1 g1 p1 w => ?_)
    refine tG.seq1 bkO r1 w _ (fun es' zs c2 st2 r2 g2 p2 w2 => ?_)
    split at w2
    · rename_i hc
      have p1 := p1.mo g2.mo
      have h1 : vs.length = n := by rw [p1.len]; exact hc.1
      have h2 : zs.length = ks.length := by rw [p2.len]; exact hc.2
      refine ⟨h1, h2, fun a dx ha hd hne => ?_⟩
      obtain ⟨wz, q1, q2, q3⟩ := hl (.ref a) vs zs h1 h2
      rw [q1]
      exact make_t r2 (q3 _ _ _ _ _ p1 p2) q2 ha hd hne hm w2
    · exact w2.elim
  · rintro us s1 ⟨vs, H1, I1, r, q⟩
    refine thn (hkw.run pos pins s1 σ H1 _ I1 q) ?_
    rintro ws s2 ⟨zs, H2, I2, rz, q1, q2, q3⟩
    refine ⟨I2.kIn, ?_⟩
    rw [hks]
    exact runI hK hM M FT hr hb hx I2 r rz q1 q2 q3
end
end L2.Tr

namespace L2.Tr
open PySem PySem.Spec PyProof.Rows L2 L2.Pc

/-! ### methods -/
/-- a method of the class c: n values by place (self the first), keywords ks -/
structure MeT (P : Program) (w : World) (G : Gi) (base : Heap) (gb : Bool) (c mn : Str) (k n : Nat) (ks : List Str) (gD : List D → List D → List D) (m : MF) : Prop where
  ex : ∃ (C f : Addr) (fd : FuncData) (ps : List Str), G.mg c = some (.ref C) ∧ Cls G.K C ∧ Meth G.K C mn f ∧ FnT P w G base gb k f fd ps m ∧ BdD G.K fd ps n ks gD
def noE : XK := fun _ _ _ => False
section
variable {X : Cx} {G : Gi} {W : WX} {gb : Bool} {k n : Nat} {ks ps : List Str} {gD : List D → List D → List D} {m : MF} {x : Str} {p pos apos : Pos} {e o : Expr} {es : List Expr} {kws : List Keyword} {ma mk : M (List D)} {md : M D} {c mn : Str}
/-- a def called somewhere below the running body -/
theorem runTA {A : Around} {pins : List (Addr × Obj)} {σ : L2.St} {H : Hp} {s : Shared} {Q : VK} {us : List Value} {vs : List V} {E : XK}
    {f : Addr} {fd : FuncData} (hK : X.K = G.K) (hM : X.mg = G.mg) (hfr : A.frames = X.A.frames)
    (F : FnT X.prog X.w G X.base gb k f fd ps m) (hga : gb = true → A.guards = some []) (hr : Room k A)
    (hb : Binds G.K fd ps []) (hx : PassesAt (L2.CX X.prog X.w) X σ E) (I : Inv X pins σ H s) (r : Vals vs us) (hn : vs.length = ps.length)
    (h : SpM G ps.length m vs H Q E) :
    wpAny (model X.prog X.w) A (call (.ref f) us) (EP X pins σ Q) X.xe s := by
  apply wpAny_call
  have kin := I.kIn
  rw [hK] at kin
  have env := I.env0
  rw [hK, hM] at env
  have env : Env0 X.prog X.w G.K G.mg X.base A X.stack s H := ⟨by rw [hfr]; exact env.frames, env.mod, env.bs, env.bsz, env.funs, env.frf, env.hok, env.bare⟩
  have hl : us.length = ps.length := by rw [← r.length]; exact hn
  have b := hb s us kin (by rw [List.append_nil]; exact hl)
  rw [List.append_nil] at b
  refine codeAny_mono (F.go A X.stack s H _ us vs Q E hga hr env b r h) ?_
  intro res s' hq
  cases res with
  | error er => exact hx pins H s er s' I hq
  | ok fl =>
    cases fl with
    | ret u => exact I.after hq
    | next => exact hq.elim
    | brk => exact hq.elim
    | cont => exact hq.elim
/-- o.m(.., k = ..) of a frozen instance of the class c -/
def xMeth (c mn : Str) (m : MF) (gD : List D → List D → List D) (n k : Nat) (md : M D) (ma mk : M (List D)) : M O := bnd md fun d => match d with
  | .ins c' fs => if c' = c ∧ (fs.map (·.1)).contains mn = false then bnd ma fun ds => bnd mk fun es => if ds.length + 1 = n ∧ es.length = k then runF m (gD (.ins c' fs :: ds) es) else fun _ => .no
    else fun _ => .no
  | _ => fun _ => .no
theorem lk_none {f : Str} : ∀ {fs : List (Str × V)}, (fs.map (·.1)).contains f = false → fs.lookup f = none
  | [], _ => rfl
  | (g, v) :: r, h => by
    rw [List.map_cons, List.contains_cons, Bool.or_eq_false_iff] at h
    unfold List.lookup
    rw [h.1]
    exact lk_none h.2
theorem x_meth {pl : Sem Bool} (hK : X.K = G.K) (hM : X.mg = G.mg) (F : MeT X.prog X.w G X.base gb c mn k n ks gD m) (hga : gb = true → X.A.guards = some []) (hr : Room k X.A)
    (hx : ∀ σ, PassesAt (L2.CX X.prog X.w) X σ (WE W σ)) (ho : PE X o (tD G W md)) (ha : PA X (e :: es) (tAs G W ma)) (hkw : PK X kws (tAs G W mk))
    (hall : (backToKw pos (keywordEach kws X.env)).all (·.1.isSome) = true := by rfl)
    (hks : (backToKw pos (keywordEach kws X.env)).filterMap (·.1) = ks := by rfl)
    (he : starEach (e :: es) X.env = (false, eval e X.env) :: starEach es X.env := by rfl)
    (hpl : ((backTo pos (starEach (e :: es) X.env)).any (·.1) || (backToKw pos (keywordEach kws X.env)).any (·.1.isNone)) = false := by rfl)
    (ht : eval (.Call (.Attribute o mn apos) (e :: es) kws pos) X.env = (do
      let ov ← eval o X.env
      standAt apos.atName
      let (f, first) ← holding [ov] (getMethod ov mn pl)
      callWith pos f first (backTo pos (starEach (e :: es) X.env)) (backToKw pos (keywordEach kws X.env))) := by rfl) :
    PE X (.Call (.Attribute o mn apos) (e :: es) kws pos) (tO G W (xMeth c mn m gD n ks.length md ma mk)) := by
  obtain ⟨C, f, fd, ps, hm, hC, hMe, FT, g, gV, hb, hl, hd⟩ := F.ex
  refine ⟨fun pins s σ H Q I q => PySem.W.methodCall_KW (pl := pl) ?_ ht⟩
  refine thn (ho.run pins s σ H (fun x H1 => ∃ a dx fs, x = .ref a ∧ H1 a = some (.ins C dx fs) ∧ fs.lookup mn = none ∧
    tAs G W ma σ H1 fun vs H2 => tAs G W mk σ H2 fun zs H3 => (V.ref a :: vs).length = n ∧ zs.length = ks.length ∧ SpM G ps.length m (gV (.ref a :: vs) zs) H3 Q (WE W σ)) I ?_) ?_
  · refine q.seq bkO _ (fun d v c0 c1 st1 r1 g1 p1 w => ?_)
    split at w
    · rename_i c' fs
      split at w
      · rename_i hc
        obtain ⟨rfl, hc⟩ := hc
        cases p1 with
        | ins h kk nn hs =>
          rename_i a C' dx fs'
          rw [hm] at kk
          cases kk
          refine ⟨a, dx, fs', rfl, r1.sub _ _ h, lk_none (by rw [← nn]; exact hc), ?_⟩
          refine tG.seq1 bkO r1 w _ (fun ds vs c2 st2 r2 g2 p2 w2 => ?_)
          refine tG.seq1 bkO r2 w2 _ (fun es' zs c3 st3 r3 g3 p3 w3 => ?_)
          refine call_rd (ds := .ins c' fs :: ds) hl hd r3 (.cons ((Rp.ins h hm nn hs).mo (g2.trans g3).mo) (p2.mo g3.mo)) p3 ?_
          rw [List.length_cons]
          exact w3
      · exact w.elim
    · exact w.elim
  · rintro u s1 ⟨y, H1, I1, rx, a, dx, fs, rfl, ea, lk, q⟩
    obtain rfl : u = Value.ref a := rx
    refine getmeth_ok I1 ea (by rw [hK]; exact hC) (by rw [hK]; exact hMe) lk ?_
    apply PySem.W.callWith_KW (first := [.ref a]) (h₀ := X.base) I.ok.mod.kin (by rw [hK]; exact hMe.kp) hall ?_ hpl he
    refine thn (ha.run pos pins s1 σ H1 _ I1 q) ?_
    rintro us s2 ⟨vs, H2, I2, r, q2⟩
    refine thn (hkw.run pos pins s2 σ H2 _ I2 q2) ?_
    rintro ws s3 ⟨zs, H3, I3, rz, q3, q4, q5⟩
    refine ⟨I3.kIn, ?_⟩
    rw [hks]
    exact runT hK hM FT hga hr hb hx I3 (us := .ref a :: us) (vs := .ref a :: vs) (.cons rfl r) rz q3 q4 q5
theorem x_meth0 {pl : Sem Bool} (hK : X.K = G.K) (hM : X.mg = G.mg) (F : MeT X.prog X.w G X.base gb c mn k 1 [] gD m) (hga : gb = true → X.A.guards = some []) (hr : Room k X.A)
    (hx : ∀ σ, PassesAt (L2.CX X.prog X.w) X σ (WE W σ)) (ho : PE X o (tD G W md))
    (ht : eval (.Call (.Attribute o mn apos) [] [] pos) X.env = (do
      let ov ← eval o X.env
      standAt apos.atName
      let (f, first) ← holding [ov] (getMethod ov mn pl)
      callWith pos f first (backTo pos (starEach [] X.env)) (backToKw pos (keywordEach [] X.env))) := by rfl) :
    PE X (.Call (.Attribute o mn apos) [] [] pos) (tO G W (xMeth c mn m gD 1 0 md aNil aNil)) := by
  obtain ⟨C, f, fd, ps, hm, hC, hMe, FT, g, gV, hb, hl, hd⟩ := F.ex
  refine ⟨fun pins s σ H Q I q => PySem.W.methodCall_KW (pl := pl) ?_ ht⟩
  refine thn (ho.run pins s σ H (fun x H1 => ∃ a dx fs, x = .ref a ∧ H1 a = some (.ins C dx fs) ∧ fs.lookup mn = none ∧
    (V.ref a :: []).length = 1 ∧ ([] : List V).length = ([] : List Str).length ∧ SpM G ps.length m (gV (.ref a :: []) []) H1 Q (WE W σ)) I ?_) ?_
  · refine q.seq bkO _ (fun d v c0 c1 st1 r1 g1 p1 w => ?_)
    split at w
    · rename_i c' fs
      split at w
      · rename_i hc
        obtain ⟨rfl, hc⟩ := hc
        cases p1 with
        | ins h kk nn hs =>
          rename_i a C' dx fs'
          rw [hm] at kk
          cases kk
          refine ⟨a, dx, fs', rfl, r1.sub _ _ h, lk_none (by rw [← nn]; exact hc), ?_⟩
          exact call_rd (ks := []) (ds := [.ins c' fs]) hl hd r1 (.cons (Rp.ins h hm nn hs) .nil) .nil w
      · exact w.elim
    · exact w.elim
  · rintro u s1 ⟨y, H1, I1, rx, a, dx, fs, rfl, ea, lk, q1, q2, q3⟩
    obtain rfl : u = Value.ref a := rx
    refine getmeth_ok I1 ea (by rw [hK]; exact hC) (by rw [hK]; exact hMe) lk ?_
    exact PySem.W.callWith_K0 (first := [.ref a]) I1.kIn (by rw [hK]; exact hMe.kp) (runT (us := [.ref a]) (ws := []) (vs := [.ref a]) (zs := []) hK hM FT hga hr hb hx I1 (.cons rfl .nil) .nil q1 q2 q3)
end
/-! ### str, repr, len by an own method -/
/-- the classes' own method mn, by class -/
structure SpF (P : Program) (w : World) (G : Gi) (base : Heap) (gb : Bool) (k : Nat) (mn : Str) (tbl : List (Str × MF)) : Prop where
  ex : ∀ c mf, tbl.lookup c = some mf → ∃ (C f : Addr) (fd : FuncData) (ps : List Str), G.mg c = some (.ref C) ∧ PySem.W.findIn G.K (.ref C) mn = some (some (.ref f)) ∧ PySem.W.isFn G.K (.ref f) = true ∧
    FnT P w G base gb k f fd ps mf ∧ ps.length = 1 ∧ Binds G.K fd ps []
def strO : O → Option O
  | .fz (.str y) => some (.fz (.str y))
  | _ => none
/-- the own method run on d alone -/
def insOf : D → Option Str
  | .ins c _ => some c
  | _ => none
def runS (tbl : List (Str × MF)) (g : D → Option O) (d : D) : M O := fun s => match insOf d with
  | some c => (match tbl.lookup c with
    | some mf => (match noExc (runF mf [d] s) with
      | .ok o s' => ofO (strO o) s'
      | _ => .no)
    | none => .no)
  | none => ofO (g d) s
theorem insOf_some {d : D} {c : Str} (h : insOf d = some c) : ∃ fs, d = .ins c fs := by
  cases d <;> first | cases h; exact ⟨_, rfl⟩ | cases h
def xSp (tbl : List (Str × MF)) (g : D → Option O) (md : M D) : M O := bnd md (runS tbl g)
@[simp] theorem xSp_app (tbl : List (Str × MF)) (g : D → Option O) (md : M D) (s : S) : xSp tbl g md s = (md s).bind (runS tbl g) := rfl
/-- the reading of such a call: of data by r, of an instance by its method -/
def rOwn (G : Gi) (tbl : List (Str × MF)) (r : V → Hp → VK → Prop) : V → Hp → VK → Prop := fun x H Q => r x H Q ∨ ∃ c mf C a dx fs, tbl.lookup c = some mf ∧ G.mg c = some (.ref C) ∧ x = .ref a ∧ H a = some (.ins C dx fs) ∧
  SpM G 1 mf [.ref a] H (fun v H' => ∃ y, v = .str y ∧ Q (.str y) H') noE
theorem own_t {G : Gi} {W : WX} {tbl : List (Str × MF)} {r : V → Hp → VK → Prop} {g : D → Option O} {md : M D} (hr : UnD G r g) {σ : L2.St} {H : Hp} {Q : VK} (q : tO G W (xSp tbl g md) σ H Q) (hN : ∀ c mf, tbl.lookup c = some mf → ∃ C, G.mg c = some (.ref C)) :
    tD G W md σ H fun x H1 => rOwn G tbl r x H1 Q := by
  refine q.seq bkO _ (fun d v c0 c1 st1 r1 g1 p1 w => ?_)
  unfold runS at w
  split at w
  · rename_i c ei
    obtain ⟨fs, rfl⟩ := insOf_some ei
    split at w
    · rename_i mf e
      obtain ⟨C, hC⟩ := hN _ _ e
      cases p1 with
      | ins h kk nn hs =>
        rename_i a C' dx fs'
        rw [hC] at kk
        cases kk
        refine .inr ⟨c, mf, C, a, dx, fs', e, hC, rfl, r1.sub _ _ h, ?_⟩
        have z : wp (runF mf [.ins c fs] st1) (fun o st' => ∀ v c', Rel G st' σ c' → GoE c1 c' → PrO G o c1 c' v → ∃ y, v = .str y ∧ Q (.str y) c'.H) (xw G noW σ c1) := by
          revert w
          cases runF mf [.ins c fs] st1 with
          | no => exact fun w => w
          | exc x s' => exact fun w => w.elim
          | ok o s' =>
            intro w
            dsimp only [noExc] at w
            obtain ⟨o', e1, q3⟩ := wp_ofO.mp w
            intro v c' r' g' p'
            unfold strO at e1
            split at e1
            · rename_i y
              cases e1
              obtain ⟨fp, t, _, _⟩ := p'
              cases t with
              | fz t => cases t; exact ⟨y, rfl, q3 _ c' r' g' (prO_fz (.str y))⟩
            · cases e1
        have z2 := call_t (W := noW) (n := 1) (Q := fun v H' => ∃ y, v = .str y ∧ Q (.str y) H') r1 (.cons (Rp.ins h hC nn hs) .nil) rfl z
        obtain ⟨c2, ds, mu, e1, e2, e3, e4, e5, e6⟩ := z2
        exact ⟨c2, ds, mu, e1, e2, e3, e4, e5, wp_mono e6 (fun _ _ q => q) fun x s q v d c' r' g' x' => q v d c' r' g' x'⟩
    · exact w.elim
  · obtain ⟨o, e1, q3⟩ := wp_ofO.mp w
    exact .inl (hr st1 σ c1 v (.fz d) [] o Q r1 (.fz p1) (by rw [O.toD]; exact e1) q3)
section
variable {X : Cx} {G : Gi} {W : WX} {gb : Bool} {k : Nat} {tbl : List (Str × MF)} {md : M D} {x : Str} {p pos : Pos} {e : Expr}
theorem noE_pass {σ : L2.St} : PassesAt (L2.CX X.prog X.w) X σ noE := fun _ _ _ _ _ _ c => by
  obtain ⟨_, _, _, _, _, _, _, _, _, _, _, _, h⟩ := c
  exact h.elim
theorem SpF.nm {P : Program} {w : World} {base : Heap} {mn : Str} (F : SpF P w G base gb k mn tbl) : ∀ c mf, tbl.lookup c = some mf → ∃ C, G.mg c = some (.ref C) := fun c mf h => by
  obtain ⟨C, _, _, _, h, _⟩ := F.ex c mf h
  exact ⟨C, h⟩
/-- the own method runs, called by a built-in -/
theorem own_run {A : Around} {mn : Str} {pins : List (Addr × Obj)} {σ : L2.St} {H : Hp} {s : Shared} {Q : VK} {c : Str} {mf : MF} {C a dx : Addr} {fs : List (Str × V)} (hK : X.K = G.K) (hM : X.mg = G.mg)
    (F : SpF X.prog X.w G X.base gb k mn tbl) (hfr : A.frames = X.A.frames) (hga : gb = true → A.guards = some []) (hr : Room k A) (I : Inv X pins σ H s) (e : tbl.lookup c = some mf) (hm : G.mg c = some (.ref C)) (ha : H a = some (.ins C dx fs))
    (h : SpM G 1 mf [.ref a] H (fun v H' => ∃ y, v = .str y ∧ Q (.str y) H') noE) :
    ∃ f ox od, PySem.W.InstAt s.heap a ox C od ∧ PySem.W.findIn G.K (.ref C) mn = some (some (.ref f)) ∧ PySem.W.isFn G.K (.ref f) = true ∧
      wpAny (model X.prog X.w) A (call (.ref f) [.ref a]) (PySem.W.StrBack (EP X pins σ Q)) X.xe s := by
  obtain ⟨C', f, fd, ps, h1, h2, h3, h4, h5, h6⟩ := F.ex c mf e
  rw [hm] at h1
  cases h1
  obtain ⟨mA, J, _⟩ := ins_get I.hok ha
  obtain ⟨od, J, _⟩ := J.look
  refine ⟨f, _, od, J, h2, h3, ?_⟩
  refine wpAny_mono (runTA hK hM hfr h4 hga hr h6 noE_pass I (us := [.ref a]) (vs := [.ref a]) (.cons rfl .nil) (by rw [h5]; rfl) (by rw [h5]; exact h)) (fun v s' q => ?_) fun _ _ q => q
  obtain ⟨z, H', I', rz, y, rfl, q⟩ := q
  obtain ⟨t, rfl⟩ := rz
  exact ⟨.str y, H', I', ⟨t, rfl⟩, q⟩
def rOwn1 (G : Gi) (tbl : List (Str × MF)) (r : List V → Hp → VK → Prop) : List V → Hp → VK → Prop := fun xs H Q => ∃ x, xs = [x] ∧ rOwn G tbl (fun x => r [x]) x H Q
/-- str(e) -/
theorem call_strO (hK : X.K = G.K) (hM : X.mg = G.mg) (F : SpF X.prog X.w G X.base gb k "__str__" tbl) (hga : gb = true → X.A.guards = some []) (hr : Room (k + 2) X.A) : CallR X (.type "str") (rOwn1 G tbl rStrM) := by
  intro pins s σ H xs us Q I r q
  obtain ⟨x, rfl, q⟩ := q
  rcases q with q | ⟨c, mf, C, a, dx, fs, e, hm, rfl, ha, q⟩
  · exact call_strM pins s σ H [x] us Q I r q
  · cases r with
    | cons r0 rn =>
      cases rn
      cases r0
      have kin := I.kIn
      rw [hK] at kin
      obtain ⟨f, ox, od, J, h2, h3, h4⟩ := own_run (A := X.A.in1.in1) hK hM F rfl hga hr.in1.in1 I e hm ha q
      exact PySem.W.kso_call hr.in1.in1.units0 kin J h2 h3 h4
/-- repr(e) -/
theorem call_reprO (hK : X.K = G.K) (hM : X.mg = G.mg) (F : SpF X.prog X.w G X.base gb k "__repr__" tbl) (hga : X.A.guards = some []) (hr : Room (k + 1) X.A) (M : Sm X.base) : CallR X (.builtin "repr") (rOwn1 G tbl (rRepr G.K)) := by
  intro pins s σ H xs us Q I r q
  obtain ⟨x, rfl, q⟩ := q
  rcases q with q | ⟨c, mf, C, a, dx, fs, e, hm, rfl, ha, q⟩
  · exact k_repr (K := G.K) hK hga (hu64 hr) M pins s σ H [x] us Q I r q
  · cases r with
    | cons r0 rn =>
      cases rn
      cases r0
      have kin := I.kIn
      rw [hK] at kin
      obtain ⟨f, ox, od, J, h2, h3, h4⟩ := own_run (A := X.A.in1) hK hM F rfl (fun _ => hga) hr.in1 I e hm ha q
      refine Calls.call_function_entry PySem.F.kind_repr PySem.F.plain_repr PySem.F.entry_repr (PySem.F.args_repr1 _) ?_
      unfold Builtin.«repr»
      refine wpAny_bind (m := oneArg "repr" _) (wpAny_pure ?_)
      refine wpAny_bind (wpAny_cRoomFor hr.in1.units0 ?_)
      refine wpAny_bind (wpAny_bind (J.type.here ((PySem.W.looks_findIn kin h2).here ?_)))
      show wpAny _ _ (if (some (Value.ref f)).isNone = true then _ else _) _ _ _
      rw [if_neg (by simp)]
      refine wpAny_bind (m := callSpecialIfBound? (.ref a) (Str.ofString "__repr__") _) (PySem.W.ifBound_K kin J h2 h3 (wpAny_mono h4 (fun r s' hr => ?_) fun _ _ y => y))
      cases r <;> first | exact hr.elim | skip
      refine wpAny_bind (wpAny_isInstance (typeIs_str _ _ _) isSubtype_str_str ?_)
      first
        | exact wpAny_pure ⟨_, rfl, hr⟩
        | (rw [if_pos rfl]; exact wpAny_pure ⟨_, rfl, hr⟩)
        | (simp only [if_true]; exact wpAny_pure ⟨_, rfl, hr⟩)
theorem sp1_t {r : List V → Hp → VK → Prop} {g : D → Option O} (hr : UnD G (fun x => r [x]) g) (hN : ∀ c mf, tbl.lookup c = some mf → ∃ C, G.mg c = some (.ref C)) {σ : L2.St} {H : Hp} {Q : VK} (q : tO G W (xSp tbl g md) σ H Q) :
    tCB (rOwn1 G tbl r) (tCons (tD G W md) tNil) σ H Q := by
  show tD G W md σ H fun x H1 => ∃ y, [x] = [y] ∧ rOwn G tbl (fun x => r [x]) y H1 Q
  obtain ⟨c, st, rfl, r0, w⟩ := own_t hr q hN
  exact ⟨c, st, rfl, r0, wp_mono w (fun d st' k v c' r' g' p' => ⟨v, rfl, k v c' r' g' p'⟩) fun _ _ q => q⟩
theorem x_strO (hK : X.K = G.K) (hM : X.mg = G.mg) (F : SpF X.prog X.w G X.base gb k "__str__" tbl) (hga : gb = true → X.A.guards = some []) (hr : Room (k + 2) X.A) (hg : Gl X x) (hm : X.mg x = none) (hv : bootBuiltins x = some (.type "str")) (ha : PE X e (tD G W md))
    (hn : x ≠ "__name__" := by decide) (hdb : (x == ("__debug__" : Str)) = false := by decide)
    (he : starEach [e] X.env = (false, eval e X.env) :: starEach [] X.env := by rfl) (hpl : (backTo pos (starEach [] X.env)).any (·.1) = false := by rfl) : PE X (.Call (.Name x p) [e] [] pos) (tO G W (xSp tbl strD md)) :=
  (pe_callTy (call_strO hK hM F hga hr) hg hm hv (pa_cons ha pa_nil he) hn hdb he hpl).weak fun _ _ _ q => sp1_t d_str F.nm q
theorem x_reprO (hK : X.K = G.K) (hM : X.mg = G.mg) (F : SpF X.prog X.w G X.base gb k "__repr__" tbl) (hga : X.A.guards = some []) (hr : Room (k + 1) X.A) (M : Sm X.base) (hg : Gl X x) (hm : X.mg x = none) (hv : bootBuiltins x = some (.builtin "repr")) (ha : PE X e (tD G W md))
    (hn : x ≠ "__name__" := by decide) (hdb : (x == ("__debug__" : Str)) = false := by decide)
    (he : starEach [e] X.env = (false, eval e X.env) :: starEach [] X.env := by rfl) (hpl : (backTo pos (starEach [] X.env)).any (·.1) = false := by rfl) : PE X (.Call (.Name x p) [e] [] pos) (tO G W (xSp tbl reprD md)) :=
  (pe_callB (call_reprO hK hM F hga hr M) hg hm hv (pa_cons ha pa_nil he) hn hdb he hpl).weak fun _ _ _ q => sp1_t d_repr F.nm q
end
end L2.Tr

namespace PySem.SeqAt
open AutoSeq1 (wpAny_loadPart')
open MeetsSeq
/-! data decline an instance -/
section
theorem int_eq_dec_bool (b : Bool) (l : Addr) (c : Value) (dd : Option Addr) (sl : Array (Option Value)) :
    Meets (Builtin.«int.__eq__» ⟨[.bool b, .ref l], []⟩) (fun _ R s => s.heap.get? l = some { cls := c, dict := dd, data := .plain, slots := sl } ∧ R (.ok (.ret .notImplemented)) s) :=
  .of_wp fun prog w A R s h => by obtain ⟨hp, g, d, tk, os⟩ := s; obtain ⟨hl, h⟩ := h; wp_walk using wpAny_loadPart' hl, wpAny_load hl; exact ⟨_, rfl, h⟩
theorem int_eq_dec_int (b : Int) (u : Tok) (l : Addr) (c : Value) (dd : Option Addr) (sl : Array (Option Value)) :
    Meets (Builtin.«int.__eq__» ⟨[.int b u, .ref l], []⟩) (fun _ R s => s.heap.get? l = some { cls := c, dict := dd, data := .plain, slots := sl } ∧ R (.ok (.ret .notImplemented)) s) :=
  .of_wp fun prog w A R s h => by obtain ⟨hp, g, d, tk, os⟩ := s; obtain ⟨hl, h⟩ := h; wp_walk using wpAny_loadPart' hl, wpAny_load hl; exact ⟨_, rfl, h⟩
theorem str_eq_dec_str (b : Str) (u : Tok) (l : Addr) (c : Value) (dd : Option Addr) (sl : Array (Option Value)) :
    Meets (Builtin.«str.__eq__» ⟨[.str b u, .ref l], []⟩) (fun _ R s => s.heap.get? l = some { cls := c, dict := dd, data := .plain, slots := sl } ∧ R (.ok (.ret .notImplemented)) s) :=
  .of_wp fun prog w A R s h => by obtain ⟨hp, g, d, tk, os⟩ := s; obtain ⟨hl, h⟩ := h; wp_walk using wpAny_loadPart' hl, wpAny_load hl; exact ⟨_, rfl, h⟩
theorem int_ne_dec_bool (b : Bool) (l : Addr) (c : Value) (dd : Option Addr) (sl : Array (Option Value)) :
    Meets (Builtin.«int.__ne__» ⟨[.bool b, .ref l], []⟩) (fun _ R s => s.heap.get? l = some { cls := c, dict := dd, data := .plain, slots := sl } ∧ R (.ok (.ret .notImplemented)) s) :=
  .of_wp fun prog w A R s h => by obtain ⟨hp, g, d, tk, os⟩ := s; obtain ⟨hl, h⟩ := h; wp_walk using wpAny_loadPart' hl, wpAny_load hl; exact ⟨_, rfl, h⟩
theorem int_ne_dec_int (b : Int) (u : Tok) (l : Addr) (c : Value) (dd : Option Addr) (sl : Array (Option Value)) :
    Meets (Builtin.«int.__ne__» ⟨[.int b u, .ref l], []⟩) (fun _ R s => s.heap.get? l = some { cls := c, dict := dd, data := .plain, slots := sl } ∧ R (.ok (.ret .notImplemented)) s) :=
  .of_wp fun prog w A R s h => by obtain ⟨hp, g, d, tk, os⟩ := s; obtain ⟨hl, h⟩ := h; wp_walk using wpAny_loadPart' hl, wpAny_load hl; exact ⟨_, rfl, h⟩
theorem str_ne_dec_str (b : Str) (u : Tok) (l : Addr) (c : Value) (dd : Option Addr) (sl : Array (Option Value)) :
    Meets (Builtin.«str.__ne__» ⟨[.str b u, .ref l], []⟩) (fun _ R s => s.heap.get? l = some { cls := c, dict := dd, data := .plain, slots := sl } ∧ R (.ok (.ret .notImplemented)) s) :=
  .of_wp fun prog w A R s h => by obtain ⟨hp, g, d, tk, os⟩ := s; obtain ⟨hl, h⟩ := h; wp_walk using wpAny_loadPart' hl, wpAny_load hl; exact ⟨_, rfl, h⟩
theorem list_eq_dec (K : PySem.W.Frag) (l y C : Addr) (items : Array Value) (n : Nat) (dd : Option Addr) (sl : Array (Option Value)) (o : Obj) (hC : o.cls = .ref C) (hsub : PySem.W.subIn K (.ref C) (.type "list") = some false) :
    Meets (Builtin.«list.__eq__» ⟨[.ref l, .ref y], []⟩) (fun _ R s => K.In s.heap ∧ s.heap.get? y = some o ∧ s.heap.get? l = some { cls := .type "list", dict := dd, data := .seq items n, slots := sl } ∧ R (.ok (.ret .notImplemented)) s) :=
  .of_wp fun prog w A R s h => by
    obtain ⟨hp, g, d, tk, os⟩ := s
    obtain ⟨kin, hy, hl, h⟩ := h
    wp_walk using wpAny_load hy
    rw [hC]
    refine (PySem.W.looks_subIn kin hsub).here ?_
    exact wpAny_pure ⟨_, rfl, h⟩
theorem list_ne_dec (K : PySem.W.Frag) (l y C : Addr) (items : Array Value) (n : Nat) (dd : Option Addr) (sl : Array (Option Value)) (o : Obj) (hC : o.cls = .ref C) (hsub : PySem.W.subIn K (.ref C) (.type "list") = some false) :
    Meets (Builtin.«list.__ne__» ⟨[.ref l, .ref y], []⟩) (fun _ R s => K.In s.heap ∧ s.heap.get? y = some o ∧ s.heap.get? l = some { cls := .type "list", dict := dd, data := .seq items n, slots := sl } ∧ R (.ok (.ret .notImplemented)) s) :=
  .of_wp fun prog w A R s h => by
    obtain ⟨hp, g, d, tk, os⟩ := s
    obtain ⟨kin, hy, hl, h⟩ := h
    wp_walk using wpAny_load hy
    rw [hC]
    refine (PySem.W.looks_subIn kin hsub).here ?_
    exact wpAny_pure ⟨_, rfl, h⟩
theorem tuple_eq_dec (K : PySem.W.Frag) (l y C : Addr) (items : Array Value) (n : Nat) (dd : Option Addr) (sl : Array (Option Value)) (o : Obj) (hC : o.cls = .ref C) (hsub : PySem.W.subIn K (.ref C) (.type "tuple") = some false) :
    Meets (Builtin.«tuple.__eq__» ⟨[.ref l, .ref y], []⟩) (fun _ R s => K.In s.heap ∧ s.heap.get? y = some o ∧ s.heap.get? l = some { cls := .type "tuple", dict := dd, data := .seq items n, slots := sl } ∧ R (.ok (.ret .notImplemented)) s) :=
  .of_wp fun prog w A R s h => by
    obtain ⟨hp, g, d, tk, os⟩ := s
    obtain ⟨kin, hy, hl, h⟩ := h
    wp_walk using wpAny_load hy
    rw [hC]
    refine (PySem.W.looks_subIn kin hsub).here ?_
    exact wpAny_pure ⟨_, rfl, h⟩
theorem tuple_ne_dec (K : PySem.W.Frag) (l y C : Addr) (items : Array Value) (n : Nat) (dd : Option Addr) (sl : Array (Option Value)) (o : Obj) (hC : o.cls = .ref C) (hsub : PySem.W.subIn K (.ref C) (.type "tuple") = some false) :
    Meets (Builtin.«tuple.__ne__» ⟨[.ref l, .ref y], []⟩) (fun _ R s => K.In s.heap ∧ s.heap.get? y = some o ∧ s.heap.get? l = some { cls := .type "tuple", dict := dd, data := .seq items n, slots := sl } ∧ R (.ok (.ret .notImplemented)) s) :=
  .of_wp fun prog w A R s h => by
    obtain ⟨hp, g, d, tk, os⟩ := s
    obtain ⟨kin, hy, hl, h⟩ := h
    wp_walk using wpAny_load hy
    rw [hC]
    refine (PySem.W.looks_subIn kin hsub).here ?_
    exact wpAny_pure ⟨_, rfl, h⟩
end
end PySem.SeqAt
namespace L2.Tr
open PySem PySem.Spec PyProof.Rows L2 L2.Pc
section
variable {prog : Program} {w : World} {A : Around} {E : Value → Shared → Prop} {s : Shared} {K : PySem.W.Frag} {x C f : Addr} {ox : Obj} {od : Option Obj}
theorem ifBound_B {M : Model} {id : String} {name : Str} {args : List Value} {Q : Option Value → Shared → Prop} (X : K.In s.heap) (I : PySem.W.InstAt s.heap x ox C od) (hs : PySem.W.findIn K (.ref C) name = some (some (.builtin id)))
    (hb : ∀ self, bindSpecial (.builtin id) self = pure (.builtin id, [self]))
    (h : wpAny M A (call (.builtin id) (.ref x :: args)) (fun v => Q (some v)) E s) : wpAny M A (callSpecialIfBound? (.ref x) name args) Q E s := by
  simp only [callSpecialIfBound?, bindSpecialIfBound?]
  refine wpAny_holding (wpAny_bind (wpAny_bind (wpAny_bind (I.type.here ((PySem.W.looks_findIn X hs).here ?_)))))
  refine wpAny_bind (wpAny_askSetting (wpAny_ite ?_))
  have fin : wpAny M A (call (.builtin id) ([.ref x] ++ args) >>= fun v => pure (some v)) Q E s := wpAny_bind (wpAny_mono h (fun v s' h' => wpAny_pure h') fun _ _ h' => h')
  split
  · exact wpAny_bind (wpAny_of_eq (hb _) (wpAny_pure (by exact fin)))
  · exact wpAny_tryCatch (wpAny_bind (wpAny_of_eq (hb _) (wpAny_pure (by exact fin))))
/-- what K holds of a class with an own == -/
def kindsE : List String := ["NoneType", "bool", "int", "str", "tuple", "list"]
structure EqK (K : PySem.W.Frag) (C f : Addr) : Prop where
  eq : PySem.W.findIn K (.ref C) "__eq__" = some (some (.ref f))
  ne : PySem.W.findIn K (.ref C) "__ne__" = some (some (.builtin "object.__ne__"))
  fn : PySem.W.isFn K (.ref f) = true
  ob : PySem.W.mroIn K C (.type "object") = some true
  up : ∀ T ∈ kindsE, PySem.W.subIn K (.type T) (.ref C) = some false
  dn : ∀ T ∈ kindsE, PySem.W.subIn K (.ref C) (.type T) = some false
open Builtin in
theorem ne_own {b : Value} {Q : Value → Shared → Prop} (hu : A.in1.units < cLine) (X : K.In s.heap) (I : PySem.W.InstAt s.heap x ox C od) (e : EqK K C f)
    (h : wpAny (model prog w) A.in1 (call (.ref f) [.ref x, b]) (fun v s' => ∃ r, v = .bool r ∧ Q (.bool (!r)) s') E s) : wpAny (model prog w) A (call (.builtin "object.__ne__") [.ref x, b]) Q E s := by
  refine wpAny_call (codeAny_call_builtin PySem.F.cmp_object.ne.plain PySem.F.cmpEntry_ne (PySem.W.check_slot (i := "object.__ne__") (owner := "object") (n := "__ne__") PySem.F.cmpKind_ne PySem.F.cmpSplit_ne (I.type.andThen (PySem.W.looks_mroIn X e.ob)) (PySem.F.cmpArgs_ne _ _) ?_))
  unfold Builtin.«object.__ne__»
  refine wpAny_bind (m := slotArgs "__ne__" 1 _) (wpAny_pure ?_)
  refine wpAny_bind (m := cRoomFor _ _) (wpAny_cRoomFor hu ?_)
  refine wpAny_bind (m := callSpecialIfBound? (.ref x) (Str.ofString "__eq__") _) (PySem.W.ifBound_K X I e.eq e.fn (wpAny_mono h (fun v s' hr => ?_) fun _ _ y => y))
  obtain ⟨r, rfl, hq⟩ := hr
  exact wpAny_bind (m := truthy _) (wpAny_truthy_bool (wpAny_pure hq))
/-- the right or left side's own answer -/
theorem try_own {op : CmpOp} (hop : op = .Eq ∨ op = .NotEq) {b : Value} {Q : Option Value → Shared → Prop} (hu : A.in1.in1.units < cLine) (X : K.In s.heap) (I : PySem.W.InstAt s.heap x ox C od) (e : EqK K C f)
    (h1 : op = .Eq → wpAny (model prog w) A (call (.ref f) [.ref x, b]) (fun v s' => ∃ r, v = .bool r ∧ Q (some (.bool r)) s') E s)
    (h2 : op = .NotEq → wpAny (model prog w) A.in1 (call (.ref f) [.ref x, b]) (fun v s' => ∃ r, v = .bool r ∧ Q (some (.bool (!r))) s') E s) :
    wpAny (model prog w) A (tryCompare (.ref x) (cmpInfo op).2.1 b) Q E s := by
  rcases hop with rfl | rfl
  · unfold tryCompare
    refine wpAny_bind (PySem.W.ifBound_K X I e.eq e.fn (wpAny_mono (h1 rfl) (fun v s' hv => ?_) fun _ _ e => e))
    obtain ⟨r, rfl, q⟩ := hv
    exact wpAny_pure q
  · unfold tryCompare
    refine wpAny_bind (ifBound_B X I e.ne PySem.F.cmp_object.ne.bind (ne_own (Nat.lt_trans (Nat.lt_succ_self _) hu) X I e (wpAny_mono (h2 rfl) (fun v s' hv => ?_) fun _ _ e => e)))
    obtain ⟨r, rfl, q⟩ := hv
    exact ⟨r, rfl, wpAny_pure q⟩
/-- an instance on the left -/
theorem cmpL_K {op : CmpOp} (hop : op = .Eq ∨ op = .NotEq) {b tb : Value} {Q : Value → Shared → Prop} (hu : A.in1.in1.units < cLine) (X : K.In s.heap) (I : PySem.W.InstAt s.heap x ox C od) (e : EqK K C f)
    (hb : PySem.W.Looks (model prog w) s.heap (typeOf b) tb) (hn : PySem.W.notFirst K C tb = true)
    (h1 : op = .Eq → wpAny (model prog w) A (call (.ref f) [.ref x, b]) (fun v s' => ∃ r, v = .bool r ∧ Q (.bool r) s') E s)
    (h2 : op = .NotEq → wpAny (model prog w) A.in1 (call (.ref f) [.ref x, b]) (fun v s' => ∃ r, v = .bool r ∧ Q (.bool (!r)) s') E s) :
    wpAny (model prog w) A (richCompare op (.ref x) b) Q E s := by
  have one : wpAny (model prog w) A (tryCompare (.ref x) (cmpInfo op).2.1 b) (fun r s' => ∃ v, r = some v ∧ Q v s') E s :=
    try_own hop hu X I e (fun o => wpAny_mono (h1 o) (fun v s' ⟨r, e, q⟩ => ⟨r, e, _, rfl, q⟩) fun _ _ e => e) (fun o => wpAny_mono (h2 o) (fun v s' ⟨r, e, q⟩ => ⟨r, e, _, rfl, q⟩) fun _ _ e => e)
  unfold richCompare
  simp only [oneThing_ref]
  refine wpAny_holding (wpAny_bind (wpAny_cRoomFor (Nat.lt_trans (Nat.lt_trans (Nat.lt_succ_self _) (Nat.lt_succ_self _)) hu) ?_))
  refine wpAny_bind (I.type.here (wpAny_bind (hb.here ?_)))
  split
  · rename_i q
    have e : PySem.W.subIn K tb (.ref C) = some false := by
      rcases Bool.or_eq_true_iff.mp hn with e | e
      · rw [beq_iff_eq.mp e] at q; simp at q
      · exact beq_iff_eq.mp e
    refine wpAny_bind ((PySem.W.looks_subIn X e).here ?_)
    simp only [Bool.false_eq_true, if_false]
    refine wpAny_bind (wpAny_mono one (fun r s' z => ?_) fun _ _ e => e)
    obtain ⟨v, rfl, hq⟩ := z
    exact wpAny_pure hq
  · refine wpAny_bind (wpAny_pure ?_)
    simp only [Bool.false_eq_true, if_false]
    refine wpAny_bind (wpAny_mono one (fun r s' z => ?_) fun _ _ e => e)
    obtain ⟨v, rfl, hq⟩ := z
    exact wpAny_pure hq
/-- data on the left, an instance on the right -/
theorem cmpR_K {op : CmpOp} (hop : op = .Eq ∨ op = .NotEq) {a : Value} {T ida : String} {Q : Value → Shared → Prop} (hu : A.in1.in1.units < cLine) (X : K.In s.heap) (I : PySem.W.InstAt s.heap x ox C od) (e : EqK K C f)
    (ha : s.TypeIs a T) (hT : T ∈ kindsE) (h0 : Slot T (cmpInfo op).2.1 ida)
    (hc : ∀ Q' : Value → Shared → Prop, Q' .notImplemented s → wpAny (model prog w) A (call (.builtin ida) [a, .ref x]) Q' E s)
    (h1 : op = .Eq → wpAny (model prog w) A (call (.ref f) [.ref x, a]) (fun v s' => ∃ r, v = .bool r ∧ Q (.bool r) s') E s)
    (h2 : op = .NotEq → wpAny (model prog w) A.in1 (call (.ref f) [.ref x, a]) (fun v s' => ∃ r, v = .bool r ∧ Q (.bool (!r)) s') E s) :
    wpAny (model prog w) A (richCompare op a (.ref x)) Q E s := by
  have one : wpAny (model prog w) A (tryCompare (.ref x) (cmpInfo op).2.2 a) (fun r s' => ∃ v, r = some v ∧ Q v s') E s := by
    have := try_own hop hu X I e (Q := fun r s' => ∃ v, r = some v ∧ Q v s') (fun o => wpAny_mono (h1 o) (fun v s' ⟨r, e, q⟩ => ⟨r, e, _, rfl, q⟩) fun _ _ e => e) (fun o => wpAny_mono (h2 o) (fun v s' ⟨r, e, q⟩ => ⟨r, e, _, rfl, q⟩) fun _ _ e => e)
    rcases hop with rfl | rfl <;> exact this
  have hsub := e.dn T hT
  rcases hi : cmpInfo op with ⟨sym, f', r'⟩
  rw [hi] at h0 one
  simp only [richCompare, hi, ha.oneThing_none]
  try with_reducible refine wpAny_holding ?_
  refine wpAny_bind (wpAny_cRoomFor (Nat.lt_trans (Nat.lt_trans (Nat.lt_succ_self _) (Nat.lt_succ_self _)) hu) ?_)
  refine wpAny_bind (wpAny_typeOf ha (wpAny_bind (I.type.here ?_)))
  rw [show (Value.type T != Value.ref C) = true from by simp]
  simp only [if_true]
  refine wpAny_bind ((PySem.W.looks_subIn X hsub).here ?_)
  simp only [Bool.false_eq_true, if_false, Bool.not_false, if_true]
  refine wpAny_bind (m := tryCompare a _ (.ref x)) (wpAny_tryCompare_declines ha h0 (hc _ ⟨rfl, ?_⟩))
  refine wpAny_bind (m := tryCompare (.ref x) _ a) (wpAny_mono one (fun r s' z => ?_) fun _ _ e => e)
  obtain ⟨v, rfl, hq⟩ := z
  exact wpAny_pure hq
end
end L2.Tr

namespace L2.Tr
open PySem PySem.Spec PyProof.Rows L2 L2.Pc

/-! ### x == y, x != y with instances of classes that have their own == -/
abbrev ETab := List (Str × (MF × (D → D → Option Bool)))
structure EqTab (P : Program) (w : World) (G : Gi) (base : Heap) (gb : Bool) (k : Nat) (tbl : ETab) : Prop where
  ex : ∀ c mp, tbl.lookup c = some mp → ∃ (C f : Addr) (fd : FuncData) (ps : List Str), G.mg c = some (.ref C) ∧ EqK G.K C f ∧ FnT P w G base gb k f fd ps mp.1 ∧ ps.length = 2 ∧ Binds G.K fd ps []
  run : ∀ c mp, tbl.lookup c = some mp → ∀ x y b mu, mp.2 x y = some b → mp.1 [x, y] mu = .ok (.fz (.bl b)) ⟨[], mu⟩
  same : ∀ c mp, tbl.lookup c = some mp → ∀ F al v x y b, (insOf x).isSome = true → (insOf y).isSome = true → Rp G F al v x → Rp G F al v y → mp.2 x y = some b → b = true
  cross : ∀ c c' C C', (tbl.lookup c).isSome = true → (tbl.lookup c').isSome = true → G.mg c = some (.ref C) → G.mg c' = some (.ref C') → PySem.W.notFirst G.K C (.ref C') = true
def okL (d : D) : Bool := match clsName d with
  | some k => kindsE.contains k
  | none => false
def okR (tbl : ETab) (d : D) : Bool := match insOf d with
  | some c => (tbl.lookup c).isSome
  | none => okL d
/-- == of trees -/
def eqP (tbl : ETab) (x y : D) : Option Bool := match insOf x with
  | some c => (tbl.lookup c).bind fun mp => if okR tbl y = true then mp.2 x y else none
  | none => (match insOf y with
    | some c => (tbl.lookup c).bind fun mp => if okL x = true then mp.2 y x else none
    | none => plainEq x y)
def xEqO (tbl : ETab) (neg : Bool) (ma mb : M D) : M O := bnd ma fun x => bnd mb fun y => ofO ((eqP tbl x y).map fun b => .fz (.bl (b != neg)))
@[simp] theorem xEqO_app (tbl : ETab) (neg : Bool) (ma mb : M D) (s : S) : xEqO tbl neg ma mb s = (ma s).bind fun x s1 => (mb s1).bind fun y => ofO ((eqP tbl x y).map fun b => .fz (.bl (b != neg))) := rfl
def OkLV (K : PySem.W.Frag) (x : V) (H : Hp) : Prop := x = .non ∨ (∃ b, x = .bl b) ∨ (∃ i, x = .int i) ∨ (∃ y, x = .str y) ∨ (∃ a xs, x = .ref a ∧ SqT K H a xs) ∨ ∃ a xs, x = .ref a ∧ SqL K H a xs
def OkRV (G : Gi) (tbl : ETab) (x : V) (H : Hp) : Prop := OkLV G.K x H ∨ ∃ c C a dx fs, (tbl.lookup c).isSome = true ∧ G.mg c = some (.ref C) ∧ x = .ref a ∧ H a = some (.ins C dx fs)
def rPlain (K : PySem.W.Frag) (neg : Bool) : R2 := fun x y H Q => if neg = true then rNeM K x y H Q else rEqM K x y H Q
def rIns (G : Gi) (tbl : ETab) (neg : Bool) : R2 := fun x y H Q =>
  (∃ c mp C a dx fs, tbl.lookup c = some mp ∧ G.mg c = some (.ref C) ∧ x = .ref a ∧ H a = some (.ins C dx fs) ∧ OkRV G tbl y H ∧ SpM G 2 mp.1 [x, y] H (fun v H' => ∃ b, v = .bl b ∧ Q (.bl (b != neg)) H') noE) ∨
  ∃ c mp C a dx fs, tbl.lookup c = some mp ∧ G.mg c = some (.ref C) ∧ y = .ref a ∧ H a = some (.ins C dx fs) ∧ OkLV G.K x H ∧ SpM G 2 mp.1 [y, x] H (fun v H' => ∃ b, v = .bl b ∧ Q (.bl (b != neg)) H') noE
def rOwnEq (G : Gi) (tbl : ETab) (neg : Bool) : R2 := fun x y H Q => rPlain G.K neg x y H Q ∨ rIns G tbl neg x y H Q
def cmpOpB (neg : Bool) : CmpOp := if neg = true then .NotEq else .Eq
theorem cmpOpB_or (neg : Bool) : cmpOpB neg = .Eq ∨ cmpOpB neg = .NotEq := by cases neg <;> simp [cmpOpB]
section
variable {X : Cx} {G : Gi} {gb : Bool} {k : Nat} {tbl : ETab}
/-- what is known of data on one side -/
theorem okL_ty {K : PySem.W.Frag} {x : V} {H : Hp} (h : OkLV K x H) : ∃ T ∈ kindsE, TyX K H x (.type T) := by
  rcases h with rfl | ⟨b, rfl⟩ | ⟨i, rfl⟩ | ⟨y, rfl⟩ | ⟨a, xs, rfl, h⟩ | ⟨a, xs, rfl, h⟩
  · exact ⟨"NoneType", by simp [kindsE], .base .non⟩
  · exact ⟨"bool", by simp [kindsE], .base (.bl b)⟩
  · exact ⟨"int", by simp [kindsE], .base (.int i)⟩
  · exact ⟨"str", by simp [kindsE], .base (.str y)⟩
  · exact ⟨"tuple", by simp [kindsE], sqT_ty h⟩
  · exact ⟨"list", by simp [kindsE], sqL_ty h⟩
open SeqAt in
/-- data's own == and != decline an instance -/
theorem declines {pins : List (Addr × Obj)} {σ : L2.St} {H : Hp} {s : Shared} {x : V} {u : Value} {a C f : Addr} {dx : Addr} (neg : Bool) (I : Inv X pins σ H s) (e : EqK X.K C f) (ha : s.heap.get? a = some (PySem.W.instObj C dx)) (rx : RelV x u) (h : OkLV X.K x H) :
    ∃ T ida, s.TypeIs u T ∧ T ∈ kindsE ∧ Slot T (cmpInfo (cmpOpB neg)).2.1 ida ∧
      ∀ (A : Around) (E : Value → Shared → Prop) (Q' : Value → Shared → Prop), Q' .notImplemented s → wpAny (model X.prog X.w) A (call (.builtin ida) [u, .ref a]) Q' E s := by
  rcases h with rfl | ⟨b, rfl⟩ | ⟨i, rfl⟩ | ⟨y, rfl⟩ | ⟨l, xs, rfl, h⟩ | ⟨l, xs, rfl, h⟩
  · cases (show u = Value.none from rx)
    cases neg
    · exact ⟨"NoneType", _, rfl, by simp [kindsE], F.slot_NoneType_eq, fun A E Q' hq => call_gives F.slot_NoneType_eq rfl F.entry_NoneType_eq (F.args_NoneType_eq_2 _ _) (NoneType___eq___none_ref_0 a) hq⟩
    · exact ⟨"NoneType", _, rfl, by simp [kindsE], F.slot_NoneType_ne, fun A E Q' hq => call_gives F.slot_NoneType_ne rfl F.entry_NoneType_ne (F.args_NoneType_ne_2 _ _) (NoneType___ne___none_ref_0 a) hq⟩
  · cases (show u = Value.bool b from rx)
    cases neg
    · exact ⟨"bool", _, rfl, by simp [kindsE], F.slot_bool_eq, fun A E Q' hq => call_meets F.slot_bool_eq rfl F.entry_int_eq (F.args_int_eq_2 _ _) (int_eq_dec_bool b a (.ref C) _ _) ⟨ha, hq⟩⟩
    · exact ⟨"bool", _, rfl, by simp [kindsE], F.slot_bool_ne, fun A E Q' hq => call_meets F.slot_bool_ne rfl F.entry_int_ne (F.args_int_ne_2 _ _) (int_ne_dec_bool b a (.ref C) _ _) ⟨ha, hq⟩⟩
  · obtain ⟨t, q⟩ := (show ∃ t, u = Value.int i t from rx)
    cases q
    cases neg
    · exact ⟨"int", _, typeIs_int s i t, by simp [kindsE], F.slot_int_eq, fun A E Q' hq => call_meets F.slot_int_eq (typeIs_int s i t) F.entry_int_eq (F.args_int_eq_2 _ _) (int_eq_dec_int i t a (.ref C) _ _) ⟨ha, hq⟩⟩
    · exact ⟨"int", _, typeIs_int s i t, by simp [kindsE], F.slot_int_ne, fun A E Q' hq => call_meets F.slot_int_ne (typeIs_int s i t) F.entry_int_ne (F.args_int_ne_2 _ _) (int_ne_dec_int i t a (.ref C) _ _) ⟨ha, hq⟩⟩
  · obtain ⟨t, q⟩ := (show ∃ t, u = Value.str y t from rx)
    cases q
    cases neg
    · exact ⟨"str", _, typeIs_str s y t, by simp [kindsE], F.slot_str_eq, fun A E Q' hq => call_meets F.slot_str_eq (typeIs_str s y t) F.entry_str_eq (F.args_str_eq_2 _ _) (str_eq_dec_str y t a (.ref C) _ _) ⟨ha, hq⟩⟩
    · exact ⟨"str", _, typeIs_str s y t, by simp [kindsE], F.slot_str_ne, fun A E Q' hq => call_meets F.slot_str_ne (typeIs_str s y t) F.entry_str_ne (F.args_str_ne_2 _ _) (str_ne_dec_str y t a (.ref C) _ _) ⟨ha, hq⟩⟩
  · cases (show u = Value.ref l from rx)
    obtain ⟨its, r, ⟨⟨cls, dd, data, sl⟩, ho, hc, n, hd⟩, _⟩ := I.tuple h
    simp only at hc hd
    subst hc hd
    have kin := I.kIn
    have hs := e.dn "tuple" (by simp [kindsE])
    cases neg
    · exact ⟨"tuple", _, ⟨_, ho, rfl⟩, by simp [kindsE], F.slot_tuple_eq, fun A E Q' hq => call_meets F.slot_tuple_eq ⟨_, ho, rfl⟩ F.entry_tuple_eq (F.args_tuple_eq_2 _ _) (tuple_eq_dec X.K l a C _ n dd sl _ rfl hs) ⟨kin, ha, ho, hq⟩⟩
    · exact ⟨"tuple", _, ⟨_, ho, rfl⟩, by simp [kindsE], F.slot_tuple_ne, fun A E Q' hq => call_meets F.slot_tuple_ne ⟨_, ho, rfl⟩ F.entry_tuple_ne (F.args_tuple_ne_2 _ _) (tuple_ne_dec X.K l a C _ n dd sl _ rfl hs) ⟨kin, ha, ho, hq⟩⟩
  · cases (show u = Value.ref l from rx)
    obtain ⟨its, r, ⟨⟨cls, dd, data, sl⟩, n, ho, hc, _, hd⟩, _⟩ := I.list h
    simp only at hc hd
    subst hc hd
    have kin := I.kIn
    have hs := e.dn "list" (by simp [kindsE])
    cases neg
    · exact ⟨"list", _, ⟨_, ho, rfl⟩, by simp [kindsE], F.slot_list_eq, fun A E Q' hq => call_meets F.slot_list_eq ⟨_, ho, rfl⟩ F.entry_list_eq (F.args_list_eq_2 _ _) (list_eq_dec X.K l a C _ n dd sl _ rfl hs) ⟨kin, ha, ho, hq⟩⟩
    · exact ⟨"list", _, ⟨_, ho, rfl⟩, by simp [kindsE], F.slot_list_ne, fun A E Q' hq => call_meets F.slot_list_ne ⟨_, ho, rfl⟩ F.entry_list_ne (F.args_list_ne_2 _ _) (list_ne_dec X.K l a C _ n dd sl _ rfl hs) ⟨kin, ha, ho, hq⟩⟩
/-- the own == runs somewhere below the body -/
theorem eq_run {A : Around} {pins : List (Addr × Obj)} {σ : L2.St} {H : Hp} {s : Shared} {mf : MF} {f : Addr} {fd : FuncData} {ps : List Str} {x y : V} {u v : Value} (hK : X.K = G.K) (hM : X.mg = G.mg)
    (hfr : A.frames = X.A.frames) (FT : FnT X.prog X.w G X.base gb k f fd ps mf) (hp : ps.length = 2) (hb : Binds G.K fd ps []) (hga : gb = true → A.guards = some []) (hr : Room k A) (I : Inv X pins σ H s) (rx : RelV x u) (ry : RelV y v)
    {R : Bool → Shared → Prop} (h : SpM G 2 mf [x, y] H (fun v H' => ∃ b, v = .bl b ∧ ∀ s', Inv X pins σ H' s' → R b s') noE) :
    wpAny (model X.prog X.w) A (call (.ref f) [u, v]) (fun v s' => ∃ r, v = .bool r ∧ R r s') X.xe s := by
  refine wpAny_mono (runTA hK hM hfr FT hga hr hb noE_pass I (us := [u, v]) (vs := [x, y]) (.cons rx (.cons ry .nil)) (by rw [hp]; rfl) (by rw [hp]; exact h)) (fun z s' q => ?_) fun _ _ q => q
  obtain ⟨z', H', I', rz, b, rfl, q⟩ := q
  cases (show z = Value.bool b from rz)
  exact ⟨b, rfl, q s' I'⟩
theorem spm_mono {n : Nat} {mf : MF} {vs : List V} {H : Hp} {Q Q' : VK} (h : SpM G n mf vs H Q noE) (k : ∀ v H', Q v H' → Q' v H') : SpM G n mf vs H Q' noE := by
  obtain ⟨c, ds, mu, e1, e2, e3, e4, e5, e6⟩ := h
  exact ⟨c, ds, mu, e1, e2, e3, e4, e5, wp_mono e6 (fun _ _ q v c' fp a b c d e => k _ _ (q v c' fp a b c d e)) fun _ _ q => q⟩
theorem rc_own {A : Around} (neg : Bool) (hK : X.K = G.K) (hM : X.mg = G.mg) (hfr : A.frames = X.A.frames) (F : EqTab X.prog X.w G X.base gb k tbl) (hga : gb = true → A.guards = some []) (hr : Room (k + 2) A)
    {pins : List (Addr × Obj)} {s : Shared} {σ : L2.St} {H : Hp} {x y : V} {u v : Value} {Q : VK} (I : Inv X pins σ H s) (rx : RelV x u) (ry : RelV y v) (h : rIns G tbl neg x y H Q) :
    wpAny (model X.prog X.w) A (richCompare (cmpOpB neg) u v) (EP X pins σ Q) X.xe s := by
  have hu := hr.in1.in1.units0
  have kin := I.kIn
  rw [hK] at kin
  rcases h with ⟨c, mf, C, a, dx, fs, e, hm, rfl, ha, hy, h⟩ | ⟨c, mf, C, a, dx, fs, e, hm, rfl, ha, hx, h⟩
  · obtain ⟨C', f, fd, ps, q1, q2, q3, q4, q5⟩ := F.ex c mf e
    rw [hm] at q1
    cases q1
    cases (show u = Value.ref a from rx)
    obtain ⟨mA, J0, _⟩ := ins_get I.hok ha
    obtain ⟨od, J, _⟩ := J0.look
    have ty : ∃ tb, PySem.W.Looks (model X.prog X.w) s.heap (typeOf v) tb ∧ PySem.W.notFirst G.K C tb = true := by
      rcases hy with hy | ⟨c2, C2, a2, dx2, fs2, n1, n2, rfl, n4⟩
      · obtain ⟨T, hT, ty⟩ := okL_ty hy
        rw [← hK] at ty
        obtain ⟨P, k1, k2, _⟩ := kit_of I ry ty
        refine ⟨_, k1.ty _ _ I.kIn k2, ?_⟩
        unfold PySem.W.notFirst
        rw [q2.up T hT]
        simp
      · cases (show v = Value.ref a2 from ry)
        obtain ⟨mA2, J2, _⟩ := ins_get I.hok n4
        obtain ⟨od2, J2, _⟩ := J2.look
        exact ⟨_, J2.type, F.cross c c2 C C2 (by rw [e]; rfl) n1 hm n2⟩
    obtain ⟨tb, t1, t2⟩ := ty
    have h' := spm_mono (Q' := fun v H' => ∃ b, v = .bl b ∧ ∀ s', Inv X pins σ H' s' → EP X pins σ Q (.bool (b != neg)) s') h (fun v H' ⟨b, e, q⟩ => ⟨b, e, fun s' I' => ⟨.bl (b != neg), H', I', rfl, q⟩⟩)
    refine cmpL_K (cmpOpB_or neg) hu kin J q2 t1 t2 (fun o => ?_) (fun o => ?_)
    · have en : neg = false := by cases neg; rfl; cases o
      subst en
      refine wpAny_mono (eq_run (A := A) hK hM hfr q3 q4 q5 hga (hr.mono (Nat.le_add_right _ _)) I rx ry h') (fun z s' ⟨r, e, q⟩ => ⟨r, e, by simpa using q⟩) fun _ _ q => q
    · have en : neg = true := by cases neg; cases o; rfl
      subst en
      refine wpAny_mono (eq_run (A := A.in1) hK hM hfr q3 q4 q5 hga (hr.in1.mono (Nat.le_add_right _ _)) I rx ry h') (fun z s' ⟨r, e, q⟩ => ⟨r, e, by simpa using q⟩) fun _ _ q => q
  · obtain ⟨C', f, fd, ps, q1, q2, q3, q4, q5⟩ := F.ex c mf e
    rw [hm] at q1
    cases q1
    cases (show v = Value.ref a from ry)
    obtain ⟨mA, J0, _⟩ := ins_get I.hok ha
    obtain ⟨od, J, _⟩ := J0.look
    obtain ⟨T, ida, d1, d2, d3, d4⟩ := declines neg I (by rw [hK]; exact q2) J0.obj rx (by rw [hK]; exact hx)
    have h' := spm_mono (Q' := fun v H' => ∃ b, v = .bl b ∧ ∀ s', Inv X pins σ H' s' → EP X pins σ Q (.bool (b != neg)) s') h (fun v H' ⟨b, e, q⟩ => ⟨b, e, fun s' I' => ⟨.bl (b != neg), H', I', rfl, q⟩⟩)
    refine cmpR_K (cmpOpB_or neg) hu kin J q2 d1 d2 d3 (d4 A _) (fun o => ?_) (fun o => ?_)
    · have en : neg = false := by cases neg; rfl; cases o
      subst en
      refine wpAny_mono (eq_run (A := A) hK hM hfr q3 q4 q5 hga (hr.mono (Nat.le_add_right _ _)) I ry rx h') (fun z s' ⟨r, e, q⟩ => ⟨r, e, by simpa using q⟩) fun _ _ q => q
    · have en : neg = true := by cases neg; cases o; rfl
      subst en
      refine wpAny_mono (eq_run (A := A.in1) hK hM hfr q3 q4 q5 hga (hr.in1.mono (Nat.le_add_right _ _)) I ry rx h') (fun z s' ⟨r, e, q⟩ => ⟨r, e, by simpa using q⟩) fun _ _ q => q
theorem op_own (neg : Bool) (hK : X.K = G.K) (hM : X.mg = G.mg) (F : EqTab X.prog X.w G X.base gb k tbl) (hga : gb = true → X.A.guards = some []) (hr : Room (k + 2) X.A) : OpR X (compareOp (cmpOpB neg)) (rOwnEq G tbl neg) := by
  intro pins s σ H x y u v Q I rx ry h
  rcases h with h | h
  · cases neg
    · exact k_eq (K := G.K) hK (hu64 hr) pins s σ H x y u v Q I rx ry h
    · exact k_ne (K := G.K) hK (hu64 hr) pins s σ H x y u v Q I rx ry h
  · have z := rc_own neg hK hM rfl F hga hr I rx ry h
    cases neg <;> exact z
theorem okL_view {c : Cf} {x : V} {d : D} (h : Vi G c x d) (k : okL d = true) : OkLV G.K x c.H := by
  cases d with
  | non => exact .inl h
  | bl b => exact .inr (.inl ⟨b, h⟩)
  | int i => exact .inr (.inr (.inl ⟨i, h⟩))
  | str y => exact .inr (.inr (.inr (.inl ⟨y, h⟩)))
  | tup ds => obtain ⟨a, xs, rfl, h, _⟩ := h; exact .inr (.inr (.inr (.inr (.inl ⟨a, xs, rfl, h⟩))))
  | tuk ds => obtain ⟨a, xs, rfl, h, _⟩ := h; exact .inr (.inr (.inr (.inr (.inl ⟨a, xs, rfl, h⟩))))
  | lst ds => obtain ⟨a, xs, rfl, h, _⟩ := h; exact .inr (.inr (.inr (.inr (.inr ⟨a, xs, rfl, .inl (.inl h)⟩))))
  | lsk ds => obtain ⟨a, xs, rfl, h, _⟩ := h; exact .inr (.inr (.inr (.inr (.inr ⟨a, xs, rfl, h⟩))))
  | _ => cases k
theorem spm_pure {st : S} {σ : L2.St} {c : Cf} {mf : MF} {vs : List V} {ds : List D} {b : Bool} {n : Nat} {Q : VK} (r : Rel G st σ c) (rp : RpA G c.F c.al vs ds) (hn : vs.length = n) (h : ∀ mu, mf ds mu = .ok (.fz (.bl b)) ⟨[], mu⟩)
    (q : ∀ c', Rel G st σ c' → GoE c c' → Q (.bl b) c'.H) : SpM G n mf vs c.H Q noE := by
  have z := call_t (W := noW) (n := n) (Q := Q) r rp hn (show wp (runF mf ds st) _ _ by
    unfold runF
    rw [h]
    intro v c' r' g' p'
    rw [prO_bl _ _ _ _ p']
    exact q c' r' g')
  obtain ⟨c2, ds, mu, e1, e2, e3, e4, e5, e6⟩ := z
  exact ⟨c2, ds, mu, e1, e2, e3, e4, e5, wp_mono e6 (fun _ _ q => q) fun x s q v d c' r' g' x' => q v d c' r' g' x'⟩
theorem eqP_ins {P : Program} {w : World} {base : Heap} {st : S} {σ : L2.St} {c : Cf} {x y : V} {dx dy : D} {b neg : Bool} {Q : VK} (F : EqTab P w G base gb k tbl) (r : Rel G st σ c) (rx : Rp G c.F c.al x dx) (ry : Rp G c.F c.al y dy) (e : eqP tbl dx dy = some b) (hi : (insOf dx).isSome = true ∨ (insOf dy).isSome = true)
    (q : ∀ c', Rel G st σ c' → GoE c c' → Q (.bl (b != neg)) c'.H) : rIns G tbl neg x y c.H Q := by
  unfold eqP at e
  split at e
  · rename_i cn ei
    obtain ⟨mp, e1, e2⟩ := bind_some e
    split at e2
    · rename_i ho
      obtain ⟨fs, rfl⟩ := insOf_some ei
      obtain ⟨C, _, _, _, hC, _⟩ := F.ex cn mp e1
      have rx0 := rx
      cases rx with
      | ins h kk nn hs =>
        rename_i a C' dx fs'
        rw [hC] at kk
        cases kk
        refine .inl (⟨cn, mp, C, a, dx, fs', e1, hC, rfl, r.sub _ _ h, ?_, spm_pure r (.cons rx0 (.cons ry .nil)) rfl (fun mu => F.run cn mp e1 _ _ _ mu e2) fun c' r' g' => ⟨b, rfl, q c' r' g'⟩⟩)
        unfold okR at ho
        split at ho
        · rename_i c2 ei2
          obtain ⟨fs2, rfl⟩ := insOf_some ei2
          cases h2 : tbl.lookup c2 with
          | none => rw [h2] at ho; cases ho
          | some mp2 =>
            obtain ⟨C2, _, _, _, hC2, _⟩ := F.ex c2 mp2 h2
            cases ry with
            | ins h3 k3 _ _ =>
              rw [hC2] at k3
              cases k3
              exact .inr ⟨c2, C2, _, _, _, by rw [h2]; rfl, hC2, rfl, r.sub _ _ h3⟩
        · exact .inl (okL_view (rp_view r ry) ho)
    · cases e2
  · split at e
    · rename_i cn ei
      obtain ⟨mp, e1, e2⟩ := bind_some e
      split at e2
      · rename_i ho
        obtain ⟨fs, rfl⟩ := insOf_some ei
        obtain ⟨C, _, _, _, hC, _⟩ := F.ex cn mp e1
        have ry0 := ry
        cases ry with
        | ins h kk nn hs =>
          rename_i a C' dx fs'
          rw [hC] at kk
          cases kk
          exact .inr (⟨cn, mp, C, a, dx, fs', e1, hC, rfl, r.sub _ _ h, okL_view (rp_view r rx) ho, spm_pure r (.cons ry0 (.cons rx .nil)) rfl (fun mu => F.run cn mp e1 _ _ _ mu e2) fun c' r' g' => ⟨b, rfl, q c' r' g'⟩⟩)
      · cases e2
    · simp_all
theorem eqP_ok {P : Program} {w : World} {base : Heap} {st : S} {σ : L2.St} {c : Cf} {x y : V} {dx dy : D} {b neg : Bool} {Q : VK} (F : EqTab P w G base gb k tbl) (r : Rel G st σ c) (rx : Rp G c.F c.al x dx) (ry : Rp G c.F c.al y dy) (e : eqP tbl dx dy = some b)
    (q : ∀ c', Rel G st σ c' → GoE c c' → Q (.bl (b != neg)) c'.H) : rOwnEq G tbl neg x y c.H Q := by
  by_cases hi : (insOf dx).isSome = true ∨ (insOf dy).isSome = true
  · exact .inr (eqP_ins F r rx ry e hi q)
  · rw [not_or, Bool.not_eq_true, Bool.not_eq_true, Option.isSome_eq_false_iff, Option.isSome_eq_false_iff, Option.isNone_iff_eq_none, Option.isNone_iff_eq_none] at hi
    unfold eqP at e
    rw [hi.1, hi.2] at e
    dsimp only at e
    refine .inl ?_
    cases neg with
    | false => exact d_eq (G := G) st σ c x y (.fz dx) (.fz dy) [] [] (.fz (.bl b)) Q r (.fz rx) (.fz ry) (by show (plainEq dx dy).map _ = _; rw [e]; rfl) (fun v c' r' g' p' => by rw [prO_bl _ _ _ _ p']; simpa using q c' r' g')
    | true => exact d_ne (G := G) st σ c x y (.fz dx) (.fz dy) [] [] (.fz (.bl (!b))) Q r (.fz rx) (.fz ry) (by show (plainEq dx dy).map _ = _; rw [e]; rfl) (fun v c' r' g' p' => by rw [prO_bl _ _ _ _ p']; simpa using q c' r' g')
variable {W : WX} {a b : Expr} {ma mb : M D} {pos : Pos}
theorem eqO_t {P : Program} {w : World} {base : Heap} {neg : Bool} (F : EqTab P w G base gb k tbl) {σ : L2.St} {H : Hp} {Q : VK} (q : tO G W (xEqO tbl neg ma mb) σ H Q) : tOp (rOwnEq G tbl neg) (tD G W ma) (tD G W mb) σ H Q := by
  show tD G W ma σ H fun x H1 => tD G W mb σ H1 fun y H2 => rOwnEq G tbl neg x y H2 Q
  refine q.seq bkO _ (fun dx x c c1 st1 r1 g1 p1 w => ?_)
  refine tG.seq1 bkO r1 w _ (fun dy y c2 st2 r2 g2 p2 w2 => ?_)
  obtain ⟨o, e1, q3⟩ := wp_ofO.mp w2
  obtain ⟨bb, e2, rfl⟩ := map_some e1
  exact eqP_ok F r2 (p1.mo g2.mo) p2 e2 fun c' r' g' => q3 _ c' r' g' (prO_fz (.bl _))
theorem x_eqO (neg : Bool) (hK : X.K = G.K) (hM : X.mg = G.mg) (F : EqTab X.prog X.w G X.base gb k tbl) (hga : gb = true → X.A.guards = some []) (hr : Room (k + 2) X.A) (ha : PE X a (tD G W ma)) (hb : PE X b (tD G W mb))
    (hm : behindInMarks (cmpOpB neg) b = false := by cases neg <;> rfl) : PE X (.Compare a [cmpOpB neg] [b] pos) (tO G W (xEqO tbl neg ma mb)) := (pe_cmpR (op_own neg hK hM F hga hr) ha hb hm).weak fun _ _ _ q => eqO_t F q
theorem xt_eqO (neg : Bool) (hK : X.K = G.K) (hM : X.mg = G.mg) (F : EqTab X.prog X.w G X.base gb k tbl) (hga : gb = true → X.A.guards = some []) (hr : Room (k + 2) X.A) (ha : PE X a (tD G W ma)) (hb : PE X b (tD G W mb))
    (hm : behindInMarks (cmpOpB neg) b = false) : PT X (.Compare a [cmpOpB neg] [b] pos) (tTs G W (toB (xEqO tbl neg ma mb))) := (pt_cmpR (op_own neg hK hM F hga hr) ha hb hm).weak fun σ H Q q => eqO_t F (test_t prO_bl q)
end
end L2.Tr

namespace GQ
open PySem PySem.SeqAt
open AutoSeq1 (wpAny_loadPart')
open MeetsSeq MeetsSeq2 MeetsSeq3 SeqRoads2
section
variable {prog : Program} {w : World} {A : Around} {R : Result → Shared → Prop}
def ListC (prog : Program) (w : World) (A : Around) (R : Result → Shared → Prop) (l : Addr) (x : Value) (N : Nat) (I : Nat → Shared → Prop) : Prop :=
  ∀ i s, I i s → ∃ (items : Array Value) (n : Nat) (dd : Option Addr) (sl : Array (Option Value)), s.heap.get? l = some { cls := .type "list", dict := dd, data := .seq items n, slots := sl } ∧ items.size = N ∧
    ∀ (h : i < items.size), wpAny (model prog w) A.in1 (eqBool items[i] x) (fun r s' => (r = true → R (.ok (.ret (.bool true))) s') ∧ (r = false → I (i + 1) s')) (fun e s' => R (.error e) s') s
theorem contains_loopG (l : Addr) (x : Value) (N : Nat) (I : Nat → Shared → Prop) (hl : ListC prog w A R l x N I)
    (fin : ∀ s, I N s → R (.ok (.ret (.bool false))) s) (k : Nat) :
    ∀ i : Nat, N - i = k → i ≤ N → ∀ s, I i s →
      wpAny (model prog w) A.in1 (Builtin.«list.__contains__.loop» ⟨[.ref l, x, rawInt i], []⟩) (FinOf prog w A R) (fun e s' => R (.error e) s') s := by
  induction k with
  | zero =>
    intro i hk hi s h
    obtain ⟨items, n, dd, sl, hl1, hs, _⟩ := hl _ _ h
    have hi' : i = N := by omega
    have hR := fin s (hi' ▸ h)
    obtain ⟨hp, g, d, tk, os⟩ := s
    wp_walk using wpAny_loadPart' hl1
    have hi1 : items[((i : Nat) : Int).toNat]? = none := by simp; omega
    rw [hi1]
    wp_walk
    exact hR
  | succ k ih =>
    intro i hk hi s h
    obtain ⟨items, n, dd, sl, hl1, hs, turn⟩ := hl _ _ h
    have hlt : i < items.size := by omega
    have ht := turn hlt
    obtain ⟨hp, g, d, tk, os⟩ := s
    wp_walk using wpAny_loadPart' hl1
    have hi1 : items[((i : Nat) : Int).toNat]? = some items[i] := by simp [hlt]
    have hc : ((i : Int) + 1) = ((i + 1 : Nat) : Int) := by push_cast; rfl
    rw [hi1]
    refine wpAny_bind (wpAny_mono ht (fun r s2 h2 => ?_) fun _ _ x => x)
    cases r with
    | true =>
      have hR := h2.1 rfl
      obtain ⟨hp2, g2, d2, tk2, os2⟩ := s2
      wp_walk
      exact hR
    | false =>
      have hrec := ih (i + 1) (by omega) (by omega) s2 (h2.2 rfl)
      obtain ⟨hp2, g2, d2, tk2, os2⟩ := s2
      wp_walk
      rw [hc]
      exact ⟨plainId_quiet plain_contains_loop _, codeAny_builtin entry_contains_loop (by
        rw [Around.under_plainId plain_contains_loop _]
        exact hrec)⟩
theorem list_containsG (l : Addr) (x : Value) (N : Nat) (I : Nat → Shared → Prop) (hl : ListC prog w A R l x N I)
    (fin : ∀ s, I N s → R (.ok (.ret (.bool false))) s) {s : Shared} (h : I 0 s) :
    wpAny (model prog w) A.in1 (Builtin.«list.__contains__» ⟨[.ref l, x], []⟩) (FinOf prog w A R) (fun e s' => R (.error e) s') s := by
  obtain ⟨items, n, dd, sl, hl1, _⟩ := hl _ _ h
  have hrec := contains_loopG (A := A) (R := R) l x N I hl fin _ 0 rfl (Nat.zero_le _) s h
  obtain ⟨hp, g, d, tk, os⟩ := s
  wp_walk using wpAny_loadPart' hl1
  exact ⟨plainId_quiet plain_contains_loop _, codeAny_builtin entry_contains_loop (by
    rw [Around.under_plainId plain_contains_loop _]
    exact hrec)⟩
theorem tuple_containsG (l : Addr) (items : Array Value) (n : Nat) (dd : Option Addr) (sl : Array (Option Value)) (x : Value) (I : Nat → Shared → Prop)
    (turn : ∀ i (h : i < items.size) s, I i s → wpAny (model prog w) A.in1 (eqBool items[i] x) (fun r s' => (r = true → R (.ok (.ret (.bool true))) s') ∧ (r = false → I (i + 1) s')) (fun e s' => R (.error e) s') s)
    (fin : ∀ s, I items.size s → R (.ok (.ret (.bool false))) s) {s : Shared} (hl1 : s.heap.get? l = some { cls := .type "tuple", dict := dd, data := .seq items n, slots := sl }) (h : I 0 s) :
    wpAny (model prog w) A.in1 (Builtin.«tuple.__contains__» ⟨[.ref l, x], []⟩) (FinOf prog w A R) (fun e s' => R (.error e) s') s := by
  have h0 := h
  obtain ⟨hp, g, d, tk, os⟩ := s
  wp_walk using wpAny_loadPart' hl1, wpAny_forIn_array _ (fun rest b s' => b.1 = none ∧ ∃ i, rest = items.toList.drop i ∧ i ≤ items.size ∧ I i s') _
  case turn =>
    rintro y rest b s' ⟨hb, i, hz, hi, hI⟩
    have hlt : i < items.size := by
      rcases Nat.lt_or_ge i items.toList.length with h' | h'
      · simpa using h'
      · rw [List.drop_of_length_le h'] at hz; cases hz
    rw [List.drop_eq_getElem_cons (by simpa using hlt)] at hz
    injection hz with hy hrest
    have hy : y = items[i] := by simpa using hy
    subst hy
    refine wpAny_bind (wpAny_mono (turn i hlt s' hI) (fun r s2 q2 => ?_) fun _ _ x => x)
    cases r with
    | true =>
      have hR := q2.1 rfl
      wp_walk
      exact hR
    | false =>
      have q3 := q2.2 rfl
      wp_walk
      exact ⟨rfl, i + 1, hrest, hlt, q3⟩
  case fin =>
    rintro ⟨b1, b2⟩ s' ⟨hb, i, hz, hi, hI⟩
    simp only at hb
    subst hb
    have hge : items.size ≤ i := by
      rcases Nat.lt_or_ge i items.toList.length with h' | h'
      · rw [List.drop_eq_getElem_cons h'] at hz; cases hz
      · simpa using h'
    have hi' : i = items.size := by omega
    have hR := fin s' (hi' ▸ hI)
    wp_walk
    exact hR
  case h =>
    exact ⟨rfl, 0, by simp, Nat.zero_le _, h0⟩
end
section
variable {prog : Program} {w : World} {A : Around} {E : Value → Shared → Prop} {s : Shared}
/-- x in c, by the container's own way -/
theorem in_here {T id : String} {B : Builtin} {c x : Value} {Q : Bool → Shared → Prop} (hT : s.TypeIs c T) (slot : Slot T "__contains__" id) (entry : entryFor table id = some B) (args : argsOk id ⟨[c, x], []⟩)
    (h : wpAny (model prog w) A.in1 (B ⟨[c, x], []⟩) (FinOf prog w A (wants (fun v s' => ∃ b, v = .bool b ∧ Q b s') E)) (fun e s' => wants (fun v s' => ∃ b, v = .bool b ∧ Q b s') E (.error e) s') s) :
    wpAny (model prog w) A (contains c x) Q E s :=
  wpAny_contains_slot hT slot (wpAny_mono (call_here slot hT entry args h) (fun v s' hv => by
    obtain ⟨b, rfl, hq⟩ := hv
    exact wpAny_truthy_bool hq) fun _ _ e => e)
theorem eqBool_neL {l : Addr} {v : Value} {Q : Bool → Shared → Prop} (hne : (Value.ref l == v) = false) (h : wpAny (model prog w) A (richCompare .Eq (.ref l) v) (fun v s' => ∃ r, v = .bool r ∧ Q r s') E s) : wpAny (model prog w) A (eqBool (.ref l) v) Q E s := by
  unfold eqBool
  refine wpAny_holding ?_
  refine wpAny_ite_split (fun hab => absurd hab (by rw [hne]; decide)) (fun _ => ?_)
  refine wpAny_bind (wpAny_mono h (fun v s' hv => ?_) fun _ _ x => x)
  obtain ⟨r, rfl, q⟩ := hv
  exact wpAny_truthy_bool q
theorem eqBool_neR {l : Addr} {u : Value} {Q : Bool → Shared → Prop} (hne : (u == Value.ref l) = false) (h : wpAny (model prog w) A (richCompare .Eq u (.ref l)) (fun v s' => ∃ r, v = .bool r ∧ Q r s') E s) : wpAny (model prog w) A (eqBool u (.ref l)) Q E s := by
  cases u <;> (
  unfold eqBool
  refine wpAny_holding ?_
  refine wpAny_ite_split (fun hab => absurd hab (by rw [hne]; decide)) (fun _ => ?_)
  refine wpAny_bind (wpAny_mono h (fun v s' hv => ?_) fun _ _ x => x)
  obtain ⟨r, rfl, q⟩ := hv
  exact wpAny_truthy_bool q)
end
end GQ
namespace L2.Tr
open PySem PySem.Spec PyProof.Rows L2 L2.Pc
section
variable {X : Cx} {G : Gi} {gb : Bool} {k : Nat} {tbl : ETab}
/-- an item y against x, as `in` compares them -/
def itP (tbl : ETab) (y x : D) : Option Bool := if (insOf y).isSome = true ∨ (insOf x).isSome = true then eqP tbl y x else if flatD y = true ∧ flatD x = true then some (eqF y x) else none
def inPL (tbl : ETab) (x : D) : List D → Option Bool
  | [] => some false
  | y :: ys => (itP tbl y x).bind fun b => if b = true then some true else inPL tbl x ys
theorem rp_flat {c : Cf} {st : S} {σ : L2.St} {v : V} {d : D} (r : Rel G st σ c) (h : Rp G c.F c.al v d) (k : flatD d = true) : flatV v = true := flat_view (rp_view r h) k
/-- an object is not an instance and a list or tuple -/
theorem no_both {pins : List (Addr × Obj)} {s : Shared} {st : S} {σ τ : L2.St} {c : Cf} {a : Addr} {dx dy : D} (hK : X.K = G.K) (I : Inv X pins σ c.H s) (r : Rel G st τ c) (rx : Rp G c.F c.al (.ref a) dx) (hx : (insOf dx).isSome = true) (ry : Rp G c.F c.al (.ref a) dy) (hy : okL dy = true) : False := by
  obtain ⟨cn, hc⟩ := Option.isSome_iff_exists.mp hx
  obtain ⟨fs, rfl⟩ := insOf_some hc
  cases rx with
  | ins h kk nn hs =>
    obtain ⟨mA, J, _⟩ := ins_get I.hok (r.sub _ _ h)
    have jo := J.obj
    rcases okL_view (rp_view r ry) hy with h | ⟨_, h⟩ | ⟨_, h⟩ | ⟨_, h⟩ | ⟨b, xs, h, q⟩ | ⟨b, xs, h, q⟩
    · cases h
    · cases h
    · cases h
    · cases h
    · cases h
      rw [← hK] at q
      obtain ⟨its, _, ⟨o, ho, hcl, _⟩, _⟩ := I.tuple q
      rw [jo] at ho
      cases ho
      cases hcl
    · cases h
      rw [← hK] at q
      obtain ⟨its, _, ⟨o, n, ho, hcl, _⟩, _⟩ := I.list q
      rw [jo] at ho
      cases ho
      cases hcl
theorem itP_ok {A : Around} {pins : List (Addr × Obj)} {s : Shared} {st : S} {σ τ : L2.St} {c : Cf} {x y : V} {dx dy : D} {u v : Value} {b : Bool} (hK : X.K = G.K) (hM : X.mg = G.mg) (hfr : A.frames = X.A.frames) (F : EqTab X.prog X.w G X.base gb k tbl)
    (hga : gb = true → A.guards = some []) (hr : Room (k + 2) A) (I : Inv X pins σ c.H s) (r : Rel G st τ c) (rx : Rp G c.F c.al x dx) (ry : Rp G c.F c.al y dy) (vx : RelV x u) (vy : RelV y v) (e : itP tbl dx dy = some b) :
    wpAny (model X.prog X.w) A (eqBool u v) (fun r s' => r = b ∧ ∃ c', Inv X pins σ c'.H s' ∧ Rel G st τ c' ∧ GoE c c') X.xe s := by
  unfold itP at e
  split at e
  · rename_i hi
    have main : (u == v) = false → wpAny (model X.prog X.w) A (richCompare .Eq u v) (fun v s' => ∃ r, v = .bool r ∧ r = b ∧ ∃ c', Inv X pins σ c'.H s' ∧ Rel G st τ c' ∧ GoE c c') X.xe s := fun _ => by
      have z := rc_own (A := A) false hK hM hfr F hga hr I vx vy (eqP_ins (neg := false) (Q := fun v H' => v = .bl b ∧ ∃ c', c'.H = H' ∧ Rel G st τ c' ∧ GoE c c') F r rx ry e hi fun c' r' g' => ⟨by simp, c', rfl, r', g'⟩)
      refine wpAny_mono z (fun w s' q => ?_) fun _ _ q => q
      obtain ⟨w', H', I', rw', e1, c', rfl, r', g'⟩ := q
      subst e1
      cases (show w = Value.bool b from rw')
      exact ⟨b, rfl, rfl, c', I', r', g'⟩
    have same : (u == v) = true → (∃ a, x = .ref a ∨ y = .ref a) → ∃ a, u = .ref a ∧ v = .ref a ∧ b = true := fun huv ha => by
      have euv := eq_of_beq huv
      subst euv
      obtain ⟨a, ha⟩ := ha
      have hxy : x = .ref a ∧ y = .ref a ∧ u = .ref a := by
        rcases ha with rfl | rfl
        · cases (show u = Value.ref a from vx)
          refine ⟨rfl, ?_, rfl⟩
          cases y <;> first | (cases (show Value.ref a = _ from vy); rfl) | (obtain ⟨t, z⟩ := _root_.id vy; cases z) | cases vy
        · cases (show u = Value.ref a from vy)
          refine ⟨?_, rfl, rfl⟩
          cases x <;> first | (cases (show Value.ref a = _ from vx); rfl) | (obtain ⟨t, z⟩ := _root_.id vx; cases z) | cases vx
      obtain ⟨rfl, rfl, rfl⟩ := hxy
      refine ⟨a, rfl, rfl, ?_⟩
      unfold eqP at e
      split at e
      · obtain ⟨mp, e1, e2⟩ := bind_some e
        split at e2
        · rename_i q1 q2
          cases hy : insOf dy with
          | some c2 => exact F.same _ mp e1 _ _ _ _ _ _ (by rw [q1]; rfl) (by rw [hy]; rfl) rx ry e2
          | none =>
            unfold okR at q2
            rw [hy] at q2
            exact (no_both hK I r rx (by rw [q1]; rfl) ry q2).elim
        · cases e2
      · split at e
        · obtain ⟨mp, e1, e2⟩ := bind_some e
          split at e2
          · rename_i q1 q3
            exact (no_both hK I r ry (by simp_all) rx q3).elim
          · cases e2
        · simp_all
    have done : ∀ a, wpAny (model X.prog X.w) A (eqBool (.ref a) (.ref a)) (fun r s' => r = true ∧ ∃ c', Inv X pins σ c'.H s' ∧ Rel G st τ c' ∧ GoE c c') X.xe s := fun a =>
      SeqAt.EqAt.same (A := A) (s := s) (.ref a) X.prog X.w X.xe _ ⟨rfl, c, I, r, GoE.refl r⟩
    have isref : (∃ a, x = .ref a) ∨ ∃ a, y = .ref a := by
      rcases hi with hi | hi
      · obtain ⟨cn, hc⟩ := Option.isSome_iff_exists.mp hi
        obtain ⟨fs, rfl⟩ := insOf_some hc
        cases rx; exact .inl ⟨_, rfl⟩
      · obtain ⟨cn, hc⟩ := Option.isSome_iff_exists.mp hi
        obtain ⟨fs, rfl⟩ := insOf_some hc
        cases ry; exact .inr ⟨_, rfl⟩
    cases huv : u == v with
    | true =>
      obtain ⟨a, rfl, rfl, rfl⟩ := same huv (isref.elim (fun ⟨a, h⟩ => ⟨a, .inl h⟩) fun ⟨a, h⟩ => ⟨a, .inr h⟩)
      exact done a
    | false =>
      rcases isref with ⟨a, rfl⟩ | ⟨a, rfl⟩
      · cases (show u = Value.ref a from vx)
        exact GQ.eqBool_neL huv (main huv)
      · cases (show v = Value.ref a from vy)
        exact GQ.eqBool_neR huv (main huv)
  · split at e
    · rename_i hf
      cases e
      have q := eqAt_V (A := A) (s := s) vx vy (rp_flat r rx hf.1) (rp_flat r ry hf.2)
      rw [eqF_view (rp_view r rx) (rp_view r ry) hf.1 hf.2] at q
      exact q X.prog X.w X.xe _ ⟨rfl, c, I, r, GoE.refl r⟩
    · cases e
def inPT (tbl : ETab) (x y : D) : Option Bool := (itemsD y).bind (inPL tbl x)
def rInT (G : Gi) (tbl : ETab) (neg : Bool) : R2 := fun x y H Q => rInM G.K neg x y H Q ∨ ∃ st τ c dx dy ds b, c.H = H ∧ Rel G st τ c ∧ Rp G c.F c.al x dx ∧ Rp G c.F c.al y dy ∧ itemsD dy = some ds ∧ inPL tbl dx ds = some b ∧
  ∀ c', Rel G st τ c' → GoE c c' → Q (.bl (b != neg)) c'.H
def inOpB (neg : Bool) : CmpOp := if neg = true then .NotIn else .In
theorem in_turn {A : Around} {pins : List (Addr × Obj)} {st : S} {σ τ : L2.St} {c c1 : Cf} {x : V} {dx : D} {u : Value} {b : Bool} {xs : List V} {ds : List D} {its : List Value} {s' : Shared} {R : Bool → Shared → Prop} {J : Nat → Shared → Prop} {i : Nat}
    (hK : X.K = G.K) (hM : X.mg = G.mg) (hfr : A.frames = X.A.frames) (F : EqTab X.prog X.w G X.base gb k tbl) (hga : gb = true → A.guards = some []) (hr : Room (k + 2) A) (I1 : Inv X pins σ c1.H s') (r1 : Rel G st τ c1) (g1 : GoE c c1)
    (rx : Rp G c.F c.al x dx) (rs : RpA G c.F c.al xs ds) (vx : RelV x u) (vs : Vals xs its) (h : i < its.toArray.size) (e : inPL tbl dx (ds.drop i) = some b)
    (hR : ∀ c' s', Inv X pins σ c'.H s' → Rel G st τ c' → GoE c c' → b = true → R true s') (hJ : ∀ c' s', Inv X pins σ c'.H s' → Rel G st τ c' → GoE c c' → inPL tbl dx (ds.drop (i + 1)) = some b → J (i + 1) s') :
    wpAny (model X.prog X.w) A (eqBool its.toArray[i] u) (fun r s' => (r = true → R true s') ∧ (r = false → J (i + 1) s')) X.xe s' := by
  have h1 : i < its.length := by simpa using h
  have k1 : i < xs.length := by rw [vs.length]; exact h1
  have k2 : i < ds.length := by rw [← rs.len]; exact k1
  obtain ⟨y, hy, ry⟩ := rs.get (List.getElem?_eq_getElem k2)
  obtain ⟨w, hw, rw'⟩ := vs.get hy
  have ew : its.toArray[i] = w := by
    have : its[i]? = some its.toArray[i] := by rw [List.getElem?_eq_getElem h1]; simp
    rw [this] at hw
    exact Option.some.inj hw
  rw [ew]
  rw [List.drop_eq_getElem_cons k2] at e
  unfold inPL at e
  obtain ⟨b1, e1, e2⟩ := bind_some e
  refine wpAny_mono (itP_ok hK hM hfr F hga hr I1 r1 (ry.mo g1.mo) (rx.mo g1.mo) rw' vx e1) (fun r s2 q => ?_) fun _ _ q => q
  obtain ⟨rfl, c2, I2, r2, g2⟩ := q
  refine ⟨fun er => ?_, fun er => ?_⟩
  · rw [er, if_pos rfl] at e2
    exact hR c2 s2 I2 r2 (g1.trans g2) (Option.some.inj e2).symm
  · rw [er, if_neg (by decide)] at e2
    exact hJ c2 s2 I2 r2 (g1.trans g2) e2
theorem rp_items {F : Hp} {al : List Addr} {v : V} {d : D} {ds : List D} (h : Rp G F al v d) (e : itemsD d = some ds) : ∃ p xs, v = .ref p ∧ ((∀ F' al', Mo F F' al al' → SqL G.K F' p xs) ∨ ∀ F' al', Mo F F' al al' → SqT G.K F' p xs) ∧ RpA G F al xs ds := by
  cases h with
  | tup h hs => cases e; exact ⟨_, _, rfl, .inr fun F' al' m => .inl (.inl (m.mF _ _ h rfl)), hs⟩
  | tuk h hs => cases e; exact ⟨_, _, rfl, .inr fun F' al' m => sqT_mr m.mR h, hs⟩
  | lst h hs => cases e; exact ⟨_, _, rfl, .inl fun F' al' m => .inl (.inl (m.mF _ _ h rfl)), hs⟩
  | lsk h hs => cases e; exact ⟨_, _, rfl, .inl fun F' al' m => sqL_mr m.mR h, hs⟩
  | _ => cases e
theorem op_inT (neg : Bool) (hK : X.K = G.K) (hM : X.mg = G.mg) (F : EqTab X.prog X.w G X.base gb k tbl) (hga : gb = true → X.A.guards = some []) (hr : Room (k + 3) X.A) : OpR X (compareOp (inOpB neg)) (rInT G tbl neg) := by
  intro pins s σ H x y u v Q I rx ry h
  rcases h with h | ⟨st, τ, c, dx, dy, ds, b, rfl, r, px, py, ei, e, q⟩
  · cases neg
    · exact k_in (K := G.K) hK pins s σ H x y u v Q I rx ry h
    · exact k_notIn (K := G.K) hK pins s σ H x y u v Q I rx ry h
  · have goal : wpAny (model X.prog X.w) X.A (contains v u) (fun r s' => r = b ∧ ∃ c', Inv X pins σ c'.H s' ∧ Rel G st τ c' ∧ GoE c c') X.xe s → wpAny (model X.prog X.w) X.A (compareOp (inOpB neg) u v) (EP X pins σ Q) X.xe s := fun z => by
      cases neg
      · show wpAny _ X.A (do return Value.bool (← contains v u)) _ _ s
        refine wpAny_bind (wpAny_mono z (fun r s' ⟨e, c', I', r', g'⟩ => wpAny_pure ?_) fun _ _ q => q)
        subst e
        exact ⟨.bl r, c'.H, I', rfl, by simpa using q c' r' g'⟩
      · show wpAny _ X.A (do return Value.bool (!(← contains v u))) _ _ s
        refine wpAny_bind (wpAny_mono z (fun r s' ⟨e, c', I', r', g'⟩ => wpAny_pure ?_) fun _ _ q => q)
        subst e
        exact ⟨.bl (!r), c'.H, I', rfl, by simpa using q c' r' g'⟩
    refine goal ?_
    obtain ⟨p, xs, rfl, hq, rs⟩ := rp_items py ei
    cases (show v = Value.ref p from ry)
    rcases hq with hq | hq
    · have hF : ∀ c', Rel G st τ c' → GoE c c' → SqL X.K c'.H p xs := fun c' r' g' => by rw [hK]; exact sqL_mo r'.sub (hq _ _ g'.mo)
      obtain ⟨its0, v0, ⟨⟨cls, dd, data, sl⟩, n, ho, hc, hd, hdt⟩, _⟩ := I.list (hF c r (GoE.refl r))
      simp only at hc hd hdt
      subst hc hd hdt
      refine GQ.in_here ⟨_, ho, rfl⟩ PySem.F.slot_list_contains PySem.F.entry_list_contains (PySem.F.args_list_contains_2 _ _) ?_
      refine GQ.list_containsG (A := X.A) (R := wants (fun v s' => ∃ r, v = .bool r ∧ r = b ∧ ∃ c', Inv X pins σ c'.H s' ∧ Rel G st τ c' ∧ GoE c c') X.xe) p u xs.length
        (fun i s' => ∃ c', Inv X pins σ c'.H s' ∧ Rel G st τ c' ∧ GoE c c' ∧ inPL tbl dx (ds.drop i) = some b) (fun i s' hi => ?_) (fun s' hi => ?_) ⟨c, I, r, GoE.refl r, e⟩
      · obtain ⟨c1, I1, r1, g1, e1⟩ := hi
        obtain ⟨its, vs, ⟨⟨cls, dd, data, sl⟩, n, ho, hc, hd, hdt⟩, _⟩ := I1.list (hF c1 r1 g1)
        simp only at hc hd hdt
        subst hc hd hdt
        refine ⟨its.toArray, n, none, sl, ho, by rw [List.size_toArray, vs.length], fun h => ?_⟩
        exact in_turn (A := X.A.in1) (J := fun i s' => ∃ c', Inv X pins σ c'.H s' ∧ Rel G st τ c' ∧ GoE c c' ∧ inPL tbl dx (ds.drop i) = some b) hK hM rfl F hga (hr.in1) I1 r1 g1 px rs rx vs h e1 (R := fun _ s' => wants (fun v s' => ∃ r, v = .bool r ∧ r = b ∧ ∃ c', Inv X pins σ c'.H s' ∧ Rel G st τ c' ∧ GoE c c') X.xe (.ok (.ret (.bool true))) s')
          (fun c' s' I' r' g' eb => ⟨true, rfl, eb.symm, c', I', r', g'⟩) (fun c' s' I' r' g' e' => ⟨c', I', r', g', e'⟩)
      · obtain ⟨c1, I1, r1, g1, e1⟩ := hi
        rw [rs.len, List.drop_length] at e1
        exact ⟨false, rfl, Option.some.inj e1, c1, I1, r1, g1⟩
    · have hF : SqT X.K c.H p xs := by rw [hK]; exact sqT_mo r.sub (hq _ _ (Mo.refl _ _))
      obtain ⟨its, vs, ⟨⟨cls, dd, data, sl⟩, ho, hc, n, hd⟩, _⟩ := I.tuple hF
      simp only at hc hd
      subst hc hd
      refine GQ.in_here ⟨_, ho, rfl⟩ PySem.F.slot_tuple_contains PySem.F.entry_tuple_contains (PySem.F.args_tuple_contains_2 _ _) ?_
      refine GQ.tuple_containsG (A := X.A) (R := wants (fun v s' => ∃ r, v = .bool r ∧ r = b ∧ ∃ c', Inv X pins σ c'.H s' ∧ Rel G st τ c' ∧ GoE c c') X.xe) p its.toArray n dd sl u
        (fun i s' => ∃ c', Inv X pins σ c'.H s' ∧ Rel G st τ c' ∧ GoE c c' ∧ inPL tbl dx (ds.drop i) = some b) (fun i h s' hi => ?_) (fun s' hi => ?_) ho ⟨c, I, r, GoE.refl r, e⟩
      · obtain ⟨c1, I1, r1, g1, e1⟩ := hi
        exact in_turn (A := X.A.in1) (J := fun i s' => ∃ c', Inv X pins σ c'.H s' ∧ Rel G st τ c' ∧ GoE c c' ∧ inPL tbl dx (ds.drop i) = some b) hK hM rfl F hga (hr.in1) I1 r1 g1 px rs rx vs h e1 (R := fun _ s' => wants (fun v s' => ∃ r, v = .bool r ∧ r = b ∧ ∃ c', Inv X pins σ c'.H s' ∧ Rel G st τ c' ∧ GoE c c') X.xe (.ok (.ret (.bool true))) s')
          (fun c' s' I' r' g' eb => ⟨true, rfl, eb.symm, c', I', r', g'⟩) (fun c' s' I' r' g' e' => ⟨c', I', r', g', e'⟩)
      · obtain ⟨c1, I1, r1, g1, e1⟩ := hi
        rw [List.size_toArray, ← vs.length, rs.len, List.drop_length] at e1
        exact ⟨false, rfl, Option.some.inj e1, c1, I1, r1, g1⟩
variable {W : WX} {a b : Expr} {ma mb : M D} {pos : Pos}
def xInO (tbl : ETab) (neg : Bool) (ma mb : M D) : M O := bnd ma fun x => bnd mb fun y => ofO ((inPT tbl x y).map fun b => .fz (.bl (b != neg)))
@[simp] theorem xInO_app (tbl : ETab) (neg : Bool) (ma mb : M D) (s : S) : xInO tbl neg ma mb s = (ma s).bind fun x s1 => (mb s1).bind fun y => ofO ((inPT tbl x y).map fun b => .fz (.bl (b != neg))) := rfl
theorem inO_t {neg : Bool} {σ : L2.St} {H : Hp} {Q : VK} (q : tO G W (xInO tbl neg ma mb) σ H Q) : tOp (rInT G tbl neg) (tD G W ma) (tD G W mb) σ H Q := by
  show tD G W ma σ H fun x H1 => tD G W mb σ H1 fun y H2 => rInT G tbl neg x y H2 Q
  refine q.seq bkO _ (fun dx x c c1 st1 r1 g1 p1 w => ?_)
  refine tG.seq1 bkO r1 w _ (fun dy y c2 st2 r2 g2 p2 w2 => ?_)
  obtain ⟨o, e1, q3⟩ := wp_ofO.mp w2
  obtain ⟨bb, e2, rfl⟩ := map_some e1
  obtain ⟨ds, e3, e4⟩ := bind_some e2
  exact .inr ⟨st2, σ, c2, dx, dy, ds, bb, rfl, r2, p1.mo g2.mo, p2, e3, e4, fun c' r' g' => q3 _ c' r' g' (prO_fz (.bl _))⟩
theorem x_inO (neg : Bool) (hK : X.K = G.K) (hM : X.mg = G.mg) (F : EqTab X.prog X.w G X.base gb k tbl) (hga : gb = true → X.A.guards = some []) (hr : Room (k + 3) X.A) (ha : PE X a (tD G W ma)) (hb : PE X b (tD G W mb))
    (hm : behindInMarks (inOpB neg) b = false) : PE X (.Compare a [inOpB neg] [b] pos) (tO G W (xInO tbl neg ma mb)) := (pe_cmpR (op_inT neg hK hM F hga hr) ha hb hm).weak fun _ _ _ q => inO_t q
theorem xt_inO (neg : Bool) (hK : X.K = G.K) (hM : X.mg = G.mg) (F : EqTab X.prog X.w G X.base gb k tbl) (hga : gb = true → X.A.guards = some []) (hr : Room (k + 3) X.A) (ha : PE X a (tD G W ma)) (hb : PE X b (tD G W mb))
    (hm : behindInMarks (inOpB neg) b = false) : PT X (.Compare a [inOpB neg] [b] pos) (tTs G W (toB (xInO tbl neg ma mb))) := (pt_cmpR (op_inT neg hK hM F hga hr) ha hb hm).weak fun σ H Q q => inO_t (test_t prO_bl q)
end
end L2.Tr

namespace L2.Tr
open PySem PySem.Spec PyProof.Rows L2 L2.Pc
/-! ### f-strings -/
section
variable {X : Cx} {G : Gi} {W : WX} {e : Expr} {es : List Expr} {m : M O} {ms : List (M O)} {pos : Pos}
def fmtD : D → Option O
  | .str y => if y.length ≤ 16777216 then some (.fz (.str y)) else none
  | .int i => if i.natAbs.log2 < 1920 then some (.fz (.str (toString i))) else none
  | _ => none
def rFmt : V → Hp → VK → Prop := fun x H1 Q => (∃ y : Str, x = .str y ∧ y.length ≤ sizeLine ∧ Q (.str y) H1) ∨ ∃ i : Int, x = .int i ∧ i.natAbs.log2 < 1920 ∧ Q (.str (toString i)) H1
theorem d_fmt : UnD G rFmt fmtD := by
  intro st σ c x ox fx o Q r t e q
  have v := own_view r t
  unfold fmtD at e
  split at e
  · rename_i y h
    rw [h] at v
    split at e
    · rename_i hl
      cases e
      exact .inl ⟨y, v, by rw [szl]; exact hl, fin r (.str y) q⟩
    · cases e
  · rename_i i h
    rw [h] at v
    split at e
    · rename_i hl
      cases e
      exact .inr ⟨i, v, hl, fin r (.str _) q⟩
    · cases e
  · cases e
theorem x_fmt (he : PE X e (tLa G W m)) : PE X (.FormattedValue e (-1) none pos) (tO G W (xUn fmtD m)) := (pe_fmt he).weak fun _ _ _ q => un_t d_fmt q
def jsM : List (M O) → Str → M O
  | [], acc => ret (.fz (.str acc))
  | m :: ms, acc => bnd m fun o => match o with
    | .fz (.str y) => if (acc ++ y).length ≤ 16777216 then jsM ms (acc ++ y) else fun _ => .no
    | _ => fun _ => .no
inductive PJm (X : Cx) (G : Gi) (W : WX) : List Expr → List (M O) → Prop where
  | nil : PJm X G W [] []
  | cons {e : Expr} {m : M O} {es : List Expr} {ms : List (M O)} : PE X e (tO G W m) → PJm X G W es ms → PJm X G W (e :: es) (m :: ms)
theorem PJm.pj (h : PJm X G W es ms) : PJ X es (ms.map (tO G W)) := by
  induction h with
  | nil => exact .nil
  | cons h _ ih => exact .cons h ih
theorem js_t : ∀ {ms : List (M O)} {acc : Str} {σ : L2.St} {H : Hp} {Q : VK}, tO G W (jsM ms acc) σ H Q → tJs (ms.map (tO G W)) acc σ H fun out H1 => Q (.str out) H1
  | [], acc, σ, H, Q, q => by
    obtain ⟨c, st, rfl, r, w⟩ := q
    exact w _ c r (GoE.refl r) (prO_fz (.str acc))
  | m :: ms, acc, σ, H, Q, q => by
    show tO G W m σ H fun x H1 => ∃ y : Str, x = .str y ∧ (acc ++ y).length ≤ sizeLine ∧ tJs (ms.map (tO G W)) (acc ++ y) σ H1 fun out H1 => Q (.str out) H1
    refine q.seq bkO _ (fun o v c c1 st1 r1 g1 p1 w => ?_)
    split at w
    · rename_i y
      split at w
      · rename_i hl
        obtain ⟨fp, t, _, _⟩ := p1
        cases t with
        | fz t =>
          cases t
          exact ⟨y, rfl, by rw [szl]; exact hl, js_t ⟨c1, st1, rfl, r1, w⟩⟩
      · exact w.elim
    · exact w.elim
def xJoin (ms : List (M O)) : M O := jsM ms Str.empty
theorem x_joined {v1 v2 : Expr} {rest : List Expr} (h : PJm X G W (v1 :: v2 :: rest) ms) : PE X (.JoinedStr (v1 :: v2 :: rest) pos) (tO G W (xJoin ms)) := (pe_joined h.pj).weak fun _ _ _ q => js_t q
end
/-! ### isinstance with own classes -/
def kindsI : List String := ["NoneType", "bool", "int", "str", "tuple", "list", "dict"]
def kindsJ : List String := ["str", "int", "bool", "tuple", "list", "dict"]
structure IsT (G : Gi) (cls : List Str) : Prop where
  ex : ∀ c, cls.contains c = true → ∃ C, G.mg c = some (.ref C) ∧ Cls G.K C ∧ PySem.W.findIn G.K (.ref C) "__class__" = some (some (.builtin "object.__class__")) ∧
    PySem.W.specialIn G.K (.builtin "object.__class__") "__get__" = some (some (.builtin "getset_descriptor.__get__")) ∧ PySem.W.takesIn G.K (.builtin "object.__class__") = some true ∧ PySem.W.mroIn G.K C (.type "object") = some true ∧
    (∀ k ∈ kindsI, PySem.W.kitOne G.K (.type k) (.ref C) = some false) ∧ ∀ n ∈ kindsJ, PySem.W.kitOne G.K (.ref C) (.type n) = some false
  cross : ∀ c c' C C', cls.contains c = true → cls.contains c' = true → G.mg c = some (.ref C) → G.mg c' = some (.ref C') → PySem.W.kitOne G.K (.ref C) (.ref C') = some (decide (c = c'))
def isiP (cls : List Str) (x y : D) : Option Bool := match insOf x, y with
  | some c, .fn c' => if cls.contains c = true ∧ cls.contains c' = true then some (decide (c = c')) else none
  | some c, .ty n => if cls.contains c = true ∧ kindsJ.contains n = true then some false else none
  | none, .fn c' => if cls.contains c' = true ∧ (clsName x).isSome = true then some false else none
  | none, .ty n => (clsName x).bind fun k => kindIs k n
  | _, _ => none
def isiO (cls : List Str) : List D → Option O
  | [x, y] => (isiP cls x y).map fun b => .fz (.bl b)
  | _ => none
theorem kinds_mem {d : D} {k : String} (e : clsName d = some k) : k ∈ kindsI := by
  cases d <;> cases e <;> simp [kindsI]
theorem d_isiO {G : Gi} {cls : List Str} (T : IsT G cls) : CnD G (rIsi G.K) (isiO cls) := by
  intro st σ c vs ds o Q r rv e q
  unfold isiO at e
  split at e
  · rename_i x y
    obtain ⟨b, h1, rfl⟩ := map_some e
    cases rv with
    | cons h hs =>
      cases hs with
      | cons h' hs' =>
        cases hs'
        unfold isiP at h1
        split at h1
        · rename_i cn c' hi
          split at h1
          · rename_i hc
            cases h1
            obtain ⟨fs, rfl⟩ := insOf_some hi
            obtain ⟨C, k1, k2, k3, k4, k5, k6, _, _⟩ := T.ex _ hc.1
            cases h with
            | ins h kk nn hs =>
              rw [k1] at kk
              cases kk
              cases h' with
              | fn h' => exact ⟨_, _, _, _, _, rfl, .own _, .base (.ins (r.sub _ _ h) k2 k3 k4 k5 k6), T.cross _ _ _ _ hc.1 hc.2 k1 h', fin r (.bl _) q⟩
          · cases h1
        · rename_i cn n hi
          split at h1
          · rename_i hc
            cases h1
            obtain ⟨fs, rfl⟩ := insOf_some hi
            obtain ⟨C, k1, k2, k3, k4, k5, k6, _, k8⟩ := T.ex _ hc.1
            cases h with
            | ins h kk nn hs =>
              rw [k1] at kk
              cases kk
              cases h'
              exact ⟨_, .ty n, _, _, _, rfl, .ty _, .base (.ins (r.sub _ _ h) k2 k3 k4 k5 k6), k8 n (by simpa using hc.2), fin r (.bl _) q⟩
          · cases h1
        · rename_i c' hi
          split at h1
          · rename_i hc
            cases h1
            obtain ⟨k, hk⟩ := Option.isSome_iff_exists.mp hc.2
            obtain ⟨C, k1, _, _, _, _, _, k7, _⟩ := T.ex _ hc.1
            cases h' with
            | fn h' =>
              rw [k1] at h'
              cases h'
              exact ⟨_, _, _, _, _, rfl, .own _, rp_ty r h hk, k7 k (kinds_mem hk), fin r (.bl _) q⟩
          · cases h1
        · rename_i n hi
          obtain ⟨k, h2, h3⟩ := bind_some h1
          cases h'
          exact ⟨_, .ty n, _, _, b, rfl, .ty _, rp_ty r h h2, kit_ty (kind_kit h2 h3), fin r (.bl _) q⟩
        · cases h1
  · cases e
/-! ### x.extend(e) -/
section
variable {X : Cx} {G : Gi} {W : WX} {e : Expr} {me : M O} {pos apos cpos : Pos} {i : Nat}
def sExt (i : Nat) (me : M O) : M Fl := fun s => match getP s i with
  | some (.lst _) => (me s).bind fun o s1 => match getP s1 i, o.toD with
    | some (.lst xs), .lst ds => if xs.length + ds.length ≤ 16777216 then .ok .nx (putP s1 i (.lst (xs ++ ds))) else .no
    | _, _ => .no
  | _ => .no
theorem ext_t {D' : Ends} {σ : L2.St} {H : Hp} (q : tS G W (sExt i me) D' σ H) : tDrop (tBM G.K "list" rExtend (tVar i) (tCons (tLa G W me) tNil)) D' σ H := by
  obtain ⟨c, st, rfl, r, w⟩ := q
  unfold sExt at w
  split at w
  · rename_i xs0 e0
    obtain ⟨v, f2, q1, q2, _⟩ := place r e0
    obtain ⟨a, vs, rfl, rfl, hv, rv⟩ := own_lst q2
    refine ⟨.ref a, q1, .inl ⟨rfl, _, .inl (.inl hv)⟩, ?_⟩
    show tLa G W me σ c.H fun x H1 => rExtend (.ref a) [x] H1 fun _ H2 => D'.nx σ H2
    refine ⟨c, st, rfl, r, wp_mono (wp_bind.mp w) (fun o st1 w1 v c1 r1 g1 p1 => ?_) (fun x s q v d c' r' g' x' => q σ v d c' r' g'.toGo x')⟩
    split at w1
    · rename_i xs ds e1 e2
      split at w1
      · rename_i hl
        obtain ⟨v', f2', q1', q2', hp⟩ := place r1 e1
        rw [q1] at q1'
        cases q1'
        obtain ⟨a', vs', ea, rfl, hv', rv'⟩ := own_lst q2'
        cases ea
        obtain ⟨fp, t⟩ := p1
        have vw := own_view r1 t
        rw [e2] at vw
        obtain ⟨b, zs, rfl, hb, rz⟩ := vw
        obtain ⟨r2, g2⟩ := put_lst (o := .lst xs) hp (rv'.app rz)
        exact ⟨a, b, vs', zs, rfl, rfl, hv', hb, by rw [szl, rv'.len, rz.len]; exact hl, w1 σ _ r2 (g1.toGo.trans g2)⟩
      · exact w1.elim
    · exact w1.elim
  · exact w.elim
theorem s_ext {x : Str} {px : Pos} (hK : X.K = G.K) (hN : X.N[i]? = some x) (hv : Vis X.env.scope x) (he : PE X e (tLa G W me)) (hd : (x == ("__debug__" : Str)) = false := by decide) (hcd : (x == ("__classdict__" : Str)) = false := by decide)
    (hs : swapsWith (.Call (.Attribute (.Name x px) "extend" apos) [e] [] cpos) none pos.line X.env = pure false := by rfl)
    (hbase : attributeBase (.Name x px) "extend" X.env (eval (.Name x px) X.env) = eval (.Name x px) X.env := by rfl)
    (hfew : ((backTo cpos (starEach [e] X.env)).all (fun x => !x.1) && (backToKw cpos (keywordEach [] X.env)).all (fun x => x.1.isSome)
      && decide (([e] : List Expr).length + ([] : List Keyword).length + (if ([] : List Keyword).isEmpty then 0 else 1) < 30)) = true := by rfl)
    (hline : (apos.endLine == cpos.line) = true := by rfl) (hst : starEach [e] X.env = (false, eval e X.env) :: starEach [] X.env := by rfl) (hplain : (backTo cpos (starEach [] X.env)).any (·.1) = false := by rfl) :
    PS X (.Expr (.Call (.Attribute (.Name x px) "extend" apos) [e] [] cpos) pos) (tS G W (sExt i me)) :=
  (ps_expr (pe_bm PySem.F.plainAttrs_list PySem.F.slot_list_extend PySem.F.type_list_extend mt_extend (pe_var hN hv hd hcd) (pa_cons he pa_nil hst) hbase hfew hline hst hplain) hs).weak fun D' σ H q => by
    rw [hK]; exact ext_t q
/-- a statement that is never reached -/
theorem s_never {st : Stmt} : PS X st (tS G W (fun _ => .no)) := (ps_never (X := X)).weak fun D' σ H q => by
  obtain ⟨c, st, rfl, r, w⟩ := q
  exact w.elim
end
/-! ### keywords alone -/
section
variable {X : Cx} {G : Gi} {W : WX} {gb : Bool} {k n : Nat} {ks : List Str} {gD : List D → List D → List D} {m : MF} {x c mn : Str} {p pos apos : Pos} {o : Expr} {kws : List Keyword} {mk : M (List D)} {md : M D}
theorem x_makeK0 (hK : X.K = G.K) (hM : X.mg = G.mg) (F : MkT X.prog X.w G X.base x k 0 ks gD m) (hr : Room (k + 1) X.A)
    (hg : Gl X x) (hx : ∀ σ, PassesAt (L2.CX X.prog X.w) X σ (WE W σ)) (hkw : PK X kws (tAs G W mk))
    (hall : (backToKw pos (keywordEach kws X.env)).all (·.1.isSome) = true := by rfl)
    (hks : (backToKw pos (keywordEach kws X.env)).filterMap (·.1) = ks := by rfl)
    (hdb : (x == ("__debug__" : Str)) = false := by decide)
    (hpl : ((backTo pos (starEach [] X.env)).any (·.1) || (backToKw pos (keywordEach kws X.env)).any (·.1.isNone)) = false := by rfl) :
    PE X (.Call (.Name x p) [] kws pos) (tO G W (xCall m gD 0 ks.length aNil mk)) := by
  obtain ⟨C, f, fd, ps, M, hm, FT, g, gV, hb, hl⟩ := F.ex
  refine ⟨fun pins s σ H Q I q => wpAny_Call_Name_kw (ld_glob I hg (by rw [hM]; exact hm) ?_ hdb)⟩
  apply PySem.W.callWith_KW0 (h₀ := X.base) I.ok.mod.kin (by rw [hK]; exact M.kp) hall ?_ hpl
  refine thn (hkw.run pos pins s σ H (fun zs H2 => zs.length = ks.length ∧
    ∀ a dx, H2 a = none → H2 dx = none → dx ≠ a → SpI G x ps.length m (gV (.ref a :: []) zs) (upd (upd H2 dx (.own a)) a (.ins C dx [])) (fun v H3 => v = .non ∧ Q (.ref a) H3) (WE W σ)) I ?_) ?_
  · obtain ⟨c0, st, rfl, r0, w⟩ := q
    have w : wp (bnd mk (fun es => if ([] : List D).length = 0 ∧ es.length = ks.length then runF m (gD [] es) else fun _ => .no) st) _ _ := w
    refine tG.seq1 bkO r0 w _ (fun es' zs c2 st2 r2 g2 p2 w2 => ?_)
    split at w2
    · rename_i hc
      have h2 : zs.length = ks.length := by rw [p2.len]; exact hc.2
      refine ⟨h2, fun a dx ha hd hne => ?_⟩
      obtain ⟨wz, q1, q2, q3⟩ := hl (.ref a) [] zs rfl h2
      rw [q1]
      exact make_t r2 (q3 _ _ _ _ _ .nil p2) q2 ha hd hne hm w2
    · exact w2.elim
  · rintro ws s2 ⟨zs, H2, I2, rz, q2, q3⟩
    refine ⟨I2.kIn, ?_⟩
    rw [hks]
    exact runI (us := []) (vs := []) hK hM M FT hr hb hx I2 .nil rz rfl q2 q3
theorem x_methK {pl : Sem Bool} (hK : X.K = G.K) (hM : X.mg = G.mg) (F : MeT X.prog X.w G X.base gb c mn k 1 ks gD m) (hga : gb = true → X.A.guards = some []) (hr : Room k X.A)
    (hx : ∀ σ, PassesAt (L2.CX X.prog X.w) X σ (WE W σ)) (ho : PE X o (tD G W md)) (hkw : PK X kws (tAs G W mk))
    (hall : (backToKw pos (keywordEach kws X.env)).all (·.1.isSome) = true := by rfl)
    (hks : (backToKw pos (keywordEach kws X.env)).filterMap (·.1) = ks := by rfl)
    (hpl : ((backTo pos (starEach [] X.env)).any (·.1) || (backToKw pos (keywordEach kws X.env)).any (·.1.isNone)) = false := by rfl)
    (ht : eval (.Call (.Attribute o mn apos) [] kws pos) X.env = (do
      let ov ← eval o X.env
      standAt apos.atName
      let (f, first) ← holding [ov] (getMethod ov mn pl)
      callWith pos f first (backTo pos (starEach [] X.env)) (backToKw pos (keywordEach kws X.env))) := by rfl) :
    PE X (.Call (.Attribute o mn apos) [] kws pos) (tO G W (xMeth c mn m gD 1 ks.length md aNil mk)) := by
  obtain ⟨C, f, fd, ps, hm, hC, hMe, FT, g, gV, hb, hl, hd⟩ := F.ex
  refine ⟨fun pins s σ H Q I q => PySem.W.methodCall_KW (pl := pl) ?_ ht⟩
  refine thn (ho.run pins s σ H (fun x H1 => ∃ a dx fs, x = .ref a ∧ H1 a = some (.ins C dx fs) ∧ fs.lookup mn = none ∧
    tAs G W mk σ H1 fun zs H3 => (V.ref a :: []).length = 1 ∧ zs.length = ks.length ∧ SpM G ps.length m (gV (.ref a :: []) zs) H3 Q (WE W σ)) I ?_) ?_
  · refine q.seq bkO _ (fun d v c0 c1 st1 r1 g1 p1 w => ?_)
    split at w
    · rename_i c' fs
      split at w
      · rename_i hc
        obtain ⟨rfl, hc⟩ := hc
        cases p1 with
        | ins h kk nn hs =>
          rename_i a C' dx fs'
          rw [hm] at kk
          cases kk
          refine ⟨a, dx, fs', rfl, r1.sub _ _ h, lk_none (by rw [← nn]; exact hc), ?_⟩
          have w : wp (bnd mk (fun es => if ([] : List D).length + 1 = 1 ∧ es.length = ks.length then runF m (gD [.ins c' fs] es) else fun _ => .no) st1) _ _ := w
          refine tG.seq1 bkO r1 w _ (fun es' zs c3 st3 r3 g3 p3 w3 => ?_)
          exact call_rd (ds := [.ins c' fs]) hl hd r3 (.cons ((Rp.ins h hm nn hs).mo g3.mo) .nil) p3 w3
      · exact w.elim
    · exact w.elim
  · rintro u s1 ⟨y, H1, I1, rx, a, dx, fs, rfl, ea, lk, q⟩
    obtain rfl : u = Value.ref a := rx
    refine getmeth_ok I1 ea (by rw [hK]; exact hC) (by rw [hK]; exact hMe) lk ?_
    apply PySem.W.callWith_KW0 (first := [.ref a]) (h₀ := X.base) I.ok.mod.kin (by rw [hK]; exact hMe.kp) hall ?_ hpl
    refine thn (hkw.run pos pins s1 σ H1 _ I1 q) ?_
    rintro ws s3 ⟨zs, H3, I3, rz, q3, q4, q5⟩
    refine ⟨I3.kIn, ?_⟩
    rw [hks]
    exact runT hK hM FT hga hr hb hx I3 (us := [.ref a]) (vs := [.ref a]) (.cons rfl .nil) rz q3 q4 q5
end
end L2.Tr

namespace L2.Tr
open PySem L2 L2.Pc
/-! ### what follows a step -/
def opqK (g : D → D → Option O) (f : S → Option D) (x : O) : M O := fun s => match f s with
  | some d => ofO (g x.toD d) s
  | none => .no
def chainK (g g' : D → D → Option O) (mc : M O) (x y : O) : M O := match (g x.toD y.toD).bind asB with
  | some true => bnd mc fun z => ofO (g' y.toD z.toD)
  | some false => ret (.fz (.bl false))
  | none => fun _ => .no
def seqK (m2 : M Fl) (f : Fl) : M Fl := match f with
  | .nx => m2
  | f => ret f
def asgK (i : Nat) (o : O) : M Fl := fun s => .ok .nx ⟨setS s.env i (some o), s.mu⟩
def asgTK (t : MT) (d : D) : M Fl := fun s => match t d s with
  | some s' => .ok .nx s'
  | none => .no
def asgCK (i : Nat) (o : O) : M Fl := fun s => if cellO o = true then .ok .nx ⟨setS s.env i (some (.fz (.cel s.mu.length))), s.mu ++ [o]⟩ else .no
def putLK (i : Nat) (mk : M D) (d : D) : M Fl := fun s1 => match getP s1 i with
  | none => .no
  | some _ => (mk s1).bind fun k => putAt i d k
def appK (i : Nat) (d : D) : M Fl := fun s1 => match getP s1 i with
  | some (.lst xs) => if xs.length < 16777216 then .ok .nx (putP s1 i (.lst (xs ++ [d]))) else .no
  | _ => .no
def extK (i : Nat) (o : O) : M Fl := fun s1 => match getP s1 i, o.toD with
  | some (.lst xs), .lst ds => if xs.length + ds.length ≤ 16777216 then .ok .nx (putP s1 i (.lst (xs ++ ds))) else .no
  | _, _ => .no
def forK (t : MT) (mb : M Fl) (ds : List D) (f : Fl) : M Fl := match f with
  | .nx => forL t mb ds
  | .ct => forL t mb ds
  | .bk => ret .nx
  | .rt o => ret (.rt o)
def parK (i j : Nat) (os : List O) : M Fl := fun s => match os with
  | [o, p] => .ok .nx ⟨setS (setS s.env i (some o)) j (some p), s.mu⟩
  | _ => .no
def parK3 (i j l : Nat) (os : List O) : M Fl := fun s => match os with
  | [o, p, r] => .ok .nx ⟨setS (setS (setS s.env i (some o)) j (some p)) l (some r), s.mu⟩
  | _ => .no
def fldK (CT : CTab) (f : Str) (i : Nat) (d : D) : M Fl := fun s => match getP s i with
  | some (.ins c os) => if okF CT c f = true ∧ (os.map (·.2)).all isFz = true ∧ os.length < 1000 then .ok .nx (putP s i (.ins c (putO f (.fz d) os))) else .no
  | _ => .no
def methK (c mn : Str) (m : MF) (gD : List D → List D → List D) (n k : Nat) (ma mk : M (List D)) (d : D) : M O := match d with
  | .ins c' fs => if c' = c ∧ (fs.map (·.1)).contains mn = false then bnd ma fun ds => bnd mk fun es => if ds.length + 1 = n ∧ es.length = k then runF m (gD (.ins c' fs :: ds) es) else fun _ => .no
    else fun _ => .no
  | _ => fun _ => .no
def jsK (ms : List (M O)) (acc : Str) (o : O) : M O := match o with
  | .fz (.str y) => if (acc ++ y).length ≤ 16777216 then jsM ms (acc ++ y) else fun _ => .no
  | _ => fun _ => .no
def lcB (env0 : List (Option O)) (vs : List Nat) (ys : List D) : M O := fun s2 => .ok (.lst ys) ⟨backE env0 s2.env vs, s2.mu⟩
def lcK (vs : List Nat) (t : MT) (mt : M Bool) (me : M D) (ds : List D) : M O := fun s => if freeE s.env vs = true ∧ ds.length ≤ 16777216 then
  (noExc (lcL vs t mt me ds ⟨wipeE s.env vs, s.mu⟩)).bind (lcB s.env vs) else .no
def lcY (vs : List Nat) (t : MT) (mt : M Bool) (me : M D) (ds : List D) (y : D) : M (List D) := fun s3 => if freeE s3.env vs = true then (lcL vs t mt me ds ⟨wipeE s3.env vs, s3.mu⟩).bind fun ys => ret (y :: ys) else .no
def lcT (vs : List Nat) (t : MT) (mt : M Bool) (me : M D) (ds : List D) (b : Bool) : M (List D) := fun s2 =>
  if b = true then (me s2).bind (lcY vs t mt me ds) else if freeE s2.env vs = true then lcL vs t mt me ds ⟨wipeE s2.env vs, s2.mu⟩ else .no
def partK (o : O) : M (Option Int) := match o with
  | .fz (.int i) => ret (some i)
  | _ => fun _ => .no
section
variable (env : List (Option O)) (mu : List O)
theorem st_ret {α : Type} (a : α) : ret a ⟨env, mu⟩ = .ok a ⟨env, mu⟩ := rfl
theorem st_bnd {α β : Type} (m : M α) (f : α → M β) : bnd m f ⟨env, mu⟩ = (m ⟨env, mu⟩).bind f := rfl
theorem st_ofs {α : Type} (a : α) : ofO (some a) ⟨env, mu⟩ = .ok a ⟨env, mu⟩ := rfl
theorem st_frz (m : M O) : frz m ⟨env, mu⟩ = (m ⟨env, mu⟩).bind fun o => ret o.toD := rfl
theorem st_fzd (m : M D) : fzd m ⟨env, mu⟩ = (m ⟨env, mu⟩).bind fun d => ret (.fz d) := rfl
theorem st_var (i : Nat) : xVar i ⟨env, mu⟩ = (match getS env i with | some o => .ok (.fz o.toD) ⟨if isFz o then env else setS env i (some (.fz o.toD)), mu⟩ | none => .no) := rfl
theorem st_bor (i : Nat) : xBor i ⟨env, mu⟩ = (match getS env i with | some o => .ok o ⟨env, mu⟩ | none => .no) := rfl
theorem st_mov (i : Nat) : xMov i ⟨env, mu⟩ = (match getS env i with | some o => .ok o ⟨if isFz o then env else setS env i none, mu⟩ | none => .no) := rfl
theorem st_rd (i : Nat) : xRd i ⟨env, mu⟩ = (match getS env i with | some (.fz (.cel n)) => (match getM mu n with | some o => .ok o ⟨env, mu⟩ | none => .no) | some o => .ok o ⟨env, mu⟩ | none => .no) := rfl
theorem st_qv (i : Nat) : qVar i ⟨env, mu⟩ = (match getS env i with | some (.fz d) => some d | _ => none) := rfl
theorem st_c (d : D) : xC d ⟨env, mu⟩ = .ok (.fz d) ⟨env, mu⟩ := rfl
theorem st_op (g : D → D → Option O) (ma mb : M O) : xOp g ma mb ⟨env, mu⟩ = (ma ⟨env, mu⟩).bind fun x => bnd mb fun y => ofO (g x.toD y.toD) := rfl
theorem st_un (g : D → Option O) (m : M O) : xUn g m ⟨env, mu⟩ = (m ⟨env, mu⟩).bind fun x => ofO (g x.toD) := rfl
theorem st_tob (m : M O) : toB m ⟨env, mu⟩ = (m ⟨env, mu⟩).bind fun o => ofO (asB o) := rfl
theorem st_band (ma mb : M Bool) : bAnd ma mb ⟨env, mu⟩ = (ma ⟨env, mu⟩).bind fun x => if x = true then mb else ret false := rfl
theorem st_bor2 (ma mb : M Bool) : bOr ma mb ⟨env, mu⟩ = (ma ⟨env, mu⟩).bind fun x => if x = true then ret true else mb := rfl
theorem st_bnot (ma : M Bool) : bNot ma ⟨env, mu⟩ = (ma ⟨env, mu⟩).bind fun x => ret (!x) := rfl
theorem st_if (mt : M Bool) (ma mb : M O) : xIf mt ma mb ⟨env, mu⟩ = (mt ⟨env, mu⟩).bind fun x => if x = true then ma else mb := rfl
theorem st_andV (ma mb : M O) : xAndV ma mb ⟨env, mu⟩ = (toB ma ⟨env, mu⟩).bind fun x => if x = true then mb else ret (.fz (.bl false)) := rfl
theorem st_orV (ma mb : M O) : xOrV ma mb ⟨env, mu⟩ = (toB ma ⟨env, mu⟩).bind fun x => if x = true then ret (.fz (.bl true)) else mb := rfl
theorem st_notV (ma : M O) : xNotV ma ⟨env, mu⟩ = (toB ma ⟨env, mu⟩).bind fun x => ret (.fz (.bl (!x))) := rfl
theorem st_anil  : aNil ⟨env, mu⟩ = .ok [] ⟨env, mu⟩ := rfl
theorem st_acons (m : M D) (ms : M (List D)) : aCons m ms ⟨env, mu⟩ = (m ⟨env, mu⟩).bind fun d => bnd ms fun ds => ret (d :: ds) := rfl
theorem st_onil  : oNil ⟨env, mu⟩ = .ok [] ⟨env, mu⟩ := rfl
theorem st_ocons (m : M O) (ms : M (List O)) : oCons m ms ⟨env, mu⟩ = (m ⟨env, mu⟩).bind fun d => bnd ms fun ds => ret (d :: ds) := rfl
theorem st_tup (ms : M (List D)) : xTup ms ⟨env, mu⟩ = (ms ⟨env, mu⟩).bind fun ds => ofO (dTup ds) := rfl
theorem st_lst (ms : M (List D)) : xLst ms ⟨env, mu⟩ = (ms ⟨env, mu⟩).bind fun ds => ofO (dLst ds) := rfl
theorem st_cn (g : List D → Option O) (ma : M (List D)) : xCn g ma ⟨env, mu⟩ = (ma ⟨env, mu⟩).bind fun ds => ofO (g ds) := rfl
theorem st_m1 (g : D → List D → Option O) (m : M O) (md : M D) : xM1 g m md ⟨env, mu⟩ = (m ⟨env, mu⟩).bind fun x => if isS x.toD = true then bnd md fun d => ofO (g x.toD [d]) else fun _ => .no := rfl
theorem st_m0 (g : D → List D → Option O) (m : M O) : xM0 g m ⟨env, mu⟩ = (m ⟨env, mu⟩).bind fun x => if isS x.toD = true then ofO (g x.toD []) else fun _ => .no := rfl
theorem st_opq (g : D → D → Option O) (ma : M O) (f : S → Option D) : xOpQ g ma f ⟨env, mu⟩ = (ma ⟨env, mu⟩).bind fun x => opqK g f x := rfl
theorem st_sl (ma : M O) (ml mh : M (Option Int)) : xSl ma ml mh ⟨env, mu⟩ = (ma ⟨env, mu⟩).bind fun x => bnd ml fun l => bnd mh fun h => ofO (slD x.toD l h) := rfl
theorem st_chain (g g' : D → D → Option O) (ma mb mc : M O) : xChain g g' ma mb mc ⟨env, mu⟩ = (ma ⟨env, mu⟩).bind fun x => bnd mb fun y => chainK g g' mc x y := rfl
theorem st_mseq (md : M D) : mSeq md ⟨env, mu⟩ = (md ⟨env, mu⟩).bind fun d => ofO (seqI d) := rfl
theorem st_rg1 (ma : M (List D)) : mRng1 ma ⟨env, mu⟩ = (ma ⟨env, mu⟩).bind fun ds => ofO (rng1 ds) := rfl
theorem st_rg2 (ma : M (List D)) : mRng2 ma ⟨env, mu⟩ = (ma ⟨env, mu⟩).bind fun ds => ofO (rng2 ds) := rfl
theorem st_snil  : sNil ⟨env, mu⟩ = .ok .nx ⟨env, mu⟩ := rfl
theorem st_seq (m1 m2 : M Fl) : sSeq m1 m2 ⟨env, mu⟩ = (m1 ⟨env, mu⟩).bind fun f => seqK m2 f := rfl
theorem st_sexpr (me : M O) : sExpr me ⟨env, mu⟩ = (me ⟨env, mu⟩).bind fun _ => ret .nx := rfl
theorem st_sret (me : M O) : sRet me ⟨env, mu⟩ = (me ⟨env, mu⟩).bind fun o => ret (.rt o) := rfl
theorem st_sif (mt : M Bool) (m1 m2 : M Fl) : sIf mt m1 m2 ⟨env, mu⟩ = (mt ⟨env, mu⟩).bind fun b => if b = true then m1 else m2 := rfl
theorem st_asg (i : Nat) (me : M O) : sAsg i me ⟨env, mu⟩ = (me ⟨env, mu⟩).bind (asgK i) := rfl
theorem st_asgK (i : Nat) (o : O) : asgK i o ⟨env, mu⟩ = .ok .nx ⟨setS env i (some o), mu⟩ := rfl
theorem st_asgT (t : MT) (me : M D) : sAsgT t me ⟨env, mu⟩ = (me ⟨env, mu⟩).bind (asgTK t) := rfl
theorem st_asgTK (t : MT) (d : D) : asgTK t d ⟨env, mu⟩ = (match t d ⟨env, mu⟩ with | some s' => .ok .nx s' | none => .no) := rfl
theorem st_asgC (i : Nat) (me : M O) : sAsgC i me ⟨env, mu⟩ = (me ⟨env, mu⟩).bind (asgCK i) := rfl
theorem st_asgCK (i : Nat) (o : O) : asgCK i o ⟨env, mu⟩ = if cellO o = true then .ok .nx ⟨setS env i (some (.fz (.cel mu.length))), mu ++ [o]⟩ else .no := rfl
theorem st_putL (i : Nat) (mk md : M D) : sPutL i mk md ⟨env, mu⟩ = (md ⟨env, mu⟩).bind (putLK i mk) := rfl
theorem st_putLK (i : Nat) (mk : M D) (d : D) : putLK i mk d ⟨env, mu⟩ = (match getP ⟨env, mu⟩ i with | none => .no | some _ => (mk ⟨env, mu⟩).bind fun k => putAt i d k) := rfl
theorem st_putAt (i : Nat) (d : D) (j : Int) : putAt i d (.int j) ⟨env, mu⟩ = (match getP ⟨env, mu⟩ i with | some (.lst xs) => (match ixN xs.length j with | some q => .ok .nx (putP ⟨env, mu⟩ i (.lst (xs.set q d))) | none => .no) | _ => .no) := by unfold putAt; cases getP ⟨env, mu⟩ i with | none => rfl | some o => cases o <;> rfl
theorem st_getP (i : Nat) : getP ⟨env, mu⟩ i = (match getS env i with | some (.fz (.cel n)) => getM mu n | some (.fz _) => none | o => o) := rfl
theorem st_putP (i : Nat) (o : O) : putP ⟨env, mu⟩ i o = (match getS env i with | some (.fz (.cel n)) => ⟨env, setM mu n o⟩ | some (.fz _) => ⟨env, mu⟩ | some _ => ⟨setS env i (some o), mu⟩ | none => ⟨env, mu⟩) := rfl
theorem st_app (i : Nat) (md : M D) : sApp i md ⟨env, mu⟩ = (match getP ⟨env, mu⟩ i with | some (.lst _) => (md ⟨env, mu⟩).bind (appK i) | _ => .no) := rfl
theorem st_appK (i : Nat) (d : D) : appK i d ⟨env, mu⟩ = (match getP ⟨env, mu⟩ i with | some (.lst xs) => if xs.length < 16777216 then .ok .nx (putP ⟨env, mu⟩ i (.lst (xs ++ [d]))) else .no | _ => .no) := rfl
theorem st_ext (i : Nat) (me : M O) : sExt i me ⟨env, mu⟩ = (match getP ⟨env, mu⟩ i with | some (.lst _) => (me ⟨env, mu⟩).bind (extK i) | _ => .no) := rfl
theorem st_extK (i : Nat) (o : O) : extK i o ⟨env, mu⟩ = (match getP ⟨env, mu⟩ i, o.toD with | some (.lst xs), .lst ds => if xs.length + ds.length ≤ 16777216 then .ok .nx (putP ⟨env, mu⟩ i (.lst (xs ++ ds))) else .no | _, _ => .no) := rfl
theorem st_for (mi : M (List D)) (t : MT) (mb : M Fl) : sFor mi t mb ⟨env, mu⟩ = (mi ⟨env, mu⟩).bind fun ds => forL t mb ds := rfl
theorem st_for0 (t : MT) (mb : M Fl) : forL t mb [] ⟨env, mu⟩ = .ok .nx ⟨env, mu⟩ := rfl
theorem st_for1 (t : MT) (mb : M Fl) (d : D) (ds : List D) : forL t mb (d :: ds) ⟨env, mu⟩ = (match t d ⟨env, mu⟩ with | none => .no | some s1 => (mb s1).bind (forK t mb ds)) := rfl
theorem st_gN (i : Nat) (d : D) : gN i d ⟨env, mu⟩ = some ⟨setS env i (some (.fz d)), mu⟩ := rfl
theorem st_gT (ts : List MT) (d : D) : gT ts d ⟨env, mu⟩ = (seqOf d).bind fun ds => gsN ts ds ⟨env, mu⟩ := rfl
theorem st_gs0  : gsN [] [] ⟨env, mu⟩ = some ⟨env, mu⟩ := rfl
theorem st_gs1 (t : MT) (ts : List MT) (d : D) (ds : List D) : gsN (t :: ts) (d :: ds) ⟨env, mu⟩ = (t d ⟨env, mu⟩).bind (gsN ts ds) := rfl
theorem st_par (i j : Nat) (ms : M (List O)) : sPar i j ms ⟨env, mu⟩ = (ms ⟨env, mu⟩).bind (parK i j) := rfl
theorem st_parK (i j : Nat) (o p : O) : parK i j [o, p] ⟨env, mu⟩ = .ok .nx ⟨setS (setS env i (some o)) j (some p), mu⟩ := rfl
theorem st_par3 (i j l : Nat) (ms : M (List O)) : sPar3 i j l ms ⟨env, mu⟩ = (ms ⟨env, mu⟩).bind (parK3 i j l) := rfl
theorem st_parK3 (i j l : Nat) (o p r : O) : parK3 i j l [o, p, r] ⟨env, mu⟩ = .ok .nx ⟨setS (setS (setS env i (some o)) j (some p)) l (some r), mu⟩ := rfl
theorem st_call (m : MF) (gD : List D → List D → List D) (n k : Nat) (ma mk : M (List D)) : xCall m gD n k ma mk ⟨env, mu⟩ = (ma ⟨env, mu⟩).bind fun ds => bnd mk fun es => if ds.length = n ∧ es.length = k then runF m (gD ds es) else fun _ => .no := rfl
theorem st_runF (m : MF) (ds : List D) : runF m ds ⟨env, mu⟩ = (match m ds mu with | .ok o s' => .ok o ⟨env, s'.mu⟩ | .exc x s' => .exc x ⟨env, s'.mu⟩ | .no => .no) := rfl
theorem st_fld (CT : CTab) (f : Str) (m : M O) : xFld CT f m ⟨env, mu⟩ = (m ⟨env, mu⟩).bind fun o => ofO (fldO CT f o) := rfl
theorem st_fldF (CT : CTab) (f : Str) (m : M O) : xFldF CT f m ⟨env, mu⟩ = (m ⟨env, mu⟩).bind fun o => ofO ((fldO CT f o).bind fzO) := rfl
theorem st_sfld (CT : CTab) (f : Str) (i : Nat) (md : M D) : sFldD CT f i md ⟨env, mu⟩ = (md ⟨env, mu⟩).bind (fldK CT f i) := rfl
theorem st_fldK (CT : CTab) (f : Str) (i : Nat) (d : D) : fldK CT f i d ⟨env, mu⟩ = (match getP ⟨env, mu⟩ i with | some (.ins c os) => if okF CT c f = true ∧ (os.map (·.2)).all isFz = true ∧ os.length < 1000 then .ok .nx (putP ⟨env, mu⟩ i (.ins c (putO f (.fz d) os))) else .no | _ => .no) := rfl
theorem st_meth (c mn : Str) (m : MF) (gD : List D → List D → List D) (n k : Nat) (md : M D) (ma mk : M (List D)) : xMeth c mn m gD n k md ma mk ⟨env, mu⟩ = (md ⟨env, mu⟩).bind fun d => methK c mn m gD n k ma mk d := rfl
theorem st_sp (tbl : List (Str × MF)) (g : D → Option O) (md : M D) : xSp tbl g md ⟨env, mu⟩ = (md ⟨env, mu⟩).bind (runS tbl g) := rfl
theorem st_runS (tbl : List (Str × MF)) (g : D → Option O) (d : D) : runS tbl g d ⟨env, mu⟩ = (match insOf d with | some c => (match tbl.lookup c with | some mf => (match noExc (runF mf [d] ⟨env, mu⟩) with | .ok o s' => ofO (strO o) s' | _ => .no) | none => .no) | none => ofO (g d) ⟨env, mu⟩) := rfl
theorem st_eqO (tbl : ETab) (neg : Bool) (ma mb : M D) : xEqO tbl neg ma mb ⟨env, mu⟩ = (ma ⟨env, mu⟩).bind fun x => bnd mb fun y => ofO ((eqP tbl x y).map fun b => .fz (.bl (b != neg))) := rfl
theorem st_inO (tbl : ETab) (neg : Bool) (ma mb : M D) : xInO tbl neg ma mb ⟨env, mu⟩ = (ma ⟨env, mu⟩).bind fun x => bnd mb fun y => ofO ((inPT tbl x y).map fun b => .fz (.bl (b != neg))) := rfl
theorem st_js0 (acc : Str) : jsM [] acc ⟨env, mu⟩ = .ok (.fz (.str acc)) ⟨env, mu⟩ := rfl
theorem st_js1 (m : M O) (ms : List (M O)) (acc : Str) : jsM (m :: ms) acc ⟨env, mu⟩ = (m ⟨env, mu⟩).bind (jsK ms acc) := rfl
theorem st_jsK (ms : List (M O)) (acc y : Str) : jsK ms acc (.fz (.str y)) ⟨env, mu⟩ = (if (acc ++ y).length ≤ 16777216 then jsM ms (acc ++ y) ⟨env, mu⟩ else .no) := by unfold jsK; dsimp only; by_cases h : (acc ++ y).length ≤ 16777216 <;> simp only [h, if_true, if_false]
theorem st_lc (vs : List Nat) (mi : M (List D)) (t : MT) (mt : M Bool) (me : M D) : xLc vs mi t mt me ⟨env, mu⟩ = (mi ⟨env, mu⟩).bind fun ds => lcK vs t mt me ds := rfl
theorem st_lcK (vs : List Nat) (t : MT) (mt : M Bool) (me : M D) (ds : List D) : lcK vs t mt me ds ⟨env, mu⟩ = if freeE env vs = true ∧ ds.length ≤ 16777216 then (noExc (lcL vs t mt me ds ⟨wipeE env vs, mu⟩)).bind (lcB env vs) else .no := rfl
theorem st_lcB (env0 : List (Option O)) (vs : List Nat) (ys : List D) : lcB env0 vs ys ⟨env, mu⟩ = .ok (.lst ys) ⟨backE env0 env vs, mu⟩ := rfl
theorem st_lc0 (vs : List Nat) (t : MT) (mt : M Bool) (me : M D) : lcL vs t mt me [] ⟨env, mu⟩ = .ok [] ⟨env, mu⟩ := rfl
theorem st_lc1 (vs : List Nat) (t : MT) (mt : M Bool) (me : M D) (d : D) (ds : List D) : lcL vs t mt me (d :: ds) ⟨env, mu⟩ = (match t d ⟨env, mu⟩ with | none => .no | some s1 => (mt s1).bind (lcT vs t mt me ds)) := rfl
theorem st_lcT (vs : List Nat) (t : MT) (mt : M Bool) (me : M D) (ds : List D) (b : Bool) : lcT vs t mt me ds b ⟨env, mu⟩ = if b = true then (me ⟨env, mu⟩).bind (lcY vs t mt me ds) else if freeE env vs = true then lcL vs t mt me ds ⟨wipeE env vs, mu⟩ else .no := rfl
theorem st_lcY (vs : List Nat) (t : MT) (mt : M Bool) (me : M D) (ds : List D) (y : D) : lcY vs t mt me ds y ⟨env, mu⟩ = if freeE env vs = true then (lcL vs t mt me ds ⟨wipeE env vs, mu⟩).bind fun ys => ret (y :: ys) else .no := rfl
theorem st_mpart (md : M O) : mPart md ⟨env, mu⟩ = (md ⟨env, mu⟩).bind partK := rfl
end
section
variable {a0 a1 a2 a3 a4 a5 a6 a7 a8 a9 a10 a11 a12 a13 a14 x : Option O} {env : List (Option O)}
theorem getS_0 : getS (x :: env) 0 = x := rfl
theorem setS_0 : setS (a0 :: env) 0 x = x :: env := rfl
theorem getS_1 : getS (a0 :: x :: env) 1 = x := rfl
theorem setS_1 : setS (a0 :: a1 :: env) 1 x = a0 :: x :: env := rfl
theorem getS_2 : getS (a0 :: a1 :: x :: env) 2 = x := rfl
theorem setS_2 : setS (a0 :: a1 :: a2 :: env) 2 x = a0 :: a1 :: x :: env := rfl
theorem getS_3 : getS (a0 :: a1 :: a2 :: x :: env) 3 = x := rfl
theorem setS_3 : setS (a0 :: a1 :: a2 :: a3 :: env) 3 x = a0 :: a1 :: a2 :: x :: env := rfl
theorem getS_4 : getS (a0 :: a1 :: a2 :: a3 :: x :: env) 4 = x := rfl
theorem setS_4 : setS (a0 :: a1 :: a2 :: a3 :: a4 :: env) 4 x = a0 :: a1 :: a2 :: a3 :: x :: env := rfl
theorem getS_5 : getS (a0 :: a1 :: a2 :: a3 :: a4 :: x :: env) 5 = x := rfl
theorem setS_5 : setS (a0 :: a1 :: a2 :: a3 :: a4 :: a5 :: env) 5 x = a0 :: a1 :: a2 :: a3 :: a4 :: x :: env := rfl
theorem getS_6 : getS (a0 :: a1 :: a2 :: a3 :: a4 :: a5 :: x :: env) 6 = x := rfl
theorem setS_6 : setS (a0 :: a1 :: a2 :: a3 :: a4 :: a5 :: a6 :: env) 6 x = a0 :: a1 :: a2 :: a3 :: a4 :: a5 :: x :: env := rfl
theorem getS_7 : getS (a0 :: a1 :: a2 :: a3 :: a4 :: a5 :: a6 :: x :: env) 7 = x := rfl
theorem setS_7 : setS (a0 :: a1 :: a2 :: a3 :: a4 :: a5 :: a6 :: a7 :: env) 7 x = a0 :: a1 :: a2 :: a3 :: a4 :: a5 :: a6 :: x :: env := rfl
theorem getS_8 : getS (a0 :: a1 :: a2 :: a3 :: a4 :: a5 :: a6 :: a7 :: x :: env) 8 = x := rfl
theorem setS_8 : setS (a0 :: a1 :: a2 :: a3 :: a4 :: a5 :: a6 :: a7 :: a8 :: env) 8 x = a0 :: a1 :: a2 :: a3 :: a4 :: a5 :: a6 :: a7 :: x :: env := rfl
theorem getS_9 : getS (a0 :: a1 :: a2 :: a3 :: a4 :: a5 :: a6 :: a7 :: a8 :: x :: env) 9 = x := rfl
theorem setS_9 : setS (a0 :: a1 :: a2 :: a3 :: a4 :: a5 :: a6 :: a7 :: a8 :: a9 :: env) 9 x = a0 :: a1 :: a2 :: a3 :: a4 :: a5 :: a6 :: a7 :: a8 :: x :: env := rfl
theorem getS_10 : getS (a0 :: a1 :: a2 :: a3 :: a4 :: a5 :: a6 :: a7 :: a8 :: a9 :: x :: env) 10 = x := rfl
theorem setS_10 : setS (a0 :: a1 :: a2 :: a3 :: a4 :: a5 :: a6 :: a7 :: a8 :: a9 :: a10 :: env) 10 x = a0 :: a1 :: a2 :: a3 :: a4 :: a5 :: a6 :: a7 :: a8 :: a9 :: x :: env := rfl
theorem getS_11 : getS (a0 :: a1 :: a2 :: a3 :: a4 :: a5 :: a6 :: a7 :: a8 :: a9 :: a10 :: x :: env) 11 = x := rfl
theorem setS_11 : setS (a0 :: a1 :: a2 :: a3 :: a4 :: a5 :: a6 :: a7 :: a8 :: a9 :: a10 :: a11 :: env) 11 x = a0 :: a1 :: a2 :: a3 :: a4 :: a5 :: a6 :: a7 :: a8 :: a9 :: a10 :: x :: env := rfl
theorem getS_12 : getS (a0 :: a1 :: a2 :: a3 :: a4 :: a5 :: a6 :: a7 :: a8 :: a9 :: a10 :: a11 :: x :: env) 12 = x := rfl
theorem setS_12 : setS (a0 :: a1 :: a2 :: a3 :: a4 :: a5 :: a6 :: a7 :: a8 :: a9 :: a10 :: a11 :: a12 :: env) 12 x = a0 :: a1 :: a2 :: a3 :: a4 :: a5 :: a6 :: a7 :: a8 :: a9 :: a10 :: a11 :: x :: env := rfl
theorem getS_13 : getS (a0 :: a1 :: a2 :: a3 :: a4 :: a5 :: a6 :: a7 :: a8 :: a9 :: a10 :: a11 :: a12 :: x :: env) 13 = x := rfl
theorem setS_13 : setS (a0 :: a1 :: a2 :: a3 :: a4 :: a5 :: a6 :: a7 :: a8 :: a9 :: a10 :: a11 :: a12 :: a13 :: env) 13 x = a0 :: a1 :: a2 :: a3 :: a4 :: a5 :: a6 :: a7 :: a8 :: a9 :: a10 :: a11 :: a12 :: x :: env := rfl
theorem getS_14 : getS (a0 :: a1 :: a2 :: a3 :: a4 :: a5 :: a6 :: a7 :: a8 :: a9 :: a10 :: a11 :: a12 :: a13 :: x :: env) 14 = x := rfl
theorem setS_14 : setS (a0 :: a1 :: a2 :: a3 :: a4 :: a5 :: a6 :: a7 :: a8 :: a9 :: a10 :: a11 :: a12 :: a13 :: a14 :: env) 14 x = a0 :: a1 :: a2 :: a3 :: a4 :: a5 :: a6 :: a7 :: a8 :: a9 :: a10 :: a11 :: a12 :: a13 :: x :: env := rfl
end
section
variable {N : Nat} {body : M Fl} {ds xs ys : List D} {mu : List O} {d : D} {o : O} {i j : Int} {a b : Str} {k : Bool} {n m : Nat} {os : List O}
theorem st_fnM : fnM N body ds mu = match body ⟨env0 N ds, mu⟩ with
  | .ok (.rt o) s => .ok o ⟨[], s.mu⟩
  | .ok .nx s => .ok (.fz .non) ⟨[], s.mu⟩
  | .ok _ _ => .no
  | .exc x s => .exc x ⟨[], s.mu⟩
  | .no => .no := rfl
theorem st_env0 : env0 N ds = ds.map (fun d => some (.fz d)) ++ List.replicate (N - ds.length) none := rfl
theorem st_seqn {m2 : M Fl} : seqK m2 .nx = m2 := rfl
theorem st_seqr {m2 : M Fl} : seqK m2 (.rt o) = ret (.rt o) := rfl
theorem st_seqb {m2 : M Fl} : seqK m2 .bk = ret .bk := rfl
theorem st_seqc {m2 : M Fl} : seqK m2 .ct = ret .ct := rfl
theorem st_forn {t : MT} {mb : M Fl} : forK t mb ds .nx = forL t mb ds := rfl
theorem st_forc {t : MT} {mb : M Fl} : forK t mb ds .ct = forL t mb ds := rfl
theorem st_forb {t : MT} {mb : M Fl} : forK t mb ds .bk = ret .nx := rfl
theorem st_forr {t : MT} {mb : M Fl} : forK t mb ds (.rt o) = ret (.rt o) := rfl
theorem st_parti : partK (.fz (.int i)) = ret (some i) := rfl
theorem st_opqK {g : D → D → Option O} {f : S → Option D} {env : List (Option O)} : opqK g f o ⟨env, mu⟩ = match f ⟨env, mu⟩ with
  | some d => ofO (g o.toD d) ⟨env, mu⟩
  | none => .no := rfl
theorem st_bok {α β : Type} {a : α} {s : S} {f : α → M β} : (R.ok a s).bind f = f a s := rfl
theorem st_bex {α β : Type} {x : Exc} {s : S} {f : α → M β} : (R.exc x s : R α).bind f = .exc x s := rfl
theorem st_isf : isFz (.fz d) = true := rfl
theorem st_isl : isFz (.lst ds) = false := rfl
theorem st_isi {c : Str} {fs : List (Str × O)} : isFz (.ins c fs) = false := rfl
theorem st_tdf : O.toD (.fz d) = d := by rw [O.toD]
theorem st_tdl : O.toD (.lst ds) = .lst ds := by rw [O.toD]
theorem st_tdi {c : Str} {fs : List (Str × O)} : O.toD (.ins c fs) = .ins c (O.toDf fs) := by rw [O.toD]
theorem st_tdn : O.toDf [] = [] := by rw [O.toDf]
theorem st_tdc {c : Str} {fs : List (Str × O)} : O.toDf ((c, o) :: fs) = (c, o.toD) :: O.toDf fs := by rw [O.toDf]
theorem st_asb : asB (.fz (.bl k)) = some k := rfl
theorem st_celf : cellO (.fz d) = false := rfl
theorem st_cell : cellO (.lst ds) = true := rfl
theorem st_fzO : fzO (.fz d) = some (.fz d) := rfl
theorem st_isS : isS (.str a) = true := rfl
theorem st_sqt : seqOf (.tup ds) = some ds := rfl
theorem st_squ : seqOf (.tuk ds) = some ds := rfl
theorem st_silst : seqI (.lst ds) = some ds := rfl
theorem st_silsk : seqI (.lsk ds) = some ds := rfl
theorem st_situp : seqI (.tup ds) = some ds := rfl
theorem st_situk : seqI (.tuk ds) = some ds := rfl
theorem st_addi : addD (.int i) (.int j) = some (.fz (.int (i + j))) := rfl
theorem st_adds : addD (.str a) (.str b) = if a.length + b.length ≤ 16777216 then some (.fz (.str (a ++ b))) else none := rfl
theorem st_addl : addD (.lst xs) (.lst ys) = if xs.length + ys.length ≤ 16777216 then some (.lst (xs ++ ys)) else none := rfl
theorem st_addt : addD (.tup xs) (.tup ys) = if xs.length + ys.length ≤ 16777216 then some (.fz (.tup (xs ++ ys))) else none := rfl
theorem st_subi : subD (.int i) (.int j) = some (.fz (.int (i - j))) := rfl
theorem st_lti : ltD (.int i) (.int j) = some (.fz (.bl (decide (i < j)))) := rfl
theorem st_lei : leD (.int i) (.int j) = some (.fz (.bl (decide (i ≤ j)))) := rfl
theorem st_gti : gtD (.int i) (.int j) = some (.fz (.bl (decide (j < i)))) := rfl
theorem st_gei : geD (.int i) (.int j) = some (.fz (.bl (decide (j ≤ i)))) := rfl
theorem st_divi (h : 0 < j) (h2 : j < 1073741824) : divD (.int i) (.int j) = some (.fz (.int (i / j))) := by simp [divD, iiD, h, h2]
theorem st_modi (h : 0 < j) : modD (.int i) (.int j) = some (.fz (.int (i % j))) := by simp [modD, iiD, h]
theorem st_muli (h : mulOkB i j = true) : mulD (.int i) (.int j) = some (.fz (.int (i * j))) := by simp [mulD, h]
theorem mulL (h : -18446744073709551616 < i) (h2 : i < 18446744073709551616) : mulOkB i j = true := by unfold mulOkB; simp; exact .inl (.inl ⟨h, h2⟩)
theorem mulR (h : -18446744073709551616 < j) (h2 : j < 18446744073709551616) : mulOkB i j = true := by unfold mulOkB; simp; exact .inl (.inr ⟨h, h2⟩)
theorem st_negi : negD (.int i) = some (.fz (.int (-i))) := rfl
theorem st_ixl : ixD (.lst ds) (.int i) = (atI ds i).map .fz := rfl
theorem st_ixk : ixD (.lsk ds) (.int i) = (atI ds i).map .fz := rfl
theorem st_ixt : ixD (.tup ds) (.int i) = (atI ds i).map .fz := rfl
theorem st_ixu : ixD (.tuk ds) (.int i) = (atI ds i).map .fz := rfl
theorem atN {α : Type} {xs : List α} {n : Nat} : atI xs ((n : Nat) : Int) = xs[n]? := by
  unfold atI ixN
  have h0 : (0 : Int) ≤ (n : Int) := Int.natCast_nonneg n
  rw [if_pos h0]
  by_cases h : n < xs.length
  · rw [if_pos (by exact_mod_cast h)]; rfl
  · rw [if_neg (by omega)]; rw [List.getElem?_eq_none (by omega)]; rfl
theorem st_at0 {α : Type} {x : α} {xs : List α} : atI (x :: xs) 0 = some x := by show atI _ ((0 : Nat) : Int) = _; rw [atN]; rfl
theorem st_at1 {α : Type} {x y : α} {xs : List α} : atI (x :: y :: xs) 1 = some y := by show atI _ ((1 : Nat) : Int) = _; rw [atN]; rfl
theorem st_at2 {α : Type} {x y z : α} {xs : List α} : atI (x :: y :: z :: xs) 2 = some z := by show atI _ ((2 : Nat) : Int) = _; rw [atN]; rfl
theorem st_at3 {α : Type} {x y z w : α} {xs : List α} : atI (x :: y :: z :: w :: xs) 3 = some w := by show atI _ ((3 : Nat) : Int) = _; rw [atN]; rfl
theorem st_at4 {α : Type} {x y z w v : α} {xs : List α} : atI (x :: y :: z :: w :: v :: xs) 4 = some v := by show atI _ ((4 : Nat) : Int) = _; rw [atN]; rfl
theorem st_ixn0 : ixN (n + 1) 0 = some 0 := by unfold ixN; rw [if_pos (by omega), if_pos (by omega)]; rfl
theorem st_ixn1 : ixN (n + 2) 1 = some 1 := by unfold ixN; rw [if_pos (by omega), if_pos (by omega)]; rfl
theorem st_ixn2 : ixN (n + 3) 2 = some 2 := by unfold ixN; rw [if_pos (by omega), if_pos (by omega)]; rfl
theorem st_absi : absD (.int i) = some (.fz (.int (if i < 0 then -i else i))) := rfl
theorem st_inti : intD (.int i) = some (.fz (.int i)) := rfl
theorem st_intb : intD (.bl k) = some (.fz (.int (if k then 1 else 0))) := rfl
theorem st_lenl : lenD (.lst ds) = some (.fz (.int ds.length)) := rfl
theorem st_lenk : lenD (.lsk ds) = some (.fz (.int ds.length)) := rfl
theorem st_lent : lenD (.tup ds) = some (.fz (.int ds.length)) := rfl
theorem st_lenu : lenD (.tuk ds) = some (.fz (.int ds.length)) := rfl
theorem st_lens : lenD (.str a) = if a.length ≤ 16777216 then some (.fz (.int a.length)) else none := rfl
theorem st_ixs : ixD (.str a) (.int i) = if a.length ≤ 16777216 then (atI a.cps.toList i).map (fun c => .fz (.str ⟨#[c]⟩)) else none := rfl
theorem st_stri (h : i.natAbs.log2 < 1920) : strD (.int i) = some (.fz (.str (toString i))) := by simp [strD, h]
theorem st_strs : strD (.str a) = some (.fz (.str a)) := rfl
theorem st_is : isD d .non = some (.fz (.bl (isNon d))) := rfl
theorem st_isnt : isntD d .non = some (.fz (.bl (!isNon d))) := rfl
theorem st_nonn : isNon .non = true := rfl
theorem st_noni : isNon (.int i) = false := rfl
theorem st_nons : isNon (.str a) = false := rfl
theorem st_zf2 : zfillD (.str a) [.int 2] = some (.fz (.str (Txt.zfill a 2))) := rfl
theorem st_eqi : eqD (.int i) (.int j) = some (.fz (.bl (decide (i = j)))) := rfl
theorem st_eqs : eqD (.str a) (.str b) = some (.fz (.bl (decide (a = b)))) := rfl
theorem st_nei : neD (.int i) (.int j) = some (.fz (.bl (!decide (i = j)))) := rfl
theorem st_nes : neD (.str a) (.str b) = some (.fz (.bl (!decide (a = b)))) := rfl
theorem st_nenn : neD .non .non = some (.fz (.bl false)) := rfl
theorem st_neni : neD .non (.int i) = some (.fz (.bl true)) := rfl
theorem st_nein : neD (.int i) .non = some (.fz (.bl true)) := rfl
theorem st_fmts : fmtD (.str a) = if a.length ≤ 16777216 then some (.fz (.str a)) else none := rfl
theorem st_mull : mulD (.lst xs) (.int i) = if 0 ≤ i ∧ i ≤ 10000 ∧ xs.length ≤ 1000 then some (.lst (List.replicate i.toNat xs).flatten) else none := rfl
theorem st_fr0 {env : List (Option O)} : freeE env [] = true := rfl
theorem st_fr1 {env : List (Option O)} {v : Nat} {vs : List Nat} : freeE env (v :: vs) = ((match getS env v with | some o => isFz o | none => true) && freeE env vs) := rfl
theorem st_wp0 {env : List (Option O)} : wipeE env [] = env := rfl
theorem st_wp1 {env : List (Option O)} {v : Nat} {vs : List Nat} : wipeE env (v :: vs) = setS (wipeE env vs) v none := rfl
theorem st_bk0 {env e2 : List (Option O)} : backE env e2 [] = e2 := rfl
theorem st_bk1 {env e2 : List (Option O)} {v : Nat} {vs : List Nat} : backE env e2 (v :: vs) = backE env (setS e2 v (getS env v)) vs := rfl
theorem st_nok {α : Type} {a : α} {s : S} : noExc (R.ok a s) = .ok a s := rfl
theorem st_rng1 (h : 0 ≤ i) (h2 : i < 4611686018427387904) : rng1 [.int i] = some (rngL 0 i.toNat) := by unfold rng1; dsimp only; rw [if_pos ⟨by omega, by omega⟩]
theorem st_joi {es : List D} {bs : List Str} (h : strsD es = some bs) (h2 : (bs.map (·.length)).sum + bs.length * a.length ≤ 16777216) : joinD (.str a) [.lst es] = some (.fz (.str (Txt.join a bs))) := by
  unfold joinD itemsD; dsimp only; rw [h]; dsimp only [Option.bind_some]; rw [if_pos h2]
theorem st_dtup : dTup ds = if ds.length ≤ 16777216 then some (.fz (.tup ds)) else none := rfl
theorem st_dlst : dLst ds = if ds.length ≤ 16777216 then some (.lst ds) else none := rfl
end
end L2.Tr

namespace L2.Tr
open PySem PySem.Spec PyProof.Rows L2 L2.Pc

/-! ### texts -/
theorem join_two (y a b : Str) (r : List Str) : Txt.join y (a :: b :: r) = a ++ (y ++ Txt.join y (b :: r)) := by
  apply TL.ext_tl
  rw [TL.tl_append, TL.tl_append, TL.join_eq, TL.join_eq, TL.tl_join, TL.tl_join]
  rfl
theorem join_one (y a : Str) : Txt.join y [a] = a := by
  apply TL.ext_tl
  rw [TL.join_eq, TL.tl_join]
  rfl
theorem joinL_len (S : List Nat) : ∀ ps : List (List Nat), (TL.joinL S ps).length ≤ (ps.map (·.length)).sum + ps.length * S.length
  | [] => by simp [TL.joinL]
  | [p] => by simp [TL.joinL]
  | p :: q :: r => by
    have := joinL_len S (q :: r)
    show (p ++ (S ++ TL.joinL S (q :: r))).length ≤ _
    rw [List.length_append, List.length_append, List.map_cons, List.sum_cons, List.length_cons (a := p), Nat.succ_mul]
    omega
theorem join_le (y : Str) (ws : List Str) : (Txt.join y ws).length ≤ (ws.map (·.length)).sum + ws.length * y.length := by
  have h := TL.tl_join y ws
  have h2 := joinL_len (TL.tl y) (ws.map TL.tl)
  rw [← h, ← TL.join_eq, List.length_map, List.map_map] at h2
  exact h2
theorem app_empty (a : Str) : a ++ ("" : Str) = a := by
  apply TL.ext_tl
  rw [TL.tl_append]
  exact List.append_nil _
theorem empty_app (a : Str) : ("" : Str) ++ a = a := by
  apply TL.ext_tl
  rw [TL.tl_append]
  rfl
/-! ### repr of data: what it asks -/
mutual
def okD : D → Bool
  | .non => true
  | .bl _ => true
  | .int i => decide (i.natAbs.log2 < 1920)
  | .str s => s.cps.toList.all fun c => decide (c < 16 ^ 8)
  | .tup xs => okA xs
  | .tuk xs => okA xs
  | .lst xs => okA xs
  | .lsk xs => okA xs
  | .dct kvs => okK kvs
  | _ => false
def okA : List D → Bool
  | [] => true
  | x :: xs => okD x && okA xs
def okK : List (D × D) → Bool
  | [] => true
  | (k, x) :: xs => okD k && okD x && okK xs
end
mutual
def dpD : D → Nat
  | .tup xs => dpA xs + 1
  | .tuk xs => dpA xs + 1
  | .lst xs => dpA xs + 1
  | .lsk xs => dpA xs + 1
  | .dct kvs => dpK kvs + 1
  | _ => 0
def dpA : List D → Nat
  | [] => 0
  | x :: xs => max (dpD x) (dpA xs)
def dpK : List (D × D) → Nat
  | [] => 0
  | (k, x) :: xs => max (max (dpD k) (dpD x)) (dpK xs)
end
mutual
def wtD : D → Nat
  | .non => 4
  | .bl _ => 5
  | .int i => i.natAbs.log2 + 2
  | .str s => 10 * s.length + 2
  | .tup xs => wtA xs + 3
  | .tuk xs => wtA xs + 3
  | .lst xs => wtA xs + 3
  | .lsk xs => wtA xs + 3
  | .dct kvs => wtK kvs + 3
  | _ => 0
def wtA : List D → Nat
  | [] => 0
  | x :: xs => wtD x + 2 + wtA xs
def wtK : List (D × D) → Nat
  | [] => 0
  | (k, x) :: xs => wtD k + wtD x + 4 + wtK xs
end
def lensS (ts : List Str) : Nat := (ts.map fun t => t.length + 2).sum
theorem textFrom_le : ∀ (ts : List Str) (k : Nat) (acc : Str), (textFrom k acc ts).length ≤ acc.length + lensS ts
  | [], k, acc => Nat.le_add_right _ _
  | t :: r, k, acc => by
    have h := textFrom_le r (k + 1) (acc ++ (if k > 0 then ", " else "" : String) ++ t)
    have e : textFrom k acc (t :: r) = textFrom (k + 1) (acc ++ (if k > 0 then ", " else "" : String) ++ t) r := rfl
    rw [e]
    refine Nat.le_trans h ?_
    rw [strLen_append, strLen_append]
    have : (Str.ofString (if k > 0 then ", " else "" : String)).length ≤ 2 := by split <;> decide
    have e2 : lensS (t :: r) = t.length + 2 + lensS r := by unfold lensS; rw [List.map_cons, List.sum_cons]
    rw [e2]
    omega
theorem lens_sum (ts : List Str) : (ts.map (·.length)).sum + ts.length * 2 = lensS ts := by
  unfold lensS
  induction ts with
  | nil => rfl
  | cons t r ih => rw [List.map_cons, List.map_cons, List.sum_cons, List.sum_cons, List.length_cons]; omega
theorem joinS_le (ts : List Str) : (Str.join ", " ts).length ≤ lensS ts := by
  have h := join_le ", " ts
  rw [TL.join_eq, show (", " : Str).length = 2 from rfl, lens_sum] at h
  exact h
theorem py_tup {ps : List PyData} {n : Nat} (h : lensS (PyData.shownAll ps) ≤ n) : (PyData.tuple ps).shown.length ≤ n + 3 := by
  rw [PyData.shown]
  unfold tupleText
  have := joinS_le (PyData.shownAll ps)
  rw [strLen_append, strLen_append]
  have e1 : ("(" : Str).length = 1 := rfl
  have : (Str.ofString (if (PyData.shownAll ps).length == 1 then ",)" else ")" : String)).length ≤ 2 := by split <;> decide
  omega
theorem py_lst {ps : List PyData} {n : Nat} (h : lensS (PyData.shownAll ps) ≤ n) : (PyData.list ps).shown.length ≤ n + 3 := by
  rw [PyData.shown]
  unfold listText
  have := textFrom_le (PyData.shownAll ps) 0 "["
  rw [strLen_append]
  have e1 : ("[" : Str).length = 1 := rfl
  have e2 : ("]" : Str).length = 1 := rfl
  have e3 : (Str.ofString "]").length = 1 := rfl
  omega
mutual
theorem py_ok : ∀ d : D, okD d = true → ∃ p, D.py true d = some p ∧ p.showable = true ∧ p.depth = dpD d ∧ p.shown.length ≤ wtD d
  | .non, _ => ⟨.none, rfl, by simp [PyData.showable], by simp [PyData.depth, dpD], by simp only [PyData.shown, wtD]; decide⟩
  | .bl b, _ => ⟨.bool b, rfl, by simp [PyData.showable], by simp [PyData.depth, dpD], by simp only [PyData.shown, wtD]; cases b <;> decide⟩
  | .int i, h => by
    rw [okD] at h
    refine ⟨.int i, rfl, by rw [PyData.showable]; exact h, by simp [PyData.depth, dpD], ?_⟩
    simp only [PyData.shown, wtD]
    have := int_text_length_le (a := i) (k := i.natAbs.log2 + 1) (by omega) (by omega)
    rw [PySem.ofString_length]
    omega
  | .str s, h => by
    rw [okD] at h
    have h : ∀ c ∈ s.cps.toList, c < 16 ^ 8 := fun c hc => of_decide_eq_true (List.all_eq_true.mp h c hc)
    refine ⟨.str s, rfl, by simp [PyData.showable], by simp [PyData.depth, dpD], ?_⟩
    simp only [PyData.shown, wtD]
    exact StrLaws.reprText_len s h
  | .tup xs, h => by rw [okD] at h; obtain ⟨ps, h1, h2, h3, h4⟩ := py_okA xs h; exact ⟨.tuple ps, by rw [D.py, h1]; rfl, by rw [PyData.showable]; exact h2, by rw [PyData.depth, dpD, h3], py_tup h4⟩
  | .tuk xs, h => by rw [okD] at h; obtain ⟨ps, h1, h2, h3, h4⟩ := py_okA xs h; exact ⟨.tuple ps, by rw [D.py, h1]; rfl, by rw [PyData.showable]; exact h2, by rw [PyData.depth, dpD, h3], py_tup h4⟩
  | .lst xs, h => by rw [okD] at h; obtain ⟨ps, h1, h2, h3, h4⟩ := py_okA xs h; exact ⟨.list ps, by rw [D.py, h1]; rfl, by rw [PyData.showable]; exact h2, by rw [PyData.depth, dpD, h3], py_lst h4⟩
  | .lsk xs, h => by rw [okD] at h; obtain ⟨ps, h1, h2, h3, h4⟩ := py_okA xs h; exact ⟨.list ps, by rw [D.py, h1]; rfl, by rw [PyData.showable]; exact h2, by rw [PyData.depth, dpD, h3], py_lst h4⟩
  | .dct kvs, h => by
    rw [okD] at h
    obtain ⟨ps, h1, h2, h3, h4⟩ := py_okK kvs h
    refine ⟨.dict ps, by rw [D.py, h1]; rfl, by rw [PyData.showable]; exact h2, by rw [PyData.depth, dpD, h3], ?_⟩
    rw [PyData.shown, wtD]
    unfold dictText
    have := joinS_le (PyData.shownKv ps)
    rw [strLen_append, strLen_append]
    have e1 : ("{" : Str).length = 1 := rfl
    have e2 : ("}" : Str).length = 1 := rfl
    have e3 : (Str.ofString "}").length = 1 := rfl
    omega
  | .dcu _, h => by simp [okD] at h
  | .ins _ _, h => by simp [okD] at h
  | .cel _, h => by simp [okD] at h
  | .fn _, h => by simp [okD] at h
  | .ty _, h => by simp [okD] at h
  | .xob _ _, h => by simp [okD] at h
theorem py_okA : ∀ ds : List D, okA ds = true → ∃ ps, D.pyA true ds = some ps ∧ PyData.showableAll ps = true ∧ PyData.depthAll ps = dpA ds ∧ lensS (PyData.shownAll ps) ≤ wtA ds
  | [], _ => ⟨[], by rw [D.pyA], by rw [PyData.showableAll], by rw [PyData.depthAll, dpA], by rw [PyData.shownAll, wtA]; exact Nat.le_refl _⟩
  | d :: ds, h => by
    rw [okA, Bool.and_eq_true] at h
    obtain ⟨p, a1, a2, a3, a4⟩ := py_ok d h.1
    obtain ⟨ps, b1, b2, b3, b4⟩ := py_okA ds h.2
    refine ⟨p :: ps, by rw [D.pyA, a1, b1]; rfl, by rw [PyData.showableAll, a2, b2]; rfl, by rw [PyData.depthAll, dpA, a3, b3], ?_⟩
    rw [PyData.shownAll, wtA]
    have e2 : lensS (p.shown :: PyData.shownAll ps) = p.shown.length + 2 + lensS (PyData.shownAll ps) := by unfold lensS; rw [List.map_cons, List.sum_cons]
    omega
theorem py_okK : ∀ ds : List (D × D), okK ds = true → ∃ ps, D.pyK true ds = some ps ∧ PyData.showableKv ps = true ∧ PyData.depthKv ps = dpK ds ∧ lensS (PyData.shownKv ps) ≤ wtK ds
  | [], _ => ⟨[], by rw [D.pyK], by rw [PyData.showableKv], by rw [PyData.depthKv, dpK], by rw [PyData.shownKv, wtK]; exact Nat.le_refl _⟩
  | (k, d) :: ds, h => by
    rw [okK, Bool.and_eq_true, Bool.and_eq_true] at h
    obtain ⟨q, c1, c2, c3, c4⟩ := py_ok k h.1.1
    obtain ⟨p, a1, a2, a3, a4⟩ := py_ok d h.1.2
    obtain ⟨ps, b1, b2, b3, b4⟩ := py_okK ds h.2
    refine ⟨(q, p) :: ps, by rw [D.pyK, c1, a1, b1]; rfl, by rw [PyData.showableKv, c2, a2, b2]; rfl, by rw [PyData.depthKv, dpK, a3, b3, c3], ?_⟩
    rw [PyData.shownKv, wtK]
    have e2 : lensS ((q.shown ++ ": " ++ p.shown) :: PyData.shownKv ps) = (q.shown ++ ": " ++ p.shown).length + 2 + lensS (PyData.shownKv ps) := by unfold lensS; rw [List.map_cons, List.sum_cons]
    rw [e2, strLen_append, strLen_append]
    have e1 : (": " : Str).length = 2 := rfl
    have e3 : (Str.ofString ": ").length = 2 := rfl
    omega
end
theorem repr_okD {d : D} (h : okD d = true) (h1 : dpD d ≤ 60) (h2 : wtD d ≤ 16777216) : ∃ p, D.py true d = some p ∧ reprD d = some (.fz (.str p.shown)) ∧ p.shown.length ≤ wtD d := by
  obtain ⟨p, a1, a2, a3, a4⟩ := py_ok d h
  refine ⟨p, a1, ?_, a4⟩
  unfold reprD
  rw [a1]
  show (if p.showable = true ∧ p.depth ≤ 60 ∧ p.shown.length ≤ 16777216 then _ else _) = _
  rw [if_pos ⟨a2, by omega, by omega⟩]
/-! ### turns that go through -/
/-- a comprehension of which each turn gives one thing and changes nothing -/
theorem lc_map {vs : List Nat} {t : MT} {mt : M Bool} {me : M D} {env : List (Option O)} {mu : List O} (f : D → D) : ∀ (ds : List D),
    (∀ d ∈ ds, ∃ e1 e2 e3, t d ⟨env, mu⟩ = some ⟨e1, mu⟩ ∧ mt ⟨e1, mu⟩ = .ok true ⟨e2, mu⟩ ∧ me ⟨e2, mu⟩ = .ok (f d) ⟨e3, mu⟩ ∧ freeE e3 vs = true ∧ wipeE e3 vs = env) →
    lcL vs t mt me ds ⟨env, mu⟩ = .ok (ds.map f) ⟨env, mu⟩
  | [], _ => rfl
  | d :: ds, h => by
    obtain ⟨e1, e2, e3, h1, h2, h3, h4, h5⟩ := h d List.mem_cons_self
    have ih := lc_map f ds (fun d hd => h d (List.mem_cons_of_mem _ hd))
    rw [st_lc1, h1]
    show ((mt ⟨e1, mu⟩).bind (lcT vs t mt me ds)) = _
    rw [h2, st_bok, st_lcT, if_pos rfl, h3, st_bok, st_lcY, if_pos h4, h5, ih, st_bok]
    rfl
/-- .. with a condition -/
theorem lc_filter {vs : List Nat} {t : MT} {mt : M Bool} {me : M D} {env : List (Option O)} {mu : List O} (q : D → Bool) (f : D → D) : ∀ (ds : List D),
    (∀ d ∈ ds, ∃ e1 e2, t d ⟨env, mu⟩ = some ⟨e1, mu⟩ ∧ mt ⟨e1, mu⟩ = .ok (q d) ⟨e2, mu⟩ ∧ (q d = false → freeE e2 vs = true ∧ wipeE e2 vs = env) ∧
      (q d = true → ∃ e3, me ⟨e2, mu⟩ = .ok (f d) ⟨e3, mu⟩ ∧ freeE e3 vs = true ∧ wipeE e3 vs = env)) →
    lcL vs t mt me ds ⟨env, mu⟩ = .ok ((ds.filter q).map f) ⟨env, mu⟩
  | [], _ => rfl
  | d :: ds, h => by
    obtain ⟨e1, e2, h1, h2, h3, h4⟩ := h d List.mem_cons_self
    have ih := lc_filter q f ds (fun d hd => h d (List.mem_cons_of_mem _ hd))
    rw [st_lc1, h1]
    show ((mt ⟨e1, mu⟩).bind (lcT vs t mt me ds)) = _
    rw [h2, st_bok, st_lcT]
    cases hq : q d with
    | false =>
      obtain ⟨f1, f2⟩ := h3 hq
      rw [if_neg (by simp), if_pos f1, f2, ih, List.filter_cons_of_neg (by simp [hq])]
    | true =>
      obtain ⟨e3, k1, k2, k3⟩ := h4 hq
      rw [if_pos rfl, k1, st_bok, st_lcY, if_pos k2, k3, ih, st_bok, List.filter_cons_of_pos hq]
      rfl
theorem bls_map {α : Type} (f : α → Bool) (l : List α) : blsD (l.map fun x => .bl (f x)) = some (l.map f) := by
  induction l with
  | nil => rfl
  | cons x l ih => rw [List.map_cons, blsD, ih]; rfl
/-- a comprehension of which each turn may change the cells -/
theorem lc_inv {vs : List Nat} {t : MT} {mt : M Bool} {me : M D} {env : List (Option O)} (N : Nat) (I : Nat → List O → Prop) (P : D → Prop)
    (h : ∀ d mu n, n < N → I n mu → ∃ e1 e2 e3 y mu', t d ⟨env, mu⟩ = some ⟨e1, mu⟩ ∧ mt ⟨e1, mu⟩ = .ok true ⟨e2, mu⟩ ∧ me ⟨e2, mu⟩ = .ok y ⟨e3, mu'⟩ ∧ P y ∧ freeE e3 vs = true ∧ wipeE e3 vs = env ∧ I (n + 1) mu') :
    ∀ (ds : List D) (mu : List O) (n : Nat), n + ds.length ≤ N → I n mu → ∃ ys mu', lcL vs t mt me ds ⟨env, mu⟩ = .ok ys ⟨env, mu'⟩ ∧ ys.length = ds.length ∧ (∀ y ∈ ys, P y) ∧ I (n + ds.length) mu'
  | [], mu, n, _, hi => ⟨[], mu, rfl, rfl, (fun _ h => nomatch h), hi⟩
  | d :: ds, mu, n, hn, hi => by
    rw [List.length_cons] at hn
    obtain ⟨e1, e2, e3, y, mu1, h1, h2, h3, hp, h4, h5, h6⟩ := h d mu n (by omega) hi
    obtain ⟨ys, mu2, k1, k2, k3, k4⟩ := lc_inv N I P h ds mu1 (n + 1) (by omega) h6
    refine ⟨y :: ys, mu2, ?_, by rw [List.length_cons, List.length_cons, k2], fun z hz => ?_, by rw [List.length_cons, show n + (ds.length + 1) = n + 1 + ds.length by omega]; exact k4⟩
    · rw [st_lc1, h1]
      show ((mt ⟨e1, mu⟩).bind (lcT vs t mt me ds)) = _
      rw [h2, st_bok, st_lcT, if_pos rfl, h3, st_bok, st_lcY, if_pos h4, h5, k1, st_bok]
      rfl
    · rcases List.mem_cons.mp hz with rfl | hz
      · exact hp
      · exact k3 z hz
theorem all_true : ∀ ds : List D, (∀ d ∈ ds, d = .bl true) → allD (.lst ds) = some (.fz (.bl true)) := fun ds h => by
  have e : ds = (List.replicate ds.length true).map D.bl := by
    rw [List.map_replicate]
    exact List.eq_replicate_iff.mpr ⟨rfl, h⟩
  rw [e]
  show (blsD _).map _ = _
  have := bls_map (fun b : Bool => b) (List.replicate ds.length true)
  rw [List.map_id'] at this
  rw [this]
  simp
theorem cutD_mem {ds : List D} {lo hi : Option Int} : ∀ d ∈ cutD ds lo hi, d ∈ ds := fun d h => List.mem_of_mem_drop (List.mem_of_mem_take h)
theorem cutD_len {ds : List D} {lo hi : Option Int} : (cutD ds lo hi).length ≤ ds.length := by
  unfold cutD
  rw [List.length_take, List.length_drop]
  omega
/-- a loop with an invariant on the state, by the things behind -/
theorem for_inv {t : MT} {mb : M Fl} (I : List D → S → Prop) (hs : ∀ d ds s, I (d :: ds) s → ∃ s1 s2, t d s = some s1 ∧ (mb s1 = .ok .nx s2 ∨ mb s1 = .ok .ct s2) ∧ I ds s2) :
    ∀ (ds : List D) (s : S), I ds s → ∃ s', forL t mb ds s = .ok .nx s' ∧ I [] s'
  | [], s, h => ⟨s, rfl, h⟩
  | d :: ds, s, h => by
    obtain ⟨s1, s2, h1, h2, h3⟩ := hs d ds s h
    obtain ⟨s', k1, k2⟩ := for_inv I hs ds s2 h3
    refine ⟨s', ?_, k2⟩
    obtain ⟨env, mu⟩ := s
    rw [st_for1, h1]
    show ((mb s1).bind (forK t mb ds)) = _
    rcases h2 with h2 | h2 <;> rw [h2, st_bok] <;> exact k1
end L2.Tr

namespace L2.Tr
open PySem PySem.Spec PyProof.Rows L2 L2.Pc
/-! ### steps with conditions, which a discharger shows -/
section
variable {α : Type} {p : Prop} [Decidable p] {a b : α}
theorem c_if (h : p) : (if p then a else b) = a := if_pos h
theorem c_ifn (h : ¬ p) : (if p then a else b) = b := if_neg h
theorem c_dt (h : p) : decide p = true := decide_eq_true h
theorem c_df (h : ¬ p) : decide p = false := decide_eq_false h
end
section
variable {CT : CTab} {c f g : Str} {d e : D} {o x : O} {fs : List (Str × D)} {os : List (Str × O)}
theorem c_fld (h : okF CT c f = true) : fldO CT f (.fz (.ins c fs)) = (fs.lookup f).map .fz := by
  unfold fldO fldD
  dsimp only
  rw [if_pos h]
theorem c_fldi (h : okF CT c f = true) : fldO CT f (.ins c os) = os.lookup f := by
  unfold fldO
  dsimp only
  rw [if_pos h]
theorem c_lk0 {β : Type} {d : β} {r : List (Str × β)} : List.lookup f ((f, d) :: r) = some d := by simp [List.lookup]
theorem c_lk1 {β : Type} {d : β} {r : List (Str × β)} (h : (f == g) = false) : List.lookup f ((g, d) :: r) = List.lookup f r := by simp [List.lookup, h]
theorem c_pu0 : putO f o [] = [(f, o)] := rfl
theorem c_pu1 : putO f o ((f, x) :: os) = (f, o) :: os := by unfold putO; rw [if_pos rfl]
theorem c_pu2 (h : (f == g) = false) : putO f o ((g, x) :: os) = (g, x) :: putO f o os := by
  conv => lhs; unfold putO
  rw [if_neg]
  intro e
  rw [e] at h
  simp at h
def chB (o : Option Bool) (m : M O) : M O := match o with
  | some true => m
  | some false => ret (.fz (.bl false))
  | none => fun _ => .no
theorem c_chK {g g' : D → D → Option O} {mc : M O} {x y : O} : chainK g g' mc x y = chB ((g x.toD y.toD).bind asB) (bnd mc fun z => ofO (g' y.toD z.toD)) := by
  unfold chainK chB
  rfl
theorem c_chT {m : M O} : chB (some true) m = m := rfl
theorem c_chF {m : M O} : chB (some false) m = ret (.fz (.bl false)) := rfl
theorem c_div {i j : Int} (h : 0 < j ∧ j < 1073741824) : divD (.int i) (.int j) = some (.fz (.int (i / j))) := st_divi h.1 h.2
theorem c_str {i : Int} (h : -18446744073709551616 < i ∧ i < 18446744073709551616) : strD (.int i) = some (.fz (.str (toString i))) := by
  refine st_stri ?_
  by_cases h0 : i.natAbs = 0
  · rw [h0]; decide
  · have : i.natAbs.log2 < 64 := (Nat.log2_lt h0).mpr (by omega)
    omega
section
variable {tbl : List (Str × MF)} {g : D → Option O} {env : List (Option O)} {mu : List O} {ds : List D}
theorem c_rs1 {b : Bool} : runS tbl g (.bl b) ⟨env, mu⟩ = ofO (g (.bl b)) ⟨env, mu⟩ := rfl
theorem c_rs2 {i : Int} : runS tbl g (.int i) ⟨env, mu⟩ = ofO (g (.int i)) ⟨env, mu⟩ := rfl
theorem c_rs3 {a : Str} : runS tbl g (.str a) ⟨env, mu⟩ = ofO (g (.str a)) ⟨env, mu⟩ := rfl
theorem c_rs4 : runS tbl g (.tup ds) ⟨env, mu⟩ = ofO (g (.tup ds)) ⟨env, mu⟩ := rfl
theorem c_rs5 : runS tbl g (.lst ds) ⟨env, mu⟩ = ofO (g (.lst ds)) ⟨env, mu⟩ := rfl
theorem c_rs6 : runS tbl g .non ⟨env, mu⟩ = ofO (g .non) ⟨env, mu⟩ := rfl
theorem c_rs7 : runS tbl g (.tuk ds) ⟨env, mu⟩ = ofO (g (.tuk ds)) ⟨env, mu⟩ := rfl
theorem c_rs8 {kvs : List (D × D)} : runS tbl g (.dct kvs) ⟨env, mu⟩ = ofO (g (.dct kvs)) ⟨env, mu⟩ := rfl
end
theorem c_runI {tbl : List (Str × MF)} {g : D → Option O} {c : Str} {fs : List (Str × D)} {env : List (Option O)} {mu : List O} : runS tbl g (.ins c fs) ⟨env, mu⟩ = (match tbl.lookup c with
  | some mf => (match noExc (runF mf [.ins c fs] ⟨env, mu⟩) with | .ok o s' => ofO (strO o) s' | _ => R.no)
  | none => R.no) := rfl
theorem c_strO {a : Str} : strO (.fz (.str a)) = some (.fz (.str a)) := rfl
theorem c_al0 : List.all ([] : List O) isFz = true := rfl
theorem c_al1 {os : List O} : List.all (.fz d :: os) isFz = List.all os isFz := rfl
theorem c_g0 {mu : List O} : getM (o :: mu) 0 = some o := rfl
theorem c_s0 {mu : List O} {o' : O} : setM (o :: mu) 0 o' = o' :: mu := rfl
theorem c_at5 {β : Type} {x y z w v u : β} {r : List β} : atI (x :: y :: z :: w :: v :: u :: r) 5 = some u := by show atI _ ((5 : Nat) : Int) = _; rw [atN]; rfl
theorem c_isi {xs : List Str} {ds : List D} : isiO xs ds = isiO xs ds := rfl
end
theorem c_ltlen (s : String) : (Str.ofString s).length = s.length := PySem.ofString_length s
end L2.Tr

namespace L2.Tr
open PySem PySem.Spec PyProof.Rows L2 L2.Pc
section
variable {P : Program} {w : World} {G : Gi} {base : Heap} {gb : Bool} {k j n : Nat} {f : Addr} {fd : FuncData} {ps ks : List Str} {m : MF} {x c mn : Str} {gD : List D → List D → List D}
theorem FnT.toG (F : FnT P w G base gb k f fd ps m) : FnG P w G.K G.mg base (L2.CX P w) k f fd ps (SpM G ps.length m) :=
  ⟨fun _ _ _ _ ⟨_, _, _, _, _, _, _, h, _⟩ => h, fun A o s H args us vs Q E hg hr e b v h => F.go A o s H args us vs Q E (fun _ => hg) hr e b v h⟩
/-! ### forms of calls -/
/-- values picked: 0 the written ones, 1 the defaults, 2 the keywords' -/
def pick {α : Type} : List (Nat × Nat) → List α → List α → List α → List α
  | [], _, _, _ => []
  | (0, i) :: r, us, ds, ws => us[i]?.toList ++ pick r us ds ws
  | (1, i) :: r, us, ds, ws => ds[i]?.toList ++ pick r us ds ws
  | (_, i) :: r, us, ds, ws => ws[i]?.toList ++ pick r us ds ws
theorem paired_opt {α β : Type} {R : α → β → Prop} : ∀ {us : List α} {vs : List β} (i : Nat), Paired R us vs → Paired R us[i]?.toList vs[i]?.toList
  | _, _, _, .nil => by simpa using Paired.nil
  | _, _, 0, .cons h _ => by simpa using Paired.cons h .nil
  | _, _, i + 1, .cons _ hs => by simpa using paired_opt i hs
theorem paired_app {α β : Type} {R : α → β → Prop} : ∀ {us us' : List α} {vs vs' : List β}, Paired R us vs → Paired R us' vs' → Paired R (us ++ us') (vs ++ vs')
  | _, _, _, _, .nil, k => k
  | _, _, _, _, .cons h hs, k => .cons h (paired_app hs k)
theorem pick_paired {α β : Type} {R : α → β → Prop} {us ds ws : List α} {us' ds' ws' : List β} (h1 : Paired R us us') (h2 : Paired R ds ds') (h3 : Paired R ws ws') : ∀ code : List (Nat × Nat), Paired R (pick code us ds ws) (pick code us' ds' ws')
  | [] => .nil
  | (0, i) :: r => paired_app (paired_opt i h1) (pick_paired h1 h2 h3 r)
  | (1, i) :: r => paired_app (paired_opt i h2) (pick_paired h1 h2 h3 r)
  | (_ + 2, i) :: r => paired_app (paired_opt i h3) (pick_paired h1 h2 h3 r)
theorem rp_paired {F : Hp} {al : List Addr} : ∀ {vs : List V} {ds : List D}, RpA G F al vs ds → Paired (Rp G F al) vs ds
  | _, _, .nil => .nil
  | _, _, .cons h hs => .cons h (rp_paired hs)
theorem paired_rp {F : Hp} {al : List Addr} : ∀ {vs : List V} {ds : List D}, Paired (Rp G F al) vs ds → RpA G F al vs ds
  | _, _, .nil => .nil
  | _, _, .cons h hs => .cons h (paired_rp hs)
theorem bd_pos (hb : ∀ us : List Value, us.length = ps.length → bindArgs fd ⟨us, []⟩ = pure (ps.zip us)) : BdD G.K fd ps ps.length [] (fun ds _ => ds) :=
  ⟨_, _, kb_pos hb, fun vs _ h _ => h, fun _ _ _ _ _ _ _ r _ _ _ => r⟩
theorem kn_pos (F : FnT P w G base gb k f fd ps m) (hm : G.mg x = some (.ref f)) (hk : PySem.W.keepIn G.K (.ref f) = true) (hb : ∀ us : List Value, us.length = ps.length → bindArgs fd ⟨us, []⟩ = pure (ps.zip us)) :
    KnT P w G base gb x k ps.length [] (fun ds _ => ds) m := ⟨f, fd, ps, F, hm, hk, bd_pos hb⟩
theorem me_pos {C : Addr} (F : FnT P w G base gb k f fd ps m) (hm : G.mg c = some (.ref C)) (hC : Cls G.K C) (hM : Meth G.K C mn f) (hb : ∀ us : List Value, us.length = ps.length → bindArgs fd ⟨us, []⟩ = pure (ps.zip us)) :
    MeT P w G base gb c mn k ps.length [] (fun ds _ => ds) m := ⟨C, f, fd, ps, hm, hC, hM, F, bd_pos hb⟩
theorem bi_pos {p : Str} (hb : ∀ us : List Value, us.length = (p :: ps).length → bindArgs fd ⟨us, []⟩ = pure ((p :: ps).zip us)) : BdI G.K fd (p :: ps) ps.length [] (fun ds _ => ds) :=
  ⟨_, _, kb_pos hb, fun x vs zs h _ => ⟨vs, rfl, by rw [List.length_cons, List.length_cons, h], fun _ _ _ _ _ r _ => r⟩⟩
theorem mk_pos {C : Addr} {p : Str} (M : Mk G.K C f) (hm : G.mg x = some (.ref C)) (F : FnI P w G base k f fd (p :: ps) x m) (hb : ∀ us : List Value, us.length = (p :: ps).length → bindArgs fd ⟨us, []⟩ = pure ((p :: ps).zip us)) :
    MkT P w G base x k ps.length [] (fun ds _ => ds) m := ⟨C, f, fd, p :: ps, M, hm, F, bi_pos hb⟩
theorem binds_pos (hb : ∀ us : List Value, us.length = ps.length → bindArgs fd ⟨us, []⟩ = pure (ps.zip us)) : Binds G.K fd ps [] := Binds.all hb
def selfP {α : Type} (code : List (Nat × Nat)) (us ds ws : List α) : List α := match us with
  | a :: vs => a :: pick code vs ds ws
  | [] => []
/-- a new instance of a class whose __init__ has defaults -/
theorem mk_dfl {C : Addr} {p : Str} {params : Arguments} {body : List Stmt} {scope : Scope} {dvs : List V} {dds : List D} {kws : List (Str × V)} {qual y : Str} (code : List (Nat × Nat)) (M : Mk G.K C f) (hm : G.mg x = some (.ref C)) (F : FnI P w G base k f fd (p :: ps) x m)
    (FD : FunD G.K y qual params body scope dvs kws f fd) (hd : dvs ≠ [])
    (hdd : ∀ (G : Gi) F al, RpA G F al dvs dds) (hl : ∀ (vs zs : List V), vs.length = n → zs.length = ks.length → (pick code vs dvs zs).length = ps.length)
    (h : ∀ (T : Addr) (kV doc pm : Value) (an : Option Addr) (cdv ct : Value) (us its ws : List Value), us.length = n + 1 → its.length = dvs.length → ws.length = ks.length →
      ∃ k, bindArgs (PySem.W.fnOf y qual params body scope (.ref T) kV doc pm an cdv ct) ⟨us, ks.zip ws⟩ = seqItems? (.ref T) >>= k ∧ k (some its.toArray) = pure ((p :: ps).zip (selfP code us its ws))) :
    MkT P w G base x k n ks (fun ds es => pick code ds dds es) m := by
  obtain ⟨its, hb⟩ := FD.kbindsD (n + 1) ks (fun us ds ws => selfP code us ds ws) hd (fun a b c => by
    cases a with
    | nil => exact .nil
    | cons h hs => exact .cons h (pick_paired hs b c code)) h
  refine ⟨C, f, fd, p :: ps, M, hm, F, ⟨_, _, hb, fun a vs zs l1 l2 => ⟨pick code vs dvs zs, rfl, by rw [List.length_cons, List.length_cons, hl vs zs l1 l2], fun G' F' al' ds es r1 r2 => ?_⟩⟩⟩
  exact paired_rp (pick_paired (rp_paired r1) (rp_paired (hdd G' F' al')) (rp_paired r2) code)
/-- by keywords, without defaults -/
theorem kn_kw (code : List (Nat × Nat)) (F : FnT P w G base gb k f fd ps m) (hm : G.mg x = some (.ref f)) (hk : PySem.W.keepIn G.K (.ref f) = true)
    (hl : ∀ (vs zs : List V), vs.length = n → zs.length = ks.length → (pick code vs [] zs).length = ps.length)
    (h : ∀ us ws : List Value, us.length = n → ws.length = ks.length → bindArgs fd ⟨us, ks.zip ws⟩ = pure (ps.zip (pick code us [] ws))) : KnT P w G base gb x k n ks (fun ds es => pick code ds [] es) m :=
  ⟨f, fd, ps, F, hm, hk, fun us ws => pick code us [] ws, fun vs zs => pick code vs [] zs, ⟨fun s us ws _ l1 l2 => .of_eq (h us ws l1 l2), fun r1 r2 => pick_paired r1 .nil r2 code⟩, hl,
    fun _ _ _ _ _ _ _ r1 r2 _ _ => paired_rp (pick_paired (rp_paired r1) .nil (rp_paired r2) code)⟩
theorem me_kw {C : Addr} (code : List (Nat × Nat)) (F : FnT P w G base gb k f fd ps m) (hm : G.mg c = some (.ref C)) (hC : Cls G.K C) (hM : Meth G.K C mn f)
    (hl : ∀ (vs zs : List V), vs.length = n → zs.length = ks.length → (pick code vs [] zs).length = ps.length)
    (h : ∀ us ws : List Value, us.length = n → ws.length = ks.length → bindArgs fd ⟨us, ks.zip ws⟩ = pure (ps.zip (pick code us [] ws))) : MeT P w G base gb c mn k n ks (fun ds es => pick code ds [] es) m :=
  ⟨C, f, fd, ps, hm, hC, hM, F, fun us ws => pick code us [] ws, fun vs zs => pick code vs [] zs, ⟨fun s us ws _ l1 l2 => .of_eq (h us ws l1 l2), fun r1 r2 => pick_paired r1 .nil r2 code⟩, hl,
    fun _ _ _ _ _ _ _ r1 r2 _ _ => paired_rp (pick_paired (rp_paired r1) .nil (rp_paired r2) code)⟩
theorem mk_kwn {C : Addr} {p : Str} (code : List (Nat × Nat)) (M : Mk G.K C f) (hm : G.mg x = some (.ref C)) (F : FnI P w G base k f fd (p :: ps) x m)
    (hl : ∀ (vs zs : List V), vs.length = n → zs.length = ks.length → (pick code vs [] zs).length = ps.length)
    (h : ∀ us ws : List Value, us.length = n + 1 → ws.length = ks.length → bindArgs fd ⟨us, ks.zip ws⟩ = pure ((p :: ps).zip (selfP code us [] ws))) : MkT P w G base x k n ks (fun ds es => pick code ds [] es) m :=
  ⟨C, f, fd, p :: ps, M, hm, F, fun us ws => selfP code us [] ws, fun vs zs => selfP code vs [] zs, ⟨fun s us ws _ l1 l2 => .of_eq (h us ws l1 l2), fun r1 r2 => by
    cases r1 with
    | nil => exact .nil
    | cons h hs => exact .cons h (pick_paired hs .nil r2 code)⟩, fun a vs zs l1 l2 => ⟨pick code vs [] zs, rfl, by rw [List.length_cons, List.length_cons, hl vs zs l1 l2], fun _ _ _ _ _ r1 r2 => paired_rp (pick_paired (rp_paired r1) .nil (rp_paired r2) code)⟩⟩
/-- the script, as the tree function reads it -/
theorem law_sp {H : Hp} {a : Addr} {ns : List Int} (hO : Only H) (hS : SqL G.K H a (ns.map V.int)) (hm : ∃ mu, m [.lsk (ns.map .int)] [] = .ok (.fz (.bl true)) ⟨[], mu⟩) :
    SpM G 1 m [.ref a] H (fun v _ => v = .bl true) fun _ _ _ => False := by
  obtain ⟨mu, e⟩ := hm
  have hints : ∀ ns : List Int, RpA G H [] (ns.map V.int) (ns.map D.int) := fun ns => by
    induction ns with
    | nil => exact .nil
    | cons i ns ih => exact .cons (.int i) ih
  refine ⟨⟨H, H, [], [], []⟩, [.lsk (ns.map .int)], [], rfl, rfl, ⟨fun _ _ h => h, fun b h => by simp at h, .nil, .nil, fun b h => (nomatch h), .nil, .nil⟩, .cons (.lsk hS (hints ns)) .nil, rfl, ?_⟩
  rw [e]
  intro v c' fp r g t f nw
  exact own_bl t
end
/-! ### tables -/
theorem lk_mem {α : Type} {c : Str} {v : α} : ∀ {l : List (Str × α)}, l.lookup c = some v → (c, v) ∈ l
  | [], h => by cases h
  | (n, x) :: l, h => by
    unfold List.lookup at h
    cases q : c == n with
    | true => rw [q] at h; cases h; rw [beq_iff_eq.mp q]; exact List.mem_cons_self
    | false => rw [q] at h; exact List.mem_cons_of_mem _ (lk_mem h)
section
variable {P : Program} {w : World} {G : Gi} {base : Heap} {gb : Bool} {k j n : Nat} {f C : Addr} {fd : FuncData} {ps ks : List Str} {m : MF} {x c mn : Str}
def SpRow (P : Program) (w : World) (G : Gi) (base : Heap) (gb : Bool) (k : Nat) (mn : Str) (p : Str × MF) : Prop := ∃ (C f : Addr) (fd : FuncData) (ps : List Str), G.mg p.1 = some (.ref C) ∧ PySem.W.findIn G.K (.ref C) mn = some (some (.ref f)) ∧ PySem.W.isFn G.K (.ref f) = true ∧
    FnT P w G base gb k f fd ps p.2 ∧ ps.length = 1 ∧ Binds G.K fd ps []
theorem sp_of {tbl : List (Str × MF)} (h : ∀ p ∈ tbl, SpRow P w G base gb k mn p) : SpF P w G base gb k mn tbl := ⟨fun c mf e => h (c, mf) (lk_mem e)⟩
def EqRow (P : Program) (w : World) (G : Gi) (base : Heap) (gb : Bool) (k : Nat) (p : Str × (MF × (D → D → Option Bool))) : Prop :=
  (∃ (C f : Addr) (fd : FuncData) (ps : List Str), G.mg p.1 = some (.ref C) ∧ EqK G.K C f ∧ FnT P w G base gb k f fd ps p.2.1 ∧ ps.length = 2 ∧ Binds G.K fd ps []) ∧
  (∀ x y b mu, p.2.2 x y = some b → p.2.1 [x, y] mu = .ok (.fz (.bl b)) ⟨[], mu⟩) ∧ ∀ F al v x y b, (insOf x).isSome = true → (insOf y).isSome = true → Rp G F al v x → Rp G F al v y → p.2.2 x y = some b → b = true
theorem eq_of {tbl : ETab} (h : ∀ p ∈ tbl, EqRow P w G base gb k p) (hc : ∀ c ∈ tbl.map (·.1), ∀ c' ∈ tbl.map (·.1), ∀ C C', G.mg c = some (.ref C) → G.mg c' = some (.ref C') → PySem.W.notFirst G.K C (.ref C') = true) : EqTab P w G base gb k tbl where
  ex := fun c mp e => (h (c, mp) (lk_mem e)).1
  run := fun c mp e => (h (c, mp) (lk_mem e)).2.1
  same := fun c mp e => (h (c, mp) (lk_mem e)).2.2
  cross := fun c c' C C' h1 h2 e1 e2 => by
    obtain ⟨a, q1⟩ := Option.isSome_iff_exists.mp h1
    obtain ⟨b, q2⟩ := Option.isSome_iff_exists.mp h2
    exact hc c (List.mem_map.mpr ⟨_, lk_mem q1, rfl⟩) c' (List.mem_map.mpr ⟨_, lk_mem q2, rfl⟩) C C' e1 e2
theorem kc_of {CT : CTab} (h : ∀ p ∈ CT, ∃ C, G.mg p.1 = some (.ref C) ∧ Cls G.K C ∧ ∀ f ∈ p.2, NoAttr G.K C f) : Kc G CT := ⟨fun c f e => by
  unfold okF at e
  split at e
  · rename_i fl q
    obtain ⟨C, h1, h2, h3⟩ := h (c, fl) (lk_mem q)
    exact ⟨C, h1, h2, h3 f (by simpa using e)⟩
  · cases e⟩
def IsRow (G : Gi) (c : Str) : Prop := ∃ C, G.mg c = some (.ref C) ∧ Cls G.K C ∧ PySem.W.findIn G.K (.ref C) "__class__" = some (some (.builtin "object.__class__")) ∧
    PySem.W.specialIn G.K (.builtin "object.__class__") "__get__" = some (some (.builtin "getset_descriptor.__get__")) ∧ PySem.W.takesIn G.K (.builtin "object.__class__") = some true ∧ PySem.W.mroIn G.K C (.type "object") = some true ∧
    (∀ k ∈ kindsI, PySem.W.kitOne G.K (.type k) (.ref C) = some false) ∧ ∀ n ∈ kindsJ, PySem.W.kitOne G.K (.ref C) (.type n) = some false
theorem is_of {cls : List Str} (h : ∀ c ∈ cls, IsRow G c) (hc : ∀ c ∈ cls, ∀ c' ∈ cls, ∀ C C', G.mg c = some (.ref C) → G.mg c' = some (.ref C') → PySem.W.kitOne G.K (.ref C) (.ref C') = some (decide (c = c'))) : IsT G cls :=
  ⟨fun c e => h c (by simpa using e), fun c c' C C' h1 h2 => hc c (by simpa using h1) c' (by simpa using h2) C C'⟩
theorem gc_int {t : Tok} {i : Int} (h : G.mg x = some (.int i t)) : Gc G x (.int i) := ⟨.int i, ⟨_, h, ⟨_, rfl⟩⟩, fun _ _ => .int i⟩
theorem gc_str {t : Tok} {i : Str} (h : G.mg x = some (.str i t)) : Gc G x (.str i) := ⟨.str i, ⟨_, h, ⟨_, rfl⟩⟩, fun _ _ => .str i⟩
theorem gc_cls (h : G.mg x = some (.ref C)) : Gc G x (.fn x) := ⟨.ref C, ⟨_, h, rfl⟩, fun _ _ => .fn h⟩
theorem gc_tup {A : Addr} {xs : List V} {ds : List D} (h : G.mg x = some (.ref A)) (kt : Kt G.K A xs) (hr : ∀ F al, RpA G F al xs ds) : Gc G x (.tuk ds) := ⟨.ref A, ⟨_, h, rfl⟩, fun F al => .tuk (kt.sq F) (hr F al)⟩
theorem kit_same {K : PySem.W.Frag} {v : Value} : PySem.W.kitOne K v v = some true := by unfold PySem.W.kitOne; simp
theorem cls_some {K : PySem.W.Frag} {C : Addr} (h : PySem.W.mroIn K C (.type "object") = some true) : (PySem.W.clsIn K C).isSome = true := by
  unfold PySem.W.mroIn at h
  cases e : PySem.W.clsIn K C with
  | none => rw [e] at h; cases h
  | some _ => rfl
theorem kit_up {K : PySem.W.Frag} {C : Addr} {t : Value} {b : Bool} (h : PySem.W.mroIn K C (.type "object") = some true) (ty : PySem.W.typeIn K (.ref C) = some (.type "type")) (su : PySem.W.subIn K t (.ref C) = some b) (ne : (t == Value.ref C) = false) : PySem.W.kitOne K t (.ref C) = some b := by
  unfold PySem.W.kitOne PySem.W.kitCls
  rw [if_neg (by rw [ne]; decide)]
  dsimp only
  rw [if_pos (by rw [cls_some h, ty]; simp)]
  exact su
theorem kit_dn {K : PySem.W.Frag} {C : Addr} {T : String} {b : Bool} (hm : PySem.W.kitMeta T = true) (su : PySem.W.subIn K (.ref C) (.type T) = some b) : PySem.W.kitOne K (.ref C) (.type T) = some b := by
  unfold PySem.W.kitOne PySem.W.kitCls
  rw [if_neg (by simp)]
  dsimp only
  rw [if_pos hm]
  exact su
theorem kit_x {K : PySem.W.Frag} {C C2 : Addr} (h : PySem.W.mroIn K C (.type "object") = some true) (ty : PySem.W.typeIn K (.ref C) = some (.type "type")) (ss : PySem.W.subIn K (.ref C) (.ref C) = some true) (su : PySem.W.subIn K (.ref C2) (.ref C) = some false) : PySem.W.kitOne K (.ref C2) (.ref C) = some false :=
  kit_up h ty su (by
    cases e : (Value.ref C2 == Value.ref C) with
    | false => rfl
    | true => have := eq_of_beq e; injection this with this; rw [this, ss] at su; cases su)
theorem first_same {K : PySem.W.Frag} {C : Addr} : PySem.W.notFirst K C (.ref C) = true := by unfold PySem.W.notFirst; simp
end
/-- the goal behind k_head, k_fill -/
theorem walkT {l : PySem.W.OpenLaw} {n k : Nat} {q : Program} {loose : List Str} {XP : (Str → Option Value) → Heap → Prop}
    {YP : World → Heap → Prop} {d : DefRec} {K : Params → PySem.W.Frag} {m : MF} {gb : Bool} {x : Str}
    (hn : l.most = some n) (hn2 : n ≤ sizeLine) (hi : importsNone q = true) (hdf : d.params.defaults = []) (hr : Room k callerA)
    (hY : ∀ (w : World) (h : Heap), YP w h → (K w.params).In h)
    (F : ∀ (w : World) (mg : Str → Option Value) (fa : Addr) (h : Heap), (K w.params).In h → h.Ns mainGlobals mg →
      mg d.name = some (.ref fa) →
      ∃ fd : FuncData, (∀ (s : Shared) (u : Value), BindsTo s fd ⟨[u], []⟩ [(x, u)]) ∧
        ∀ base : Heap, (K w.params).In base → base.Ns mainGlobals mg → Sm base →
          FnT l.prog w ⟨K w.params, mg, none⟩ base gb k fa fd [x] m)
    (hm : ∀ ns : List Int, ns.length ≤ n → ∃ mu, m [.lsk (ns.map .int)] [] = .ok (.fz (.bl true)) ⟨[], mu⟩) :
    PySem.W.WalkO q loose XP YP l.row.toRowW d [] (fun f vs => PySem.call f vs) := by
  refine Att.attach_call hn hdf ?_
  intro w s0 s1 mg mb fa o pm cd doc a vs ns G Y ho hd hcd hmg hobj hints hlen hge
  have KX := hY w _ Y
  obtain ⟨fd, hbi, hF⟩ := F w mg fa _ KX G.T.g hmg
  exact law_callG (CX := L2.CX l.prog w) (sp := SpM ⟨K w.params, mg, none⟩ 1 m) KX G.T.g G.T.b G.T.builtins G.T.nolimit hge hobj hints (Nat.le_trans hlen hn2) hr ((G.T.seer hi).mods.imp fun _ h => h.1) (fun base a b c => (hF base a b c).toG) hbi
    (fun H hO hS => law_sp hO hS (hm ns hlen)) (fun H e s' c => by
      obtain ⟨_, _, _, _, _, _, _, _, _, _, _, _, h⟩ := c
      exact h.elim)
end L2.Tr

namespace L2.Tr
open PySem PySem.Spec PyProof.Rows L2 L2.Pc

/-! ### an exception's __init__ -/
theorem Df.okF {P : Program} {w : World} {K : PySem.W.Frag} {mg : Str → Option Value} {base : Heap} {f : Addr} {fd : FuncData} {N ps : List Str} {sp : Sp} {k : Nat}
    {x qual : Str} {st : Stmt} (F : Df K x qual st f fd) (S : FnScope N ps (defScope st))
    (len : ∀ vs H Q E, sp vs H Q E → vs.length = ps.length)
    (hb : ∀ (cdv : Value) (A : Around) (outer : List Env) (s : Shared) (H : Hp) (vs : List V) (Q : VK) (E : XK), sp vs H Q E →
      ∃ t, PSs (cxOf CX0 P w K mg base N qual (defScope st) f cdv A outer s H E).nox (defBody st) t ∧
        t { nx := fun _ H' => Q .non H', rt := Q } (start N vs) H) :
    FnOk P w K mg base CX0 (k + 1) f fd ps sp := by
  obtain ⟨oc, od, dV, kV, doc, pm, an, cdv, ct, osl, rfl, lk, hc⟩ := F.ex
  refine ⟨len, fun A outer s H args us vs Q E hr e0 hbi r hsp => ?_⟩
  have hlen := len _ _ _ _ hsp
  have kin : K.In s.heap := e0.mod.kin.keeps (fun b o e => (e0.bs b o e).1)
  have hlm : s.heap.NoLimit := e0.mod.nolimit.keeps (fun b o e => (e0.bs b o e).1)
  have kinds : ∀ y ∈ ps.zip us, (defScope st).names.lookup y.1 = some .local ∨
      ((defScope st).names.lookup y.1 = some .cell ∧
        ((cellsFrom (s.heap.objs.size + 1) (defScope st).names []).lookup y.1).isSome = true) := by
    rintro ⟨n, v⟩ hy
    rcases S.par n (List.of_mem_zip hy).1 with h1 | h1
    · left; exact h1
    · right; exact ⟨h1, PySem.W.cellsFrom_some _ _ _ (Or.inl h1)⟩
  apply codeAny_call_function hr.depth (kin _ _ lk) rfl S.co S.gen rfl (PySem.W.codeRec_of kin hc) (hbi _ _ _ _ ?_)
  apply wpAny_newFunctionEnv_cells S.kind kinds
  intro env he s1 hx
  subst he
  refine ⟨hlm.keeps hx.toInCall.keep, codeAny_func ?_⟩
  obtain ⟨t, ht, hq⟩ := hb cdv A outer s H vs Q E hsp
  have ht := ht.nox
  have I0 : Inv (cxOf CX0 P w K mg base N qual (defScope st) f cdv A outer s H E) [] (start N vs) H s1 :=
    inv_start S hr.hd e0 hlen r hx
  refine wpAny_mono (ht.run [] s1 (start N vs) H _ I0 hq) ?_ (fun e s' hs => hs)
  intro fl s' hs
  cases fl with
  | ret u =>
    obtain ⟨v, σ', H', J, rv, q⟩ := hs
    exact ⟨v, H', J.os, J.bare, J.base, J.hok, rv, q⟩
  | next =>
    obtain ⟨σ', H', J, q⟩ := hs
    exact ⟨V.non, H', J.os, J.bare, J.base, J.hok, rfl, q⟩
  | brk => obtain ⟨_, _, _, q⟩ := hs; exact q.elim
  | cont => obtain ⟨_, _, _, q⟩ := hs; exact q.elim
/-- what it promises: the fields, the last one first -/
def SpXi (C : Addr) (n : Nat) (fl : List V → List (Str × V)) : Sp := fun vs H Q E => ∃ a ys, vs = .ref a :: ys ∧ ys.length = n ∧ H a = some (exo a C none) ∧
  ∀ dx, H dx = none → dx ≠ a → Q .non (upd (upd H dx (exd dx (fl ys))) a (exo a C (some dx)))
theorem upd_two {H : Hp} {a dx : Addr} {o1 o2 o3 : HO} (ne : dx ≠ a) : upd (upd (upd H dx o1) a o3) dx o2 = upd (upd H dx o2) a o3 := by
  funext b
  by_cases h1 : b = dx
  · subst h1; rw [upd_same, upd_ne ne, upd_same]
  · by_cases h2 : b = a
    · subst h2; rw [upd_ne h1, upd_same, upd_same]
    · rw [upd_ne h1, upd_ne h2, upd_ne h1, upd_ne h2, upd_ne h1]
structure XnT (P : Program) (w : World) (G : Gi) (base : Heap) (x : Str) (k : Nat) (fns : List Str) : Prop where
  ex : ∃ (C fI : Addr) (fd : FuncData) (ps : List Str), XcK G.K G.mg x C fI fns ∧ FnOk P w G.K G.mg base CX0 k fI fd ps (SpXi C fns.length (fun ys => (fns.zip ys).reverse)) ∧ Binds G.K fd ps []

/-! ### raise -/
theorem zip_map1 {α β : Type} : ∀ (as : List Str) (xs : List α) (ys : List β), xs.length = as.length → ys.length = as.length → (as.zip xs).map (·.1) = (as.zip ys).map (·.1)
  | [], xs, ys, _, _ => by simp
  | a :: as, x :: xs, y :: ys, h1, h2 => by
    rw [List.zip_cons_cons, List.zip_cons_cons, List.map_cons, List.map_cons, zip_map1 as xs ys (by simpa using h1) (by simpa using h2)]
  | a :: as, [], _, h1, _ => by simp at h1
  | a :: as, _ :: _, [], _, h2 => by simp at h2
theorem zip_map2 {α : Type} : ∀ (as : List Str) (xs : List α), xs.length = as.length → (as.zip xs).map (·.2) = xs
  | [], [], _ => rfl
  | [], _ :: _, h => by simp at h
  | a :: as, [], h => by simp at h
  | a :: as, x :: xs, h => by rw [List.zip_cons_cons, List.map_cons, zip_map2 as xs (by simpa using h)]
def sRaise (x : Str) (fns : List Str) (ma : M (List D)) : M Fl := bnd ma fun ds s => if ds.length = fns.length ∧ ds.length ≤ 1000 then .exc ⟨x, (fns.zip ds).reverse⟩ s else .no
section
variable {X : Cx} {G : Gi} {W : WX} {k : Nat} {x : Str} {fns : List Str} {p pos pos' : Pos} {e : Expr} {es : List Expr} {ma : M (List D)}
theorem s_raise (hK : X.K = G.K) (hM : X.mg = G.mg) (T : XnT X.prog X.w G X.base x k fns) (hr : Room (k + 1) X.A) (hg : Gl X x) (hc : X.calm = true) (tk : Takes X W) (ha : PA X (e :: es) (tAs G W ma))
    (hdb : (x == ("__debug__" : Str)) = false := by decide) (he : starEach (e :: es) X.env = (false, eval e X.env) :: starEach es X.env := by rfl) (hpl : (backTo pos (starEach es X.env)).any (·.1) = false := by rfl) :
    PS X (.Raise (some (.Call (.Name x p) (e :: es) [] pos)) none pos') (tS G W (sRaise x fns ma)) := by
  obtain ⟨C, fI, fd, ps, T0, F1, hb⟩ := T.ex
  have T1 : XcK X.K X.mg x C fI fns := by rw [hK, hM]; exact T0
  have F1' : FnOk X.prog X.w X.K X.mg X.base CX0 k fI fd ps (SpXi C fns.length (fun ys => (fns.zip ys).reverse)) := by rw [hK, hM]; exact F1
  have hb' : Binds X.K fd ps [] := by rw [hK]; exact hb
  refine (ps_raise hc tk (pmk_oex (dvs := []) T1.oe T1.iC T1.tI F1' hr hb' .nil pass0 hg T1.g ha hdb he hpl)).weak fun D' σ H q => ?_
  show tAs G W ma σ H fun vs H1 => vs.length ≤ 1000 ∧ ∀ a, H1 a = none → SpXi C fns.length (fun ys => (fns.zip ys).reverse) (.ref a :: (vs ++ [])) (upd H1 a (exo a C none))
    (fun v H2 => v = .non ∧ ∃ (d : Addr) (fs : List (Str × V)), H2 a = some (exo a C (some d)) ∧ H2 d = some (exd d fs) ∧ H1 d = none ∧ W (.ref C) (some d) σ (upd (del H2 a) d (.xd fs))) (fun _ _ _ => False)
  refine tS.ex q _ (fun ds vs c c1 st1 r1 g1 p1 w => ?_)
  split at w
  · rename_i hl
    have hlv : vs.length = ds.length := p1.len
    refine ⟨by omega, fun a na => ⟨a, vs ++ [], rfl, by rw [List.append_nil]; omega, upd_same, fun dx nd ne => ⟨rfl, dx, _, upd_same, by rw [upd_ne ne, upd_same], by rw [upd_ne ne] at nd; exact nd, ?_⟩⟩⟩
    rw [upd_ne ne] at nd
    rw [List.append_nil]
    have eh : upd (del (upd (upd (upd c1.H a (exo a C none)) dx (exd dx (fns.zip vs).reverse)) a (exo a C (some dx))) a) dx (.xd (fns.zip vs).reverse) = upd c1.H dx (.xd (fns.zip vs).reverse) := by
      funext b
      by_cases h1 : b = dx
      · subst h1; rw [upd_same, upd_same]
      · by_cases h2 : b = a
        · subst h2
          rw [upd_ne h1, upd_ne h1, na]
          unfold del
          simp
        · rw [upd_ne h1, upd_ne h1, del_ne h2, upd_ne h2, upd_ne h1, upd_ne h2]
    rw [eh]
    have r2 := r1.new (o := .xd (fns.zip vs).reverse) nd
    have f2 := Fresh.new (o := .xd (fns.zip vs).reverse) r1 nd
    have g2 := (GoE.new (o := .xd (fns.zip vs).reverse) r1 nd).freeze (New.new nd) r2
    refine w σ (.ref C) (some dx) ((c1.new dx (.xd (fns.zip vs).reverse)).frz [dx]) (r2.freeze f2) (g1.toGo.trans g2.toGo) ⟨C, rfl, T0.g, .inr ⟨dx, (fns.zip vs).reverse, rfl, frzF_same, ?_, ?_⟩⟩
    · rw [List.map_reverse, List.map_reverse, zip_map1 fns ds vs (by omega) (by omega)]
    · rw [List.map_reverse, List.map_reverse, zip_map2 fns vs (by omega), zip_map2 fns ds (by omega)]
      exact (p1.mo g2.mo).rev
  · exact w.elim
end

/-! ### trees without a caught exception -/
mutual
def noX : D → Bool
  | .xob _ _ => false
  | .tup xs => noXA xs
  | .lst xs => noXA xs
  | .lsk xs => noXA xs
  | .tuk xs => noXA xs
  | .dct kvs => noXK kvs
  | .dcu kvs => noXK kvs
  | .ins _ fs => noXF fs
  | .cel _ => true
  | .non => true
  | .bl _ => true
  | .int _ => true
  | .str _ => true
  | .fn _ => true
  | .ty _ => true
def noXA : List D → Bool
  | [] => true
  | d :: ds => noX d && noXA ds
def noXK : List (D × D) → Bool
  | [] => true
  | (_, d) :: ds => noX d && noXK ds
def noXF : List (Str × D) → Bool
  | [] => true
  | (_, d) :: ds => noX d && noXF ds
end
theorem noXF_map : ∀ fs : List (Str × D), noXF fs = noXA (fs.map (·.2))
  | [] => by rw [noXF]; rfl
  | (_, d) :: r => by rw [noXF, List.map_cons, noXA, noXF_map r]
theorem noXK_map : ∀ fs : List (D × D), noXK fs = noXA (fs.map (·.2))
  | [] => by rw [noXK]; rfl
  | (_, d) :: r => by rw [noXK, List.map_cons, noXA, noXK_map r]
mutual
def noXO : O → Bool
  | .fz d => noX d
  | .lst xs => noXA xs
  | .dct kvs => noXK kvs
  | .dcu kvs => noXK kvs
  | .ins _ fs => noXOF fs
  | .dco kvs => noXOK kvs
  | .dcv kvs => noXOK kvs
def noXOF : List (Str × O) → Bool
  | [] => true
  | (_, d) :: ds => noXO d && noXOF ds
def noXOK : List (D × O) → Bool
  | [] => true
  | (_, d) :: ds => noXO d && noXOK ds
end
def noXOA : List O → Bool
  | [] => true
  | d :: ds => noXO d && noXOA ds
theorem noXOF_map : ∀ fs : List (Str × O), noXOF fs = noXOA (fs.map (·.2))
  | [] => by rw [noXOF]; rfl
  | (_, d) :: r => by rw [noXOF, List.map_cons, noXOA, noXOF_map r]
theorem noXOK_map : ∀ fs : List (D × O), noXOK fs = noXOA (fs.map (·.2))
  | [] => by rw [noXOK]; rfl
  | (_, d) :: r => by rw [noXOK, List.map_cons, noXOA, noXOK_map r]
section
variable {G G' : Gi} {F H : Hp} {al : List Addr}
mutual
theorem Rp.nx (h0 : G.xo = none) : ∀ {v : V} {d : D}, Rp G F al v d → noX d = true
  | _, _, .non => by rw [noX]
  | _, _, .bl b => by rw [noX]
  | _, _, .int i => by rw [noX]
  | _, _, .str x => by rw [noX]
  | _, _, .tup h hs => by rw [noX]; exact RpA.nx h0 hs
  | _, _, .tuk h hs => by rw [noX]; exact RpA.nx h0 hs
  | _, _, .lst h hs => by rw [noX]; exact RpA.nx h0 hs
  | _, _, .lsk h hs => by rw [noX]; exact RpA.nx h0 hs
  | _, _, .dcK h k hs => by rw [noX, noXK_map]; exact RpA.nx h0 hs
  | _, _, .dcT h k hs => by rw [noX, noXK_map]; exact RpA.nx h0 hs
  | _, _, .ins h k m hs => by rw [noX, noXF_map]; exact RpA.nx h0 hs
  | _, _, .cel h => by rw [noX]
  | _, _, .fn h => by rw [noX]
  | _, _, .ty n => by rw [noX]
  | _, _, .xob h _ _ _ _ => by rw [h0] at h; cases h
  | _, _, .xob0 h _ => by rw [h0] at h; cases h
theorem RpA.nx (h0 : G.xo = none) : ∀ {vs : List V} {ds : List D}, RpA G F al vs ds → noXA ds = true
  | _, _, .nil => by rw [noXA]
  | _, _, .cons h hs => by rw [noXA, Rp.nx h0 h, RpA.nx h0 hs]; rfl
end
mutual
theorem Rp.cv (hK : G.K = G'.K) (hm : G.mg = G'.mg) : ∀ {v : V} {d : D}, Rp G F al v d → noX d = true → Rp G' F al v d
  | _, _, .non, _ => .non
  | _, _, .bl b, _ => .bl b
  | _, _, .int i, _ => .int i
  | _, _, .str x, _ => .str x
  | _, _, .tup h hs, n => by rw [noX] at n; exact .tup h (RpA.cv hK hm hs n)
  | _, _, .tuk h hs, n => by rw [noX] at n; rw [hK] at h; exact .tuk h (RpA.cv hK hm hs n)
  | _, _, .lst h hs, n => by rw [noX] at n; exact .lst h (RpA.cv hK hm hs n)
  | _, _, .lsk h hs, n => by rw [noX] at n; rw [hK] at h; exact .lsk h (RpA.cv hK hm hs n)
  | _, _, .dcK h k hs, n => by rw [noX, noXK_map] at n; exact .dcK h k (RpA.cv hK hm hs n)
  | _, _, .dcT h k hs, n => by rw [noX, noXK_map] at n; exact .dcT h k (RpA.cv hK hm hs n)
  | _, _, .ins h k m hs, n => by rw [noX, noXF_map] at n; rw [hm] at k; exact .ins h k m (RpA.cv hK hm hs n)
  | _, _, .cel h, _ => .cel h
  | _, _, .fn h, _ => by rw [hm] at h; exact .fn h
  | _, _, .ty n, _ => .ty n
  | _, _, .xob _ _ _ _ _, n => by rw [noX] at n; cases n
  | _, _, .xob0 _ _, n => by rw [noX] at n; cases n
theorem RpA.cv (hK : G.K = G'.K) (hm : G.mg = G'.mg) : ∀ {vs : List V} {ds : List D}, RpA G F al vs ds → noXA ds = true → RpA G' F al vs ds
  | _, _, .nil, _ => .nil
  | _, _, .cons h hs, n => by rw [noXA, Bool.and_eq_true] at n; exact .cons (Rp.cv hK hm h n.1) (RpA.cv hK hm hs n.2)
end
mutual
theorem OwnT.nx (h0 : G.xo = none) : ∀ {o : O} {v : V} {fp : List Addr}, OwnT G F al H o v fp → noXO o = true
  | _, _, _, .fz h => by rw [noXO]; exact h.nx h0
  | _, _, _, .lst h hs => by rw [noXO]; exact hs.nx h0
  | _, _, _, .dcK h q hs => by rw [noXO, noXK_map]; exact hs.nx h0
  | _, _, _, .dcT h q hs => by rw [noXO, noXK_map]; exact hs.nx h0
  | _, _, _, .ins h q m hs => by rw [noXO, noXOF_map]; exact OwnA.nx h0 hs
  | _, _, _, .dcoK h q hs => by rw [noXO, noXOK_map]; exact OwnA.nx h0 hs
  | _, _, _, .dcoT h q hs => by rw [noXO, noXOK_map]; exact OwnA.nx h0 hs
theorem OwnA.nx (h0 : G.xo = none) : ∀ {os : List O} {vs : List V} {fp : List Addr}, OwnA G F al H os vs fp → noXOA os = true
  | _, _, _, .nil => rfl
  | _, _, _, .cons h hs => by rw [noXOA, OwnT.nx h0 h, OwnA.nx h0 hs]; rfl
end
mutual
theorem OwnT.cv (hK : G.K = G'.K) (hm : G.mg = G'.mg) : ∀ {o : O} {v : V} {fp : List Addr}, OwnT G F al H o v fp → noXO o = true → OwnT G' F al H o v fp
  | _, _, _, .fz h, n => by rw [noXO] at n; exact .fz (h.cv hK hm n)
  | _, _, _, .lst h hs, n => by rw [noXO] at n; exact .lst h (hs.cv hK hm n)
  | _, _, _, .dcK h q hs, n => by rw [noXO, noXK_map] at n; exact .dcK h q (hs.cv hK hm n)
  | _, _, _, .dcT h q hs, n => by rw [noXO, noXK_map] at n; exact .dcT h q (hs.cv hK hm n)
  | _, _, _, .ins h q m hs, n => by rw [noXO, noXOF_map] at n; rw [hm] at q; exact .ins h q m (OwnA.cv hK hm hs n)
  | _, _, _, .dcoK h q hs, n => by rw [noXO, noXOK_map] at n; exact .dcoK h q (OwnA.cv hK hm hs n)
  | _, _, _, .dcoT h q hs, n => by rw [noXO, noXOK_map] at n; exact .dcoT h q (OwnA.cv hK hm hs n)
theorem OwnA.cv (hK : G.K = G'.K) (hm : G.mg = G'.mg) : ∀ {os : List O} {vs : List V} {fp : List Addr}, OwnA G F al H os vs fp → noXOA os = true → OwnA G' F al H os vs fp
  | _, _, _, .nil, _ => .nil
  | _, _, _, .cons h hs, n => by rw [noXOA, Bool.and_eq_true] at n; exact .cons (OwnT.cv hK hm h n.1) (OwnA.cv hK hm hs n.2)
end
def noXE : List (Option O) → Bool
  | [] => true
  | none :: env => noXE env
  | some o :: env => noXO o && noXE env
theorem Slots.nx (h0 : G.xo = none) : ∀ {env : List (Option O)} {σ : L2.St} {fp : List Addr}, Slots G F al H env σ fp → noXE env = true
  | _, _, _, .nil => rfl
  | _, _, _, .un h => by rw [noXE]; exact Slots.nx h0 h
  | _, _, _, .so h hs => by rw [noXE, h.nx h0, Slots.nx h0 hs]; rfl
theorem Slots.cv (hK : G.K = G'.K) (hm : G.mg = G'.mg) : ∀ {env : List (Option O)} {σ : L2.St} {fp : List Addr}, Slots G F al H env σ fp → noXE env = true → Slots G' F al H env σ fp
  | _, _, _, .nil, _ => .nil
  | _, _, _, .un h, n => by rw [noXE] at n; exact .un (Slots.cv hK hm h n)
  | _, _, _, .so h hs, n => by rw [noXE, Bool.and_eq_true] at n; exact .so (h.cv hK hm n.1) (Slots.cv hK hm hs n.2)
end
theorem Rel.cv {G G' : Gi} {st : S} {σ : L2.St} {c : Cf} (hK : G.K = G'.K) (hm : G.mg = G'.mg) (r : Rel G st σ c) (n1 : noXE st.env = true) (n2 : noXOA st.mu = true) : Rel G' st σ c :=
  ⟨r.sub, r.own, r.nds, r.ndc, r.dis, r.slots.cv hK hm n1, r.cells.cv hK hm n2⟩
theorem noXE_set : ∀ (env : List (Option O)) (v : Nat), noXE (setS env v none) = true → (∀ o, getS env v = some o → noXO o = true) → noXE env = true
  | [], v, h, _ => rfl
  | x :: env, 0, h, k => by
    rw [setS] at h
    cases x with
    | none => exact h
    | some o => rw [noXE, k o rfl]; exact h
  | none :: env, v + 1, h, k => by
    rw [setS] at h
    exact noXE_set env v h k
  | some o :: env, v + 1, h, k => by
    rw [setS, noXE, Bool.and_eq_true] at h
    rw [noXE, h.1, noXE_set env v h.2 k]; rfl
def chkV (env : List (Option O)) (vs : List Nat) : Bool := vs.all fun v => match getS env v with
  | some o => noXO o
  | none => true
theorem getS_wipe {env : List (Option O)} {o : O} : ∀ {vs : List Nat} {v : Nat}, getS (wipeE env vs) v = some o → getS env v = some o
  | [], v, h => h
  | w :: vs, v, h => by
    rw [wipeE] at h
    exact getS_wipe (vs := vs) (getS_setN h)
where
  getS_setN {env : List (Option O)} {w v : Nat} {o : O} (h : getS (setS env w none) v = some o) : getS env v = some o := by
    induction env generalizing w v with
    | nil => exact h
    | cons x env ih =>
      cases w with
      | zero =>
        cases v with
        | zero => cases h
        | succ v => exact h
      | succ w =>
        cases v with
        | zero => exact h
        | succ v => exact ih h
theorem noXE_wipe {env : List (Option O)} : ∀ (vs : List Nat), noXE (wipeE env vs) = true → chkV env vs = true → noXE env = true
  | [], h, _ => h
  | v :: vs, h, k => by
    unfold chkV at k
    rw [List.all_cons, Bool.and_eq_true] at k
    rw [wipeE] at h
    refine noXE_wipe vs (noXE_set _ v h fun o ho => ?_) k.2
    have := k.1
    rw [getS_wipe ho] at this
    exact this
theorem noXE_wiped {env : List (Option O)} (h : noXE env = true) : ∀ vs : List Nat, noXE (wipeE env vs) = true
  | [] => h
  | v :: vs => by rw [wipeE]; exact noXE_setn _ v (noXE_wiped h vs)
where
  noXE_setn : ∀ (env : List (Option O)) (v : Nat), noXE env = true → noXE (setS env v none) = true
    | [], _, h => h
    | none :: env, 0, h => h
    | some o :: env, 0, h => by rw [noXE, Bool.and_eq_true] at h; exact h.2
    | none :: env, v + 1, h => by rw [setS, noXE]; exact noXE_setn env v h
    | some o :: env, v + 1, h => by rw [noXE, Bool.and_eq_true] at h; rw [setS, noXE, h.1, noXE_setn env v h.2]; rfl

/-! ### try .. except C as e -/
structure HdT (G : Gi) (c : Value) (tbl : List (Str × Bool)) : Prop where
  ex : ∀ x b, tbl.lookup x = some b → ∃ C, G.mg x = some (.ref C) ∧ PySem.W.exmOne G.K (.ref C) c = some b
def noXFl : Fl → Bool
  | .rt o => noXO o
  | _ => true
open Classical in
/-- the suite of a clause with a name: slot i bears the exception, the slots vs may be stored to -/
noncomputable def sSuite (i : Nat) (vs : List Nat) (ms : M Fl) (x : Exc) : M Fl := fun s => match ms ⟨setS s.env i (some (.fz (.xob x.cls x.fs))), s.mu⟩ with
  | .ok f s2 => if s2.mu = s.mu ∧ wipeE (setS s2.env i none) vs = wipeE (setS s.env i none) vs ∧ chkV (setS s2.env i none) vs = true ∧ noXFl f = true then .ok f ⟨setS s2.env i none, s2.mu⟩ else .no
  | _ => .no
noncomputable def sTryAs (i : Nat) (vs : List Nat) (tbl : List (Str × Bool)) (mb ms : M Fl) : M Fl := fun s => match mb s with
  | .exc x s' => (match tbl.lookup x.cls with
    | some true => sSuite i vs ms x s'
    | some false => .exc x s'
    | none => .no)
  | r => r
/-- .. without a name -/
def sTry1 (tbl : List (Str × Bool)) (mb ms : M Fl) : M Fl := fun s => match mb s with
  | .exc x s' => (match tbl.lookup x.cls with
    | some true => (match ms s' with
      | .exc _ _ => .no
      | r => r)
    | some false => .exc x s'
    | none => .no)
  | r => r
theorem _root_.L2.PSs.ex {α : Type} {X : Cx} {e : List Stmt} {t : α → TS} (h : ∀ x, PSs X e (t x)) : PSs X e (fun D σ H => ∃ x, t x D σ H) :=
  ⟨fun pins s σ H Q I ⟨x, q⟩ => (h x).run pins s σ H Q I q⟩
theorem _root_.L2.PSs.andP {p : Prop} {X : Cx} {e : List Stmt} {t : TS} (h : p → PSs X e t) : PSs X e (fun D σ H => p ∧ t D σ H) :=
  ⟨fun pins s σ H Q I ⟨x, q⟩ => (h x).run pins s σ H Q I q⟩
def Gi.with (G : Gi) (a C : Addr) (d : Option Addr) : Gi := { G with xo := some (a, C, d) }
/-- what the suite asks -/
def tsAs (G : Gi) (ms : M Fl) (a : Addr) (cls : Value) (d : Option Addr) : TS := fun D σ H => ∃ C, cls = .ref C ∧ tS (G.with a C d) noW ms D σ H
theorem rel_unset {G : Gi} {st : S} {σ : L2.St} {c0 c : Cf} {i : Nat} (r : Rel G st σ c) (g : Go c0 c) : ∃ c', c'.H = c.H ∧ Rel G ⟨setS st.env i none, st.mu⟩ (σ.set i none) c' ∧ Go c0 c' := by
  obtain ⟨f1, f2, f3, e, _, q⟩ := slots_put i r.slots
  have sub : ∀ a, a ∈ f1 ++ f3 → a ∈ c.fs := fun a h => by rw [e]; exact mem_ends h
  refine ⟨{ c with fs := f1 ++ f3 }, rfl, ⟨r.sub, fun a h => ?_, ?_, r.ndc, fun a h => r.dis a (sub a h), (q c.F c.H c.al (Mo.refl _ _) fun _ _ => rfl).2 none, r.cells⟩,
    ⟨g.mo, g.fr, fun a h => ?_, g.nF⟩⟩
  · rcases h with h | h
    · exact r.own a (.inl (sub a h))
    · exact r.own a (.inr h)
  · exact (nd_ends (by rw [← e]; exact r.nds)).1
  · rcases h with h | h
    · exact g.fp a (.inl (sub a h))
    · exact g.fp a (.inr h)
theorem try_t {G : Gi} {Wout : WX} {c : Value} {tbl : List (Str × Bool)} {i : Nat} {vs : List Nat} {mb ms : M Fl} {D : Ends} {σ : L2.St} {H : Hp} (h0 : G.xo = none) (T : HdT G c tbl) (q : tS G Wout (sTryAs i vs tbl mb ms) D σ H) :
    tS G (wAs G.K c i (tsAs G ms) Wout D) mb D σ H := by
  obtain ⟨c0, st, e0, r0, w⟩ := q
  refine ⟨c0, st, e0, r0, ?_⟩
  unfold sTryAs at w
  cases e : mb st with
  | no => rw [e] at w; exact w
  | ok f s' => rw [e] at w; exact w
  | exc x s' =>
    rw [e] at w
    dsimp only at w
    intro σ' v d c' r' g' x'
    obtain ⟨C, rfl, hC, hf⟩ := x'
    cases hl : tbl.lookup x.cls with
    | none => rw [hl] at w; exact w.elim
    | some b =>
      rw [hl] at w
      obtain ⟨C2, hC2, hb⟩ := T.ex _ _ hl
      rw [hC] at hC2
      cases hC2
      cases b with
      | false => exact ⟨false, hb, (fun z => by cases z), fun _ => w σ' (.ref C) d c' r' g' ⟨C, rfl, hC, hf⟩⟩
      | true =>
        refine ⟨true, hb, fun _ a na => ⟨C, rfl, ?_⟩, fun z => by cases z⟩
        dsimp only at w
        unfold sSuite at w
        have n1 := r'.slots.nx h0
        have n2 := r'.cells.nx h0
        have r1 : Rel (G.with a C d) s' σ' c' := Rel.cv (G := G) (G' := G.with a C d) rfl rfl r' n1 n2
        have tx : Rp (G.with a C d) c'.F c'.al (.ref a) (.xob x.cls x.fs) := by
          rcases hf with ⟨e1, rfl⟩ | ⟨dx, ws, rfl, e2, e3, e4⟩
          · rw [e1]; exact .xob0 rfl hC
          · refine .xob rfl hC e2 e3 ?_
            exact RpA.cv (G := G) (G' := G.with a C (some dx)) rfl rfl e4 (e4.nx h0)
        obtain ⟨c2, eH, r2, g2, _, _, _, _⟩ := rel_put (i := i) r1 (.fz tx) (Fresh.nil _) (Go.rfl' (c := c')) (New.nil _)
        refine ⟨c2, _, eH, r2, ?_⟩
        cases e5 : ms ⟨setS s'.env i (some (.fz (.xob x.cls x.fs))), s'.mu⟩ with
        | no => rw [e5] at w; exact w.elim
        | exc y s2 => rw [e5] at w; exact w.elim
        | ok f s2 =>
          rw [e5] at w
          dsimp only at w
          split at w
          · rename_i hh
            obtain ⟨h1, h2, h3, h4⟩ := hh
            have m2 : noXOA s2.mu = true := by rw [h1]; exact n2
            have k1 : noXE (setS s2.env i none) = true := by
              refine noXE_wipe vs ?_ h3
              rw [h2]
              exact noXE_wiped (noXE_wiped.noXE_setn _ i n1) vs
            have fin : ∀ σ4 c4, Rel (G.with a C d) s2 σ4 c4 → Go c2 c4 → ∃ c5, c5.H = c4.H ∧ Rel G ⟨setS s2.env i none, s2.mu⟩ (σ4.set i none) c5 ∧ Go c0 c5 := fun σ4 c4 r4 g4 => by
              obtain ⟨c5, e6, r5, g5⟩ := rel_unset (i := i) r4 ((g'.trans g2).trans g4)
              exact ⟨c5, e6, Rel.cv (G := G.with a C d) (G' := G) rfl rfl r5 k1 m2, g5⟩
            cases f with
            | nx =>
              intro σ4 c4 r4 g4
              obtain ⟨c5, e6, r5, g5⟩ := fin σ4 c4 r4 g4
              show D.nx (σ4.set i none) c4.H
              rw [← e6]
              exact w (σ4.set i none) c5 r5 g5
            | bk =>
              intro σ4 c4 r4 g4
              obtain ⟨c5, e6, r5, g5⟩ := fin σ4 c4 r4 g4
              show D.bk (σ4.set i none) c4.H
              rw [← e6]
              exact w (σ4.set i none) c5 r5 g5
            | ct =>
              intro σ4 c4 r4 g4
              obtain ⟨c5, e6, r5, g5⟩ := fin σ4 c4 r4 g4
              show D.ct (σ4.set i none) c4.H
              rw [← e6]
              exact w (σ4.set i none) c5 r5 g5
            | rt o =>
              intro v c4 fp r4 g4 t4 f4 w4
              have w : Fw G D c0 (.rt o) ⟨setS s2.env i none, s2.mu⟩ := w
              refine w v c4 fp (Rel.cv (G := G.with a C d) (G' := G) rfl rfl r4 rfl m2) ((g'.trans g2).trans g4) (OwnT.cv (G := G.with a C d) (G' := G) rfl rfl t4 h4) f4 (w4.go (g'.trans g2))
          · exact w.elim
section
variable {X : Cx} {G : Gi} {Wout : WX} {x n : Str} {c : Value} {tbl : List (Str × Bool)} {i : Nat} {vs : List Nat} {body suite : List Stmt} {b₀ : Stmt} {np pos pos' : Pos} {mb ms : M Fl}
theorem s_tryAs (hK : X.K = G.K) (h0 : G.xo = none) (T : HdT G c tbl) (hs : X.stack = X.env :: X.outer) (hf : X.env.frame = some X.env.locals) (hN : X.N.Nodup) (hi : X.N[i]? = some n) (hln : X.env.kindOf n = some .local) (hc : Names X x c) (tk : Takes X Wout)
    (hb : ∀ (W : WX) (pn : List (Addr × Obj)) (xe : Value → Shared → Prop), Takes (X.tr pn xe) W → PassesOwn (model X.prog X.w) X.A X.env xe → PSs (X.tr pn xe) body (tS G W mb))
    (hsu : ∀ (a C : Addr) (oe : Obj) (d : Option Addr) (pn : List (Addr × Obj)), Zc (.ref C) d oe → (∃ vs, oe.data = .fields vs) → PSs (X.suite a ((a, oe) :: pn)) (b₀ :: suite) (tS (G.with a C d) noW ms)) :
    PS X (.Try body [.ExceptHandler (some (.Name x np)) (some n) (b₀ :: suite) pos'] [] [] pos) (tS G Wout (sTryAs i vs tbl mb ms)) :=
  (ps_try_as (ts := tsAs G ms) hs hf hN hi hln hc tk hb (fun a oe cls d pn hz hf => PSs.ex fun C => PSs.andP fun e => by subst e; exact hsu a C oe d pn hz hf)).weak fun D σ H q => by
    rw [hK]
    exact try_t h0 T q
end
/-! ### e.f in a suite -/
structure Kx (G : Gi) (XT : CTab) : Prop where
  ex : ∀ c f, okF XT c f = true → ∃ C, G.mg c = some (.ref C) ∧ XfC G.K C ∧ PySem.W.findIn G.K (.ref C) f = some none
def xfO (XT : CTab) (f : Str) (o : O) : Option O := match o with
  | .fz (.xob c fs) => if okF XT c f = true then (fs.lookup f).map .fz else none
  | _ => none
def xXf (XT : CTab) (f : Str) (m : M O) : M O := bnd m fun o => ofO (xfO XT f o)
theorem _root_.L2.PE.andP {p : Prop} {X : Cx} {e : Expr} {t t' : TE} (h : p → PE X e t') (k : ∀ σ H Q, t σ H Q → p ∧ t' σ H Q) : PE X e t :=
  ⟨fun pins s σ H Q I q => (h (k σ H Q q).1).run pins s σ H Q I (k σ H Q q).2⟩
theorem xobj_of {G : Gi} {XT : CTab} {a C : Addr} {d : Option Addr} {F H : Hp} {al : List Addr} {v : V} {fp : List Addr} {o o' : O} {f : Str} (T : Kx G XT) (t : OwnT (G.with a C d) F al H o v fp) (e : xfO XT f o = some o') :
    (XfC G.K C ∧ PySem.W.findIn G.K (.ref C) f = some none) ∧ v = .ref a ∧ ∃ (dd : Addr) (fs : List (Str × V)) (u : V) (d2 : D), d = some dd ∧ F dd = some (.xd fs) ∧ fs.lookup f = some u ∧ o' = .fz d2 ∧ Rp (G.with a C d) F al u d2 := by
  unfold xfO at e
  split at e
  · rename_i cn ds
    split at e
    · rename_i hk
      obtain ⟨d2, e2, rfl⟩ := map_some e
      cases t with
      | fz t =>
        cases t with
        | xob g1 g2 g3 g4 g5 =>
          cases g1
          obtain ⟨C2, k1, k2, k3⟩ := T.ex _ _ hk
          have g2 : G.mg cn = some (.ref C) := g2
          rw [k1] at g2
          cases g2
          obtain ⟨u, l1, l2⟩ := lk_rp g4 g5 e2
          exact ⟨⟨k2, k3⟩, rfl, _, _, u, d2, rfl, g3, l1, rfl, l2⟩
        | xob0 g1 g2 => cases e2
    · cases e
  · cases e
theorem x_xf {X : Cx} {G : Gi} {XT : CTab} {a C : Addr} {d : Option Addr} {oe : Obj} {pn : List (Addr × Obj)} {e : Expr} {W : WX} {i : Nat} {pos : Pos} {f : Str} (hK : X.K = G.K) (T : Kx G XT) (hz : Zc (.ref C) d oe) (hf : ∃ vs, oe.data = .fields vs)
    (he : PE (X.suite a ((a, oe) :: pn)) e (tLa (G.with a C d) W (xBor i))) (hb : attributeBase e f X.env (eval e X.env) = eval e X.env := by rfl) :
    PE (X.suite a ((a, oe) :: pn)) (.Attribute e f pos) (tO (G.with a C d) W (xXf XT f (xBor i))) := by
  refine PE.andP (p := XfC G.K C ∧ PySem.W.findIn G.K (.ref C) f = some none) (fun hp => pe_xf (by rw [hK]; exact hp.1) (by rw [hK]; exact hp.2) hz hf he hb) fun σ H Q q => ?_
  constructor
  · obtain ⟨c0, st, rfl, r0, w⟩ := q
    have w := wp_bind.mp w
    unfold xBor at w
    cases e1 : getS st.env i with
    | none => rw [e1] at w; exact w.elim
    | some o =>
      rw [e1] at w
      obtain ⟨o', e2, _⟩ := wp_ofO.mp w
      obtain ⟨v, f1, f2, f3, _, t, _⟩ := slots_get r0.slots e1
      exact (xobj_of T t e2).1
  · show tLa (G.with a C d) W (xBor i) σ H fun x H1 => x = .ref a ∧ Value.ref C = .ref C ∧ ∃ (dd : Addr) (fs : List (Str × V)) (v : V), d = some dd ∧ H1 dd = some (.xd fs) ∧ fs.lookup f = some v ∧ Q v H1
    refine q.seq bkO _ (fun o v c c1 st1 r1 g1 p1 w => ?_)
    obtain ⟨fx, tx⟩ := p1
    obtain ⟨o', e2, q3⟩ := wp_ofO.mp w
    obtain ⟨_, rfl, dd, fs, u, d2, rfl, h1, h2, rfl, h3⟩ := xobj_of T tx e2
    exact ⟨rfl, rfl, dd, fs, u, rfl, r1.sub _ _ h1, h2, q3 u c1 r1 (GoE.refl r1) (prO_fz h3)⟩
/-- try .. except C, without a name -/
theorem try1_t {G : Gi} {Wout : WX} {c : Value} {tbl : List (Str × Bool)} {mb ms : M Fl} {D : Ends} {σ : L2.St} {H : Hp} (T : HdT G c tbl) (q : tS G Wout (sTry1 tbl mb ms) D σ H) :
    tS G (wOnly G.K c (fun _ _ _ => tS G noW ms) Wout D) mb D σ H := by
  obtain ⟨c0, st, e0, r0, w⟩ := q
  refine ⟨c0, st, e0, r0, ?_⟩
  unfold sTry1 at w
  cases e : mb st with
  | no => rw [e] at w; exact w
  | ok f s' => rw [e] at w; exact w
  | exc x s' =>
    rw [e] at w
    dsimp only at w
    intro σ' v d c' r' g' x'
    obtain ⟨C, rfl, hC, hf⟩ := x'
    cases hl : tbl.lookup x.cls with
    | none => rw [hl] at w; exact w.elim
    | some b =>
      rw [hl] at w
      obtain ⟨C2, hC2, hb⟩ := T.ex _ _ hl
      rw [hC] at hC2
      cases hC2
      cases b with
      | false => exact ⟨false, hb, (fun z => by cases z), fun _ => w σ' (.ref C) d c' r' g' ⟨C, rfl, hC, hf⟩⟩
      | true =>
        refine ⟨true, hb, fun _ a na => tS.at r' ?_, fun z => by cases z⟩
        dsimp only at w
        cases e5 : ms s' with
        | no => rw [e5] at w; exact w.elim
        | exc y s2 => rw [e5] at w; exact w.elim
        | ok f s2 => rw [e5] at w; exact Fw.go g' w
section
variable {X : Cx} {G : Gi} {Wout : WX} {x : Str} {c : Value} {tbl : List (Str × Bool)} {body suite : List Stmt} {b₀ : Stmt} {np pos pos' : Pos} {mb ms : M Fl}
theorem s_try1 (hK : X.K = G.K) (T : HdT G c tbl) (hs : X.stack = X.env :: X.outer) (hf : X.env.frame = some X.env.locals) (hc : Names X x c) (tk : Takes X Wout)
    (hb : ∀ (W : WX) (pn : List (Addr × Obj)) (xe : Value → Shared → Prop), Takes (X.tr pn xe) W → PassesOwn (model X.prog X.w) X.A X.env xe → PSs (X.tr pn xe) body (tS G W mb))
    (hsu : ∀ (a : Addr) (oe : Obj) (cls : Value) (d : Option Addr) (pn : List (Addr × Obj)), Zc cls d oe → (∃ vs, oe.data = .fields vs) → PSs (X.suite a ((a, oe) :: pn)) (b₀ :: suite) (tS G noW ms)) :
    PS X (.Try body [.ExceptHandler (some (.Name x np)) none (b₀ :: suite) pos'] [] [] pos) (tS G Wout (sTry1 tbl mb ms)) :=
  (ps_try_only (ts := fun _ _ _ => tS G noW ms) hs hf hc tk hb hsu).weak fun D σ H q => by
    rw [hK]
    exact try1_t T q
end
/-! ### tables -/
structure HdN (G : Gi) (x : Str) (tbl : List (Str × Bool)) : Prop where
  ex : ∃ c, G.mg x = some c ∧ HdT G c tbl
theorem lookup_mem {α : Type} {k : Str} {v : α} : ∀ {l : List (Str × α)}, l.lookup k = some v → (k, v) ∈ l
  | [], h => by cases h
  | (a, b) :: l, h => by
    rw [List.lookup] at h
    split at h
    · rename_i e
      cases h
      have e := eq_of_beq e
      subst e
      exact List.mem_cons_self
    · exact List.mem_cons_of_mem _ (lookup_mem h)
theorem hd_of {G : Gi} {x : Str} {c : Value} {tbl : List (Str × Bool)} (hc : G.mg x = some c) (h : ∀ p ∈ tbl, ∃ C, G.mg p.1 = some (.ref C) ∧ PySem.W.exmOne G.K (.ref C) c = some p.2) : HdN G x tbl :=
  ⟨c, hc, ⟨fun y b e => h (y, b) (lookup_mem e)⟩⟩
theorem kx_of {G : Gi} {XT : CTab} (h : ∀ p ∈ XT, ∃ C, G.mg p.1 = some (.ref C) ∧ XfC G.K C ∧ ∀ f ∈ p.2, PySem.W.findIn G.K (.ref C) f = some none) : Kx G XT := ⟨fun c f e => by
  unfold okF at e
  cases hl : XT.lookup c with
  | none => rw [hl] at e; cases e
  | some fl =>
    rw [hl] at e
    obtain ⟨C, h1, h2, h3⟩ := h (c, fl) (lookup_mem hl)
    exact ⟨C, h1, h2, h3 f (List.contains_iff_mem.mp e)⟩⟩
section
variable {X : Cx} {G : Gi} {Wout : WX} {x n : Str} {tbl : List (Str × Bool)} {i : Nat} {vs : List Nat} {body suite : List Stmt} {b₀ : Stmt} {np pos pos' : Pos} {mb ms : M Fl}
theorem s_tryA (hK : X.K = G.K) (hM : X.mg = G.mg) (h0 : G.xo = none) (T : HdN G x tbl) (hg : Gl X x) (hs : X.stack = X.env :: X.outer) (hf : X.env.frame = some X.env.locals) (hN : X.N.Nodup) (hi : X.N[i]? = some n) (hln : X.env.kindOf n = some .local) (tk : Takes X Wout)
    (hb : ∀ (W : WX) (pn : List (Addr × Obj)) (xe : Value → Shared → Prop), Takes (X.tr pn xe) W → PassesOwn (model X.prog X.w) X.A X.env xe → PSs (X.tr pn xe) body (tS G W mb))
    (hsu : ∀ (a C : Addr) (oe : Obj) (d : Option Addr) (pn : List (Addr × Obj)), Zc (.ref C) d oe → (∃ vs, oe.data = .fields vs) → PSs (X.suite a ((a, oe) :: pn)) (b₀ :: suite) (tS (G.with a C d) noW ms))
    (hdb : (x == ("__debug__" : Str)) = false := by decide) :
    PS X (.Try body [.ExceptHandler (some (.Name x np)) (some n) (b₀ :: suite) pos'] [] [] pos) (tS G Wout (sTryAs i vs tbl mb ms)) := by
  obtain ⟨c, hm, T⟩ := T.ex
  exact s_tryAs hK h0 T hs hf hN hi hln ⟨hg, hdb, .inl (by rw [hM]; exact hm)⟩ tk hb hsu
theorem s_try1N (hK : X.K = G.K) (hM : X.mg = G.mg) (T : HdN G x tbl) (hg : Gl X x) (hs : X.stack = X.env :: X.outer) (hf : X.env.frame = some X.env.locals) (tk : Takes X Wout)
    (hb : ∀ (W : WX) (pn : List (Addr × Obj)) (xe : Value → Shared → Prop), Takes (X.tr pn xe) W → PassesOwn (model X.prog X.w) X.A X.env xe → PSs (X.tr pn xe) body (tS G W mb))
    (hsu : ∀ (a : Addr) (oe : Obj) (cls : Value) (d : Option Addr) (pn : List (Addr × Obj)), Zc cls d oe → (∃ vs, oe.data = .fields vs) → PSs (X.suite a ((a, oe) :: pn)) (b₀ :: suite) (tS G noW ms))
    (hdb : (x == ("__debug__" : Str)) = false := by decide) :
    PS X (.Try body [.ExceptHandler (some (.Name x np)) none (b₀ :: suite) pos'] [] [] pos) (tS G Wout (sTry1 tbl mb ms)) := by
  obtain ⟨c, hm, T⟩ := T.ex
  exact s_try1 hK T hs hf ⟨hg, hdb, .inl (by rw [hM]; exact hm)⟩ tk hb hsu
end
theorem Kc.with {G : Gi} {CT : CTab} {a C : Addr} {d : Option Addr} (h : Kc G CT) : Kc (G.with a C d) CT := ⟨h.ex⟩
end L2.Tr

namespace L2.Tr
open PySem PySem.Spec PyProof.Rows L2 L2.Pc

/-- how many keywords (a name of its own, so that simp leaves it) -/
def nK (l : List Str) : Nat := l.length
/-! ### zip, enumerate, reversed -/
def lstD : D → Option (List D)
  | .lst ds => some ds
  | .lsk ds => some ds
  | _ => none
def tupD : D → Option (List D)
  | .tup ds => some ds
  | .tuk ds => some ds
  | _ => none
def pairD (xs ys : List D) : List D := (xs.zip ys).map fun p => .tup [p.1, p.2]
def zipD : List D → Option (List D)
  | [a, b] => match lstD a, lstD b with
    | some xs, some ys => some (pairD xs ys)
    | _, _ => (match tupD a, tupD b with
      | some xs, some ys => some (pairD xs ys)
      | _, _ => none)
  | _ => none
def numD (i : Nat) : List D → List D
  | [] => []
  | d :: ds => .tup [.int (i : Nat), d] :: numD (i + 1) ds
def enumD : List D → Option (List D)
  | [a] => (lstD a).map (numD 0)
  | _ => none
def revI (d : D) : Option (List D) := match lstD d with
  | some xs => some xs.reverse
  | none => (tupD d).map List.reverse
section
variable {G : Gi} {c : Cf} {st : S} {σ : L2.St} {v : V} {d : D} {ds : List D}
theorem lst_view {F : Hp} {al : List Addr} (t : Rp G F al v d) (e : lstD d = some ds) : ∃ a xs, v = .ref a ∧ SqL G.K F a xs ∧ RpA G F al xs ds := by
  cases t with
  | lst h hs => cases e; exact ⟨_, _, rfl, .inl (.inl h), hs⟩
  | lsk h hs => cases e; exact ⟨_, _, rfl, h, hs⟩
  | _ => cases e
theorem tup_view {F : Hp} {al : List Addr} (t : Rp G F al v d) (e : tupD d = some ds) : ∃ a xs, v = .ref a ∧ SqT G.K F a xs ∧ RpA G F al xs ds := by
  cases t with
  | tup h hs => cases e; exact ⟨_, _, rfl, .inl (.inl h), hs⟩
  | tuk h hs => cases e; exact ⟨_, _, rfl, h, hs⟩
  | _ => cases e
theorem numD_get : ∀ (ds : List D) (k i : Nat) {d : D}, (numD k ds)[i]? = some d → ∃ x, ds[i]? = some x ∧ d = .tup [.int ((k + i : Nat) : Int), x]
  | [], k, i, d, h => by cases i <;> cases h
  | x :: ds, k, 0, d, h => by cases h; exact ⟨x, rfl, rfl⟩
  | x :: ds, k, i + 1, d, h => by
    obtain ⟨y, h1, h2⟩ := numD_get ds (k + 1) i (by simpa [numD] using h)
    exact ⟨y, by simpa using h1, by rw [h2, show k + 1 + i = k + (i + 1) by omega]⟩
theorem numD_len : ∀ (ds : List D) (k : Nat), (numD k ds).length = ds.length
  | [], _ => rfl
  | x :: ds, k => by rw [numD, List.length_cons, numD_len ds, List.length_cons]
theorem pair_get {xs ys : List D} {i : Nat} {d : D} (h : (pairD xs ys)[i]? = some d) : ∃ x y, xs[i]? = some x ∧ ys[i]? = some y ∧ d = .tup [x, y] := by
  unfold pairD at h
  rw [List.getElem?_map] at h
  obtain ⟨p, hp, rfl⟩ := map_some h
  rw [List.getElem?_zip_eq_some] at hp
  exact ⟨p.1, p.2, hp.1, hp.2, rfl⟩
/-- a fresh pair -/
theorem new_pair {T : Addr} {x y : V} {dx dy : D} (r : Rel G st σ c) (hT : c.H T = none) (rx : Rp G c.F c.al x dx) (ry : Rp G c.F c.al y dy) :
    ∃ c', c'.H = upd c.H T (.tup [x, y]) ∧ Rel G st σ c' ∧ GoE c c' ∧ Rp G c'.F c'.al (.ref T) (.tup [dx, dy]) := by
  have m := mo_new (o := .tup [x, y]) r hT
  have r2 := r.new (o := .tup [x, y]) hT
  have f2 := Fresh.new (o := .tup [x, y]) r hT
  have g2 := (GoE.new (o := .tup [x, y]) r hT).freeze (New.new hT) r2
  exact ⟨(c.new T (.tup [x, y])).frz [T], rfl, r2.freeze f2, g2, .tup frzF_same (.cons (rx.mo m) (.cons (ry.mo m) .nil))⟩
theorem srcs_zip {a b : Addr} {xs ys : List V} {ds es : List D} (h1 : SqL G.K c.F a xs) (h2 : SqL G.K c.F b ys) (r1 : RpA G c.F c.al xs ds) (r2 : RpA G c.F c.al ys es) : Srcs G (Itz G.K a b) (pairD ds es) c := fun st2 σ2 c2 rl g => by
  have k1 := rl.rdL (sqL_mr g.mo.mR h1)
  have k2 := rl.rdL (sqL_mr g.mo.mR h2)
  refine ⟨fun i d hd => ?_, xs, ys, k1, k2, ?_⟩
  · obtain ⟨dx, dy, e1, e2, rfl⟩ := pair_get hd
    obtain ⟨x, hx, rx⟩ := (r1.mo g.mo).get e1
    obtain ⟨y, hy, ry⟩ := (r2.mo g.mo).get e2
    refine ⟨⟨xs, ys, x, y, k1, k2, hx, hy⟩, fun w H' hw => ?_⟩
    obtain ⟨T, x', y', rfl, hT, rfl, q1, q2⟩ := hw
    have := q1 xs k1; rw [hx] at this; cases this
    have := q2 ys k2; rw [hy] at this; cases this
    exact new_pair rl hT rx ry
  · unfold pairD
    rw [List.length_map, List.length_zip, ← r1.len, ← r2.len]
    omega
theorem srcs_zipT {a b : Addr} {xs ys : List V} {ds es : List D} (h1 : SqT G.K c.F a xs) (h2 : SqT G.K c.F b ys) (r1 : RpA G c.F c.al xs ds) (r2 : RpA G c.F c.al ys es) : Srcs G (RZ.ItzT G.K a b) (pairD ds es) c := fun st2 σ2 c2 rl g => by
  have k1 := rl.rdT (sqT_mr g.mo.mR h1)
  have k2 := rl.rdT (sqT_mr g.mo.mR h2)
  refine ⟨fun i d hd => ?_, xs, ys, k1, k2, ?_⟩
  · obtain ⟨dx, dy, e1, e2, rfl⟩ := pair_get hd
    obtain ⟨x, hx, rx⟩ := (r1.mo g.mo).get e1
    obtain ⟨y, hy, ry⟩ := (r2.mo g.mo).get e2
    refine ⟨⟨xs, ys, x, y, k1, k2, hx, hy⟩, fun w H' hw => ?_⟩
    obtain ⟨T, x', y', rfl, hT, rfl, q1, q2⟩ := hw
    have := q1 xs k1; rw [hx] at this; cases this
    have := q2 ys k2; rw [hy] at this; cases this
    exact new_pair rl hT rx ry
  · unfold pairD
    rw [List.length_map, List.length_zip, ← r1.len, ← r2.len]
    omega
theorem srcs_enum {a : Addr} {xs : List V} {ds : List D} (h1 : SqL G.K c.F a xs) (r1 : RpA G c.F c.al xs ds) : Srcs G (Ite G.K a) (numD 0 ds) c := fun st2 σ2 c2 rl g => by
  have k1 := rl.rdL (sqL_mr g.mo.mR h1)
  refine ⟨fun i d hd => ?_, xs, k1, by rw [numD_len, r1.len]; exact Nat.le_refl _⟩
  obtain ⟨dx, e1, rfl⟩ := numD_get ds 0 i hd
  obtain ⟨x, hx, rx⟩ := (r1.mo g.mo).get e1
  refine ⟨⟨xs, x, k1, hx⟩, fun w H' hw => ?_⟩
  obtain ⟨T, x', rfl, hT, rfl, q1⟩ := hw
  have := q1 xs k1; rw [hx] at this; cases this
  have := new_pair rl hT (.int ((0 + i : Nat) : Int)) rx
  rw [Nat.zero_add] at this ⊢
  exact this
theorem rev_get {α : Type} {xs : List α} {i : Nat} {d : α} (h : xs.reverse[i]? = some d) : i < xs.length ∧ xs[xs.length - 1 - i]? = some d := by
  have hi : i < xs.length := by
    have := (List.getElem?_eq_some_iff.mp h).1
    rwa [List.length_reverse] at this
  refine ⟨hi, ?_⟩
  rw [List.getElem?_reverse hi] at h
  exact h
theorem srcs_rev {a : Addr} {xs : List V} {ds : List D} (h1 : SqL G.K c.F a xs) (r1 : RpA G c.F c.al xs ds) : Srcs G (Itv G.K a xs.length) ds.reverse c := fun st2 σ2 c2 rl g => by
  have k1 := rl.rdL (sqL_mr g.mo.mR h1)
  have hl := r1.len
  refine ⟨fun i d hd => ?_, by show xs.length ≤ _; rw [List.length_reverse]; omega⟩
  obtain ⟨hi, e1⟩ := rev_get hd
  obtain ⟨x, hx, rx⟩ := (r1.mo g.mo).get e1
  rw [← hl] at hx
  refine ⟨⟨by omega, xs, x, k1, hx⟩, fun w H' hw => ?_⟩
  obtain ⟨rfl, q1⟩ := hw
  have := q1 xs k1; rw [hx] at this; cases this
  exact ⟨c2, rfl, rl, GoE.refl rl, rx⟩
theorem srcs_revT {a : Addr} {xs : List V} {ds : List D} (h1 : SqT G.K c.F a xs) (r1 : RpA G c.F c.al xs ds) : Srcs G (RT.ItvT G.K a xs.length) ds.reverse c := fun st2 σ2 c2 rl g => by
  have k1 := rl.rdT (sqT_mr g.mo.mR h1)
  have hl := r1.len
  refine ⟨fun i d hd => ?_, by show xs.length ≤ _; rw [List.length_reverse]; omega⟩
  obtain ⟨hi, e1⟩ := rev_get hd
  obtain ⟨x, hx, rx⟩ := (r1.mo g.mo).get e1
  rw [← hl] at hx
  refine ⟨⟨by omega, xs, x, k1, hx⟩, fun w H' hw => ?_⟩
  obtain ⟨rfl, q1⟩ := hw
  have := q1 xs k1; rw [hx] at this; cases this
  exact ⟨c2, rfl, rl, GoE.refl rl, rx⟩
end
def mZip (ma : M (List D)) : M (List D) := bnd ma fun ds => ofO (zipD ds)
def mEnum (ma : M (List D)) : M (List D) := bnd ma fun ds => ofO (enumD ds)
def mRev (md : M D) : M (List D) := bnd md fun d => ofO (revI d)
section
variable {X : Cx} {G : Gi} {W : WX} {tg e e2 : Expr} {md : M D} {ma : M (List D)} {p pos tpos : Pos} {elts : List Expr} {kk : Nat}
theorem xi_zip (hK : X.K = G.K) (hg : Gl X "zip") (hm : X.mg "zip" = none) (ha : PA X [e, e2] (tAs G W ma))
    (hs : starEach [e, e2] X.env = (false, eval e X.env) :: starEach [e2] X.env := by rfl) (hpl : (backTo pos (starEach [e2] X.env)).any (·.1) = false := by rfl) :
    PI X (.Tuple elts kk tpos) (.Call (.Name "zip" p) [e, e2] [] pos) (tI G W (mZip ma)) := (RZ.pi_zipA hg hm ha hs hpl).weak fun σ H R q => by
  rw [hK]
  unfold RZ.iZipA
  refine q.seq0 _ (fun ds vs c c1 st1 r1 g1 p1 w => ?_)
  obtain ⟨l, e1, q⟩ := wp_ofO.mp w
  unfold zipD at e1
  split at e1
  · rename_i a b
    cases p1 with
    | cons ta ts =>
      cases ts with
      | cons tb ts =>
        cases ts
        split at e1
        · rename_i xs ys h1 h2
          cases e1
          obtain ⟨a', xs', rfl, k1, k2⟩ := lst_view ta h1
          obtain ⟨b', ys', rfl, k3, k4⟩ := lst_view tb h2
          exact ⟨a', b', xs', ys', rfl, .inl ⟨r1.rdL k1, r1.rdL k3, q _ c1 r1 g1 (srcs_zip k1 k3 k2 k4)⟩⟩
        · split at e1
          · rename_i xs ys h1 h2
            cases e1
            obtain ⟨a', xs', rfl, k1, k2⟩ := tup_view ta h1
            obtain ⟨b', ys', rfl, k3, k4⟩ := tup_view tb h2
            exact ⟨a', b', xs', ys', rfl, .inr ⟨r1.rdT k1, r1.rdT k3, q _ c1 r1 g1 (srcs_zipT k1 k3 k2 k4)⟩⟩
          · cases e1
  · cases e1
theorem xi_enum (hK : X.K = G.K) (hg : Gl X "enumerate") (hm : X.mg "enumerate" = none) (ha : PA X [e] (tAs G W ma)) (hs : starEach [e] X.env = [(false, eval e X.env)] := by rfl) :
    PI X (.Tuple elts kk tpos) (.Call (.Name "enumerate" p) [e] [] pos) (tI G W (mEnum ma)) := (pi_enum hg hm ha hs).weak fun σ H R q => by
  rw [hK]
  unfold iEnum
  refine q.seq0 _ (fun ds vs c c1 st1 r1 g1 p1 w => ?_)
  obtain ⟨l, e1, q⟩ := wp_ofO.mp w
  unfold enumD at e1
  split at e1
  · rename_i a
    obtain ⟨xs, h1, rfl⟩ := map_some e1
    cases p1 with
    | cons ta ts =>
      cases ts
      obtain ⟨a', xs', rfl, k1, k2⟩ := lst_view ta h1
      exact ⟨a', xs', rfl, r1.rdL k1, q _ c1 r1 g1 (srcs_enum k1 k2)⟩
  · cases e1
theorem xi_rev (hK : X.K = G.K) (hg : Gl X "reversed") (hm : X.mg "reversed" = none) (he : PE X e (tD G W md)) (hs : starEach [e] X.env = (false, eval e X.env) :: starEach [] X.env := by rfl) :
    PI X tg (.Call (.Name "reversed" p) [e] [] pos) (tI G W (mRev md)) := (RT.pi_revA hg hm he hs).weak fun σ H R q => by
  rw [hK]
  unfold RT.iRevA
  refine q.seq0 _ (fun d v c c1 st1 r1 g1 p1 w => ?_)
  obtain ⟨l, e1, q⟩ := wp_ofO.mp w
  unfold revI at e1
  split at e1
  · rename_i xs h1
    cases e1
    obtain ⟨a', xs', rfl, k1, k2⟩ := lst_view p1 h1
    exact ⟨a', xs', rfl, .inl ⟨r1.rdL k1, q _ c1 r1 g1 (srcs_rev k1 k2)⟩⟩
  · obtain ⟨xs, h1, rfl⟩ := map_some e1
    obtain ⟨a', xs', rfl, k1, k2⟩ := tup_view p1 h1
    exact ⟨a', xs', rfl, .inr ⟨r1.rdT k1, q _ c1 r1 g1 (srcs_revT k1 k2)⟩⟩
/-- {} -/
theorem x_dict0 {pos : Pos} : PE X (.Dict [] [] pos) (tO G W (ret (.dct []))) := (pe_dnewK (X := X)).weak fun σ H Q q => by
  obtain ⟨c, st, rfl, r, w⟩ := q
  intro p hp
  obtain ⟨c', e, r', g', p'⟩ := new_ow (G := G) (o := .dK []) (t := .dct []) r hp (.dcK upd_same rfl .nil)
  rw [← e]
  exact w _ c' r' g' p'
end
end L2.Tr

namespace L2.Tr
open PySem PySem.Spec PyProof.Rows L2 L2.Pc
/-! ### steps of raise, try, zip -/
def raiseK (x : Str) (fns : List Str) (ds : List D) : M Fl := fun s => if ds.length = fns.length ∧ ds.length ≤ 1000 then .exc ⟨x, (fns.zip ds).reverse⟩ s else .no
noncomputable def tryB (i : Nat) (vs : List Nat) (ms : M Fl) (x : Exc) (s : S) : Option Bool → R Fl
  | some true => sSuite i vs ms x s
  | some false => .exc x s
  | none => .no
noncomputable def tryK (i : Nat) (vs : List Nat) (tbl : List (Str × Bool)) (ms : M Fl) : R Fl → R Fl
  | .exc x s => tryB i vs ms x s (tbl.lookup x.cls)
  | r => r
def try1B (ms : M Fl) (x : Exc) (s : S) : Option Bool → R Fl
  | some true => noExc (ms s)
  | some false => .exc x s
  | none => .no
def try1K (tbl : List (Str × Bool)) (ms : M Fl) : R Fl → R Fl
  | .exc x s => try1B ms x s (tbl.lookup x.cls)
  | r => r
open Classical in
noncomputable def suiK (i : Nat) (vs : List Nat) (s : S) : R Fl → R Fl
  | .ok f s2 => if s2.mu = s.mu ∧ wipeE (setS s2.env i none) vs = wipeE (setS s.env i none) vs ∧ chkV (setS s2.env i none) vs = true ∧ noXFl f = true then .ok f ⟨setS s2.env i none, s2.mu⟩ else .no
  | _ => .no
section
variable {x f g c : Str} {fns : List Str} {ma : M (List D)} {mb ms : M Fl} {env e2 : List (Option O)} {mu : List O} {d d2 d3 : D} {i v : Nat} {vs : List Nat} {tbl : List (Str × Bool)} {fs : List (Str × D)} {fl : Fl} {s : S} {XT : CTab} {ex : Exc} {m : M O} {md : M D} {xs ys ds : List D} {o : O}
theorem st_raise : sRaise x fns ma ⟨env, mu⟩ = (ma ⟨env, mu⟩).bind (raiseK x fns) := rfl
theorem st_raise1 : raiseK x [f] [d] s = .exc ⟨x, [(f, d)]⟩ s := rfl
theorem st_raise2 : raiseK x [f, g] [d, d2] s = .exc ⟨x, [(g, d2), (f, d)]⟩ s := rfl
theorem st_raise3 : raiseK x [f, g, c] [d, d2, d3] s = .exc ⟨x, [(c, d3), (g, d2), (f, d)]⟩ s := rfl
theorem st_try : sTryAs i vs tbl mb ms ⟨env, mu⟩ = tryK i vs tbl ms (mb ⟨env, mu⟩) := by
  unfold sTryAs tryK
  cases mb ⟨env, mu⟩ with
  | exc x s => dsimp only; cases tbl.lookup x.cls with
    | none => rfl
    | some b => cases b <;> rfl
  | _ => rfl
theorem st_tryok : tryK i vs tbl ms (.ok fl s) = .ok fl s := rfl
theorem st_tryex : tryK i vs tbl ms (.exc ⟨c, fs⟩ s) = tryB i vs ms ⟨c, fs⟩ s (tbl.lookup c) := rfl
theorem st_tryt : tryB i vs ms ex s (some true) = sSuite i vs ms ex s := rfl
theorem st_tryf : tryB i vs ms ex s (some false) = .exc ex s := rfl
theorem st_suite : sSuite i vs ms ⟨c, fs⟩ ⟨env, mu⟩ = suiK i vs ⟨env, mu⟩ (ms ⟨setS env i (some (.fz (.xob c fs))), mu⟩) := by
  unfold sSuite suiK
  rfl
open Classical in
theorem st_suiok : suiK i vs ⟨env, mu⟩ (.ok fl ⟨e2, mu⟩) = if wipeE (setS e2 i none) vs = wipeE (setS env i none) vs ∧ chkV (setS e2 i none) vs = true ∧ noXFl fl = true then .ok fl ⟨setS e2 i none, mu⟩ else .no := by
  unfold suiK
  dsimp only
  by_cases h : wipeE (setS e2 i none) vs = wipeE (setS env i none) vs ∧ chkV (setS e2 i none) vs = true ∧ noXFl fl = true
  · rw [if_pos h, if_pos ⟨rfl, h⟩]
  · rw [if_neg h, if_neg (fun z => h z.2)]
theorem st_chk0 : chkV env [] = true := rfl
theorem st_chk1 : chkV env (v :: vs) = ((match getS env v with | some o => noXO o | none => true) && chkV env vs) := rfl
theorem st_nxo : noXO (.fz d) = noX d := by rw [noXO]
theorem st_nxl : noXO (.lst ds) = noXA ds := by rw [noXO]
theorem st_nxs : noX (.str x) = true := by rw [noX]
theorem st_nxb {b : Bool} : noX (.bl b) = true := by rw [noX]
theorem st_nxi {i : Int} : noX (.int i) = true := by rw [noX]
theorem st_nxn : noX .non = true := by rw [noX]
theorem st_nxt : noX (.tup ds) = noXA ds := by rw [noX]
theorem st_nxL : noX (.lst ds) = noXA ds := by rw [noX]
theorem st_nxa0 : noXA [] = true := by rw [noXA]
theorem st_nxa1 : noXA (d :: ds) = (noX d && noXA ds) := by rw [noXA]
theorem st_nxf : noXFl .nx = true := rfl
theorem st_nxr : noXFl (.rt o) = noXO o := rfl
theorem st_try1 : sTry1 tbl mb ms ⟨env, mu⟩ = try1K tbl ms (mb ⟨env, mu⟩) := by
  unfold sTry1 try1K
  cases mb ⟨env, mu⟩ with
  | exc x s => dsimp only; cases tbl.lookup x.cls with
    | none => rfl
    | some b =>
      cases b
      · rfl
      · show _ = noExc (ms s)
        cases ms s <;> rfl
  | _ => rfl
theorem st_try1ok : try1K tbl ms (.ok fl s) = .ok fl s := rfl
theorem st_try1ex : try1K tbl ms (.exc ⟨c, fs⟩ s) = try1B ms ⟨c, fs⟩ s (tbl.lookup c) := rfl
theorem st_try1t : try1B ms ex s (some true) = noExc (ms s) := rfl
theorem st_try1f : try1B ms ex s (some false) = .exc ex s := rfl
theorem st_xf : xXf XT f m ⟨env, mu⟩ = (m ⟨env, mu⟩).bind fun o => ofO (xfO XT f o) := rfl
theorem st_xfo (h : okF XT c f = true) : xfO XT f (.fz (.xob c fs)) = (fs.lookup f).map .fz := by unfold xfO; dsimp only; rw [if_pos h]
theorem st_mzip : mZip ma ⟨env, mu⟩ = (ma ⟨env, mu⟩).bind fun ds => ofO (zipD ds) := rfl
theorem st_menum : mEnum ma ⟨env, mu⟩ = (ma ⟨env, mu⟩).bind fun ds => ofO (enumD ds) := rfl
theorem st_mrev : mRev md ⟨env, mu⟩ = (md ⟨env, mu⟩).bind fun ds => ofO (revI ds) := rfl
theorem st_zipl : zipD [.lst xs, .lst ys] = some (pairD xs ys) := rfl
theorem st_zipt : zipD [.tup xs, .tup ys] = some (pairD xs ys) := rfl
theorem st_pair0 : pairD [] ys = [] := rfl
theorem st_pair1 : pairD (d :: xs) (d2 :: ys) = .tup [d, d2] :: pairD xs ys := rfl
theorem st_enuml : enumD [.lst xs] = some (numD 0 xs) := rfl
theorem st_num0 {k : Nat} : numD k [] = [] := rfl
theorem st_num1 {k : Nat} : numD k (d :: xs) = .tup [.int (k : Nat), d] :: numD (k + 1) xs := rfl
theorem st_revl : revI (.lst xs) = some xs.reverse := rfl
theorem st_revt : revI (.tup xs) = some xs.reverse := rfl
theorem st_fnI {N : Nat} {body : M Fl} : fnI N x body ds mu = if noCA ds = true then (match body ⟨some (.fz (.cel 0)) :: env0 (N - 1) ds, [.ins x []]⟩ with
  | .ok .nx ⟨_, [o]⟩ => if noCO o = true then .ok o ⟨[], mu⟩ else .no
  | .exc e _ => if noCF e.fs = true then .exc e ⟨[], mu⟩ else .no
  | _ => .no) else .no := rfl
theorem st_nk0 : ((0 : Nat) = nK []) = True := eq_true rfl
theorem st_nk1 {k0 : Str} : ((1 : Nat) = nK [k0]) = True := eq_true rfl
theorem st_nk2 {k0 k1 : Str} : ((2 : Nat) = nK [k0, k1]) = True := eq_true rfl
theorem st_nk3 {k0 k1 k2 : Str} : ((3 : Nat) = nK [k0, k1, k2]) = True := eq_true rfl
theorem st_nk4 {k0 k1 k2 k3 : Str} : ((4 : Nat) = nK [k0, k1, k2, k3]) = True := eq_true rfl
theorem st_nk5 {k0 k1 k2 k3 k4 : Str} : ((5 : Nat) = nK [k0, k1, k2, k3, k4]) = True := eq_true rfl
theorem st_nk6 {k0 k1 k2 k3 k4 k5 : Str} : ((6 : Nat) = nK [k0, k1, k2, k3, k4, k5]) = True := eq_true rfl
theorem st_nk7 {k0 k1 k2 k3 k4 k5 k6 : Str} : ((7 : Nat) = nK [k0, k1, k2, k3, k4, k5, k6]) = True := eq_true rfl
theorem st_nk8 {k0 k1 k2 k3 k4 k5 k6 k7 : Str} : ((8 : Nat) = nK [k0, k1, k2, k3, k4, k5, k6, k7]) = True := eq_true rfl
end
end L2.Tr

namespace L2.Tr
open PySem PySem.Spec PyProof.Rows L2 L2.Pc

/-! ### a dict of the module with text keys -/
inductive KeyTab : List DictEntry → List (Str × Value) → Prop
  | nil : KeyTab [] []
  | cons {e : DictEntry} {es : List DictEntry} {k : Str} {u : Value} {tbl : List (Str × Value)} : (∃ t, e.key = .str k t) → e.val = u → KeyTab es tbl → KeyTab (e :: es) ((k, u) :: tbl)
inductive VTab (G : Gi) : List (Str × Value) → List (Str × D) → Prop
  | nil : VTab G [] []
  | cons {k : Str} {u : Value} {us : List (Str × Value)} {d : D} {ds : List (Str × D)} : (∃ v, RelV v u ∧ ∀ F al, Rp G F al v d) → VTab G us ds → VTab G ((k, u) :: us) ((k, d) :: ds)
theorem KeyTab.find {es : List DictEntry} {us : List (Str × Value)} (h : KeyTab es us) (z : Str) : (es.find? (·.key.isStr z)).map (·.val) = us.lookup z ∧ es.any (·.refKey) = false := by
  induction h with
  | nil => exact ⟨rfl, rfl⟩
  | @cons e es k u tbl hk hv _ ih =>
    obtain ⟨t, hk⟩ := hk
    have e1 : e.key.isStr z = (k == z) := by rw [hk]; rfl
    have e2 : e.refKey = false := by unfold DictEntry.refKey; rw [hk]
    refine ⟨?_, by rw [List.any_cons, e2, ih.2]; rfl⟩
    rw [List.find?_cons]
    by_cases hz : k = z
    · subst hz
      rw [e1, beq_self_eq_true]
      show some e.val = _
      rw [hv, List.lookup_cons_self]
    · have n1 : (k == z) = false := beq_eq_false_iff_ne.mpr hz
      have n2 : (z == k) = false := beq_eq_false_iff_ne.mpr (Ne.symm hz)
      rw [e1, n1]
      show (es.find? (·.key.isStr z)).map (·.val) = _
      rw [ih.1, List.lookup, n2]
theorem VTab.get {G : Gi} {us : List (Str × Value)} {ds : List (Str × D)} (h : VTab G us ds) (z : Str) : (∀ d, ds.lookup z = some d → ∃ u v, us.lookup z = some u ∧ RelV v u ∧ ∀ F al, Rp G F al v d) ∧ (us.lookup z).isSome = (ds.lookup z).isSome := by
  induction h with
  | nil => exact ⟨fun d h => (by cases h), rfl⟩
  | @cons k u us d ds hv _ ih =>
    obtain ⟨v, r, hr⟩ := hv
    by_cases hz : z = k
    · subst hz
      rw [List.lookup_cons_self, List.lookup_cons_self]
      exact ⟨fun d' h => by cases h; exact ⟨u, v, rfl, r, hr⟩, rfl⟩
    · have n2 : (z == k) = false := beq_eq_false_iff_ne.mpr hz
      rw [List.lookup, n2, List.lookup, n2]
      exact ih
structure KdT (G : Gi) (w : World) (x : Str) (tbl : List (Str × D)) : Prop where
  ex : ∃ a es n us, G.mg x = some (.ref a) ∧ KDict G.K w a es n ∧ KeyTab es.toList us ∧ VTab G us tbl
theorem nsIn_tab {K : PySem.W.Frag} {w : World} {a : Addr} {es : Array DictEntry} {n : Nat} {us : List (Str × Value)} (D : KDict K w a es n) (h : KeyTab es.toList us) (z : Str) : PySem.W.nsIn K a z = some (us.lookup z) := by
  obtain ⟨h1, h2⟩ := h.find z
  unfold PySem.W.nsIn
  rw [D.at_]
  dsimp only
  cases e : es.toList.find? (·.key.isStr z) with
  | none => rw [e] at h1; dsimp only; rw [if_neg (by rw [h2]; decide), ← h1]; rfl
  | some x => rw [e] at h1; rw [← h1]; rfl
def kdD (tbl : List (Str × D)) : D → Option O
  | .str z => (tbl.lookup z).map .fz
  | _ => none
def kinD (tbl : List (Str × D)) (neg : Bool) : D → Option O
  | .str z => some (.fz (.bl ((tbl.lookup z).isSome != neg)))
  | _ => none
def xKd (tbl : List (Str × D)) (m : M O) : M O := bnd m fun o => ofO (kdD tbl o.toD)
def xKin (tbl : List (Str × D)) (neg : Bool) (m : M O) : M O := bnd m fun o => ofO (kinD tbl neg o.toD)
section
variable {X : Cx} {G : Gi} {W : WX} {x : Str} {tbl : List (Str × D)} {b : Expr} {mb : M O} {p pos : Pos}
theorem x_kdix (hM : X.mg = G.mg) (hK : X.K = G.K) (T : KdT G X.w x tbl) (hg : Gl X x) (hb : PE X b (tLa G W mb)) (hs : PlainIx b) (hdb : (x == ("__debug__" : Str)) = false := by decide) :
    PE X (.Subscript (.Name x p) b pos) (tO G W (xKd tbl mb)) := by
  obtain ⟨a, es, n, us, hm, kd, kt, vt⟩ := T.ex
  refine (pe_ix (ix_kdict (X := X)) (pe_gm (v := .ref a) (by rw [hM]; exact ⟨_, hm, rfl⟩) hg hdb) hb hs).weak fun σ H Q q => ?_
  show tLa G W mb σ H fun y H2 => rIxD X.K X.w (.ref a) y H2 Q
  refine q.seq bkO _ (fun oy y c c1 st1 r1 g1 p1 w => ?_)
  obtain ⟨fy, ty⟩ := p1
  obtain ⟨o, eo, q3⟩ := wp_ofO.mp w
  have vy := own_view r1 ty
  generalize oy.toD = dy at *
  unfold kdD at eo
  split at eo
  · rename_i z
    obtain ⟨d, e1, rfl⟩ := map_some eo
    obtain rfl : y = _ := vy
    obtain ⟨u, v, e2, rv, hr⟩ := (vt.get z).1 d e1
    refine ⟨a, z, v, rfl, rfl, ⟨es, n, u, by rw [hK]; exact kd.at_, kd.lit, by rw [hK, nsIn_tab kd kt, e2], rv⟩, ?_⟩
    exact q3 v c1 r1 (GoE.refl r1) (prO_fz (hr _ _))
  · cases eo
theorem kin_rd {neg : Bool} {σ : L2.St} {H : Hp} {Q : VK} {a : Addr} {es : Array DictEntry} {n : Nat} {us : List (Str × Value)} (kd : KDict G.K X.w a es n) (kt : KeyTab es.toList us) (vt : VTab G us tbl) (hK : X.K = G.K)
    (q : tO G W (xKin tbl neg mb) σ H Q) : tBr G W mb σ H fun y H2 => ∃ (z : Str) (r : Option Value), y = .str z ∧ PySem.W.nsIn X.K a z = some r ∧ Q (.bl (r.isSome != neg)) H2 := by
  refine q.seq bkO _ (fun oy y c c1 st1 r1 g1 p1 w => ?_)
  obtain ⟨fy, ty, _⟩ := p1
  obtain ⟨o, eo, q3⟩ := wp_ofO.mp w
  have vy := own_view r1 ty
  generalize oy.toD = dy at *
  unfold kinD at eo
  split at eo
  · rename_i z
    cases eo
    obtain rfl : y = _ := vy
    refine ⟨z, us.lookup z, rfl, by rw [hK]; exact nsIn_tab kd kt z, ?_⟩
    rw [(vt.get z).2]
    exact q3 _ c1 r1 (GoE.refl r1) (prO_fz (.bl _))
  · cases eo
theorem x_kdin (hM : X.mg = G.mg) (hK : X.K = G.K) (T : KdT G X.w x tbl) (hg : Gl X x) (hb : PE X b (tBr G W mb)) (hm2 : behindInMarks .In (.Name x p) = false := by rfl) (hdb : (x == ("__debug__" : Str)) = false := by decide) :
    PE X (.Compare b [.In] [.Name x p] pos) (tO G W (xKin tbl false mb)) := by
  obtain ⟨a, es, n, us, hm, kd, kt, vt⟩ := T.ex
  have kd' : KDict X.K X.w a es n := by rw [hK]; exact kd
  refine (pe_cmpR (op_in_kd kd') hb (pe_gm (v := .ref a) (by rw [hM]; exact ⟨_, hm, rfl⟩) hg hdb) hm2).weak fun σ H Q q => ?_
  obtain ⟨c, st, e, r, h⟩ := kin_rd kd kt vt hK q
  exact ⟨c, st, e, r, wp_mono h (fun o s k v c' r' g' p' => by obtain ⟨z, rr, e1, e2, e3⟩ := k v c' r' g' p'; rw [Bool.bne_false] at e3; exact ⟨z, rr, e1, rfl, e2, e3⟩) (fun _ _ z => z)⟩
theorem x_kdnin (hM : X.mg = G.mg) (hK : X.K = G.K) (T : KdT G X.w x tbl) (hg : Gl X x) (hb : PE X b (tBr G W mb)) (hm2 : behindInMarks .NotIn (.Name x p) = false := by rfl) (hdb : (x == ("__debug__" : Str)) = false := by decide) :
    PE X (.Compare b [.NotIn] [.Name x p] pos) (tO G W (xKin tbl true mb)) := by
  obtain ⟨a, es, n, us, hm, kd, kt, vt⟩ := T.ex
  have kd' : KDict X.K X.w a es n := by rw [hK]; exact kd
  refine (pe_cmpR (op_notIn_kd kd') hb (pe_gm (v := .ref a) (by rw [hM]; exact ⟨_, hm, rfl⟩) hg hdb) hm2).weak fun σ H Q q => ?_
  obtain ⟨c, st, e, r, h⟩ := kin_rd kd kt vt hK q
  exact ⟨c, st, e, r, wp_mono h (fun o s k v c' r' g' p' => by obtain ⟨z, rr, e1, e2, e3⟩ := k v c' r' g' p'; rw [Bool.bne_true] at e3; exact ⟨z, rr, e1, rfl, e2, e3⟩) (fun _ _ z => z)⟩
theorem xt_kdin (hM : X.mg = G.mg) (hK : X.K = G.K) (T : KdT G X.w x tbl) (hg : Gl X x) (hb : PE X b (tBr G W mb)) (hm2 : behindInMarks .In (.Name x p) = false := by rfl) (hdb : (x == ("__debug__" : Str)) = false := by decide) :
    PT X (.Compare b [.In] [.Name x p] pos) (tTs G W (toB (xKin tbl false mb))) := by
  obtain ⟨a, es, n, us, hm, kd, kt, vt⟩ := T.ex
  have kd' : KDict X.K X.w a es n := by rw [hK]; exact kd
  refine (pt_cmpR (op_in_kd kd') hb (pe_gm (v := .ref a) (by rw [hM]; exact ⟨_, hm, rfl⟩) hg hdb) hm2).weak fun σ H Q q => ?_
  have q := test_t (prO_bl (G := G)) q
  obtain ⟨c, st, e, r, h⟩ := kin_rd kd kt vt hK q
  exact ⟨c, st, e, r, wp_mono h (fun o s k v c' r' g' p' => by obtain ⟨z, rr, e1, e2, e3⟩ := k v c' r' g' p'; rw [Bool.bne_false] at e3; exact ⟨z, rr, e1, rfl, e2, e3⟩) (fun _ _ z => z)⟩
theorem xt_kdnin (hM : X.mg = G.mg) (hK : X.K = G.K) (T : KdT G X.w x tbl) (hg : Gl X x) (hb : PE X b (tBr G W mb)) (hm2 : behindInMarks .NotIn (.Name x p) = false := by rfl) (hdb : (x == ("__debug__" : Str)) = false := by decide) :
    PT X (.Compare b [.NotIn] [.Name x p] pos) (tTs G W (toB (xKin tbl true mb))) := by
  obtain ⟨a, es, n, us, hm, kd, kt, vt⟩ := T.ex
  have kd' : KDict X.K X.w a es n := by rw [hK]; exact kd
  refine (pt_cmpR (op_notIn_kd kd') hb (pe_gm (v := .ref a) (by rw [hM]; exact ⟨_, hm, rfl⟩) hg hdb) hm2).weak fun σ H Q q => ?_
  have q := test_t (prO_bl (G := G)) q
  obtain ⟨c, st, e, r, h⟩ := kin_rd kd kt vt hK q
  exact ⟨c, st, e, r, wp_mono h (fun o s k v c' r' g' p' => by obtain ⟨z, rr, e1, e2, e3⟩ := k v c' r' g' p'; rw [Bool.bne_true] at e3; exact ⟨z, rr, e1, rfl, e2, e3⟩) (fun _ _ z => z)⟩
end
theorem kd_of {G : Gi} {w : World} {x : Str} {a : Addr} {es : Array DictEntry} {n : Nat} {us : List (Str × Value)} {tbl : List (Str × D)} (hm : G.mg x = some (.ref a)) (at_ : G.K.lookup a = some ⟨.type "dict", none, .dict es n, #[]⟩)
    (lit : PySem.W.KeysLit w.params es.toList) (low : (a == sysModules) = false) (kt : KeyTab es.toList us) (vt : VTab G us tbl) : KdT G w x tbl := ⟨a, es, n, us, hm, ⟨at_, lit, low⟩, kt, vt⟩
theorem rp_tuk {G : Gi} {A : Addr} {oc : Option Addr} {its : Array Value} {n : Nat} {sl : Array (Option Value)} {xs : List V} {ds : List D} (w : G.K.lookup A = some ⟨.type "tuple", oc, .seq its n, sl⟩) (z : its.size ≤ sizeLine) (y : Vals xs its.toList)
    (hr : ∀ F al, RpA G F al xs ds) : ∀ F al, Rp G F al (.ref A) (.tuk ds) := fun F al => .tuk ((kt_mk w z y).sq F) (hr F al)
/-! ### a call by a name that holds a def -/
def cvR (m : MF) (n : Nat) (ds : List D) : M O := if ds.length = n then runF m ds else fun _ => .no
def cvM (n : Nat) (ma : M (List D)) : Option MF → M O
  | some m => bnd ma (cvR m n)
  | none => fun _ => .no
def cvK (tbl : List (Str × MF)) (n : Nat) (ma : M (List D)) : O → M O
  | .fz (.fn f) => cvM n ma (tbl.lookup f)
  | _ => fun _ => .no
def xCallV (tbl : List (Str × MF)) (i n : Nat) (ma : M (List D)) : M O := bnd (xBor i) (cvK tbl n ma)
structure VfT (P : Program) (w : World) (G : Gi) (base : Heap) (gb : Bool) (k n : Nat) (tbl : List (Str × MF)) : Prop where
  ex : ∀ f m, tbl.lookup f = some m → KnT P w G base gb f k n [] (fun ds _ => ds) m
theorem vf_of {P : Program} {w : World} {G : Gi} {base : Heap} {gb : Bool} {k n : Nat} {tbl : List (Str × MF)} (h : ∀ p ∈ tbl, KnT P w G base gb p.1 k n [] (fun ds _ => ds) p.2) : VfT P w G base gb k n tbl := ⟨fun f m e => h (f, m) (lookup_mem e)⟩
theorem KnT.mono {P : Program} {w : World} {G : Gi} {base : Heap} {gb : Bool} {x : Str} {j k n : Nat} {ks : List Str} {gD : List D → List D → List D} {m : MF} (F : KnT P w G base gb x j n ks gD m) (h : j ≤ k) : KnT P w G base gb x k n ks gD m := by
  obtain ⟨f, fd, ps, F, r⟩ := F.ex
  exact ⟨f, fd, ps, F.mono h, r⟩
theorem KnT.gd {P : Program} {w : World} {G : Gi} {base : Heap} {gb : Bool} {x : Str} {k n : Nat} {ks : List Str} {gD : List D → List D → List D} {m : MF} (F : KnT P w G base false x k n ks gD m) : KnT P w G base gb x k n ks gD m := by
  obtain ⟨f, fd, ps, F, r⟩ := F.ex
  exact ⟨f, fd, ps, F.gd, r⟩
section
variable {X : Cx} {G : Gi} {W : WX} {gb : Bool} {k n i : Nat} {tbl : List (Str × MF)} {x : Str} {p pos : Pos} {e : Expr} {es : List Expr} {ma : M (List D)}
theorem x_callV (hK : X.K = G.K) (hM : X.mg = G.mg) (T : VfT X.prog X.w G X.base gb k n tbl) (hga : gb = true → X.A.guards = some []) (hr : Room k X.A)
    (hN : X.N[i]? = some x) (hv : Vis X.env.scope x) (hx : ∀ σ, PassesAt (L2.CX X.prog X.w) X σ (WE W σ)) (ha : PA X (e :: es) (tAs G W ma))
    (hdb : (x == ("__debug__" : Str)) = false := by decide) (hcd : (x == ("__classdict__" : Str)) = false := by decide)
    (he : starEach (e :: es) X.env = (false, eval e X.env) :: starEach es X.env := by rfl) (hpl : (backTo pos (starEach es X.env)).any (·.1) = false := by rfl) :
    PE X (.Call (.Name x p) (e :: es) [] pos) (tO G W (xCallV tbl i n ma)) := by
  refine ⟨fun pins s σ H Q I q => ?_⟩
  obtain ⟨c, st, rfl, r, w⟩ := q
  unfold xCallV at w
  have w := wp_bind.mp w
  unfold xBor at w
  cases e1 : getS st.env i with
  | none => rw [e1] at w; exact w.elim
  | some o =>
    rw [e1] at w
    obtain ⟨v, f1, f2, f3, hs, t, _⟩ := slots_get r.slots e1
    have w : wp (cvK tbl n ma o st) (fun o st' => ∀ v c', Rel G st' σ c' → GoE c c' → PrO G o c c' v → Q v c'.H) (xw G W σ c) := w
    unfold cvK at w
    split at w
    · rename_i fn _
      cases hl : tbl.lookup fn with
      | some m =>
        rw [hl] at w
        obtain ⟨f, fd, ps, FT, hm, hk, g, gV, hb, hlen, hd⟩ := (T.ex fn m hl).ex
        cases t with
        | fz t =>
          cases t with
          | fn h =>
            rw [hm] at h
            cases h
            refine wpAny_Call_Name_kw (thn ((pe_var (pos := p) hN hv hdb hcd).run pins s σ c.H (fun v H1 => v = .ref f ∧ H1 = c.H) I ⟨.ref f, hs, rfl, rfl⟩) fun u s1 ⟨v, H1, I1, rv, q1⟩ => ?_)
            obtain ⟨rfl, rfl⟩ := q1
            cases rv
            have q2 : tG G W (PrO G) (bnd ma (cvR m n)) σ c.H Q := ⟨c, st, rfl, r, w⟩
            refine PySem.W.callWith_K (h₀ := X.base) I.ok.mod.kin (by rw [hK]; exact hk) (thn (ha.run pos pins s1 σ c.H (fun vs H1 => vs.length = n ∧ SpM G ps.length m (gV vs []) H1 Q (WE W σ)) I1 ?_) fun us s2 ⟨vs, H2, I2, rr, q3, q4⟩ => ⟨I2.kIn, ?_⟩) he hpl
            · refine q2.seq bkO _ (fun ds vs c0 c1 st1 r1 g1 p1 w2 => ?_)
              have w3 : wp ((if ds.length = n ∧ ([] : List D).length = ([] : List Str).length then runF m ((fun (ds _ : List D) => ds) ds []) else fun _ => .no) st1) (fun o st' => ∀ v c', Rel G st' σ c' → GoE c1 c' → PrO G o c1 c' v → Q v c'.H) (xw G W σ c1) := by
                unfold cvR at w2
                by_cases hl2 : ds.length = n
                · rw [if_pos ⟨hl2, rfl⟩]; rw [if_pos hl2] at w2; exact w2
                · rw [if_neg hl2] at w2; exact w2.elim
              obtain ⟨a1, _, a3⟩ := call_rd (ks := []) hlen hd r1 p1 .nil w3
              exact ⟨a1, a3⟩
            · exact runT (ws := []) (zs := []) hK hM FT hga hr hb hx I2 rr .nil q3 rfl q4
      | none => rw [hl] at w; exact w.elim
    · exact w.elim
end
end L2.Tr

namespace L2.Tr
open PySem PySem.Spec PyProof.Rows L2 L2.Pc

/-! ### a slot's own thing made a cell; pop of a cell -/
section
variable {X : Cx} {G : Gi} {W : WX} {e : Expr} {st : Stmt} {m : M Fl} {me : M O} {pos apos cpos : Pos} {i : Nat}
theorem setS_setS (env : List (Option O)) (i : Nat) (a b : Option O) : setS (setS env i a) i b = setS env i b := by
  induction env generalizing i with
  | nil => cases i <;> rfl
  | cons x env ih => cases i with
    | zero => rfl
    | succ i => show x :: setS (setS env i a) i b = x :: setS env i b; rw [ih]
def celS (i : Nat) : M Fl := fun s => match getS s.env i with
  | some o => if cellO o = true then .ok .nx ⟨setS s.env i (some (.fz (.cel s.mu.length))), s.mu ++ [o]⟩ else .no
  | none => .no
def celK (i : Nat) : Fl → M Fl
  | .nx => celS i
  | f => ret f
def sCel (i : Nat) (m : M Fl) : M Fl := bnd m (celK i)
theorem set_same {σ : L2.St} {i : Nat} {v : Option V} (h : σ[i]? = some v) : σ.set i v = σ := by
  obtain ⟨hi, e⟩ := List.getElem?_eq_some_iff.mp h
  rw [← e]
  exact List.set_getElem_self hi
theorem cel_t {D : Ends} {σ : L2.St} {H : Hp} (q : tS G W (sCel i m) D σ H) : tS G W m D σ H := by
  obtain ⟨c, s, e, r, w⟩ := q
  refine ⟨c, s, e, r, wp_mono (wp_bind.mp w) (fun f s1 w1 => ?_) (fun x s q => q)⟩
  cases f with
  | nx =>
    intro σ' c' r' g'
    have w1 : wp (celS i s1) (Fw G D c) (xs G W c) := w1
    unfold celS at w1
    split at w1
    · rename_i o eo
      split at w1
      · rename_i hc
        obtain ⟨v, f2, fs', q1, q2, r2, fr, g, sb, _⟩ := rel_out r' eo
        obtain ⟨a, rfl⟩ := own_ref q2 hc
        obtain ⟨r3, g3, e3⟩ := rel_cell r2 q2 fr (g'.trans g.toGo) (fun b hb => g'.fp b (.inl (sb b hb)))
        obtain ⟨c4, e4, r4, g4, _⟩ := rel_put (i := i) (o := .fz (.cel s1.mu.length)) r3 (.fz (.cel e3)) (Fresh.nil _) g3 (New.nil _)
        dsimp only at r4
        rw [setS_setS, set_same q1] at r4
        have w1 : Fw G D c .nx _ := w1
        have e4 : c4.H = c'.H := e4
        rw [← e4]
        exact w1 _ c4 r4 g4
      · exact w1.elim
    · exact w1.elim
  | bk => exact w1
  | ct => exact w1
  | rt o => exact w1
theorem s_cel (i : Nat) (h : PS X st (tS G W m)) : PS X st (tS G W (sCel i m)) := h.weak fun D σ H q => cel_t q
theorem placeC {st : S} {σ : L2.St} {c : Cf} {i n : Nat} {o : O} (r : Rel G st σ c) (e1 : getS st.env i = some (.fz (.cel n))) (e2 : getM st.mu n = some o) : ∃ v f2, σ[i]? = some (some v) ∧ OwnT G c.F c.al c.H o v f2 ∧
    ∀ (H' : Hp) (o' : O), (∀ a, a ∉ f2 → H' a = c.H a) → OwnT G c.F c.al H' o' v f2 → Rel G ⟨st.env, setM st.mu n o'⟩ σ { c with H := H' } ∧ GoE c { c with H := H' } := by
  obtain ⟨v, g1, g2, g3, q1, q2, _⟩ := slots_get r.slots e1
  obtain ⟨v', f1, f2, f3, p1, p2, p3, p4⟩ := ownA_set r.cells e2
  have ev : v = v' := by
    cases q2 with
    | fz t =>
      cases t with
      | cel h =>
        rw [List.getElem?_map, h] at p1
        exact Option.some.inj p1
  subst ev
  have nd := r.ndc
  rw [p3] at nd
  obtain ⟨n1, n2, n3⟩ := nd_ends nd
  have sub : ∀ a ∈ f2, a ∈ c.fc := fun a h => by rw [p3]; exact mem_mid h
  refine ⟨v, f2, q1, p2, fun H' o' k t => ⟨?_, ?_⟩⟩
  · refine ⟨fun a u z => ?_, r.own, r.nds, r.ndc, r.dis, r.slots.mo (Mo.refl _ _) fun a ha => k a fun z => r.dis a ha (sub a z), ?_⟩
    · show H' a = some u
      rw [k a (fun y => by have := r.own a (.inr (sub a y)); rw [z] at this; cases this)]
      exact r.sub a u z
    · have := p4 c.F H' c.al (Mo.refl _ _) (fun a ha => k a fun z => n3 a z ha) o' f2 t
      rw [← p3] at this
      exact this
  · exact { mo := Mo.refl _ _, fr := fun a _ h1 h2 => k a fun z => h2 (sub a z), fp := fun a h => h.elim .inl fun h => .inr (.inl h), nF := fun a h => .inl h,
            hs := fun a h _ => k a fun z => r.dis a h (sub a z), sf := fun a h => h, cf := fun a h h2 => absurd h (r.dis a h2) }
theorem rpA_erase {F : Hp} {al : List Addr} : ∀ {vs : List V} {ds : List D} {j : Nat}, RpA G F al vs ds → RpA G F al (vs.eraseIdx j) (ds.eraseIdx j)
  | _, _, j, .nil => .nil
  | _, _, 0, .cons _ hs => hs
  | _, _, j + 1, .cons h hs => .cons h (rpA_erase hs)
def xPop (i : Nat) (me : M O) : M O := fun s => match getS s.env i with
  | some (.fz (.cel n)) => (match getM s.mu n with
    | some (.lst _) => (me s).bind fun o s1 => (match getS s1.env i, getM s1.mu n, o.toD with
      | some (.fz (.cel n')), some (.lst xs), .int k => if n' = n ∧ -(2 ^ 63) ≤ k ∧ k < 2 ^ 63 then (match seqIndex? k xs.length with
        | some j => (match xs[j]? with
          | some y => .ok (.fz y) ⟨s1.env, setM s1.mu n (.lst (xs.eraseIdx j))⟩
          | none => .no)
        | none => .no) else .no
      | _, _, _ => .no)
    | _ => .no)
  | _ => .no
theorem pop_t {σ : L2.St} {H : Hp} {Q : VK} (q : tO G W (xPop i me) σ H Q) : tBM G.K "list" rPopAt (tVar i) (tCons (tLa G W me) tNil) σ H Q := by
  obtain ⟨c, st, rfl, r, w⟩ := q
  unfold xPop at w
  split at w
  · rename_i n e0
    split at w
    · rename_i xs0 e1
      obtain ⟨v, f2, q1, q2, _⟩ := placeC r e0 e1
      obtain ⟨a, vs, rfl, rfl, hv, rv⟩ := own_lst q2
      refine ⟨.ref a, q1, .inl ⟨rfl, _, .inl (.inl hv)⟩, ?_⟩
      show tLa G W me σ c.H fun x H1 => rPopAt (.ref a) [x] H1 Q
      refine ⟨c, st, rfl, r, wp_mono (wp_bind.mp w) (fun o st1 w1 v c1 r1 g1 p1 => ?_) (fun x s q => q)⟩
      split at w1
      · rename_i n' xs k h0 h1 h2
        split at w1
        · rename_i hc
          obtain ⟨rfl, k1, k2⟩ := hc
          split at w1
          · rename_i j ej
            split at w1
            · rename_i y ey
              obtain ⟨v', f2', q1', q2', hp⟩ := placeC r1 h0 h1
              rw [q1] at q1'
              cases q1'
              obtain ⟨a', vs', ea, rfl, hv', rv'⟩ := own_lst q2'
              cases ea
              obtain ⟨fp, t⟩ := p1
              have vw := own_view r1 t
              rw [h2] at vw
              obtain ⟨u, hu, ru⟩ := rv'.get ey
              obtain ⟨r2, g2⟩ := hp (upd c1.H a (.lst (vs'.eraseIdx j))) (.lst (xs.eraseIdx j)) (fun b hb => upd_ne fun e => hb (by rw [e]; exact List.mem_singleton_self _)) (.lst upd_same (rpA_erase rv'))
              obtain rfl : v = .int k := vw
              exact ⟨a, vs', k, j, u, rfl, rfl, hv', k1, k2, by rw [rv'.len]; exact ej, hu, w1 u _ r2 (g1.trans g2) ⟨[], .fz ru, Fresh.nil _, New.nil _⟩⟩
            · exact w1.elim
          · exact w1.elim
        · exact w1.elim
      · exact w1.elim
    · exact w.elim
  · exact w.elim
theorem x_pop {x : Str} {px : Pos} (hK : X.K = G.K) (hN : X.N[i]? = some x) (hv : Vis X.env.scope x) (he : PE X e (tLa G W me)) (hd : (x == ("__debug__" : Str)) = false := by decide) (hcd : (x == ("__classdict__" : Str)) = false := by decide)
    (hbase : attributeBase (.Name x px) "pop" X.env (eval (.Name x px) X.env) = eval (.Name x px) X.env := by rfl)
    (hfew : ((backTo cpos (starEach [e] X.env)).all (fun x => !x.1) && (backToKw cpos (keywordEach [] X.env)).all (fun x => x.1.isSome)
      && decide (([e] : List Expr).length + ([] : List Keyword).length + (if ([] : List Keyword).isEmpty then 0 else 1) < 30)) = true := by rfl)
    (hline : (apos.endLine == cpos.line) = true := by rfl) (hst : starEach [e] X.env = (false, eval e X.env) :: starEach [] X.env := by rfl) (hplain : (backTo cpos (starEach [] X.env)).any (·.1) = false := by rfl) :
    PE X (.Call (.Attribute (.Name x px) "pop" apos) [e] [] cpos) (tO G W (xPop i me)) :=
  (pe_bm PySem.F.plainAttrs_list PySem.F.slot_list_pop PySem.F.type_list_pop mt_popAt (pe_var hN hv hd hcd) (pa_cons he pa_nil hst) hbase hfew hline hst hplain).weak fun σ H Q q => by
    rw [hK]; exact pop_t q
end
/-! ### a list compared with [] -/
section
variable {X : Cx} {G : Gi} {W : WX} {a b : Expr} {ma mb : M O}
def rNil (K : PySem.W.Frag) (neg : Bool) : R2 := fun x y H Q => ∃ a b xs, x = .ref a ∧ y = .ref b ∧ SqL K H a xs ∧ SqL K H b [] ∧ Q (.bl (xs.isEmpty != neg)) H
theorem op_nil (neg : Bool) (hu : X.A.units + 64 < cLine) : OpR X (compareOp (cmpOpB neg)) (rNil X.K neg) := by
  intro pins s σ H x y v u Q I rx ry h
  obtain ⟨a, b, xs, rfl, rfl, ha, hb, q⟩ := h
  cases xs with
  | nil =>
    cases neg
    · exact op_eqD hu _ _ _ _ _ _ _ _ _ I rx ry ⟨.list [], .list [], .lst ha .nil, .lst hb .nil, rfl, rfl, q⟩
    · exact op_neD hu _ _ _ _ _ _ _ _ _ I rx ry ⟨.list [], .list [], .lst ha .nil, .lst hb .nil, rfl, rfl, q⟩
  | cons z zs =>
    cases rx
    cases ry
    obtain ⟨its, rv, ⟨o, n, ho, hc, _, hd⟩, _⟩ := I.list ha
    obtain ⟨its2, rv2, ⟨o2, n2, ho2, hc2, _, hd2⟩, _⟩ := I.list hb
    cases rv with
    | cons r1 r2 =>
      cases rv2
      have sz : ∀ u : Value, ∀ us : List Value, ((u :: us).toArray.size != (([] : List Value).toArray).size) = true := fun _ _ => rfl
      cases neg
      · exact SeqAt.RcAt.lists_lengths ⟨o, ho, hc, n, hd⟩ ⟨o2, ho2, hc2, n2, hd2⟩ (sz _ _) (by omega) _ _ _ _ ⟨.bl false, H, I, rfl, q⟩
      · exact SeqAt.RcNeAt.lists_lengths ⟨o, ho, hc, n, hd⟩ ⟨o2, ho2, hc2, n2, hd2⟩ (sz _ _) (by omega) _ _ _ _ ⟨.bl true, H, I, rfl, q⟩
def nilD (neg : Bool) : D → D → Option O
  | .lst xs, .lst [] => some (.fz (.bl (xs.isEmpty != neg)))
  | _, _ => none
theorem d_nil (neg : Bool) : OpD G (rNil G.K neg) (nilD neg) := by
  intro st σ c x y ox oy fx fy o Q r tx ty e q
  have vx := own_view r tx
  have vy := own_view r ty
  unfold nilD at e
  split at e
  · rename_i xs h1 h2
    rw [h1] at vx
    rw [h2] at vy
    cases e
    obtain ⟨a, vs, rfl, ha, ra⟩ := vx
    obtain ⟨b, ws, rfl, hb, rb⟩ := vy
    cases rb
    have : xs.isEmpty = vs.isEmpty := by cases ra <;> rfl
    rw [this] at q
    exact ⟨a, b, vs, rfl, rfl, .inl (.inl ha), .inl (.inl hb), q _ c r (GoE.refl r) ⟨[], .fz (.bl _), Fresh.nil _, New.nil _⟩⟩
  · cases e
theorem k_eqN {K : PySem.W.Frag} (h : X.K = K) (hu : X.A.units + 64 < cLine) : OpR X (compareOp .Eq) (rNil K false) := h ▸ op_nil false hu
theorem k_neN {K : PySem.W.Frag} (h : X.K = K) (hu : X.A.units + 64 < cLine) : OpR X (compareOp .NotEq) (rNil K true) := h ▸ op_nil true hu
end
/-! ### a function called by keywords alone -/
section
variable {X : Cx} {G : Gi} {W : WX} {gb : Bool} {k : Nat} {ks : List Str} {gD : List D → List D → List D} {m : MF} {x : Str} {p pos : Pos} {kws : List Keyword} {mk : M (List D)}
theorem x_callK0 (hK : X.K = G.K) (hM : X.mg = G.mg) (F : KnT X.prog X.w G X.base gb x k 0 ks gD m) (hga : gb = true → X.A.guards = some []) (hr : Room k X.A)
    (hg : Gl X x) (hx : ∀ σ, PassesAt (L2.CX X.prog X.w) X σ (WE W σ)) (hkw : PK X kws (tAs G W mk))
    (hall : (backToKw pos (keywordEach kws X.env)).all (·.1.isSome) = true := by rfl)
    (hks : (backToKw pos (keywordEach kws X.env)).filterMap (·.1) = ks := by rfl)
    (hdb : (x == ("__debug__" : Str)) = false := by decide)
    (hpl : ((backTo pos (starEach [] X.env)).any (·.1) || (backToKw pos (keywordEach kws X.env)).any (·.1.isNone)) = false := by rfl) :
    PE X (.Call (.Name x p) [] kws pos) (tO G W (xCall m gD 0 ks.length aNil mk)) := by
  obtain ⟨f, fd, ps, FT, hm, hk, g, gV, hb, hl, hd⟩ := F.ex
  refine ⟨fun pins s σ H Q I q => wpAny_Call_Name_kw (ld_glob I hg (by rw [hM]; exact hm) ?_ hdb)⟩
  apply PySem.W.callWith_KW0 (h₀ := X.base) I.ok.mod.kin (by rw [hK]; exact hk) hall ?_ hpl
  refine thn (hkw.run pos pins s σ H (fun zs H2 => ([] : List V).length = 0 ∧ zs.length = ks.length ∧ SpM G ps.length m (gV [] zs) H2 Q (WE W σ)) I ?_) ?_
  · obtain ⟨c0, st, rfl, r0, w⟩ := q
    have w : wp (bnd mk (fun es => if ([] : List D).length = 0 ∧ es.length = ks.length then runF m (gD [] es) else fun _ => .no) st) _ _ := w
    refine tG.seq1 bkO r0 w _ (fun es' zs c2 st2 r2 g2 p2 w2 => ?_)
    exact call_rd hl hd r2 .nil p2 w2
  · rintro ws s2 ⟨zs, H2, I2, rz, q1, q2, q3⟩
    refine ⟨I2.kIn, ?_⟩
    rw [hks]
    exact runT (us := []) (vs := []) hK hM FT hga hr hb hx I2 .nil rz q1 q2 q3
end
/-! ### a cell compared with [] -/
section
variable {X : Cx} {G : Gi} {W : WX} {b : Expr} {pos : Pos} {i : Nat}
def xNil (neg : Bool) (i : Nat) : M O := fun s => match getS s.env i with
  | some (.fz (.cel n)) => (match getM s.mu n with
    | some (.lst xs) => .ok (.fz (.bl (xs.isEmpty != neg))) s
    | _ => .no)
  | _ => .no
theorem nil_t (neg : Bool) {σ : L2.St} {H : Hp} {Q : VK} (q : tO G W (xNil neg i) σ H Q) : tOp (rNil G.K neg) (tVar i) (tLa G W (xLst aNil)) σ H Q := by
  obtain ⟨c, st, rfl, r, w⟩ := q
  unfold xNil at w
  split at w
  · rename_i n e0
    split at w
    · rename_i xs e1
      obtain ⟨v, f2, q1, q2, _⟩ := placeC r e0 e1
      obtain ⟨a, vs, rfl, rfl, hv, rv⟩ := own_lst q2
      refine ⟨.ref a, q1, ?_⟩
      show tLa G W (xLst aNil) σ c.H fun y H1 => rNil G.K neg (.ref a) y H1 Q
      refine ⟨c, st, rfl, r, ?_⟩
      rw [show xLst aNil st = .ok (.lst []) st from rfl]
      intro v c1 r1 g1 p1
      obtain ⟨fp, t⟩ := p1
      obtain ⟨v', f2', q1', q2', _⟩ := placeC r1 e0 e1
      rw [q1] at q1'
      cases q1'
      obtain ⟨a', vs', ea, rfl, hv', rv'⟩ := own_lst q2'
      cases ea
      obtain ⟨b, ws, rfl, hb, rb⟩ := own_view r1 t
      cases rb
      have em : xs.isEmpty = vs'.isEmpty := by cases rv' <;> rfl
      rw [em] at w
      exact ⟨a, b, vs', rfl, rfl, .inl (.inl hv'), .inl (.inl hb), w _ _ r1 g1 ⟨[], .fz (.bl _), Fresh.nil _, New.nil _⟩⟩
    · exact w.elim
  · exact w.elim
theorem xt_nil (neg : Bool) {op : CmpOp} {x : Str} {px : Pos} (ho : OpR X (compareOp op) (rNil G.K neg)) (hN : X.N[i]? = some x) (hv : Vis X.env.scope x) (hb : PE X b (tLa G W (xLst aNil))) (hm : behindInMarks op b = false)
    (hd : (x == ("__debug__" : Str)) = false := by decide) (hcd : (x == ("__classdict__" : Str)) = false := by decide) :
    PT X (.Compare (.Name x px) [op] [b] pos) (tTs G W (toB (xNil neg i))) := (pt_cmpR ho (pe_var hN hv hd hcd) hb hm).weak fun σ H Q q => by
  have q2 := test_t (prO_bl (G := G)) q
  exact nil_t neg q2
end
/-! ### `is` of two truths -/
section
variable {X : Cx} {G : Gi}
def isbD : D → D → Option O
  | .bl a, .bl b => some (.fz (.bl (decide (a = b))))
  | _, _ => none
def isbntD : D → D → Option O
  | .bl a, .bl b => some (.fz (.bl (!decide (a = b))))
  | _, _ => none
theorem d_isb : OpD G (fun x y H Q => ∃ a b, x = .bl a ∧ y = .bl b ∧ Q (.bl (decide (a = b))) H) isbD := by
  intro st σ c x y ox oy fx fy o Q r tx ty e q
  have vx := own_view r tx
  have vy := own_view r ty
  unfold isbD at e
  split at e
  · rename_i a b h1 h2
    rw [h1] at vx
    rw [h2] at vy
    cases e
    exact ⟨a, b, vx, vy, fin r (.bl _) q⟩
  · cases e
theorem d_isbnt : OpD G (fun x y H Q => ∃ a b, x = .bl a ∧ y = .bl b ∧ Q (.bl (!decide (a = b))) H) isbntD := by
  intro st σ c x y ox oy fx fy o Q r tx ty e q
  have vx := own_view r tx
  have vy := own_view r ty
  unfold isbntD at e
  split at e
  · rename_i a b h1 h2
    rw [h1] at vx
    rw [h2] at vy
    cases e
    exact ⟨a, b, vx, vy, fin r (.bl _) q⟩
  · cases e
end
end L2.Tr

namespace L2.Tr
open PySem PySem.Spec PyProof.Rows L2 L2.Pc
/-! ### cells that are dicts with text keys, their entries owned -/
def isK (k : Str) : D → Bool
  | .str s => decide (s = k)
  | _ => false
def getK (k : Str) : List (D × O) → Option O
  | [] => none
  | (d, o) :: r => if isK k d = true then some o else getK k r
/-- the first entry of a key exchanged -/
def setK (k : Str) (o' : O) : List (D × O) → List (D × O)
  | [] => []
  | (d, o) :: r => if isK k d = true then (d, o') :: r else (d, o) :: setK k o' r
/-- an entry that is no owned thing, exchanged everywhere -/
def putW (k : Str) (d' : D) : List (D × O) → List (D × O)
  | [] => []
  | (d, o) :: r => (d, if isK k d = true then .fz d' else o) :: putW k d' r
def okW (k : Str) : List (D × O) → Bool
  | [] => true
  | (d, o) :: r => (!isK k d || isFz o) && okW k r
theorem isK_iff {k : Str} {q : Key} : isK k (kD q) = decide (q = .inr k) := by
  cases q with
  | inl i => rfl
  | inr s =>
    show decide (s = k) = _
    by_cases h : s = k
    · subst h; simp
    · rw [decide_eq_false h, decide_eq_false fun e => h (Sum.inr.inj e)]
section
variable {G : Gi}
theorem own_getK {F H : Hp} {al : List Addr} {k : Str} : ∀ {os : List (D × O)} {kv : List (Key × V)} {fp : List Addr} {o : O}, os.map (·.1) = kv.map (fun p => kD p.1) → OwnA G F al H (os.map (·.2)) (kv.map (·.2)) fp → getK k os = some o →
    ∃ v f1 f2 f3, valV kv (.inr k) = some v ∧ OwnT G F al H o v f2 ∧ fp = f1 ++ (f2 ++ f3) ∧ ∀ H' o', (∀ b ∈ f1 ++ f3, H' b = H b) → OwnT G F al H' o' v f2 →
      OwnA G F al H' ((setK k o' os).map (·.2)) (kv.map (·.2)) fp ∧ (setK k o' os).map (·.1) = os.map (·.1)
  | [], _, _, o, _, _, e => by cases e
  | (d, o1) :: os, [], _, o, h, _, _ => by cases h
  | (d, o1) :: os, (q, v1) :: kv, _, o, h, .cons (fp := fp) (fq := fq) t ts, e => by
    have h1 : d = kD q := (List.cons.inj h).1
    have h2 : os.map (·.1) = kv.map (fun p => kD p.1) := (List.cons.inj h).2
    subst h1
    unfold getK at e
    by_cases z : q = .inr k
    · have zk : isK k (kD q) = true := by rw [isK_iff]; exact decide_eq_true z
      rw [if_pos zk] at e
      cases e
      refine ⟨v1, [], fp, fq, valV_pos z, t, rfl, fun H' o' k1 t' => ?_⟩
      unfold setK
      rw [if_pos zk]
      exact ⟨.cons t' (ts.mo (Mo.refl _ _) k1), rfl⟩
    · have zk : ¬ isK k (kD q) = true := by rw [isK_iff]; exact fun x => z (of_decide_eq_true x)
      rw [if_neg zk] at e
      obtain ⟨v, f1, f2, f3, p1, p2, p3, p4⟩ := own_getK h2 ts e
      subst p3
      refine ⟨v, fp ++ f1, f2, f3, by rw [valV_neg z]; exact p1, p2, by rw [List.append_assoc], fun H' o' k1 t' => ?_⟩
      obtain ⟨r1, r2⟩ := p4 H' o' (fun b hb => k1 b (by rw [List.append_assoc]; exact List.mem_append_right _ hb)) t'
      unfold setK
      rw [if_neg zk]
      refine ⟨.cons (t.mo (Mo.refl _ _) fun b hb => k1 b (List.mem_append_left _ (List.mem_append_left _ hb))) r1, ?_⟩
      show kD q :: _ = kD q :: _
      rw [r2]
theorem own_putW {F H : Hp} {al : List Addr} {k : Str} {d' : D} {v' : V} (hv : Rp G F al v' d') : ∀ {os : List (D × O)} {kv : List (Key × V)} {fp : List Addr}, os.map (·.1) = kv.map (fun p => kD p.1) → OwnA G F al H (os.map (·.2)) (kv.map (·.2)) fp → okW k os = true →
    OwnA G F al H ((putW k d' os).map (·.2)) ((kv.map fun p => if p.1 = .inr k then (p.1, v') else p).map (·.2)) fp ∧ (putW k d' os).map (·.1) = (kv.map fun p => if p.1 = .inr k then (p.1, v') else p).map (fun p => kD p.1)
  | [], [], _, _, .nil, _ => ⟨.nil, rfl⟩
  | [], _ :: _, _, h, _, _ => by cases h
  | (d, o1) :: os, [], _, h, _, _ => by cases h
  | (d, o1) :: os, (q, v1) :: kv, _, h, .cons (fp := fp) (fq := fq) t ts, e => by
    have h1 : d = kD q := (List.cons.inj h).1
    have h2 : os.map (·.1) = kv.map (fun p => kD p.1) := (List.cons.inj h).2
    subst h1
    unfold okW at e
    rw [Bool.and_eq_true] at e
    obtain ⟨r1, r2⟩ := own_putW (k := k) hv h2 ts e.2
    by_cases z : q = .inr k
    · have zk : isK k (kD q) = true := by rw [isK_iff]; exact decide_eq_true z
      have fo : isFz o1 = true := by have := e.1; rw [zk] at this; exact this
      obtain ⟨rfl, _⟩ := own_fz t fo
      unfold putW
      refine ⟨?_, ?_⟩
      · rw [List.map_cons, List.map_cons, List.map_cons, if_pos zk, if_pos z]
        exact .cons (.fz hv) r1
      · rw [List.map_cons, List.map_cons, List.map_cons, if_pos z, r2]
    · have zk : ¬ isK k (kD q) = true := by rw [isK_iff]; exact fun x => z (of_decide_eq_true x)
      unfold putW
      refine ⟨?_, ?_⟩
      · rw [List.map_cons, List.map_cons, List.map_cons, if_neg zk, if_neg z]
        exact .cons t r1
      · rw [List.map_cons, List.map_cons, List.map_cons, if_neg z, r2]
theorem own_dco {F H : Hp} {al : List Addr} {os : List (D × O)} {v : V} {fp : List Addr} (h : OwnT G F al H (.dco os) v fp) : ∃ a kv fq, v = .ref a ∧ fp = a :: fq ∧ H a = some (.dK kv) ∧ os.map (·.1) = kv.map (fun p => kD p.1) ∧ OwnA G F al H (os.map (·.2)) (kv.map (·.2)) fq := by
  cases h with
  | dcoK h1 h2 h3 => exact ⟨_, _, _, rfl, rfl, h1, h2, h3⟩
theorem placeM {st : S} {σ : L2.St} {c : Cf} {i n : Nat} {o : O} (r : Rel G st σ c) (e1 : getS st.env i = some (.fz (.cel n))) (e2 : getM st.mu n = some o) : ∃ v f2, σ[i]? = some (some v) ∧ OwnT G c.F c.al c.H o v f2 ∧ f2.Nodup ∧
    ∀ (H' : Hp) (o' : O), (∀ a, a ∉ f2 → H' a = c.H a) → OwnT G c.F c.al H' o' v f2 → Rel G ⟨st.env, setM st.mu n o'⟩ σ { c with H := H' } ∧ GoE c { c with H := H' } := by
  obtain ⟨v, g1, g2, g3, q1, q2, _⟩ := slots_get r.slots e1
  obtain ⟨v', f1, f2, f3, p1, p2, p3, p4⟩ := ownA_set r.cells e2
  have ev : v = v' := by
    cases q2 with
    | fz t =>
      cases t with
      | cel h =>
        rw [List.getElem?_map, h] at p1
        exact Option.some.inj p1
  subst ev
  have nd := r.ndc
  rw [p3] at nd
  obtain ⟨n1, n2, n3⟩ := nd_ends nd
  have sub : ∀ a ∈ f2, a ∈ c.fc := fun a h => by rw [p3]; exact mem_mid h
  refine ⟨v, f2, q1, p2, n2, fun H' o' k t => ⟨?_, ?_⟩⟩
  · refine ⟨fun a u z => ?_, r.own, r.nds, r.ndc, r.dis, r.slots.mo (Mo.refl _ _) fun a ha => k a fun z => r.dis a ha (sub a z), ?_⟩
    · show H' a = some u
      rw [k a (fun y => by have := r.own a (.inr (sub a y)); rw [z] at this; cases this)]
      exact r.sub a u z
    · have := p4 c.F H' c.al (Mo.refl _ _) (fun a ha => k a fun z => n3 a z ha) o' f2 t
      rw [← p3] at this
      exact this
  · exact { mo := Mo.refl _ _, fr := fun a _ h1 h2 => k a fun z => h2 (sub a z), fp := fun a h => h.elim .inl fun h => .inr (.inl h), nF := fun a h => .inl h,
            hs := fun a h _ => k a fun z => r.dis a h (sub a z), sf := fun a h => h, cf := fun a h h2 => absurd h (r.dis a h2) }
/-- an entry of a cell's dict -/
theorem placeD {st : S} {σ : L2.St} {c : Cf} {i n : Nat} {k : Str} {os : List (D × O)} {o : O} (r : Rel G st σ c) (e1 : getS st.env i = some (.fz (.cel n))) (e2 : getM st.mu n = some (.dco os)) (e3 : getK k os = some o) :
    ∃ a kv v f2, σ[i]? = some (some (.ref a)) ∧ c.H a = some (.dK kv) ∧ valV kv (.inr k) = some v ∧ OwnT G c.F c.al c.H o v f2 ∧
    ∀ (H' : Hp) (o' : O), (∀ b, b ∉ f2 → H' b = c.H b) → OwnT G c.F c.al H' o' v f2 → Rel G ⟨st.env, setM st.mu n (.dco (setK k o' os))⟩ σ { c with H := H' } ∧ GoE c { c with H := H' } := by
  obtain ⟨v0, ff, q1, q2, nd, hp⟩ := placeM r e1 e2
  obtain ⟨a, kv, fq, rfl, rfl, h1, h2, h3⟩ := own_dco q2
  obtain ⟨v, f1, f2, f3, p1, p2, p3, p4⟩ := own_getK h2 h3 e3
  subst p3
  have nd2 := (List.nodup_cons.mp nd).2
  have na := (List.nodup_cons.mp nd).1
  obtain ⟨_, _, n3⟩ := nd_ends nd2
  refine ⟨a, kv, v, f2, q1, h1, p1, p2, fun H' o' k t => ?_⟩
  have naf : a ∉ f2 := fun z => na (List.mem_append_right _ (List.mem_append_left _ z))
  obtain ⟨r1, r2⟩ := p4 H' o' (fun b hb => k b fun z => n3 b z hb) t
  exact hp H' _ (fun b hb => k b fun z => hb (List.mem_cons_of_mem _ (List.mem_append_right _ (List.mem_append_left _ z)))) (.dcoK (by rw [k a naf]; exact h1) (by rw [r2]; exact h2) r1)
variable {X : Cx} {W : WX} {e b : Expr} {i jj j2 : Nat} {k x : Str} {px pos cp cp2 pos' apos cpos : Pos} {md : M D} {j : Int}
/-- an entry, as it is just now -/
def xDg (i : Nat) (k : Str) : M O := fun s => match getS s.env i with
  | some (.fz (.cel n)) => (match getM s.mu n with
    | some (.dco os) => (match getK k os with
      | some o => .ok o s
      | none => .no)
    | _ => .no)
  | _ => .no
/-- an entry that is no owned thing -/
def xDgF (i : Nat) (k : Str) : M O := fun s => match getS s.env i with
  | some (.fz (.cel n)) => (match getM s.mu n with
    | some (.dco os) => (match getK k os with
      | some (.fz d) => .ok (.fz d) s
      | _ => .no)
    | _ => .no)
  | _ => .no
theorem x_dgL (hu : X.A.units + 64 < cLine) (hN : X.N[i]? = some x) (hv : Vis X.env.scope x) (hd : (x == ("__debug__" : Str)) = false := by decide) (hcd : (x == ("__classdict__" : Str)) = false := by decide)
    (hs : NoSl (.Constant (.str k) jj cp) := by exact fun _ _ => rfl) : PE X (.Subscript (.Name x px) (.Constant (.str k) jj cp) pos) (tLa G W (xDg i k)) :=
  (pe_dget (by omega) (pe_var hN hv hd hcd) pe_str hs).weak fun σ H Q q => by
    obtain ⟨c, st, rfl, r, w⟩ := q
    unfold xDg at w
    split at w
    · rename_i n e0
      split at w
      · rename_i os e1
        split at w
        · rename_i o e2
          obtain ⟨a, kv, v, f2, q1, q2, q3, q4, _⟩ := placeD r e0 e1 e2
          refine ⟨.ref a, q1, ?_⟩
          show ∃ a' v', V.ref a = .ref a' ∧ DGet c.H a' (.str k) (some v') ∧ Q v' c.H
          exact ⟨a, v, rfl, by rw [← q3]; exact .k (k := .inr k) q2, w v c r (GoE.refl r) ⟨f2, q4⟩⟩
        · exact w.elim
      · exact w.elim
    · exact w.elim
theorem x_dgF (hu : X.A.units + 64 < cLine) (hN : X.N[i]? = some x) (hv : Vis X.env.scope x) (hd : (x == ("__debug__" : Str)) = false := by decide) (hcd : (x == ("__classdict__" : Str)) = false := by decide)
    (hs : NoSl (.Constant (.str k) jj cp) := by exact fun _ _ => rfl) : PE X (.Subscript (.Name x px) (.Constant (.str k) jj cp) pos) (tO G W (xDgF i k)) :=
  (pe_dget (by omega) (pe_var hN hv hd hcd) pe_str hs).weak fun σ H Q q => by
    obtain ⟨c, st, rfl, r, w⟩ := q
    unfold xDgF at w
    split at w
    · rename_i n e0
      split at w
      · rename_i os e1
        split at w
        · rename_i d e2
          obtain ⟨a, kv, v, f2, q1, q2, q3, q4, _⟩ := placeD r e0 e1 e2
          refine ⟨.ref a, q1, ?_⟩
          show ∃ a' v', V.ref a = .ref a' ∧ DGet c.H a' (.str k) (some v') ∧ Q v' c.H
          have q4 : OwnT G c.F c.al c.H (.fz d) v [] := by cases q4 with | fz t => exact .fz t
          exact ⟨a, v, rfl, by rw [← q3]; exact .k (k := .inr k) q2, w v c r (GoE.refl r) ⟨[], q4, Fresh.nil _, New.nil _⟩⟩
        · exact w.elim
      · exact w.elim
    · exact w.elim
/-- an entry that is a list, compared with [] -/
def xNilD (neg : Bool) (i : Nat) (k : Str) : M O := fun s => match getS s.env i with
  | some (.fz (.cel n)) => (match getM s.mu n with
    | some (.dco os) => (match getK k os with
      | some (.lst xs) => .ok (.fz (.bl (xs.isEmpty != neg))) s
      | some (.fz (.lst xs)) => .ok (.fz (.bl (xs.isEmpty != neg))) s
      | _ => .no)
    | _ => .no)
  | _ => .no
theorem nilD_t (neg : Bool) {σ : L2.St} {H : Hp} {Q : VK} (q : tO G W (xNilD neg i k) σ H Q) : tOp (rNil G.K neg) (tDGet (tVar i) (tC (.str k))) (tLst tNil) σ H Q := by
  obtain ⟨c, st, rfl, r, w⟩ := q
  unfold xNilD at w
  split at w
  · rename_i n e0
    split at w
    · rename_i os e1
      split at w
      · rename_i xs e2
        obtain ⟨a, kv, v, f2, q1, q2, q3, q4, _⟩ := placeD r e0 e1 e2
        obtain ⟨l, vs, rfl, rfl, hv, rv⟩ := own_lst q4
        refine ⟨.ref a, q1, a, .ref l, rfl, by rw [← q3]; exact .k (k := .inr k) q2, ?_⟩
        show 0 ≤ sizeLine ∧ ∀ p, c.H p = none → rNil G.K neg (.ref l) (.ref p) (upd c.H p (.lst [])) Q
        refine ⟨Nat.zero_le _, fun p hp => ?_⟩
        have ne : l ≠ p := fun e => by rw [e, hp] at hv; cases hv
        have em : xs.isEmpty = vs.isEmpty := by cases rv <;> rfl
        rw [em] at w
        exact ⟨l, p, vs, rfl, rfl, .inl (.inl (by rw [upd_ne ne]; exact hv)), .inl (.inl upd_same), w _ _ (r.new hp) (GoE.new r hp) ⟨[], .fz (.bl _), Fresh.nil _, New.nil _⟩⟩
      · rename_i xs e2
        obtain ⟨a, kv, v, f2, q1, q2, q3, q4, _⟩ := placeD r e0 e1 e2
        obtain ⟨l, vs, rfl, hv, rv⟩ : ∃ l vs, v = .ref l ∧ c.H l = some (.lst vs) ∧ RpA G c.F c.al vs xs := by
          cases q4 with
          | fz t => cases t with
            | lst h hs => exact ⟨_, _, rfl, r.sub _ _ h, hs⟩
        refine ⟨.ref a, q1, a, .ref l, rfl, by rw [← q3]; exact .k (k := .inr k) q2, ?_⟩
        show 0 ≤ sizeLine ∧ ∀ p, c.H p = none → rNil G.K neg (.ref l) (.ref p) (upd c.H p (.lst [])) Q
        refine ⟨Nat.zero_le _, fun p hp => ?_⟩
        have ne : l ≠ p := fun e => by rw [e, hp] at hv; cases hv
        have em : xs.isEmpty = vs.isEmpty := by cases rv <;> rfl
        rw [em] at w
        exact ⟨l, p, vs, rfl, rfl, .inl (.inl (by rw [upd_ne ne]; exact hv)), .inl (.inl upd_same), w _ _ (r.new hp) (GoE.new r hp) ⟨[], .fz (.bl _), Fresh.nil _, New.nil _⟩⟩
      · exact w.elim
    · exact w.elim
  · exact w.elim
theorem xt_nilD (neg : Bool) {op : CmpOp} (ho : OpR X (compareOp op) (rNil G.K neg)) (hu : X.A.units + 64 < cLine) (hN : X.N[i]? = some x) (hv : Vis X.env.scope x) (hm : behindInMarks op (.List [] cp2) = false)
    (hd : (x == ("__debug__" : Str)) = false := by decide) (hcd : (x == ("__classdict__" : Str)) = false := by decide)
    (hs : NoSl (.Constant (.str k) jj cp) := by exact fun _ _ => rfl) :
    PT X (.Compare (.Subscript (.Name x px) (.Constant (.str k) jj cp) pos') [op] [.List [] cp2] pos) (tTs G W (toB (xNilD neg i k))) := (pt_cmpR ho (pe_dget (by omega) (pe_var hN hv hd hcd) pe_str hs) (pe_lst pa_nil) hm).weak fun σ H Q q => by
  have q2 := test_t (prO_bl (G := G)) q
  exact nilD_t neg q2
/-- one taken out of an entry that is a list -/
def xPopD (i : Nat) (k : Str) (j : Int) : M O := fun s => match getS s.env i with
  | some (.fz (.cel n)) => (match getM s.mu n with
    | some (.dco os) => (match getK k os with
      | some (.lst xs) => if -(2 ^ 63) ≤ j ∧ j < 2 ^ 63 then (match seqIndex? j xs.length with
        | some p => (match xs[p]? with
          | some y => .ok (.fz y) ⟨s.env, setM s.mu n (.dco (setK k (.lst (xs.eraseIdx p)) os))⟩
          | none => .no)
        | none => .no) else .no
      | _ => .no)
    | _ => .no)
  | _ => .no
theorem popD_t {σ : L2.St} {H : Hp} {Q : VK} (q : tO G W (xPopD i k j) σ H Q) : tBM G.K "list" rPopAt (tDGet (tVar i) (tC (.str k))) (tCons (tC (.int j)) tNil) σ H Q := by
  obtain ⟨c, st, rfl, r, w⟩ := q
  unfold xPopD at w
  split at w
  · rename_i n e0
    split at w
    · rename_i os e1
      split at w
      · rename_i xs e2
        split at w
        · rename_i hc
          obtain ⟨k1, k2⟩ := hc
          split at w
          · rename_i p ej
            split at w
            · rename_i y ey
              obtain ⟨a, kv, v, f2, q1, q2, q3, q4, hp⟩ := placeD r e0 e1 e2
              obtain ⟨l, vs, rfl, rfl, hv, rv⟩ := own_lst q4
              obtain ⟨u, hu, ru⟩ := rv.get ey
              obtain ⟨r2, g2⟩ := hp (upd c.H l (.lst (vs.eraseIdx p))) (.lst (xs.eraseIdx p)) (fun b hb => upd_ne fun e => hb (by rw [e]; exact List.mem_singleton_self _)) (.lst upd_same (rpA_erase rv))
              refine ⟨.ref a, q1, a, .ref l, rfl, by rw [← q3]; exact .k (k := .inr k) q2, .inl ⟨rfl, _, .inl (.inl hv)⟩, ?_⟩
              show rPopAt (.ref l) [.int j] c.H Q
              exact ⟨l, vs, j, p, u, rfl, rfl, hv, k1, k2, by rw [rv.len]; exact ej, hu, w u _ r2 g2 ⟨[], .fz ru, Fresh.nil _, New.nil _⟩⟩
            · exact w.elim
          · exact w.elim
        · exact w.elim
      · exact w.elim
    · exact w.elim
  · exact w.elim
theorem x_popD (hK : X.K = G.K) (hu : X.A.units + 64 < cLine) (hN : X.N[i]? = some x) (hv : Vis X.env.scope x) (hd : (x == ("__debug__" : Str)) = false := by decide) (hcd : (x == ("__classdict__" : Str)) = false := by decide)
    (hs : NoSl (.Constant (.str k) jj cp) := by exact fun _ _ => rfl)
    (hbase : attributeBase (.Subscript (.Name x px) (.Constant (.str k) jj cp) pos') "pop" X.env (eval (.Subscript (.Name x px) (.Constant (.str k) jj cp) pos') X.env) = eval (.Subscript (.Name x px) (.Constant (.str k) jj cp) pos') X.env := by rfl)
    (hfew : ((backTo cpos (starEach [.Constant (.int j) j2 cp2] X.env)).all (fun x => !x.1) && (backToKw cpos (keywordEach [] X.env)).all (fun x => x.1.isSome)
      && decide (([.Constant (.int j) j2 cp2] : List Expr).length + ([] : List Keyword).length + (if ([] : List Keyword).isEmpty then 0 else 1) < 30)) = true := by rfl)
    (hline : (apos.endLine == cpos.line) = true := by rfl) (hst : starEach [.Constant (.int j) j2 cp2] X.env = (false, eval (.Constant (.int j) j2 cp2) X.env) :: starEach [] X.env := by rfl) (hplain : (backTo cpos (starEach [] X.env)).any (·.1) = false := by rfl) :
    PE X (.Call (.Attribute (.Subscript (.Name x px) (.Constant (.str k) jj cp) pos') "pop" apos) [.Constant (.int j) j2 cp2] [] cpos) (tO G W (xPopD i k j)) :=
  (pe_bm PySem.F.plainAttrs_list PySem.F.slot_list_pop PySem.F.type_list_pop mt_popAt (pe_dget (by omega) (pe_var hN hv hd hcd) pe_str hs) (pa_cons pe_int pa_nil hst) hbase hfew hline hst hplain).weak fun σ H Q q => by
    rw [hK]; exact popD_t q
/-- d[k][j] = e -/
def sPutLD (i : Nat) (k : Str) (j : Int) (md : M D) : M Fl := bnd md fun d s => match getS s.env i with
  | some (.fz (.cel n)) => (match getM s.mu n with
    | some (.dco os) => (match getK k os with
      | some (.lst xs) => (match ixN xs.length j with
        | some q => .ok .nx ⟨s.env, setM s.mu n (.dco (setK k (.lst (xs.set q d)) os))⟩
        | none => .no)
      | _ => .no)
    | _ => .no)
  | _ => .no
theorem putLD_t {D' : Ends} {σ : L2.St} {H : Hp} (q : tS G W (sPutLD i k j md) D' σ H) : tAsg (tD G W md) (gSub (tDGet (tVar i) (tC (.str k))) (tC (.int j)) rSetL) D' σ H := by
  show tD G W md σ H fun v H1 => tDGet (tVar i) (tC (.str k)) σ H1 fun o H2 => rSetL o (.int j) v H2 fun H3 => D'.nx σ H3
  refine tS.ex q _ (fun d v c c1 st1 r1 g1 p1 w => ?_)
  split at w
  · rename_i n e0
    split at w
    · rename_i os e1
      split at w
      · rename_i xs e2
        split at w
        · rename_i q' eq'
          obtain ⟨a, kv, v', f2, q1, q2, q3, q4, hp⟩ := placeD r1 e0 e1 e2
          obtain ⟨l, vs, rfl, rfl, hv, rv⟩ := own_lst q4
          obtain ⟨r2, g2⟩ := hp (upd c1.H l (.lst (vs.set q' v))) (.lst (xs.set q' d)) (fun b hb => upd_ne fun e => hb (by rw [e]; exact List.mem_singleton_self _)) (.lst upd_same (RpA.set p1 q' rv))
          refine ⟨.ref a, q1, a, .ref l, rfl, by rw [← q3]; exact .k (k := .inr k) q2, ?_⟩
          exact ⟨l, vs, j, q', rfl, rfl, hv, by rw [rv.len]; exact eq', w σ _ r2 (g1.toGo.trans g2.toGo)⟩
        · exact w.elim
      · exact w.elim
    · exact w.elim
  · exact w.elim
theorem s_putLD (hu : X.A.units + 64 < cLine) (hN : X.N[i]? = some x) (hv : Vis X.env.scope x) (he : PE X e (tD G W md)) (hd : (x == ("__debug__" : Str)) = false := by decide) (hcd : (x == ("__classdict__" : Str)) = false := by decide)
    (hsl : NoSl (.Constant (.str k) jj cp) := by exact fun _ _ => rfl)
    (hs : swapsWithSole [.Subscript (.Subscript (.Name x px) (.Constant (.str k) jj cp) apos) (.Constant (.int j) j2 cp2) pos'] e pos.line X.env = pure false := by rfl) (hw : swappedStores [.Subscript (.Subscript (.Name x px) (.Constant (.str k) jj cp) apos) (.Constant (.int j) j2 cp2) pos'] e X.env = pure none := by rfl)
    (h1 : (assignEach [.Subscript (.Subscript (.Name x px) (.Constant (.str k) jj cp) apos) (.Constant (.int j) j2 cp2) pos'] X.env).map (·.2) = [assign (.Subscript (.Subscript (.Name x px) (.Constant (.str k) jj cp) apos) (.Constant (.int j) j2 cp2) pos') X.env] := by rfl)
    (ha : ∀ v, assign (.Subscript (.Subscript (.Name x px) (.Constant (.str k) jj cp) apos) (.Constant (.int j) j2 cp2) pos') X.env v = (do
      let ov ← holding [v] (eval (.Subscript (.Name x px) (.Constant (.str k) jj cp) apos) X.env)
      let iv ← holding [v, ov] (eval (.Constant (.int j) j2 cp2) X.env)
      standAt pos'
      holding [v, ov, iv] (setItem ov iv v)
      release [v, ov, iv] []) := by intro _; rfl) :
    PS X (.Assign [.Subscript (.Subscript (.Name x px) (.Constant (.str k) jj cp) apos) (.Constant (.int j) j2 cp2) pos'] e pos) (tS G W (sPutLD i k j md)) :=
  (ps_asg he (pg_sub (pe_dget (by omega) (pe_var hN hv hd hcd) pe_str hsl) pe_int set_list ha) hs hw h1).weak fun _ _ _ q => putLD_t q
/-- d[k] = e, of an entry that is there and no owned thing -/
def sPutW (i : Nat) (k : Str) (md : M D) : M Fl := bnd md fun d s => match getS s.env i with
  | some (.fz (.cel n)) => (match getM s.mu n with
    | some (.dco os) => (match getK k os with
      | some _ => if okW k os = true ∧ os.length < 16777216 then .ok .nx ⟨s.env, setM s.mu n (.dco (putW k d os))⟩ else .no
      | none => .no)
    | _ => .no)
  | _ => .no
theorem putW_t {D' : Ends} {σ : L2.St} {H : Hp} (q : tS G W (sPutW i k md) D' σ H) : sDPut (tVar i) (tC (.str k)) (tD G W md) D' σ H := by
  show tD G W md σ H fun v H1 => tVar i σ H1 fun x H2 => ∃ a H4, x = .ref a ∧ DPut H2 a (.str k) v H4 ∧ D'.nx σ H4
  refine tS.ex q _ (fun d v c c1 st1 r1 g1 p1 w => ?_)
  split at w
  · rename_i n e0
    split at w
    · rename_i os e1
      split at w
      · rename_i o e2
        split at w
        · rename_i hc
          obtain ⟨v0, ff, q1, q2, nd, hp⟩ := placeM r1 e0 e1
          obtain ⟨a, kv, fq, rfl, rfl, h1, h2, h3⟩ := own_dco q2
          obtain ⟨v', f1, f2, f3, p1', _, _, _⟩ := own_getK h2 h3 e2
          have na := (List.nodup_cons.mp nd).1
          obtain ⟨r2, r3⟩ := own_putW (k := k) p1 h2 h3 hc.1
          have hk : putK kv (.inr k) v = kv.map fun p => if p.1 = .inr k then (p.1, v) else p := by
            unfold putK
            rw [if_pos (by rw [valV_any, p1']; rfl)]
          have hl : kv.length = os.length := by
            have := congrArg List.length h2
            rw [List.length_map, List.length_map] at this
            exact this.symm
          obtain ⟨r4, g4⟩ := hp (upd c1.H a (.dK (putK kv (.inr k) v))) (.dco (putW k d os)) (fun b hb => upd_ne fun e => hb (by rw [e]; exact List.mem_cons_self)) (.dcoK (kvs := putK kv (.inr k) v) upd_same (by rw [hk]; exact r3) (by
            rw [hk]
            exact r2.mo (Mo.refl _ _) fun b hb => upd_ne fun e => na (by rw [← e]; exact hb)))
          exact ⟨.ref a, q1, a, _, rfl, .k (k := .inr k) h1 (by rw [szl, hl]; exact hc.2), w σ _ r4 (g1.toGo.trans g4.toGo)⟩
        · exact w.elim
      · exact w.elim
    · exact w.elim
  · exact w.elim
theorem s_putW (hu : X.A.units + 64 < cLine) (hN : X.N[i]? = some x) (hv : Vis X.env.scope x) (he : PE X e (tD G W md)) (hd : (x == ("__debug__" : Str)) = false := by decide) (hcd : (x == ("__classdict__" : Str)) = false := by decide)
    (hs : swapsWith e (some (.Subscript (.Name x px) (.Constant (.str k) jj cp) pos')) pos.line X.env = pure false := by rfl) :
    PS X (.Assign [.Subscript (.Name x px) (.Constant (.str k) jj cp) pos'] e pos) (tS G W (sPutW i k md)) :=
  (ps_dput (by omega) (pe_var hN hv hd hcd) pe_str he hs).weak fun _ _ _ q => putW_t q
/-- {k1: (what slot i owns), k2: (slot j's), k3: z} -/
def xWell (k1 k2 k3 : Str) (i i2 : Nat) (z : Int) : M O := fun s => match getS s.env i, getS s.env i2 with
  | some (.lst xs), some (.fz d) => .ok (.dco [(.str k1, .lst xs), (.str k2, .fz d), (.str k3, .fz (.int z))]) ⟨setS s.env i none, s.mu⟩
  | some (.fz (.lst xs)), some (.fz d) => .ok (.dco [(.str k1, .fz (.lst xs)), (.str k2, .fz d), (.str k3, .fz (.int z))]) s
  | _, _ => .no
theorem well_t {k1 k2 k3 : Str} {i2 : Nat} {z : Int} (n1 : k1 ≠ k2) (n2 : k1 ≠ k3) (n3 : k2 ≠ k3) {σ : L2.St} {H : Hp} {Q : VK} (q : tO G W (xWell k1 k2 k3 i i2 z) σ H Q) :
    tDisp [(tC (.str k1), tVar i), (tC (.str k2), tVar i2), (tC (.str k3), tC (.int z))] σ H Q := by
  obtain ⟨c, st, rfl, r, w⟩ := q
  unfold xWell at w
  split at w
  · rename_i xs d e0 e1
    intro p hp
    obtain ⟨v, f2, fs', q1, q2, r2, fr, g, sb, _⟩ := rel_out r e0
    obtain ⟨v2, g1, g2, g3, u1, u2, _⟩ := slots_get r.slots e1
    have u2 : Rp G c.F c.al v2 d := by cases u2 with | fz t => exact t
    have np : p ∉ f2 := fun h => OwnT.there q2 p h hp
    show ∃ v, σ[i]? = some (some v) ∧ ∃ v2, σ[i2]? = some (some v2) ∧ (upd c.H p (.dK [])) p = some (.dK []) ∧ ∃ kvs : List (Key × V), [(V.str k1, v), (V.str k2, v2), (V.str k3, V.int z)] = kvs.map (fun kv => (kV kv.1, kv.2)) ∧ kvs.length ≤ 15 ∧ Q (.ref p) (upd (upd c.H p (.dK [])) p (.dK (mergeK [] kvs)))
    refine ⟨v, q1, v2, u1, upd_same, [(.inr k1, v), (.inr k2, v2), (.inr k3, .int z)], rfl, by show 3 ≤ 15; omega, ?_⟩
    have hm : mergeK [] [((.inr k1 : Key), v), (.inr k2, v2), (.inr k3, .int z)] = [(.inr k1, v), (.inr k2, v2), (.inr k3, .int z)] := by
      simp [mergeK, putK, n1, n2, n3, Ne.symm n1, Ne.symm n2, Ne.symm n3]
    rw [hm]
    have hu : upd (upd c.H p (.dK [])) p (.dK [((.inr k1 : Key), v), (.inr k2, v2), (.inr k3, .int z)]) = upd c.H p (.dK [(.inr k1, v), (.inr k2, v2), (.inr k3, .int z)]) := by
      funext a
      unfold upd
      split <;> rfl
    rw [hu]
    have hp' : ({ c with fs := fs' } : Cf).H p = none := hp
    have r3 := r2.new (o := .dK [((.inr k1 : Key), v), (.inr k2, v2), (.inr k3, .int z)]) hp'
    have g3 := GoE.new (o := .dK [((.inr k1 : Key), v), (.inr k2, v2), (.inr k3, .int z)]) r2 hp'
    have fp := Fresh.new (o := .dK [((.inr k1 : Key), v), (.inr k2, v2), (.inr k3, .int z)]) r2 hp'
    refine w (.ref p) _ r3 (g.trans g3) ⟨p :: (f2 ++ ([] ++ ([] ++ []))), ?_, ?_, ?_⟩
    · exact .dcoK (kvs := [(.inr k1, v), (.inr k2, v2), (.inr k3, .int z)]) upd_same rfl (.cons (q2.mo (Mo.refl _ _) fun a ha => upd_ne fun e => np (by rw [← e]; exact ha)) (.cons (.fz u2) (.cons (.fz (.int z)) .nil)))
    · simp only [List.append_nil]
      exact ⟨List.nodup_cons.mpr ⟨np, fr.nd⟩, fun a ha => by
          rcases List.mem_cons.mp ha with rfl | ha
          · exact fp.nf _ List.mem_cons_self
          · exact fr.nf a ha, fun a ha => by
          rcases List.mem_cons.mp ha with rfl | ha
          · exact fp.ns _ List.mem_cons_self
          · exact fr.ns a ha, fun a ha => by
          rcases List.mem_cons.mp ha with rfl | ha
          · exact fp.nc _ List.mem_cons_self
          · exact fr.nc a ha⟩
    · simp only [List.append_nil]
      intro a ha
      rcases List.mem_cons.mp ha with rfl | ha
      · exact .inr (.inr hp)
      · exact .inl (sb a ha)
  · rename_i xs d e0 e1
    intro p hp
    obtain ⟨v, _, _, _, q1, q2, _⟩ := slots_get r.slots e0
    obtain ⟨v2, _, _, _, u1, u2, _⟩ := slots_get r.slots e1
    have q2 : Rp G c.F c.al v (.lst xs) := by cases q2 with | fz t => exact t
    have u2 : Rp G c.F c.al v2 d := by cases u2 with | fz t => exact t
    show ∃ v, σ[i]? = some (some v) ∧ ∃ v2, σ[i2]? = some (some v2) ∧ (upd c.H p (.dK [])) p = some (.dK []) ∧ ∃ kvs : List (Key × V), [(V.str k1, v), (V.str k2, v2), (V.str k3, V.int z)] = kvs.map (fun kv => (kV kv.1, kv.2)) ∧ kvs.length ≤ 15 ∧ Q (.ref p) (upd (upd c.H p (.dK [])) p (.dK (mergeK [] kvs)))
    refine ⟨v, q1, v2, u1, upd_same, [(.inr k1, v), (.inr k2, v2), (.inr k3, .int z)], rfl, by show 3 ≤ 15; omega, ?_⟩
    have hm : mergeK [] [((.inr k1 : Key), v), (.inr k2, v2), (.inr k3, .int z)] = [(.inr k1, v), (.inr k2, v2), (.inr k3, .int z)] := by
      simp [mergeK, putK, n1, n2, n3, Ne.symm n1, Ne.symm n2, Ne.symm n3]
    rw [hm]
    have hu : upd (upd c.H p (.dK [])) p (.dK [((.inr k1 : Key), v), (.inr k2, v2), (.inr k3, .int z)]) = upd c.H p (.dK [(.inr k1, v), (.inr k2, v2), (.inr k3, .int z)]) := by
      funext a
      unfold upd
      split <;> rfl
    rw [hu]
    refine w (.ref p) _ (r.new hp) (GoE.new r hp) ⟨p :: ([] ++ ([] ++ ([] ++ []))), .dcoK (kvs := [(.inr k1, v), (.inr k2, v2), (.inr k3, .int z)]) upd_same rfl (.cons (.fz q2) (.cons (.fz u2) (.cons (.fz (.int z)) .nil))), ?_, ?_⟩
    · exact Fresh.new r hp
    · exact New.new hp
  · exact w.elim
theorem x_well {k1 k2 k3 x2 : Str} {i2 a1 a2 a3 a4 : Nat} {z : Int} {p1 p2 p3 p4 p5 p6 : Pos} (hN : X.N[i]? = some x) (hv : Vis X.env.scope x) (hN2 : X.N[i2]? = some x2) (hv2 : Vis X.env.scope x2)
    (hd : (x == ("__debug__" : Str)) = false := by decide) (hcd : (x == ("__classdict__" : Str)) = false := by decide) (hd2 : (x2 == ("__debug__" : Str)) = false := by decide) (hcd2 : (x2 == ("__classdict__" : Str)) = false := by decide)
    (n1 : k1 ≠ k2 := by decide) (n2 : k1 ≠ k3 := by decide) (n3 : k2 ≠ k3 := by decide) :
    PE X (.Dict [some (.Constant (.str k1) a1 p1), some (.Constant (.str k2) a2 p2), some (.Constant (.str k3) a3 p3)] [.Name x p4, .Name x2 p5, .Constant (.int z) a4 p6] pos) (tO G W (xWell k1 k2 k3 i i2 z)) :=
  (pe_disp (pps_cons pe_str (pe_var hN hv hd hcd) (pps_cons pe_str (pe_var hN2 hv2 hd2 hcd2) (pps_cons pe_str pe_int pps_nil))) rfl rfl (by simp) (by show 3 ≤ 15; omega)).weak fun σ H Q q => well_t n1 n2 n3 q
end
end L2.Tr

namespace L2.Tr
open PySem PySem.Spec PyProof.Rows L2 L2.Pc
open Sem (wp)
open AutoSeq1 (wpAny_loadPart')
/-! ### enumerate(tuple) -/
abbrev tupIt (t : Addr) : Obj := { cls := .type "tuple_iterator", data := .fields #[.ref t, .int 0 0] }
abbrev enumOb (i : Addr) : Obj := { cls := .type "enumerate", data := .fields #[.none, .bool false, .ref i, rawInt 0, .none, .none] }
theorem meets_enumT (t : Addr) (items : Array Value) (n : Nat) (dct : Option Addr) (sl : Array (Option Value)) :
    Meets (Builtin.«enumerate.__new__» ⟨[.type "enumerate", .ref t], []⟩) (fun _ R s => s.heap.get? t = some { cls := .type "tuple", dict := dct, data := .seq items n, slots := sl } ∧
      R (.ok (.ret (.ref (s.heap.push (tupIt t)).objs.size))) { s with heap := (s.heap.push (tupIt t)).push (enumOb s.heap.objs.size) }) :=
  .of_wp fun prog w A R s h => by
    obtain ⟨hp, gg, dd, tk, os⟩ := s
    obtain ⟨hl, h⟩ := h
    have hsb := sub_enumerate
    have hT : Heap.IsTuple (Shared.heap ⟨hp, gg, dd, tk, os⟩) t items := ⟨_, hl, rfl, n, rfl⟩
    wp_walk using wpAny_loadPart' hl
    refine wpAny_stack_any fun stk => wpAny_pure ?_
    split
    · rename_i c0 _ _ _ _ _
      cases (c0 == Value.type "enumerate") <;> (wp_walk using wpAny_loadPart' hl, wpAny_pyIter_tuple hT; exact ⟨_, rfl, h⟩)
    · wp_walk using wpAny_loadPart' hl, wpAny_pyIter_tuple hT
      exact ⟨_, rfl, h⟩
section
variable {prog : Program} {w : World} {A : Around} {E : Value → Shared → Prop} {s : Shared}
theorem call_enumT {t : Addr} {items : Array Value} {Q : Value → Shared → Prop} (hT : s.heap.IsTuple t items)
    (h : ∀ h', IsEnum h' (s.heap.objs.size + 1) s.heap.objs.size 0 .none → h'.IsTupleIter s.heap.objs.size t 0 → (∀ b o, s.heap.get? b = some o → h'.get? b = some o) → Q (.ref (s.heap.objs.size + 1)) { s with heap := h' }) :
    wpAny (model prog w) A (call (.type "enumerate") [.ref t]) Q E s := by
  obtain ⟨⟨c, dct, dt, sl⟩, hl, hc, n, hd⟩ := hT
  obtain rfl : c = .type "tuple" := hc
  obtain rfl : dt = .seq items n := hd
  have hcall := fun (R : Value → Shared → Prop) q => callType_new (Q := R) (A := A) (E := E) (s := s) (prog := prog) (w := w) F.called_enumerate (by decide) (F.typeCall_enumerate_1 _) (F.newCall_enumerate_1 _) (fun ob => F.args_object_init_2 ob _) F.entry_enumerate_new (meets_enumT t items n dct sl) q
  refine hcall Q ⟨hl, ?_⟩
  have hz : (s.heap.push (tupIt t)).objs.size = s.heap.objs.size + 1 := Heap.size_push ..
  show _ ∧ _
  rw [hz]
  have he : IsEnum ((s.heap.push (tupIt t)).push (enumOb s.heap.objs.size)) (s.heap.objs.size + 1) s.heap.objs.size 0 .none := by
    have q := Heap.get?_push_size (s.heap.push (tupIt t)) (o := enumOb s.heap.objs.size) rfl
    rw [hz] at q
    exact q
  exact ⟨⟨_, he, rfl⟩, h _ he ⟨_, Heap.get?_push_of_some _ (Heap.get?_push_size _ rfl), rfl, rfl⟩ fun b o q => Heap.get?_push_of_some _ (Heap.get?_push_of_some _ q)⟩
end
/-- the tuple at a as it stands at each turn, each item in a new pair -/
def IteT (K : PySem.W.Frag) (a : Addr) : It :=
  ⟨fun i H => ∃ (xs : List V) (x : V), SqT K H a xs ∧ xs[i]? = some x, fun i H v H' => ∃ T x, v = .ref T ∧ H T = none ∧ H' = upd H T (.tup [.int (i : Nat), x]) ∧ ∀ xs, SqT K H a xs → xs[i]? = some x, fun i H => ∃ xs : List V, SqT K H a xs ∧ xs.length ≤ i⟩
theorem turn_enumT {P : Program} {w : World} {K : PySem.W.Frag} {elts : List Expr} {kk : Nat} {tpos : Pos} (a e it : Addr) (hat : a ≠ it) :
    Turn P w K (.Tuple elts kk tpos) (IteT K a) [e, it] e (fun i h => (∃ old, IsEnum h e it ((i : Nat) : Int) old) ∧ h.IsTupleIter it a i ∧ e ≠ it ∧ e ≠ a) where
  mem := by simp
  obj := fun i h st b hb => by
    obtain ⟨⟨old, he⟩, ⟨o, ho, hc, hd⟩, _⟩ := st
    rcases List.mem_cons.mp hb with z | z
    · rw [z]
      exact ⟨_, he, fun v q => nomatch q⟩
    · rw [List.mem_singleton.mp z]
      exact ⟨o, ho, fun v q => by rw [hd] at q; cases q⟩
  keep := fun i h h' st k => ⟨⟨st.1.choose, k e (by simp) _ st.1.choose_spec⟩, st.2.1.at fun o q => k it (by simp) o q, st.2.2⟩
  item := by
    intro X hP hw hK hc i pins s σ H E I hf st hg
    subst hP hw hK
    obtain ⟨⟨old, he⟩, hit, hne, hea⟩ := st
    obtain ⟨xs, x, hq, hx⟩ := hg
    obtain ⟨its, rv, p, hz⟩ := I.tuple hq
    obtain ⟨u, hu, ru⟩ := rv.get hx
    have hel : e < s.heap.objs.size := Heap.lt_size he
    have hil : it < s.heap.objs.size := by
      obtain ⟨_, q, _⟩ := hit
      exact Heap.lt_size q
    have hi : i < its.toArray.size := by
      have := (List.getElem?_eq_some_iff.mp hu).1
      simpa using this
    refine wpAny_pyNext_enum_itemD (Draws.tuple (A := X.A.in1) (show X.A.in1.handled = none from I.ok.hd hc) it a hat its.toArray) he ⟨hit, p⟩ hi hne (by simp [hne, hea]) fun y h' tk hy ho hst' hT hsz hk => ?_
    have ey : y = u := by
      have h2 : its[i]? = some y := by simpa using hy
      rw [hu] at h2
      exact (Option.some.inj h2).symm
    subst ey
    refine ⟨_, rfl, wpAny_letOwnedTupleGo_enum (s := { s with heap := h', toks := tk + 1 }) ho fun h'' he' sb => ?_⟩
    have hT2 : h''.get? s.heap.objs.size = some { cls := .type "tuple", data := .seq #[.int i tk, y] } := (sb.2 _ (Nat.ne_of_gt hel)).trans hT
    have new : ObjOk X.prog X.w (upd H s.heap.objs.size (.tup [.int (i : Nat), x])) h'' s.heap.objs.size (.tup [.int (i : Nat), x]) :=
      ⟨by show 2 ≤ sizeLine; decide, [.int i tk, y], .cons ⟨_, rfl⟩ (.cons ru .nil), ⟨_, hT2, rfl, _, rfl⟩⟩
    have I1 : Inv X pins σ (upd H s.heap.objs.size (.tup [.int (i : Nat), x])) { s with heap := h'', toks := tk + 1 } :=
      I.turnedNew (ch := [e, it]) (fun b ob hb q => (sb.2 b (fun z => hb (by simp [z]))).trans (hk b ob (fun z => hb (by simp [z])) (fun z => hb (by simp [z])) q)) hf (Nat.le_refl _) new
    refine ⟨.ref s.heap.objs.size, _, I1, rfl, ⟨_, x, rfl, I.hok.fresh (Nat.le_refl _), rfl, fun ys hy => by rw [I.tuple_inj hy hq]; exact hx⟩, ⟨⟨y, ?_⟩, hst'.1.at fun o q => (sb.2 it (Ne.symm hne)).trans q, hne, hea⟩, fun b hb => ?_⟩
    · have e1 : ((i + 1 : Nat) : Int) = (i : Int) + 1 := by omega
      rw [e1]
      exact he'
    · have hb' : b < s.heap.objs.size := by
        rcases List.mem_cons.mp hb with z | z
        · rw [z]; exact hel
        · rw [List.mem_singleton.mp z]; exact hil
      rw [upd_ne (Nat.ne_of_lt hb')]
      exact (hf b hb).1
  done := by
    intro X hP hw hK hc i pins s σ H E I hf st hg
    subst hP hw hK
    obtain ⟨⟨old, he⟩, hit, hne, hea⟩ := st
    obtain ⟨xs, hq, hx⟩ := hg
    obtain ⟨its, rv, p, hz⟩ := I.tuple hq
    obtain ⟨f0, f1, f2, f3, f4, f5⟩ := hf it (by simp)
    have hl := rv.length
    have no : its.toArray[i]? = none := by simp; omega
    have D : Draws X.prog X.w X.A.in1 it [it, a] i (fun _ _ => False) (fun j h => j = i ∧ h.IsTupleIter it a j ∧ h.IsTuple a its.toArray) :=
      { live := fun _ _ st => st.2.1.elim fun o q => ⟨o, q.1⟩
        frame := fun _ _ _ st hk => ⟨st.1, st.2.1.at fun o q => hk it (by simp) o q, st.2.2.at fun o q => hk a (by simp) o q⟩
        item := fun j s Q E hj st hQ => absurd hj (by rw [st.1]; omega)
        done := fun s Q E st hE => wpAny_nextOf_tuple_end (show X.A.in1.handled = none from I.ok.hd hc) st.2.1 st.2.2 no hE }
    exact wpAny_pyNext_enum_endD D he ⟨rfl, hit, p⟩ fun h' eb => ⟨rfl, I.turned (t' := s.toks) (fun b o hb q => eb b o hb q) f0 f1 f3 f4 f5⟩
  self := fun A i s Q E st h => wpAny_pyIter_enum st.1.choose_spec h
def iEnumA (K : PySem.W.Frag) (ta : TA) : TI := fun σ H R => ta σ H fun vs H1 => ∃ a xs, vs = [.ref a] ∧ ((SqL K H1 a xs ∧ R (Ite K a) H1) ∨ (SqT K H1 a xs ∧ R (IteT K a) H1))
theorem pi_enumA {X : Cx} {e : Expr} {ta : TA} {p pos tpos : Pos} {elts : List Expr} {kk : Nat} (hg : Gl X "enumerate") (hm : X.mg "enumerate" = none) (ha : PA X [e] ta) (hs : starEach [e] X.env = [(false, eval e X.env)] := by rfl) :
    PI X (.Tuple elts kk tpos) (.Call (.Name "enumerate" p) [e] [] pos) (iEnumA X.K ta) := by
  refine ⟨fun pins s σ H R I h => ?_⟩
  refine Call_ (ld_blt I hg hm boot_enumerate (callWith_type1 (thn (ha.run pos pins s σ H _ I h) fun us s1 q0 => ?_) hs rfl))
  obtain ⟨vs, H1, I1, r1, a, xs, rfl, q1⟩ := q0
  cases r1 with
  | cons r rr =>
    cases rr
    cases r
    have fpo : ∀ b ∈ [s1.heap.objs.size + 1, s1.heap.objs.size], FpOk X pins H1 b := fun b hb => by
      have hle : s1.heap.objs.size ≤ b := by
        rcases List.mem_cons.mp hb with z | z
        · rw [z]; exact Nat.le_add_right _ _
        · rw [List.mem_singleton.mp z]; exact Nat.le_refl _
      exact I1.fpOk hle (I1.hok.fresh hle)
    rcases q1 with ⟨hq, q⟩ | ⟨hq, q⟩
    · obtain ⟨its, rv, p', hz⟩ := I1.list hq
      exact call_enumerate_list p'.isList fun h' he hit hsz hk => wpAny_pyIter_enum he
        ⟨s1.heap.objs.size + 1, [s1.heap.objs.size + 1, s1.heap.objs.size], _, _, H1, rfl, I1.kept (t' := s1.toks) hk, turn_enum a (s1.heap.objs.size + 1) s1.heap.objs.size, ⟨⟨.none, he⟩, hit, Nat.succ_ne_self _⟩, fpo, q⟩
    · obtain ⟨its, rv, p', hz⟩ := I1.tuple hq
      have hlt : a < s1.heap.objs.size := by
        obtain ⟨o, ho, _⟩ := p'
        exact Heap.lt_size ho
      exact call_enumT p' fun h' he hit hk => wpAny_pyIter_enum he
        ⟨s1.heap.objs.size + 1, [s1.heap.objs.size + 1, s1.heap.objs.size], _, _, H1, rfl, I1.kept (t' := s1.toks) hk, turn_enumT a (s1.heap.objs.size + 1) s1.heap.objs.size (Nat.ne_of_lt hlt), ⟨⟨.none, he⟩, hit, Nat.succ_ne_self _, fun z => Nat.lt_irrefl _ (Nat.lt_trans (Nat.lt_succ_self _) (show s1.heap.objs.size + 1 < s1.heap.objs.size from z ▸ hlt))⟩, fpo, q⟩
section
variable {X : Cx} {G : Gi} {W : WX} {c : Cf} {e : Expr} {ma : M (List D)} {p pos tpos : Pos} {elts : List Expr} {kk : Nat}
theorem srcs_enumT {a : Addr} {xs : List V} {ds : List D} (h1 : SqT G.K c.F a xs) (r1 : RpA G c.F c.al xs ds) : Srcs G (IteT G.K a) (numD 0 ds) c := fun st2 σ2 c2 rl g => by
  have k1 := rl.rdT (sqT_mr g.mo.mR h1)
  refine ⟨fun i d hd => ?_, xs, k1, by rw [numD_len, r1.len]; exact Nat.le_refl _⟩
  obtain ⟨dx, e1, rfl⟩ := numD_get ds 0 i hd
  obtain ⟨x, hx, rx⟩ := (r1.mo g.mo).get e1
  refine ⟨⟨xs, x, k1, hx⟩, fun w H' hw => ?_⟩
  obtain ⟨T, x', rfl, hT, rfl, q1⟩ := hw
  have := q1 xs k1; rw [hx] at this; cases this
  have := new_pair rl hT (.int ((0 + i : Nat) : Int)) rx
  rw [Nat.zero_add] at this ⊢
  exact this
def enumA (ds : List D) : Option (List D) := match ds with
  | [.lst xs] => some (numD 0 xs)
  | [.lsk xs] => some (numD 0 xs)
  | [.tup xs] => some (numD 0 xs)
  | [.tuk xs] => some (numD 0 xs)
  | _ => none
def mEnumA (ma : M (List D)) : M (List D) := bnd ma fun ds => ofO (enumA ds)
theorem xi_enumA (hK : X.K = G.K) (hg : Gl X "enumerate") (hm : X.mg "enumerate" = none) (ha : PA X [e] (tAs G W ma)) (hs : starEach [e] X.env = [(false, eval e X.env)] := by rfl) :
    PI X (.Tuple elts kk tpos) (.Call (.Name "enumerate" p) [e] [] pos) (tI G W (mEnumA ma)) := (pi_enumA hg hm ha hs).weak fun σ H R q => by
  rw [hK]
  unfold iEnumA
  refine q.seq0 _ (fun ds vs c c1 st1 r1 g1 p1 w => ?_)
  obtain ⟨l, e1, q⟩ := wp_ofO.mp w
  unfold enumA at e1
  split at e1
  · cases e1
    cases p1 with
    | cons ta ts =>
      cases ts
      obtain ⟨a', xs', rfl, k1, k2⟩ := lst_view ta rfl
      exact ⟨a', xs', rfl, .inl ⟨r1.rdL k1, q _ c1 r1 g1 (srcs_enum k1 k2)⟩⟩
  · cases e1
    cases p1 with
    | cons ta ts =>
      cases ts
      obtain ⟨a', xs', rfl, k1, k2⟩ := lst_view ta rfl
      exact ⟨a', xs', rfl, .inl ⟨r1.rdL k1, q _ c1 r1 g1 (srcs_enum k1 k2)⟩⟩
  · cases e1
    cases p1 with
    | cons ta ts =>
      cases ts
      obtain ⟨a', xs', rfl, k1, k2⟩ := tup_view ta rfl
      exact ⟨a', xs', rfl, .inr ⟨r1.rdT k1, q _ c1 r1 g1 (srcs_enumT k1 k2)⟩⟩
  · cases e1
    cases p1 with
    | cons ta ts =>
      cases ts
      obtain ⟨a', xs', rfl, k1, k2⟩ := tup_view ta rfl
      exact ⟨a', xs', rfl, .inr ⟨r1.rdT k1, q _ c1 r1 g1 (srcs_enumT k1 k2)⟩⟩
  · cases e1
end
/-! ### {x!r} of data -/
section
variable {X : Cx} {G : Gi} {W : WX} {e : Expr} {te : TE} {m : M O} {pos : Pos}
theorem pe_fmtRd (hga : X.A.guards = some []) (hu : X.A.units + 64 < cLine) (M : Sm X.base) (he : PE X e te) : PE X (.FormattedValue e 114 none pos) (fun σ H Q => te σ H fun x H1 => rRepr X.K [x] H1 Q) := by
  refine ⟨fun pins s σ H Q I h => wpAny_FormattedValue_repr (thn (he.run pins s σ H _ I h) fun v s1 hv => ?_)⟩
  obtain ⟨x, H1, I1, r1, x', d, ex, hd, hs, hdp, hz, q⟩ := hv
  cases ex
  have fin : ∀ (s2 : Shared) (tk : Tok), Inv X pins σ H1 s2 → (∀ t, Inv X pins σ H1 { s2 with toks := t }) → wpAny (model X.prog X.w) X.A (formatField (.str d.shown tk) Str.empty) (EP X pins σ Q) X.xe s2 := fun s2 tk I2 I3 =>
    wpAny_formatField_str ⟨.str d.shown, H1, I2, ⟨tk, rfl⟩, q⟩ ⟨.str d.shown, H1, I3 _, ⟨_, rfl⟩, q⟩ hz
  cases hd with
  | non => cases r1; exact pyReprObj_none (fin _ _ (I1.tok _) fun t => I1.tok t)
  | bl b => cases r1; exact pyReprObj_bool (fin _ _ (I1.tok _) fun t => I1.tok t)
  | int i =>
    obtain ⟨t, rfl⟩ := r1
    exact pyReprObj_int (by simpa [PyData.showable] using hs) (fin _ _ (I1.tok _) fun t => I1.tok t)
  | str y =>
    obtain ⟨t, rfl⟩ := r1
    exact pyReprObj_str (fin _ _ (I1.tok _) fun t => I1.tok t) hz
  | lst h1 h2 =>
    cases r1
    obtain ⟨as, rd, hn⟩ := Da.reads M I1 (.lst h1 h2) rfl
    exact pyReprObj_of_reads rd hs (fun _ => hn) hga (by omega) (fun _ _ e => e) (fun h' u tk hk => fin _ _ (I1.kept hk) fun t => I1.kept hk) hz
  | tup h1 h2 =>
    cases r1
    obtain ⟨as, rd, hn⟩ := Da.reads M I1 (.tup h1 h2) rfl
    exact pyReprObj_of_reads rd hs (fun _ => hn) hga (by omega) (fun _ _ e => e) (fun h' u tk hk => fin _ _ (I1.kept hk) fun t => I1.kept hk) hz
  | dct h1 h2 =>
    cases r1
    obtain ⟨as, rd, hn⟩ := Da.reads M I1 (.dct h1 h2) rfl
    exact pyReprObj_of_reads rd hs (fun _ => hn) hga (by omega) (fun _ _ e => e) (fun h' u tk hk => fin _ _ (I1.kept hk) fun t => I1.kept hk) hz
theorem x_fmtR (hK : X.K = G.K) (hga : X.A.guards = some []) (hu : X.A.units + 64 < cLine) (M : Sm X.base) (he : PE X e (tLa G W m)) : PE X (.FormattedValue e 114 none pos) (tO G W (xUn reprD m)) :=
  (pe_fmtRd hga hu M he).weak fun σ H Q q => by
    rw [hK]
    exact un_t d_repr q
end
/-! ### len by an own __len__ -/
def intB : O → Option O
  | .fz (.int i) => if 0 ≤ i ∧ i < 4611686018427387904 then some (.fz (.int i)) else none
  | _ => none
def runN (tbl : List (Str × MF)) (g : D → Option O) (d : D) : M O := fun s => match insOf d with
  | some c => (match tbl.lookup c with
    | some mf => (match noExc (runF mf [d] s) with
      | .ok o s' => ofO (intB o) s'
      | _ => .no)
    | none => .no)
  | none => ofO (g d) s
def xSn (tbl : List (Str × MF)) (g : D → Option O) (md : M D) : M O := bnd md (runN tbl g)
def rOwnN (G : Gi) (tbl : List (Str × MF)) (r : V → Hp → VK → Prop) : V → Hp → VK → Prop := fun x H Q => r x H Q ∨ ∃ c mf C a dx fs, tbl.lookup c = some mf ∧ G.mg c = some (.ref C) ∧ x = .ref a ∧ H a = some (.ins C dx fs) ∧
  SpM G 1 mf [.ref a] H (fun v H' => ∃ i : Int, v = .int i ∧ (0 ≤ i ∧ i < 4611686018427387904) ∧ Q (.int i) H') noE
theorem ownN_t {G : Gi} {W : WX} {tbl : List (Str × MF)} {r : V → Hp → VK → Prop} {g : D → Option O} {md : M D} (hr : UnD G r g) {σ : L2.St} {H : Hp} {Q : VK} (q : tO G W (xSn tbl g md) σ H Q) (hN : ∀ c mf, tbl.lookup c = some mf → ∃ C, G.mg c = some (.ref C)) :
    tD G W md σ H fun x H1 => rOwnN G tbl r x H1 Q := by
  refine q.seq bkO _ (fun d v c0 c1 st1 r1 g1 p1 w => ?_)
  unfold runN at w
  split at w
  · rename_i c ei
    obtain ⟨fs, rfl⟩ := insOf_some ei
    split at w
    · rename_i mf e
      obtain ⟨C, hC⟩ := hN _ _ e
      cases p1 with
      | ins h kk nn hs =>
        rename_i a C' dx fs'
        rw [hC] at kk
        cases kk
        refine .inr ⟨c, mf, C, a, dx, fs', e, hC, rfl, r1.sub _ _ h, ?_⟩
        have z : wp (runF mf [.ins c fs] st1) (fun o st' => ∀ v c', Rel G st' σ c' → GoE c1 c' → PrO G o c1 c' v → ∃ i : Int, v = .int i ∧ (0 ≤ i ∧ i < 4611686018427387904) ∧ Q (.int i) c'.H) (xw G noW σ c1) := by
          revert w
          cases runF mf [.ins c fs] st1 with
          | no => exact fun w => w
          | exc x s' => exact fun w => w.elim
          | ok o s' =>
            intro w
            dsimp only [noExc] at w
            obtain ⟨o', e1, q3⟩ := wp_ofO.mp w
            intro v c' r' g' p'
            unfold intB at e1
            split at e1
            · rename_i i
              split at e1
              · rename_i hi
                cases e1
                obtain ⟨fp, t, _, _⟩ := p'
                cases t with
                | fz t => cases t; exact ⟨i, rfl, hi, q3 _ c' r' g' (prO_fz (.int i))⟩
              · cases e1
            · cases e1
        have z2 := call_t (W := noW) (n := 1) (Q := fun v H' => ∃ i : Int, v = .int i ∧ (0 ≤ i ∧ i < 4611686018427387904) ∧ Q (.int i) H') r1 (.cons (Rp.ins h hC nn hs) .nil) rfl z
        obtain ⟨c2, ds, mu, e1, e2, e3, e4, e5, e6⟩ := z2
        exact ⟨c2, ds, mu, e1, e2, e3, e4, e5, wp_mono e6 (fun _ _ q => q) fun x s q v d c' r' g' x' => q v d c' r' g' x'⟩
    · exact w.elim
  · obtain ⟨o, e1, q3⟩ := wp_ofO.mp w
    exact .inl (hr st1 σ c1 v (.fz d) [] o Q r1 (.fz p1) (by rw [O.toD]; exact e1) q3)
section
variable {X : Cx} {G : Gi} {W : WX} {gb : Bool} {k : Nat} {tbl : List (Str × MF)} {md : M D} {x : Str} {p pos : Pos} {e : Expr}
def rOwnN1 (G : Gi) (tbl : List (Str × MF)) (r : List V → Hp → VK → Prop) : List V → Hp → VK → Prop := fun xs H Q => ∃ x, xs = [x] ∧ rOwnN G tbl (fun x => r [x]) x H Q
theorem call_lenO (hK : X.K = G.K) (hM : X.mg = G.mg) (F : SpF X.prog X.w G X.base gb k "__len__" tbl) (hga : gb = true → X.A.guards = some []) (hr : Room (k + 1) X.A) : CallR X (.builtin "len") (rOwnN1 G tbl (L2.Pc.rLen G.K)) := by
  intro pins s σ H xs us Q I r q
  obtain ⟨x, rfl, q⟩ := q
  rcases q with q | ⟨c, mf, C, a, dx, fs, e, hm, rfl, ha, q⟩
  · exact k_len hK pins s σ H [x] us Q I r q
  · cases r with
    | cons r0 rn =>
      cases rn
      cases r0
      have kin := I.kIn
      rw [hK] at kin
      obtain ⟨C', f, fd, ps, h1, h2, h3, h4, h5, h6⟩ := F.ex c mf e
      rw [hm] at h1
      cases h1
      obtain ⟨mA, J, _⟩ := ins_get I.hok ha
      obtain ⟨od, J, _⟩ := J.look
      have run := runTA hK hM (A := X.A.in1) rfl h4 (fun h => hga h) hr.in1 h6 noE_pass I (us := [.ref a]) (vs := [.ref a]) (.cons rfl .nil) (by rw [h5]; rfl) (by rw [h5]; exact q)
      refine Calls.call_function_entry PySem.kind_len PySem.plain_len PySem.entry_len (PySem.args_len1 _) ?_
      unfold Builtin.«len»
      refine wpAny_bind (m := oneArg "len" _) (wpAny_pure (wpAny_bind (m := callSpecial? (.ref a) (Str.ofString "__len__")) (PySem.W.special_fn kin J h2 (beq_iff_eq.mp h3) (wpAny_mono run (fun v s' q => ?_) fun _ _ q => q))))
      obtain ⟨z, H', I', rz, i, rfl, ⟨i0, i1⟩, q⟩ := q
      obtain ⟨t, rfl⟩ := rz
      refine wpAny_bind (wpAny_holding (wpAny_pure (wpAny_bind (wpAny_letGo ?_))))
      have n0 : ¬ i < 0 := by omega
      have n1 : ¬ i ≥ 2 ^ 63 := by omega
      show wpAny _ _ (if i < 0 then _ else if i ≥ 2 ^ 63 then _ else _) _ _ _
      rw [if_neg n0, if_neg n1]
      exact wpAny_bind (wpAny_mkInt (wpAny_pure ⟨_, rfl, .int i, H', I'.tok _, ⟨_, rfl⟩, q⟩))
theorem x_lenO (hK : X.K = G.K) (hM : X.mg = G.mg) (F : SpF X.prog X.w G X.base gb k "__len__" tbl) (hga : gb = true → X.A.guards = some []) (hr : Room (k + 1) X.A) (hg : Gl X x) (hm : X.mg x = none) (hv : bootBuiltins x = some (.builtin "len")) (ha : PE X e (tD G W md))
    (hn : x ≠ "__name__" := by decide) (hdb : (x == ("__debug__" : Str)) = false := by decide)
    (he : starEach [e] X.env = (false, eval e X.env) :: starEach [] X.env := by rfl) (hpl : (backTo pos (starEach [] X.env)).any (·.1) = false := by rfl) : PE X (.Call (.Name x p) [e] [] pos) (tO G W (xSn tbl lenD md)) :=
  (pe_callB (call_lenO hK hM F hga hr) hg hm hv (pa_cons ha pa_nil he) hn hdb he hpl).weak fun σ H Q q => by
    show tD G W md σ H fun x H1 => ∃ y, [x] = [y] ∧ rOwnN G tbl (fun x => L2.Pc.rLen G.K [x]) y H1 Q
    obtain ⟨c, st, rfl, r0, w⟩ := ownN_t d_len q F.nm
    exact ⟨c, st, rfl, r0, wp_mono w (fun d st' k v c' r' g' p' => ⟨v, rfl, k v c' r' g' p'⟩) fun _ _ q => q⟩
end
end L2.Tr

namespace F33
open PySem PyProof.Rows L2 L2.Pc L2.Tr
def topS (i : Nat) : Stmt := PySem.Challenge.pw_pinnedcards_k33_photographs_made.main.body.getD i (.Pass ⟨0, 0, 0, 0⟩)
abbrev s_is_name : Stmt := topS 7
theorem sc_is_name : FnScope ["thing"] ["thing"] (defScope s_is_name) :=
  ⟨rfl, rfl, rfl, by decide +kernel, rfl, by decide +kernel, by decide +kernel⟩

abbrev s_is_sign : Stmt := topS 12
theorem sc_is_sign : FnScope ["thing"] ["thing"] (defScope s_is_sign) :=
  ⟨rfl, rfl, rfl, by decide +kernel, rfl, by decide +kernel, by decide +kernel⟩

abbrev s_are_rows : Stmt := topS 13
theorem sc_are_rows : FnScope ["thing", "row", "one"] ["thing"] (defScope s_are_rows) :=
  ⟨rfl, rfl, rfl, by decide +kernel, rfl, by decide +kernel, by decide +kernel⟩

abbrev s_Photo_init : Stmt := inClass (topS 14) 0
theorem sc_Photo_init : FnScope ["self", "rows"] ["self", "rows"] (defScope s_Photo_init) :=
  ⟨rfl, rfl, rfl, by decide +kernel, rfl, by decide +kernel, by decide +kernel⟩

abbrev s_Photo_len : Stmt := inClass (topS 14) 1
theorem sc_Photo_len : FnScope ["self"] ["self"] (defScope s_Photo_len) :=
  ⟨rfl, rfl, rfl, by decide +kernel, rfl, by decide +kernel, by decide +kernel⟩

abbrev s_Photo_eq : Stmt := inClass (topS 14) 2
theorem sc_Photo_eq : FnScope ["self", "other"] ["self", "other"] (defScope s_Photo_eq) :=
  ⟨rfl, rfl, rfl, by decide +kernel, rfl, by decide +kernel, by decide +kernel⟩

abbrev s_Photo_str : Stmt := inClass (topS 14) 3
theorem sc_Photo_str : FnScope ["self", "row"] ["self"] (defScope s_Photo_str) :=
  ⟨rfl, rfl, rfl, by decide +kernel, rfl, by decide +kernel, by decide +kernel⟩

abbrev s_Photo_repr : Stmt := inClass (topS 14) 4
theorem sc_Photo_repr : FnScope ["self"] ["self"] (defScope s_Photo_repr) :=
  ⟨rfl, rfl, rfl, by decide +kernel, rfl, by decide +kernel, by decide +kernel⟩

abbrev s_Photo_at : Stmt := inClass (topS 14) 5
theorem sc_Photo_at : FnScope ["self", "x", "y"] ["self", "x", "y"] (defScope s_Photo_at) :=
  ⟨rfl, rfl, rfl, by decide +kernel, rfl, by decide +kernel, by decide +kernel⟩

abbrev s_law_well : Stmt := topS 16
theorem sc_law_well : FnScope ["_law_script", "_law_k", "_law_cell", "_law_own", "_law_seed", "_law_far"] ["_law_script"] (defScope s_law_well) :=
  ⟨rfl, rfl, rfl, by decide +kernel, rfl, by decide +kernel, by decide +kernel⟩

abbrev s_law_take : Stmt := topS 17
theorem sc_law_take : FnScope ["_law_well_here", "_law_many", "_law_turn", "_law_once", "_law_digit"] ["_law_well_here", "_law_many"] (defScope s_law_take) :=
  ⟨rfl, rfl, rfl, by decide +kernel, rfl, by decide +kernel, by decide +kernel⟩

abbrev s_law_of : Stmt := topS 18
theorem sc_law_of : FnScope ["_law_well_here", "_law_some"] ["_law_well_here", "_law_some"] (defScope s_law_of) :=
  ⟨rfl, rfl, rfl, by decide +kernel, rfl, by decide +kernel, by decide +kernel⟩

abbrev s_law_name : Stmt := topS 19
theorem sc_law_name : FnScope ["_law_well_here", "_law_words", "_law_way", "_law_far", "_law_k"] ["_law_well_here"] (defScope s_law_name) :=
  ⟨rfl, rfl, rfl, by decide +kernel, rfl, by decide +kernel, by decide +kernel⟩

abbrev s_law_sign : Stmt := topS 20
theorem sc_law_sign : FnScope ["_law_well_here", "_law_sign_here", "_law_kept", "_law_way"] ["_law_well_here"] (defScope s_law_sign) :=
  ⟨rfl, rfl, rfl, by decide +kernel, rfl, by decide +kernel, by decide +kernel⟩

abbrev s_law_any_rows : Stmt := topS 21
theorem sc_law_any_rows : FnScope ["_law_well_here", "_law_some", "_law_wide", "_law_high", "_law_ay", "_law_ax"] ["_law_well_here"] (defScope s_law_any_rows) :=
  ⟨rfl, rfl, rfl, by decide +kernel, rfl, by decide +kernel, by decide +kernel⟩

abbrev s_law_other_rows : Stmt := topS 22
theorem sc_law_other_rows : FnScope ["_law_well_here", "_law_lined", "_law_at", "_law_spot", "_law_way", "_law_row", "_law_sign_here", "_law_one"] ["_law_well_here", "_law_lined"] (defScope s_law_other_rows) :=
  ⟨rfl, rfl, rfl, by decide +kernel, rfl, by decide +kernel, by decide +kernel⟩

abbrev s_law_told_right : Stmt := topS 23
theorem sc_law_told_right : FnScope ["_law_photo", "_law_due", "_law_down", "_law_row", "_law_across", "_law_sign_here"] ["_law_photo", "_law_due"] (defScope s_law_told_right) :=
  ⟨rfl, rfl, rfl, by decide +kernel, rfl, by decide +kernel, by decide +kernel⟩

abbrev s_law : Stmt := topS 24
theorem sc_law : FnScope ["_law_script", "_law_well_here", "_law_turn", "_law_due", "_law_k", "_law_thing", "_law_photo", "_law_again", "_law_more", "_law_other", "_law_like", "_law_row"] ["_law_script"] (defScope s_law) :=
  ⟨rfl, rfl, rfl, by decide +kernel, rfl, by decide +kernel, by decide +kernel⟩

structure Ad where
  no : Unit
abbrev CT : CTab := [("Photo", ["rows"])]
abbrev CLS : List Str := ["Photo"]
structure Tx (G : Gi) (w : World) : Prop where
  xo : G.xo = none
  LETTERS : Gc G "LETTERS" (.str "abcdefghijklmnopqrstuvwxyz")
  LONGEST : Gc G "LONGEST" (.int 8)
  WORDS : Gc G "WORDS" (.tuk [(.str "pin"), (.str "again"), (.str "move"), (.str "take"), (.str "tear"), (.str "at"), (.str "to"), (.str "until"), (.str "strips"), (.str "known")])
  MOST_SIDE : Gc G "MOST_SIDE" (.int 9)
  BARE : Gc G "BARE" (.str "-")
  DARK : Gc G "DARK" (.str "?")
  b_abs : G.mg "abs" = none
  b_all : G.mg "all" = none
  b_enumerate : G.mg "enumerate" = none
  b_isinstance : G.mg "isinstance" = none
  b_len : G.mg "len" = none
  b_list : G.mg "list" = none
  b_range : G.mg "range" = none
  b_repr : G.mg "repr" = none
  b_str : G.mg "str" = none
  b_tuple : G.mg "tuple" = none
  kc : Kc G CT
  isT : IsT G CLS
  c_Photo : Gc G "Photo" (.fn "Photo")

section
variable {P : Program} {w : World} {G : Gi} {base : Heap} {ad : Ad} {f : Addr} {fd : FuncData}

--! only * __str__ |
--! only _law_told_right __str__ | Photo
--! only law __str__ | Photo
--! only * __repr__ |
--! only _law_told_right __repr__ | Photo
--! only law __repr__ | Photo
--! only * __eq__ |
--! only law __eq__ | Photo
--! only * __len__ |
--! only _law_told_right __len__ | Photo
--! only law __len__ | Photo
--! olen _law_told_right | _law_photo
--! olen law | _law_photo
--! plain law | _law_more == _law_due
--! plain law | [_law_photo == _law_other, _law_other == _law_photo, _law_photo != _law_other, _law_other != _law_photo] != [_law_like, _law_like, not _law_like, not _law_like]
noncomputable def m_is_name : MF := fnM 1
    (sSeq (sIf (bOr (bNot (toB (xCn isiD (aCons (frz (xVar 0)) (aCons (ret (.ty "str")) aNil))))) (bNot (toB (xChain leD leD (xC (.int 1)) (xUn lenD (xRd 0)) (xC (.int 8))))))
    (sRet (xC (.bl false)))
    sNil)
    (sRet (xAndV (xOp eqD (xM1 stripD (xBor 0) (frz (xC (.str "abcdefghijklmnopqrstuvwxyz")))) (xC (.str ""))) (xOp ninD (xBor 0) (xC (.tuk [(.str "pin"), (.str "again"), (.str "move"), (.str "take"), (.str "tear"), (.str "at"), (.str "to"), (.str "until"), (.str "strips"), (.str "known")]))))))
theorem fn_is_name (T : Tx G w) (F : Df G.K "is_name" "is_name" s_is_name f fd) :
    FnT P w G base false 1 f fd ["thing"] m_is_name := by
  refine Df.okT (N := ["thing"]) F sc_is_name (fun cdv A outer s H E hga hr => ?_)
  exact (ss_cons (s_if (PW.pt (xw_or (xt_not (xt_val (x_bn (k_isi rfl) d_isi (by rfl) T.b_isinstance bt_isinstance (xa_cons (x_frz (tv 0)) (xa_cons (x_ty (by rfl) T.b_str bt_str) xa_nil))))) (xw_or1 (xt_not (xt_chain op_le op_le d_le d_le (x_bor tc_int) (x_bor (x_b1 (k_len rfl) d_len (by rfl) T.b_len bt_len (tr 0))) (x_las (x_bor (tg T.LONGEST rfl (by rfl))))))))) (ss_one (s_ret tc_bl)) ss_nil)
      (ss_one (s_ret (x_and (x_cmp (k_eq rfl (hu64 hr)) d_eq (x_bor (x_m1 PySem.F.slot_str_strip PySem.F.type_str_strip mt_stripM d_strip (tb 0) (x_frz (tg T.LETTERS rfl (by rfl))))) (x_las (x_bor tc_str)) (nomark _)) (x_one (x_cmp (k_notIn rfl) d_nin (tb 0) (x_las (x_bor (tg T.WORDS rfl (by rfl)))) (by with_unfolding_all rfl)))))))

noncomputable def m_is_sign : MF := fnM 1
    (sRet (xAndV (xCn isiD (aCons (frz (xVar 0)) (aCons (ret (.ty "str")) aNil))) (xOrV (xOp inD (xBor 0) (xTup (aCons (frz (xC (.str "-"))) (aCons (frz (xC (.str "?"))) aNil)))) (xCall m_is_name (fun ds _ => ds) 1 (nK []) (aCons (frz (xVar 0)) aNil) aNil))))
theorem fn_is_sign (T : Tx G w) (F : Df G.K "is_sign" "is_sign" s_is_sign f fd)
    (K_is_name : KnT P w G base false "is_name" 1 1 [] (fun ds _ => ds) m_is_name) :
    FnT P w G base false 2 f fd ["thing"] m_is_sign := by
  refine Df.okT (N := ["thing"]) F sc_is_sign (fun cdv A outer s H E hga hr => ?_)
  exact (ss_one (s_ret (x_and (x_bn (k_isi rfl) d_isi (by rfl) T.b_isinstance bt_isinstance (xa_cons (x_frz (tv 0)) (xa_cons (x_ty (by rfl) T.b_str bt_str) xa_nil))) (x_one (x_or (x_cmp (k_in rfl) d_in (tb 0) (x_las (x_bor (x_tup (xa_cons (x_frz (tg T.BARE rfl (by rfl))) (xa_cons (x_frz (tg T.DARK rfl (by rfl))) xa_nil))))) (by with_unfolding_all rfl)) (x_one (x_call rfl rfl K_is_name nog (hr.mono (by decide)) (by rfl) (fun σ => passAt (takes_of rfl rfl rfl rfl) σ) (xa_cons (x_frz (tv 0)) xa_nil) xk_nil)))))))

noncomputable def m_are_rows : MF := fnM 3
    (sSeq (sIf (bOr (bNot (toB (xCn isiD (aCons (frz (xVar 0)) (aCons (ret (.ty "tuple")) aNil))))) (bNot (toB (xChain leD leD (xC (.int 1)) (xUn lenD (xRd 0)) (xC (.int 9))))))
    (sRet (xC (.bl false)))
    sNil)
    (sSeq (sFor (mSeq (frz (xVar 0))) (gN 1)
    (sSeq (sIf (bOr (bNot (toB (xCn isiD (aCons (frz (xVar 1)) (aCons (ret (.ty "tuple")) aNil))))) (bOr (bNot (toB (xChain leD leD (xC (.int 1)) (xUn lenD (xRd 1)) (xC (.int 9))))) (toB (xOp neD (xUn lenD (xRd 1)) (xUn lenD (xOpQ ixD (xRd 0) (fun _ => some (.int 0))))))))
    (sRet (xC (.bl false)))
    sNil)
    (sIf (bNot (toB (xUn allD (xLc [2] (mSeq (frz (xVar 1))) (gN 2) (ret true) (frz (xCall m_is_sign (fun ds _ => ds) 1 (nK []) (aCons (frz (xVar 2)) aNil) aNil))))))
    (sRet (xC (.bl false)))
    sNil)))
    (sRet (xC (.bl true)))))
theorem fn_are_rows (T : Tx G w) (F : Df G.K "are_rows" "are_rows" s_are_rows f fd)
    (K_is_sign : KnT P w G base false "is_sign" 2 1 [] (fun ds _ => ds) m_is_sign) :
    FnT P w G base false 3 f fd ["thing"] m_are_rows := by
  refine Df.okT (N := ["thing", "row", "one"]) F sc_are_rows (fun cdv A outer s H E hga hr => ?_)
  exact (ss_cons (s_if (PW.pt (xw_or (xt_not (xt_val (x_bn (k_isi rfl) d_isi (by rfl) T.b_isinstance bt_isinstance (xa_cons (x_frz (tv 0)) (xa_cons (x_ty (by rfl) T.b_tuple bt_tuple) xa_nil))))) (xw_or1 (xt_not (xt_chain op_le op_le d_le d_le (x_bor tc_int) (x_bor (x_b1 (k_len rfl) d_len (by rfl) T.b_len bt_len (tr 0))) (x_las (x_bor (tg T.MOST_SIDE rfl (by rfl))))))))) (ss_one (s_ret tc_bl)) ss_nil)
      (ss_cons (s_for (passes_of rfl) rfl (xi_any rfl (x_frz (tv 0))) (pg_name (i := 1) sc_are_rows.nd rfl (by first | exact Or.inl rfl | exact Or.inr rfl)) tg_name
      (ss_cons (s_if (PW.pt (xw_or (xt_not (xt_val (x_bn (k_isi rfl) d_isi (by rfl) T.b_isinstance bt_isinstance (xa_cons (x_frz (tv 1)) (xa_cons (x_ty (by rfl) T.b_tuple bt_tuple) xa_nil))))) (xw_or (xt_not (xt_chain op_le op_le d_le d_le (x_bor tc_int) (x_bor (x_b1 (k_len rfl) d_len (by rfl) T.b_len bt_len (tr 1))) (x_las (x_bor (tg T.MOST_SIDE rfl (by rfl)))))) (xw_or1 (xt_cmp (k_ne rfl (hu64 hr)) d_ne (x_bor (x_b1 (k_len rfl) d_len (by rfl) T.b_len bt_len (tr 1))) (x_las (x_bor (x_b1 (k_len rfl) d_len (by rfl) T.b_len bt_len (x_las (x_bor (x_ixQ (k_ix rfl) d_ix (tr 0) tq_int (fun _ _ => rfl))))))) (nomark _)))))) (ss_one (s_ret tc_bl)) ss_nil)
      (ss_one (s_if (xt_not (xt_val (x_b1 (k_all rfl rfl) d_all (by rfl) T.b_all bt_all (x_las (x_bor (x_lc (own := [("one", 2)]) (vs := [2]) rfl (by decide) rfl sc_are_rows.nd (xi_any rfl (x_frz (tv 1))) (blkOk_by (N := ["thing", "row", "one"]) (sc := defScope s_are_rows) (by decide +kernel)) (tw_name (by decide)) (fun _ _ _ _ _ => (pg_name (i := 2) sc_are_rows.nd rfl (by first | exact Or.inl rfl | exact Or.inr rfl))) (fun _ _ _ _ _ => xts_nil) (fun _ _ _ _ _ => (x_frz (x_call rfl rfl K_is_sign nog (hr.mono (by decide)) (by rfl) (fun _ => noPass) (xa_cons (x_frz (tv 2)) xa_nil) xk_nil))))))))) (ss_one (s_ret tc_bl)) ss_nil))))
      (ss_one (s_ret tc_bl))))

noncomputable def m_Photo_init : MF := fnI 2 "Photo"
    (sSeq (sIf (bNot (toB (xCall m_are_rows (fun ds _ => ds) 1 (nK []) (aCons (frz (xVar 1)) aNil) aNil)))
    (fun _ => .no)
    sNil)
    (sFldD CT "rows" 0 (frz (xVar 1))))
theorem fn_Photo_init (T : Tx G w) (F : Df G.K "__init__" "Photo.__init__" s_Photo_init f fd)
    (K_are_rows : KnT P w G base false "are_rows" 3 1 [] (fun ds _ => ds) m_are_rows) :
    FnI P w G base 4 f fd ["self", "rows"] "Photo" m_Photo_init := by
  refine Df.okI (N := ["self", "rows"]) F sc_Photo_init ⟨_, rfl⟩ (fun cdv A outer s H E hr => ?_)
  exact (ss_cons (s_if (xt_not (xt_val (x_call rfl rfl K_are_rows nog (hr.mono (by decide)) (by rfl) (fun σ => passAt (takes_of rfl rfl rfl rfl) σ) (xa_cons (x_frz (tv 1)) xa_nil) xk_nil))) (ss_one s_never) ss_nil)
      (ss_one (s_fld (i := 0) T.kc rfl rfl (by first | exact Or.inl rfl | exact Or.inr (Or.inl rfl) | exact Or.inr (Or.inr rfl)) (x_frz (tv 1)))))

noncomputable def m_Photo_len : MF := fnM 1
    (sRet (xUn lenD (xFld CT "rows" (xRd 0))))
theorem fn_Photo_len (T : Tx G w) (F : Df G.K "__len__" "Photo.__len__" s_Photo_len f fd) :
    FnT P w G base false 1 f fd ["self"] m_Photo_len := by
  refine Df.okT (N := ["self"]) F sc_Photo_len (fun cdv A outer s H E hga hr => ?_)
  exact (ss_one (s_ret (x_b1 (k_len rfl) d_len (by rfl) T.b_len bt_len (x_fld T.kc rfl (tr 0)))))

noncomputable def m_Photo_eq : MF := fnM 2
    (sRet (xAndV (xCn (isiO CLS) (aCons (frz (xVar 1)) (aCons (frz (xC (.fn "Photo"))) aNil))) (xOp eqD (xFldF CT "rows" (xRd 0)) (xFld CT "rows" (xRd 1)))))
theorem fn_Photo_eq (T : Tx G w) (F : Df G.K "__eq__" "Photo.__eq__" s_Photo_eq f fd) :
    FnT P w G base false 1 f fd ["self", "other"] m_Photo_eq := by
  refine Df.okT (N := ["self", "other"]) F sc_Photo_eq (fun cdv A outer s H E hga hr => ?_)
  exact (ss_one (s_ret (x_and (x_bn (k_isi rfl) (d_isiO T.isT) (by rfl) T.b_isinstance bt_isinstance (xa_cons (x_frz (tv 1)) (xa_cons (x_frz (tg T.c_Photo rfl (by rfl))) xa_nil))) (x_one (x_cmp (k_eq rfl (hu64 hr)) d_eq (x_bor (x_fldF T.kc rfl (tr 0))) (x_fld T.kc rfl (tr 1)) (nomark _))))))

/-- rows: a tuple of tuples of texts -/
def strsT : List D → Option (List Str)
  | [] => some []
  | .str s :: r => if PyData.strOk s = true then (strsT r).map (s :: ·) else none
  | _ => none
def rowsT : List D → Option (List (List Str))
  | [] => some []
  | .tup xs :: r => match strsT xs, rowsT r with
    | some a, some b => some (a :: b)
    | _, _ => none
  | _ => none
def photoOf : D → Option (List (List Str))
  | .ins c fs => if c = "Photo" then (match fs with
    | [(n, .tup rs)] => if n = "rows" then rowsT rs else none
    | _ => none) else none
  | _ => none
def p_Photo_eq (x y : D) : Option Bool := (photoOf x).bind fun a => match insOf y with
  | none => if (clsName y).isSome = true then some false else none
  | some _ => (photoOf y).map fun b => decide (a = b)
noncomputable def m_Photo_str : MF := fnM 2
    (sRet (xM1 joinD (xC (.str "\n")) (frz (xLc [1] (mSeq (frz (xFldF CT "rows" (xRd 0)))) (gN 1) (ret true) (frz (xM1 joinD (xC (.str " ")) (frz (xVar 1))))))))
theorem fn_Photo_str (T : Tx G w) (F : Df G.K "__str__" "Photo.__str__" s_Photo_str f fd) :
    FnT P w G base false 1 f fd ["self"] m_Photo_str := by
  refine Df.okT (N := ["self", "row"]) F sc_Photo_str (fun cdv A outer s H E hga hr => ?_)
  exact (ss_one (s_ret (x_m1 PySem.F.slot_str_join PySem.F.type_str_join (k_join rfl) d_join (x_bor tc_str) (x_frz (x_lc (own := [("row", 1)]) (vs := [1]) rfl (by decide) rfl sc_Photo_str.nd (xi_any rfl (x_frz (x_fldF T.kc rfl (tr 0)))) (blkOk_by (N := ["self", "row"]) (sc := defScope s_Photo_str) (by decide +kernel)) (tw_name (by decide)) (fun _ _ _ _ _ => (pg_name (i := 1) sc_Photo_str.nd rfl (by first | exact Or.inl rfl | exact Or.inr rfl))) (fun _ _ _ _ _ => xts_nil) (fun _ _ _ _ _ => (x_frz (x_m1 PySem.F.slot_str_join PySem.F.type_str_join (k_join rfl) d_join (x_bor tc_str) (x_frz (tv 1))))))))))

noncomputable def m_Photo_repr : MF := fnM 1
    (sRet (xJoin [(xC (.str "Photo(")), (xUn reprD (xFld CT "rows" (xRd 0))), (xC (.str ")"))]))
theorem fn_Photo_repr (T : Tx G w) (F : Df G.K "__repr__" "Photo.__repr__" s_Photo_repr f fd) (SM : Sm base) :
    FnT P w G base true 1 f fd ["self"] m_Photo_repr := by
  refine Df.okT (N := ["self"]) F sc_Photo_repr (fun cdv A outer s H E hga hr => ?_)
  exact (ss_one (s_ret (x_joined (PJm.cons tc_str (PJm.cons (x_fmtR rfl (hga rfl) (hu64 hr) SM (x_fld T.kc rfl (tr 0))) (PJm.cons tc_str PJm.nil))))))

noncomputable def m_Photo_at : MF := fnM 3
    (sRet (xOpQ ixD (xOpQ ixD (xFld CT "rows" (xRd 0)) (qVar 2)) (qVar 1)))
theorem fn_Photo_at (T : Tx G w) (F : Df G.K "at" "Photo.at" s_Photo_at f fd) :
    FnT P w G base false 1 f fd ["self", "x", "y"] m_Photo_at := by
  refine Df.okT (N := ["self", "x", "y"]) F sc_Photo_at (fun cdv A outer s H E hga hr => ?_)
  exact (ss_one (s_ret (x_ixQ (k_ix rfl) d_ix (x_las (x_bor (x_ixQ (k_ix rfl) d_ix (x_fld T.kc rfl (tr 0)) (tq 2) (fun _ _ => rfl)))) (tq 1) (fun _ _ => rfl))))

noncomputable def m_law_well : MF := fnM 6
    (sSeq (sAsgT (gT [(gN 3), (gN 4), (gN 5)]) (frz (xTup (aCons (frz (xLst aNil)) (aCons (frz (xC (.int 4099))) (aCons (frz (xOp powD (xC (.int 10)) (xC (.int 60)))) aNil))))))
    (sSeq (sFor (mRng1 (aCons (frz (xC (.int 6))) aNil)) (gN 1)
    (sAsg 5 (xOp mulD (xBor 5) (xOp powD (xC (.int 10)) (xC (.int 60))))))
    (sSeq (sFor (mSeq (frz (xSl (xBor 0) (ret none) (mPart (xC (.int 63)))))) (gN 2)
    (sAsg 4 (xOp modD (xOp addD (xOp addD (xOp addD (xOp mulD (xBor 4) (xC (.int 69069))) (xOp modD (xBor 2) (xC (.int 1000003)))) (xRd 2)) (xC (.int 5))) (xC (.int 2305843009213693951)))))
    (sSeq (sIf (bAnd (toB (xOp gtD (xUn lenD (xRd 0)) (xC (.int 0)))) (toB (xOp geD (xOpQ ixD (xRd 0) (fun _ => some (.int 0))) (xOp powD (xC (.int 10)) (xC (.int 18))))))
    (sAsg 3 (xLc [2] (mSeq (frz (xSl (xBor 0) (ret none) (mPart (xC (.int 63)))))) (gN 2) (ret true) (frz (xOp modD (xUn absD (xRd 2)) (xRd 5)))))
    sNil)
    (sRet (xWell "own" "seed" "turn" 3 4 0))))))
theorem fn_law_well (T : Tx G w) (F : Df G.K "_law_well" "_law_well" s_law_well f fd) :
    FnT P w G base false 1 f fd ["_law_script"] m_law_well := by
  refine Df.okT (N := ["_law_script", "_law_k", "_law_cell", "_law_own", "_law_seed", "_law_far"]) F sc_law_well (fun cdv A outer s H E hga hr => ?_)
  exact (ss_cons (s_asgT (x_frz (x_tup (xa_cons (x_frz (x_lst xa_nil)) (xa_cons (x_frz tc_int) (xa_cons (x_frz (x_op op_pow d_pow (x_bor tc_int) (x_las (x_bor tc_int)))) xa_nil))))) (pg_tupK (K := G.K) rfl rfl (pgs_cons (pg_name (i := 3) sc_law_well.nd rfl (by first | exact Or.inl rfl | exact Or.inr rfl)) (pgs_cons (pg_name (i := 4) sc_law_well.nd rfl (by first | exact Or.inl rfl | exact Or.inr rfl)) (pgs_cons (pg_name (i := 5) sc_law_well.nd rfl (by first | exact Or.inl rfl | exact Or.inr rfl)) pgs_nil)))) (tg_tupK rfl (tgs_cons tg_name (tgs_cons tg_name (tgs_cons tg_name tgs_nil)))))
      (ss_cons (s_for (passes_of rfl) rfl (xi_range1 (by rfl) T.b_range (xa_cons (x_frz tc_int) xa_nil)) (pg_name (i := 1) sc_law_well.nd rfl (by first | exact Or.inl rfl | exact Or.inr rfl)) tg_name
      (ss_one (s_asg (i := 5) sc_law_well.nd rfl (by first | exact Or.inl rfl | exact Or.inr rfl) (x_op op_mulM d_mul (tb 5) (x_las (x_bor (x_op op_pow d_pow (x_bor tc_int) (x_las (x_bor tc_int)))))))))
      (ss_cons (s_for (passes_of rfl) rfl (xi_any rfl (x_frz (x_sl rfl (tb 0) xp_none (xp_some tc_int)))) (pg_name (i := 2) sc_law_well.nd rfl (by first | exact Or.inl rfl | exact Or.inr rfl)) tg_name
      (ss_one (s_asg (i := 4) sc_law_well.nd rfl (by first | exact Or.inl rfl | exact Or.inr rfl) (x_op op_mod d_mod (x_bor (x_op (op_addA rfl) d_add (x_bor (x_op (op_addA rfl) d_add (x_bor (x_op (op_addA rfl) d_add (x_bor (x_op op_mulM d_mul (tb 4) (x_las (x_bor tc_int)))) (x_las (x_bor (x_op op_mod d_mod (tb 2) (x_las (x_bor tc_int))))))) (tr 2))) (x_las (x_bor tc_int)))) (x_las (x_bor tc_int))))))
      (ss_cons (s_if (PW.pt (xw_and (xt_cmp op_gt d_gt (x_bor (x_b1 (k_len rfl) d_len (by rfl) T.b_len bt_len (tr 0))) (x_las (x_bor tc_int)) (nomark _)) (xw_and1 (xt_cmp op_ge d_ge (x_bor (x_ixQ (k_ix rfl) d_ix (tr 0) tq_int (fun _ _ => rfl))) (x_las (x_bor (x_op op_pow d_pow (x_bor tc_int) (x_las (x_bor tc_int))))) (nomark _))))) (ss_one (s_setLc (i := 3) (own := [("_law_cell", 2)]) (vs := [2]) rfl (by decide) rfl sc_law_well.nd rfl rfl (sw_true rfl rfl rfl (by decide +kernel)) (xi_any rfl (x_frz (x_sl rfl (tb 0) xp_none (xp_some tc_int)))) (blkOk_by (N := ["_law_script", "_law_k", "_law_cell", "_law_own", "_law_seed", "_law_far"]) (sc := defScope s_law_well) (by decide +kernel)) (tw_name (by decide)) (fun _ _ _ _ _ => (pg_name (i := 2) sc_law_well.nd rfl (by first | exact Or.inl rfl | exact Or.inr rfl))) (fun _ _ _ _ _ => xts_nil) (fun _ _ _ _ _ => (x_frz (x_op op_mod d_mod (x_bor (x_b1 call_absM d_abs (by rfl) T.b_abs bt_abs (tr 2))) (tr 5)))))) ss_nil)
      (ss_one (s_ret (x_well (i := 3) (i2 := 4) rfl (by first | exact Or.inl rfl | exact Or.inr (Or.inl rfl) | exact Or.inr (Or.inr rfl)) rfl (by first | exact Or.inl rfl | exact Or.inr (Or.inl rfl) | exact Or.inr (Or.inr rfl)))))))))

noncomputable def m_law_take : MF := fnM 5
    (sSeq (whileL (bAnd (toB (xNilD true 0 "own")) (toB (xOp eqD (xOpQ ixD (xDg 0 "own") (fun _ => some (.int 0))) (xC (.int 0)))))
    (sExpr (xPopD 0 "own" 0)) 1000)
    (sSeq (sIf (toB (xNilD true 0 "own"))
    (sSeq (sAsg 4 (xOp modD (xOpQ ixD (xDg 0 "own") (fun _ => some (.int 0))) (xRd 1)))
    (sSeq (sPutLD 0 "own" 0 (frz (xOp divD (xOpQ ixD (xDg 0 "own") (fun _ => some (.int 0))) (xRd 1))))
    (sRet (xMov 4))))
    sNil)
    (sSeq (sPutW 0 "turn" (frz (xOp addD (xDgF 0 "turn") (xC (.int 1)))))
    (sSeq (sAsg 2 (xDgF 0 "turn"))
    (sSeq (sAsg 3 (xOp modD (xOp mulD (xOp addD (xDgF 0 "seed") (xOp mulD (xOp mulD (xC (.int 7919)) (xRd 2)) (xRd 2))) (xC (.int 48271))) (xC (.int 2305843009213693907))))
    (sSeq (sAsg 3 (xOp modD (xOp mulD (xBor 3) (xOp addD (xOp addD (xOp modD (xBor 3) (xC (.int 999983))) (xOp mulD (xC (.int 131)) (xRd 2))) (xC (.int 3)))) (xC (.int 2305843009213693921))))
    (sRet (xOp modD (xOp addD (xOp divD (xBor 3) (xC (.int 89))) (xOp divD (xBor 3) (xC (.int 1000033)))) (xRd 1)))))))))
theorem fn_law_take (T : Tx G w) (F : Df G.K "_law_take" "_law_take" s_law_take f fd) :
    FnT P w G base false 1 f fd ["_law_well_here", "_law_many"] m_law_take := by
  refine Df.okT (N := ["_law_well_here", "_law_many", "_law_turn", "_law_once", "_law_digit"]) F sc_law_take (fun cdv A outer s H E hga hr => ?_)
  exact (ss_cons (s_while 1000 (passes_of rfl) (PW.pt (xw_and (xt_nilD (i := 0) true (k_neN rfl (hu64 hr)) (hu64 hr) rfl (by first | exact Or.inl rfl | exact Or.inr (Or.inl rfl) | exact Or.inr (Or.inr rfl)) (nomark _)) (xw_and1 (xt_cmp (k_eq rfl (hu64 hr)) d_eq (x_bor (x_ixQ (k_ix rfl) d_ix (x_dgL (i := 0) (hu64 hr) rfl (by first | exact Or.inl rfl | exact Or.inr (Or.inl rfl) | exact Or.inr (Or.inr rfl))) tq_int (fun _ _ => rfl))) (x_las (x_bor tc_int)) (nomark _)))))
      (ss_one (s_expr (x_popD (i := 0) rfl (hu64 hr) rfl (by first | exact Or.inl rfl | exact Or.inr (Or.inl rfl) | exact Or.inr (Or.inr rfl))))))
      (ss_cons (s_if (xt_nilD (i := 0) true (k_neN rfl (hu64 hr)) (hu64 hr) rfl (by first | exact Or.inl rfl | exact Or.inr (Or.inl rfl) | exact Or.inr (Or.inr rfl)) (nomark _)) (ss_cons (s_asg (i := 4) sc_law_take.nd rfl (by first | exact Or.inl rfl | exact Or.inr rfl) (x_op op_mod d_mod (x_bor (x_ixQ (k_ix rfl) d_ix (x_dgL (i := 0) (hu64 hr) rfl (by first | exact Or.inl rfl | exact Or.inr (Or.inl rfl) | exact Or.inr (Or.inr rfl))) tq_int (fun _ _ => rfl))) (tr 1)))
      (ss_cons (s_putLD (i := 0) (hu64 hr) rfl (by first | exact Or.inl rfl | exact Or.inr (Or.inl rfl) | exact Or.inr (Or.inr rfl)) (x_frz (x_op op_fdiv d_div (x_bor (x_ixQ (k_ix rfl) d_ix (x_dgL (i := 0) (hu64 hr) rfl (by first | exact Or.inl rfl | exact Or.inr (Or.inl rfl) | exact Or.inr (Or.inr rfl))) tq_int (fun _ _ => rfl))) (tr 1))))
      (ss_one (s_ret (tm 4))))) ss_nil)
      (ss_cons (s_putW (i := 0) (hu64 hr) rfl (by first | exact Or.inl rfl | exact Or.inr (Or.inl rfl) | exact Or.inr (Or.inr rfl)) (x_frz (x_op (op_addA rfl) d_add (x_bor (x_dgF (i := 0) (hu64 hr) rfl (by first | exact Or.inl rfl | exact Or.inr (Or.inl rfl) | exact Or.inr (Or.inr rfl)))) (x_las (x_bor tc_int)))))
      (ss_cons (s_asg (i := 2) sc_law_take.nd rfl (by first | exact Or.inl rfl | exact Or.inr rfl) (x_dgF (i := 0) (hu64 hr) rfl (by first | exact Or.inl rfl | exact Or.inr (Or.inl rfl) | exact Or.inr (Or.inr rfl))))
      (ss_cons (s_asg (i := 3) sc_law_take.nd rfl (by first | exact Or.inl rfl | exact Or.inr rfl) (x_op op_mod d_mod (x_bor (x_op op_mulM d_mul (x_bor (x_op (op_addA rfl) d_add (x_bor (x_dgF (i := 0) (hu64 hr) rfl (by first | exact Or.inl rfl | exact Or.inr (Or.inl rfl) | exact Or.inr (Or.inr rfl)))) (x_las (x_bor (x_op op_mulM d_mul (x_bor (x_op op_mulM d_mul (x_bor tc_int) (tr 2))) (tr 2)))))) (x_las (x_bor tc_int)))) (x_las (x_bor tc_int))))
      (ss_cons (s_asg (i := 3) sc_law_take.nd rfl (by first | exact Or.inl rfl | exact Or.inr rfl) (x_op op_mod d_mod (x_bor (x_op op_mulM d_mul (tb 3) (x_las (x_bor (x_op (op_addA rfl) d_add (x_bor (x_op (op_addA rfl) d_add (x_bor (x_op op_mod d_mod (tb 3) (x_las (x_bor tc_int)))) (x_las (x_bor (x_op op_mulM d_mul (x_bor tc_int) (tr 2)))))) (x_las (x_bor tc_int))))))) (x_las (x_bor tc_int))))
      (ss_one (s_ret (x_op op_mod d_mod (x_bor (x_op (op_addA rfl) d_add (x_bor (x_op op_fdiv d_div (tb 3) (x_las (x_bor tc_int)))) (x_las (x_bor (x_op op_fdiv d_div (tb 3) (x_las (x_bor tc_int))))))) (tr 1))))))))))

noncomputable def m_law_of : MF := fnM 2
    (sRet (xOp ixD (xBor 1) (xCall m_law_take (fun ds _ => ds) 2 (nK []) (aCons (frz (xVar 0)) (aCons (frz (xUn lenD (xRd 1))) aNil)) aNil)))
theorem fn_law_of (T : Tx G w) (F : Df G.K "_law_of" "_law_of" s_law_of f fd)
    (K_law_take : KnT P w G base false "_law_take" 1 2 [] (fun ds _ => ds) m_law_take) :
    FnT P w G base false 2 f fd ["_law_well_here", "_law_some"] m_law_of := by
  refine Df.okT (N := ["_law_well_here", "_law_some"]) F sc_law_of (fun cdv A outer s H E hga hr => ?_)
  exact (ss_one (s_ret (x_ix (k_ix rfl) d_ix (tb 1) (x_las (x_bor (x_call rfl rfl K_law_take nog (hr.mono (by decide)) (by rfl) (fun σ => passAt (takes_of rfl rfl rfl rfl) σ) (xa_cons (x_frz (tv 0)) (xa_cons (x_frz (x_b1 (k_len rfl) d_len (by rfl) T.b_len bt_len (tr 1))) xa_nil)) xk_nil))) (fun _ _ => rfl))))

noncomputable def m_law_name : MF := fnM 5
    (sSeq (sAsg 1 (xLst (aCons (frz (xC (.str "done"))) (aCons (frz (xC (.str "idle"))) (aCons (frz (xC (.str "gone"))) (aCons (frz (xC (.str "off"))) (aCons (frz (xC (.str "whole"))) (aCons (frz (xC (.str "partly"))) (aCons (frz (xC (.str "hidden"))) (aCons (frz (xC (.str "end"))) (aCons (frz (xC (.str "deeds"))) (aCons (frz (xC (.str "photo"))) (aCons (frz (xC (.str "order"))) (aCons (frz (xC (.str "ring"))) aNil))))))))))))))
    (sSeq (sAsg 1 (xOp addD (xBor 1) (xLst (aCons (frz (xC (.str "lot"))) (aCons (frz (xC (.str "untold"))) (aCons (frz (xC (.str "there"))) (aCons (frz (xC (.str "past"))) (aCons (frz (xC (.str "few"))) aNil))))))))
    (sSeq (sPar 2 3 (oCons (xCall m_law_take (fun ds _ => ds) 2 (nK []) (aCons (frz (xVar 0)) (aCons (frz (xC (.int 5))) aNil)) aNil) (oCons (xOp addD (xC (.int 1)) (xCall m_law_take (fun ds _ => ds) 2 (nK []) (aCons (frz (xVar 0)) (aCons (frz (xC (.int 8))) aNil)) aNil)) oNil)))
    (sSeq (sIf (toB (xOp eqD (xBor 2) (xC (.int 0))))
    (sRet (xCall m_law_of (fun ds _ => ds) 2 (nK []) (aCons (frz (xVar 0)) (aCons (frz (xVar 1)) aNil)) aNil))
    sNil)
    (sRet (xM1 joinD (xC (.str "")) (frz (xLc [4] (mRng1 (aCons (frz (xIf (toB (xOp eqD (xBor 2) (xC (.int 1)))) (xVar 3) (xOp addD (xC (.int 1)) (xOp modD (xBor 3) (xC (.int 2)))))) aNil)) (gN 4) (ret true) (frz (xCall m_law_of (fun ds _ => ds) 2 (nK []) (aCons (frz (xVar 0)) (aCons (frz (xC (.str "abcdefghijklmnopqrstuvwxyz"))) aNil)) aNil))))))))))
theorem fn_law_name (T : Tx G w) (F : Df G.K "_law_name" "_law_name" s_law_name f fd)
    (K_law_take : KnT P w G base false "_law_take" 1 2 [] (fun ds _ => ds) m_law_take)
    (K_law_of : KnT P w G base false "_law_of" 2 2 [] (fun ds _ => ds) m_law_of) :
    FnT P w G base false 3 f fd ["_law_well_here"] m_law_name := by
  refine Df.okT (N := ["_law_well_here", "_law_words", "_law_way", "_law_far", "_law_k"]) F sc_law_name (fun cdv A outer s H E hga hr => ?_)
  exact (ss_cons (s_asg (i := 1) sc_law_name.nd rfl (by first | exact Or.inl rfl | exact Or.inr rfl) (x_lst (xa_cons (x_frz tc_str) (xa_cons (x_frz tc_str) (xa_cons (x_frz tc_str) (xa_cons (x_frz tc_str) (xa_cons (x_frz tc_str) (xa_cons (x_frz tc_str) (xa_cons (x_frz tc_str) (xa_cons (x_frz tc_str) (xa_cons (x_frz tc_str) (xa_cons (x_frz tc_str) (xa_cons (x_frz tc_str) (xa_cons (x_frz tc_str) xa_nil))))))))))))))
      (ss_cons (s_asg (i := 1) sc_law_name.nd rfl (by first | exact Or.inl rfl | exact Or.inr rfl) (x_op (op_addA rfl) d_add (tb 1) (x_las (x_bor (x_lst (xa_cons (x_frz tc_str) (xa_cons (x_frz tc_str) (xa_cons (x_frz tc_str) (xa_cons (x_frz tc_str) (xa_cons (x_frz tc_str) xa_nil))))))))))
      (ss_cons (s_par (ps_par (i := 2) (j := 3) (by rfl) sc_law_name.nd rfl rfl (by decide) rfl rfl (xo_cons (x_call rfl rfl K_law_take nog (hr.mono (by decide)) (by rfl) (fun σ => passAt (takes_of rfl rfl rfl rfl) σ) (xa_cons (x_frz (tv 0)) (xa_cons (x_frz tc_int) xa_nil)) xk_nil) (xo_cons (x_op (op_addA rfl) d_add (x_bor tc_int) (x_las (x_bor (x_call rfl rfl K_law_take nog (hr.mono (by decide)) (by rfl) (fun σ => passAt (takes_of rfl rfl rfl rfl) σ) (xa_cons (x_frz (tv 0)) (xa_cons (x_frz tc_int) xa_nil)) xk_nil)))) xo_nil)) (by rfl)))
      (ss_cons (s_if (xt_cmp (k_eq rfl (hu64 hr)) d_eq (tb 2) (x_las (x_bor tc_int)) (nomark _)) (ss_one (s_ret (x_call rfl rfl K_law_of nog (hr.mono (by decide)) (by rfl) (fun σ => passAt (takes_of rfl rfl rfl rfl) σ) (xa_cons (x_frz (tv 0)) (xa_cons (x_frz (tv 1)) xa_nil)) xk_nil))) ss_nil)
      (ss_one (s_ret (x_m1 PySem.F.slot_str_join PySem.F.type_str_join (k_join rfl) d_join (x_bor tc_str) (x_frz (x_lc (own := [("_law_k", 4)]) (vs := [4]) rfl (by decide) rfl sc_law_name.nd (xi_range1 (by rfl) T.b_range (xa_cons (x_frz (x_if (xt_cmp (k_eq rfl (hu64 hr)) d_eq (tb 2) (x_las (x_bor tc_int)) (nomark _)) (tv 3) (x_op (op_addA rfl) d_add (x_bor tc_int) (x_las (x_bor (x_op op_mod d_mod (tb 3) (x_las (x_bor tc_int)))))))) xa_nil)) (blkOk_by (N := ["_law_well_here", "_law_words", "_law_way", "_law_far", "_law_k"]) (sc := defScope s_law_name) (by decide +kernel)) (tw_name (by decide)) (fun _ _ _ _ _ => (pg_name (i := 4) sc_law_name.nd rfl (by first | exact Or.inl rfl | exact Or.inr rfl))) (fun _ _ _ _ _ => xts_nil) (fun _ _ _ _ _ => (x_frz (x_call rfl rfl K_law_of nog (hr.mono (by decide)) (by rfl) (fun _ => noPass) (xa_cons (x_frz (tv 0)) (xa_cons (x_frz tc_str) xa_nil)) xk_nil))))))))))))

noncomputable def m_law_sign : MF := fnM 4
    (sSeq (sPar 2 3 (oCons (xLst (aCons (frz (xC (.str "pin"))) (aCons (frz (xC (.str "again"))) (aCons (frz (xC (.str "move"))) (aCons (frz (xC (.str "take"))) (aCons (frz (xC (.str "tear"))) (aCons (frz (xC (.str "at"))) (aCons (frz (xC (.str "to"))) (aCons (frz (xC (.str "until"))) (aCons (frz (xC (.str "strips"))) (aCons (frz (xC (.str "known"))) aNil))))))))))) (oCons (xCall m_law_take (fun ds _ => ds) 2 (nK []) (aCons (frz (xVar 0)) (aCons (frz (xC (.int 4))) aNil)) aNil) oNil)))
    (sSeq (sIf (toB (xOp ltD (xBor 3) (xC (.int 2))))
    (sRet (xOpQ ixD (xLst (aCons (frz (xC (.str "-"))) (aCons (frz (xC (.str "?"))) aNil))) (qVar 3)))
    sNil)
    (sSeq (sAsg 1 (xCall m_law_name (fun ds _ => ds) 1 (nK []) (aCons (frz (xVar 0)) aNil) aNil))
    (sRet (xIf (toB (xOp inD (xBor 1) (xRd 2))) (xOp addD (xBor 1) (xC (.str "q"))) (xVar 1))))))
theorem fn_law_sign (T : Tx G w) (F : Df G.K "_law_sign" "_law_sign" s_law_sign f fd)
    (K_law_take : KnT P w G base false "_law_take" 1 2 [] (fun ds _ => ds) m_law_take)
    (K_law_name : KnT P w G base false "_law_name" 3 1 [] (fun ds _ => ds) m_law_name) :
    FnT P w G base false 4 f fd ["_law_well_here"] m_law_sign := by
  refine Df.okT (N := ["_law_well_here", "_law_sign_here", "_law_kept", "_law_way"]) F sc_law_sign (fun cdv A outer s H E hga hr => ?_)
  exact (ss_cons (s_par (ps_par (i := 2) (j := 3) (by rfl) sc_law_sign.nd rfl rfl (by decide) rfl rfl (xo_cons (x_lst (xa_cons (x_frz tc_str) (xa_cons (x_frz tc_str) (xa_cons (x_frz tc_str) (xa_cons (x_frz tc_str) (xa_cons (x_frz tc_str) (xa_cons (x_frz tc_str) (xa_cons (x_frz tc_str) (xa_cons (x_frz tc_str) (xa_cons (x_frz tc_str) (xa_cons (x_frz tc_str) xa_nil))))))))))) (xo_cons (x_call rfl rfl K_law_take nog (hr.mono (by decide)) (by rfl) (fun σ => passAt (takes_of rfl rfl rfl rfl) σ) (xa_cons (x_frz (tv 0)) (xa_cons (x_frz tc_int) xa_nil)) xk_nil) xo_nil)) (by rfl)))
      (ss_cons (s_if (xt_cmp op_lt d_lt (tb 3) (x_las (x_bor tc_int)) (nomark _)) (ss_one (s_ret (x_ixQ (k_ix rfl) d_ix (x_las (x_bor (x_lst (xa_cons (x_frz tc_str) (xa_cons (x_frz tc_str) xa_nil))))) (tq 3) (fun _ _ => rfl)))) ss_nil)
      (ss_cons (s_asg (i := 1) sc_law_sign.nd rfl (by first | exact Or.inl rfl | exact Or.inr rfl) (x_call rfl rfl K_law_name nog (hr.mono (by decide)) (by rfl) (fun σ => passAt (takes_of rfl rfl rfl rfl) σ) (xa_cons (x_frz (tv 0)) xa_nil) xk_nil))
      (ss_one (s_ret (x_if (xt_cmp (k_in rfl) d_in (tb 1) (tr 2) (by with_unfolding_all rfl)) (x_op (op_addA rfl) d_add (tb 1) (x_las (x_bor tc_str))) (tv 1)))))))

noncomputable def m_law_any_rows : MF := fnM 6
    (sSeq (sAsg 1 (xLst (aCons (frz (xC (.int 1))) (aCons (frz (xC (.int 2))) (aCons (frz (xC (.int 3))) (aCons (frz (xC (.int 5))) (aCons (frz (xC (.int 9))) aNil)))))))
    (sSeq (sAsgT (gT [(gN 2), (gN 3)]) (frz (xTup (aCons (frz (xCall m_law_of (fun ds _ => ds) 2 (nK []) (aCons (frz (xVar 0)) (aCons (frz (xVar 1)) aNil)) aNil)) (aCons (frz (xCall m_law_of (fun ds _ => ds) 2 (nK []) (aCons (frz (xVar 0)) (aCons (frz (xVar 1)) aNil)) aNil)) aNil)))))
    (sRet (xUn tupleD (xLc [4] (mRng1 (aCons (frz (xVar 3)) aNil)) (gN 4) (ret true) (frz (xUn tupleD (xLc [5] (mRng1 (aCons (frz (xVar 2)) aNil)) (gN 5) (ret true) (frz (xCall m_law_sign (fun ds _ => ds) 1 (nK []) (aCons (frz (xVar 0)) aNil) aNil))))))))))
theorem fn_law_any_rows (T : Tx G w) (F : Df G.K "_law_any_rows" "_law_any_rows" s_law_any_rows f fd)
    (K_law_of : KnT P w G base false "_law_of" 2 2 [] (fun ds _ => ds) m_law_of)
    (K_law_sign : KnT P w G base false "_law_sign" 4 1 [] (fun ds _ => ds) m_law_sign) :
    FnT P w G base false 5 f fd ["_law_well_here"] m_law_any_rows := by
  refine Df.okT (N := ["_law_well_here", "_law_some", "_law_wide", "_law_high", "_law_ay", "_law_ax"]) F sc_law_any_rows (fun cdv A outer s H E hga hr => ?_)
  exact (ss_cons (s_asg (i := 1) sc_law_any_rows.nd rfl (by first | exact Or.inl rfl | exact Or.inr rfl) (x_lst (xa_cons (x_frz tc_int) (xa_cons (x_frz tc_int) (xa_cons (x_frz tc_int) (xa_cons (x_frz tc_int) (xa_cons (x_frz tc_int) xa_nil)))))))
      (ss_cons (s_asgT (x_frz (x_tup (xa_cons (x_frz (x_call rfl rfl K_law_of nog (hr.mono (by decide)) (by rfl) (fun σ => passAt (takes_of rfl rfl rfl rfl) σ) (xa_cons (x_frz (tv 0)) (xa_cons (x_frz (tv 1)) xa_nil)) xk_nil)) (xa_cons (x_frz (x_call rfl rfl K_law_of nog (hr.mono (by decide)) (by rfl) (fun σ => passAt (takes_of rfl rfl rfl rfl) σ) (xa_cons (x_frz (tv 0)) (xa_cons (x_frz (tv 1)) xa_nil)) xk_nil)) xa_nil)))) (pg_tupK (K := G.K) rfl rfl (pgs_cons (pg_name (i := 2) sc_law_any_rows.nd rfl (by first | exact Or.inl rfl | exact Or.inr rfl)) (pgs_cons (pg_name (i := 3) sc_law_any_rows.nd rfl (by first | exact Or.inl rfl | exact Or.inr rfl)) pgs_nil))) (tg_tupK rfl (tgs_cons tg_name (tgs_cons tg_name tgs_nil))))
      (ss_one (s_ret (x_t1 (call_tupK rfl) d_tuple (by rfl) T.b_tuple bt_tuple (x_las (x_bor (x_lc (own := [("_law_ay", 4)]) (vs := [4]) rfl (by decide) rfl sc_law_any_rows.nd (xi_range1 (by rfl) T.b_range (xa_cons (x_frz (tv 3)) xa_nil)) (blkOk_by (N := ["_law_well_here", "_law_some", "_law_wide", "_law_high", "_law_ay", "_law_ax"]) (sc := defScope s_law_any_rows) (by decide +kernel)) (tw_name (by decide)) (fun _ _ _ _ _ => (pg_name (i := 4) sc_law_any_rows.nd rfl (by first | exact Or.inl rfl | exact Or.inr rfl))) (fun _ _ _ _ _ => xts_nil) (fun _ _ _ _ _ => (x_frz (x_t1 (call_tupK rfl) d_tuple (by rfl) T.b_tuple bt_tuple (x_las (x_bor (x_lc (own := [("_law_ax", 5)]) (vs := [5]) rfl (by decide) rfl sc_law_any_rows.nd (xi_range1 (by rfl) T.b_range (xa_cons (x_frz (tv 2)) xa_nil)) (blkOk_by (N := ["_law_well_here", "_law_some", "_law_wide", "_law_high", "_law_ay", "_law_ax"]) (by rfl)) (tw_name (by decide)) (fun _ _ _ _ _ => (pg_name (i := 5) sc_law_any_rows.nd rfl (by first | exact Or.inl rfl | exact Or.inr rfl))) (fun _ _ _ _ _ => xts_nil) (fun _ _ _ _ _ => (x_frz (x_call rfl rfl K_law_sign nog (hr.mono (by decide)) (by rfl) (fun _ => noPass) (xa_cons (x_frz (tv 0)) xa_nil) xk_nil)))))))))))))))))

noncomputable def m_law_other_rows : MF := fnM 8
    (sSeq (sAsgT (gT [(gN 2), (gN 3), (gN 4)]) (frz (xTup (aCons (frz (xCall m_law_take (fun ds _ => ds) 2 (nK []) (aCons (frz (xVar 0)) (aCons (frz (xUn lenD (xRd 1))) aNil)) aNil)) (aCons (frz (xCall m_law_take (fun ds _ => ds) 2 (nK []) (aCons (frz (xVar 0)) (aCons (frz (xUn lenD (xOpQ ixD (xRd 1) (fun _ => some (.int 0))))) aNil)) aNil)) (aCons (frz (xCall m_law_take (fun ds _ => ds) 2 (nK []) (aCons (frz (xVar 0)) (aCons (frz (xC (.int 5))) aNil)) aNil)) aNil))))))
    (sSeq (sPar 5 6 (oCons (xOpQ ixD (xRd 1) (qVar 2)) (oCons (xCall m_law_sign (fun ds _ => ds) 1 (nK []) (aCons (frz (xVar 0)) aNil) aNil) oNil)))
    (sSeq (sIf (toB (xOp ltD (xBor 4) (xC (.int 2))))
    (sRet (xOp addD (xOp addD (xSl (xBor 1) (ret none) (mPart (xVar 2))) (xTup (aCons (frz (xOp addD (xOp addD (xSl (xBor 5) (ret none) (mPart (xVar 3))) (xTup (aCons (frz (xVar 6)) aNil))) (xSl (xBor 5) (mPart (xOp addD (xBor 3) (xC (.int 1)))) (ret none)))) aNil))) (xSl (xBor 1) (mPart (xOp addD (xBor 2) (xC (.int 1)))) (ret none))))
    sNil)
    (sSeq (sIf (toB (xOp eqD (xBor 4) (xC (.int 2))))
    (sRet (xSl (xOp addD (xBor 1) (xSl (xBor 1) (mPart (xVar 2)) (mPart (xOp addD (xBor 2) (xC (.int 1)))))) (ret none) (mPart (xC (.int 9)))))
    sNil)
    (sSeq (sIf (bAnd (toB (xOp eqD (xBor 4) (xC (.int 3)))) (toB (xOp gtD (xUn lenD (xRd 1)) (xC (.int 1)))))
    (sRet (xOp addD (xSl (xBor 1) (ret none) (mPart (xVar 2))) (xSl (xBor 1) (mPart (xOp addD (xBor 2) (xC (.int 1)))) (ret none))))
    sNil)
    (sRet (xUn tupleD (xLc [7] (mSeq (frz (xVar 1))) (gN 7) (ret true) (frz (xSl (xOp addD (xBor 7) (xSl (xBor 7) (mPart (xVar 3)) (mPart (xOp addD (xBor 3) (xC (.int 1)))))) (ret none) (mPart (xC (.int 9)))))))))))))
theorem fn_law_other_rows (T : Tx G w) (F : Df G.K "_law_other_rows" "_law_other_rows" s_law_other_rows f fd)
    (K_law_take : KnT P w G base false "_law_take" 1 2 [] (fun ds _ => ds) m_law_take)
    (K_law_sign : KnT P w G base false "_law_sign" 4 1 [] (fun ds _ => ds) m_law_sign) :
    FnT P w G base false 5 f fd ["_law_well_here", "_law_lined"] m_law_other_rows := by
  refine Df.okT (N := ["_law_well_here", "_law_lined", "_law_at", "_law_spot", "_law_way", "_law_row", "_law_sign_here", "_law_one"]) F sc_law_other_rows (fun cdv A outer s H E hga hr => ?_)
  exact (ss_cons (s_asgT (x_frz (x_tup (xa_cons (x_frz (x_call rfl rfl K_law_take nog (hr.mono (by decide)) (by rfl) (fun σ => passAt (takes_of rfl rfl rfl rfl) σ) (xa_cons (x_frz (tv 0)) (xa_cons (x_frz (x_b1 (k_len rfl) d_len (by rfl) T.b_len bt_len (tr 1))) xa_nil)) xk_nil)) (xa_cons (x_frz (x_call rfl rfl K_law_take nog (hr.mono (by decide)) (by rfl) (fun σ => passAt (takes_of rfl rfl rfl rfl) σ) (xa_cons (x_frz (tv 0)) (xa_cons (x_frz (x_b1 (k_len rfl) d_len (by rfl) T.b_len bt_len (x_las (x_bor (x_ixQ (k_ix rfl) d_ix (tr 1) tq_int (fun _ _ => rfl)))))) xa_nil)) xk_nil)) (xa_cons (x_frz (x_call rfl rfl K_law_take nog (hr.mono (by decide)) (by rfl) (fun σ => passAt (takes_of rfl rfl rfl rfl) σ) (xa_cons (x_frz (tv 0)) (xa_cons (x_frz tc_int) xa_nil)) xk_nil)) xa_nil))))) (pg_tupK (K := G.K) rfl rfl (pgs_cons (pg_name (i := 2) sc_law_other_rows.nd rfl (by first | exact Or.inl rfl | exact Or.inr rfl)) (pgs_cons (pg_name (i := 3) sc_law_other_rows.nd rfl (by first | exact Or.inl rfl | exact Or.inr rfl)) (pgs_cons (pg_name (i := 4) sc_law_other_rows.nd rfl (by first | exact Or.inl rfl | exact Or.inr rfl)) pgs_nil)))) (tg_tupK rfl (tgs_cons tg_name (tgs_cons tg_name (tgs_cons tg_name tgs_nil)))))
      (ss_cons (s_par (ps_par (i := 5) (j := 6) (by rfl) sc_law_other_rows.nd rfl rfl (by decide) rfl rfl (xo_cons (x_ixQ (k_ix rfl) d_ix (tr 1) (tq 2) (fun _ _ => rfl)) (xo_cons (x_call rfl rfl K_law_sign nog (hr.mono (by decide)) (by rfl) (fun σ => passAt (takes_of rfl rfl rfl rfl) σ) (xa_cons (x_frz (tv 0)) xa_nil) xk_nil) xo_nil)) (by rfl)))
      (ss_cons (s_if (xt_cmp op_lt d_lt (tb 4) (x_las (x_bor tc_int)) (nomark _)) (ss_one (s_ret (x_op (op_addA rfl) d_add (x_bor (x_op (op_addA rfl) d_add (x_bor (x_sl rfl (tb 1) xp_none (xp_some (tv 2)))) (x_las (x_bor (x_tup (xa_cons (x_frz (x_op (op_addA rfl) d_add (x_bor (x_op (op_addA rfl) d_add (x_bor (x_sl rfl (tb 5) xp_none (xp_some (tv 3)))) (x_las (x_bor (x_tup (xa_cons (x_frz (tv 6)) xa_nil)))))) (x_las (x_bor (x_sl rfl (tb 5) (xp_some (x_op (op_addA rfl) d_add (tb 3) (x_las (x_bor tc_int)))) xp_none))))) xa_nil)))))) (x_las (x_bor (x_sl rfl (tb 1) (xp_some (x_op (op_addA rfl) d_add (tb 2) (x_las (x_bor tc_int)))) xp_none)))))) ss_nil)
      (ss_cons (s_if (xt_cmp (k_eq rfl (hu64 hr)) d_eq (tb 4) (x_las (x_bor tc_int)) (nomark _)) (ss_one (s_ret (x_sl rfl (x_bor (x_op (op_addA rfl) d_add (tb 1) (x_las (x_bor (x_sl rfl (tb 1) (xp_some (tv 2)) (xp_some (x_op (op_addA rfl) d_add (tb 2) (x_las (x_bor tc_int))))))))) xp_none (xp_some tc_int)))) ss_nil)
      (ss_cons (s_if (PW.pt (xw_and (xt_cmp (k_eq rfl (hu64 hr)) d_eq (tb 4) (x_las (x_bor tc_int)) (nomark _)) (xw_and1 (xt_cmp op_gt d_gt (x_bor (x_b1 (k_len rfl) d_len (by rfl) T.b_len bt_len (tr 1))) (x_las (x_bor tc_int)) (nomark _))))) (ss_one (s_ret (x_op (op_addA rfl) d_add (x_bor (x_sl rfl (tb 1) xp_none (xp_some (tv 2)))) (x_las (x_bor (x_sl rfl (tb 1) (xp_some (x_op (op_addA rfl) d_add (tb 2) (x_las (x_bor tc_int)))) xp_none)))))) ss_nil)
      (ss_one (s_ret (x_t1 (call_tupK rfl) d_tuple (by rfl) T.b_tuple bt_tuple (x_las (x_bor (x_lc (own := [("_law_one", 7)]) (vs := [7]) rfl (by decide) rfl sc_law_other_rows.nd (xi_any rfl (x_frz (tv 1))) (blkOk_by (N := ["_law_well_here", "_law_lined", "_law_at", "_law_spot", "_law_way", "_law_row", "_law_sign_here", "_law_one"]) (sc := defScope s_law_other_rows) (by decide +kernel)) (tw_name (by decide)) (fun _ _ _ _ _ => (pg_name (i := 7) sc_law_other_rows.nd rfl (by first | exact Or.inl rfl | exact Or.inr rfl))) (fun _ _ _ _ _ => xts_nil) (fun _ _ _ _ _ => (x_frz (x_sl rfl (x_bor (x_op (op_addA rfl) d_add (tb 7) (x_las (x_bor (x_sl rfl (tb 7) (xp_some (tv 3)) (xp_some (x_op (op_addA rfl) d_add (tb 3) (x_las (x_bor tc_int))))))))) xp_none (xp_some tc_int)))))))))))))))

def g_Photo_at_1_y_x : List D → List D → List D := fun ds es => pick [(0, 0), (2, 1), (2, 0)] ds [] es
noncomputable def m_law_told_right : MF := fnM 6
    (sSeq (sIf (bOr (toB (xOp neD (xFldF CT "rows" (xRd 0)) (xRd 1))) (bOr (toB (xOp neD (xSn [("Photo", m_Photo_len)] lenD (frz (xVar 0))) (xUn lenD (xRd 1)))) (bNot (toB (xCn isiD (aCons (frz (xFldF CT "rows" (xRd 0))) (aCons (ret (.ty "tuple")) aNil)))))))
    (sRet (xC (.bl false)))
    sNil)
    (sSeq (sIf (bOr (toB (xOp neD (xSp [("Photo", m_Photo_str)] strD (frz (xVar 0))) (xM1 joinD (xC (.str "\n")) (frz (xLc [3] (mSeq (frz (xVar 1))) (gN 3) (ret true) (frz (xM1 joinD (xC (.str " ")) (frz (xVar 3))))))))) (toB (xOp neD (xSp [("Photo", m_Photo_repr)] reprD (frz (xVar 0))) (xOp addD (xOp addD (xC (.str "Photo(")) (xSp [("Photo", m_Photo_repr)] reprD (frz (xVar 1)))) (xC (.str ")"))))))
    (sRet (xC (.bl false)))
    sNil)
    (sSeq (sFor (mEnumA (aCons (frz (xVar 1)) aNil)) (gT [(gN 2), (gN 3)])
    (sFor (mEnumA (aCons (frz (xVar 3)) aNil)) (gT [(gN 4), (gN 5)])
    (sIf (bOr (toB (xOp neD (xMeth "Photo" "at" m_Photo_at (fun ds _ => ds) 3 (nK []) (frz (xVar 0)) (aCons (frz (xVar 4)) (aCons (frz (xVar 2)) aNil)) aNil) (xRd 5))) (toB (xOp neD (xMeth "Photo" "at" m_Photo_at g_Photo_at_1_y_x 1 (nK ["y", "x"]) (frz (xVar 0)) aNil (aCons (frz (xVar 2)) (aCons (frz (xVar 4)) aNil))) (xRd 5))))
    (sRet (xC (.bl false)))
    sNil)))
    (sRet (xC (.bl true))))))
theorem fn_law_told_right (T : Tx G w) (F : Df G.K "_law_told_right" "_law_told_right" s_law_told_right f fd) (SM : Sm base)
    (K_len_Photo : SpF P w G base false 1 "__len__" [("Photo", m_Photo_len)])
    (K_repr_Photo : SpF P w G base true 1 "__repr__" [("Photo", m_Photo_repr)])
    (K_str_Photo : SpF P w G base false 1 "__str__" [("Photo", m_Photo_str)])
    (K_Photo_at_1_y_x : MeT P w G base false "Photo" "at" 1 1 ["y", "x"] g_Photo_at_1_y_x m_Photo_at)
    (K_Photo_at : MeT P w G base false "Photo" "at" 1 3 [] (fun ds _ => ds) m_Photo_at) :
    FnT P w G base true 4 f fd ["_law_photo", "_law_due"] m_law_told_right := by
  refine Df.okT (N := ["_law_photo", "_law_due", "_law_down", "_law_row", "_law_across", "_law_sign_here"]) F sc_law_told_right (fun cdv A outer s H E hga hr => ?_)
  exact (ss_cons (s_if (PW.pt (xw_or (xt_cmp (k_ne rfl (hu64 hr)) d_ne (x_bor (x_fldF T.kc rfl (tr 0))) (tr 1) (nomark _)) (xw_or (xt_cmp (k_ne rfl (hu64 hr)) d_ne (x_bor (x_lenO rfl rfl K_len_Photo nog (hr.mono (by decide)) (by rfl) T.b_len bt_len (x_frz (tv 0)))) (x_las (x_bor (x_b1 (k_len rfl) d_len (by rfl) T.b_len bt_len (tr 1)))) (nomark _)) (xw_or1 (xt_not (xt_val (x_bn (k_isi rfl) d_isi (by rfl) T.b_isinstance bt_isinstance (xa_cons (x_frz (x_fldF T.kc rfl (tr 0))) (xa_cons (x_ty (by rfl) T.b_tuple bt_tuple) xa_nil))))))))) (ss_one (s_ret tc_bl)) ss_nil)
      (ss_cons (s_if (PW.pt (xw_or (xt_cmp (k_ne rfl (hu64 hr)) d_ne (x_bor (x_strO rfl rfl K_str_Photo nog (hr.mono (by decide)) (by rfl) T.b_str bt_str (x_frz (tv 0)))) (x_las (x_bor (x_m1 PySem.F.slot_str_join PySem.F.type_str_join (k_join rfl) d_join (x_bor tc_str) (x_frz (x_lc (own := [("_law_row", 3)]) (vs := [3]) rfl (by decide) rfl sc_law_told_right.nd (xi_any rfl (x_frz (tv 1))) (blkOk_by (N := ["_law_photo", "_law_due", "_law_down", "_law_row", "_law_across", "_law_sign_here"]) (sc := defScope s_law_told_right) (by decide +kernel)) (tw_name (by decide)) (fun _ _ _ _ _ => (pg_name (i := 3) sc_law_told_right.nd rfl (by first | exact Or.inl rfl | exact Or.inr rfl))) (fun _ _ _ _ _ => xts_nil) (fun _ _ _ _ _ => (x_frz (x_m1 PySem.F.slot_str_join PySem.F.type_str_join (k_join rfl) d_join (x_bor tc_str) (x_frz (tv 3)))))))))) (nomark _)) (xw_or1 (xt_cmp (k_ne rfl (hu64 hr)) d_ne (x_bor (x_reprO rfl rfl K_repr_Photo (hga rfl) (hr.mono (by decide)) SM (by rfl) T.b_repr bt_repr (x_frz (tv 0)))) (x_las (x_bor (x_op (op_addA rfl) d_add (x_bor (x_op (op_addA rfl) d_add (x_bor tc_str) (x_las (x_bor (x_reprO rfl rfl K_repr_Photo (hga rfl) (hr.mono (by decide)) SM (by rfl) T.b_repr bt_repr (x_frz (tv 1))))))) (x_las (x_bor tc_str))))) (nomark _))))) (ss_one (s_ret tc_bl)) ss_nil)
      (ss_cons (s_for (passes_of rfl) rfl (xi_enumA rfl (by rfl) T.b_enumerate (xa_cons (x_frz (tv 1)) xa_nil)) (pg_tupK (K := G.K) rfl rfl (pgs_cons (pg_name (i := 2) sc_law_told_right.nd rfl (by first | exact Or.inl rfl | exact Or.inr rfl)) (pgs_cons (pg_name (i := 3) sc_law_told_right.nd rfl (by first | exact Or.inl rfl | exact Or.inr rfl)) pgs_nil))) (tg_tupK rfl (tgs_cons tg_name (tgs_cons tg_name tgs_nil)))
      (ss_one (s_for (passes_of rfl) rfl (xi_enumA rfl (by rfl) T.b_enumerate (xa_cons (x_frz (tv 3)) xa_nil)) (pg_tupK (K := G.K) rfl rfl (pgs_cons (pg_name (i := 4) sc_law_told_right.nd rfl (by first | exact Or.inl rfl | exact Or.inr rfl)) (pgs_cons (pg_name (i := 5) sc_law_told_right.nd rfl (by first | exact Or.inl rfl | exact Or.inr rfl)) pgs_nil))) (tg_tupK rfl (tgs_cons tg_name (tgs_cons tg_name tgs_nil)))
      (ss_one (s_if (PW.pt (xw_or (xt_cmp (k_ne rfl (hu64 hr)) d_ne (x_bor (x_meth rfl rfl K_Photo_at nog (hr.mono (by decide)) (fun σ => passAt (takes_of rfl rfl rfl rfl) σ) (x_frz (tv 0)) (xa_cons (x_frz (tv 4)) (xa_cons (x_frz (tv 2)) xa_nil)) xk_nil)) (tr 5) (nomark _)) (xw_or1 (xt_cmp (k_ne rfl (hu64 hr)) d_ne (x_bor (x_methK rfl rfl K_Photo_at_1_y_x nog (hr.mono (by decide)) (fun σ => passAt (takes_of rfl rfl rfl rfl) σ) (x_frz (tv 0)) (xk_cons (x_frz (tv 2)) (xk_cons (x_frz (tv 4)) xk_nil)))) (tr 5) (nomark _))))) (ss_one (s_ret tc_bl)) ss_nil)))))
      (ss_one (s_ret tc_bl)))))

def g_Photo_init_1_rows : List D → List D → List D := fun ds es => pick [(2, 0)] ds [] es
noncomputable def m_law : MF := fnM 12
    (sSeq (sAsgC 1 (xCall m_law_well (fun ds _ => ds) 1 (nK []) (aCons (frz (xVar 0)) aNil) aNil))
    (sSeq (sFor (mRng1 (aCons (frz (xC (.int 3))) aNil)) (gN 2)
    (sSeq (sAsg 3 (xCall m_law_any_rows (fun ds _ => ds) 1 (nK []) (aCons (frz (xVar 1)) aNil) aNil))
    (sSeq (sPar 6 7 (oCons (xCall m_Photo_init (fun ds _ => ds) 1 (nK []) (aCons (frz (xVar 3)) aNil) aNil) (oCons (xCall m_Photo_init g_Photo_init_1_rows 0 (nK ["rows"]) aNil (aCons (frz (xUn tupleD (xLc [11] (mSeq (frz (xVar 3))) (gN 11) (ret true) (frz (xUn tupleD (xUn listD (xRd 11))))))) aNil)) oNil)))
    (sSeq (sIf (bOr (bNot (toB (xCall m_law_told_right (fun ds _ => ds) 2 (nK []) (aCons (frz (xVar 6)) (aCons (frz (xVar 3)) aNil)) aNil))) (bNot (toB (xCall m_law_told_right (fun ds _ => ds) 2 (nK []) (aCons (frz (xVar 7)) (aCons (frz (xVar 3)) aNil)) aNil))))
    (sRet (xC (.bl false)))
    sNil)
    (sSeq (sIf (bOr (bNot (toB (xEqO [("Photo", (m_Photo_eq, p_Photo_eq))] false (frz (xVar 6)) (frz (xVar 7))))) (bOr (toB (xEqO [("Photo", (m_Photo_eq, p_Photo_eq))] true (frz (xVar 6)) (frz (xVar 7)))) (bOr (toB (xInO [("Photo", (m_Photo_eq, p_Photo_eq))] true (frz (xVar 6)) (frz (xLst (aCons (frz (xC .non)) (aCons (frz (xVar 7)) aNil)))))) (toB (xInO [("Photo", (m_Photo_eq, p_Photo_eq))] true (frz (xVar 7)) (frz (xTup (aCons (frz (xVar 6)) (aCons (frz (xC (.int 3))) aNil)))))))))
    (sRet (xC (.bl false)))
    sNil)
    (sSeq (sFor (mRng1 (aCons (frz (xC (.int 4))) aNil)) (gN 4)
    (sSeq (sAsg 8 (xCall m_law_other_rows (fun ds _ => ds) 2 (nK []) (aCons (frz (xVar 1)) (aCons (frz (xVar 3)) aNil)) aNil))
    (sSeq (sAsg 9 (xCall m_Photo_init (fun ds _ => ds) 1 (nK []) (aCons (frz (xVar 8)) aNil) aNil))
    (sSeq (sAsg 10 (xOp eqD (xBor 8) (xRd 3)))
    (sIf (toB (xOp neD (xLst (aCons (frz (xEqO [("Photo", (m_Photo_eq, p_Photo_eq))] false (frz (xVar 6)) (frz (xVar 9)))) (aCons (frz (xEqO [("Photo", (m_Photo_eq, p_Photo_eq))] false (frz (xVar 9)) (frz (xVar 6)))) (aCons (frz (xEqO [("Photo", (m_Photo_eq, p_Photo_eq))] true (frz (xVar 6)) (frz (xVar 9)))) (aCons (frz (xEqO [("Photo", (m_Photo_eq, p_Photo_eq))] true (frz (xVar 9)) (frz (xVar 6)))) aNil))))) (xLst (aCons (frz (xVar 10)) (aCons (frz (xVar 10)) (aCons (frz (xNotV (xVar 10))) (aCons (frz (xNotV (xVar 10))) aNil)))))))
    (sRet (xC (.bl false)))
    sNil)))))
    (sFor (mSeq (frz (xLst (aCons (frz (xVar 3)) (aCons (frz (xSp [("Photo", m_Photo_str)] strD (frz (xVar 6)))) (aCons (frz (xC .non)) (aCons (frz (xSn [("Photo", m_Photo_len)] lenD (frz (xVar 6)))) (aCons (frz (xLst (aCons (frz (xVar 6)) aNil))) (aCons (frz (xTup (aCons (frz (xVar 6)) aNil))) (aCons (frz (xSp [("Photo", m_Photo_repr)] reprD (frz (xVar 6)))) (aCons (frz (xUn listD (xRd 3))) (aCons (frz (xC (.bl true))) aNil)))))))))))) (gN 5)
    (sIf (bOr (toB (xEqO [("Photo", (m_Photo_eq, p_Photo_eq))] false (frz (xVar 6)) (frz (xVar 5)))) (bOr (bNot (toB (xEqO [("Photo", (m_Photo_eq, p_Photo_eq))] true (frz (xVar 6)) (frz (xVar 5))))) (bOr (toB (xEqO [("Photo", (m_Photo_eq, p_Photo_eq))] false (frz (xVar 5)) (frz (xVar 6)))) (toB (xInO [("Photo", (m_Photo_eq, p_Photo_eq))] false (frz (xVar 6)) (frz (xLst (aCons (frz (xVar 5)) aNil))))))))
    (sRet (xC (.bl false)))
    sNil))))))))
    (sRet (xC (.bl true)))))
theorem fn_law (T : Tx G w) (F : Df G.K "law" "law" s_law f fd) (SM : Sm base)
    (K_law_well : KnT P w G base false "_law_well" 1 1 [] (fun ds _ => ds) m_law_well)
    (K_law_any_rows : KnT P w G base false "_law_any_rows" 5 1 [] (fun ds _ => ds) m_law_any_rows)
    (K_Photo_init_1_rows : MkT P w G base "Photo" 4 0 ["rows"] g_Photo_init_1_rows m_Photo_init)
    (K_Photo_init : MkT P w G base "Photo" 4 1 [] (fun ds _ => ds) m_Photo_init)
    (K_law_told_right : KnT P w G base true "_law_told_right" 4 2 [] (fun ds _ => ds) m_law_told_right)
    (K_eq_Photo : EqTab P w G base false 1 [("Photo", (m_Photo_eq, p_Photo_eq))])
    (K_law_other_rows : KnT P w G base false "_law_other_rows" 5 2 [] (fun ds _ => ds) m_law_other_rows)
    (K_repr_Photo : SpF P w G base true 1 "__repr__" [("Photo", m_Photo_repr)])
    (K_len_Photo : SpF P w G base false 1 "__len__" [("Photo", m_Photo_len)])
    (K_str_Photo : SpF P w G base false 1 "__str__" [("Photo", m_Photo_str)]) :
    FnT P w G base true 6 f fd ["_law_script"] m_law := by
  refine Df.okT (N := ["_law_script", "_law_well_here", "_law_turn", "_law_due", "_law_k", "_law_thing", "_law_photo", "_law_again", "_law_more", "_law_other", "_law_like", "_law_row"]) F sc_law (fun cdv A outer s H E hga hr => ?_)
  exact (ss_cons (s_asgC (i := 1) sc_law.nd rfl (by first | exact Or.inl rfl | exact Or.inr rfl) (x_call rfl rfl K_law_well nog (hr.mono (by decide)) (by rfl) (fun σ => passAt (takes_of rfl rfl rfl rfl) σ) (xa_cons (x_frz (tv 0)) xa_nil) xk_nil))
      (ss_cons (s_for (passes_of rfl) rfl (xi_range1 (by rfl) T.b_range (xa_cons (x_frz tc_int) xa_nil)) (pg_name (i := 2) sc_law.nd rfl (by first | exact Or.inl rfl | exact Or.inr rfl)) tg_name
      (ss_cons (s_asg (i := 3) sc_law.nd rfl (by first | exact Or.inl rfl | exact Or.inr rfl) (x_call rfl rfl K_law_any_rows nog (hr.mono (by decide)) (by rfl) (fun σ => passAt (takes_of rfl rfl rfl rfl) σ) (xa_cons (x_frz (tv 1)) xa_nil) xk_nil))
      (ss_cons (s_par (ps_par (i := 6) (j := 7) (by rfl) sc_law.nd rfl rfl (by decide) rfl rfl (xo_cons (x_make rfl rfl K_Photo_init (hr.mono (by decide)) (by rfl) (fun σ => passAt (takes_of rfl rfl rfl rfl) σ) (xa_cons (x_frz (tv 3)) xa_nil) xk_nil) (xo_cons (x_makeK0 rfl rfl K_Photo_init_1_rows (hr.mono (by decide)) (by rfl) (fun σ => passAt (takes_of rfl rfl rfl rfl) σ) (xk_cons (x_frz (x_t1 (call_tupK rfl) d_tuple (by rfl) T.b_tuple bt_tuple (x_las (x_bor (x_lc (own := [("_law_row", 11)]) (vs := [11]) rfl (by decide) rfl sc_law.nd (xi_any rfl (x_frz (tv 3))) (blkOk_by (N := ["_law_script", "_law_well_here", "_law_turn", "_law_due", "_law_k", "_law_thing", "_law_photo", "_law_again", "_law_more", "_law_other", "_law_like", "_law_row"]) (sc := defScope s_law) (by decide +kernel)) (tw_name (by decide)) (fun _ _ _ _ _ => (pg_name (i := 11) sc_law.nd rfl (by first | exact Or.inl rfl | exact Or.inr rfl))) (fun _ _ _ _ _ => xts_nil) (fun _ _ _ _ _ => (x_frz (x_t1 (call_tupK rfl) d_tuple (by rfl) T.b_tuple bt_tuple (x_las (x_bor (x_t1 (call_lstK rfl) d_list (by rfl) T.b_list bt_list (tr 11)))))))))))) xk_nil)) xo_nil)) (by rfl)))
      (ss_cons (s_if (PW.pt (xw_or (xt_not (xt_val (x_call rfl rfl K_law_told_right hga (hr.mono (by decide)) (by rfl) (fun σ => passAt (takes_of rfl rfl rfl rfl) σ) (xa_cons (x_frz (tv 6)) (xa_cons (x_frz (tv 3)) xa_nil)) xk_nil))) (xw_or1 (xt_not (xt_val (x_call rfl rfl K_law_told_right hga (hr.mono (by decide)) (by rfl) (fun σ => passAt (takes_of rfl rfl rfl rfl) σ) (xa_cons (x_frz (tv 7)) (xa_cons (x_frz (tv 3)) xa_nil)) xk_nil)))))) (ss_one (s_ret tc_bl)) ss_nil)
      (ss_cons (s_if (PW.pt (xw_or (xt_not (xt_eqO false rfl rfl K_eq_Photo nog (hr.mono (by decide)) (x_frz (tv 6)) (x_frz (tv 7)) rfl)) (xw_or (xt_eqO true rfl rfl K_eq_Photo nog (hr.mono (by decide)) (x_frz (tv 6)) (x_frz (tv 7)) rfl) (xw_or (xt_inO true rfl rfl K_eq_Photo nog (hr.mono (by decide)) (x_frz (tv 6)) (x_frz (x_lst (xa_cons (x_frz tc_non) (xa_cons (x_frz (tv 7)) xa_nil)))) (by with_unfolding_all rfl)) (xw_or1 (xt_inO true rfl rfl K_eq_Photo nog (hr.mono (by decide)) (x_frz (tv 7)) (x_frz (x_tup (xa_cons (x_frz (tv 6)) (xa_cons (x_frz tc_int) xa_nil)))) (by with_unfolding_all rfl))))))) (ss_one (s_ret tc_bl)) ss_nil)
      (ss_cons (s_for (passes_of rfl) rfl (xi_range1 (by rfl) T.b_range (xa_cons (x_frz tc_int) xa_nil)) (pg_name (i := 4) sc_law.nd rfl (by first | exact Or.inl rfl | exact Or.inr rfl)) tg_name
      (ss_cons (s_asg (i := 8) sc_law.nd rfl (by first | exact Or.inl rfl | exact Or.inr rfl) (x_call rfl rfl K_law_other_rows nog (hr.mono (by decide)) (by rfl) (fun σ => passAt (takes_of rfl rfl rfl rfl) σ) (xa_cons (x_frz (tv 1)) (xa_cons (x_frz (tv 3)) xa_nil)) xk_nil))
      (ss_cons (s_asg (i := 9) sc_law.nd rfl (by first | exact Or.inl rfl | exact Or.inr rfl) (x_make rfl rfl K_Photo_init (hr.mono (by decide)) (by rfl) (fun σ => passAt (takes_of rfl rfl rfl rfl) σ) (xa_cons (x_frz (tv 8)) xa_nil) xk_nil))
      (ss_cons (s_asg (i := 10) sc_law.nd rfl (by first | exact Or.inl rfl | exact Or.inr rfl) (x_cmp (k_eq rfl (hu64 hr)) d_eq (tb 8) (tr 3) (nomark _)))
      (ss_one (s_if (xt_cmp (k_ne rfl (hu64 hr)) d_ne (x_bor (x_lst (xa_cons (x_frz (x_eqO false rfl rfl K_eq_Photo nog (hr.mono (by decide)) (x_frz (tv 6)) (x_frz (tv 9)) rfl)) (xa_cons (x_frz (x_eqO false rfl rfl K_eq_Photo nog (hr.mono (by decide)) (x_frz (tv 9)) (x_frz (tv 6)) rfl)) (xa_cons (x_frz (x_eqO true rfl rfl K_eq_Photo nog (hr.mono (by decide)) (x_frz (tv 6)) (x_frz (tv 9)) rfl)) (xa_cons (x_frz (x_eqO true rfl rfl K_eq_Photo nog (hr.mono (by decide)) (x_frz (tv 9)) (x_frz (tv 6)) rfl)) xa_nil)))))) (x_las (x_bor (x_lst (xa_cons (x_frz (tv 10)) (xa_cons (x_frz (tv 10)) (xa_cons (x_frz (x_not (tv 10))) (xa_cons (x_frz (x_not (tv 10))) xa_nil))))))) (nomark _)) (ss_one (s_ret tc_bl)) ss_nil))))))
      (ss_one (s_for (passes_of rfl) rfl (xi_any rfl (x_frz (x_lst (xa_cons (x_frz (tv 3)) (xa_cons (x_frz (x_strO rfl rfl K_str_Photo nog (hr.mono (by decide)) (by rfl) T.b_str bt_str (x_frz (tv 6)))) (xa_cons (x_frz tc_non) (xa_cons (x_frz (x_lenO rfl rfl K_len_Photo nog (hr.mono (by decide)) (by rfl) T.b_len bt_len (x_frz (tv 6)))) (xa_cons (x_frz (x_lst (xa_cons (x_frz (tv 6)) xa_nil))) (xa_cons (x_frz (x_tup (xa_cons (x_frz (tv 6)) xa_nil))) (xa_cons (x_frz (x_reprO rfl rfl K_repr_Photo (hga rfl) (hr.mono (by decide)) SM (by rfl) T.b_repr bt_repr (x_frz (tv 6)))) (xa_cons (x_frz (x_t1 (call_lstK rfl) d_list (by rfl) T.b_list bt_list (tr 3))) (xa_cons (x_frz tc_bl) xa_nil)))))))))))) (pg_name (i := 5) sc_law.nd rfl (by first | exact Or.inl rfl | exact Or.inr rfl)) tg_name
      (ss_one (s_if (PW.pt (xw_or (xt_eqO false rfl rfl K_eq_Photo nog (hr.mono (by decide)) (x_frz (tv 6)) (x_frz (tv 5)) rfl) (xw_or (xt_not (xt_eqO true rfl rfl K_eq_Photo nog (hr.mono (by decide)) (x_frz (tv 6)) (x_frz (tv 5)) rfl)) (xw_or (xt_eqO false rfl rfl K_eq_Photo nog (hr.mono (by decide)) (x_frz (tv 5)) (x_frz (tv 6)) rfl) (xw_or1 (xt_inO false rfl rfl K_eq_Photo nog (hr.mono (by decide)) (x_frz (tv 6)) (x_frz (x_lst (xa_cons (x_frz (tv 5)) xa_nil))) (by with_unfolding_all rfl))))))) (ss_one (s_ret tc_bl)) ss_nil))))))))))
      (ss_one (s_ret tc_bl))))

end
end F33
namespace F33
open PySem L2 L2.Pc L2.Tr
-- a step through the tree functions
local macro_rules | `(tactic| walk_at "stp") => `(tactic| simp only [st_ret, st_bnd, st_ofs, st_frz, st_fzd, st_var, st_bor, st_mov, st_rd, st_qv, st_c, st_op, st_un, st_tob, st_band, st_bor2, st_bnot, st_if, st_andV, st_orV, st_notV, st_anil, st_acons, st_onil, st_ocons, st_tup, st_lst, st_cn, st_m1, st_m0, st_opq, st_sl, st_chain, st_mseq, st_rg1, st_rg2, st_snil, st_seq, st_sexpr, st_sret, st_sif, st_asg, st_asgK, st_asgT, st_asgTK, st_asgC, st_asgCK, st_putL, st_putLK, st_putAt, st_getP, st_putP, st_app, st_appK, st_ext, st_extK, st_for, st_for0, st_for1, st_gN, st_gT, st_gs0, st_gs1, st_par, st_parK, st_par3, st_parK3, st_call, st_runF, st_fld, st_fldF, st_sfld, st_fldK, st_meth, st_sp, st_eqO, st_inO, st_js0, st_js1, st_jsK, st_lc, st_lcK, st_lcB, st_lc0, st_lc1, st_lcT, st_lcY, st_mpart, getS_0, setS_0, getS_1, setS_1, getS_2, setS_2, getS_3, setS_3, getS_4, setS_4, getS_5, setS_5, getS_6, setS_6, getS_7, setS_7, getS_8, setS_8, getS_9, setS_9, getS_10, setS_10, getS_11, setS_11, getS_12, setS_12, getS_13, setS_13, getS_14, setS_14, st_fnM, st_env0, st_seqn, st_seqr, st_seqb, st_seqc, st_forn, st_forc, st_forb, st_forr, st_parti, st_opqK, st_bok, st_bex, st_isf, st_isl, st_isi, st_tdf, st_tdl, st_tdi, st_tdn, st_tdc, st_asb, st_celf, st_cell, st_fzO, st_isS, st_sqt, st_squ, st_silst, st_silsk, st_situp, st_situk, st_addi, st_adds, st_addl, st_addt, st_subi, st_lti, st_lei, st_gti, st_gei, st_divi, st_modi, st_muli, st_negi, st_ixl, st_ixk, st_ixt, st_ixu, st_at0, st_at1, st_at2, st_at3, st_at4, st_ixn0, st_ixn1, st_ixn2, st_absi, st_inti, st_intb, st_lenl, st_lenk, st_lent, st_lenu, st_lens, st_ixs, st_stri, st_strs, st_is, st_isnt, st_nonn, st_noni, st_nons, st_zf2, st_eqi, st_eqs, st_nei, st_nes, st_nenn, st_neni, st_nein, st_fmts, st_mull, st_fr0, st_fr1, st_wp0, st_wp1, st_bk0, st_bk1, st_nok, st_rng1, st_joi, st_dtup, st_dlst, st_raise, st_raise1, st_raise2, st_raise3, st_try, st_tryok, st_tryex, st_tryt, st_tryf, st_suite, st_suiok, st_chk0, st_chk1, st_nxo, st_nxl, st_nxs, st_nxb, st_nxi, st_nxn, st_nxt, st_nxL, st_nxa0, st_nxa1, st_nxf, st_nxr, st_try1, st_try1ok, st_try1ex, st_try1t, st_try1f, st_xf, st_xfo, st_mzip, st_menum, st_mrev, st_zipl, st_zipt, st_pair0, st_pair1, st_enuml, st_num0, st_num1, st_revl, st_revt, st_fnI, st_nk0, st_nk1, st_nk2, st_nk3, st_nk4, st_nk5, st_nk6, st_nk7, st_nk8, List.map_cons, List.map_nil, List.cons_append, List.nil_append, List.length_cons, List.length_nil, List.replicate, Nat.reduceSub, Nat.reduceAdd, Nat.reduceLeDiff, List.set_cons_zero, List.set_cons_succ, Nat.zero_add, if_true, if_false, ite_true, ite_false, Option.map_some, Option.bind_some, Option.map_none, Option.bind_none, decide_true, decide_false, decide_eq_true_eq, decide_eq_false_iff_not, Bool.not_true, Bool.not_false, and_self, true_and, and_true, Bool.false_eq_true, Bool.and_self, Bool.and_true, Bool.true_and, *])

local macro_rules | `(tactic| walk_at "dch") => `(tactic| first | assumption | (simp only [Int.reduceLT, Int.reduceLE, Nat.reduceLT, Nat.reduceLeDiff, and_self]; done) | omega | (simp only [strLen_append, c_ltlen, List.length_append, List.length_map, List.length_cons, List.length_nil, Nat.reduceAdd, String.reduceLength, String.length] <;> omega) | decide)
local macro_rules | `(tactic| walk_at "stq") => `(tactic| simp (config := {maxSteps := 4000000}) (disch := walk_at "dch") only [st_ret, st_bnd, st_ofs, st_frz, st_fzd, st_var, st_bor, st_mov, st_rd, st_qv, st_c, st_op, st_un, st_tob, st_band, st_bor2, st_bnot, st_if, st_andV, st_orV, st_notV, st_anil, st_acons, st_onil, st_ocons, st_tup, st_lst, st_cn, st_m1, st_m0, st_opq, st_sl, st_chain, st_mseq, st_rg1, st_rg2, st_snil, st_seq, st_sexpr, st_sret, st_sif, st_asg, st_asgK, st_asgT, st_asgTK, st_asgC, st_asgCK, st_putL, st_putLK, st_putAt, st_getP, st_putP, st_app, st_appK, st_ext, st_extK, st_for, st_for0, st_for1, st_gN, st_gT, st_gs0, st_gs1, st_par, st_parK, st_par3, st_parK3, st_call, st_runF, st_fld, st_fldF, st_sfld, st_fldK, st_meth, st_sp, st_eqO, st_inO, st_js0, st_js1, st_jsK, st_lc, st_lcK, st_lcB, st_lc0, st_lc1, st_lcT, st_lcY, st_mpart, getS_0, setS_0, getS_1, setS_1, getS_2, setS_2, getS_3, setS_3, getS_4, setS_4, getS_5, setS_5, getS_6, setS_6, getS_7, setS_7, getS_8, setS_8, getS_9, setS_9, getS_10, setS_10, getS_11, setS_11, getS_12, setS_12, getS_13, setS_13, getS_14, setS_14, st_fnM, st_env0, st_seqn, st_seqr, st_seqb, st_seqc, st_forn, st_forc, st_forb, st_forr, st_parti, st_opqK, st_bok, st_bex, st_isf, st_isl, st_isi, st_tdf, st_tdl, st_tdi, st_tdn, st_tdc, st_asb, st_celf, st_cell, st_fzO, st_isS, st_sqt, st_squ, st_silst, st_silsk, st_situp, st_situk, st_addi, st_adds, st_addl, st_addt, st_subi, st_lti, st_lei, st_gti, st_gei, st_modi, st_muli, st_negi, st_ixl, st_ixk, st_ixt, st_ixu, st_at0, st_at1, st_at2, st_at3, st_at4, st_ixn0, st_ixn1, st_ixn2, st_absi, st_inti, st_intb, st_lenl, st_lenk, st_lent, st_lenu, st_lens, st_ixs, st_stri, st_strs, st_is, st_isnt, st_nonn, st_noni, st_nons, st_zf2, st_eqi, st_eqs, st_nei, st_nes, st_nenn, st_neni, st_nein, st_fmts, st_mull, st_fr0, st_fr1, st_wp0, st_wp1, st_bk0, st_bk1, st_nok, st_rng1, st_joi, st_dtup, st_dlst, st_raise, st_raise1, st_raise2, st_raise3, st_try, st_tryok, st_tryex, st_tryt, st_tryf, st_suite, st_suiok, st_chk0, st_chk1, st_nxo, st_nxl, st_nxs, st_nxb, st_nxi, st_nxn, st_nxt, st_nxL, st_nxa0, st_nxa1, st_nxf, st_nxr, st_try1, st_try1ok, st_try1ex, st_try1t, st_try1f, st_xf, st_xfo, st_mzip, st_menum, st_mrev, st_zipl, st_zipt, st_pair0, st_pair1, st_enuml, st_num0, st_num1, st_revl, st_revt, st_fnI, st_nk0, st_nk1, st_nk2, st_nk3, st_nk4, st_nk5, st_nk6, st_nk7, st_nk8, c_if, c_ifn, c_dt, c_df, c_fld, c_fldi, c_lk0, c_lk1, c_pu0, c_pu1, c_pu2, c_chK, c_chT, c_chF, c_div, c_str, c_rs1, c_rs2, c_rs3, c_rs4, c_rs5, c_rs6, c_rs7, c_rs8, c_runI, c_strO, c_al0, c_al1, c_g0, c_s0, c_at5, List.map_cons, List.map_nil, List.cons_append, List.nil_append, List.length_cons, List.length_nil, List.replicate, Nat.reduceSub, Nat.reduceAdd, Nat.reduceLeDiff, Nat.reduceLT, Int.reduceAdd, Int.reduceMul, Int.reduceSub, Int.reduceLT, Int.reduceLE, Int.reduceEq, List.set_cons_zero, List.set_cons_succ, Nat.zero_add, if_true, if_false, ite_true, ite_false, Option.map_some, Option.bind_some, Option.map_none, Option.bind_none, decide_true, decide_false, decide_eq_true_eq, decide_eq_false_iff_not, Bool.not_true, Bool.not_false, and_self, true_and, and_true, and_false, false_and, Bool.false_eq_true, reduceCtorEq, Bool.and_self, Bool.and_true, Bool.true_and, Bool.and_false, Bool.false_and, Bool.not_eq_true, Bool.true_eq_false, *])
local macro_rules | `(tactic| walk_at "sqn") => `(tactic| simp (config := {maxSteps := 4000000}) (disch := walk_at "dch") only [st_ret, st_bnd, st_ofs, st_frz, st_fzd, st_var, st_bor, st_mov, st_rd, st_qv, st_c, st_op, st_un, st_tob, st_band, st_bor2, st_bnot, st_if, st_andV, st_orV, st_notV, st_anil, st_acons, st_onil, st_ocons, st_tup, st_lst, st_cn, st_m1, st_m0, st_opq, st_sl, st_chain, st_mseq, st_rg1, st_rg2, st_snil, st_seq, st_sexpr, st_sret, st_sif, st_asg, st_asgK, st_asgT, st_asgTK, st_asgC, st_asgCK, st_putL, st_putLK, st_putAt, st_getP, st_putP, st_app, st_appK, st_ext, st_extK, st_for, st_gN, st_gT, st_gs0, st_gs1, st_par, st_parK, st_par3, st_parK3, st_call, st_runF, st_fld, st_fldF, st_sfld, st_fldK, st_meth, st_sp, st_eqO, st_inO, st_js0, st_js1, st_jsK, st_lc, st_lcK, st_lcB, st_lcT, st_lcY, st_mpart, getS_0, setS_0, getS_1, setS_1, getS_2, setS_2, getS_3, setS_3, getS_4, setS_4, getS_5, setS_5, getS_6, setS_6, getS_7, setS_7, getS_8, setS_8, getS_9, setS_9, getS_10, setS_10, getS_11, setS_11, getS_12, setS_12, getS_13, setS_13, getS_14, setS_14, st_fnM, st_env0, st_seqn, st_seqr, st_seqb, st_seqc, st_forn, st_forc, st_forb, st_forr, st_parti, st_opqK, st_bok, st_bex, st_isf, st_isl, st_isi, st_tdf, st_tdl, st_tdi, st_tdn, st_tdc, st_asb, st_celf, st_cell, st_fzO, st_isS, st_sqt, st_squ, st_silst, st_silsk, st_situp, st_situk, st_addi, st_adds, st_addl, st_addt, st_subi, st_lti, st_lei, st_gti, st_gei, st_modi, st_muli, st_negi, st_ixl, st_ixk, st_ixt, st_ixu, st_at0, st_at1, st_at2, st_at3, st_at4, st_ixn0, st_ixn1, st_ixn2, st_absi, st_inti, st_intb, st_lenl, st_lenk, st_lent, st_lenu, st_lens, st_ixs, st_stri, st_strs, st_is, st_isnt, st_nonn, st_noni, st_nons, st_zf2, st_eqi, st_eqs, st_nei, st_nes, st_nenn, st_neni, st_nein, st_fmts, st_mull, st_fr0, st_fr1, st_wp0, st_wp1, st_bk0, st_bk1, st_nok, st_rng1, st_joi, st_dtup, st_dlst, st_raise, st_raise1, st_raise2, st_raise3, st_try, st_tryok, st_tryex, st_tryt, st_tryf, st_suite, st_suiok, st_chk0, st_chk1, st_nxo, st_nxl, st_nxs, st_nxb, st_nxi, st_nxn, st_nxt, st_nxL, st_nxa0, st_nxa1, st_nxf, st_nxr, st_try1, st_try1ok, st_try1ex, st_try1t, st_try1f, st_xf, st_xfo, st_mzip, st_menum, st_mrev, st_zipl, st_zipt, st_pair0, st_pair1, st_enuml, st_num0, st_num1, st_revl, st_revt, st_fnI, st_nk0, st_nk1, st_nk2, st_nk3, st_nk4, st_nk5, st_nk6, st_nk7, st_nk8, c_if, c_ifn, c_dt, c_df, c_fld, c_fldi, c_lk0, c_lk1, c_pu0, c_pu1, c_pu2, c_chK, c_chT, c_chF, c_div, c_str, c_rs1, c_rs2, c_rs3, c_rs4, c_rs5, c_rs6, c_rs7, c_rs8, c_runI, c_strO, c_al0, c_al1, c_g0, c_s0, c_at5, List.map_cons, List.map_nil, List.cons_append, List.nil_append, List.length_cons, List.length_nil, List.replicate, Nat.reduceSub, Nat.reduceAdd, Nat.reduceLeDiff, Nat.reduceLT, Int.reduceAdd, Int.reduceMul, Int.reduceSub, Int.reduceLT, Int.reduceLE, Int.reduceEq, List.set_cons_zero, List.set_cons_succ, Nat.zero_add, if_true, if_false, ite_true, ite_false, Option.map_some, Option.bind_some, Option.map_none, Option.bind_none, decide_true, decide_false, decide_eq_true_eq, decide_eq_false_iff_not, Bool.not_true, Bool.not_false, and_self, true_and, and_true, and_false, false_and, Bool.false_eq_true, reduceCtorEq, Bool.and_self, Bool.and_true, Bool.true_and, Bool.and_false, Bool.false_and, Bool.not_eq_true, Bool.true_eq_false, *])
local macro_rules | `(tactic| walk_at "spn") => `(tactic| simp (config := {maxSteps := 4000000}) (disch := first | assumption | (simp only [Int.reduceLT, Int.reduceLE, Nat.reduceLT, Nat.reduceLeDiff, and_self]; done) | decide) only [st_ret, st_bnd, st_ofs, st_frz, st_fzd, st_var, st_bor, st_mov, st_rd, st_qv, st_c, st_op, st_un, st_tob, st_band, st_bor2, st_bnot, st_if, st_andV, st_orV, st_notV, st_anil, st_acons, st_onil, st_ocons, st_tup, st_lst, st_cn, st_m1, st_m0, st_opq, st_sl, st_chain, st_mseq, st_rg1, st_rg2, st_snil, st_seq, st_sexpr, st_sret, st_sif, st_asg, st_asgK, st_asgT, st_asgTK, st_asgC, st_asgCK, st_putL, st_putLK, st_putAt, st_getP, st_putP, st_app, st_appK, st_ext, st_extK, st_for, st_gN, st_gT, st_gs0, st_gs1, st_par, st_parK, st_par3, st_parK3, st_call, st_runF, st_fld, st_fldF, st_sfld, st_fldK, st_meth, st_sp, st_eqO, st_inO, st_js0, st_js1, st_jsK, st_lc, st_lcK, st_lcB, st_lcT, st_lcY, st_mpart, getS_0, setS_0, getS_1, setS_1, getS_2, setS_2, getS_3, setS_3, getS_4, setS_4, getS_5, setS_5, getS_6, setS_6, getS_7, setS_7, getS_8, setS_8, getS_9, setS_9, getS_10, setS_10, getS_11, setS_11, getS_12, setS_12, getS_13, setS_13, getS_14, setS_14, st_fnM, st_env0, st_seqn, st_seqr, st_seqb, st_seqc, st_forn, st_forc, st_forb, st_forr, st_parti, st_opqK, st_bok, st_bex, st_isf, st_isl, st_isi, st_tdf, st_tdl, st_tdi, st_tdn, st_tdc, st_asb, st_celf, st_cell, st_fzO, st_isS, st_sqt, st_squ, st_silst, st_silsk, st_situp, st_situk, st_addi, st_adds, st_addl, st_addt, st_subi, st_lti, st_lei, st_gti, st_gei, st_modi, st_muli, st_negi, st_ixl, st_ixk, st_ixt, st_ixu, st_at0, st_at1, st_at2, st_at3, st_at4, st_ixn0, st_ixn1, st_ixn2, st_absi, st_inti, st_intb, st_lenl, st_lenk, st_lent, st_lenu, st_lens, st_ixs, st_stri, st_strs, st_is, st_isnt, st_nonn, st_noni, st_nons, st_zf2, st_eqi, st_eqs, st_nei, st_nes, st_nenn, st_neni, st_nein, st_fmts, st_mull, st_fr0, st_fr1, st_wp0, st_wp1, st_bk0, st_bk1, st_nok, st_rng1, st_joi, st_dtup, st_dlst, st_raise, st_raise1, st_raise2, st_raise3, st_try, st_tryok, st_tryex, st_tryt, st_tryf, st_suite, st_suiok, st_chk0, st_chk1, st_nxo, st_nxl, st_nxs, st_nxb, st_nxi, st_nxn, st_nxt, st_nxL, st_nxa0, st_nxa1, st_nxf, st_nxr, st_try1, st_try1ok, st_try1ex, st_try1t, st_try1f, st_xf, st_xfo, st_mzip, st_menum, st_mrev, st_zipl, st_zipt, st_pair0, st_pair1, st_enuml, st_num0, st_num1, st_revl, st_revt, st_fnI, st_nk0, st_nk1, st_nk2, st_nk3, st_nk4, st_nk5, st_nk6, st_nk7, st_nk8, c_fld, c_fldi, c_lk0, c_lk1, c_pu0, c_pu1, c_pu2, c_chK, c_chT, c_chF, c_div, c_str, c_rs1, c_rs2, c_rs3, c_rs4, c_rs5, c_rs6, c_rs7, c_rs8, c_runI, c_strO, c_al0, c_al1, c_g0, c_s0, c_at5, List.map_cons, List.map_nil, List.cons_append, List.nil_append, List.length_cons, List.length_nil, List.replicate, Nat.reduceSub, Nat.reduceAdd, Nat.reduceLeDiff, Nat.reduceLT, Int.reduceAdd, Int.reduceMul, Int.reduceSub, Int.reduceLT, Int.reduceLE, Int.reduceEq, List.set_cons_zero, List.set_cons_succ, Nat.zero_add, if_true, if_false, ite_true, ite_false, Option.map_some, Option.bind_some, Option.map_none, Option.bind_none, decide_true, decide_false, decide_eq_true_eq, decide_eq_false_iff_not, Bool.not_true, Bool.not_false, and_self, true_and, and_true, and_false, false_and, Bool.false_eq_true, reduceCtorEq, Bool.and_self, Bool.and_true, Bool.true_and, Bool.and_false, Bool.false_and, Bool.not_eq_true, Bool.true_eq_false, *])
def wellO (o : O) (s t : Int) : O := .dco [(.str "own", o), (.str "seed", .fz (.int s)), (.str "turn", .fz (.int t))]
def OwnOk (o : O) : Prop := o = .fz (.lst []) ∨ ∃ xs : List Int, o = .lst (xs.map .int) ∧ xs.length ≤ 63 ∧ ∀ x ∈ xs, 0 ≤ x
def WellAt (mu : List O) (k n : Nat) : Prop := ∃ o s t, getM mu k = some (wellO o s t) ∧ OwnOk o ∧ 0 ≤ s ∧ s < 2305843009213693952 ∧ 0 ≤ t ∧ t ≤ n
theorem WellAt.mono {mu : List O} {k n m : Nat} (h : WellAt mu k n) (e : n ≤ m) : WellAt mu k m := by
  obtain ⟨o, s, t, q1, q2, q3, q4, q5, q6⟩ := h
  exact ⟨o, s, t, q1, q2, q3, q4, q5, by omega⟩
theorem getM_setM {o' : O} : ∀ {mu : List O} {k : Nat} {o : O}, getM mu k = some o → getM (setM mu k o') k = some o'
  | [], k, o, h => by cases k <;> cases h
  | x :: mu, 0, o, h => rfl
  | x :: mu, k + 1, o, h => getM_setM (mu := mu) (k := k) h
theorem setM_setM {o o' : O} (mu : List O) (k : Nat) : setM (setM mu k o) k o' = setM mu k o' := by
  induction mu generalizing k with
  | nil => rfl
  | cons x mu ih => cases k with
    | zero => rfl
    | succ k => show x :: setM (setM mu k o) k o' = x :: setM mu k o'; rw [ih]
theorem getM_app : ∀ (mu : List O) (o : O), getM (mu ++ [o]) mu.length = some o
  | [], o => rfl
  | x :: mu, o => getM_app mu o
theorem wh_f {mt : M Bool} {mb : M Fl} {n : Nat} {s s1 : S} (h : mt s = .ok false s1) : whileL mt mb (n + 1) s = .ok .nx s1 := by
  show (mt s).bind _ = _
  rw [h]; rfl
theorem wh_t {mt : M Bool} {mb : M Fl} {n : Nat} {s s1 s2 : S} (h : mt s = .ok true s1) (h2 : mb s1 = .ok .nx s2) : whileL mt mb (n + 1) s = whileL mt mb n s2 := by
  show (mt s).bind _ = _
  rw [h]
  show (mb s1).bind _ = _
  rw [h2]; rfl
section
variable {rest : List (Option O)} {mu : List O} {k : Nat} {o : O} {s t : Int} {xs : List D} {d : D}
theorem dg_own (h : getM mu k = some (wellO o s t)) : xDg 0 "own" ⟨some (.fz (.cel k)) :: rest, mu⟩ = .ok o ⟨some (.fz (.cel k)) :: rest, mu⟩ := by
  show (match getM mu k with
    | some (.dco os) => (match getK "own" os with
      | some o => R.ok o (⟨some (.fz (.cel k)) :: rest, mu⟩ : S)
      | none => .no)
    | _ => .no) = _
  rw [h]; rfl
theorem dgf_seed (h : getM mu k = some (wellO o s t)) : xDgF 0 "seed" ⟨some (.fz (.cel k)) :: rest, mu⟩ = .ok (.fz (.int s)) ⟨some (.fz (.cel k)) :: rest, mu⟩ := by
  show (match getM mu k with
    | some (.dco os) => (match getK "seed" os with
      | some (.fz d) => R.ok (O.fz d) (⟨some (.fz (.cel k)) :: rest, mu⟩ : S)
      | _ => .no)
    | _ => .no) = _
  rw [h]; rfl
theorem dgf_turn (h : getM mu k = some (wellO o s t)) : xDgF 0 "turn" ⟨some (.fz (.cel k)) :: rest, mu⟩ = .ok (.fz (.int t)) ⟨some (.fz (.cel k)) :: rest, mu⟩ := by
  show (match getM mu k with
    | some (.dco os) => (match getK "turn" os with
      | some (.fz d) => R.ok (O.fz d) (⟨some (.fz (.cel k)) :: rest, mu⟩ : S)
      | _ => .no)
    | _ => .no) = _
  rw [h]; rfl
theorem nil_own (h : getM mu k = some (wellO o s t)) (hx : o = .lst xs ∨ o = .fz (.lst xs)) : xNilD true 0 "own" ⟨some (.fz (.cel k)) :: rest, mu⟩ = .ok (.fz (.bl (!xs.isEmpty))) ⟨some (.fz (.cel k)) :: rest, mu⟩ := by
  show (match getM mu k with
    | some (.dco os) => (match getK "own" os with
      | some (.lst xs) => R.ok (O.fz (.bl (xs.isEmpty != true))) (⟨some (.fz (.cel k)) :: rest, mu⟩ : S)
      | some (.fz (.lst xs)) => R.ok (O.fz (.bl (xs.isEmpty != true))) (⟨some (.fz (.cel k)) :: rest, mu⟩ : S)
      | _ => .no)
    | _ => .no) = _
  rw [h]
  have e : (xs.isEmpty != true) = !xs.isEmpty := by cases xs <;> rfl
  rcases hx with rfl | rfl
  · show R.ok (O.fz (.bl (xs.isEmpty != true))) _ = _
    rw [e]
  · show R.ok (O.fz (.bl (xs.isEmpty != true))) _ = _
    rw [e]
theorem pop_own (h : getM mu k = some (wellO (.lst (d :: xs)) s t)) : xPopD 0 "own" 0 ⟨some (.fz (.cel k)) :: rest, mu⟩ = .ok (.fz d) ⟨some (.fz (.cel k)) :: rest, setM mu k (wellO (.lst xs) s t)⟩ := by
  show (match getM mu k with
    | some (.dco os) => (match getK "own" os with
      | some (.lst xs) => if -(2 ^ 63) ≤ (0 : Int) ∧ (0 : Int) < 2 ^ 63 then (match seqIndex? 0 xs.length with
        | some p => (match xs[p]? with
          | some y => R.ok (O.fz y) (⟨some (.fz (.cel k)) :: rest, setM mu k (.dco (setK "own" (.lst (xs.eraseIdx p)) os))⟩ : S)
          | none => .no)
        | none => .no) else .no
      | _ => .no)
    | _ => .no) = _
  rw [h]
  show (if -(2 ^ 63) ≤ (0 : Int) ∧ (0 : Int) < 2 ^ 63 then (match seqIndex? 0 (d :: xs).length with
        | some p => (match (d :: xs)[p]? with
          | some y => R.ok (O.fz y) (⟨some (.fz (.cel k)) :: rest, setM mu k (.dco (setK "own" (.lst ((d :: xs).eraseIdx p)) [(.str "own", .lst (d :: xs)), (.str "seed", .fz (.int s)), (.str "turn", .fz (.int t))]))⟩ : S)
          | none => .no)
        | none => .no) else .no) = _
  rw [if_pos ⟨by decide, by decide⟩]
  have e : seqIndex? 0 (d :: xs).length = some 0 := by unfold seqIndex?; simp
  rw [e]
  rfl
theorem put_own {md : M D} {d' : D} (hm : md ⟨some (.fz (.cel k)) :: rest, mu⟩ = .ok d' ⟨some (.fz (.cel k)) :: rest, mu⟩) (h : getM mu k = some (wellO (.lst (d :: xs)) s t)) :
    sPutLD 0 "own" 0 md ⟨some (.fz (.cel k)) :: rest, mu⟩ = .ok .nx ⟨some (.fz (.cel k)) :: rest, setM mu k (wellO (.lst (d' :: xs)) s t)⟩ := by
  unfold sPutLD
  rw [st_bnd, hm, st_bok]
  show (match getM mu k with
    | some (.dco os) => (match getK "own" os with
      | some (.lst xs) => (match ixN xs.length 0 with
        | some q => R.ok Fl.nx (⟨some (.fz (.cel k)) :: rest, setM mu k (.dco (setK "own" (.lst (xs.set q d')) os))⟩ : S)
        | none => .no)
      | _ => .no)
    | _ => .no) = _
  rw [h]
  show (match ixN (d :: xs).length 0 with
        | some q => R.ok Fl.nx (⟨some (.fz (.cel k)) :: rest, setM mu k (.dco (setK "own" (.lst ((d :: xs).set q d')) [(.str "own", .lst (d :: xs)), (.str "seed", .fz (.int s)), (.str "turn", .fz (.int t))]))⟩ : S)
        | none => .no) = _
  have e : ixN (d :: xs).length 0 = some 0 := by unfold ixN; simp
  rw [e]
  rfl
theorem put_turn {md : M D} {d' : D} (hm : md ⟨some (.fz (.cel k)) :: rest, mu⟩ = .ok d' ⟨some (.fz (.cel k)) :: rest, mu⟩) (h : getM mu k = some (wellO o s t)) :
    sPutW 0 "turn" md ⟨some (.fz (.cel k)) :: rest, mu⟩ = .ok .nx ⟨some (.fz (.cel k)) :: rest, setM mu k (.dco [(.str "own", o), (.str "seed", .fz (.int s)), (.str "turn", .fz d')])⟩ := by
  unfold sPutW
  rw [st_bnd, hm, st_bok]
  show (match getM mu k with
    | some (.dco os) => (match getK "turn" os with
      | some _ => if okW "turn" os = true ∧ os.length < 16777216 then R.ok Fl.nx (⟨some (.fz (.cel k)) :: rest, setM mu k (.dco (putW "turn" d' os))⟩ : S) else .no
      | none => .no)
    | _ => .no) = _
  rw [h]
  rfl
end
theorem trim {k : Nat} {m s t : Int} : ∀ (xs : List Int) (F : Nat) (mu : List O), xs.length < F → getM mu k = some (wellO (.lst (xs.map .int)) s t) → (∀ x ∈ xs, 0 ≤ x) →
    ∃ ys mu', whileL (bAnd (toB (xNilD true 0 "own")) (toB (xOp eqD (xOpQ ixD (xDg 0 "own") (fun _ => some (.int 0))) (xC (.int 0))))) (sExpr (xPopD 0 "own" 0)) F ⟨[some (.fz (.cel k)), some (.fz (.int m)), none, none, none], mu⟩ = .ok .nx ⟨[some (.fz (.cel k)), some (.fz (.int m)), none, none, none], mu'⟩ ∧
      getM mu' k = some (wellO (.lst (ys.map .int)) s t) ∧ ys.length ≤ xs.length ∧ (∀ y ∈ ys, 0 ≤ y) ∧ ∀ y r, ys = y :: r → y ≠ 0
  | [], F, mu, hF, h, hx => by
    obtain ⟨F, rfl⟩ : ∃ F', F = F' + 1 := ⟨F - 1, by omega⟩
    have n1 := fun rest => nil_own (rest := rest) h (.inl rfl)
    refine ⟨[], mu, wh_f ?_, h, Nat.le_refl _, hx, fun y r e => by cases e⟩
    clear h hx
    simp only [List.map_nil, List.isEmpty_nil, Bool.not_true] at n1
    walk_at "spn"
  | x :: xs, F, mu, hF, h, hx => by
    rw [List.length_cons] at hF
    obtain ⟨F, rfl⟩ : ∃ F', F = F' + 1 := ⟨F - 1, by omega⟩
    have n1 := fun rest => nil_own (rest := rest) h (.inl rfl)
    have n2 := fun rest => dg_own (rest := rest) h
    simp only [List.map_cons, List.isEmpty_cons, Bool.not_false] at n1 n2
    by_cases h0 : x = 0
    · subst h0
      have n3 := fun rest => pop_own (rest := rest) h
      obtain ⟨ys, mu', e, q1, q2, q3, q4⟩ := trim (m := m) xs F (setM mu k (wellO (.lst (xs.map .int)) s t)) (by omega) (getM_setM h) (fun y hy => hx y (List.mem_cons_of_mem _ hy))
      refine ⟨ys, mu', ?_, q1, by rw [List.length_cons]; omega, q3, q4⟩
      have c : (bAnd (toB (xNilD true 0 "own")) (toB (xOp eqD (xOpQ ixD (xDg 0 "own") (fun _ => some (.int 0))) (xC (.int 0))))) ⟨[some (.fz (.cel k)), some (.fz (.int m)), none, none, none], mu⟩ = .ok true ⟨[some (.fz (.cel k)), some (.fz (.int m)), none, none, none], mu⟩ := by
        clear h hx e q1 q2 q3 q4 n3
        walk_at "spn"
      have b : (sExpr (xPopD 0 "own" 0)) ⟨[some (.fz (.cel k)), some (.fz (.int m)), none, none, none], mu⟩ = .ok .nx ⟨[some (.fz (.cel k)), some (.fz (.int m)), none, none, none], setM mu k (wellO (.lst (xs.map .int)) s t)⟩ := by
        clear h hx e q1 q2 q3 q4 n1 n2 c
        walk_at "spn"
      rw [wh_t c b, e]
    · refine ⟨x :: xs, mu, wh_f ?_, h, Nat.le_refl _, hx, fun y r e => by cases e; exact h0⟩
      have hd := decide_eq_false h0
      clear h hx h0
      walk_at "spn"
theorem well_mix {t s m : Int} (hs0 : 0 ≤ s) (hs : s < 2305843009213693952) (ht0 : 0 ≤ t) (ht : t ≤ 1000000000) (hm : 0 < m) : ∃ x y r : Int, (s + 7919 * t * t) * 48271 % 2305843009213693907 = x ∧ x * (x % 999983 + 131 * t + 3) % 2305843009213693921 = y ∧ (y / 89 + y / 1000033) % m = r ∧ 0 ≤ r ∧ r < m ∧
    mulOkB 7919 t = true ∧ mulOkB (7919 * t) t = true ∧ mulOkB (s + 7919 * t * t) 48271 = true ∧ mulOkB 131 t = true ∧ mulOkB x (x % 999983 + 131 * t + 3) = true := by
  refine ⟨_, _, _, rfl, rfl, rfl, Int.emod_nonneg _ (by omega), Int.emod_lt_of_pos _ hm, mulL (by decide) (by decide), mulR (by omega) (by omega), mulR (by decide) (by decide), mulL (by decide) (by decide), mulL ?_ ?_⟩
  · have := Int.emod_nonneg ((s + 7919 * t * t) * 48271) (show (2305843009213693907 : Int) ≠ 0 by decide); omega
  · have := Int.emod_lt_of_pos ((s + 7919 * t * t) * 48271) (show (0 : Int) < 2305843009213693907 by decide); omega
theorem take_ok {mu : List O} {k n : Nat} {m : Int} (h : WellAt mu k n) (h1 : 1 ≤ m) (h2 : m < 1073741824) (hn : n ≤ 900000000) :
    ∃ r mu', m_law_take [.cel k, .int m] mu = .ok (.fz (.int r)) ⟨[], mu'⟩ ∧ 0 ≤ r ∧ r < m ∧ WellAt mu' k (n + 1) := by
  obtain ⟨o, s, t, g, ok, s0, s1, t0, t1⟩ := h
  have e0 : env0 5 [D.cel k, D.int m] = [some (.fz (.cel k)), some (.fz (.int m)), none, none, none] := rfl
  have hm : 0 < m := by omega
  have W : ∃ o' mu1, whileL (bAnd (toB (xNilD true 0 "own")) (toB (xOp eqD (xOpQ ixD (xDg 0 "own") (fun _ => some (.int 0))) (xC (.int 0))))) (sExpr (xPopD 0 "own" 0)) 1000 ⟨[some (.fz (.cel k)), some (.fz (.int m)), none, none, none], mu⟩ = .ok .nx ⟨[some (.fz (.cel k)), some (.fz (.int m)), none, none, none], mu1⟩ ∧ getM mu1 k = some (wellO o' s t) ∧
      ((o' = .fz (.lst []) ∨ o' = .lst []) ∨ ∃ (x : Int) (xs : List Int), o' = .lst (.int x :: xs.map .int) ∧ xs.length < 63 ∧ 0 ≤ x ∧ ∀ x ∈ xs, 0 ≤ x) := by
    rcases ok with rfl | ⟨xs, rfl, hl, hx⟩
    · refine ⟨_, mu, wh_f ?_, g, .inl (.inl rfl)⟩
      have n1 := fun rest => nil_own (rest := rest) g (.inr rfl)
      simp only [List.isEmpty_nil, Bool.not_true] at n1
      clear g
      walk_at "spn"
    · obtain ⟨ys, mu1, e, q1, q2, q3, q4⟩ := trim (m := m) xs 1000 mu (by omega) g hx
      refine ⟨_, mu1, e, q1, ?_⟩
      cases ys with
      | nil => exact .inl (.inr rfl)
      | cons y ys =>
        rw [List.length_cons] at q2
        exact .inr ⟨y, ys, rfl, by omega, q3 y List.mem_cons_self, fun x hx => q3 x (List.mem_cons_of_mem _ hx)⟩
  obtain ⟨o', mu1, eW, g1, ho⟩ := W
  clear g ok
  unfold m_law_take
  rw [st_fnM, e0, st_seq, eW, st_bok, st_seqn]
  clear eW e0
  rcases ho with ho | ⟨x, xs, rfl, hl, x0, hx⟩
  · have n1 := fun rest => nil_own (rest := rest) (xs := []) g1 (ho.symm)
    simp only [List.isEmpty_nil, Bool.not_true] at n1
    obtain ⟨x, y, r, hx, hy, hr, r0, r1, m1, m2, m3, m4, m5⟩ := well_mix (t := t + 1) s0 s1 (by omega) (by omega) hm
    have g2 : getM (setM mu1 k (wellO o' s (t + 1))) k = some (wellO o' s (t + 1)) := getM_setM g1
    refine ⟨r, setM mu1 k (wellO o' s (t + 1)), ?_, r0, r1, o', s, t + 1, g2, ?_, s0, s1, by omega, by omega⟩
    · have n2 := fun rest => dgf_turn (rest := rest) g1
      have n3 := fun rest => dgf_turn (rest := rest) g2
      have n4 := fun rest => dgf_seed (rest := rest) g2
      have p1 : (0 : Int) < 2305843009213693907 := by decide
      have p2 : (0 : Int) < 2305843009213693921 := by decide
      have p3 : (0 : Int) < 999983 := by decide
      have p4 : (0 : Int) < 89 ∧ (89 : Int) < 1073741824 := by decide
      have p5 : (0 : Int) < 1000033 ∧ (1000033 : Int) < 1073741824 := by decide
      have pt : sPutW 0 "turn" (frz (xOp addD (xDgF 0 "turn") (xC (.int 1)))) ⟨[some (.fz (.cel k)), some (.fz (.int m)), none, none, none], mu1⟩ = .ok .nx ⟨[some (.fz (.cel k)), some (.fz (.int m)), none, none, none], setM mu1 k (wellO o' s (t + 1))⟩ :=
        put_turn (rest := [some (.fz (.int m)), none, none, none]) (by clear n1 n3 n4; walk_at "spn") g1
      clear g1 g2 ho s0 s1 t0 t1 hn
      subst hr hy hx
      walk_at "spn"
    · rcases ho with rfl | rfl
      · exact .inl rfl
      · exact .inr ⟨[], rfl, by decide, fun _ h => nomatch h⟩
  · have n1 := fun rest => nil_own (rest := rest) g1 (.inl rfl)
    simp only [List.isEmpty_cons, Bool.not_false] at n1
    have n2 := fun rest => dg_own (rest := rest) g1
    refine ⟨x % m, setM mu1 k (wellO (.lst (.int (x / m) :: xs.map .int)) s t), ?_, Int.emod_nonneg _ (by omega), Int.emod_lt_of_pos _ hm, _, s, t, getM_setM g1, .inr ⟨x / m :: xs, rfl, by rw [List.length_cons]; omega, fun z hz => ?_⟩, s0, s1, t0, by omega⟩
    · have pt : sPutLD 0 "own" 0 (frz (xOp divD (xOpQ ixD (xDg 0 "own") (fun _ => some (.int 0))) (xRd 1))) ⟨[some (.fz (.cel k)), some (.fz (.int m)), none, none, some (.fz (.int (x % m)))], mu1⟩ = .ok .nx ⟨[some (.fz (.cel k)), some (.fz (.int m)), none, none, some (.fz (.int (x % m)))], setM mu1 k (wellO (.lst (.int (x / m) :: xs.map .int)) s t)⟩ :=
        put_own (rest := [some (.fz (.int m)), none, none, some (.fz (.int (x % m)))]) (by clear n1; have hm2 : 0 < m ∧ m < 1073741824 := ⟨hm, h2⟩; walk_at "spn") g1
      clear g1 s0 s1 t0 t1 hn hx hl
      walk_at "spn"
    · rcases List.mem_cons.mp hz with rfl | hz
      · exact Int.ediv_nonneg x0 (by omega)
      · exact hx z hz
theorem at_let {r : Int} (h0 : 0 ≤ r) (h1 : r < 26) : ∃ c, atI ("abcdefghijklmnopqrstuvwxyz" : Str).cps.toList r = some c ∧ c ∈ lettersT.cps.toList := by
  obtain ⟨m, rfl⟩ := Int.eq_ofNat_of_zero_le h0
  have hm : m < ("abcdefghijklmnopqrstuvwxyz" : Str).cps.toList.length := by
    have : ("abcdefghijklmnopqrstuvwxyz" : Str).cps.toList.length = 26 := by decide +kernel
    omega
  rw [atN, List.getElem?_eq_getElem hm]
  exact ⟨_, rfl, List.getElem_mem hm⟩
theorem of_lst {k n : Nat} {mu : List O} {ds : List D} (h : WellAt mu k n) (hl : 1 ≤ ds.length) (hl2 : ds.length ≤ 1000) (hn : n ≤ 900000000) :
    ∃ d mu', m_law_of [.cel k, .lst ds] mu = .ok (.fz d) ⟨[], mu'⟩ ∧ d ∈ ds ∧ WellAt mu' k (n + 1) := by
  obtain ⟨r, mu1, e1, r0, r1, p1⟩ := take_ok (m := (ds.length : Int)) h (by omega) (by omega) hn
  obtain ⟨j, rfl⟩ := Int.eq_ofNat_of_zero_le r0
  have hj : j < ds.length := by omega
  refine ⟨ds[j], mu1, ?_, List.getElem_mem hj, p1⟩
  have hix : ixD (.lst ds) (.int (j : Int)) = some (.fz ds[j]) := by
    rw [st_ixl, atN, List.getElem?_eq_getElem hj]; rfl
  generalize ds[j] = d at *
  clear h hl hl2 hn r0 r1 p1 hj
  unfold m_law_of
  walk_at "spn"
theorem of_let {k n : Nat} {mu : List O} (h : WellAt mu k n) (hn : n ≤ 900000000) :
    ∃ c mu', m_law_of [.cel k, .str "abcdefghijklmnopqrstuvwxyz"] mu = .ok (.fz (.str ⟨#[c]⟩)) ⟨[], mu'⟩ ∧ c ∈ lettersT.cps.toList ∧ WellAt mu' k (n + 1) := by
  obtain ⟨r, mu1, e1, r0, r1, p1⟩ := take_ok (m := 26) h (by decide) (by decide) hn
  obtain ⟨c, hc, hm⟩ := at_let r0 r1
  have n1 : (("abcdefghijklmnopqrstuvwxyz" : Str).length ≤ 16777216) := by decide
  have n2 : ((("abcdefghijklmnopqrstuvwxyz" : Str).length : Nat) : Int) = 26 := by decide
  have ll : lenD (.str "abcdefghijklmnopqrstuvwxyz") = some (.fz (.int 26)) := by
    show some (O.fz (D.int (("abcdefghijklmnopqrstuvwxyz" : Str).length : Nat))) = _
    rw [n2]
  refine ⟨c, mu1, ?_, hm, p1⟩
  clear h hn r0 r1 p1 hm n2
  unfold m_law_of
  walk_at "spn"
theorem lets_ok {k : Nat} {x1 x2 x3 : Option O} : ∀ (ds : List D) (mu : List O) (n : Nat), WellAt mu k n → n + ds.length ≤ 900000000 →
    ∃ (cs : List Nat) (mu' : List O), lcL [4] (gN 4) (Tr.ret true) (frz (xCall m_law_of (fun ds _ => ds) 2 (nK []) (aCons (frz (xVar 0)) (aCons (frz (xC (.str "abcdefghijklmnopqrstuvwxyz"))) aNil)) aNil)) ds
      ⟨[some (.fz (.cel k)), x1, x2, x3, none], mu⟩ = .ok (cs.map fun c => .str ⟨#[c]⟩) ⟨[some (.fz (.cel k)), x1, x2, x3, none], mu'⟩ ∧ cs.length = ds.length ∧ (∀ c ∈ cs, c ∈ lettersT.cps.toList) ∧ WellAt mu' k (n + ds.length)
  | [], mu, n, h, hn => ⟨[], mu, rfl, rfl, (fun _ h => nomatch h), h⟩
  | d :: ds, mu, n, h, hn => by
    rw [List.length_cons] at hn
    obtain ⟨c, mu1, e1, hm, p1⟩ := of_let h (by omega)
    obtain ⟨cs, mu2, e2, l2, m2, p2⟩ := lets_ok (x1 := x1) (x2 := x2) (x3 := x3) ds mu1 (n + 1) p1 (by omega)
    refine ⟨c :: cs, mu2, ?_, by rw [List.length_cons, List.length_cons, l2], fun z hz => ?_, by rw [List.length_cons]; rw [show n + (ds.length + 1) = n + 1 + ds.length by omega]; exact p2⟩
    · clear h p1 p2 m2 l2
      walk_at "stp"
    · rcases List.mem_cons.mp hz with rfl | hz
      · exact hm
      · exact m2 z hz
def NameU (s : Str) : Prop := 1 ≤ s.length ∧ s.length ≤ 8 ∧ ∀ c ∈ s.cps.toList, c ∈ lettersT.cps.toList
def NameOk (s : Str) : Prop := 1 ≤ s.length ∧ s.length ≤ 8 ∧ (∀ c ∈ s.cps.toList, c ∈ lettersT.cps.toList) ∧ s ∉ keptT
theorem strs_map {cs : List Nat} : strsD (cs.map fun c => D.str ⟨#[c]⟩) = some (cs.map fun c => (⟨#[c]⟩ : Str)) := by
  induction cs with
  | nil => rfl
  | cons c cs ih => rw [List.map_cons, strsD, ih]; rfl
theorem sum_one {cs : List Nat} : ((cs.map fun c => (⟨#[c]⟩ : Str)).map (·.length)).sum = cs.length := by
  induction cs with
  | nil => rfl
  | cons c cs ih => rw [List.map_cons, List.map_cons, List.sum_cons, ih, List.length_cons]; show 1 + cs.length = _; omega
theorem joinL_single : ∀ cs : List Nat, TL.joinL [] (cs.map fun c => [c]) = cs
  | [] => rfl
  | [c] => rfl
  | c :: d :: cs => by
    show [c] ++ ([] ++ TL.joinL [] ((d :: cs).map fun c => [c])) = c :: d :: cs
    rw [joinL_single (d :: cs)]; rfl
theorem join_single (cs : List Nat) : (Txt.join "" (cs.map fun c => (⟨#[c]⟩ : Str))).cps.toList = cs := by
  rw [TL.join_eq]
  have := TL.tl_join "" (cs.map fun c => (⟨#[c]⟩ : Str))
  rw [List.map_map] at this
  exact this.trans (joinL_single cs)
def wordsS : List Str := ["done", "idle", "gone", "off", "whole", "partly", "hidden", "end", "deeds", "photo", "order", "ring", "lot", "untold", "there", "past", "few"]
theorem words_ok : ∀ s ∈ wordsS, NameU s := by unfold NameU; decide +kernel
abbrev wordsD : List D := [.str "done", .str "idle", .str "gone", .str "off", .str "whole", .str "partly", .str "hidden", .str "end", .str "deeds", .str "photo", .str "order", .str "ring"]
abbrev wordsE : List D := [.str "lot", .str "untold", .str "there", .str "past", .str "few"]
theorem name_ok {mu : List O} {k n : Nat} (h : WellAt mu k n) (hn : n ≤ 800000000) :
    ∃ s mu', m_law_name [.cel k] mu = .ok (.fz (.str s)) ⟨[], mu'⟩ ∧ NameU s ∧ WellAt mu' k (n + 20) := by
  obtain ⟨r1, mu1, e1, a1, b1, p1⟩ := take_ok (m := 5) h (by decide) (by decide) (by omega)
  obtain ⟨r2, mu2, e2, a2, b2, p2⟩ := take_ok (m := 8) p1 (by decide) (by decide) (by omega)
  have z12 : (12 : Nat) ≤ 16777216 := by decide
  have z5 : (5 : Nat) ≤ 16777216 := by decide
  have e0 : env0 5 [D.cel k] = [some (.fz (.cel k)), none, none, none, none] := rfl
  have s0 : (sAsg 1 (xLst (aCons (frz (xC (.str "done"))) (aCons (frz (xC (.str "idle"))) (aCons (frz (xC (.str "gone"))) (aCons (frz (xC (.str "off"))) (aCons (frz (xC (.str "whole"))) (aCons (frz (xC (.str "partly"))) (aCons (frz (xC (.str "hidden"))) (aCons (frz (xC (.str "end"))) (aCons (frz (xC (.str "deeds"))) (aCons (frz (xC (.str "photo"))) (aCons (frz (xC (.str "order"))) (aCons (frz (xC (.str "ring"))) aNil)))))))))))))) ⟨[some (.fz (.cel k)), none, none, none, none], mu⟩ = .ok .nx ⟨[some (.fz (.cel k)), some (.lst wordsD), none, none, none], mu⟩ := rfl
  have s1 : (sAsg 1 (xOp addD (xBor 1) (xLst (aCons (frz (xC (.str "lot"))) (aCons (frz (xC (.str "untold"))) (aCons (frz (xC (.str "there"))) (aCons (frz (xC (.str "past"))) (aCons (frz (xC (.str "few"))) aNil)))))))) ⟨[some (.fz (.cel k)), some (.lst wordsD), none, none, none], mu⟩ = .ok .nx ⟨[some (.fz (.cel k)), some (.lst (wordsD ++ wordsE)), none, none, none], mu⟩ := rfl
  have s2 : (sPar 2 3 (oCons (xCall m_law_take (fun ds _ => ds) 2 (nK []) (aCons (frz (xVar 0)) (aCons (frz (xC (.int 5))) aNil)) aNil) (oCons (xOp addD (xC (.int 1)) (xCall m_law_take (fun ds _ => ds) 2 (nK []) (aCons (frz (xVar 0)) (aCons (frz (xC (.int 8))) aNil)) aNil)) oNil))) ⟨[some (.fz (.cel k)), some (.lst (wordsD ++ wordsE)), none, none, none], mu⟩ = .ok .nx ⟨[some (.fz (.cel k)), some (.lst (wordsD ++ wordsE)), some (.fz (.int r1)), some (.fz (.int (1 + r2))), none], mu2⟩ := by
    generalize wordsD ++ wordsE = WD
    clear h p1 p2 s0 s1
    walk_at "spn"
  unfold m_law_name
  rw [st_fnM, e0, st_seq, s0, st_bok, st_seqn, st_seq, s1, st_bok, st_seqn, st_seq, s2, st_bok, st_seqn]
  clear e0 s0 s1 s2 e1 e2 h
  by_cases hr : r1 = 0
  · obtain ⟨d, mu3, e3, hd, p3⟩ := of_lst (ds := wordsD ++ wordsE) p2 (by decide) (by decide) (by omega)
    have hw : (wordsD ++ wordsE : List D) = wordsS.map D.str := rfl
    rw [hw] at hd
    obtain ⟨s, hs, rfl⟩ := List.mem_map.mp hd
    refine ⟨s, mu3, ?_, words_ok s hs, p3.mono (by omega)⟩
    have hr' := decide_eq_true hr
    generalize wordsD ++ wordsE = WD at *
    clear hd hw hs hr p3 p2 p1 a1 b1 a2 b2
    walk_at "spn"
  · have hr' := decide_eq_false hr
    obtain ⟨q, hq, q0, q1⟩ : ∃ q : Int, (if r1 = 1 then (1 + r2) else 1 + (1 + r2) % 2) = q ∧ 1 ≤ q ∧ q ≤ 8 := by
      refine ⟨_, rfl, ?_, ?_⟩
      · split
        · omega
        · have := Int.emod_nonneg (1 + r2) (show (2 : Int) ≠ 0 by decide); omega
      · split
        · omega
        · have := Int.emod_lt_of_pos (1 + r2) (show (0 : Int) < 2 by decide); omega
    have hL : (rngL 0 q.toNat).length = q.toNat := by unfold rngL; rw [List.length_map, List.length_range]
    obtain ⟨cs, mu3, e3, l3, m3, p3⟩ := lets_ok (x1 := some (.lst (wordsD ++ wordsE))) (x2 := some (.fz (.int r1))) (x3 := some (.fz (.int (1 + r2)))) (rngL 0 q.toNat) mu2 (n + 1 + 1) p2 (by omega)
    have hj : joinD (.str "") [.lst (cs.map fun c => D.str ⟨#[c]⟩)] = some (.fz (.str (Txt.join "" (cs.map fun c => (⟨#[c]⟩ : Str))))) := st_joi strs_map (by
      rw [sum_one, List.length_map]; have : ("" : Str).length = 0 := rfl; rw [this]; omega)
    have hcs := join_single cs
    generalize Txt.join "" (cs.map fun c => (⟨#[c]⟩ : Str)) = own at hj hcs
    have hown : own.length = cs.length := by
      show own.cps.size = _
      rw [← hcs, Array.length_toList]
    refine ⟨own, mu3, ?_, ⟨by omega, by omega, fun c hc => m3 c (by rw [← hcs]; exact hc)⟩, p3.mono (by omega)⟩
    have hl : (rngL 0 q.toNat).length ≤ 16777216 := by omega
    have rg := st_rng1 (i := q) (by omega) (by omega)
    have p02 : (0 : Int) < 2 := by decide
    generalize rngL 0 q.toNat = RL at *
    generalize wordsD ++ wordsE = WD at *
    generalize (cs.map fun c => D.str ⟨#[c]⟩) = CS at *
    clear hcs hown p1 p2 p3 l3 m3 hL hr a1 b1 a2 b2 q0 q1
    by_cases h1 : r1 = 1
    · rw [if_pos h1] at hq
      have h1' := decide_eq_true h1
      clear h1
      subst hq
      walk_at "spn"
    · rw [if_neg h1] at hq
      have h1' := decide_eq_false h1
      clear h1
      subst hq
      walk_at "spn"
abbrev keptD : List D := [(.str "pin"), (.str "again"), (.str "move"), (.str "take"), (.str "tear"), (.str "at"), (.str "to"), (.str "until"), (.str "strips"), (.str "known")]
theorem in_no {s : Str} (h4 : s ∉ keptT) : inD (.str s) (.lst keptD) = some (.fz (.bl false)) := by
  have hm : s ∉ (["pin", "again", "move", "take", "tear", "at", "to", "until", "strips", "known"] : List Str) := h4
  simp only [List.mem_cons, List.not_mem_nil, or_false, not_or] at hm
  obtain ⟨a1, a2, a3, a4, a5, a6, a7, a8, a9, a10⟩ := hm
  simp [inD, inB, itemsD, flatD, eqF, Ne.symm a1, Ne.symm a2, Ne.symm a3, Ne.symm a4, Ne.symm a5, Ne.symm a6, Ne.symm a7, Ne.symm a8, Ne.symm a9, Ne.symm a10]
theorem in_yes {s : Str} (h4 : s ∈ keptT) : inD (.str s) (.lst keptD) = some (.fz (.bl true)) ∧ addD (.str s) (.str "q") = some (.fz (.str (s ++ "q"))) ∧ NameOk (s ++ "q") := by
  have hm : s ∈ (["pin", "again", "move", "take", "tear", "at", "to", "until", "strips", "known"] : List Str) := h4
  simp only [List.mem_cons, List.not_mem_nil, or_false] at hm
  unfold NameOk
  rcases hm with rfl | rfl | rfl | rfl | rfl | rfl | rfl | rfl | rfl | rfl <;> exact ⟨rfl, rfl, by decide +kernel⟩
def SignOk (s : Str) : Prop := s = "-" ∨ s = "?" ∨ NameOk s
theorem sign_ok {mu : List O} {k n : Nat} (h : WellAt mu k n) (hn : n ≤ 700000000) :
    ∃ s mu', m_law_sign [.cel k] mu = .ok (.fz (.str s)) ⟨[], mu'⟩ ∧ SignOk s ∧ WellAt mu' k (n + 30) := by
  obtain ⟨r1, mu1, e1, a1, b1, p1⟩ := take_ok (m := 4) h (by decide) (by decide) (by omega)
  obtain ⟨s, mu2, e2, hs, p2⟩ := name_ok p1 (by omega)
  have z10 : (10 : Nat) ≤ 16777216 := by decide
  have z2 : (2 : Nat) ≤ 16777216 := by decide
  have e0 : env0 4 [D.cel k] = [some (.fz (.cel k)), none, none, none] := rfl
  have s0 : (sPar 2 3 (oCons (xLst (aCons (frz (xC (.str "pin"))) (aCons (frz (xC (.str "again"))) (aCons (frz (xC (.str "move"))) (aCons (frz (xC (.str "take"))) (aCons (frz (xC (.str "tear"))) (aCons (frz (xC (.str "at"))) (aCons (frz (xC (.str "to"))) (aCons (frz (xC (.str "until"))) (aCons (frz (xC (.str "strips"))) (aCons (frz (xC (.str "known"))) aNil))))))))))) (oCons (xCall m_law_take (fun ds _ => ds) 2 (nK []) (aCons (frz (xVar 0)) (aCons (frz (xC (.int 4))) aNil)) aNil) oNil))) ⟨[some (.fz (.cel k)), none, none, none], mu⟩ = .ok .nx ⟨[some (.fz (.cel k)), none, some (.lst keptD), some (.fz (.int r1))], mu1⟩ := by
    clear h p1 p2 e2
    walk_at "spn"
  unfold m_law_sign
  rw [st_fnM, e0, st_seq, s0, st_bok, st_seqn]
  clear e0 s0 e1 h
  by_cases h0 : r1 < 2
  · have h0' := decide_eq_true h0
    have hr : r1 = 0 ∨ r1 = 1 := by omega
    rcases hr with rfl | rfl
    · refine ⟨"-", mu1, ?_, .inl rfl, p1.mono (by omega)⟩
      clear e2 p1 p2 hs h0
      walk_at "spn"
    · refine ⟨"?", mu1, ?_, .inr (.inl rfl), p1.mono (by omega)⟩
      clear e2 p1 p2 hs h0
      walk_at "spn"
  · have h0' := decide_eq_false h0
    by_cases hk : s ∈ keptT
    · obtain ⟨i1, i2, i3⟩ := in_yes hk
      refine ⟨s ++ "q", mu2, ?_, .inr (.inr i3), p2.mono (by omega)⟩
      clear p1 p2 hs h0 i3 hk
      walk_at "spn"
    · have i1 := in_no hk
      refine ⟨s, mu2, ?_, .inr (.inr ⟨hs.1, hs.2.1, hs.2.2, hk⟩), p2.mono (by omega)⟩
      clear p1 p2 hs h0 hk
      walk_at "spn"
theorem lc_img {α : Type} {vs : List Nat} {t : MT} {mt : M Bool} {me : M D} {env : List (Option O)} {mu : List O} (g f : α → D) : ∀ (l : List α),
    (∀ q ∈ l, ∃ e1 e2 e3, t (g q) ⟨env, mu⟩ = some ⟨e1, mu⟩ ∧ mt ⟨e1, mu⟩ = .ok true ⟨e2, mu⟩ ∧ me ⟨e2, mu⟩ = .ok (f q) ⟨e3, mu⟩ ∧ freeE e3 vs = true ∧ wipeE e3 vs = env) →
    lcL vs t mt me (l.map g) ⟨env, mu⟩ = .ok (l.map f) ⟨env, mu⟩
  | [], _ => rfl
  | q :: l, h => by
    obtain ⟨e1, e2, e3, h1, h2, h3, h4, h5⟩ := h q List.mem_cons_self
    have ih := lc_img g f l (fun d hd => h d (List.mem_cons_of_mem _ hd))
    rw [List.map_cons, st_lc1, h1]
    show ((mt ⟨e1, mu⟩).bind (lcT vs t mt me (l.map g))) = _
    rw [h2, st_bok, st_lcT, if_pos rfl, h3, st_bok, st_lcY, if_pos h4, h5, ih, st_bok]
    rfl
theorem far_loop {T : Int} (x0 x3 x4 : Option O) (hp : powD (.int 10) (.int 60) = some (.fz (.int T))) (h1 : mulOkB T T = true) (h2 : mulOkB (T * T) T = true) (h3 : mulOkB (T * T * T) T = true) (h4 : mulOkB (T * T * T * T) T = true) (h5 : mulOkB (T * T * T * T * T) T = true) (h6 : mulOkB (T * T * T * T * T * T) T = true) (mu : List O) :
    forL (gN 1) (sAsg 5 (xOp mulD (xBor 5) (xOp powD (xC (.int 10)) (xC (.int 60))))) [.int 0, .int 1, .int 2, .int 3, .int 4, .int 5] ⟨[x0, none, none, x3, x4, some (.fz (.int T))], mu⟩ = .ok .nx ⟨[x0, some (.fz (.int 5)), none, x3, x4, some (.fz (.int (T * T * T * T * T * T * T)))], mu⟩ := by
  walk_at "stp"
theorem seed_loop {x0 x1 x3 x5 : Option O} {mu : List O} : ∀ (ds : List D), (∀ d ∈ ds, ∃ i, d = .int i) → ∀ (x2 : Option O) (b : Int), 0 ≤ b → b < 2305843009213693952 →
    ∃ x2' b', forL (gN 2) (sAsg 4 (xOp modD (xOp addD (xOp addD (xOp addD (xOp mulD (xBor 4) (xC (.int 69069))) (xOp modD (xBor 2) (xC (.int 1000003)))) (xRd 2)) (xC (.int 5))) (xC (.int 2305843009213693951)))) ds ⟨[x0, x1, x2, x3, some (.fz (.int b)), x5], mu⟩ = .ok .nx ⟨[x0, x1, x2', x3, some (.fz (.int b')), x5], mu⟩ ∧ (0 ≤ b' ∧ b' < 2305843009213693952) ∧ (x2' = x2 ∨ ∃ d, x2' = some (.fz d))
  | [], _, x2, b, h0, h1 => ⟨x2, b, rfl, ⟨h0, h1⟩, .inl rfl⟩
  | d :: ds, hd, x2, b, h0, h1 => by
    obtain ⟨i, rfl⟩ := hd d List.mem_cons_self
    have m1 : mulOkB b 69069 = true := mulR (by decide) (by decide)
    have p1 : (0 : Int) < 2305843009213693951 := by decide
    have p2 : (0 : Int) < 1000003 := by decide
    generalize hv : (b * 69069 + i % 1000003 + i + 5) % 2305843009213693951 = v
    have v0 : 0 ≤ v := by rw [← hv]; exact Int.emod_nonneg _ (by decide)
    have v1 : v < 2305843009213693951 := by rw [← hv]; exact Int.emod_lt_of_pos _ (by decide)
    obtain ⟨x2', b', h2, h3, h4⟩ := seed_loop (x0 := x0) (x1 := x1) (x3 := x3) (x5 := x5) (mu := mu) ds (fun d h => hd d (List.mem_cons_of_mem _ h)) (some (.fz (.int i))) v v0 (by omega)
    refine ⟨x2', b', ?_, h3, by rcases h4 with h4 | h4; exact .inr ⟨_, h4⟩; exact .inr h4⟩
    rw [st_for1, st_gN]
    simp only [setS_2]
    have e : (sAsg 4 (xOp modD (xOp addD (xOp addD (xOp addD (xOp mulD (xBor 4) (xC (.int 69069))) (xOp modD (xBor 2) (xC (.int 1000003)))) (xRd 2)) (xC (.int 5))) (xC (.int 2305843009213693951)))) ⟨[x0, x1, some (.fz (.int i)), x3, some (.fz (.int b)), x5], mu⟩ = .ok .nx ⟨[x0, x1, some (.fz (.int i)), x3, some (.fz (.int v)), x5], mu⟩ := by
      subst hv
      clear h2 hd v0 v1 h0 h1
      walk_at "spn"
    rw [e, st_bok, st_forn, h2]
theorem ints_cut {ns : List Int} {lo hi : Option Int} : ∀ d ∈ cutD (ns.map D.int) lo hi, ∃ i, d = .int i := fun d h => by
  obtain ⟨i, _, e⟩ := List.mem_map.mp (cutD_mem d h)
  exact ⟨i, e.symm⟩
theorem cut_map {ns : List Int} {lo hi : Option Int} : ∃ ms : List Int, cutD (ns.map D.int) lo hi = ms.map D.int ∧ ms.length ≤ ns.length := by
  refine ⟨(ns.drop (HT.sIx (ns.map D.int).length 0 lo)).take (HT.sIx (ns.map D.int).length (ns.map D.int).length hi - HT.sIx (ns.map D.int).length 0 lo), ?_, ?_⟩
  · unfold cutD
    rw [← List.map_drop, ← List.map_take]
  · rw [List.length_take, List.length_drop]; omega
theorem well_ok {ns : List Int} (hn : ns.length ≤ 63) (mu : List O) : ∃ o b, m_law_well [.lsk (ns.map .int)] mu = .ok (wellO o b 0) ⟨[], mu⟩ ∧ OwnOk o ∧ 0 ≤ b ∧ b < 2305843009213693952 := by
  obtain ⟨T, pT, tT, h1, h2, h3, h4, h5, h6⟩ : ∃ T : Int, powD (.int 10) (.int 60) = some (.fz (.int T)) ∧ 0 < T ∧ mulOkB T T = true ∧ mulOkB (T * T) T = true ∧ mulOkB (T * T * T) T = true ∧ mulOkB (T * T * T * T) T = true ∧ mulOkB (T * T * T * T * T) T = true ∧ mulOkB (T * T * T * T * T * T) T = true :=
    ⟨10 ^ 60, by simp [powD, iiD], by decide +kernel, by decide +kernel, by decide +kernel, by decide +kernel, by decide +kernel, by decide +kernel, by decide +kernel⟩
  have F0 : 0 < T * T * T * T * T * T * T := Int.mul_pos (Int.mul_pos (Int.mul_pos (Int.mul_pos (Int.mul_pos (Int.mul_pos tT tT) tT) tT) tT) tT) tT
  have f1 := far_loop (some (.fz (.lsk (ns.map D.int)))) (some (.fz (.lst []))) (some (.fz (.int 4099))) pT h1 h2 h3 h4 h5 h6 mu
  obtain ⟨ms, hms, lms⟩ := cut_map (ns := ns) (lo := none) (hi := some 63)
  have sl : slD (.lsk (ns.map D.int)) none (some 63) = some (.lst (ms.map .int)) := by rw [← hms]; rfl
  obtain ⟨x2, b, f2, ⟨b0, b1⟩, hx2⟩ := seed_loop (x0 := some (.fz (.lsk (ns.map D.int)))) (x1 := some (.fz (.int 5))) (x3 := some (.fz (.lst []))) (x5 := some (.fz (.int (T * T * T * T * T * T * T)))) (mu := mu) (ms.map D.int) (fun d h => by obtain ⟨i, _, e⟩ := List.mem_map.mp h; exact ⟨i, e.symm⟩) none 4099 (by decide) (by decide)
  generalize T * T * T * T * T * T * T = F at *
  have e0 : env0 6 [D.lsk (ns.map D.int)] = [some (.fz (.lsk (ns.map D.int))), none, none, none, none, none] := rfl
  have z3 : (3 : Nat) ≤ 16777216 := by decide
  have z0 : (0 : Nat) ≤ 16777216 := by decide
  have s0 : (sAsgT (gT [(gN 3), (gN 4), (gN 5)]) (frz (xTup (aCons (frz (xLst aNil)) (aCons (frz (xC (.int 4099))) (aCons (frz (xOp powD (xC (.int 10)) (xC (.int 60)))) aNil)))))) ⟨[some (.fz (.lsk (ns.map D.int))), none, none, none, none, none], mu⟩ = .ok .nx ⟨[some (.fz (.lsk (ns.map D.int))), none, none, some (.fz (.lst [])), some (.fz (.int 4099)), some (.fz (.int T))], mu⟩ := by
    clear f1 f2 sl hms h1 h2 h3 h4 h5 h6
    walk_at "spn"
  have i1 : (mRng1 (aCons (frz (xC (.int 6))) aNil)) ⟨[some (.fz (.lsk (ns.map D.int))), none, none, some (.fz (.lst [])), some (.fz (.int 4099)), some (.fz (.int T))], mu⟩ = .ok [.int 0, .int 1, .int 2, .int 3, .int 4, .int 5] ⟨[some (.fz (.lsk (ns.map D.int))), none, none, some (.fz (.lst [])), some (.fz (.int 4099)), some (.fz (.int T))], mu⟩ := rfl
  have i2 : (mSeq (frz (xSl (xBor 0) (ret none) (mPart (xC (.int 63)))))) ⟨[some (.fz (.lsk (ns.map D.int))), some (.fz (.int 5)), none, some (.fz (.lst [])), some (.fz (.int 4099)), some (.fz (.int F))], mu⟩ = .ok (ms.map .int) ⟨[some (.fz (.lsk (ns.map D.int))), some (.fz (.int 5)), none, some (.fz (.lst [])), some (.fz (.int 4099)), some (.fz (.int F))], mu⟩ := by
    clear f1 f2 hms h1 h2 h3 h4 h5 h6 s0 i1
    generalize ns.map D.int = L at *
    generalize ms.map D.int = M at *
    walk_at "spn"
  have last : ∃ o x2', (sIf (bAnd (toB (xOp gtD (xUn lenD (xRd 0)) (xC (.int 0)))) (toB (xOp geD (xOpQ ixD (xRd 0) (fun _ => some (.int 0))) (xOp powD (xC (.int 10)) (xC (.int 18))))))
    (sAsg 3 (xLc [2] (mSeq (frz (xSl (xBor 0) (ret none) (mPart (xC (.int 63)))))) (gN 2) (ret true) (frz (xOp modD (xUn absD (xRd 2)) (xRd 5)))))
    sNil) ⟨[some (.fz (.lsk (ns.map D.int))), some (.fz (.int 5)), x2, some (.fz (.lst [])), some (.fz (.int b)), some (.fz (.int F))], mu⟩ = .ok .nx ⟨[some (.fz (.lsk (ns.map D.int))), some (.fz (.int 5)), x2', some o, some (.fz (.int b)), some (.fz (.int F))], mu⟩ ∧ OwnOk o := by
    have pw : powD (.int 10) (.int 18) = some (.fz (.int 1000000000000000000)) := by simp [powD, iiD]
    have ll : lenD (.lsk (ns.map D.int)) = some (.fz (.int ((ns.map D.int).length : Int))) := rfl
    rw [List.length_map] at ll
    clear f1 f2 hms h1 h2 h3 h4 h5 h6 s0 i1 i2 e0
    cases hns : ns with
    | nil =>
      subst hns
      refine ⟨_, x2, ?_, .inl rfl⟩
      have l0 : lenD (.lsk (([] : List Int).map D.int)) = some (.fz (.int 0)) := rfl
      have hd : decide ((0 : Int) < 0) = false := rfl
      have h00 : ((0 : Int) < 0) = False := eq_false (by decide)
      clear ll
      generalize (([] : List Int).map D.int) = L at *
      clear hn lms hx2
      walk_at "spn"
    | cons n0 nr =>
      have ix : ixD (.lsk (ns.map D.int)) (.int 0) = some (.fz (.int n0)) := by rw [hns, List.map_cons, st_ixk, st_at0]; rfl
      have hd : decide ((0 : Int) < ((ns.length : Nat) : Int)) = true := by rw [hns, List.length_cons]; exact decide_eq_true (by omega)
      rw [← hns]
      have lc := lc_img (vs := [2]) (t := gN 2) (mt := ret true) (me := (frz (xOp modD (xUn absD (xRd 2)) (xRd 5)))) (mu := mu) (env := [some (.fz (.lsk (ns.map D.int))), some (.fz (.int 5)), none, some (.fz (.lst [])), some (.fz (.int b)), some (.fz (.int F))])
        D.int (fun i => .int ((if i < 0 then -i else i) % F)) ms (fun i _ => ⟨_, _, [some (.fz (.lsk (ns.map D.int))), some (.fz (.int 5)), some (.fz (.int i)), some (.fz (.lst [])), some (.fz (.int b)), some (.fz (.int F))], rfl, rfl, by
          clear ix hd ll hx2 hns sl
          generalize ns.map D.int = L at *
          walk_at "spn", rfl, rfl⟩)
      have hm : (ms.map fun i => D.int ((if i < 0 then -i else i) % F)) = (ms.map fun i => (if i < 0 then -i else i) % F).map D.int := by rw [List.map_map]; rfl
      rw [hm] at lc
      have own : OwnOk (.lst ((ms.map fun i => (if i < 0 then -i else i) % F).map D.int)) := .inr ⟨_, rfl, by rw [List.length_map]; omega, fun x hx => by
        obtain ⟨i, _, rfl⟩ := List.mem_map.mp hx
        exact Int.emod_nonneg _ (by omega)⟩
      have lM : (ms.map D.int).length ≤ 16777216 := by rw [List.length_map]; omega
      by_cases hb : (1000000000000000000 : Int) ≤ n0
      · have hb' := decide_eq_true hb
        refine ⟨_, x2, ?_, own⟩
        clear own hm hns hb hn lms
        generalize (ms.map fun i => (if i < 0 then -i else i) % F).map D.int = R at *
        generalize ns.map D.int = L at *
        generalize ms.map D.int = M at *
        generalize (1000000000000000000 : Int) = TT at *
        rcases hx2 with rfl | ⟨y, rfl⟩
        · walk_at "spn"
        · walk_at "spn"
      · have hb' := decide_eq_false hb
        refine ⟨_, x2, ?_, .inl rfl⟩
        clear own hm hns hb hn lms lc
        generalize ns.map D.int = L at *
        generalize (1000000000000000000 : Int) = TT at *
        walk_at "spn"
  obtain ⟨o, x2', s3, ho⟩ := last
  refine ⟨o, b, ?_, ho, b0, b1⟩
  unfold m_law_well
  rw [st_fnM, e0, st_seq, s0, st_bok, st_seqn, st_seq, st_for, i1, st_bok, f1, st_bok, st_seqn, st_seq, st_for, i2, st_bok, f2, st_bok, st_seqn, st_seq, s3, st_bok, st_seqn]
  clear f1 f2 hms h1 h2 h3 h4 h5 h6 s0 i1 i2 s3 e0 sl
  rcases ho with rfl | ⟨xs, rfl, _⟩ <;> rfl
abbrev dRow (r : List Str) : D := .tup (r.map .str)
abbrev dRows (R : List (List Str)) : D := .tup (R.map dRow)
def RowOk (w : Nat) (r : List Str) : Prop := r.length = w ∧ ∀ s ∈ r, SignOk s
def RowsOk (R : List (List Str)) : Prop := (1 ≤ R.length ∧ R.length ≤ 9) ∧ ∃ w, (1 ≤ w ∧ w ≤ 9) ∧ ∀ r ∈ R, RowOk w r
theorem cut_take (ds : List D) (a : Nat) : cutD ds none (some (a : Int)) = ds.take a := by
  unfold cutD
  rw [HT.sIx_none, HT.sIx_nat, List.drop_zero, Nat.sub_zero]
  by_cases h : a ≤ ds.length
  · rw [Nat.min_eq_left h]
  · rw [Nat.min_eq_right (by omega), List.take_of_length_le (by omega), List.take_of_length_le (by omega)]
theorem cut_drop (ds : List D) (a : Nat) : cutD ds (some (a : Int)) none = ds.drop a := by
  unfold cutD
  rw [HT.sIx_none, HT.sIx_nat]
  by_cases h : a ≤ ds.length
  · rw [Nat.min_eq_left h, List.take_of_length_le (by rw [List.length_drop]; omega)]
  · rw [Nat.min_eq_right (by omega), List.drop_of_length_le (Nat.le_refl _), List.drop_of_length_le (by omega), List.take_nil]
theorem cut_one (ds : List D) (a : Nat) (h : a < ds.length) : cutD ds (some (a : Int)) (some ((a : Int) + 1)) = [ds[a]] := by
  have e : (a : Int) + 1 = ((a + 1 : Nat) : Int) := by omega
  unfold cutD
  rw [e, HT.sIx_nat, HT.sIx_nat, Nat.min_eq_left (by omega), Nat.min_eq_left (by omega), show a + 1 - a = 1 by omega, List.drop_eq_getElem_cons h]
  rfl
theorem signs_loop {k : Nat} {x1 x2 x3 x4 : Option O} : ∀ (ds : List D) (mu : List O) (n : Nat), WellAt mu k n → n + 30 * ds.length ≤ 600000000 →
    ∃ (ss : List Str) (mu' : List O), lcL [5] (gN 5) (Tr.ret true) (frz (xCall m_law_sign (fun ds _ => ds) 1 (nK []) (aCons (frz (xVar 0)) aNil) aNil)) ds
      ⟨[some (.fz (.cel k)), x1, x2, x3, x4, none], mu⟩ = .ok (ss.map .str) ⟨[some (.fz (.cel k)), x1, x2, x3, x4, none], mu'⟩ ∧ ss.length = ds.length ∧ (∀ s ∈ ss, SignOk s) ∧ WellAt mu' k (n + 30 * ds.length)
  | [], mu, n, h, hn => ⟨[], mu, rfl, rfl, (fun _ h => nomatch h), h⟩
  | d :: ds, mu, n, h, hn => by
    rw [List.length_cons] at hn
    obtain ⟨c, mu1, e1, hm, p1⟩ := sign_ok h (by omega)
    obtain ⟨cs, mu2, e2, l2, m2, p2⟩ := signs_loop (x1 := x1) (x2 := x2) (x3 := x3) (x4 := x4) ds mu1 (n + 30) p1 (by omega)
    refine ⟨c :: cs, mu2, ?_, by rw [List.length_cons, List.length_cons, l2], fun z hz => ?_, by rw [List.length_cons]; rw [show n + 30 * (ds.length + 1) = n + 30 + 30 * ds.length by omega]; exact p2⟩
    · clear h p1 p2 m2 l2 hm
      walk_at "stp"
    · rcases List.mem_cons.mp hz with rfl | hz
      · exact hm
      · exact m2 z hz
theorem lc_cons {vs : List Nat} {t : MT} {mt : M Bool} {me : M D} {env e1 e2 e3 : List (Option O)} {mu mu1 : List O} {d y : D} {ds ys : List D} {s' : S} (h1 : t d ⟨env, mu⟩ = some ⟨e1, mu⟩) (h2 : mt ⟨e1, mu⟩ = .ok true ⟨e2, mu⟩) (h3 : me ⟨e2, mu⟩ = .ok y ⟨e3, mu1⟩)
    (h4 : freeE e3 vs = true) (h5 : wipeE e3 vs = env) (h6 : lcL vs t mt me ds ⟨env, mu1⟩ = .ok ys s') : lcL vs t mt me (d :: ds) ⟨env, mu⟩ = .ok (y :: ys) s' := by
  rw [st_lc1, h1]
  show ((mt ⟨e1, mu⟩).bind (lcT vs t mt me ds)) = _
  rw [h2, st_bok, st_lcT, if_pos rfl, h3, st_bok, st_lcY, if_pos h4, h5, h6, st_bok]
  rfl
theorem rows_loop {k : Nat} {x1 : Option O} {w : Int} (hw0 : 0 ≤ w) (hw : w ≤ 9) : ∀ (ds : List D) (mu : List O) (n : Nat) (x3 : Option O), WellAt mu k n → n + 300 * ds.length ≤ 500000000 →
    ∃ (R : List (List Str)) (mu' : List O), lcL [4] (gN 4) (Tr.ret true) (frz (xUn tupleD (xLc [5] (mRng1 (aCons (frz (xVar 2)) aNil)) (gN 5) (ret true) (frz (xCall m_law_sign (fun ds _ => ds) 1 (nK []) (aCons (frz (xVar 0)) aNil) aNil))))) ds
      ⟨[some (.fz (.cel k)), x1, some (.fz (.int w)), x3, none, none], mu⟩ = .ok (R.map dRow) ⟨[some (.fz (.cel k)), x1, some (.fz (.int w)), x3, none, none], mu'⟩ ∧ R.length = ds.length ∧ (∀ r ∈ R, RowOk w.toNat r) ∧ WellAt mu' k (n + 300 * ds.length)
  | [], mu, n, x3, h, hn => ⟨[], mu, rfl, rfl, (fun _ h => nomatch h), h⟩
  | d :: ds, mu, n, x3, h, hn => by
    rw [List.length_cons] at hn
    have hL : (rngL 0 w.toNat).length = w.toNat := by unfold rngL; rw [List.length_map, List.length_range]
    obtain ⟨ss, mu1, e1, l1, m1, p1⟩ := signs_loop (x1 := x1) (x2 := some (.fz (.int w))) (x3 := x3) (x4 := some (.fz d)) (rngL 0 w.toNat) mu n h (by omega)
    obtain ⟨R, mu2, e2, l2, m2, p2⟩ := rows_loop (x1 := x1) hw0 hw ds mu1 (n + 300) x3 (p1.mono (by omega)) (by omega)
    refine ⟨ss :: R, mu2, ?_, by rw [List.length_cons, List.length_cons, l2], fun z hz => ?_, by rw [List.length_cons]; rw [show n + 300 * (ds.length + 1) = n + 300 + 300 * ds.length by omega]; exact p2⟩
    · have rg := st_rng1 (i := w) (by omega) (by omega)
      have hl : (rngL 0 w.toNat).length ≤ 16777216 := by omega
      have tq : tupleD (.lst (ss.map D.str)) = some (.fz (.tup (ss.map D.str))) := rfl
      have hr : dRow ss = .tup (ss.map D.str) := rfl
      rw [List.map_cons, hr]
      clear h p1 p2 m2 l2 m1 l1 hL hr
      generalize rngL 0 w.toNat = RL at *
      generalize ss.map D.str = SS at *
      have me : (frz (xUn tupleD (xLc [5] (mRng1 (aCons (frz (xVar 2)) aNil)) (gN 5) (ret true) (frz (xCall m_law_sign (fun ds _ => ds) 1 (nK []) (aCons (frz (xVar 0)) aNil) aNil))))) ⟨[some (.fz (.cel k)), x1, some (.fz (.int w)), x3, some (.fz d), none], mu⟩ = .ok (.tup SS) ⟨[some (.fz (.cel k)), x1, some (.fz (.int w)), x3, some (.fz d), none], mu1⟩ := by
        clear e2
        walk_at "spn"
      exact lc_cons rfl rfl me rfl rfl e2
    · rcases List.mem_cons.mp hz with rfl | hz
      · exact ⟨by rw [l1, hL], m1⟩
      · exact m2 z hz
theorem any_rows_ok {k n : Nat} {mu : List O} (h : WellAt mu k n) (hn : n ≤ 400000000) : ∃ R mu', m_law_any_rows [.cel k] mu = .ok (.fz (dRows R)) ⟨[], mu'⟩ ∧ RowsOk R ∧ WellAt mu' k (n + 3000) := by
  obtain ⟨d1, mu1, e1, h1, p1⟩ := of_lst (ds := [.int 1, .int 2, .int 3, .int 5, .int 9]) h (by decide) (by decide) (by omega)
  obtain ⟨d2, mu2, e2, h2, p2⟩ := of_lst (ds := [.int 1, .int 2, .int 3, .int 5, .int 9]) p1 (by decide) (by decide) (by omega)
  have io : ∀ d ∈ [D.int 1, .int 2, .int 3, .int 5, .int 9], ∃ w : Int, d = .int w ∧ 1 ≤ w ∧ w ≤ 9 := fun d hd => by
    simp only [List.mem_cons, List.not_mem_nil, or_false] at hd
    rcases hd with rfl | rfl | rfl | rfl | rfl
    · exact ⟨1, rfl, by decide, by decide⟩
    · exact ⟨2, rfl, by decide, by decide⟩
    · exact ⟨3, rfl, by decide, by decide⟩
    · exact ⟨5, rfl, by decide, by decide⟩
    · exact ⟨9, rfl, by decide, by decide⟩
  obtain ⟨w, rfl, w1, w9⟩ := io d1 h1
  obtain ⟨t, rfl, t1, t9⟩ := io d2 h2
  have hL : (rngL 0 t.toNat).length = t.toNat := by unfold rngL; rw [List.length_map, List.length_range]
  obtain ⟨R, mu3, e3, l3, m3, p3⟩ := rows_loop (x1 := some (.fz (.lst [.int 1, .int 2, .int 3, .int 5, .int 9]))) (by omega) w9 (rngL 0 t.toNat) mu2 (n + 1 + 1) (some (.fz (.int t))) p2 (by omega)
  refine ⟨R, mu3, ?_, ⟨⟨by omega, by omega⟩, w.toNat, ⟨by omega, by omega⟩, m3⟩, p3.mono (by omega)⟩
  have rg := st_rng1 (i := t) (by omega) (by omega)
  have hl : (rngL 0 t.toNat).length ≤ 16777216 := by omega
  have tq : tupleD (.lst (R.map dRow)) = some (.fz (.tup (R.map dRow))) := rfl
  have z5 : (5 : Nat) ≤ 16777216 := by decide
  have z2 : (2 : Nat) ≤ 16777216 := by decide
  clear h p1 p2 p3 m3 l3 hL h1 h2 io
  show m_law_any_rows [.cel k] mu = .ok (.fz (.tup (R.map dRow))) ⟨[], mu3⟩
  generalize rngL 0 t.toNat = RL at *
  generalize R.map dRow = RR at *
  unfold m_law_any_rows
  walk_at "spn"
theorem cut_takeI (ds : List D) {i : Int} (h : 0 ≤ i) : cutD ds none (some i) = ds.take i.toNat := by
  obtain ⟨a, rfl⟩ := Int.eq_ofNat_of_zero_le h
  exact cut_take ds a
theorem cut_dropI (ds : List D) {i : Int} (h : 0 ≤ i) : cutD ds (some (i + 1)) none = ds.drop (i.toNat + 1) := by
  obtain ⟨a, rfl⟩ := Int.eq_ofNat_of_zero_le h
  have e : (a : Int) + 1 = ((a + 1 : Nat) : Int) := by omega
  rw [e]
  exact cut_drop ds (a + 1)
theorem cut_oneI (ds : List D) {i : Int} (h : 0 ≤ i) (h2 : i.toNat < ds.length) : cutD ds (some i) (some (i + 1)) = (ds.drop i.toNat).take 1 := by
  obtain ⟨a, rfl⟩ := Int.eq_ofNat_of_zero_le h
  have h2 : a < ds.length := h2
  rw [cut_one ds a h2]
  show _ = (ds.drop a).take 1
  rw [List.drop_eq_getElem_cons h2]
  rfl
theorem ix_tup {ds : List D} {i : Int} (h : 0 ≤ i) (h2 : i.toNat < ds.length) : ixD (.tup ds) (.int i) = some (.fz ds[i.toNat]) := by
  obtain ⟨a, rfl⟩ := Int.eq_ofNat_of_zero_le h
  have h2' : a < ds.length := h2
  rw [st_ixt, atN, List.getElem?_eq_getElem h2']; rfl
theorem mem_td {α : Type} {l : List α} {a : Nat} {x : α} (h : x ∈ l.take a ∨ x ∈ l.drop a) : x ∈ l := h.elim List.mem_of_mem_take List.mem_of_mem_drop
theorem other_rows_ok {k n : Nat} {mu : List O} {R : List (List Str)} (h : WellAt mu k n) (hR : RowsOk R) (hn : n ≤ 300000000) :
    ∃ R' mu', m_law_other_rows [.cel k, dRows R] mu = .ok (.fz (dRows R')) ⟨[], mu'⟩ ∧ RowsOk R' ∧ WellAt mu' k (n + 40) := by
  obtain ⟨⟨l1, l9⟩, w, ⟨w1, w9⟩, hw⟩ := hR
  obtain ⟨r0, R0, rfl⟩ : ∃ r0 R0, R = r0 :: R0 := by cases R with
    | nil => exact absurd l1 (by decide)
    | cons r R => exact ⟨r, R, rfl⟩
  have w0 : r0.length = w := (hw r0 List.mem_cons_self).1
  generalize hRR : r0 :: R0 = R at *
  have lR : (R.map dRow).length = R.length := List.length_map _
  obtain ⟨a, mu1, e1, a0, a1, p1⟩ := take_ok (m := (R.length : Int)) h (by omega) (by omega) (by omega)
  obtain ⟨p, mu2, e2, p0, p1', p2⟩ := take_ok (m := (w : Int)) p1 (by omega) (by omega) (by omega)
  obtain ⟨y, mu3, e3, y0, y1, p3⟩ := take_ok (m := 5) p2 (by decide) (by decide) (by omega)
  obtain ⟨s, mu4, e4, hs, p4⟩ := sign_ok p3 (by omega)
  have ha : a.toNat < R.length := by omega
  have hr : R[a.toNat] ∈ R := List.getElem_mem ha
  have hrl := hw _ hr
  have hix : ixD ((.tup (R.map dRow))) (.int a) = some (.fz ((.tup (R[a.toNat].map D.str)))) := by
    rw [ix_tup a0 (by omega), List.getElem_map]
  have hi0 : ixD ((.tup (R.map dRow))) (.int 0) = some (.fz (.tup (r0.map D.str))) := by rw [← hRR]; show ixD (.tup (dRow r0 :: R0.map dRow)) (.int 0) = _; rw [st_ixt, st_at0]; rfl
  have hl0 : lenD (.tup (r0.map D.str)) = some (.fz (.int (w : Int))) := by show some (O.fz (D.int ((r0.map D.str).length : Nat))) = _; rw [List.length_map, w0]
  have hlR : lenD ((.tup (R.map dRow))) = some (.fz (.int (R.length : Int))) := by show some (O.fz (D.int ((R.map dRow).length : Nat))) = _; rw [List.length_map]
  have e0 : env0 8 [D.cel k, D.tup (R.map dRow)] = [some (.fz (.cel k)), some (.fz ((.tup (R.map dRow)))), none, none, none, none, none, none] := rfl
  generalize hr' : R[a.toNat] = r at *
  have z3 : (3 : Nat) ≤ 16777216 := by decide
  have s0 : (sAsgT (gT [(gN 2), (gN 3), (gN 4)]) (frz (xTup (aCons (frz (xCall m_law_take (fun ds _ => ds) 2 (nK []) (aCons (frz (xVar 0)) (aCons (frz (xUn lenD (xRd 1))) aNil)) aNil)) (aCons (frz (xCall m_law_take (fun ds _ => ds) 2 (nK []) (aCons (frz (xVar 0)) (aCons (frz (xUn lenD (xOpQ ixD (xRd 1) (fun _ => some (.int 0))))) aNil)) aNil)) (aCons (frz (xCall m_law_take (fun ds _ => ds) 2 (nK []) (aCons (frz (xVar 0)) (aCons (frz (xC (.int 5))) aNil)) aNil)) aNil)))))) ⟨[some (.fz (.cel k)), some (.fz ((.tup (R.map dRow)))), none, none, none, none, none, none], mu⟩ = .ok .nx ⟨[some (.fz (.cel k)), some (.fz ((.tup (R.map dRow)))), some (.fz (.int a)), some (.fz (.int p)), some (.fz (.int y)), none, none, none], mu3⟩ := by
    clear h p1 p2 p3 p4 hw hix hs hr hrl e4 e0 lR
    generalize (R.length : Int) = N at *
    generalize (w : Int) = W at *
    generalize R.map dRow = DR at *
    generalize r0.map D.str = D0 at *
    walk_at "spn"
  have s1 : (sPar 5 6 (oCons (xOpQ ixD (xRd 1) (qVar 2)) (oCons (xCall m_law_sign (fun ds _ => ds) 1 (nK []) (aCons (frz (xVar 0)) aNil) aNil) oNil))) ⟨[some (.fz (.cel k)), some (.fz ((.tup (R.map dRow)))), some (.fz (.int a)), some (.fz (.int p)), some (.fz (.int y)), none, none, none], mu3⟩ = .ok .nx ⟨[some (.fz (.cel k)), some (.fz ((.tup (R.map dRow)))), some (.fz (.int a)), some (.fz (.int p)), some (.fz (.int y)), some (.fz (.tup (r.map D.str))), some (.fz (.str s)), none], mu4⟩ := by
    clear h p1 p2 p3 p4 hw hs hr hrl e1 e2 e3 e0 s0 hi0 hl0 hlR lR
    generalize R.map dRow = DR at *
    generalize r.map D.str = D0 at *
    walk_at "spn"
  unfold m_law_other_rows
  rw [st_fnM, e0, st_seq, s0, st_bok, st_seqn, st_seq, s1, st_bok, st_seqn]
  clear s0 s1 e0 e1 e2 e3 e4 h p1 p2 p3 hi0 hl0 hix
  have rl : (r.map D.str).length = w := by rw [List.length_map]; exact hrl.1
  have t1 : slD (.tup (R.map dRow)) none (some a) = some (.fz (.tup ((R.map dRow).take a.toNat))) := by show some (O.fz (D.tup (cutD _ none (some a)))) = _; rw [cut_takeI _ a0]
  have t2 : slD (.tup (R.map dRow)) (some (a + 1)) none = some (.fz (.tup ((R.map dRow).drop (a.toNat + 1)))) := by show some (O.fz (D.tup (cutD _ (some (a + 1)) none))) = _; rw [cut_dropI _ a0]
  have t3 : slD (.tup (r.map D.str)) none (some p) = some (.fz (.tup ((r.map D.str).take p.toNat))) := by show some (O.fz (D.tup (cutD _ none (some p)))) = _; rw [cut_takeI _ p0]
  have t4 : slD (.tup (r.map D.str)) (some (p + 1)) none = some (.fz (.tup ((r.map D.str).drop (p.toNat + 1)))) := by show some (O.fz (D.tup (cutD _ (some (p + 1)) none))) = _; rw [cut_dropI _ p0]
  by_cases h2 : y < 2
  · have h2' := decide_eq_true h2
    refine ⟨R.take a.toNat ++ [r.take p.toNat ++ [s] ++ r.drop (p.toNat + 1)] ++ R.drop (a.toNat + 1), mu4, ?_, ⟨⟨by simp only [List.length_append, List.length_cons, List.length_nil]; omega, by simp only [List.length_append, List.length_cons, List.length_nil, List.length_take, List.length_drop]; omega⟩, w, ⟨w1, w9⟩, fun q hq => ?_⟩, p4.mono (by omega)⟩
    · have eq : D.tup (List.map dRow (R.take a.toNat ++ [r.take p.toNat ++ [s] ++ r.drop (p.toNat + 1)] ++ R.drop (a.toNat + 1))) = .tup ((R.map dRow).take a.toNat ++ [D.tup ((r.map D.str).take p.toNat ++ [D.str s] ++ (r.map D.str).drop (p.toNat + 1))] ++ (R.map dRow).drop (a.toNat + 1)) := by
        simp only [dRow, List.map_append, List.map_take, List.map_drop, List.map_cons, List.map_nil]
      show _ = Tr.R.ok (O.fz (D.tup (List.map dRow _))) _
      rw [eq]
      have q1 : ((r.map D.str).take p.toNat).length ≤ 16777215 := by rw [List.length_take]; omega
      have q2 : ((r.map D.str).take p.toNat ++ [D.str s]).length + ((r.map D.str).drop (p.toNat + 1)).length ≤ 16777216 := by simp only [List.length_append, List.length_cons, List.length_nil, List.length_take, List.length_drop]; omega
      have q3 : ((R.map dRow).take a.toNat).length ≤ 16777215 := by rw [List.length_take]; omega
      have q4 : ((R.map dRow).take a.toNat ++ [D.tup ((r.map D.str).take p.toNat ++ [D.str s] ++ (r.map D.str).drop (p.toNat + 1))]).length + ((R.map dRow).drop (a.toNat + 1)).length ≤ 16777216 := by simp only [List.length_append, List.length_cons, List.length_nil, List.length_take, List.length_drop]; omega
      have z1 : (1 : Nat) ≤ 16777216 := by decide
      clear hw hs hr hrl hlR rl lR p4 eq h2
      generalize (R.map dRow).take a.toNat = A1 at *
      generalize (R.map dRow).drop (a.toNat + 1) = A2 at *
      generalize (r.map D.str).take p.toNat = B1 at *
      generalize (r.map D.str).drop (p.toNat + 1) = B2 at *
      generalize R.map dRow = DR at *
      generalize r.map D.str = DD at *
      walk_at "spn"
    · rcases List.mem_append.mp hq with hq | hq
      · rcases List.mem_append.mp hq with hq | hq
        · exact hw q (List.mem_of_mem_take hq)
        · rw [List.mem_singleton.mp hq]
          have hl := hrl.1
          refine ⟨by simp only [List.length_append, List.length_cons, List.length_nil, List.length_take, List.length_drop]; omega, fun z hz => ?_⟩
          rcases List.mem_append.mp hz with hz | hz
          · rcases List.mem_append.mp hz with hz | hz
            · exact hrl.2 z (List.mem_of_mem_take hz)
            · rw [List.mem_singleton.mp hz]; exact hs
          · exact hrl.2 z (List.mem_of_mem_drop hz)
      · exact hw q (List.mem_of_mem_drop hq)
  · have h2' := decide_eq_false h2
    have t0 : (toB (xOp ltD (xBor 4) (xC (.int 2)))) ⟨[some (.fz (.cel k)), some (.fz (.tup (R.map dRow))), some (.fz (.int a)), some (.fz (.int p)), some (.fz (.int y)), some (.fz (.tup (r.map D.str))), some (.fz (.str s)), none], mu4⟩ = .ok false ⟨[some (.fz (.cel k)), some (.fz (.tup (R.map dRow))), some (.fz (.int a)), some (.fz (.int p)), some (.fz (.int y)), some (.fz (.tup (r.map D.str))), some (.fz (.str s)), none], mu4⟩ := by
      clear hw hs hr hrl hlR rl lR p4 h2 t1 t2 t3 t4
      generalize R.map dRow = DR at *
      generalize r.map D.str = DD at *
      walk_at "spn"
    rw [st_seq, st_sif, t0, st_bok, if_neg (by decide), st_snil, st_bok, st_seqn]
    clear t0
    by_cases h3 : y = 2
    · have h3' := decide_eq_true h3
      have t5 : slD (.tup (R.map dRow)) (some a) (some (a + 1)) = some (.fz (.tup (((R.map dRow).drop a.toNat).take 1))) := by show some (O.fz (D.tup (cutD _ (some a) (some (a + 1))))) = _; rw [cut_oneI _ a0 (by omega)]
      have t6 : slD (.tup (R.map dRow ++ ((R.map dRow).drop a.toNat).take 1)) none (some 9) = some (.fz (.tup ((R.map dRow ++ ((R.map dRow).drop a.toNat).take 1).take 9))) := by show some (O.fz (D.tup (cutD _ none (some 9)))) = _; rw [cut_takeI _ (by decide)]; rfl
      refine ⟨(R ++ (R.drop a.toNat).take 1).take 9, mu4, ?_, ⟨⟨by simp only [List.length_append, List.length_take, List.length_drop]; omega, by simp only [List.length_append, List.length_take, List.length_drop]; omega⟩, w, ⟨w1, w9⟩, fun q hq => ?_⟩, p4.mono (by omega)⟩
      · have eq : D.tup (List.map dRow ((R ++ (R.drop a.toNat).take 1).take 9)) = .tup ((R.map dRow ++ ((R.map dRow).drop a.toNat).take 1).take 9) := by
          simp only [List.map_append, List.map_take, List.map_drop]
        show _ = Tr.R.ok (O.fz (D.tup (List.map dRow _))) _
        rw [eq]
        have q1 : (R.map dRow).length + (((R.map dRow).drop a.toNat).take 1).length ≤ 16777216 := by simp only [List.length_take, List.length_drop]; omega
        clear hw hs hr hrl hlR rl lR p4 eq h2 t1 t2 t3 t4
        generalize ((R.map dRow).drop a.toNat).take 1 = A1 at *
        generalize (R.map dRow ++ A1).take 9 = A2 at *
        generalize R.map dRow = DR at *
        generalize r.map D.str = DD at *
        walk_at "spn"
      · rcases List.mem_append.mp (List.mem_of_mem_take hq) with hq | hq
        · exact hw q hq
        · exact hw q (List.mem_of_mem_drop (List.mem_of_mem_take hq))
    · have h3' := decide_eq_false h3
      have t0 : (toB (xOp eqD (xBor 4) (xC (.int 2)))) ⟨[some (.fz (.cel k)), some (.fz (.tup (R.map dRow))), some (.fz (.int a)), some (.fz (.int p)), some (.fz (.int y)), some (.fz (.tup (r.map D.str))), some (.fz (.str s)), none], mu4⟩ = .ok false ⟨[some (.fz (.cel k)), some (.fz (.tup (R.map dRow))), some (.fz (.int a)), some (.fz (.int p)), some (.fz (.int y)), some (.fz (.tup (r.map D.str))), some (.fz (.str s)), none], mu4⟩ := by
        clear hw hs hr hrl hlR rl lR p4 h2 t1 t2 t3 t4
        generalize R.map dRow = DR at *
        generalize r.map D.str = DD at *
        walk_at "spn"
      rw [st_seq, st_sif, t0, st_bok, if_neg (by decide), st_snil, st_bok, st_seqn]
      clear t0
      have hlR' : lenD (.tup (R.map dRow)) = some (.fz (.int (R.length : Int))) := hlR
      by_cases h4 : y = 3 ∧ 1 < (R.length : Int)
      · obtain ⟨h4, h5⟩ := h4
        have h4' := decide_eq_true h4
        have h5' := decide_eq_true h5
        refine ⟨R.take a.toNat ++ R.drop (a.toNat + 1), mu4, ?_, ⟨⟨by simp only [List.length_append, List.length_take, List.length_drop]; omega, by simp only [List.length_append, List.length_take, List.length_drop]; omega⟩, w, ⟨w1, w9⟩, fun q hq => ?_⟩, p4.mono (by omega)⟩
        · have eq : D.tup (List.map dRow (R.take a.toNat ++ R.drop (a.toNat + 1))) = .tup ((R.map dRow).take a.toNat ++ (R.map dRow).drop (a.toNat + 1)) := by
            simp only [List.map_append, List.map_take, List.map_drop]
          show _ = Tr.R.ok (O.fz (D.tup (List.map dRow _))) _
          rw [eq]
          have q1 : ((R.map dRow).take a.toNat).length + ((R.map dRow).drop (a.toNat + 1)).length ≤ 16777216 := by simp only [List.length_take, List.length_drop]; omega
          clear hw hs hr hrl rl lR p4 eq h2 t3 t4 hlR h4 h5 a1 hr' ha l1 l9
          generalize (R.length : Int) = N at *
          generalize (R.map dRow).take a.toNat = A1 at *
          generalize (R.map dRow).drop (a.toNat + 1) = A2 at *
          generalize R.map dRow = DR at *
          generalize r.map D.str = DD at *
          walk_at "spn"
        · rcases List.mem_append.mp hq with hq | hq
          · exact hw q (List.mem_of_mem_take hq)
          · exact hw q (List.mem_of_mem_drop hq)
      · have t0 : (bAnd (toB (xOp eqD (xBor 4) (xC (.int 3)))) (toB (xOp gtD (xUn lenD (xRd 1)) (xC (.int 1))))) ⟨[some (.fz (.cel k)), some (.fz (.tup (R.map dRow))), some (.fz (.int a)), some (.fz (.int p)), some (.fz (.int y)), some (.fz (.tup (r.map D.str))), some (.fz (.str s)), none], mu4⟩ = .ok false ⟨[some (.fz (.cel k)), some (.fz (.tup (R.map dRow))), some (.fz (.int a)), some (.fz (.int p)), some (.fz (.int y)), some (.fz (.tup (r.map D.str))), some (.fz (.str s)), none], mu4⟩ := by
          have h6 : y = 3 → ¬ 1 < (R.length : Int) := fun e h => h4 ⟨e, h⟩
          clear hw hs hr hrl rl lR p4 h2 t1 t2 t3 t4 hlR h4 a1 hr' ha l1 l9
          generalize (R.length : Int) = N at *
          generalize R.map dRow = DR at *
          generalize r.map D.str = DD at *
          by_cases h7 : y = 3
          · have h5' := decide_eq_false (h6 h7)
            have h7' := decide_eq_true h7
            clear h6 h7
            walk_at "spn"
          · have h7' := decide_eq_false h7
            clear h6 h7
            walk_at "spn"
        rw [st_seq, st_sif, t0, st_bok, if_neg (by decide), st_snil, st_bok, st_seqn]
        clear t0
        have lc := lc_img (vs := [7]) (t := gN 7) (mt := ret true) (me := (frz (xSl (xOp addD (xBor 7) (xSl (xBor 7) (mPart (xVar 3)) (mPart (xOp addD (xBor 3) (xC (.int 1)))))) (ret none) (mPart (xC (.int 9)))))) (mu := mu4) (env := [some (.fz (.cel k)), some (.fz (.tup (R.map dRow))), some (.fz (.int a)), some (.fz (.int p)), some (.fz (.int y)), some (.fz (.tup (r.map D.str))), some (.fz (.str s)), none])
          dRow (fun q => dRow ((q ++ (q.drop p.toNat).take 1).take 9)) R (fun q hq => by
            have ql : (q.map D.str).length = w := by rw [List.length_map]; exact (hw q hq).1
            refine ⟨[some (.fz (.cel k)), some (.fz (.tup (R.map dRow))), some (.fz (.int a)), some (.fz (.int p)), some (.fz (.int y)), some (.fz (.tup (r.map D.str))), some (.fz (.str s)), some (.fz (.tup (q.map D.str)))], [some (.fz (.cel k)), some (.fz (.tup (R.map dRow))), some (.fz (.int a)), some (.fz (.int p)), some (.fz (.int y)), some (.fz (.tup (r.map D.str))), some (.fz (.str s)), some (.fz (.tup (q.map D.str)))], [some (.fz (.cel k)), some (.fz (.tup (R.map dRow))), some (.fz (.int a)), some (.fz (.int p)), some (.fz (.int y)), some (.fz (.tup (r.map D.str))), some (.fz (.str s)), some (.fz (.tup (q.map D.str)))], rfl, rfl, ?_, rfl, rfl⟩
            have t5 : slD (.tup (q.map D.str)) (some p) (some (p + 1)) = some (.fz (.tup (((q.map D.str).drop p.toNat).take 1))) := by show some (O.fz (D.tup (cutD _ (some p) (some (p + 1))))) = _; rw [cut_oneI _ p0 (by omega)]
            have t6 : slD (.tup (q.map D.str ++ ((q.map D.str).drop p.toNat).take 1)) none (some 9) = some (.fz (.tup ((q.map D.str ++ ((q.map D.str).drop p.toNat).take 1).take 9))) := by show some (O.fz (D.tup (cutD _ none (some 9)))) = _; rw [cut_takeI _ (by decide)]; rfl
            have eq : dRow ((q ++ (q.drop p.toNat).take 1).take 9) = .tup ((q.map D.str ++ ((q.map D.str).drop p.toNat).take 1).take 9) := by
              simp only [dRow, List.map_append, List.map_take, List.map_drop]
            have q1 : (q.map D.str).length + (((q.map D.str).drop p.toNat).take 1).length ≤ 16777216 := by simp only [List.length_take, List.length_drop]; omega
            rw [eq]
            clear hw hs hr hrl rl lR p4 h2 t1 t2 t3 t4 hlR h4 a1 hr' ha l1 l9 eq ql hq hlR'
            generalize ((q.map D.str).drop p.toNat).take 1 = A1 at *
            generalize (q.map D.str ++ A1).take 9 = A2 at *
            generalize R.map dRow = DR at *
            generalize r.map D.str = DD at *
            generalize q.map D.str = QQ at *
            walk_at "spn")
        refine ⟨R.map fun q => (q ++ (q.drop p.toNat).take 1).take 9, mu4, ?_, ⟨⟨by rw [List.length_map]; exact l1, by rw [List.length_map]; exact l9⟩, min (w + 1) 9, ⟨by omega, by omega⟩, fun q hq => ?_⟩, p4.mono (by omega)⟩
        · have eq : D.tup (List.map dRow (R.map fun q => (q ++ (q.drop p.toNat).take 1).take 9)) = .tup (R.map fun q => dRow ((q ++ (q.drop p.toNat).take 1).take 9)) := by
            rw [List.map_map]; rfl
          show _ = Tr.R.ok (O.fz (D.tup (List.map dRow _))) _
          rw [eq]
          have tq : tupleD (.lst (R.map fun q => dRow ((q ++ (q.drop p.toNat).take 1).take 9))) = some (.fz (.tup (R.map fun q => dRow ((q ++ (q.drop p.toNat).take 1).take 9)))) := rfl
          have ql : (R.map dRow).length ≤ 16777216 := by omega
          clear hw hs hr hrl rl lR p4 h2 t1 t2 t3 t4 hlR h4 a1 hr' ha l1 l9 eq hlR'
          generalize (R.map fun q => dRow ((q ++ (q.drop p.toNat).take 1).take 9)) = A2 at *
          generalize R.map dRow = DR at *
          generalize r.map D.str = DD at *
          walk_at "spn"
        · obtain ⟨z, hz, rfl⟩ := List.mem_map.mp hq
          obtain ⟨zl, zs⟩ := hw z hz
          refine ⟨by simp only [List.length_append, List.length_take, List.length_drop]; omega, fun x hx => ?_⟩
          rcases List.mem_append.mp (List.mem_of_mem_take hx) with hx | hx
          · exact zs x hx
          · exact zs x (List.mem_of_mem_drop (List.mem_of_mem_take hx))
theorem is_name_ok {s : Str} {mu : List O} (h : NameOk s) : m_is_name [.str s] mu = .ok (.fz (.bl true)) ⟨[], mu⟩ := by
  obtain ⟨h1, h2, h3, h4⟩ := h
  have l1 : s.length ≤ 16777216 := by omega
  have i1 : (1 : Int) ≤ (s.length : Int) := by omega
  have i2 : (s.length : Int) ≤ 8 := by omega
  have e1 : isiD [.str s, .ty "str"] = some (.fz (.bl true)) := rfl
  have e2 : stripD (.str s) [.str "abcdefghijklmnopqrstuvwxyz"] = some (.fz (.str "")) := by
    show (if s.length ≤ 16777216 then some (O.fz (D.str (Txt.stripChars s lettersT))) else none) = _
    rw [if_pos l1, (strip_iff s lettersT).mpr h3]
  have e3 : ninD (.str s) (.tuk [(.str "pin"), (.str "again"), (.str "move"), (.str "take"), (.str "tear"), (.str "at"), (.str "to"), (.str "until"), (.str "strips"), (.str "known")]) = some (.fz (.bl true)) := by
    have hm : s ∉ (["pin", "again", "move", "take", "tear", "at", "to", "until", "strips", "known"] : List Str) := h4
    simp only [List.mem_cons, List.not_mem_nil, or_false, not_or] at hm
    obtain ⟨a1, a2, a3, a4, a5, a6, a7, a8, a9, a10⟩ := hm
    simp [ninD, inB, itemsD, flatD, eqF, Ne.symm a1, Ne.symm a2, Ne.symm a3, Ne.symm a4, Ne.symm a5, Ne.symm a6, Ne.symm a7, Ne.symm a8, Ne.symm a9, Ne.symm a10]
  have c1 (g g' : D → D → Option O) (mc : M O) (x y : O) (h : (g x.toD y.toD).bind asB = some true) : chainK g g' mc x y = bnd mc fun z => ofO (g' y.toD z.toD) := by unfold chainK; rw [h]
  have c2 : chainK leD leD (xC (.int 8)) (.fz (.int 1)) (.fz (.int (s.length : Int))) = bnd (xC (.int 8)) fun z => ofO (leD (.int (s.length : Int)) z.toD) := c1 _ _ _ _ _ (by rw [st_tdf, st_tdf, st_lei]; simp [i1, asB])
  unfold m_is_name
  walk_at "stp"
theorem sign_len {s : Str} (h : SignOk s) : 1 ≤ s.length ∧ s.length ≤ 8 := by
  rcases h with rfl | rfl | h
  · exact ⟨by decide, by decide⟩
  · exact ⟨by decide, by decide⟩
  · exact ⟨h.1, h.2.1⟩
theorem sign_chr {s : Str} (h : SignOk s) : ∀ c ∈ s.cps.toList, c < 128 := by
  rcases h with rfl | rfl | h
  · decide
  · decide
  · intro c hc
    have : ∀ c ∈ lettersT.cps.toList, c < 128 := by decide +kernel
    exact this c (h.2.2.1 c hc)
theorem sign_okD {s : Str} (h : SignOk s) : okD (.str s) = true := List.all_eq_true.mpr fun c hc => decide_eq_true (Nat.lt_trans (sign_chr h c hc) (by decide))
theorem sign_strOk {s : Str} (h : SignOk s) : PyData.strOk s = true := by
  unfold PyData.strOk
  rw [← Array.all_toList]
  exact List.all_eq_true.mpr fun c hc => decide_eq_true (Nat.lt_trans (sign_chr h c hc) (by decide))
theorem is_sign_ok {s : Str} {mu : List O} (h : SignOk s) : m_is_sign [.str s] mu = .ok (.fz (.bl true)) ⟨[], mu⟩ := by
  have e1 : isiD [.str s, .ty "str"] = some (.fz (.bl true)) := rfl
  have z2 : (2 : Nat) ≤ 16777216 := by decide
  rcases h with rfl | rfl | h
  · have e2 : inD (.str "-") (.tup [.str "-", .str "?"]) = some (.fz (.bl true)) := rfl
    unfold m_is_sign
    walk_at "spn"
  · have e2 : inD (.str "?") (.tup [.str "-", .str "?"]) = some (.fz (.bl true)) := rfl
    unfold m_is_sign
    walk_at "spn"
  · have e3 := fun mu => is_name_ok (mu := mu) h
    obtain ⟨b, hb⟩ : ∃ b, inD (.str s) (.tup [.str "-", .str "?"]) = some (.fz (.bl b)) := ⟨_, by simp only [inD, inB, itemsD, flatD, eqF]; rfl⟩
    clear h
    unfold m_is_sign
    cases b
    · walk_at "spn"
    · walk_at "spn"
theorem rows_chk {w : Nat} {DR r0 : List D} {mu : List O} (w1 : 1 ≤ w) (w9 : w ≤ 9) (h0 : ixD (.tup DR) (.int 0) = some (.fz (.tup r0))) (hl0 : r0.length = w) : ∀ (l : List (List Str)), (∀ r ∈ l, RowOk w r) → ∀ x1 : Option O, ∃ x1', forL (gN 1) (sSeq (sIf (bOr (bNot (toB (xCn isiD (aCons (frz (xVar 1)) (aCons (ret (.ty "tuple")) aNil))))) (bOr (bNot (toB (xChain leD leD (xC (.int 1)) (xUn lenD (xRd 1)) (xC (.int 9))))) (toB (xOp neD (xUn lenD (xRd 1)) (xUn lenD (xOpQ ixD (xRd 0) (fun _ => some (.int 0))))))))
    (sRet (xC (.bl false)))
    sNil)
    (sIf (bNot (toB (xUn allD (xLc [2] (mSeq (frz (xVar 1))) (gN 2) (ret true) (frz (xCall m_is_sign (fun ds _ => ds) 1 (nK []) (aCons (frz (xVar 2)) aNil) aNil))))))
    (sRet (xC (.bl false)))
    sNil)) (l.map dRow) ⟨[some (.fz (.tup DR)), x1, none], mu⟩ = .ok .nx ⟨[some (.fz (.tup DR)), x1', none], mu⟩
  | [], _, x1 => ⟨x1, rfl⟩
  | r :: l, h, x1 => by
    obtain ⟨x1', e⟩ := rows_chk w1 w9 h0 hl0 l (fun q hq => h q (List.mem_cons_of_mem _ hq)) (some (.fz (dRow r)))
    refine ⟨x1', ?_⟩
    obtain ⟨rl, rs⟩ := h r List.mem_cons_self
    rw [List.map_cons, st_for1, st_gN]
    simp only [setS_1]
    have i1 : isiD [dRow r, .ty "tuple"] = some (.fz (.bl true)) := rfl
    have ll : lenD (.tup (r.map D.str)) = some (.fz (.int (w : Int))) := by show some (O.fz (D.int ((r.map D.str).length : Nat))) = _; rw [List.length_map, rl]
    have l0 : lenD (.tup r0) = some (.fz (.int (w : Int))) := by show some (O.fz (D.int (r0.length : Nat))) = _; rw [hl0]
    have lc := lc_img (vs := [2]) (t := gN 2) (mt := ret true) (me := (frz (xCall m_is_sign (fun ds _ => ds) 1 (nK []) (aCons (frz (xVar 2)) aNil) aNil))) (mu := mu) (env := [some (.fz (.tup DR)), some (.fz (dRow r)), none]) D.str (fun _ => .bl true) r (fun q hq => by
      have e3 := fun mu => is_sign_ok (mu := mu) (rs q hq)
      refine ⟨_, _, [some (.fz (.tup DR)), some (.fz (dRow r)), some (.fz (.str q))], rfl, rfl, ?_, rfl, rfl⟩
      clear h e rs rl ll l0 h0 hl0 hq i1
      generalize dRow r = D0 at *
      walk_at "spn")
    have al := all_true (r.map fun _ => D.bl true) (fun d hd => by obtain ⟨_, _, rfl⟩ := List.mem_map.mp hd; rfl)
    have ql : (r.map D.str).length ≤ 16777216 := by rw [List.length_map, rl]; omega
    have hW1 : decide ((1 : Int) ≤ (w : Int)) = true := decide_eq_true (by omega)
    have hW9 : decide ((w : Int) ≤ 9) = true := decide_eq_true (by omega)
    have hWW : decide ((w : Int) = (w : Int)) = true := decide_eq_true rfl
    have s1 : (sSeq (sIf (bOr (bNot (toB (xCn isiD (aCons (frz (xVar 1)) (aCons (ret (.ty "tuple")) aNil))))) (bOr (bNot (toB (xChain leD leD (xC (.int 1)) (xUn lenD (xRd 1)) (xC (.int 9))))) (toB (xOp neD (xUn lenD (xRd 1)) (xUn lenD (xOpQ ixD (xRd 0) (fun _ => some (.int 0))))))))
    (sRet (xC (.bl false)))
    sNil)
    (sIf (bNot (toB (xUn allD (xLc [2] (mSeq (frz (xVar 1))) (gN 2) (ret true) (frz (xCall m_is_sign (fun ds _ => ds) 1 (nK []) (aCons (frz (xVar 2)) aNil) aNil))))))
    (sRet (xC (.bl false)))
    sNil)) ⟨[some (.fz (.tup DR)), some (.fz (dRow r)), none], mu⟩ = .ok .nx ⟨[some (.fz (.tup DR)), some (.fz (dRow r)), none], mu⟩ := by
      clear h e rs rl hl0
      have i1 : isiD [.tup (r.map D.str), .ty "tuple"] = some (.fz (.bl true)) := rfl
      show (sSeq (sIf (bOr (bNot (toB (xCn isiD (aCons (frz (xVar 1)) (aCons (ret (.ty "tuple")) aNil))))) (bOr (bNot (toB (xChain leD leD (xC (.int 1)) (xUn lenD (xRd 1)) (xC (.int 9))))) (toB (xOp neD (xUn lenD (xRd 1)) (xUn lenD (xOpQ ixD (xRd 0) (fun _ => some (.int 0))))))))
    (sRet (xC (.bl false)))
    sNil)
    (sIf (bNot (toB (xUn allD (xLc [2] (mSeq (frz (xVar 1))) (gN 2) (ret true) (frz (xCall m_is_sign (fun ds _ => ds) 1 (nK []) (aCons (frz (xVar 2)) aNil) aNil))))))
    (sRet (xC (.bl false)))
    sNil)) ⟨[some (.fz (.tup DR)), some (.fz (.tup (r.map D.str))), none], mu⟩ = .ok .nx ⟨[some (.fz (.tup DR)), some (.fz (.tup (r.map D.str))), none], mu⟩
      simp only [dRow] at lc
      clear w1 w9
      generalize (w : Int) = W at *
      generalize (r.map fun _ => D.bl true) = BB at *
      generalize r.map D.str = RR at *
      walk_at "spn"
    rw [s1, st_bok, st_forn, e]
theorem are_rows_ok {R : List (List Str)} {mu : List O} (hR : RowsOk R) : m_are_rows [dRows R] mu = .ok (.fz (.bl true)) ⟨[], mu⟩ := by
  obtain ⟨⟨l1, l9⟩, w, ⟨w1, w9⟩, hw⟩ := hR
  obtain ⟨r0, R0, rfl⟩ : ∃ r0 R0, R = r0 :: R0 := by cases R with
    | nil => exact absurd l1 (by decide)
    | cons r R => exact ⟨r, R, rfl⟩
  have w0 : r0.length = w := (hw r0 List.mem_cons_self).1
  obtain ⟨x1, e⟩ := rows_chk (mu := mu) (DR := (r0 :: R0).map dRow) (r0 := r0.map D.str) w1 w9 (by rw [List.map_cons, st_ixt, st_at0]; rfl) (by rw [List.length_map, w0]) (r0 :: R0) hw none
  have ll : lenD (.tup ((r0 :: R0).map dRow)) = some (.fz (.int ((r0 :: R0).length : Int))) := by show some (O.fz (D.int (((r0 :: R0).map dRow).length : Nat))) = _; rw [List.length_map]
  have i1 : isiD [.tup ((r0 :: R0).map dRow), .ty "tuple"] = some (.fz (.bl true)) := rfl
  have hW1 : decide ((1 : Int) ≤ ((r0 :: R0).length : Int)) = true := decide_eq_true (by omega)
  have hW9 : decide (((r0 :: R0).length : Int) ≤ 9) = true := decide_eq_true (by omega)
  clear hw w0 w1 w9 l1 l9
  generalize ((r0 :: R0).length : Int) = N at *
  show m_are_rows [.tup ((r0 :: R0).map dRow)] mu = _
  generalize (r0 :: R0).map dRow = DR at *
  unfold m_are_rows
  walk_at "spn"
def StrsOk (r : List Str) : Prop := ∀ s ∈ r, PyData.strOk s = true
theorem strsT_iff : ∀ {xs : List D} {r : List Str}, strsT xs = some r → xs = r.map D.str ∧ StrsOk r
  | [], r, h => by cases h; exact ⟨rfl, fun _ h => nomatch h⟩
  | x :: xs, r, h => by
    unfold strsT at h
    split at h
    · rename_i h2; cases h2
    · rename_i s xs' h2
      cases h2
      split at h
      · rename_i hs
        obtain ⟨r', h3, rfl⟩ := map_some h
        obtain ⟨rfl, h4⟩ := strsT_iff h3
        exact ⟨rfl, fun z hz => by rcases List.mem_cons.mp hz with rfl | hz; exact hs; exact h4 z hz⟩
      · cases h
    · cases h
theorem strsT_map : ∀ {r : List Str}, StrsOk r → strsT (r.map D.str) = some r
  | [], _ => rfl
  | s :: r, h => by
    rw [List.map_cons, strsT, if_pos (h s List.mem_cons_self), strsT_map fun z hz => h z (List.mem_cons_of_mem _ hz)]; rfl
theorem rowsT_iff : ∀ {xs : List D} {R : List (List Str)}, rowsT xs = some R → xs = R.map dRow ∧ ∀ r ∈ R, StrsOk r
  | [], R, h => by cases h; exact ⟨rfl, fun _ h => nomatch h⟩
  | x :: xs, R, h => by
    unfold rowsT at h
    split at h
    · rename_i h2; cases h2
    · rename_i ys xs' h2
      cases h2
      split at h
      · rename_i a b h3 h4
        cases h
        obtain ⟨rfl, h5⟩ := strsT_iff h3
        obtain ⟨rfl, h6⟩ := rowsT_iff h4
        exact ⟨rfl, fun z hz => by rcases List.mem_cons.mp hz with rfl | hz; exact h5; exact h6 z hz⟩
      · cases h
    · cases h
theorem rowsT_map : ∀ {R : List (List Str)}, (∀ r ∈ R, StrsOk r) → rowsT (R.map dRow) = some R
  | [], _ => rfl
  | r :: R, h => by
    rw [List.map_cons, rowsT, strsT_map (h r List.mem_cons_self), rowsT_map fun z hz => h z (List.mem_cons_of_mem _ hz)]
abbrev dPh (R : List (List Str)) : D := .ins "Photo" [("rows", dRows R)]
abbrev phF (R : List (List Str)) : List (Str × O) := [("rows", .fz (dRows R))]
theorem photoOf_iff {d : D} {R : List (List Str)} (h : photoOf d = some R) : d = dPh R ∧ ∀ r ∈ R, StrsOk r := by
  unfold photoOf at h
  split at h
  · split at h
    · rename_i hc
      subst hc
      split at h
      · split at h
        · rename_i hn
          subst hn
          obtain ⟨rfl, h2⟩ := rowsT_iff h
          exact ⟨rfl, h2⟩
        · cases h
      · cases h
    · cases h
  · cases h
theorem photoOf_ph {R : List (List Str)} (h : ∀ r ∈ R, StrsOk r) : photoOf (dPh R) = some R := by
  unfold photoOf
  dsimp only
  rw [if_pos rfl, if_pos rfl, rowsT_map h]
abbrev pyRow (r : List Str) : PyData := .tuple (r.map .str)
theorem pyA_row (b : Bool) : ∀ r : List Str, D.pyA b (r.map D.str) = some (r.map .str)
  | [] => rfl
  | s :: r => by rw [List.map_cons, D.pyA, pyA_row b r]; rfl
theorem pyA_rows (b : Bool) : ∀ R : List (List Str), D.pyA b (R.map dRow) = some (R.map pyRow)
  | [] => rfl
  | r :: R => by rw [List.map_cons, D.pyA, D.py, pyA_row b r, pyA_rows b R]; rfl
theorem lay_row : ∀ {r : List Str}, StrsOk r → PyData.canLayAll0 (r.map .str) = true ∧ PyData.depthAll (r.map .str) = 0
  | [], _ => ⟨rfl, rfl⟩
  | s :: r, h => by
    obtain ⟨a, b⟩ := lay_row (r := r) fun z hz => h z (List.mem_cons_of_mem _ hz)
    rw [List.map_cons, PyData.canLayAll0, PyData.depthAll, a, b, PyData.canLay0, h s List.mem_cons_self]
    exact ⟨rfl, rfl⟩
theorem lay_rows : ∀ {R : List (List Str)}, (∀ r ∈ R, StrsOk r) → PyData.canLayAll0 (R.map pyRow) = true ∧ PyData.depthAll (R.map pyRow) ≤ 1
  | [], _ => ⟨rfl, by decide⟩
  | r :: R, h => by
    obtain ⟨a, b⟩ := lay_rows (R := R) fun z hz => h z (List.mem_cons_of_mem _ hz)
    obtain ⟨c, d⟩ := lay_row (h r List.mem_cons_self)
    rw [List.map_cons, PyData.canLayAll0, PyData.depthAll, a, PyData.canLay0, c, PyData.depth, d]
    exact ⟨rfl, by omega⟩
theorem shaped_rows {R : List (List Str)} (h : ∀ r ∈ R, StrsOk r) : SeqAt.shaped (.tuple (R.map pyRow)) = true := by
  obtain ⟨a, b⟩ := lay_rows h
  unfold SeqAt.shaped
  rw [PyData.canLay0, a, PyData.depth, Bool.true_and]
  exact decide_eq_true (by omega)
theorem beq_str (a b : Str) : (a == b) = decide (a = b) := by
  by_cases h : a = b
  · subst h; simp
  · rw [decide_eq_false h]; exact beq_eq_false_iff_ne.mpr h
theorem eqv_row : ∀ a b : List Str, PyData.eqvAll (a.map .str) (b.map .str) = decide (a = b)
  | [], [] => rfl
  | [], y :: b => rfl
  | x :: a, [] => rfl
  | x :: a, y :: b => by
    rw [List.map_cons, List.map_cons, PyData.eqvAll, PyData.eqv, eqv_row a b, beq_str]
    simp
theorem eqv_rows : ∀ a b : List (List Str), PyData.eqvAll (a.map pyRow) (b.map pyRow) = decide (a = b)
  | [], [] => rfl
  | [], y :: b => rfl
  | x :: a, [] => rfl
  | x :: a, y :: b => by
    rw [List.map_cons, List.map_cons, PyData.eqvAll, PyData.eqv, eqv_rows a b, eqv_row]
    simp
theorem plain_rows {R S : List (List Str)} (h1 : ∀ r ∈ R, StrsOk r) (h2 : ∀ r ∈ S, StrsOk r) : plainEq (dRows R) (dRows S) = some (decide (R = S)) := by
  unfold plainEq
  simp only [D.py, pyA_rows, Option.map_some]
  rw [if_pos ⟨shaped_rows h1, shaped_rows h2⟩, PyData.eqv, eqv_rows]
theorem eq_rows {R S : List (List Str)} (h1 : ∀ r ∈ R, StrsOk r) (h2 : ∀ r ∈ S, StrsOk r) : eqD (dRows R) (dRows S) = some (.fz (.bl (decide (R = S)))) := by
  unfold eqD
  rw [plain_rows h1 h2]; rfl
theorem ne_rows {R S : List (List Str)} (h1 : ∀ r ∈ R, StrsOk r) (h2 : ∀ r ∈ S, StrsOk r) : neD (dRows R) (dRows S) = some (.fz (.bl (!decide (R = S)))) := by
  unfold neD
  rw [plain_rows h1 h2]; rfl
theorem rows_strs {R : List (List Str)} (h : RowsOk R) : ∀ r ∈ R, StrsOk r := by
  obtain ⟨_, w, _, hw⟩ := h
  exact fun r hr s hs => sign_strOk ((hw r hr).2 s hs)
theorem run_Photo' : ∀ x y b mu, p_Photo_eq x y = some b → m_Photo_eq [x, y] mu = .ok (.fz (.bl b)) ⟨[], mu⟩ := by
  intro x y b mu e
  unfold p_Photo_eq at e
  obtain ⟨R, e1, e2⟩ := bind_some e
  obtain ⟨rfl, hR⟩ := photoOf_iff e1
  cases hy : insOf y with
  | none =>
    rw [hy] at e2
    dsimp only at e2
    split at e2
    · rename_i hc
      cases e2
      have hi : isiO CLS [y, .fn "Photo"] = some (.fz (.bl false)) := by
        unfold isiO isiP
        dsimp only
        rw [hy]
        dsimp only
        rw [if_pos ⟨rfl, hc⟩]
        rfl
      clear e hR e1
      unfold m_Photo_eq
      walk_at "spn"
    · cases e2
  | some c2 =>
    rw [hy] at e2
    obtain ⟨S, e3, rfl⟩ := map_some e2
    obtain ⟨rfl, hS⟩ := photoOf_iff e3
    have hi : isiO CLS [dPh S, .fn "Photo"] = some (.fz (.bl true)) := rfl
    have f1 : ∀ R, fldO CT "rows" (.fz (dPh R)) = some (.fz (dRows R)) := fun _ => rfl
    have q := eq_rows hR hS
    have f1R := f1 R
    have f1S := f1 S
    clear e e1 e2 e3 hy hR hS f1
    generalize decide (R = S) = z at *
    obtain ⟨X, hX⟩ : ∃ X, dPh R = .ins "Photo" X := ⟨_, rfl⟩
    obtain ⟨Y, hY⟩ : ∃ Y, dPh S = .ins "Photo" Y := ⟨_, rfl⟩
    rw [hX] at f1R ⊢
    rw [hY] at f1S hi ⊢
    clear hX hY
    generalize dRows R = A at *
    generalize dRows S = B at *
    unfold m_Photo_eq
    walk_at "spn"
theorem same_Photo' {G : Gi} : ∀ F al v x y b, (insOf x).isSome = true → (insOf y).isSome = true → Rp G F al v x → Rp G F al v y → p_Photo_eq x y = some b → b = true := by
  intro F al v x y b _ hy rx ry e
  unfold p_Photo_eq at e
  obtain ⟨R, e1, e2⟩ := bind_some e
  obtain ⟨rfl, hR⟩ := photoOf_iff e1
  obtain ⟨c2, hy⟩ := Option.isSome_iff_exists.mp hy
  rw [hy] at e2
  obtain ⟨S, e3, rfl⟩ := map_some e2
  obtain ⟨rfl, hS⟩ := photoOf_iff e3
  have row : ∀ (r s : List Str) (v : V), Rp G F al v (dRow r) → Rp G F al v (dRow s) → r = s := fun r s v h1 h2 => by
    have g : ∀ (r s : List Str) (vs : List V), RpA G F al vs (r.map D.str) → RpA G F al vs (s.map D.str) → r = s := fun r => by
      induction r with
      | nil =>
        intro s vs h1 h2
        cases h1
        cases s with
        | nil => rfl
        | cons z s => cases h2
      | cons z r ih =>
        intro s vs h1 h2
        cases h1 with
        | cons a1 b1 =>
          cases s with
          | nil => cases h2
          | cons y s =>
            cases h2 with
            | cons a2 b2 =>
              cases a1
              cases a2
              rw [ih s _ b1 b2]
    cases h1 with
    | tup k1 l1 =>
      cases h2 with
      | tup k2 l2 =>
        rw [k1] at k2
        cases k2
        exact g r s _ l1 l2
  have rows : ∀ (R S : List (List Str)) (vs : List V), RpA G F al vs (R.map dRow) → RpA G F al vs (S.map dRow) → R = S := fun R => by
    induction R with
    | nil =>
      intro S vs h1 h2
      cases h1
      cases S with
      | nil => rfl
      | cons z s => cases h2
    | cons z r ih =>
      intro S vs h1 h2
      cases h1 with
      | cons a1 b1 =>
        cases S with
        | nil => cases h2
        | cons y s =>
          cases h2 with
          | cons a2 b2 => rw [row z y _ a1 a2, ih s _ b1 b2]
  cases rx with
  | @ins a C dx c fs ds h1 k1 n1 s1 =>
    cases ry with
    | ins h2 k2 n2 s2 =>
      rw [h1] at h2
      cases h2
      clear n1 n2
      generalize fs.map (·.2) = vs at s1 s2
      match vs, s1, s2 with
      | _, .cons a1 .nil, .cons b1 .nil =>
        cases a1 with
        | tup k1 l1 =>
          cases b1 with
          | tup k2 l2 =>
            rw [k1] at k2
            cases k2
            rw [rows R S _ l1 l2]
            exact decide_eq_true rfl
theorem noC_row : ∀ r : List Str, noCA (r.map D.str) = true
  | [] => by rw [List.map_nil, noCA]
  | s :: r => by rw [List.map_cons, noCA, noC, noC_row r]; rfl
theorem noC_rows : ∀ R : List (List Str), noCA (R.map dRow) = true
  | [] => by rw [List.map_nil, noCA]
  | r :: R => by rw [List.map_cons, noCA, noC, noC_row r, noC_rows R]; rfl
theorem ph_ok {R : List (List Str)} {mu : List O} (hR : RowsOk R) : m_Photo_init [dRows R] mu = .ok (.ins "Photo" (phF R)) ⟨[], mu⟩ := by
  have e1 := fun mu => are_rows_ok (mu := mu) hR
  have nc : noCA [dRows R] = true := by rw [noCA, noC, noC_rows, noCA]; rfl
  have nd : noCO (.ins "Photo" (phF R)) = true := by
    simp only [phF, noCO, noCOF, noC, noC_rows, Bool.and_self]
  have o1 : okF CT "Photo" "rows" = true := rfl
  have z0 : (0 : Nat) < 1000 := by decide
  unfold phF at nd ⊢
  clear hR
  generalize dRows R = DR at *
  unfold m_Photo_init
  walk_at "spn"
theorem ph_len {R : List (List Str)} {mu : List O} : m_Photo_len [dPh R] mu = .ok (.fz (.int (R.length : Int))) ⟨[], mu⟩ := by
  have f1 : fldO CT "rows" (.fz (dPh R)) = some (.fz (dRows R)) := rfl
  have ll : lenD (dRows R) = some (.fz (.int (R.length : Int))) := by show some (O.fz (D.int ((R.map dRow).length : Nat))) = _; rw [List.length_map]
  obtain ⟨X, hX⟩ : ∃ X, dPh R = .ins "Photo" X := ⟨_, rfl⟩
  rw [hX] at f1 ⊢
  clear hX
  generalize (R.length : Int) = N at *
  generalize dRows R = DR at *
  unfold m_Photo_len
  walk_at "spn"
theorem ph_at {R : List (List Str)} {x y : Int} {mu : List O} {d e : D} (h1 : ixD (dRows R) (.int y) = some (.fz d)) (h2 : ixD d (.int x) = some (.fz e)) : m_Photo_at [dPh R, .int x, .int y] mu = .ok (.fz e) ⟨[], mu⟩ := by
  have f1 : fldO CT "rows" (.fz (dPh R)) = some (.fz (dRows R)) := rfl
  obtain ⟨X, hX⟩ : ∃ X, dPh R = .ins "Photo" X := ⟨_, rfl⟩
  rw [hX] at f1 ⊢
  clear hX
  generalize dRows R = DR at *
  unfold m_Photo_at
  walk_at "spn"
theorem strs_row : ∀ r : List Str, strsD (r.map D.str) = some r
  | [] => rfl
  | s :: r => by rw [List.map_cons, strsD, strs_row r]; rfl
def rowT (r : List Str) : Str := Txt.join " " r
def strT (R : List (List Str)) : Str := Txt.join "\n" (R.map rowT)
theorem sum_le {α : Type} (f : α → Nat) (b : Nat) : ∀ l : List α, (∀ x ∈ l, f x ≤ b) → (l.map f).sum ≤ l.length * b
  | [], _ => by rw [List.map_nil, List.length_nil, Nat.zero_mul]; exact Nat.le_refl 0
  | x :: l, h => by
    have h1 := sum_le f b l fun y hy => h y (List.mem_cons_of_mem _ hy)
    have h2 := h x List.mem_cons_self
    rw [List.map_cons, List.sum_cons, List.length_cons, Nat.add_mul]; omega
theorem row_sum {w : Nat} {r : List Str} (h : RowOk w r) (hw : w ≤ 9) : (r.map (·.length)).sum + r.length * (" " : Str).length ≤ 100 := by
  have := sum_le (fun s : Str => s.length) 8 r fun s hs => (sign_len (h.2 s hs)).2
  have e : (" " : Str).length = 1 := rfl
  rw [e]
  have := h.1
  omega
theorem row_join {w : Nat} {r : List Str} (h : RowOk w r) (hw : w ≤ 9) : joinD (.str " ") [.tup (r.map D.str)] = some (.fz (.str (rowT r))) := by
  have := row_sum h hw
  show ((strsD (r.map D.str)).bind fun ys => if (ys.map (·.length)).sum + ys.length * (" " : Str).length ≤ 16777216 then some (O.fz (D.str (Txt.join " " ys))) else none) = _
  rw [strs_row]
  show (if (r.map (·.length)).sum + r.length * (" " : Str).length ≤ 16777216 then _ else _) = _
  rw [if_pos (by omega)]; rfl
theorem rowT_len {w : Nat} {r : List Str} (h : RowOk w r) (hw : w ≤ 9) : (rowT r).length ≤ 100 := Nat.le_trans (join_le _ _) (row_sum h hw)
theorem rows_join {R : List (List Str)} (h : RowsOk R) : joinD (.str "\n") [.lst (R.map fun r => D.str (rowT r))] = some (.fz (.str (strT R))) := by
  obtain ⟨⟨l1, l9⟩, w, ⟨w1, w9⟩, hw⟩ := h
  have e : (R.map fun r => D.str (rowT r)) = (R.map rowT).map D.str := by rw [List.map_map]; rfl
  have s1 := sum_le (fun s : Str => s.length) 100 (R.map rowT) fun s hs => by obtain ⟨r, hr, rfl⟩ := List.mem_map.mp hs; exact rowT_len (hw r hr) w9
  rw [List.length_map] at s1
  have e2 : ("\n" : Str).length = 1 := rfl
  rw [e]
  exact st_joi (strs_row _) (by rw [List.length_map, e2]; omega)
theorem strT_len {R : List (List Str)} (h : RowsOk R) : (strT R).length ≤ 1000 := by
  obtain ⟨⟨l1, l9⟩, w, ⟨w1, w9⟩, hw⟩ := h
  have s1 := sum_le (fun s : Str => s.length) 100 (R.map rowT) fun s hs => by obtain ⟨r, hr, rfl⟩ := List.mem_map.mp hs; exact rowT_len (hw r hr) w9
  rw [List.length_map] at s1
  have e2 : ("\n" : Str).length = 1 := rfl
  refine Nat.le_trans (join_le _ _) ?_
  rw [List.length_map, e2]; omega
theorem ph_str {R : List (List Str)} {mu : List O} (h : RowsOk R) : m_Photo_str [dPh R] mu = .ok (.fz (.str (strT R))) ⟨[], mu⟩ := by
  have f1 : fldO CT "rows" (.fz (dPh R)) = some (.fz (dRows R)) := rfl
  have j := rows_join h
  have lc := lc_img (vs := [1]) (t := gN 1) (mt := ret true) (me := (frz (xM1 joinD (xC (.str " ")) (frz (xVar 1))))) (mu := mu) (env := [some (.fz (dPh R)), none]) dRow (fun r => .str (rowT r)) R (fun r hr => by
    obtain ⟨_, w, ⟨_, w9⟩, hw⟩ := h
    have j2 := row_join (hw r hr) w9
    refine ⟨[some (.fz (dPh R)), some (.fz (.tup (r.map D.str)))], [some (.fz (dPh R)), some (.fz (.tup (r.map D.str)))], [some (.fz (dPh R)), some (.fz (.tup (r.map D.str)))], rfl, rfl, ?_, rfl, rfl⟩
    clear f1 j hr hw
    generalize dPh R = DP at *
    generalize r.map D.str = RR at *
    walk_at "spn")
  have ql : (R.map dRow).length ≤ 16777216 := by rw [List.length_map]; have := h.1.2; omega
  obtain ⟨X, hX⟩ : ∃ X, dPh R = .ins "Photo" X := ⟨_, rfl⟩
  rw [hX] at f1 lc ⊢
  clear hX h
  replace f1 : fldO CT "rows" (.fz (.ins "Photo" X)) = some (.fz (.tup (R.map dRow))) := f1
  generalize (R.map fun r => D.str (rowT r)) = A at *
  generalize R.map dRow = DR at *
  unfold m_Photo_str
  walk_at "spn"
theorem ok_row : ∀ {r : List Str}, (∀ s ∈ r, SignOk s) → okA (r.map D.str) = true ∧ dpA (r.map D.str) = 0 ∧ wtA (r.map D.str) ≤ r.length * 90
  | [], _ => ⟨rfl, rfl, by decide⟩
  | s :: r, h => by
    obtain ⟨a, b, c⟩ := ok_row (r := r) fun z hz => h z (List.mem_cons_of_mem _ hz)
    have l := (sign_len (h s List.mem_cons_self)).2
    have e0 : dpD (.str s) = 0 := rfl
    have e1 : wtD (.str s) = 10 * s.length + 2 := rfl
    rw [List.map_cons, okA, dpA, wtA, a, b, sign_okD (h s List.mem_cons_self), e0, e1, List.length_cons, Nat.add_mul]
    exact ⟨rfl, rfl, by omega⟩
theorem ok_rows {w : Nat} (w9 : w ≤ 9) : ∀ {R : List (List Str)}, (∀ r ∈ R, RowOk w r) → okA (R.map dRow) = true ∧ dpA (R.map dRow) ≤ 1 ∧ wtA (R.map dRow) ≤ R.length * 900
  | [], _ => ⟨rfl, by decide, by decide⟩
  | r :: R, h => by
    obtain ⟨a, b, c⟩ := ok_rows w9 (R := R) fun z hz => h z (List.mem_cons_of_mem _ hz)
    obtain ⟨h1, h2⟩ := h r List.mem_cons_self
    obtain ⟨d, e, f⟩ := ok_row h2
    rw [List.map_cons, okA, dpA, wtA, a, okD, d, dpD, e, wtD, List.length_cons, Nat.add_mul]
    exact ⟨rfl, by omega, by omega⟩
theorem rows_repr {R : List (List Str)} (h : RowsOk R) : ∃ s : Str, reprD (dRows R) = some (.fz (.str s)) ∧ s.length ≤ 10000 := by
  obtain ⟨⟨l1, l9⟩, w, ⟨w1, w9⟩, hw⟩ := h
  obtain ⟨a, b, c⟩ := ok_rows w9 hw
  obtain ⟨p, _, e, l⟩ := repr_okD (d := dRows R) (by rw [okD]; exact a) (by rw [dpD]; omega) (by rw [wtD]; omega)
  rw [wtD] at l
  exact ⟨p.shown, e, by omega⟩
theorem ph_repr {R : List (List Str)} {mu : List O} {s : Str} (e : reprD (dRows R) = some (.fz (.str s))) (hl : s.length ≤ 10000) : m_Photo_repr [dPh R] mu = .ok (.fz (.str ("Photo(" ++ s ++ ")"))) ⟨[], mu⟩ := by
  have f1 : fldO CT "rows" (.fz (dPh R)) = some (.fz (dRows R)) := rfl
  obtain ⟨X, hX⟩ : ∃ X, dPh R = .ins "Photo" X := ⟨_, rfl⟩
  rw [hX] at f1 ⊢
  clear hX
  have a1 : ("Photo(" : Str).length = 6 := rfl
  have a2 : (")" : Str).length = 1 := rfl
  have z0 : (Str.empty : Str) ++ "Photo(" = "Photo(" := rfl
  have n1 : (("Photo(" : Str) ++ s).length ≤ 16777216 := by rw [strLen_append, a1]; omega
  have n2 : (("Photo(" : Str) ++ s ++ ")").length ≤ 16777216 := by rw [strLen_append, strLen_append, a1, a2]; omega
  clear hl a1 a2
  have n0 : ("Photo(" : Str).length ≤ 16777216 := by decide
  generalize dRows R = DR at *
  unfold m_Photo_repr xJoin
  walk_at "stp"
theorem meth_at {X : List (Str × D)} (hn : (X.map (fun z : Str × D => z.1)).contains ("at" : Str) = false) (n m : Nat) (gD : List D → List D → List D) (ma mk : M (List D)) : methK "Photo" "at" m_Photo_at gD n m ma mk (.ins "Photo" X) = bnd ma fun ds => bnd mk fun es => if ds.length + 1 = n ∧ es.length = m then runF m_Photo_at (gD (.ins "Photo" X :: ds) es) else fun _ => .no := by
  unfold methK; dsimp only; rw [if_pos ⟨rfl, hn⟩]
theorem ins_loop {R : List (List Str)} {X : List (Str × D)} (hX : dPh R = .ins "Photo" X) {Y : Int} {DR rw' : D} {mu : List O} (hR : DR = dRows R) (h1 : ixD (dRows R) (.int Y) = some (.fz rw')) : ∀ (l : List Str) (i : Nat), (∀ j s, l[j]? = some s → ixD rw' (.int ((i + j : Nat) : Int)) = some (.fz (.str s))) → ∀ x4 x5 : Option O, ∃ x4' x5',
    forL (gT [gN 4, gN 5]) (sIf (bOr (toB (xOp neD (xMeth "Photo" "at" m_Photo_at (fun ds _ => ds) 3 (nK []) (frz (xVar 0)) (aCons (frz (xVar 4)) (aCons (frz (xVar 2)) aNil)) aNil) (xRd 5))) (toB (xOp neD (xMeth "Photo" "at" m_Photo_at g_Photo_at_1_y_x 1 (nK ["y", "x"]) (frz (xVar 0)) aNil (aCons (frz (xVar 2)) (aCons (frz (xVar 4)) aNil))) (xRd 5))))
    (sRet (xC (.bl false)))
    sNil) (numD i (l.map D.str)) ⟨[some (.fz (.ins "Photo" X)), some (.fz DR), some (.fz (.int Y)), some (.fz rw'), x4, x5], mu⟩ = .ok .nx ⟨[some (.fz (.ins "Photo" X)), some (.fz DR), some (.fz (.int Y)), some (.fz rw'), x4', x5'], mu⟩
  | [], i, h, x4, x5 => ⟨x4, x5, rfl⟩
  | s :: l, i, h, x4, x5 => by
    obtain ⟨x4', x5', e⟩ := ins_loop hX (mu := mu) hR h1 l (i + 1) (fun j z hz => by
      have := h (j + 1) z (by simpa using hz)
      rw [show i + (j + 1) = i + 1 + j by omega] at this
      exact this) (some (.fz (.int (i : Nat)))) (some (.fz (.str s)))
    refine ⟨x4', x5', ?_⟩
    have h2 := h 0 s rfl
    rw [Nat.add_zero] at h2
    have at1 := fun mu => ph_at (R := R) (mu := mu) h1 h2
    rw [hX] at at1
    have hn : (X.map (fun z : Str × D => z.1)).contains ("at" : Str) = false := by cases hX; rfl
    have k1 := meth_at hn 3 (nK [])
    have k2 := meth_at hn 1 (nK ["y", "x"])
    have gk : ∀ a b c : D, g_Photo_at_1_y_x [a] [b, c] = [a, c, b] := fun _ _ _ => rfl
    have hd : decide (s = s) = true := decide_eq_true rfl
    rw [List.map_cons, numD, st_for1]
    have s1 : (sIf (bOr (toB (xOp neD (xMeth "Photo" "at" m_Photo_at (fun ds _ => ds) 3 (nK []) (frz (xVar 0)) (aCons (frz (xVar 4)) (aCons (frz (xVar 2)) aNil)) aNil) (xRd 5))) (toB (xOp neD (xMeth "Photo" "at" m_Photo_at g_Photo_at_1_y_x 1 (nK ["y", "x"]) (frz (xVar 0)) aNil (aCons (frz (xVar 2)) (aCons (frz (xVar 4)) aNil))) (xRd 5))))
    (sRet (xC (.bl false)))
    sNil) ⟨[some (.fz (.ins "Photo" X)), some (.fz DR), some (.fz (.int Y)), some (.fz rw'), some (.fz (.int (i : Nat))), some (.fz (.str s))], mu⟩ = .ok .nx ⟨[some (.fz (.ins "Photo" X)), some (.fz DR), some (.fz (.int Y)), some (.fz rw'), some (.fz (.int (i : Nat))), some (.fz (.str s))], mu⟩ := by
      clear e h h1 h2 hn hR hX
      generalize ((i : Nat) : Int) = I at *
      walk_at "spn"
    show (Tr.R.bind ((sIf (bOr (toB (xOp neD (xMeth "Photo" "at" m_Photo_at (fun ds _ => ds) 3 (nK []) (frz (xVar 0)) (aCons (frz (xVar 4)) (aCons (frz (xVar 2)) aNil)) aNil) (xRd 5))) (toB (xOp neD (xMeth "Photo" "at" m_Photo_at g_Photo_at_1_y_x 1 (nK ["y", "x"]) (frz (xVar 0)) aNil (aCons (frz (xVar 2)) (aCons (frz (xVar 4)) aNil))) (xRd 5))))
    (sRet (xC (.bl false)))
    sNil) ⟨[some (.fz (.ins "Photo" X)), some (.fz DR), some (.fz (.int Y)), some (.fz rw'), some (.fz (.int (i : Nat))), some (.fz (.str s))], mu⟩) _) = _
    rw [s1, st_bok, st_forn, e]
theorem outs_loop {R : List (List Str)} {X : List (Str × D)} (hX : dPh R = .ins "Photo" X) {mu : List O} : ∀ (l : List (List Str)) (i : Nat), (∀ j r, l[j]? = some r → ixD (dRows R) (.int ((i + j : Nat) : Int)) = some (.fz (dRow r))) → ∀ x2 x3 x4 x5 : Option O, ∃ x2' x3' x4' x5',
    forL (gT [gN 2, gN 3]) (sFor (mEnumA (aCons (frz (xVar 3)) aNil)) (gT [(gN 4), (gN 5)])
    (sIf (bOr (toB (xOp neD (xMeth "Photo" "at" m_Photo_at (fun ds _ => ds) 3 (nK []) (frz (xVar 0)) (aCons (frz (xVar 4)) (aCons (frz (xVar 2)) aNil)) aNil) (xRd 5))) (toB (xOp neD (xMeth "Photo" "at" m_Photo_at g_Photo_at_1_y_x 1 (nK ["y", "x"]) (frz (xVar 0)) aNil (aCons (frz (xVar 2)) (aCons (frz (xVar 4)) aNil))) (xRd 5))))
    (sRet (xC (.bl false)))
    sNil)) (numD i (l.map dRow)) ⟨[some (.fz (.ins "Photo" X)), some (.fz (dRows R)), x2, x3, x4, x5], mu⟩ = .ok .nx ⟨[some (.fz (.ins "Photo" X)), some (.fz (dRows R)), x2', x3', x4', x5'], mu⟩
  | [], i, h, x2, x3, x4, x5 => ⟨x2, x3, x4, x5, rfl⟩
  | r :: l, i, h, x2, x3, x4, x5 => by
    have h1 := h 0 r rfl
    rw [Nat.add_zero] at h1
    obtain ⟨y4, y5, e1⟩ := ins_loop hX (mu := mu) (DR := dRows R) rfl h1 r 0 (fun j s hs => by
      rw [Nat.zero_add]
      show ixD (.tup (r.map D.str)) _ = _
      rw [st_ixt, atN, List.getElem?_map, hs]; rfl) x4 x5
    obtain ⟨x2', x3', x4', x5', e⟩ := outs_loop hX (mu := mu) l (i + 1) (fun j z hz => by
      have := h (j + 1) z (by simpa using hz)
      rw [show i + (j + 1) = i + 1 + j by omega] at this
      exact this) (some (.fz (.int (i : Nat)))) (some (.fz (dRow r))) y4 y5
    refine ⟨x2', x3', x4', x5', ?_⟩
    rw [List.map_cons, numD, st_for1]
    have it : (mEnumA (aCons (frz (xVar 3)) aNil)) ⟨[some (.fz (.ins "Photo" X)), some (.fz (dRows R)), some (.fz (.int (i : Nat))), some (.fz (dRow r)), x4, x5], mu⟩ = .ok (numD 0 (r.map D.str)) ⟨[some (.fz (.ins "Photo" X)), some (.fz (dRows R)), some (.fz (.int (i : Nat))), some (.fz (dRow r)), x4, x5], mu⟩ := rfl
    show (Tr.R.bind ((sFor (mEnumA (aCons (frz (xVar 3)) aNil)) (gT [(gN 4), (gN 5)])
    (sIf (bOr (toB (xOp neD (xMeth "Photo" "at" m_Photo_at (fun ds _ => ds) 3 (nK []) (frz (xVar 0)) (aCons (frz (xVar 4)) (aCons (frz (xVar 2)) aNil)) aNil) (xRd 5))) (toB (xOp neD (xMeth "Photo" "at" m_Photo_at g_Photo_at_1_y_x 1 (nK ["y", "x"]) (frz (xVar 0)) aNil (aCons (frz (xVar 2)) (aCons (frz (xVar 4)) aNil))) (xRd 5))))
    (sRet (xC (.bl false)))
    sNil)) ⟨[some (.fz (.ins "Photo" X)), some (.fz (dRows R)), some (.fz (.int (i : Nat))), some (.fz (dRow r)), x4, x5], mu⟩) _) = _
    rw [st_for, it, st_bok, e1, st_bok, st_forn, e]
theorem told_ok {R : List (List Str)} {mu : List O} (h : RowsOk R) : m_law_told_right [dPh R, dRows R] mu = .ok (.fz (.bl true)) ⟨[], mu⟩ := by
  obtain ⟨X, hX⟩ : ∃ X, dPh R = .ins "Photo" X := ⟨_, rfl⟩
  obtain ⟨x2, x3, x4, x5, e2⟩ := outs_loop hX (mu := mu) R 0 (fun j r hj => by
    rw [Nat.zero_add]
    show ixD (.tup (R.map dRow)) _ = _
    rw [st_ixt, atN, List.getElem?_map, hj]; rfl) none none none none
  obtain ⟨s, hs, ls⟩ := rows_repr h
  have f1 : fldO CT "rows" (.fz (dPh R)) = some (.fz (dRows R)) := rfl
  have q1 := ne_rows (rows_strs h) (rows_strs h)
  have hRR : decide (R = R) = true := decide_eq_true rfl
  rw [hRR] at q1
  have r1 : ∀ env mu, runN [("Photo", m_Photo_len)] lenD (dPh R) ⟨env, mu⟩ = .ok (.fz (.int (R.length : Int))) ⟨env, mu⟩ := fun env mu => by
    show (match noExc (runF m_Photo_len [dPh R] ⟨env, mu⟩) with | .ok o s' => ofO (intB o) s' | _ => Tr.R.no) = _
    rw [st_runF, ph_len]
    show ofO (if 0 ≤ (R.length : Int) ∧ (R.length : Int) < 4611686018427387904 then some (O.fz (.int (R.length : Int))) else none) _ = _
    rw [if_pos (by have := h.1.2; omega)]; rfl
  have r2 : ∀ env mu, runS [("Photo", m_Photo_str)] strD (dPh R) ⟨env, mu⟩ = .ok (.fz (.str (strT R))) ⟨env, mu⟩ := fun env mu => by
    show (match noExc (runF m_Photo_str [dPh R] ⟨env, mu⟩) with | .ok o s' => ofO (strO o) s' | _ => Tr.R.no) = _
    rw [st_runF, ph_str h]; rfl
  have r3 : ∀ env mu, runS [("Photo", m_Photo_repr)] reprD (dPh R) ⟨env, mu⟩ = .ok (.fz (.str ("Photo(" ++ s ++ ")"))) ⟨env, mu⟩ := fun env mu => by
    show (match noExc (runF m_Photo_repr [dPh R] ⟨env, mu⟩) with | .ok o s' => ofO (strO o) s' | _ => Tr.R.no) = _
    rw [st_runF, ph_repr hs ls]; rfl
  have r4 : ∀ env mu, runS [("Photo", m_Photo_repr)] reprD (dRows R) ⟨env, mu⟩ = .ok (.fz (.str s)) ⟨env, mu⟩ := fun env mu => by
    show ofO (reprD (dRows R)) ⟨env, mu⟩ = _
    rw [hs]; rfl
  have sn : ∀ (tbl : List (Str × MF)) g (md : M D) env mu, xSn tbl g md ⟨env, mu⟩ = (md ⟨env, mu⟩).bind (runN tbl g) := fun _ _ _ _ _ => rfl
  have ll : lenD (dRows R) = some (.fz (.int (R.length : Int))) := by show some (O.fz (D.int ((R.map dRow).length : Nat))) = _; rw [List.length_map]
  have i1 : isiD [dRows R, .ty "tuple"] = some (.fz (.bl true)) := rfl
  have j := rows_join h
  have lc := lc_img (vs := [3]) (t := gN 3) (mt := ret true) (me := (frz (xM1 joinD (xC (.str " ")) (frz (xVar 3))))) (mu := mu) (env := [some (.fz (dPh R)), some (.fz (dRows R)), none, none, none, none]) dRow (fun r => .str (rowT r)) R (fun r hr => by
    obtain ⟨_, w, ⟨_, w9⟩, hw⟩ := h
    have j2 := row_join (hw r hr) w9
    refine ⟨[some (.fz (dPh R)), some (.fz (dRows R)), none, some (.fz (.tup (r.map D.str))), none, none], [some (.fz (dPh R)), some (.fz (dRows R)), none, some (.fz (.tup (r.map D.str))), none, none], [some (.fz (dPh R)), some (.fz (dRows R)), none, some (.fz (.tup (r.map D.str))), none, none], rfl, rfl, ?_, rfl, rfl⟩
    clear e2 hs f1 q1 r1 r2 r3 r4 sn ll i1 j hr hw hRR
    generalize dPh R = DP at *
    generalize dRows R = DR at *
    generalize r.map D.str = RR at *
    walk_at "spn")
  have ql : (R.map dRow).length ≤ 16777216 := by rw [List.length_map]; have := h.1.2; omega
  have a1 : ("Photo(" : Str).length = 6 := rfl
  have a2 : (")" : Str).length = 1 := rfl
  have n1 : ("Photo(" : Str).length + s.length ≤ 16777216 := by rw [a1]; omega
  have n2 : (("Photo(" : Str) ++ s).length + (")" : Str).length ≤ 16777216 := by rw [strLen_append, a1, a2]; omega
  have hst : decide (strT R = strT R) = true := decide_eq_true rfl
  have hsr : decide ("Photo(" ++ s ++ ")" = "Photo(" ++ s ++ ")") = true := decide_eq_true rfl
  have hNN : decide ((R.length : Int) = (R.length : Int)) = true := decide_eq_true rfl
  rw [hX] at f1 r1 r2 r3 lc ⊢
  clear a1 a2 hX h hs ls hRR
  have e0 : env0 6 [D.ins "Photo" X, dRows R] = [some (.fz (.ins "Photo" X)), some (.fz (dRows R)), none, none, none, none] := rfl
  have s0 : (sIf (bOr (toB (xOp neD (xFldF CT "rows" (xRd 0)) (xRd 1))) (bOr (toB (xOp neD (xSn [("Photo", m_Photo_len)] lenD (frz (xVar 0))) (xUn lenD (xRd 1)))) (bNot (toB (xCn isiD (aCons (frz (xFldF CT "rows" (xRd 0))) (aCons (ret (.ty "tuple")) aNil)))))))
    (sRet (xC (.bl false)))
    sNil) ⟨[some (.fz (.ins "Photo" X)), some (.fz (dRows R)), none, none, none, none], mu⟩ = .ok .nx ⟨[some (.fz (.ins "Photo" X)), some (.fz (dRows R)), none, none, none, none], mu⟩ := by
    clear e2 r2 r3 r4 j lc ql n1 n2 hst hsr e0
    show (sIf (bOr (toB (xOp neD (xFldF CT "rows" (xRd 0)) (xRd 1))) (bOr (toB (xOp neD (xSn [("Photo", m_Photo_len)] lenD (frz (xVar 0))) (xUn lenD (xRd 1)))) (bNot (toB (xCn isiD (aCons (frz (xFldF CT "rows" (xRd 0))) (aCons (ret (.ty "tuple")) aNil)))))))
    (sRet (xC (.bl false)))
    sNil) ⟨[some (.fz (.ins "Photo" X)), some (.fz (.tup (R.map dRow))), none, none, none, none], mu⟩ = .ok .nx ⟨[some (.fz (.ins "Photo" X)), some (.fz (.tup (R.map dRow))), none, none, none, none], mu⟩
    simp only [dRows] at f1 q1 r1 ll i1
    generalize (R.length : Int) = N at *
    generalize R.map dRow = DR at *
    walk_at "spn"
  have s1 : (sIf (bOr (toB (xOp neD (xSp [("Photo", m_Photo_str)] strD (frz (xVar 0))) (xM1 joinD (xC (.str "\n")) (frz (xLc [3] (mSeq (frz (xVar 1))) (gN 3) (ret true) (frz (xM1 joinD (xC (.str " ")) (frz (xVar 3))))))))) (toB (xOp neD (xSp [("Photo", m_Photo_repr)] reprD (frz (xVar 0))) (xOp addD (xOp addD (xC (.str "Photo(")) (xSp [("Photo", m_Photo_repr)] reprD (frz (xVar 1)))) (xC (.str ")"))))))
    (sRet (xC (.bl false)))
    sNil) ⟨[some (.fz (.ins "Photo" X)), some (.fz (dRows R)), none, none, none, none], mu⟩ = .ok .nx ⟨[some (.fz (.ins "Photo" X)), some (.fz (dRows R)), none, none, none, none], mu⟩ := by
    clear e2 r1 f1 q1 ll i1 hNN e0 s0
    show (sIf (bOr (toB (xOp neD (xSp [("Photo", m_Photo_str)] strD (frz (xVar 0))) (xM1 joinD (xC (.str "\n")) (frz (xLc [3] (mSeq (frz (xVar 1))) (gN 3) (ret true) (frz (xM1 joinD (xC (.str " ")) (frz (xVar 3))))))))) (toB (xOp neD (xSp [("Photo", m_Photo_repr)] reprD (frz (xVar 0))) (xOp addD (xOp addD (xC (.str "Photo(")) (xSp [("Photo", m_Photo_repr)] reprD (frz (xVar 1)))) (xC (.str ")"))))))
    (sRet (xC (.bl false)))
    sNil) ⟨[some (.fz (.ins "Photo" X)), some (.fz (.tup (R.map dRow))), none, none, none, none], mu⟩ = .ok .nx ⟨[some (.fz (.ins "Photo" X)), some (.fz (.tup (R.map dRow))), none, none, none, none], mu⟩
    simp only [dRows] at r2 r3 r4 lc
    generalize (R.map fun r => D.str (rowT r)) = A at *
    generalize R.map dRow = DR at *
    generalize strT R = TT at *
    walk_at "spn"
  have it : (mEnumA (aCons (frz (xVar 1)) aNil)) ⟨[some (.fz (.ins "Photo" X)), some (.fz (dRows R)), none, none, none, none], mu⟩ = .ok (numD 0 (R.map dRow)) ⟨[some (.fz (.ins "Photo" X)), some (.fz (dRows R)), none, none, none, none], mu⟩ := rfl
  unfold m_law_told_right
  rw [st_fnM, e0, st_seq, s0, st_bok, st_seqn, st_seq, s1, st_bok, st_seqn, st_seq, st_for, it, st_bok, e2, st_bok, st_seqn]
  rfl
noncomputable abbrev TB : ETab := [("Photo", (m_Photo_eq, p_Photo_eq))]
theorem pEq {R S : List (List Str)} (h1 : ∀ r ∈ R, StrsOk r) (h2 : ∀ r ∈ S, StrsOk r) : p_Photo_eq (dPh R) (dPh S) = some (decide (R = S)) := by
  unfold p_Photo_eq
  rw [photoOf_ph h1]
  show (photoOf (dPh S)).map (fun b => decide (R = b)) = _
  rw [photoOf_ph h2]; rfl
theorem eq_ph {R S : List (List Str)} (h1 : ∀ r ∈ R, StrsOk r) (h2 : ∀ r ∈ S, StrsOk r) : eqP TB (dPh R) (dPh S) = some (decide (R = S)) := by
  show p_Photo_eq (dPh R) (dPh S) = _
  exact pEq h1 h2
def Alien (d : D) : Prop := insOf d = none ∧ (clsName d).isSome = true ∧ okL d = true ∧ okR TB d = true
theorem pNo {R : List (List Str)} {d : D} (h1 : ∀ r ∈ R, StrsOk r) (h : Alien d) : p_Photo_eq (dPh R) d = some false := by
  unfold p_Photo_eq
  rw [photoOf_ph h1]
  show (match insOf d with
    | none => if (clsName d).isSome = true then some false else none
    | some _ => (photoOf d).map fun b => decide (R = b)) = _
  rw [h.1]
  dsimp only
  rw [if_pos h.2.1]
theorem eq_no {R : List (List Str)} {d : D} (h1 : ∀ r ∈ R, StrsOk r) (h : Alien d) : eqP TB (dPh R) d = some false ∧ eqP TB d (dPh R) = some false ∧ inPT TB (dPh R) (.lst [d]) = some false := by
  have a : eqP TB (dPh R) d = some false := by
    show (if okR TB d = true then p_Photo_eq (dPh R) d else none) = _
    rw [if_pos h.2.2.2, pNo h1 h]
  have b : eqP TB d (dPh R) = some false := by
    unfold eqP
    rw [h.1]
    show (if okL d = true then p_Photo_eq (dPh R) d else none) = _
    rw [if_pos h.2.2.1, pNo h1 h]
  refine ⟨a, b, ?_⟩
  show ((itP TB d (dPh R)).bind fun b => if b = true then some true else some false) = _
  unfold itP
  rw [if_pos (.inr rfl), b]; rfl
theorem in_both {R : List (List Str)} (h1 : ∀ r ∈ R, StrsOk r) : inPT TB (dPh R) (.lst [.non, dPh R]) = some true ∧ inPT TB (dPh R) (.tup [dPh R, .int 3]) = some true := by
  have e := eq_ph h1 h1
  rw [decide_eq_true rfl] at e
  have n := (eq_no h1 (d := .non) ⟨rfl, rfl, rfl, rfl⟩).2.1
  constructor
  · show ((itP TB .non (dPh R)).bind fun b => if b = true then some true else (itP TB (dPh R) (dPh R)).bind fun b => if b = true then some true else some false) = _
    unfold itP
    rw [if_pos (.inr rfl), n, if_pos (.inr rfl), e]; rfl
  · show ((itP TB (dPh R) (dPh R)).bind fun b => if b = true then some true else (itP TB (.int 3) (dPh R)).bind fun b => if b = true then some true else some false) = _
    unfold itP
    rw [if_pos (.inr rfl), e]; rfl
theorem bools (a : Bool) : neD (.lst [.bl a, .bl a, .bl (!a), .bl (!a)]) (.lst [.bl a, .bl a, .bl (!a), .bl (!a)]) = some (.fz (.bl false)) := by cases a <;> rfl
theorem more_loop {R : List (List Str)} (hR : RowsOk R) {k : Nat} {x0 x2 x5 : Option O} : ∀ (ds : List D) (mu : List O) (n : Nat) (x4 x8 x9 x10 : Option O), WellAt mu k n → n + 40 * ds.length ≤ 200000000 →
    ∃ mu' x4' x8' x9' x10', forL (gN 4) (sSeq (sAsg 8 (xCall m_law_other_rows (fun ds _ => ds) 2 (nK []) (aCons (frz (xVar 1)) (aCons (frz (xVar 3)) aNil)) aNil))
    (sSeq (sAsg 9 (xCall m_Photo_init (fun ds _ => ds) 1 (nK []) (aCons (frz (xVar 8)) aNil) aNil))
    (sSeq (sAsg 10 (xOp eqD (xBor 8) (xRd 3)))
    (sIf (toB (xOp neD (xLst (aCons (frz (xEqO [("Photo", (m_Photo_eq, p_Photo_eq))] false (frz (xVar 6)) (frz (xVar 9)))) (aCons (frz (xEqO [("Photo", (m_Photo_eq, p_Photo_eq))] false (frz (xVar 9)) (frz (xVar 6)))) (aCons (frz (xEqO [("Photo", (m_Photo_eq, p_Photo_eq))] true (frz (xVar 6)) (frz (xVar 9)))) (aCons (frz (xEqO [("Photo", (m_Photo_eq, p_Photo_eq))] true (frz (xVar 9)) (frz (xVar 6)))) aNil))))) (xLst (aCons (frz (xVar 10)) (aCons (frz (xVar 10)) (aCons (frz (xNotV (xVar 10))) (aCons (frz (xNotV (xVar 10))) aNil)))))))
    (sRet (xC (.bl false)))
    sNil)))) ds ⟨[x0, some (.fz (.cel k)), x2, some (.fz (dRows R)), x4, x5, some (.fz (dPh R)), some (.fz (dPh R)), x8, x9, x10, none], mu⟩ = .ok .nx ⟨[x0, some (.fz (.cel k)), x2, some (.fz (dRows R)), x4', x5, some (.fz (dPh R)), some (.fz (dPh R)), x8', x9', x10', none], mu'⟩ ∧ WellAt mu' k (n + 40 * ds.length)
  | [], mu, n, x4, x8, x9, x10, h, _ => ⟨mu, x4, x8, x9, x10, rfl, h⟩
  | d :: ds, mu, n, x4, x8, x9, x10, h, hn => by
    rw [List.length_cons] at hn
    obtain ⟨S, mu1, e1, hS, p1⟩ := other_rows_ok h hR (by omega)
    have e2 := fun mu => ph_ok (mu := mu) hS
    obtain ⟨mu', x4', x8', x9', x10', e, p⟩ := more_loop hR (x0 := x0) (x2 := x2) (x5 := x5) ds mu1 (n + 40) (some (.fz d)) (some (.fz (dRows S))) (some (.fz (dPh S))) (some (.fz (.bl (decide (S = R))))) p1 (by omega)
    refine ⟨mu', x4', x8', x9', x10', ?_, by rw [List.length_cons]; rw [show n + 40 * (ds.length + 1) = n + 40 + 40 * ds.length by omega]; exact p⟩
    have q1 := eq_ph (rows_strs hR) (rows_strs hS)
    have q2 := eq_ph (rows_strs hS) (rows_strs hR)
    have q3 := eq_rows (rows_strs hS) (rows_strs hR)
    have sy : decide (R = S) = decide (S = R) := by
      by_cases h : S = R
      · rw [decide_eq_true h, decide_eq_true h.symm]
      · rw [decide_eq_false h, decide_eq_false fun e => h e.symm]
    rw [sy] at q1
    generalize decide (S = R) = z at *
    obtain ⟨X, hX, hT⟩ : ∃ X, dPh S = .ins "Photo" X ∧ O.toDf (phF S) = X := ⟨_, rfl, by simp only [phF, st_tdc, st_tdf, st_tdn]⟩
    rw [hX] at q1 q2 e
    have b0 : (z != false) = z := by cases z <;> rfl
    have b1 : (z != true) = !z := by cases z <;> rfl
    have bz := bools z
    have z4 : (4 : Nat) ≤ 16777216 := by decide
    rw [st_for1, st_gN]
    simp only [setS_4]
    clear h p p1 hX sy hS hn
    have s1 : (sSeq (sAsg 8 (xCall m_law_other_rows (fun ds _ => ds) 2 (nK []) (aCons (frz (xVar 1)) (aCons (frz (xVar 3)) aNil)) aNil))
    (sSeq (sAsg 9 (xCall m_Photo_init (fun ds _ => ds) 1 (nK []) (aCons (frz (xVar 8)) aNil) aNil))
    (sSeq (sAsg 10 (xOp eqD (xBor 8) (xRd 3)))
    (sIf (toB (xOp neD (xLst (aCons (frz (xEqO [("Photo", (m_Photo_eq, p_Photo_eq))] false (frz (xVar 6)) (frz (xVar 9)))) (aCons (frz (xEqO [("Photo", (m_Photo_eq, p_Photo_eq))] false (frz (xVar 9)) (frz (xVar 6)))) (aCons (frz (xEqO [("Photo", (m_Photo_eq, p_Photo_eq))] true (frz (xVar 6)) (frz (xVar 9)))) (aCons (frz (xEqO [("Photo", (m_Photo_eq, p_Photo_eq))] true (frz (xVar 9)) (frz (xVar 6)))) aNil))))) (xLst (aCons (frz (xVar 10)) (aCons (frz (xVar 10)) (aCons (frz (xNotV (xVar 10))) (aCons (frz (xNotV (xVar 10))) aNil)))))))
    (sRet (xC (.bl false)))
    sNil)))) ⟨[x0, some (.fz (.cel k)), x2, some (.fz (dRows R)), some (.fz d), x5, some (.fz (dPh R)), some (.fz (dPh R)), x8, x9, x10, none], mu⟩ = .ok .nx ⟨[x0, some (.fz (.cel k)), x2, some (.fz (dRows R)), some (.fz d), x5, some (.fz (dPh R)), some (.fz (dPh R)), some (.fz (dRows S)), some (.fz (.ins "Photo" X)), some (.fz (.bl z)), none], mu1⟩ := by
      clear e
      obtain ⟨Y, hY⟩ : ∃ Y, dPh R = .ins "Photo" Y := ⟨_, rfl⟩
      rw [hY] at q1 q2 ⊢
      clear hY hR
      show (sSeq (sAsg 8 (xCall m_law_other_rows (fun ds _ => ds) 2 (nK []) (aCons (frz (xVar 1)) (aCons (frz (xVar 3)) aNil)) aNil))
    (sSeq (sAsg 9 (xCall m_Photo_init (fun ds _ => ds) 1 (nK []) (aCons (frz (xVar 8)) aNil) aNil))
    (sSeq (sAsg 10 (xOp eqD (xBor 8) (xRd 3)))
    (sIf (toB (xOp neD (xLst (aCons (frz (xEqO [("Photo", (m_Photo_eq, p_Photo_eq))] false (frz (xVar 6)) (frz (xVar 9)))) (aCons (frz (xEqO [("Photo", (m_Photo_eq, p_Photo_eq))] false (frz (xVar 9)) (frz (xVar 6)))) (aCons (frz (xEqO [("Photo", (m_Photo_eq, p_Photo_eq))] true (frz (xVar 6)) (frz (xVar 9)))) (aCons (frz (xEqO [("Photo", (m_Photo_eq, p_Photo_eq))] true (frz (xVar 9)) (frz (xVar 6)))) aNil))))) (xLst (aCons (frz (xVar 10)) (aCons (frz (xVar 10)) (aCons (frz (xNotV (xVar 10))) (aCons (frz (xNotV (xVar 10))) aNil)))))))
    (sRet (xC (.bl false)))
    sNil)))) ⟨[x0, some (.fz (.cel k)), x2, some (.fz (.tup (R.map dRow))), some (.fz d), x5, some (.fz (.ins "Photo" Y)), some (.fz (.ins "Photo" Y)), x8, x9, x10, none], mu⟩ = .ok .nx ⟨[x0, some (.fz (.cel k)), x2, some (.fz (.tup (R.map dRow))), some (.fz d), x5, some (.fz (.ins "Photo" Y)), some (.fz (.ins "Photo" Y)), some (.fz (.tup (S.map dRow))), some (.fz (.ins "Photo" X)), some (.fz (.bl z)), none], mu1⟩
      simp only [dRows] at e1 e2 q3
      generalize phF S = F at *
      generalize R.map dRow = A at *
      generalize S.map dRow = B at *
      walk_at "spn"
    rw [s1, st_bok, st_forn, e]
theorem thing_loop {R : List (List Str)} {x0 x1 x2 x3 x4 x7 x8 x9 x10 x11 : Option O} {mu : List O} : ∀ (ds : List D) (x5 : Option O), (∀ d ∈ ds, eqP TB (dPh R) d = some false ∧ eqP TB d (dPh R) = some false ∧ inPT TB (dPh R) (.lst [d]) = some false) →
    ∃ x5', forL (gN 5) (sIf (bOr (toB (xEqO [("Photo", (m_Photo_eq, p_Photo_eq))] false (frz (xVar 6)) (frz (xVar 5)))) (bOr (bNot (toB (xEqO [("Photo", (m_Photo_eq, p_Photo_eq))] true (frz (xVar 6)) (frz (xVar 5))))) (bOr (toB (xEqO [("Photo", (m_Photo_eq, p_Photo_eq))] false (frz (xVar 5)) (frz (xVar 6)))) (toB (xInO [("Photo", (m_Photo_eq, p_Photo_eq))] false (frz (xVar 6)) (frz (xLst (aCons (frz (xVar 5)) aNil))))))))
    (sRet (xC (.bl false)))
    sNil) ds ⟨[x0, x1, x2, x3, x4, x5, some (.fz (dPh R)), x7, x8, x9, x10, x11], mu⟩ = .ok .nx ⟨[x0, x1, x2, x3, x4, x5', some (.fz (dPh R)), x7, x8, x9, x10, x11], mu⟩
  | [], x5, _ => ⟨x5, rfl⟩
  | d :: ds, x5, h => by
    obtain ⟨x5', e⟩ := thing_loop ds (some (.fz d)) (fun z hz => h z (List.mem_cons_of_mem _ hz))
    obtain ⟨h1, h2, h3⟩ := h d List.mem_cons_self
    refine ⟨x5', ?_⟩
    rw [st_for1, st_gN]
    simp only [setS_5]
    have b0 : (false != false) = false := rfl
    have b1 : (false != true) = true := rfl
    have z1 : (1 : Nat) ≤ 16777216 := by decide
    have s1 : (sIf (bOr (toB (xEqO [("Photo", (m_Photo_eq, p_Photo_eq))] false (frz (xVar 6)) (frz (xVar 5)))) (bOr (bNot (toB (xEqO [("Photo", (m_Photo_eq, p_Photo_eq))] true (frz (xVar 6)) (frz (xVar 5))))) (bOr (toB (xEqO [("Photo", (m_Photo_eq, p_Photo_eq))] false (frz (xVar 5)) (frz (xVar 6)))) (toB (xInO [("Photo", (m_Photo_eq, p_Photo_eq))] false (frz (xVar 6)) (frz (xLst (aCons (frz (xVar 5)) aNil))))))))
    (sRet (xC (.bl false)))
    sNil) ⟨[x0, x1, x2, x3, x4, some (.fz d), some (.fz (dPh R)), x7, x8, x9, x10, x11], mu⟩ = .ok .nx ⟨[x0, x1, x2, x3, x4, some (.fz d), some (.fz (dPh R)), x7, x8, x9, x10, x11], mu⟩ := by
      clear e h
      obtain ⟨Y, hY⟩ : ∃ Y, dPh R = .ins "Photo" Y := ⟨_, rfl⟩
      rw [hY] at h1 h2 h3 ⊢
      clear hY
      walk_at "spn"
    rw [s1, st_bok, st_forn, e]
theorem again_lc {R : List (List Str)} {x0 x1 x2 x3 x4 x5 x6 x7 x8 x9 x10 : Option O} {mu : List O} : lcL [11] (gN 11) (ret true) (frz (xUn tupleD (xUn listD (xRd 11)))) (R.map dRow) ⟨[x0, x1, x2, x3, x4, x5, x6, x7, x8, x9, x10, none], mu⟩ = .ok (R.map dRow) ⟨[x0, x1, x2, x3, x4, x5, x6, x7, x8, x9, x10, none], mu⟩ :=
  lc_img dRow dRow R fun r _ => by
    refine ⟨[x0, x1, x2, x3, x4, x5, x6, x7, x8, x9, x10, some (.fz (.tup (r.map D.str)))], [x0, x1, x2, x3, x4, x5, x6, x7, x8, x9, x10, some (.fz (.tup (r.map D.str)))], [x0, x1, x2, x3, x4, x5, x6, x7, x8, x9, x10, some (.fz (.tup (r.map D.str)))], rfl, rfl, ?_, rfl, rfl⟩
    have l1 : listD (.tup (r.map D.str)) = some (.lst (r.map D.str)) := rfl
    have l2 : tupleD (.lst (r.map D.str)) = some (.fz (.tup (r.map D.str))) := rfl
    show _ = Tr.R.ok (D.tup (r.map D.str)) _
    generalize r.map D.str = RR at *
    walk_at "spn"
theorem tour_step {k : Nat} {x0 : Option O} (t : D) (mu : List O) (n : Nat) (x3 x4 x5 x6 x7 x8 x9 x10 : Option O) (h : WellAt mu k n) (hn : n ≤ 100000000) :
    ∃ mu' x3' x4' x5' x6' x7' x8' x9' x10', (sSeq (sAsg 3 (xCall m_law_any_rows (fun ds _ => ds) 1 (nK []) (aCons (frz (xVar 1)) aNil) aNil))
    (sSeq (sPar 6 7 (oCons (xCall m_Photo_init (fun ds _ => ds) 1 (nK []) (aCons (frz (xVar 3)) aNil) aNil) (oCons (xCall m_Photo_init g_Photo_init_1_rows 0 (nK ["rows"]) aNil (aCons (frz (xUn tupleD (xLc [11] (mSeq (frz (xVar 3))) (gN 11) (ret true) (frz (xUn tupleD (xUn listD (xRd 11))))))) aNil)) oNil)))
    (sSeq (sIf (bOr (bNot (toB (xCall m_law_told_right (fun ds _ => ds) 2 (nK []) (aCons (frz (xVar 6)) (aCons (frz (xVar 3)) aNil)) aNil))) (bNot (toB (xCall m_law_told_right (fun ds _ => ds) 2 (nK []) (aCons (frz (xVar 7)) (aCons (frz (xVar 3)) aNil)) aNil))))
    (sRet (xC (.bl false)))
    sNil)
    (sSeq (sIf (bOr (bNot (toB (xEqO [("Photo", (m_Photo_eq, p_Photo_eq))] false (frz (xVar 6)) (frz (xVar 7))))) (bOr (toB (xEqO [("Photo", (m_Photo_eq, p_Photo_eq))] true (frz (xVar 6)) (frz (xVar 7)))) (bOr (toB (xInO [("Photo", (m_Photo_eq, p_Photo_eq))] true (frz (xVar 6)) (frz (xLst (aCons (frz (xC .non)) (aCons (frz (xVar 7)) aNil)))))) (toB (xInO [("Photo", (m_Photo_eq, p_Photo_eq))] true (frz (xVar 7)) (frz (xTup (aCons (frz (xVar 6)) (aCons (frz (xC (.int 3))) aNil)))))))))
    (sRet (xC (.bl false)))
    sNil)
    (sSeq (sFor (mRng1 (aCons (frz (xC (.int 4))) aNil)) (gN 4)
    (sSeq (sAsg 8 (xCall m_law_other_rows (fun ds _ => ds) 2 (nK []) (aCons (frz (xVar 1)) (aCons (frz (xVar 3)) aNil)) aNil))
    (sSeq (sAsg 9 (xCall m_Photo_init (fun ds _ => ds) 1 (nK []) (aCons (frz (xVar 8)) aNil) aNil))
    (sSeq (sAsg 10 (xOp eqD (xBor 8) (xRd 3)))
    (sIf (toB (xOp neD (xLst (aCons (frz (xEqO [("Photo", (m_Photo_eq, p_Photo_eq))] false (frz (xVar 6)) (frz (xVar 9)))) (aCons (frz (xEqO [("Photo", (m_Photo_eq, p_Photo_eq))] false (frz (xVar 9)) (frz (xVar 6)))) (aCons (frz (xEqO [("Photo", (m_Photo_eq, p_Photo_eq))] true (frz (xVar 6)) (frz (xVar 9)))) (aCons (frz (xEqO [("Photo", (m_Photo_eq, p_Photo_eq))] true (frz (xVar 9)) (frz (xVar 6)))) aNil))))) (xLst (aCons (frz (xVar 10)) (aCons (frz (xVar 10)) (aCons (frz (xNotV (xVar 10))) (aCons (frz (xNotV (xVar 10))) aNil)))))))
    (sRet (xC (.bl false)))
    sNil)))))
    (sFor (mSeq (frz (xLst (aCons (frz (xVar 3)) (aCons (frz (xSp [("Photo", m_Photo_str)] strD (frz (xVar 6)))) (aCons (frz (xC .non)) (aCons (frz (xSn [("Photo", m_Photo_len)] lenD (frz (xVar 6)))) (aCons (frz (xLst (aCons (frz (xVar 6)) aNil))) (aCons (frz (xTup (aCons (frz (xVar 6)) aNil))) (aCons (frz (xSp [("Photo", m_Photo_repr)] reprD (frz (xVar 6)))) (aCons (frz (xUn listD (xRd 3))) (aCons (frz (xC (.bl true))) aNil)))))))))))) (gN 5)
    (sIf (bOr (toB (xEqO [("Photo", (m_Photo_eq, p_Photo_eq))] false (frz (xVar 6)) (frz (xVar 5)))) (bOr (bNot (toB (xEqO [("Photo", (m_Photo_eq, p_Photo_eq))] true (frz (xVar 6)) (frz (xVar 5))))) (bOr (toB (xEqO [("Photo", (m_Photo_eq, p_Photo_eq))] false (frz (xVar 5)) (frz (xVar 6)))) (toB (xInO [("Photo", (m_Photo_eq, p_Photo_eq))] false (frz (xVar 6)) (frz (xLst (aCons (frz (xVar 5)) aNil))))))))
    (sRet (xC (.bl false)))
    sNil))))))) ⟨[x0, some (.fz (.cel k)), some (.fz t), x3, x4, x5, x6, x7, x8, x9, x10, none], mu⟩ = .ok .nx ⟨[x0, some (.fz (.cel k)), some (.fz t), x3', x4', x5', x6', x7', x8', x9', x10', none], mu'⟩ ∧ WellAt mu' k (n + 4000) := by
  obtain ⟨R, mu1, e1, hR, p1⟩ := any_rows_ok h (by omega)
  have e2 := fun mu => ph_ok (mu := mu) hR
  have e3 := fun mu => told_ok (mu := mu) hR
  have gk : ∀ a : D, g_Photo_init_1_rows [] [a] = [a] := fun _ => rfl
  have ag := fun (a b c d e f g h i : Option O) => again_lc (R := R) (x0 := x0) (x1 := some (.fz (.cel k))) (x2 := some (.fz t)) (x3 := some (.fz (dRows R))) (x4 := x4) (x5 := x5) (x6 := x6) (x7 := x7) (x8 := x8) (x9 := x9) (x10 := x10) (mu := mu1)
  have tq : tupleD (.lst (R.map dRow)) = some (.fz (.tup (R.map dRow))) := rfl
  have ql : (R.map dRow).length ≤ 16777216 := by rw [List.length_map]; have := hR.1.2; omega
  obtain ⟨mu2, z4, z8, z9, z10, e4, p4⟩ := more_loop hR (x0 := x0) (x2 := some (.fz t)) (x5 := x5) (rngL 0 4) mu1 (n + 3000) x4 x8 x9 x10 p1 (by show n + 3000 + 40 * 4 ≤ 200000000; omega)
  obtain ⟨s, hs, ls⟩ := rows_repr hR
  have st := rows_strs hR
  have al : ∀ d ∈ [dRows R, D.str (strT R), .non, .int (R.length : Int), .lst [dPh R], .tup [dPh R], .str ("Photo(" ++ s ++ ")"), .lst (R.map dRow), .bl true], eqP TB (dPh R) d = some false ∧ eqP TB d (dPh R) = some false ∧ inPT TB (dPh R) (.lst [d]) = some false := fun d hd => by
    refine eq_no st ?_
    simp only [List.mem_cons, List.not_mem_nil, or_false] at hd
    rcases hd with rfl | rfl | rfl | rfl | rfl | rfl | rfl | rfl | rfl <;> exact ⟨rfl, rfl, rfl, rfl⟩
  obtain ⟨z5, e5⟩ := thing_loop (R := R) (x0 := x0) (x1 := some (.fz (.cel k))) (x2 := some (.fz t)) (x3 := some (.fz (dRows R))) (x4 := z4) (x7 := some (.fz (dPh R))) (x8 := z8) (x9 := z9) (x10 := z10) (x11 := none) (mu := mu2) _ x5 al
  refine ⟨mu2, some (.fz (dRows R)), z4, z5, some (.fz (dPh R)), some (.fz (dPh R)), z8, z9, z10, ?_, p4.mono (by show n + 3000 + 40 * 4 ≤ n + 4000; omega)⟩
  have q1 := eq_ph st st
  rw [decide_eq_true rfl] at q1
  obtain ⟨q2, q3⟩ := in_both st
  have b0 : (true != false) = true := rfl
  have b1 : (true != true) = false := rfl
  have r1 : ∀ env mu, runN [("Photo", m_Photo_len)] lenD (dPh R) ⟨env, mu⟩ = .ok (.fz (.int (R.length : Int))) ⟨env, mu⟩ := fun env mu => by
    show (match noExc (runF m_Photo_len [dPh R] ⟨env, mu⟩) with | .ok o s' => ofO (intB o) s' | _ => Tr.R.no) = _
    rw [st_runF, ph_len]
    show ofO (if 0 ≤ (R.length : Int) ∧ (R.length : Int) < 4611686018427387904 then some (O.fz (.int (R.length : Int))) else none) _ = _
    rw [if_pos (by have := hR.1.2; omega)]; rfl
  have r2 : ∀ env mu, runS [("Photo", m_Photo_str)] strD (dPh R) ⟨env, mu⟩ = .ok (.fz (.str (strT R))) ⟨env, mu⟩ := fun env mu => by
    show (match noExc (runF m_Photo_str [dPh R] ⟨env, mu⟩) with | .ok o s' => ofO (strO o) s' | _ => Tr.R.no) = _
    rw [st_runF, ph_str hR]; rfl
  have r3 : ∀ env mu, runS [("Photo", m_Photo_repr)] reprD (dPh R) ⟨env, mu⟩ = .ok (.fz (.str ("Photo(" ++ s ++ ")"))) ⟨env, mu⟩ := fun env mu => by
    show (match noExc (runF m_Photo_repr [dPh R] ⟨env, mu⟩) with | .ok o s' => ofO (strO o) s' | _ => Tr.R.no) = _
    rw [st_runF, ph_repr hs ls]; rfl
  have sn : ∀ (tbl : List (Str × MF)) g (md : M D) env mu, xSn tbl g md ⟨env, mu⟩ = (md ⟨env, mu⟩).bind (runN tbl g) := fun _ _ _ _ _ => rfl
  have ld : listD (.tup (R.map dRow)) = some (.lst (R.map dRow)) := rfl
  obtain ⟨X, hX, hT⟩ : ∃ X, dPh R = .ins "Photo" X ∧ O.toDf (phF R) = X := ⟨_, rfl, by simp only [phF, st_tdc, st_tdf, st_tdn]⟩
  rw [hX] at e3 e4 e5 q1 q2 q3 r1 r2 r3 ⊢
  clear al hX p1 p4 h hn hs ls st hR
  have ag := ag none none none none none none none none none
  have s0 : (sAsg 3 (xCall m_law_any_rows (fun ds _ => ds) 1 (nK []) (aCons (frz (xVar 1)) aNil) aNil)) ⟨[x0, some (.fz (.cel k)), some (.fz t), x3, x4, x5, x6, x7, x8, x9, x10, none], mu⟩ = .ok .nx ⟨[x0, some (.fz (.cel k)), some (.fz t), some (.fz (dRows R)), x4, x5, x6, x7, x8, x9, x10, none], mu1⟩ := by
    clear e2 e3 e4 e5 q1 q2 q3 r1 r2 r3 ag
    generalize dRows R = DR at *
    walk_at "spn"
  have s1 : (sPar 6 7 (oCons (xCall m_Photo_init (fun ds _ => ds) 1 (nK []) (aCons (frz (xVar 3)) aNil) aNil) (oCons (xCall m_Photo_init g_Photo_init_1_rows 0 (nK ["rows"]) aNil (aCons (frz (xUn tupleD (xLc [11] (mSeq (frz (xVar 3))) (gN 11) (ret true) (frz (xUn tupleD (xUn listD (xRd 11))))))) aNil)) oNil))) ⟨[x0, some (.fz (.cel k)), some (.fz t), some (.fz (dRows R)), x4, x5, x6, x7, x8, x9, x10, none], mu1⟩ = .ok .nx ⟨[x0, some (.fz (.cel k)), some (.fz t), some (.fz (dRows R)), x4, x5, some (.ins "Photo" (phF R)), some (.ins "Photo" (phF R)), x8, x9, x10, none], mu1⟩ := by
    clear e1 e3 e4 e5 q1 q2 q3 r1 r2 r3 s0
    show (sPar 6 7 (oCons (xCall m_Photo_init (fun ds _ => ds) 1 (nK []) (aCons (frz (xVar 3)) aNil) aNil) (oCons (xCall m_Photo_init g_Photo_init_1_rows 0 (nK ["rows"]) aNil (aCons (frz (xUn tupleD (xLc [11] (mSeq (frz (xVar 3))) (gN 11) (ret true) (frz (xUn tupleD (xUn listD (xRd 11))))))) aNil)) oNil))) ⟨[x0, some (.fz (.cel k)), some (.fz t), some (.fz (.tup (R.map dRow))), x4, x5, x6, x7, x8, x9, x10, none], mu1⟩ = .ok .nx ⟨[x0, some (.fz (.cel k)), some (.fz t), some (.fz (.tup (R.map dRow))), x4, x5, some (.ins "Photo" (phF R)), some (.ins "Photo" (phF R)), x8, x9, x10, none], mu1⟩
    simp only [dRows] at ag e2
    generalize phF R = F at *
    generalize R.map dRow = DR at *
    walk_at "spn"
  have s2 : (sIf (bOr (bNot (toB (xCall m_law_told_right (fun ds _ => ds) 2 (nK []) (aCons (frz (xVar 6)) (aCons (frz (xVar 3)) aNil)) aNil))) (bNot (toB (xCall m_law_told_right (fun ds _ => ds) 2 (nK []) (aCons (frz (xVar 7)) (aCons (frz (xVar 3)) aNil)) aNil))))
    (sRet (xC (.bl false)))
    sNil) ⟨[x0, some (.fz (.cel k)), some (.fz t), some (.fz (dRows R)), x4, x5, some (.ins "Photo" (phF R)), some (.ins "Photo" (phF R)), x8, x9, x10, none], mu1⟩ = .ok .nx ⟨[x0, some (.fz (.cel k)), some (.fz t), some (.fz (dRows R)), x4, x5, some (.fz (.ins "Photo" X)), some (.fz (.ins "Photo" X)), x8, x9, x10, none], mu1⟩ := by
    clear e1 e2 e4 e5 q1 q2 q3 r1 r2 r3 s0 s1 ag
    generalize phF R = F at *
    generalize dRows R = DR at *
    walk_at "spn"
  have s3 : (sIf (bOr (bNot (toB (xEqO [("Photo", (m_Photo_eq, p_Photo_eq))] false (frz (xVar 6)) (frz (xVar 7))))) (bOr (toB (xEqO [("Photo", (m_Photo_eq, p_Photo_eq))] true (frz (xVar 6)) (frz (xVar 7)))) (bOr (toB (xInO [("Photo", (m_Photo_eq, p_Photo_eq))] true (frz (xVar 6)) (frz (xLst (aCons (frz (xC .non)) (aCons (frz (xVar 7)) aNil)))))) (toB (xInO [("Photo", (m_Photo_eq, p_Photo_eq))] true (frz (xVar 7)) (frz (xTup (aCons (frz (xVar 6)) (aCons (frz (xC (.int 3))) aNil)))))))))
    (sRet (xC (.bl false)))
    sNil) ⟨[x0, some (.fz (.cel k)), some (.fz t), some (.fz (dRows R)), x4, x5, some (.fz (.ins "Photo" X)), some (.fz (.ins "Photo" X)), x8, x9, x10, none], mu1⟩ = .ok .nx ⟨[x0, some (.fz (.cel k)), some (.fz t), some (.fz (dRows R)), x4, x5, some (.fz (.ins "Photo" X)), some (.fz (.ins "Photo" X)), x8, x9, x10, none], mu1⟩ := by
    have z2 : (2 : Nat) ≤ 16777216 := by decide
    clear e1 e2 e3 e4 e5 r1 r2 r3 s0 s1 s2 ag
    generalize dRows R = DR at *
    walk_at "spn"
  have i4 : (mRng1 (aCons (frz (xC (.int 4))) aNil)) ⟨[x0, some (.fz (.cel k)), some (.fz t), some (.fz (dRows R)), x4, x5, some (.fz (.ins "Photo" X)), some (.fz (.ins "Photo" X)), x8, x9, x10, none], mu1⟩ = .ok (rngL 0 4) ⟨[x0, some (.fz (.cel k)), some (.fz t), some (.fz (dRows R)), x4, x5, some (.fz (.ins "Photo" X)), some (.fz (.ins "Photo" X)), x8, x9, x10, none], mu1⟩ := rfl
  have i5 : (mSeq (frz (xLst (aCons (frz (xVar 3)) (aCons (frz (xSp [("Photo", m_Photo_str)] strD (frz (xVar 6)))) (aCons (frz (xC .non)) (aCons (frz (xSn [("Photo", m_Photo_len)] lenD (frz (xVar 6)))) (aCons (frz (xLst (aCons (frz (xVar 6)) aNil))) (aCons (frz (xTup (aCons (frz (xVar 6)) aNil))) (aCons (frz (xSp [("Photo", m_Photo_repr)] reprD (frz (xVar 6)))) (aCons (frz (xUn listD (xRd 3))) (aCons (frz (xC (.bl true))) aNil)))))))))))) ⟨[x0, some (.fz (.cel k)), some (.fz t), some (.fz (dRows R)), z4, x5, some (.fz (.ins "Photo" X)), some (.fz (.ins "Photo" X)), z8, z9, z10, none], mu2⟩ = .ok [dRows R, D.str (strT R), .non, .int (R.length : Int), .lst [.ins "Photo" X], .tup [.ins "Photo" X], .str ("Photo(" ++ s ++ ")"), .lst (R.map dRow), .bl true] ⟨[x0, some (.fz (.cel k)), some (.fz t), some (.fz (dRows R)), z4, x5, some (.fz (.ins "Photo" X)), some (.fz (.ins "Photo" X)), z8, z9, z10, none], mu2⟩ := by
    have z9' : (9 : Nat) ≤ 16777216 := by decide
    have z1 : (1 : Nat) ≤ 16777216 := by decide
    clear e1 e2 e3 e4 e5 q1 q2 q3 s0 s1 s2 s3 ag i4 tq ql
    show (mSeq (frz (xLst (aCons (frz (xVar 3)) (aCons (frz (xSp [("Photo", m_Photo_str)] strD (frz (xVar 6)))) (aCons (frz (xC .non)) (aCons (frz (xSn [("Photo", m_Photo_len)] lenD (frz (xVar 6)))) (aCons (frz (xLst (aCons (frz (xVar 6)) aNil))) (aCons (frz (xTup (aCons (frz (xVar 6)) aNil))) (aCons (frz (xSp [("Photo", m_Photo_repr)] reprD (frz (xVar 6)))) (aCons (frz (xUn listD (xRd 3))) (aCons (frz (xC (.bl true))) aNil)))))))))))) ⟨[x0, some (.fz (.cel k)), some (.fz t), some (.fz (.tup (R.map dRow))), z4, x5, some (.fz (.ins "Photo" X)), some (.fz (.ins "Photo" X)), z8, z9, z10, none], mu2⟩ = .ok [.tup (R.map dRow), D.str (strT R), .non, .int (R.length : Int), .lst [.ins "Photo" X], .tup [.ins "Photo" X], .str ("Photo(" ++ s ++ ")"), .lst (R.map dRow), .bl true] ⟨[x0, some (.fz (.cel k)), some (.fz t), some (.fz (.tup (R.map dRow))), z4, x5, some (.fz (.ins "Photo" X)), some (.fz (.ins "Photo" X)), z8, z9, z10, none], mu2⟩
    generalize (R.length : Int) = N at *
    generalize ("Photo(" : Str) ++ s ++ ")" = PP at *
    generalize strT R = TT at *
    generalize R.map dRow = DR at *
    walk_at "spn"
  rw [st_seq, s0, st_bok, st_seqn, st_seq, s1, st_bok, st_seqn, st_seq, s2, st_bok, st_seqn, st_seq, s3, st_bok, st_seqn, st_seq, st_for, i4, st_bok, e4, st_bok, st_seqn, st_for, i5, st_bok, e5]
theorem tour_loop {k : Nat} {x0 : Option O} : ∀ (ds : List D) (mu : List O) (n : Nat) (x2 x3 x4 x5 x6 x7 x8 x9 x10 : Option O), WellAt mu k n → n + 4000 * ds.length ≤ 100000000 →
    ∃ mu' x2' x3' x4' x5' x6' x7' x8' x9' x10', forL (gN 2) (sSeq (sAsg 3 (xCall m_law_any_rows (fun ds _ => ds) 1 (nK []) (aCons (frz (xVar 1)) aNil) aNil))
    (sSeq (sPar 6 7 (oCons (xCall m_Photo_init (fun ds _ => ds) 1 (nK []) (aCons (frz (xVar 3)) aNil) aNil) (oCons (xCall m_Photo_init g_Photo_init_1_rows 0 (nK ["rows"]) aNil (aCons (frz (xUn tupleD (xLc [11] (mSeq (frz (xVar 3))) (gN 11) (ret true) (frz (xUn tupleD (xUn listD (xRd 11))))))) aNil)) oNil)))
    (sSeq (sIf (bOr (bNot (toB (xCall m_law_told_right (fun ds _ => ds) 2 (nK []) (aCons (frz (xVar 6)) (aCons (frz (xVar 3)) aNil)) aNil))) (bNot (toB (xCall m_law_told_right (fun ds _ => ds) 2 (nK []) (aCons (frz (xVar 7)) (aCons (frz (xVar 3)) aNil)) aNil))))
    (sRet (xC (.bl false)))
    sNil)
    (sSeq (sIf (bOr (bNot (toB (xEqO [("Photo", (m_Photo_eq, p_Photo_eq))] false (frz (xVar 6)) (frz (xVar 7))))) (bOr (toB (xEqO [("Photo", (m_Photo_eq, p_Photo_eq))] true (frz (xVar 6)) (frz (xVar 7)))) (bOr (toB (xInO [("Photo", (m_Photo_eq, p_Photo_eq))] true (frz (xVar 6)) (frz (xLst (aCons (frz (xC .non)) (aCons (frz (xVar 7)) aNil)))))) (toB (xInO [("Photo", (m_Photo_eq, p_Photo_eq))] true (frz (xVar 7)) (frz (xTup (aCons (frz (xVar 6)) (aCons (frz (xC (.int 3))) aNil)))))))))
    (sRet (xC (.bl false)))
    sNil)
    (sSeq (sFor (mRng1 (aCons (frz (xC (.int 4))) aNil)) (gN 4)
    (sSeq (sAsg 8 (xCall m_law_other_rows (fun ds _ => ds) 2 (nK []) (aCons (frz (xVar 1)) (aCons (frz (xVar 3)) aNil)) aNil))
    (sSeq (sAsg 9 (xCall m_Photo_init (fun ds _ => ds) 1 (nK []) (aCons (frz (xVar 8)) aNil) aNil))
    (sSeq (sAsg 10 (xOp eqD (xBor 8) (xRd 3)))
    (sIf (toB (xOp neD (xLst (aCons (frz (xEqO [("Photo", (m_Photo_eq, p_Photo_eq))] false (frz (xVar 6)) (frz (xVar 9)))) (aCons (frz (xEqO [("Photo", (m_Photo_eq, p_Photo_eq))] false (frz (xVar 9)) (frz (xVar 6)))) (aCons (frz (xEqO [("Photo", (m_Photo_eq, p_Photo_eq))] true (frz (xVar 6)) (frz (xVar 9)))) (aCons (frz (xEqO [("Photo", (m_Photo_eq, p_Photo_eq))] true (frz (xVar 9)) (frz (xVar 6)))) aNil))))) (xLst (aCons (frz (xVar 10)) (aCons (frz (xVar 10)) (aCons (frz (xNotV (xVar 10))) (aCons (frz (xNotV (xVar 10))) aNil)))))))
    (sRet (xC (.bl false)))
    sNil)))))
    (sFor (mSeq (frz (xLst (aCons (frz (xVar 3)) (aCons (frz (xSp [("Photo", m_Photo_str)] strD (frz (xVar 6)))) (aCons (frz (xC .non)) (aCons (frz (xSn [("Photo", m_Photo_len)] lenD (frz (xVar 6)))) (aCons (frz (xLst (aCons (frz (xVar 6)) aNil))) (aCons (frz (xTup (aCons (frz (xVar 6)) aNil))) (aCons (frz (xSp [("Photo", m_Photo_repr)] reprD (frz (xVar 6)))) (aCons (frz (xUn listD (xRd 3))) (aCons (frz (xC (.bl true))) aNil)))))))))))) (gN 5)
    (sIf (bOr (toB (xEqO [("Photo", (m_Photo_eq, p_Photo_eq))] false (frz (xVar 6)) (frz (xVar 5)))) (bOr (bNot (toB (xEqO [("Photo", (m_Photo_eq, p_Photo_eq))] true (frz (xVar 6)) (frz (xVar 5))))) (bOr (toB (xEqO [("Photo", (m_Photo_eq, p_Photo_eq))] false (frz (xVar 5)) (frz (xVar 6)))) (toB (xInO [("Photo", (m_Photo_eq, p_Photo_eq))] false (frz (xVar 6)) (frz (xLst (aCons (frz (xVar 5)) aNil))))))))
    (sRet (xC (.bl false)))
    sNil))))))) ds ⟨[x0, some (.fz (.cel k)), x2, x3, x4, x5, x6, x7, x8, x9, x10, none], mu⟩ = .ok .nx ⟨[x0, some (.fz (.cel k)), x2', x3', x4', x5', x6', x7', x8', x9', x10', none], mu'⟩
  | [], mu, n, x2, x3, x4, x5, x6, x7, x8, x9, x10, h, hn => ⟨mu, x2, x3, x4, x5, x6, x7, x8, x9, x10, rfl⟩
  | t :: ds, mu, n, x2, x3, x4, x5, x6, x7, x8, x9, x10, h, hn => by
    rw [List.length_cons] at hn
    obtain ⟨mu1, z3, z4, z5, z6, z7, z8, z9, z10, e1, p1⟩ := tour_step (k := k) (x0 := x0) t mu n x3 x4 x5 x6 x7 x8 x9 x10 h (by omega)
    obtain ⟨mu8, y2, y3, y4, y5, y6, y7, y8, y9, y10, e8⟩ := tour_loop (k := k) (x0 := x0) ds mu1 (n + 4000) (some (.fz t)) z3 z4 z5 z6 z7 z8 z9 z10 p1 (by omega)
    refine ⟨mu8, y2, y3, y4, y5, y6, y7, y8, y9, y10, ?_⟩
    rw [st_for1, st_gN]
    simp only [setS_2]
    rw [e1, st_bok, st_forn, e8]
theorem law_true' : ∀ ns : List Int, ns.length ≤ 63 → ∃ mu, m_law [.lsk (ns.map .int)] [] = .ok (.fz (.bl true)) ⟨[], mu⟩ := by
  intro ns hn
  obtain ⟨o, b, e1, ho, b0, b1⟩ := well_ok hn []
  have hp : WellAt [wellO o b 0] 0 0 := ⟨o, b, 0, rfl, ho, b0, b1, by decide, by decide⟩
  obtain ⟨mu, y2, y3, y4, y5, y6, y7, y8, y9, y10, e2⟩ := tour_loop (k := 0) (x0 := some (.fz (.lsk (ns.map D.int)))) (rngL 0 3) _ 0 none none none none none none none none none hp (by decide)
  refine ⟨mu, ?_⟩
  have e0 : env0 12 [D.lsk (ns.map D.int)] = [some (.fz (.lsk (ns.map D.int))), none, none, none, none, none, none, none, none, none, none, none] := rfl
  have s0 : (sAsgC 1 (xCall m_law_well (fun ds _ => ds) 1 (nK []) (aCons (frz (xVar 0)) aNil) aNil)) ⟨[some (.fz (.lsk (ns.map D.int))), none, none, none, none, none, none, none, none, none, none, none], []⟩ = .ok .nx ⟨[some (.fz (.lsk (ns.map D.int))), some (.fz (.cel 0)), none, none, none, none, none, none, none, none, none, none], [wellO o b 0]⟩ := by
    have cl : cellO (wellO o b 0) = true := rfl
    have hw : xCall m_law_well (fun ds _ => ds) 1 (nK []) (aCons (frz (xVar 0)) aNil) aNil ⟨[some (.fz (.lsk (ns.map D.int))), none, none, none, none, none, none, none, none, none, none, none], []⟩ = .ok (wellO o b 0) ⟨[some (.fz (.lsk (ns.map D.int))), none, none, none, none, none, none, none, none, none, none, none], []⟩ := by
      clear e2 hp ho cl
      generalize wellO o b 0 = w at *
      generalize ns.map D.int = L at *
      walk_at "spn"
    rw [st_asgC, hw, st_bok, st_asgCK, if_pos cl]
    rfl
  have i1 : (mRng1 (aCons (frz (xC (.int 3))) aNil)) ⟨[some (.fz (.lsk (ns.map D.int))), some (.fz (.cel 0)), none, none, none, none, none, none, none, none, none, none], [wellO o b 0]⟩ = .ok (rngL 0 3) ⟨[some (.fz (.lsk (ns.map D.int))), some (.fz (.cel 0)), none, none, none, none, none, none, none, none, none, none], [wellO o b 0]⟩ := rfl
  unfold m_law
  rw [st_fnM, e0, st_seq, s0, st_bok, st_seqn, st_seq, st_for, i1, st_bok, e2, st_bok, st_seqn, st_sret, st_c, st_bok, st_ret]
end F33
namespace F33
open PySem PyProof.Rows L2 L2.Pc L2.Tr
section
theorem run_Photo : ∀ x y b mu, p_Photo_eq x y = some b → m_Photo_eq [x, y] mu = .ok (.fz (.bl b)) ⟨[], mu⟩ := run_Photo'
theorem same_Photo {G : Gi} : ∀ F al v x y b, (insOf x).isSome = true → (insOf y).isSome = true → Rp G F al v x → Rp G F al v y → p_Photo_eq x y = some b → b = true := same_Photo'
theorem law_true : ∀ ns : List Int, ns.length ≤ 63 → ∃ mu, m_law [.lsk (ns.map .int)] [] = .ok (.fz (.bl true)) ⟨[], mu⟩ := law_true'
end
theorem all_mk {l : PySem.W.OpenLaw} {w : World} {K : PySem.W.Frag} {h : Heap} {mg : Str → Option Value} {fa : Addr} (X : K.In h) (G0 : h.Ns mainGlobals mg) (hfa : mg "law" = some (.ref fa))
    {f_is_name : Addr}
    {f_is_sign : Addr}
    {f_are_rows : Addr}
    {f_Photo_init : Addr}
    {f_Photo_len : Addr}
    {f_Photo_eq : Addr}
    {f_Photo_str : Addr}
    {f_Photo_repr : Addr}
    {f_Photo_at : Addr}
    {f_law_well : Addr}
    {f_law_take : Addr}
    {f_law_of : Addr}
    {f_law_name : Addr}
    {f_law_sign : Addr}
    {f_law_any_rows : Addr}
    {f_law_other_rows : Addr}
    {f_law_told_right : Addr}
    {f_law : Addr}
    {c_Photo : Addr}
    {od_is_name an_is_name : Option Addr} {sl_is_name : Array (Option Value)} {oc_is_name kV_is_name dc_is_name pm_is_name cd_is_name ct_is_name : Value}
    {od_is_sign an_is_sign : Option Addr} {sl_is_sign : Array (Option Value)} {oc_is_sign kV_is_sign dc_is_sign pm_is_sign cd_is_sign ct_is_sign : Value}
    {od_are_rows an_are_rows : Option Addr} {sl_are_rows : Array (Option Value)} {oc_are_rows kV_are_rows dc_are_rows pm_are_rows cd_are_rows ct_are_rows : Value}
    {od_Photo_init an_Photo_init : Option Addr} {sl_Photo_init : Array (Option Value)} {oc_Photo_init kV_Photo_init dc_Photo_init pm_Photo_init cd_Photo_init ct_Photo_init : Value}
    {od_Photo_len an_Photo_len : Option Addr} {sl_Photo_len : Array (Option Value)} {oc_Photo_len kV_Photo_len dc_Photo_len pm_Photo_len cd_Photo_len ct_Photo_len : Value}
    {od_Photo_eq an_Photo_eq : Option Addr} {sl_Photo_eq : Array (Option Value)} {oc_Photo_eq kV_Photo_eq dc_Photo_eq pm_Photo_eq cd_Photo_eq ct_Photo_eq : Value}
    {od_Photo_str an_Photo_str : Option Addr} {sl_Photo_str : Array (Option Value)} {oc_Photo_str kV_Photo_str dc_Photo_str pm_Photo_str cd_Photo_str ct_Photo_str : Value}
    {od_Photo_repr an_Photo_repr : Option Addr} {sl_Photo_repr : Array (Option Value)} {oc_Photo_repr kV_Photo_repr dc_Photo_repr pm_Photo_repr cd_Photo_repr ct_Photo_repr : Value}
    {od_Photo_at an_Photo_at : Option Addr} {sl_Photo_at : Array (Option Value)} {oc_Photo_at kV_Photo_at dc_Photo_at pm_Photo_at cd_Photo_at ct_Photo_at : Value}
    {od_law_well an_law_well : Option Addr} {sl_law_well : Array (Option Value)} {oc_law_well kV_law_well dc_law_well pm_law_well cd_law_well ct_law_well : Value}
    {od_law_take an_law_take : Option Addr} {sl_law_take : Array (Option Value)} {oc_law_take kV_law_take dc_law_take pm_law_take cd_law_take ct_law_take : Value}
    {od_law_of an_law_of : Option Addr} {sl_law_of : Array (Option Value)} {oc_law_of kV_law_of dc_law_of pm_law_of cd_law_of ct_law_of : Value}
    {od_law_name an_law_name : Option Addr} {sl_law_name : Array (Option Value)} {oc_law_name kV_law_name dc_law_name pm_law_name cd_law_name ct_law_name : Value}
    {od_law_sign an_law_sign : Option Addr} {sl_law_sign : Array (Option Value)} {oc_law_sign kV_law_sign dc_law_sign pm_law_sign cd_law_sign ct_law_sign : Value}
    {od_law_any_rows an_law_any_rows : Option Addr} {sl_law_any_rows : Array (Option Value)} {oc_law_any_rows kV_law_any_rows dc_law_any_rows pm_law_any_rows cd_law_any_rows ct_law_any_rows : Value}
    {od_law_other_rows an_law_other_rows : Option Addr} {sl_law_other_rows : Array (Option Value)} {oc_law_other_rows kV_law_other_rows dc_law_other_rows pm_law_other_rows cd_law_other_rows ct_law_other_rows : Value}
    {od_law_told_right an_law_told_right : Option Addr} {sl_law_told_right : Array (Option Value)} {oc_law_told_right kV_law_told_right dc_law_told_right pm_law_told_right cd_law_told_right ct_law_told_right : Value}
    {od_law an_law : Option Addr} {sl_law : Array (Option Value)} {oc_law kV_law dc_law pm_law cd_law ct_law : Value}
    {t_q_LETTERS : Tok}
    {t_q_LONGEST : Tok}
    {A_q_WORDS : Addr} {o_q_WORDS : Option Addr} {its_q_WORDS : Array Value} {n_q_WORDS : Nat} {s_q_WORDS : Array (Option Value)}
    {t_q_MOST_SIDE : Tok}
    {t_q_BARE : Tok}
    {t_q_DARK : Tok}
    (xg : PySem.W.specialIn K (.builtin "object.__class__") "__get__" = some (some (.builtin "getset_descriptor.__get__")))
    (xt : PySem.W.takesIn K (.builtin "object.__class__") = some true)
    (a_Photo : PySem.W.nsIn K mainGlobals "Photo" = some (some (.ref c_Photo)))
    (pg_Photo : PySem.W.plainGet K c_Photo Str.empty = true)
    (hd_Photo : PySem.W.hasDictIn K c_Photo = true)
    (po_Photo : PySem.W.plainOver K c_Photo = true)
    (sa_Photo : PySem.W.findIn K (.ref c_Photo) "__setattr__" = some (some (.builtin "object.__setattr__")))
    (mk_Photo : PySem.W.makesIn K c_Photo = true)
    (kp_Photo : PySem.W.keepIn K (.ref c_Photo) = true)
    (cl_Photo : PySem.W.findIn K (.ref c_Photo) "__class__" = some (some (.builtin "object.__class__")))
    (ob_Photo : PySem.W.mroIn K c_Photo (.type "object") = some true)
    (ne_Photo : PySem.W.findIn K (.ref c_Photo) "__ne__" = some (some (.builtin "object.__ne__")))
    (no_Photo_rows : PySem.W.findIn K (.ref c_Photo) "rows" = some none)
    (ty_Photo : PySem.W.typeIn K (.ref c_Photo) = some (.type "type"))
    (ss_Photo : PySem.W.subIn K (.ref c_Photo) (.ref c_Photo) = some true)
    (up_Photo_NoneType : PySem.W.subIn K (.type "NoneType") (.ref c_Photo) = some false)
    (dn_Photo_NoneType : PySem.W.subIn K (.ref c_Photo) (.type "NoneType") = some false)
    (up_Photo_bool : PySem.W.subIn K (.type "bool") (.ref c_Photo) = some false)
    (dn_Photo_bool : PySem.W.subIn K (.ref c_Photo) (.type "bool") = some false)
    (up_Photo_int : PySem.W.subIn K (.type "int") (.ref c_Photo) = some false)
    (dn_Photo_int : PySem.W.subIn K (.ref c_Photo) (.type "int") = some false)
    (up_Photo_str : PySem.W.subIn K (.type "str") (.ref c_Photo) = some false)
    (dn_Photo_str : PySem.W.subIn K (.ref c_Photo) (.type "str") = some false)
    (up_Photo_tuple : PySem.W.subIn K (.type "tuple") (.ref c_Photo) = some false)
    (dn_Photo_tuple : PySem.W.subIn K (.ref c_Photo) (.type "tuple") = some false)
    (up_Photo_list : PySem.W.subIn K (.type "list") (.ref c_Photo) = some false)
    (dn_Photo_list : PySem.W.subIn K (.ref c_Photo) (.type "list") = some false)
    (up_Photo_dict : PySem.W.subIn K (.type "dict") (.ref c_Photo) = some false)
    (dn_Photo_dict : PySem.W.subIn K (.ref c_Photo) (.type "dict") = some false)
    (fi_Photo_init : PySem.W.findIn K (.ref c_Photo) "__init__" = some (some (.ref f_Photo_init)))
    (isf_Photo_init : PySem.W.isFn K (.ref f_Photo_init) = true)
    (fi_Photo_len : PySem.W.findIn K (.ref c_Photo) "__len__" = some (some (.ref f_Photo_len)))
    (isf_Photo_len : PySem.W.isFn K (.ref f_Photo_len) = true)
    (kf_Photo_len : PySem.W.keepIn K (.ref f_Photo_len) = true)
    (fi_Photo_eq : PySem.W.findIn K (.ref c_Photo) "__eq__" = some (some (.ref f_Photo_eq)))
    (isf_Photo_eq : PySem.W.isFn K (.ref f_Photo_eq) = true)
    (kf_Photo_eq : PySem.W.keepIn K (.ref f_Photo_eq) = true)
    (fi_Photo_str : PySem.W.findIn K (.ref c_Photo) "__str__" = some (some (.ref f_Photo_str)))
    (isf_Photo_str : PySem.W.isFn K (.ref f_Photo_str) = true)
    (kf_Photo_str : PySem.W.keepIn K (.ref f_Photo_str) = true)
    (fi_Photo_repr : PySem.W.findIn K (.ref c_Photo) "__repr__" = some (some (.ref f_Photo_repr)))
    (isf_Photo_repr : PySem.W.isFn K (.ref f_Photo_repr) = true)
    (kf_Photo_repr : PySem.W.keepIn K (.ref f_Photo_repr) = true)
    (fi_Photo_at : PySem.W.findIn K (.ref c_Photo) "at" = some (some (.ref f_Photo_at)))
    (isf_Photo_at : PySem.W.isFn K (.ref f_Photo_at) = true)
    (kf_Photo_at : PySem.W.keepIn K (.ref f_Photo_at) = true)
    (a_is_name : PySem.W.nsIn K mainGlobals "is_name" = some (some (.ref f_is_name)))
    (l_is_name : K.lookup f_is_name = some ⟨oc_is_name, od_is_name, .func (PySem.W.fnOf "is_name" "is_name" (defArgs s_is_name) (defBody s_is_name) (defScope s_is_name) .none kV_is_name dc_is_name pm_is_name an_is_name cd_is_name ct_is_name), sl_is_name⟩)
    (c_is_name : PySem.W.codeIn K cd_is_name "is_name" = true)
    (k_is_name : PySem.W.keepIn K (.ref f_is_name) = true)
    (a_is_sign : PySem.W.nsIn K mainGlobals "is_sign" = some (some (.ref f_is_sign)))
    (l_is_sign : K.lookup f_is_sign = some ⟨oc_is_sign, od_is_sign, .func (PySem.W.fnOf "is_sign" "is_sign" (defArgs s_is_sign) (defBody s_is_sign) (defScope s_is_sign) .none kV_is_sign dc_is_sign pm_is_sign an_is_sign cd_is_sign ct_is_sign), sl_is_sign⟩)
    (c_is_sign : PySem.W.codeIn K cd_is_sign "is_sign" = true)
    (k_is_sign : PySem.W.keepIn K (.ref f_is_sign) = true)
    (a_are_rows : PySem.W.nsIn K mainGlobals "are_rows" = some (some (.ref f_are_rows)))
    (l_are_rows : K.lookup f_are_rows = some ⟨oc_are_rows, od_are_rows, .func (PySem.W.fnOf "are_rows" "are_rows" (defArgs s_are_rows) (defBody s_are_rows) (defScope s_are_rows) .none kV_are_rows dc_are_rows pm_are_rows an_are_rows cd_are_rows ct_are_rows), sl_are_rows⟩)
    (c_are_rows : PySem.W.codeIn K cd_are_rows "are_rows" = true)
    (k_are_rows : PySem.W.keepIn K (.ref f_are_rows) = true)
    (l_Photo_init : K.lookup f_Photo_init = some ⟨oc_Photo_init, od_Photo_init, .func (PySem.W.fnOf "__init__" "Photo.__init__" (defArgs s_Photo_init) (defBody s_Photo_init) (defScope s_Photo_init) .none kV_Photo_init dc_Photo_init pm_Photo_init an_Photo_init cd_Photo_init ct_Photo_init), sl_Photo_init⟩)
    (c_Photo_init : PySem.W.codeIn K cd_Photo_init "Photo.__init__" = true)
    (k_Photo_init : PySem.W.keepIn K (.ref f_Photo_init) = true)
    (l_Photo_len : K.lookup f_Photo_len = some ⟨oc_Photo_len, od_Photo_len, .func (PySem.W.fnOf "__len__" "Photo.__len__" (defArgs s_Photo_len) (defBody s_Photo_len) (defScope s_Photo_len) .none kV_Photo_len dc_Photo_len pm_Photo_len an_Photo_len cd_Photo_len ct_Photo_len), sl_Photo_len⟩)
    (c_Photo_len : PySem.W.codeIn K cd_Photo_len "Photo.__len__" = true)
    (l_Photo_eq : K.lookup f_Photo_eq = some ⟨oc_Photo_eq, od_Photo_eq, .func (PySem.W.fnOf "__eq__" "Photo.__eq__" (defArgs s_Photo_eq) (defBody s_Photo_eq) (defScope s_Photo_eq) .none kV_Photo_eq dc_Photo_eq pm_Photo_eq an_Photo_eq cd_Photo_eq ct_Photo_eq), sl_Photo_eq⟩)
    (c_Photo_eq : PySem.W.codeIn K cd_Photo_eq "Photo.__eq__" = true)
    (l_Photo_str : K.lookup f_Photo_str = some ⟨oc_Photo_str, od_Photo_str, .func (PySem.W.fnOf "__str__" "Photo.__str__" (defArgs s_Photo_str) (defBody s_Photo_str) (defScope s_Photo_str) .none kV_Photo_str dc_Photo_str pm_Photo_str an_Photo_str cd_Photo_str ct_Photo_str), sl_Photo_str⟩)
    (c_Photo_str : PySem.W.codeIn K cd_Photo_str "Photo.__str__" = true)
    (l_Photo_repr : K.lookup f_Photo_repr = some ⟨oc_Photo_repr, od_Photo_repr, .func (PySem.W.fnOf "__repr__" "Photo.__repr__" (defArgs s_Photo_repr) (defBody s_Photo_repr) (defScope s_Photo_repr) .none kV_Photo_repr dc_Photo_repr pm_Photo_repr an_Photo_repr cd_Photo_repr ct_Photo_repr), sl_Photo_repr⟩)
    (c_Photo_repr : PySem.W.codeIn K cd_Photo_repr "Photo.__repr__" = true)
    (l_Photo_at : K.lookup f_Photo_at = some ⟨oc_Photo_at, od_Photo_at, .func (PySem.W.fnOf "at" "Photo.at" (defArgs s_Photo_at) (defBody s_Photo_at) (defScope s_Photo_at) .none kV_Photo_at dc_Photo_at pm_Photo_at an_Photo_at cd_Photo_at ct_Photo_at), sl_Photo_at⟩)
    (c_Photo_at : PySem.W.codeIn K cd_Photo_at "Photo.at" = true)
    (a_law_well : PySem.W.nsIn K mainGlobals "_law_well" = some (some (.ref f_law_well)))
    (l_law_well : K.lookup f_law_well = some ⟨oc_law_well, od_law_well, .func (PySem.W.fnOf "_law_well" "_law_well" (defArgs s_law_well) (defBody s_law_well) (defScope s_law_well) .none kV_law_well dc_law_well pm_law_well an_law_well cd_law_well ct_law_well), sl_law_well⟩)
    (c_law_well : PySem.W.codeIn K cd_law_well "_law_well" = true)
    (k_law_well : PySem.W.keepIn K (.ref f_law_well) = true)
    (a_law_take : PySem.W.nsIn K mainGlobals "_law_take" = some (some (.ref f_law_take)))
    (l_law_take : K.lookup f_law_take = some ⟨oc_law_take, od_law_take, .func (PySem.W.fnOf "_law_take" "_law_take" (defArgs s_law_take) (defBody s_law_take) (defScope s_law_take) .none kV_law_take dc_law_take pm_law_take an_law_take cd_law_take ct_law_take), sl_law_take⟩)
    (c_law_take : PySem.W.codeIn K cd_law_take "_law_take" = true)
    (k_law_take : PySem.W.keepIn K (.ref f_law_take) = true)
    (a_law_of : PySem.W.nsIn K mainGlobals "_law_of" = some (some (.ref f_law_of)))
    (l_law_of : K.lookup f_law_of = some ⟨oc_law_of, od_law_of, .func (PySem.W.fnOf "_law_of" "_law_of" (defArgs s_law_of) (defBody s_law_of) (defScope s_law_of) .none kV_law_of dc_law_of pm_law_of an_law_of cd_law_of ct_law_of), sl_law_of⟩)
    (c_law_of : PySem.W.codeIn K cd_law_of "_law_of" = true)
    (k_law_of : PySem.W.keepIn K (.ref f_law_of) = true)
    (a_law_name : PySem.W.nsIn K mainGlobals "_law_name" = some (some (.ref f_law_name)))
    (l_law_name : K.lookup f_law_name = some ⟨oc_law_name, od_law_name, .func (PySem.W.fnOf "_law_name" "_law_name" (defArgs s_law_name) (defBody s_law_name) (defScope s_law_name) .none kV_law_name dc_law_name pm_law_name an_law_name cd_law_name ct_law_name), sl_law_name⟩)
    (c_law_name : PySem.W.codeIn K cd_law_name "_law_name" = true)
    (k_law_name : PySem.W.keepIn K (.ref f_law_name) = true)
    (a_law_sign : PySem.W.nsIn K mainGlobals "_law_sign" = some (some (.ref f_law_sign)))
    (l_law_sign : K.lookup f_law_sign = some ⟨oc_law_sign, od_law_sign, .func (PySem.W.fnOf "_law_sign" "_law_sign" (defArgs s_law_sign) (defBody s_law_sign) (defScope s_law_sign) .none kV_law_sign dc_law_sign pm_law_sign an_law_sign cd_law_sign ct_law_sign), sl_law_sign⟩)
    (c_law_sign : PySem.W.codeIn K cd_law_sign "_law_sign" = true)
    (k_law_sign : PySem.W.keepIn K (.ref f_law_sign) = true)
    (a_law_any_rows : PySem.W.nsIn K mainGlobals "_law_any_rows" = some (some (.ref f_law_any_rows)))
    (l_law_any_rows : K.lookup f_law_any_rows = some ⟨oc_law_any_rows, od_law_any_rows, .func (PySem.W.fnOf "_law_any_rows" "_law_any_rows" (defArgs s_law_any_rows) (defBody s_law_any_rows) (defScope s_law_any_rows) .none kV_law_any_rows dc_law_any_rows pm_law_any_rows an_law_any_rows cd_law_any_rows ct_law_any_rows), sl_law_any_rows⟩)
    (c_law_any_rows : PySem.W.codeIn K cd_law_any_rows "_law_any_rows" = true)
    (k_law_any_rows : PySem.W.keepIn K (.ref f_law_any_rows) = true)
    (a_law_other_rows : PySem.W.nsIn K mainGlobals "_law_other_rows" = some (some (.ref f_law_other_rows)))
    (l_law_other_rows : K.lookup f_law_other_rows = some ⟨oc_law_other_rows, od_law_other_rows, .func (PySem.W.fnOf "_law_other_rows" "_law_other_rows" (defArgs s_law_other_rows) (defBody s_law_other_rows) (defScope s_law_other_rows) .none kV_law_other_rows dc_law_other_rows pm_law_other_rows an_law_other_rows cd_law_other_rows ct_law_other_rows), sl_law_other_rows⟩)
    (c_law_other_rows : PySem.W.codeIn K cd_law_other_rows "_law_other_rows" = true)
    (k_law_other_rows : PySem.W.keepIn K (.ref f_law_other_rows) = true)
    (a_law_told_right : PySem.W.nsIn K mainGlobals "_law_told_right" = some (some (.ref f_law_told_right)))
    (l_law_told_right : K.lookup f_law_told_right = some ⟨oc_law_told_right, od_law_told_right, .func (PySem.W.fnOf "_law_told_right" "_law_told_right" (defArgs s_law_told_right) (defBody s_law_told_right) (defScope s_law_told_right) .none kV_law_told_right dc_law_told_right pm_law_told_right an_law_told_right cd_law_told_right ct_law_told_right), sl_law_told_right⟩)
    (c_law_told_right : PySem.W.codeIn K cd_law_told_right "_law_told_right" = true)
    (k_law_told_right : PySem.W.keepIn K (.ref f_law_told_right) = true)
    (a_law : PySem.W.nsIn K mainGlobals "law" = some (some (.ref f_law)))
    (l_law : K.lookup f_law = some ⟨oc_law, od_law, .func (PySem.W.fnOf "law" "law" (defArgs s_law) (defBody s_law) (defScope s_law) .none kV_law dc_law pm_law an_law cd_law ct_law), sl_law⟩)
    (c_law : PySem.W.codeIn K cd_law "law" = true)
    (k_law : PySem.W.keepIn K (.ref f_law) = true)
    (v_q_LETTERS : PySem.W.nsIn K mainGlobals "LETTERS" = some (some (.str "abcdefghijklmnopqrstuvwxyz" t_q_LETTERS)))
    (v_q_LONGEST : PySem.W.nsIn K mainGlobals "LONGEST" = some (some (.int (8) t_q_LONGEST)))
    (v_q_WORDS : PySem.W.nsIn K mainGlobals "WORDS" = some (some (.ref A_q_WORDS)))
    (w_q_WORDS : K.lookup A_q_WORDS = some ⟨.type "tuple", o_q_WORDS, .seq its_q_WORDS n_q_WORDS, s_q_WORDS⟩)
    (z_q_WORDS : its_q_WORDS.size ≤ sizeLine)
    (y_q_WORDS : Vals [(.str "pin"), (.str "again"), (.str "move"), (.str "take"), (.str "tear"), (.str "at"), (.str "to"), (.str "until"), (.str "strips"), (.str "known")] its_q_WORDS.toList)
    (v_q_MOST_SIDE : PySem.W.nsIn K mainGlobals "MOST_SIDE" = some (some (.int (9) t_q_MOST_SIDE)))
    (v_q_BARE : PySem.W.nsIn K mainGlobals "BARE" = some (some (.str "-" t_q_BARE)))
    (v_q_DARK : PySem.W.nsIn K mainGlobals "DARK" = some (some (.str "?" t_q_DARK)))
    (b_abs : PySem.W.nsIn K mainGlobals "abs" = some none)
    (b_all : PySem.W.nsIn K mainGlobals "all" = some none)
    (b_enumerate : PySem.W.nsIn K mainGlobals "enumerate" = some none)
    (b_isinstance : PySem.W.nsIn K mainGlobals "isinstance" = some none)
    (b_len : PySem.W.nsIn K mainGlobals "len" = some none)
    (b_list : PySem.W.nsIn K mainGlobals "list" = some none)
    (b_range : PySem.W.nsIn K mainGlobals "range" = some none)
    (b_repr : PySem.W.nsIn K mainGlobals "repr" = some none)
    (b_str : PySem.W.nsIn K mainGlobals "str" = some none)
    (b_tuple : PySem.W.nsIn K mainGlobals "tuple" = some none) :
    ∃ fd : FuncData, (∀ (s : Shared) (u : Value), BindsTo s fd ⟨[u], []⟩ [("_law_script", u)]) ∧ ∀ base : Heap, K.In base → base.Ns mainGlobals mg → Sm base → FnT l.prog w ⟨K, mg, none⟩ base true 6 fa fd ["_law_script"] m_law := by
  have e := hfa.symm.trans (PySem.W.mg_of X G0 a_law)
  cases e
  have Cl_Photo : Cls K c_Photo := ⟨pg_Photo, hd_Photo, po_Photo, sa_Photo⟩
  have Eq_Photo : EqK K c_Photo f_Photo_eq := ⟨fi_Photo_eq, ne_Photo, isf_Photo_eq, ob_Photo, List.forall_mem_cons.mpr ⟨up_Photo_NoneType, List.forall_mem_cons.mpr ⟨up_Photo_bool, List.forall_mem_cons.mpr ⟨up_Photo_int, List.forall_mem_cons.mpr ⟨up_Photo_str, List.forall_mem_cons.mpr ⟨up_Photo_tuple, List.forall_mem_cons.mpr ⟨up_Photo_list, nofun⟩⟩⟩⟩⟩⟩, List.forall_mem_cons.mpr ⟨dn_Photo_NoneType, List.forall_mem_cons.mpr ⟨dn_Photo_bool, List.forall_mem_cons.mpr ⟨dn_Photo_int, List.forall_mem_cons.mpr ⟨dn_Photo_str, List.forall_mem_cons.mpr ⟨dn_Photo_tuple, List.forall_mem_cons.mpr ⟨dn_Photo_list, nofun⟩⟩⟩⟩⟩⟩⟩
  have Mk_Photo : Mk K c_Photo f_Photo_init := ⟨mk_Photo, fi_Photo_init, isf_Photo_init, kp_Photo⟩
  have T : Tx ⟨K, mg, none⟩ w := ⟨rfl, gc_str (PySem.W.mg_of X G0 v_q_LETTERS), gc_int (PySem.W.mg_of X G0 v_q_LONGEST), gc_tup (PySem.W.mg_of X G0 v_q_WORDS) (kt_mk w_q_WORDS z_q_WORDS y_q_WORDS) fun _ _ => (.cons (.str _) (.cons (.str _) (.cons (.str _) (.cons (.str _) (.cons (.str _) (.cons (.str _) (.cons (.str _) (.cons (.str _) (.cons (.str _) (.cons (.str _) .nil)))))))))), gc_int (PySem.W.mg_of X G0 v_q_MOST_SIDE), gc_str (PySem.W.mg_of X G0 v_q_BARE), gc_str (PySem.W.mg_of X G0 v_q_DARK), PySem.W.mg_none_of X G0 b_abs, PySem.W.mg_none_of X G0 b_all, PySem.W.mg_none_of X G0 b_enumerate, PySem.W.mg_none_of X G0 b_isinstance, PySem.W.mg_none_of X G0 b_len, PySem.W.mg_none_of X G0 b_list, PySem.W.mg_none_of X G0 b_range, PySem.W.mg_none_of X G0 b_repr, PySem.W.mg_none_of X G0 b_str, PySem.W.mg_none_of X G0 b_tuple, kc_of (List.forall_mem_cons.mpr ⟨⟨c_Photo, PySem.W.mg_of X G0 a_Photo, Cl_Photo, List.forall_mem_cons.mpr ⟨no_Photo_rows, nofun⟩⟩, nofun⟩), is_of (List.forall_mem_cons.mpr ⟨⟨c_Photo, PySem.W.mg_of X G0 a_Photo, Cl_Photo, cl_Photo, xg, xt, ob_Photo, List.forall_mem_cons.mpr ⟨kit_up ob_Photo ty_Photo up_Photo_NoneType (by simp), List.forall_mem_cons.mpr ⟨kit_up ob_Photo ty_Photo up_Photo_bool (by simp), List.forall_mem_cons.mpr ⟨kit_up ob_Photo ty_Photo up_Photo_int (by simp), List.forall_mem_cons.mpr ⟨kit_up ob_Photo ty_Photo up_Photo_str (by simp), List.forall_mem_cons.mpr ⟨kit_up ob_Photo ty_Photo up_Photo_tuple (by simp), List.forall_mem_cons.mpr ⟨kit_up ob_Photo ty_Photo up_Photo_list (by simp), List.forall_mem_cons.mpr ⟨kit_up ob_Photo ty_Photo up_Photo_dict (by simp), nofun⟩⟩⟩⟩⟩⟩⟩, List.forall_mem_cons.mpr ⟨kit_dn (by decide +kernel) dn_Photo_str, List.forall_mem_cons.mpr ⟨kit_dn (by decide +kernel) dn_Photo_int, List.forall_mem_cons.mpr ⟨kit_dn (by decide +kernel) dn_Photo_bool, List.forall_mem_cons.mpr ⟨kit_dn (by decide +kernel) dn_Photo_tuple, List.forall_mem_cons.mpr ⟨kit_dn (by decide +kernel) dn_Photo_list, List.forall_mem_cons.mpr ⟨kit_dn (by decide +kernel) dn_Photo_dict, nofun⟩⟩⟩⟩⟩⟩⟩, nofun⟩) (List.forall_mem_cons.mpr ⟨List.forall_mem_cons.mpr ⟨(fun C C' e1 e2 => by have z1 := e1.symm.trans (PySem.W.mg_of X G0 a_Photo); have z2 := e2.symm.trans (PySem.W.mg_of X G0 a_Photo); cases z1; cases z2; exact kit_same), nofun⟩, nofun⟩), gc_cls (PySem.W.mg_of X G0 a_Photo)⟩
  have F_is_name := df_mk (st := s_is_name) l_is_name c_is_name
  have F_is_sign := df_mk (st := s_is_sign) l_is_sign c_is_sign
  have F_are_rows := df_mk (st := s_are_rows) l_are_rows c_are_rows
  have F_Photo_init := df_mk (st := s_Photo_init) l_Photo_init c_Photo_init
  have F_Photo_len := df_mk (st := s_Photo_len) l_Photo_len c_Photo_len
  have F_Photo_eq := df_mk (st := s_Photo_eq) l_Photo_eq c_Photo_eq
  have F_Photo_str := df_mk (st := s_Photo_str) l_Photo_str c_Photo_str
  have F_Photo_repr := df_mk (st := s_Photo_repr) l_Photo_repr c_Photo_repr
  have F_Photo_at := df_mk (st := s_Photo_at) l_Photo_at c_Photo_at
  have F_law_well := df_mk (st := s_law_well) l_law_well c_law_well
  have F_law_take := df_mk (st := s_law_take) l_law_take c_law_take
  have F_law_of := df_mk (st := s_law_of) l_law_of c_law_of
  have F_law_name := df_mk (st := s_law_name) l_law_name c_law_name
  have F_law_sign := df_mk (st := s_law_sign) l_law_sign c_law_sign
  have F_law_any_rows := df_mk (st := s_law_any_rows) l_law_any_rows c_law_any_rows
  have F_law_other_rows := df_mk (st := s_law_other_rows) l_law_other_rows c_law_other_rows
  have F_law_told_right := df_mk (st := s_law_told_right) l_law_told_right c_law_told_right
  have F_law := df_mk (st := s_law) l_law c_law
  refine ⟨PySem.W.fnOf "law" "law" (defArgs s_law) (defBody s_law) (defScope s_law) .none kV_law dc_law pm_law an_law cd_law ct_law, fun s u => .of_eq rfl, fun base kin hns M => ?_⟩
  have P_is_name := fn_is_name (P := l.prog) (w := w) (base := base) T F_is_name
  have K_is_name : KnT l.prog w ⟨K, mg, none⟩ base false "is_name" 1 1 [] (fun ds _ => ds) m_is_name := kn_pos P_is_name (PySem.W.mg_of X G0 a_is_name) k_is_name (fun us hl => match us, hl with | [_], _ => rfl)
  have P_is_sign := fn_is_sign (P := l.prog) (w := w) (base := base) T F_is_sign K_is_name
  have K_is_sign : KnT l.prog w ⟨K, mg, none⟩ base false "is_sign" 2 1 [] (fun ds _ => ds) m_is_sign := kn_pos P_is_sign (PySem.W.mg_of X G0 a_is_sign) k_is_sign (fun us hl => match us, hl with | [_], _ => rfl)
  have P_are_rows := fn_are_rows (P := l.prog) (w := w) (base := base) T F_are_rows K_is_sign
  have K_are_rows : KnT l.prog w ⟨K, mg, none⟩ base false "are_rows" 3 1 [] (fun ds _ => ds) m_are_rows := kn_pos P_are_rows (PySem.W.mg_of X G0 a_are_rows) k_are_rows (fun us hl => match us, hl with | [_], _ => rfl)
  have P_Photo_init := fn_Photo_init (P := l.prog) (w := w) (base := base) T F_Photo_init K_are_rows
  have P_Photo_len := fn_Photo_len (P := l.prog) (w := w) (base := base) T F_Photo_len
  have P_Photo_eq := fn_Photo_eq (P := l.prog) (w := w) (base := base) T F_Photo_eq
  have P_Photo_str := fn_Photo_str (P := l.prog) (w := w) (base := base) T F_Photo_str
  have P_Photo_repr := fn_Photo_repr (P := l.prog) (w := w) (base := base) T F_Photo_repr M
  have P_Photo_at := fn_Photo_at (P := l.prog) (w := w) (base := base) T F_Photo_at
  have P_law_well := fn_law_well (P := l.prog) (w := w) (base := base) T F_law_well
  have P_law_take := fn_law_take (P := l.prog) (w := w) (base := base) T F_law_take
  have K_law_take : KnT l.prog w ⟨K, mg, none⟩ base false "_law_take" 1 2 [] (fun ds _ => ds) m_law_take := kn_pos P_law_take (PySem.W.mg_of X G0 a_law_take) k_law_take (fun us hl => match us, hl with | [_, _], _ => rfl)
  have P_law_of := fn_law_of (P := l.prog) (w := w) (base := base) T F_law_of K_law_take
  have K_law_of : KnT l.prog w ⟨K, mg, none⟩ base false "_law_of" 2 2 [] (fun ds _ => ds) m_law_of := kn_pos P_law_of (PySem.W.mg_of X G0 a_law_of) k_law_of (fun us hl => match us, hl with | [_, _], _ => rfl)
  have P_law_name := fn_law_name (P := l.prog) (w := w) (base := base) T F_law_name K_law_take K_law_of
  have K_law_name : KnT l.prog w ⟨K, mg, none⟩ base false "_law_name" 3 1 [] (fun ds _ => ds) m_law_name := kn_pos P_law_name (PySem.W.mg_of X G0 a_law_name) k_law_name (fun us hl => match us, hl with | [_], _ => rfl)
  have P_law_sign := fn_law_sign (P := l.prog) (w := w) (base := base) T F_law_sign K_law_take K_law_name
  have K_law_sign : KnT l.prog w ⟨K, mg, none⟩ base false "_law_sign" 4 1 [] (fun ds _ => ds) m_law_sign := kn_pos P_law_sign (PySem.W.mg_of X G0 a_law_sign) k_law_sign (fun us hl => match us, hl with | [_], _ => rfl)
  have P_law_any_rows := fn_law_any_rows (P := l.prog) (w := w) (base := base) T F_law_any_rows K_law_of K_law_sign
  have P_law_other_rows := fn_law_other_rows (P := l.prog) (w := w) (base := base) T F_law_other_rows K_law_take K_law_sign
  have K_len_Photo : SpF l.prog w ⟨K, mg, none⟩ base false 1 "__len__" [("Photo", m_Photo_len)] := sp_of (List.forall_mem_cons.mpr ⟨⟨c_Photo, f_Photo_len, _, ["self"], PySem.W.mg_of X G0 a_Photo, fi_Photo_len, isf_Photo_len, (P_Photo_len.mono (by decide)), rfl, binds_pos (fun us hl => match us, hl with | [_], _ => rfl)⟩, nofun⟩)
  have K_repr_Photo : SpF l.prog w ⟨K, mg, none⟩ base true 1 "__repr__" [("Photo", m_Photo_repr)] := sp_of (List.forall_mem_cons.mpr ⟨⟨c_Photo, f_Photo_repr, _, ["self"], PySem.W.mg_of X G0 a_Photo, fi_Photo_repr, isf_Photo_repr, (P_Photo_repr.mono (by decide)), rfl, binds_pos (fun us hl => match us, hl with | [_], _ => rfl)⟩, nofun⟩)
  have K_str_Photo : SpF l.prog w ⟨K, mg, none⟩ base false 1 "__str__" [("Photo", m_Photo_str)] := sp_of (List.forall_mem_cons.mpr ⟨⟨c_Photo, f_Photo_str, _, ["self"], PySem.W.mg_of X G0 a_Photo, fi_Photo_str, isf_Photo_str, (P_Photo_str.mono (by decide)), rfl, binds_pos (fun us hl => match us, hl with | [_], _ => rfl)⟩, nofun⟩)
  have K_Photo_at_1_y_x : MeT l.prog w ⟨K, mg, none⟩ base false "Photo" "at" 1 1 ["y", "x"] g_Photo_at_1_y_x m_Photo_at := me_kw [(0, 0), (2, 1), (2, 0)] P_Photo_at (PySem.W.mg_of X G0 a_Photo) Cl_Photo ⟨fi_Photo_at, isf_Photo_at, kf_Photo_at⟩ (fun vs zs h1 h2 => match vs, zs, h1, h2 with | [_], [_, _], _, _ => rfl) (fun us ws h1 h2 => match us, ws, h1, h2 with | [_], [_, _], _, _ => rfl)
  have K_Photo_at : MeT l.prog w ⟨K, mg, none⟩ base false "Photo" "at" 1 3 [] (fun ds _ => ds) m_Photo_at := me_pos P_Photo_at (PySem.W.mg_of X G0 a_Photo) Cl_Photo ⟨fi_Photo_at, isf_Photo_at, kf_Photo_at⟩ (fun us hl => match us, hl with | [_, _, _], _ => rfl)
  have P_law_told_right := fn_law_told_right (P := l.prog) (w := w) (base := base) T F_law_told_right M K_len_Photo K_repr_Photo K_str_Photo K_Photo_at_1_y_x K_Photo_at
  have K_law_well : KnT l.prog w ⟨K, mg, none⟩ base false "_law_well" 1 1 [] (fun ds _ => ds) m_law_well := kn_pos P_law_well (PySem.W.mg_of X G0 a_law_well) k_law_well (fun us hl => match us, hl with | [_], _ => rfl)
  have K_law_any_rows : KnT l.prog w ⟨K, mg, none⟩ base false "_law_any_rows" 5 1 [] (fun ds _ => ds) m_law_any_rows := kn_pos P_law_any_rows (PySem.W.mg_of X G0 a_law_any_rows) k_law_any_rows (fun us hl => match us, hl with | [_], _ => rfl)
  have K_Photo_init_1_rows : MkT l.prog w ⟨K, mg, none⟩ base "Photo" 4 0 ["rows"] g_Photo_init_1_rows m_Photo_init := mk_kwn [(2, 0)] Mk_Photo (PySem.W.mg_of X G0 a_Photo) P_Photo_init (fun vs zs h1 h2 => match vs, zs, h1, h2 with | [], [_], _, _ => rfl) (fun us ws h1 h2 => match us, ws, h1, h2 with | [_], [_], _, _ => rfl)
  have K_Photo_init : MkT l.prog w ⟨K, mg, none⟩ base "Photo" 4 1 [] (fun ds _ => ds) m_Photo_init := mk_pos Mk_Photo (PySem.W.mg_of X G0 a_Photo) P_Photo_init (fun us hl => match us, hl with | [_, _], _ => rfl)
  have K_law_told_right : KnT l.prog w ⟨K, mg, none⟩ base true "_law_told_right" 4 2 [] (fun ds _ => ds) m_law_told_right := kn_pos P_law_told_right (PySem.W.mg_of X G0 a_law_told_right) k_law_told_right (fun us hl => match us, hl with | [_, _], _ => rfl)
  have K_eq_Photo : EqTab l.prog w ⟨K, mg, none⟩ base false 1 [("Photo", (m_Photo_eq, p_Photo_eq))] := eq_of (List.forall_mem_cons.mpr ⟨⟨⟨c_Photo, f_Photo_eq, _, ["self", "other"], PySem.W.mg_of X G0 a_Photo, Eq_Photo, (P_Photo_eq.mono (by decide)), rfl, binds_pos (fun us hl => match us, hl with | [_, _], _ => rfl)⟩, run_Photo, same_Photo⟩, nofun⟩) (List.forall_mem_cons.mpr ⟨List.forall_mem_cons.mpr ⟨(fun C C' e1 e2 => by have z1 := e1.symm.trans (PySem.W.mg_of X G0 a_Photo); have z2 := e2.symm.trans (PySem.W.mg_of X G0 a_Photo); cases z1; cases z2; exact first_same), nofun⟩, nofun⟩)
  have K_law_other_rows : KnT l.prog w ⟨K, mg, none⟩ base false "_law_other_rows" 5 2 [] (fun ds _ => ds) m_law_other_rows := kn_pos P_law_other_rows (PySem.W.mg_of X G0 a_law_other_rows) k_law_other_rows (fun us hl => match us, hl with | [_, _], _ => rfl)
  have P_law := fn_law (P := l.prog) (w := w) (base := base) T F_law M K_law_well K_law_any_rows K_Photo_init_1_rows K_Photo_init K_law_told_right K_eq_Photo K_law_other_rows K_repr_Photo K_len_Photo K_str_Photo
  exact P_law
end F33

open PySem PySem.W PyProof.Rows L2 L2.Pc L2.Tr in
set_option maxRecDepth 100000 in
set_option maxHeartbeats 0 in
set_option pp.maxSteps 60 in
theorem PySem.Challenge.cw_pinnedcards_k33_photographs_made_holds : PySem.Challenge.rw_pinnedcards_k33_photographs_made.Holds := by
  w_on; o_law; k_head; (case hw => w_witness2)
  k_fill
  refine walkT (n := 63) (k := 6) (gb := true) (x := "_law_script") (m := F33.m_law) rfl (by decide) (by decide +kernel) rfl ⟨rfl, by decide, by decide⟩ (fun w h Y => PySem.W.kIn_of Y) ?F F33.law_true
  case F =>
    intro w mg fa h KX G hmg
    refine' F33.all_mk KX G hmg ?xg ?xt ?a_Photo ?pg_Photo ?hd_Photo ?po_Photo ?sa_Photo ?mk_Photo ?kp_Photo ?cl_Photo ?ob_Photo ?ne_Photo ?no_Photo_rows ?ty_Photo ?ss_Photo ?up_Photo_NoneType ?dn_Photo_NoneType ?up_Photo_bool ?dn_Photo_bool ?up_Photo_int ?dn_Photo_int ?up_Photo_str ?dn_Photo_str ?up_Photo_tuple ?dn_Photo_tuple ?up_Photo_list ?dn_Photo_list ?up_Photo_dict ?dn_Photo_dict ?fi_Photo_init ?isf_Photo_init ?fi_Photo_len ?isf_Photo_len ?kf_Photo_len ?fi_Photo_eq ?isf_Photo_eq ?kf_Photo_eq ?fi_Photo_str ?isf_Photo_str ?kf_Photo_str ?fi_Photo_repr ?isf_Photo_repr ?kf_Photo_repr ?fi_Photo_at ?isf_Photo_at ?kf_Photo_at ?a_is_name ?l_is_name ?c_is_name ?k_is_name ?a_is_sign ?l_is_sign ?c_is_sign ?k_is_sign ?a_are_rows ?l_are_rows ?c_are_rows ?k_are_rows ?l_Photo_init ?c_Photo_init ?k_Photo_init ?l_Photo_len ?c_Photo_len ?l_Photo_eq ?c_Photo_eq ?l_Photo_str ?c_Photo_str ?l_Photo_repr ?c_Photo_repr ?l_Photo_at ?c_Photo_at ?a_law_well ?l_law_well ?c_law_well ?k_law_well ?a_law_take ?l_law_take ?c_law_take ?k_law_take ?a_law_of ?l_law_of ?c_law_of ?k_law_of ?a_law_name ?l_law_name ?c_law_name ?k_law_name ?a_law_sign ?l_law_sign ?c_law_sign ?k_law_sign ?a_law_any_rows ?l_law_any_rows ?c_law_any_rows ?k_law_any_rows ?a_law_other_rows ?l_law_other_rows ?c_law_other_rows ?k_law_other_rows ?a_law_told_right ?l_law_told_right ?c_law_told_right ?k_law_told_right ?a_law ?l_law ?c_law ?k_law ?v_q_LETTERS ?v_q_LONGEST ?v_q_WORDS ?w_q_WORDS ?z_q_WORDS ?y_q_WORDS ?v_q_MOST_SIDE ?v_q_BARE ?v_q_DARK ?b_abs ?b_all ?b_enumerate ?b_isinstance ?b_len ?b_list ?b_range ?b_repr ?b_str ?b_tuple
    (case a_Photo => k_is)
    (case a_is_name => k_is)
    (case a_is_sign => k_is)
    (case a_are_rows => k_is)
    (case a_law_well => k_is)
    (case a_law_take => k_is)
    (case a_law_of => k_is)
    (case a_law_name => k_is)
    (case a_law_sign => k_is)
    (case a_law_any_rows => k_is)
    (case a_law_other_rows => k_is)
    (case a_law_told_right => k_is)
    (case a_law => k_is)
    (case xg => k_is)
    (case xt => k_is)
    (case pg_Photo => k_is)
    (case hd_Photo => k_is)
    (case po_Photo => k_is)
    (case sa_Photo => k_is)
    (case mk_Photo => k_is)
    (case kp_Photo => k_is)
    (case cl_Photo => k_is)
    (case ob_Photo => k_is)
    (case ne_Photo => k_is)
    (case no_Photo_rows => k_is)
    (case ty_Photo => k_is)
    (case ss_Photo => first | rfl | k_is)
    (case up_Photo_NoneType => k_is)
    (case dn_Photo_NoneType => k_is)
    (case up_Photo_bool => k_is)
    (case dn_Photo_bool => k_is)
    (case up_Photo_int => k_is)
    (case dn_Photo_int => k_is)
    (case up_Photo_str => k_is)
    (case dn_Photo_str => k_is)
    (case up_Photo_tuple => k_is)
    (case dn_Photo_tuple => k_is)
    (case up_Photo_list => k_is)
    (case dn_Photo_list => k_is)
    (case up_Photo_dict => k_is)
    (case dn_Photo_dict => k_is)
    (case fi_Photo_init => k_is)
    (case isf_Photo_init => k_is)
    (case fi_Photo_len => k_is)
    (case isf_Photo_len => k_is)
    (case kf_Photo_len => k_is)
    (case fi_Photo_eq => k_is)
    (case isf_Photo_eq => k_is)
    (case kf_Photo_eq => k_is)
    (case fi_Photo_str => k_is)
    (case isf_Photo_str => k_is)
    (case kf_Photo_str => k_is)
    (case fi_Photo_repr => k_is)
    (case isf_Photo_repr => k_is)
    (case kf_Photo_repr => k_is)
    (case fi_Photo_at => k_is)
    (case isf_Photo_at => k_is)
    (case kf_Photo_at => k_is)
    (case l_is_name => k_is)
    (case c_is_name => k_is)
    (case k_is_name => k_is)
    (case l_is_sign => k_is)
    (case c_is_sign => k_is)
    (case k_is_sign => k_is)
    (case l_are_rows => k_is)
    (case c_are_rows => k_is)
    (case k_are_rows => k_is)
    (case l_Photo_init => k_is)
    (case c_Photo_init => k_is)
    (case k_Photo_init => k_is)
    (case l_Photo_len => k_is)
    (case c_Photo_len => k_is)
    (case l_Photo_eq => k_is)
    (case c_Photo_eq => k_is)
    (case l_Photo_str => k_is)
    (case c_Photo_str => k_is)
    (case l_Photo_repr => k_is)
    (case c_Photo_repr => k_is)
    (case l_Photo_at => k_is)
    (case c_Photo_at => k_is)
    (case l_law_well => k_is)
    (case c_law_well => k_is)
    (case k_law_well => k_is)
    (case l_law_take => k_is)
    (case c_law_take => k_is)
    (case k_law_take => k_is)
    (case l_law_of => k_is)
    (case c_law_of => k_is)
    (case k_law_of => k_is)
    (case l_law_name => k_is)
    (case c_law_name => k_is)
    (case k_law_name => k_is)
    (case l_law_sign => k_is)
    (case c_law_sign => k_is)
    (case k_law_sign => k_is)
    (case l_law_any_rows => k_is)
    (case c_law_any_rows => k_is)
    (case k_law_any_rows => k_is)
    (case l_law_other_rows => k_is)
    (case c_law_other_rows => k_is)
    (case k_law_other_rows => k_is)
    (case l_law_told_right => k_is)
    (case c_law_told_right => k_is)
    (case k_law_told_right => k_is)
    (case l_law => k_is)
    (case c_law => k_is)
    (case k_law => k_is)
    (case v_q_LETTERS => k_is)
    (case v_q_LONGEST => k_is)
    (case v_q_WORDS => k_is)
    (case w_q_WORDS => k_is)
    (case z_q_WORDS => decide)
    (case y_q_WORDS => repeat (first | exact .nil | (refine .cons ⟨_, rfl⟩ ?_) | (refine .cons rfl ?_)))
    (case v_q_MOST_SIDE => k_is)
    (case v_q_BARE => k_is)
    (case v_q_DARK => k_is)
    (case b_abs => k_is)
    (case b_all => k_is)
    (case b_enumerate => k_is)
    (case b_isinstance => k_is)
    (case b_len => k_is)
    (case b_list => k_is)
    (case b_range => k_is)
    (case b_repr => k_is)
    (case b_str => k_is)
    (case b_tuple => k_is)
