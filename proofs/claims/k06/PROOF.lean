import PyProof.Rows.All
import Wide.All
import OpenK.AllK
import Wide.FinOn
import HandS.ForMost
import HandS.Defaults
import HandS.IsInst
import HandS.Deep
import HandS.StrMore
import HandS.Wide
import HandS.Ends
import PyProof.ReprRoads
import HandS.ExcInit
import HandS.ExcField
import HandS.ExcOwn
import HandS.WordsExc
import HandS.TryOnly
import KE.IntTextLaws
import HandS.RaiseMore
import HandS.Style
import HandS.TupAny
import HandS.Rev
import HandS.Zip
import HandS.Small
import HandS.Flt
import HandS.MakeKw
import HandS.FStr
import KE.KCallOwn
import PyProof.InstNe
import PyProof.NeKinds
import PyProof.SeqInW
import HandS.OwnEq
import HandS.More
import HandS.TupLe
import KE.GoesMore
import HandS.TupMul
import HandS.Conv
import HandS.Iter
import HandS.SortRule
import HandS.SortInts
import KE.DataMinMax
import KE.SortData
import HandS.Strs
import KE.GoesZip
import HandS.SetFor
import HandS.TupSets
import HandS.SetKeys
import HandS.Flow
import PyProof.DictMoreH
import KE.KSortTupG
import HandS.DictTup
import HandS.ExcIs
import KE.KExcIs
import HandS.NoneIn
import PyProof.Conv_bool
import PyProof.Rows.RuleB_pow
import HandS.ExcValue
import PySem.Challenge.RW_pinnedcards_k06_refusals_by_hand
set_option Elab.async false
set_option linter.all false
set_option maxRecDepth 100000
set_option maxHeartbeats 4000000
namespace L2.Pc
open PySem PySem.Spec PyProof.Rows
/-! ### defs whose frame no builtin repr surrounds: the promise -/
structure FnG (P : Program) (w : World) (K : PySem.W.Frag) (mg : Str → Option Value) (base : Heap)
    (CX : CXT) (k : Nat) (f : Addr) (fd : FuncData) (ps : List Str) (sp : Sp) : Prop where
  len : ∀ vs H Q E, sp vs H Q E → vs.length = ps.length
  go : ∀ (A : Around) (outer : List Env) (s : Shared) (H : Hp) (args : Args) (us : List Value)
    (vs : List V) (Q : VK) (E : XK), A.guards = some [] → Room k A → Env0 P w K mg base A outer s H →
    BindsTo s fd args (ps.zip us) → Vals vs us → sp vs H Q E →
    codeAny (model P w) A (.call (.ref f) args) (CR CX outer P w H s Q E) s
section
variable {P : Program} {w : World} {K : PySem.W.Frag} {mg : Str → Option Value} {base : Heap}
  {CX : CXT} {f : Addr} {fd : FuncData} {N ps : List Str} {sp sp' : Sp} {k j : Nat}
theorem FnG.mono (F : FnG P w K mg base CX j f fd ps sp) (h : j ≤ k) : FnG P w K mg base CX k f fd ps sp :=
  ⟨F.len, fun A o s H a us vs Q E g r => F.go A o s H a us vs Q E g (r.mono h)⟩
theorem FnG.imp (F : FnG P w K mg base CX k f fd ps sp) (h : ∀ vs H Q E, sp' vs H Q E → sp vs H Q E) :
    FnG P w K mg base CX k f fd ps sp' :=
  ⟨fun vs H Q E q => F.len vs H Q E (h _ _ _ _ q),
   fun A o s H a us vs Q E g r e b v q => F.go A o s H a us vs Q E g r e b v (h _ _ _ _ q)⟩
/-- a def as it stands behind the top, its defaults of any form -/
structure Df (K : PySem.W.Frag) (x qual : Str) (st : Stmt) (f : Addr) (fd : FuncData) : Prop where
  ex : ∃ (oc : Value) (od : Option Addr) (dV kV doc pm : Value) (an : Option Addr) (cdv ct : Value)
      (osl : Array (Option Value)),
    fd = PySem.W.fnOf x qual (defArgs st) (defBody st) (defScope st) dV kV doc pm an cdv ct ∧
    K.lookup f = some ⟨oc, od, .func fd, osl⟩ ∧ PySem.W.codeIn K cdv qual = true
theorem guards_deep {A : Around} {env : Env} (h : A.guards = some []) : (A.deeper env).guards = some [] := h
/-- the def's body, as a term of rules, and its reading -/
theorem Df.ok {x qual : Str} {st : Stmt} (F : Df K x qual st f fd) (S : FnScope N ps (defScope st))
    (len : ∀ vs H Q E, sp vs H Q E → vs.length = ps.length)
    (hb : ∀ (cdv : Value) (A : Around) (outer : List Env) (s : Shared) (H : Hp) (vs : List V) (Q : VK) (E : XK),
      (A.deeper (envOfC qual (defScope st) s.heap.objs.size f cdv)).guards = some [] →
      Room k (A.deeper (envOfC qual (defScope st) s.heap.objs.size f cdv)) → sp vs H Q E →
      ∃ t, PSs (cxOf CX P w K mg base N qual (defScope st) f cdv A outer s H E) (defBody st) t ∧
        t { nx := fun _ H' => Q .non H', rt := Q } (start N vs) H) :
    FnG P w K mg base CX (k + 1) f fd ps sp := by
  obtain ⟨oc, od, dV, kV, doc, pm, an, cdv, ct, osl, rfl, lk, hc⟩ := F.ex
  refine ⟨len, fun A outer s H args us vs Q E hga hr e0 hbi r hsp => ?_⟩
  have hlen := len _ _ _ _ hsp
  have kin : K.In s.heap := e0.mod.kin.keeps (fun b o e => (e0.bs b o e).1)
  have hlm : s.heap.NoLimit := e0.mod.nolimit.keeps (fun b o e => (e0.bs b o e).1)
  have kinds : ∀ y ∈ ps.zip us, (defScope st).names.lookup y.1 = some .local ∨
      ((defScope st).names.lookup y.1 = some .cell ∧
        ((cellsFrom (s.heap.objs.size + 1) (defScope st).names []).lookup y.1).isSome = true) := by
    rintro ⟨n, v⟩ hy
    rcases S.par n (List.of_mem_zip hy).1 with h1 | h1
    · left; exact h1
    · right; exact ⟨h1, PySem.W.cellsFrom_some _ _ _ (Or.inl h1)⟩
  apply codeAny_call_function hr.depth (kin _ _ lk) rfl S.co S.gen rfl (PySem.W.codeRec_of kin hc) (hbi _ _ _ _ ?_)
  apply wpAny_newFunctionEnv_cells S.kind kinds
  intro env he s1 hx
  subst he
  refine ⟨hlm.keeps hx.toInCall.keep, codeAny_func ?_⟩
  obtain ⟨t, ht, hq⟩ := hb cdv A outer s H vs Q E (guards_deep hga) (hr.deeper _) hsp
  have I0 : Inv (cxOf CX P w K mg base N qual (defScope st) f cdv A outer s H E) [] (start N vs) H s1 :=
    inv_start S hr.hd e0 hlen r hx
  refine wpAny_mono (ht.run [] s1 (start N vs) H _ I0 hq) ?_ (fun e s' hs => hs)
  intro fl s' hs
  cases fl with
  | ret u =>
    obtain ⟨v, σ', H', J, rv, q⟩ := hs
    exact ⟨v, H', J.os, J.bare, J.base, J.hok, rv, q⟩
  | next =>
    obtain ⟨σ', H', J, q⟩ := hs
    exact ⟨V.non, H', J.os, J.bare, J.base, J.hok, rfl, q⟩
  | brk => obtain ⟨_, _, _, q⟩ := hs; exact q.elim
  | cont => obtain ⟨_, _, _, q⟩ := hs; exact q.elim
end
section
variable {X : Cx} {CX : CXT} {k n : Nat} {ks : List Str} {gV : List V → List V → List V} {sp : Sp} {E : XK} {x : Str}
  {p pos : Pos} {e : Expr} {es : List Expr} {kws : List Keyword} {t tk : TA}
def tKn (n m : Nat) (gV : List V → List V → List V) (sp : Sp) (E : XK) (t tk : TA) : TE := fun σ H Q =>
  t σ H fun vs H1 => tk σ H1 fun zs H2 => vs.length = n ∧ zs.length = m ∧ sp (gV vs zs) H2 Q E
end
theorem kb_pos {K : PySem.W.Frag} {fd : FuncData} {ps : List Str} {n : Nat}
    (h : ∀ us : List Value, us.length = n → bindArgs fd ⟨us, []⟩ = pure (ps.zip us)) :
    KBn K fd ps n [] (fun us _ => us) (fun vs _ => vs) :=
  ⟨fun s us ws _ hu _ => by
    have e : ([] : List Str).zip ws = [] := rfl
    rw [e]; exact .of_eq (h us hu), fun r _ => r⟩
end L2.Pc
namespace L2.Pc
open PySem PySem.Spec PyProof.Rows
/-- the modules' dict is the head's, untracked -/
structure Sm (base : Heap) : Prop where
  ns : ∃ m, base.Ns sysModules m
/-! ### the law's call, from such a promise -/
section
variable {P : Program} {w : World} {K : PySem.W.Frag} {mg mb : Str → Option Value} {CX : CXT} {k : Nat}
  {fa a : Addr} {fd : FuncData} {x : Str} {sp : Sp} {s1 : Shared} {vs : List Value} {ns : List Int}
def LawEnd (s1 : Shared) (r : Result) (s' : Shared) : Prop :=
  r = .ok (.ret (.bool true)) ∧ OldK s1.heap s'.heap ∧ s'.os = s1.os ∧ AllBare s'.gens
theorem law_core {H : Hp} (KX : K.In s1.heap) (hns : s1.heap.Ns mainGlobals mg) (hb : s1.heap.Ns builtinsNs mb)
    (hbb : ∀ y : Str, y ≠ "__name__" → mb y = bootBuiltins y) (hlim : s1.heap.NoLimit) (hge : s1.gens = #[])
    (ha : s1.heap.get? a = some { cls := .type "list", data := .seq vs.toArray }) (hr : Room k callerA)
    (hsm : ∃ m, s1.heap.Ns sysModules m) (F : ∀ base : Heap, K.In base → base.Ns mainGlobals mg → Sm base → FnG P w K mg base CX k fa fd [x] sp)
    (hbind : ∀ (s : Shared) (u : Value), BindsTo s fd ⟨[u], []⟩ [(x, u)])
    (hsp : sp [.ref a] H (fun v _ => v = .bl true) fun _ _ _ => False)
    (hCX : ∀ e s', CX [] H s1 (fun _ _ _ => False) e s' → False)
    (hO : Only H) (hok : HOk P w H s1.heap) (hA : ∀ b, H b ≠ none → b = a) (hK : H a ≠ none → K.lookup a = none) :
    codeAny (model P w) callerA (.call (.ref fa) ⟨[.ref a], []⟩) (LawEnd s1) s1 := by
  have keep1 : ∀ {b : Addr} {o : Obj}, s1.heap.get? b = some o → H b = none → (hidT s1.heap H).get? b = some o :=
    fun e n => hidT_get e n
  have isA : ∀ {b : Addr} {u : HO}, H b = some u → b = a := fun {b u} q => hA b (by rw [q]; exact Option.some_ne_none _)
  have nodict : ∀ {b : Addr} {o : Obj} {es : Array DictEntry} {ep : Nat},
      s1.heap.get? b = some o → o.data = .dict es ep → H b = none := by
    intro b o es ep e d
    cases q : H b with
    | none => rfl
    | some u =>
      have e2 := isA q
      subst e2
      rw [ha] at e
      cases e
      cases (show Data.seq vs.toArray _ = Data.dict es ep from d)
  have ns1 : ∀ {b : Addr} {m : Str → Option Value}, s1.heap.Ns b m → (hidT s1.heap H).Ns b m := by
    rintro b m ⟨o, es, ep, e, d, r⟩
    exact ⟨o, es, ep, keep1 e (nodict e d), d, r⟩
  have kin : K.In (hidT s1.heap H) := by
    intro b o e
    refine keep1 (KX b o e) ?_
    cases q : H b with
    | none => rfl
    | some u =>
      have e2 := isA q
      subst e2
      rw [hK (by rw [q]; exact Option.some_ne_none _)] at e
      cases e
  have md : Mod K mg (hidT s1.heap H) :=
    ⟨kin, ns1 hns, ⟨mb, ns1 hb, hbb⟩, by obtain ⟨mc, h1, h2⟩ := hlim; exact ⟨mc, ns1 h1, h2⟩⟩
  have en : Env0 P w K mg (hidT s1.heap H) callerA [] s1 H :=
    ⟨rfl, md, fun b o e => of_hidT e, Nat.le_of_eq (hidT_size _ _), trivial, fun b hb => (nomatch hb), hok, .of_eq hge⟩
  have run := (F _ kin (ns1 hns) (let ⟨m, hm⟩ := hsm; ⟨m, ns1 hm⟩)).go callerA [] s1 H ⟨[.ref a], []⟩ [.ref a] [.ref a] _ _ rfl hr en
    (hbind s1 (.ref a)) (.cons rfl .nil) hsp
  refine codeAny_mono run ?_
  intro r s' h
  cases r with
  | error e => exact (hCX e s' h).elim
  | ok fl =>
    cases fl with
    | next => exact h.elim
    | brk => exact h.elim
    | cont => exact h.elim
    | ret u =>
      obtain ⟨v, H', os, bare, un, hok2, r2, q⟩ := h
      have qv : v = .bl true := q
      subst qv
      have hu : u = Value.bool true := r2
      subst hu
      refine ⟨rfl, OldK.of_keep ?_, os, bare⟩
      intro b o e
      cases q : H b with
      | none => exact un.keep b o e q (fun z => nomatch z) (fun z => nomatch z)
      | some u =>
        rcases hO b with z | ⟨ob, xs, z⟩
        · rw [q] at z
          cases z
        · obtain ⟨e1, _⟩ := hok b _ z
          obtain ⟨e2, _⟩ := hok2 b _ (un.frzs b ob _ z)
          rw [e] at e1
          cases e1
          exact e2
theorem law_callG (KX : K.In s1.heap) (hns : s1.heap.Ns mainGlobals mg) (hb : s1.heap.Ns builtinsNs mb)
    (hbb : ∀ y : Str, y ≠ "__name__" → mb y = bootBuiltins y) (hlim : s1.heap.NoLimit) (hge : s1.gens = #[])
    (ha : s1.heap.get? a = some { cls := .type "list", data := .seq vs.toArray }) (hi : IntsAre vs ns)
    (hl : ns.length ≤ sizeLine) (hr : Room k callerA)
    (hsm : ∃ m, s1.heap.Ns sysModules m) (F : ∀ base : Heap, K.In base → base.Ns mainGlobals mg → Sm base → FnG P w K mg base CX k fa fd [x] sp)
    (hbind : ∀ (s : Shared) (u : Value), BindsTo s fd ⟨[u], []⟩ [(x, u)])
    (hsp : ∀ H : Hp, Only H → SqL K H a (ns.map V.int) → sp [.ref a] H (fun v _ => v = .bl true) fun _ _ _ => False)
    (hCX : ∀ H e s', CX [] H s1 (fun _ _ _ => False) e s' → False) :
    codeAny (model P w) callerA (.call (.ref fa) ⟨[.ref a], []⟩) (LawEnd s1) s1 := by
  have rv := vals_ints hi
  cases hk : K.lookup a with
  | some o =>
    have e := KX a o hk
    rw [ha] at e
    cases e
    have hsz : vs.toArray.size ≤ sizeLine := by rw [List.size_toArray, hi.length]; exact hl
    refine law_core (H := fun _ => none) KX hns hb hbb hlim hge ha hr hsm F hbind ?_ (fun e s' => hCX _ e s')
      (fun _ => Or.inl rfl) (fun b u z => by cases z) (fun b z => absurd rfl z) (fun z => absurd rfl z)
    exact hsp _ (fun _ => Or.inl rfl) (Or.inr ⟨_, vs.toArray, _, hk, rfl, rfl, rfl, hsz, by simpa using rv⟩)
  | none =>
    have hin : (if a = a then some (HO.frz { cls := .type "list", data := .seq vs.toArray } (.lst (ns.map V.int))) else none)
      = some (HO.frz { cls := .type "list", data := .seq vs.toArray } (.lst (ns.map V.int))) := if_pos rfl
    have only : Only (fun b => if b = a then some (.frz { cls := .type "list", data := .seq vs.toArray } (.lst (ns.map V.int))) else none) := by
      intro b
      by_cases hb : b = a
      · right; exact ⟨_, _, if_pos hb⟩
      · left; exact if_neg hb
    refine law_core KX hns hb hbb hlim hge ha hr hsm F hbind (hsp _ only (Or.inl (Or.inr ⟨_, hin⟩))) (fun e s' => hCX _ e s') only ?_ ?_ (fun _ => hk)
    · intro b u z
      by_cases hb : b = a
      · have z2 := (if_pos hb).symm.trans z
        cases z2
        subst hb
        exact ⟨ha, by rw [List.length_map]; exact hl, vs, _, rv, ha⟩
      · have z2 := (if_neg hb).symm.trans z
        cases z2
    · intro b z
      by_cases hb : b = a
      · exact hb
      · exact absurd (if_neg hb) z
end
end L2.Pc
namespace L2.Pc
open PySem PySem.Spec PyProof.Rows
/-! ### what stays: every tracked object but those that are known by a property alone -/
def isX : HO → Bool
  | .ext _ => true
  | _ => false
def Mx (H H' : Hp) : Prop := ∀ a o, H a = some o → isX o = false → H' a = some o
theorem Mx.refl (H : Hp) : Mx H H := fun _ _ h _ => h
theorem Mx.trans {H H1 H2 : Hp} (a : Mx H H1) (b : Mx H1 H2) : Mx H H2 := fun x o h n => b x o (a x o h n) n
theorem _root_.L2.Same.mx {H H' : Hp} (a : Same H H') : Mx H H' := fun x o h _ => a x o h
theorem Mx.at {H H' : Hp} {a : Addr} {o : HO} (e : Mx H H') (h : H a = some o) (n : isX o = false := by rfl) : H' a = some o := e a o h n
theorem _root_.L2.Same.at {H H' : Hp} {a : Addr} {o : HO} (e : Same H H') (h : H a = some o) : H' a = some o := e a o h
theorem _root_.L2.Same.new {H : Hp} {p : Addr} {o : HO} (h : H p = none) : Same H (upd H p o) := fun b x e => by
  rw [upd_ne (ne_of_none e h)]; exact e
theorem Mx.new {H : Hp} {p : Addr} {o : HO} (h : H p = none) : Mx H (upd H p o) := Same.mx (Same.new h)
theorem Mx.free {H H' : Hp} {p : Addr} (e : Same H H') (h : H' p = none) : H p = none := e.free h
theorem _root_.L2.Rd.mx {H H' : Hp} {a : Addr} {u : HO} (e : Mx H H') (n : isX u = false) (h : Rd H a u) : Rd H' a u := by
  rcases h with h | ⟨o, h⟩
  · exact .inl (e a _ h n)
  · exact .inr ⟨o, e a _ h rfl⟩
theorem _root_.L2.SqL.mx {K : PySem.W.Frag} {H H' : Hp} {a : Addr} {xs : List V} (e : Mx H H') (h : SqL K H a xs) : SqL K H' a xs := by
  rcases h with h | h
  · exact .inl (Rd.mx e rfl h)
  · exact .inr h
theorem _root_.L2.SqT.mx {K : PySem.W.Frag} {H H' : Hp} {a : Addr} {xs : List V} (e : Mx H H') (h : SqT K H a xs) : SqT K H' a xs := by
  rcases h with h | h
  · exact .inl (Rd.mx e rfl h)
  · exact .inr h
/-! ### data: None, truths, ints, texts, lists, tuples, dicts of these -/
def keyD : Key → PyData
  | .inl i => .int i
  | .inr x => .str x
mutual
inductive Da (K : PySem.W.Frag) (H : Hp) : V → PyData → Prop
  | non : Da K H .non .none
  | bl (b : Bool) : Da K H (.bl b) (.bool b)
  | int (i : Int) : Da K H (.int i) (.int i)
  | str (x : Str) : Da K H (.str x) (.str x)
  | lst {a : Addr} {xs : List V} {ds : List PyData} : SqL K H a xs → DaAll K H xs ds → Da K H (.ref a) (.list ds)
  | tup {a : Addr} {xs : List V} {ds : List PyData} : SqT K H a xs → DaAll K H xs ds → Da K H (.ref a) (.tuple ds)
  | dct {a : Addr} {kvs : List (Key × V)} {ds : List PyData} : Rd H a (.dK kvs) → DaAll K H (kvs.map (·.2)) ds →
      Da K H (.ref a) (.dict ((kvs.map fun p => keyD p.1).zip ds))
inductive DaAll (K : PySem.W.Frag) (H : Hp) : List V → List PyData → Prop
  | nil : DaAll K H [] []
  | cons {v : V} {vs : List V} {d : PyData} {ds : List PyData} : Da K H v d → DaAll K H vs ds → DaAll K H (v :: vs) (d :: ds)
end
mutual
theorem Da.mx {K : PySem.W.Frag} {H H' : Hp} (e : Mx H H') : ∀ {v : V} {d : PyData}, Da K H v d → Da K H' v d
  | _, _, .non => .non
  | _, _, .bl b => .bl b
  | _, _, .int i => .int i
  | _, _, .str x => .str x
  | _, _, .lst h hs => .lst (SqL.mx e h) (DaAll.mx e hs)
  | _, _, .tup h hs => .tup (SqT.mx e h) (DaAll.mx e hs)
  | _, _, .dct h hs => .dct (Rd.mx e rfl h) (DaAll.mx e hs)
theorem DaAll.mx {K : PySem.W.Frag} {H H' : Hp} (e : Mx H H') : ∀ {vs : List V} {ds : List PyData}, DaAll K H vs ds → DaAll K H' vs ds
  | _, _, .nil => .nil
  | _, _, .cons h hs => .cons (Da.mx e h) (DaAll.mx e hs)
end
theorem DaAll.len {K : PySem.W.Frag} {H : Hp} : ∀ {vs : List V} {ds : List PyData}, DaAll K H vs ds → vs.length = ds.length
  | _, _, .nil => rfl
  | _, _, .cons _ hs => congrArg (· + 1) (DaAll.len hs)
section
variable {X : Cx} {pins : List (Addr × Obj)} {σ : L2.St} {H : Hp} {s : Shared}
theorem Sm.free (M : Sm X.base) (I : Inv X pins σ H s) : H sysModules = none := by
  obtain ⟨m, o, es, ep, h, _⟩ := M.ns
  exact (I.bs _ _ h).2
theorem Sm.noList (M : Sm X.base) (I : Inv X pins σ H s) {a : Addr} {xs : List V} (h : SqL X.K H a xs) : a ≠ sysModules := by
  rintro rfl
  rcases h with (h | ⟨o, h⟩) | ⟨o, its, n, h, _, _, hd, _⟩
  · rw [M.free I] at h; cases h
  · rw [M.free I] at h; cases h
  · obtain ⟨m, o2, es, ep, h2, hd2, _⟩ := M.ns
    have e := I.mod.kin _ _ h
    rw [h2] at e
    cases e
    rw [hd2] at hd
    cases hd
theorem pairs_reads {h : Heap} {P : Program} {w : World} : ∀ {l : List DictEntry} {vs : List (Key × Value)}, Pairs (mixKind P w) l vs →
    ReadsAll h (l.map (·.key)) (vs.map fun p => keyD p.1) []
  | _, _, .nil => .nil
  | e :: l, (k, v) :: vs, .cons h1 h2 h3 => by
    have r := pairs_reads (h := h) h3
    have hk : Reads h e.key (keyD k) [] := by
      rcases keyIs_shape (show keyIs k e.key = true from h1) with ⟨i, t, rfl, e2⟩ | ⟨x, t, rfl, e2⟩
      · rw [e2]; exact .int i t
      · rw [e2]; exact .str x t
    exact ReadsAll.cons hk r
theorem pairs_vals {P : Program} {w : World} : ∀ {l : List DictEntry} {vs : List (Key × Value)}, Pairs (mixKind P w) l vs → l.map (·.val) = vs.map (·.2)
  | _, _, .nil => rfl
  | e :: l, (k, v) :: vs, .cons h1 h2 h3 => by
    rw [List.map_cons, List.map_cons, pairs_vals h3, h2]
theorem kv_vals : ∀ {kvs : List (Key × V)} {vs : List (Key × Value)}, KV kvs vs → Vals (kvs.map (·.2)) (vs.map (·.2)) ∧ kvs.map (fun p => keyD p.1) = vs.map (fun p => keyD p.1)
  | _, _, .nil => ⟨.nil, rfl⟩
  | (k, v) :: kvs, (k2, v2) :: vs, .cons ⟨h1, h2⟩ h3 => by
    obtain ⟨r, e⟩ := kv_vals h3
    refine ⟨.cons h2 r, ?_⟩
    have h1 : k = k2 := h1
    rw [List.map_cons, List.map_cons, e, h1]
mutual
theorem Da.reads (M : Sm X.base) (I : Inv X pins σ H s) : ∀ {v : V} {d : PyData} {u : Value}, Da X.K H v d → RelV v u → ∃ as, Reads s.heap u d as ∧ sysModules ∉ as
  | _, _, _, .non, r => by cases r; exact ⟨_, .none, fun h => nomatch h⟩
  | _, _, _, .bl b, r => by cases r; exact ⟨_, .bool b, fun h => nomatch h⟩
  | _, _, _, .int i, r => by obtain ⟨t, rfl⟩ := r; exact ⟨_, .int i t, fun h => nomatch h⟩
  | _, _, _, .str x, r => by obtain ⟨t, rfl⟩ := r; exact ⟨_, .str x t, fun h => nomatch h⟩
  | _, _, _, .lst h hs, r => by
    cases r
    obtain ⟨its, rv, ⟨o, n, ho, hc, _, hd⟩, _⟩ := I.list h
    obtain ⟨as, hr, hn⟩ := DaAll.reads M I hs rv
    refine ⟨_, .list ho hc hd hr, fun z => ?_⟩
    rcases List.mem_cons.mp z with z | z
    · exact M.noList I h z.symm
    · exact hn z
  | _, _, _, .tup h hs, r => by
    cases r
    obtain ⟨its, rv, ⟨o, ho, hc, n, hd⟩, _⟩ := I.tuple h
    obtain ⟨as, hr, hn⟩ := DaAll.reads M I hs rv
    exact ⟨_, .tuple ho hc hd hr, hn⟩
  | _, _, _, @Da.dct _ _ a kvs ds h hs, r => by
    cases r
    obtain ⟨_, hsm, vs, kv, o, es, ep, ho, hx, hd, _, pr, _⟩ := h.ok I.hok
    obtain ⟨rv, ek⟩ := kv_vals kv
    obtain ⟨as, hr, hn⟩ := DaAll.reads M I hs rv
    have l1 := hs.len
    rw [List.length_map] at l1
    have e1 : ((kvs.map fun p => keyD p.1).zip ds).map (·.1) = kvs.map fun p => keyD p.1 := List.map_fst_zip (by rw [List.length_map]; omega)
    have e2 : ((kvs.map fun p => keyD p.1).zip ds).map (·.2) = ds := List.map_snd_zip (by rw [List.length_map]; omega)
    refine ⟨_, .dict (as := []) (bs := as) ho hx.1 hd ?_ ?_, fun z => ?_⟩
    · rw [e1, ek]; exact pairs_reads pr
    · rw [e2, pairs_vals pr]; exact hr
    · rcases List.mem_cons.mp (show sysModules ∈ a :: ([] ++ as) from z) with z | z
      · rw [← z] at hsm; exact absurd hsm (by decide)
      · exact hn (by simpa using z)
theorem DaAll.reads (M : Sm X.base) (I : Inv X pins σ H s) : ∀ {vs : List V} {ds : List PyData} {us : List Value}, DaAll X.K H vs ds → Vals vs us → ∃ as, ReadsAll s.heap us ds as ∧ sysModules ∉ as
  | _, _, _, .nil, .nil => ⟨_, .nil, fun h => nomatch h⟩
  | _, _, _, .cons h hs, .cons r rs => by
    obtain ⟨as, q1, n1⟩ := Da.reads M I h r
    obtain ⟨bs, q2, n2⟩ := DaAll.reads M I hs rs
    refine ⟨_, .cons q1 q2, fun z => ?_⟩
    rcases List.mem_append.mp z with z | z
    · exact n1 z
    · exact n2 z
end
end
/-- repr of data -/
def rRepr (K : PySem.W.Frag) : List V → Hp → VK → Prop := fun xs H Q => ∃ (x : V) (d : PyData), xs = [x] ∧ Da K H x d ∧
  d.showable = true ∧ d.depth ≤ 60 ∧ d.shown.length ≤ sizeLine ∧ Q (.str d.shown) H
theorem call_reprD {X : Cx} (hga : X.A.guards = some []) (hu : X.A.units + 64 < cLine) (M : Sm X.base) : CallR X (.builtin "repr") (rRepr X.K) := by
  intro pins s σ H xs us Q I r h
  obtain ⟨x, d, rfl, hd, hs, hdp, hz, q⟩ := h
  obtain ⟨u, rfl, ru⟩ : ∃ u, us = [u] ∧ RelV x u := by
    cases r with
    | cons p q => cases q; exact ⟨_, rfl, p⟩
  cases hd with
  | non => cases ru; exact PySem.P.repr_of_none ⟨.str _, H, I.tok _, ⟨_, rfl⟩, q⟩
  | bl b => cases ru; exact PySem.P.repr_of_bool ⟨.str _, H, I.tok _, ⟨_, rfl⟩, q⟩
  | int i =>
    obtain ⟨t, rfl⟩ := ru
    exact PySem.P.repr_of_int (by simpa [PyData.showable] using hs) ⟨.str _, H, I.tok _, ⟨_, rfl⟩, q⟩
  | str y =>
    obtain ⟨t, rfl⟩ := ru
    exact PySem.P.repr_of_str ⟨.str _, H, I.tok _, ⟨_, rfl⟩, q⟩ hz
  | lst h1 h2 =>
    cases ru
    obtain ⟨as, rd, hn⟩ := Da.reads M I (.lst h1 h2) rfl
    exact PySem.repr_of_reads' rd hs (fun _ => hn) hga (by omega) (fun _ _ e => e) (fun h' u tk hk => ⟨.str _, H, I.kept hk, ⟨_, rfl⟩, q⟩) hz
  | tup h1 h2 =>
    cases ru
    obtain ⟨as, rd, hn⟩ := Da.reads M I (.tup h1 h2) rfl
    exact PySem.repr_of_reads' rd hs (fun _ => hn) hga (by omega) (fun _ _ e => e) (fun h' u tk hk => ⟨.str _, H, I.kept hk, ⟨_, rfl⟩, q⟩) hz
  | dct h1 h2 =>
    cases ru
    obtain ⟨as, rd, hn⟩ := Da.reads M I (.dct h1 h2) rfl
    exact PySem.repr_of_reads' rd hs (fun _ => hn) hga (by omega) (fun _ _ e => e) (fun h' u tk hk => ⟨.str _, H, I.kept hk, ⟨_, rfl⟩, q⟩) hz
end L2.Pc
namespace L2.Pc
open PySem PySem.Spec PyProof.Rows
/-! ### a list or dict known by a property of what it holds -/
def flatO : HO → Prop
  | .lst _ => True
  | .dK _ => True
  | _ => False
def AbsO (P : Program) (w : World) (R : HO → Prop) (z : Addr) : HO :=
  .ext fun h => ∃ u, flatO u ∧ R u ∧ ObjOk P w (fun _ => none) h z u
end L2.Pc
namespace L2.Pc
open PySem PySem.Spec PyProof.Rows
/-! ### rules that take values of several kinds -/
structure Gm (mg : Str → Option Value) (x : Str) (v : V) : Prop where
  ex : ∃ u, mg x = some u ∧ RelV v u
section
variable {X : Cx} {x : Str} {v : V} {pos : Pos}
theorem pe_gm (h : Gm X.mg x v) (hg : Gl X x) (hd : (x == ("__debug__" : Str)) = false := by decide) : PE X (.Name x pos) (tC v) := by
  obtain ⟨u, h1, h2⟩ := h.ex
  exact pe_glob hg h1 h2 hd
def rAddM (K : PySem.W.Frag) : R2 := fun a b H Q =>
  rI0 (fun i j => .int (i + j)) a b H Q ∨ (∃ i j, a = .str i ∧ b = .str j ∧ i.length + j.length ≤ sizeLine ∧ Q (.str (i ++ j)) H) ∨
  rCat a b H Q ∨ rCatT K a b H Q
def rMulS : R2 := fun a b H Q => ∃ i n, a = .str i ∧ b = .int n ∧ MulOk i n ∧ Q (.str (Txt.mul i n)) H
theorem op_mulS : OpR X (binaryOp .Mult) rMulS := by
  intro pins s σ H a b v u Q I ra rb h
  obtain ⟨i, n, rfl, rfl, hok, q⟩ := h
  obtain ⟨t, rfl⟩ := ra
  obtain ⟨t2, rfl⟩ := rb
  exact PySem.SB.mul hok fun t' k => ⟨.str _, H, I.tok _, ⟨_, rfl⟩, q⟩
def CMa (i j : Int) : Prop := CMul i j ∨ CMulW i j
theorem op_mulI : OpR X (binaryOp .Mult) (rI CMa fun i j => .int (i * j)) := by
  intro pins s σ H a b v u Q I ra rb h
  obtain ⟨i, j, e1, e2, hc | hc, q⟩ := h
  · exact op_mul pins s σ H a b v u Q I ra rb ⟨i, j, e1, e2, hc, q⟩
  · exact op_mulW pins s σ H a b v u Q I ra rb ⟨i, j, e1, e2, hc, q⟩
def rMulM : R2 := fun a b H Q => rI CMa (fun i j => .int (i * j)) a b H Q ∨ rMulS a b H Q ∨ rRep a b H Q
theorem op_mulM : OpR X (binaryOp .Mult) rMulM := by
  intro pins s σ H a b v u Q I ra rb h
  rcases h with h | h | h
  · exact op_mulI pins s σ H a b v u Q I ra rb h
  · exact op_mulS pins s σ H a b v u Q I ra rb h
  · exact op_rep pins s σ H a b v u Q I ra rb h
def rEqM (K : PySem.W.Frag) : R2 := fun a b H Q => rEq a b H Q ∨ rEqD K a b H Q
theorem op_eqM (hu : X.A.units + 64 < cLine) : OpR X (compareOp .Eq) (rEqM X.K) := by
  intro pins s σ H a b v u Q I ra rb h
  rcases h with h | h
  · exact op_eq pins s σ H a b v u Q I ra rb h
  · exact op_eqD hu pins s σ H a b v u Q I ra rb h
def rNeM (K : PySem.W.Frag) : R2 := fun a b H Q => rNe a b H Q ∨ rNeD K a b H Q
theorem op_neM (hu : X.A.units + 64 < cLine) : OpR X (compareOp .NotEq) (rNeM X.K) := by
  intro pins s σ H a b v u Q I ra rb h
  rcases h with h | h
  · exact op_ne pins s σ H a b v u Q I ra rb h
  · exact op_neD hu pins s σ H a b v u Q I ra rb h
def rInM (K : PySem.W.Frag) (neg : Bool) : R2 := fun a b H Q =>
  (∃ (c : Nat) (z : Str), a = .str ⟨#[c]⟩ ∧ b = .str z ∧ Q (.bl (if neg then !decide (c ∈ z.cps.toList) else decide (c ∈ z.cps.toList))) H) ∨ rIn K neg a b H Q
def rIxM (K : PySem.W.Frag) : R2 := fun a b H Q => rIxL K a b H Q ∨ rIxT K a b H Q ∨ rIxS a b H Q
theorem ixM : IxR X (rIxM X.K) := IxR.or ix_list (IxR.or ix_tup ix_str)
def rSlM (K : PySem.W.Frag) : V → Option Int → Option Int → Hp → VK → Prop := fun a lo hi H Q => rSlL K a lo hi H Q ∨ rSlS a lo hi H Q
def rIntM : List V → Hp → VK → Prop := fun xs H Q => (∃ i, xs = [.int i] ∧ Q (.int i) H) ∨ (∃ k, xs = [.bl k] ∧ Q (.int (if k then 1 else 0)) H) ∨
  ∃ a n, xs = [.str a] ∧ PySem.intText? a = some n ∧ a.length ≤ 640 ∧ Q (.int n) H
theorem call_intM : CallR X (.type "int") rIntM := by
  intro pins s σ H xs us Q I r h
  rcases h with h | h | h
  · exact call_int1 pins s σ H xs us Q I r (.inl h)
  · exact call_int1 pins s σ H xs us Q I r (.inr h)
  · exact call_int_str pins s σ H xs us Q I r h
end
section
variable {X : Cx} {o e : Expr} {to te : TE} {apos pos : Pos}
def rLen (K : PySem.W.Frag) : List V → Hp → VK → Prop := fun xs H Q => ∃ x n, xs = [x] ∧ LenV K x H n ∧ Q (.int (n : Nat)) H
theorem call_lenM : CallR X (.builtin "len") (rLen X.K) := call_len
def rAbs : List V → Hp → VK → Prop := fun xs H Q => ∃ i, xs = [.int i] ∧ Q (.int (if i < 0 then -i else i)) H
theorem call_absM : CallR X (.builtin "abs") rAbs := call_abs
def rStrip : V → List V → Hp → VK → Prop := fun x xs H Q => ∃ a b, x = .str a ∧ xs = [.str b] ∧ a.length ≤ sizeLine ∧ Q (.str (Txt.stripChars a b)) H
def rUpper : V → List V → Hp → VK → Prop := fun x xs H Q => ∃ a, x = .str a ∧ xs = [] ∧ a.length ≤ 5592405 ∧ Q (.str (Txt.upper a)) H
end
/-! ### a word between an expression and what follows -/
/-! ### a new object -/
def NewO (H : Hp) (o : HO) (Q : VK) : Prop := ∀ p, H p = none → Q (.ref p) (upd H p o)
theorem g_new {H : Hp} {o : HO} {Q : VK} (k : ∀ p H', H p = none → Same H H' → H' p = some o → Q (.ref p) H') : NewO H o Q :=
  fun p hp => k p _ hp (Same.new hp) upd_same
/-! ### a datum's class -/
def tyName : PyData → String
  | .none => "NoneType"
  | .bool _ => "bool"
  | .int _ => "int"
  | .str _ => "str"
  | .list _ => "list"
  | .tuple _ => "tuple"
  | .dict _ => "dict"
theorem Da.ty {K : PySem.W.Frag} {H : Hp} {v : V} {d : PyData} (h : Da K H v d) : TyX K H v (.type (tyName d)) := by
  cases h with
  | non => exact .base .non
  | bl b => exact .base (.bl b)
  | int i => exact .base (.int i)
  | str x => exact .base (.str x)
  | lst h _ =>
    rcases h with (h | ⟨o, h⟩) | ⟨o, its, n, h, hc, _⟩
    · exact .base (.lst h)
    · exact .base (.frz h)
    · exact .kList h hc
  | tup h _ =>
    rcases h with (h | ⟨o, h⟩) | ⟨o, its, n, h, hc, _⟩
    · exact .base (.tup h)
    · exact .fTuple h
    · exact .kTuple h hc
  | dct h _ =>
    rcases h with h | ⟨o, h⟩
    · exact .base (.dK h)
    · exact .fDict h
@[reducible] def isStr : PyData → Bool
  | .str _ => true
  | _ => false
@[reducible] def isInt : PyData → Bool
  | .int _ => true
  | .bool _ => true
  | _ => false
@[reducible] def isBool : PyData → Bool
  | .bool _ => true
  | _ => false
@[reducible] def isTup : PyData → Bool
  | .tuple _ => true
  | _ => false
theorem kit_isStr : ∀ d : PyData, kitB (tyName d) "str" = some (isStr d)
  | .none => (show kitB "NoneType" "str" = some false by decide +kernel)
  | .bool _ => (show kitB "bool" "str" = some false by decide +kernel)
  | .int _ => (show kitB "int" "str" = some false by decide +kernel)
  | .str _ => (show kitB "str" "str" = some true by decide +kernel)
  | .list _ => (show kitB "list" "str" = some false by decide +kernel)
  | .tuple _ => (show kitB "tuple" "str" = some false by decide +kernel)
  | .dict _ => (show kitB "dict" "str" = some false by decide +kernel)
theorem kit_isInt : ∀ d : PyData, kitB (tyName d) "int" = some (isInt d)
  | .none => (show kitB "NoneType" "int" = some false by decide +kernel)
  | .bool _ => (show kitB "bool" "int" = some true by decide +kernel)
  | .int _ => (show kitB "int" "int" = some true by decide +kernel)
  | .str _ => (show kitB "str" "int" = some false by decide +kernel)
  | .list _ => (show kitB "list" "int" = some false by decide +kernel)
  | .tuple _ => (show kitB "tuple" "int" = some false by decide +kernel)
  | .dict _ => (show kitB "dict" "int" = some false by decide +kernel)
theorem kit_isBool : ∀ d : PyData, kitB (tyName d) "bool" = some (isBool d)
  | .none => (show kitB "NoneType" "bool" = some false by decide +kernel)
  | .bool _ => (show kitB "bool" "bool" = some true by decide +kernel)
  | .int _ => (show kitB "int" "bool" = some false by decide +kernel)
  | .str _ => (show kitB "str" "bool" = some false by decide +kernel)
  | .list _ => (show kitB "list" "bool" = some false by decide +kernel)
  | .tuple _ => (show kitB "tuple" "bool" = some false by decide +kernel)
  | .dict _ => (show kitB "dict" "bool" = some false by decide +kernel)
theorem kit_isTup : ∀ d : PyData, kitB (tyName d) "tuple" = some (isTup d)
  | .none => (show kitB "NoneType" "tuple" = some false by decide +kernel)
  | .bool _ => (show kitB "bool" "tuple" = some false by decide +kernel)
  | .int _ => (show kitB "int" "tuple" = some false by decide +kernel)
  | .str _ => (show kitB "str" "tuple" = some false by decide +kernel)
  | .list _ => (show kitB "list" "tuple" = some false by decide +kernel)
  | .tuple _ => (show kitB "tuple" "tuple" = some true by decide +kernel)
  | .dict _ => (show kitB "dict" "tuple" = some false by decide +kernel)
/-! ### readings, step by step -/
section
variable {σ : L2.St} {H : Hp} {Q : VK} {v x y : V} {ta tb tc te : TE} {t u c : TT} {K : PySem.W.Frag} {D : Ends} {t1 t2 : TS}
  {r r' : R2} {i j : Int} {b : Bool} {g : TG} {a q : Str}
theorem g_c (k : Q v H) : tC v σ H Q := k
theorem g_op (k : ta σ H fun x H1 => tb σ H1 fun y H2 => r x y H2 Q) : tOp r ta tb σ H Q := k
theorem g_un {r : V → Hp → VK → Prop} (k : ta σ H fun x H1 => r x H1 Q) : tUn r ta σ H Q := k
theorem g_test {R : Bool → Hp → Prop} (k : te σ H fun x H' => ∃ k, x = .bl k ∧ R k H') : tTest te σ H R := k
theorem g_tB {R : Bool → Hp → Prop} (k : te σ H fun x H' => ∃ k, x = .bl k ∧ R k H') : tB te σ H R := k
theorem g_bl {R : Bool → Prop} (k : R b) : ∃ k, V.bl b = .bl k ∧ R k := ⟨b, rfl, k⟩
theorem g_and {R : Bool → Hp → Prop} (k : t σ H fun c H1 => if c = true then u σ H1 R else R false H1) : tAnd t u σ H R := k
theorem g_or {R : Bool → Hp → Prop} (k : t σ H fun c H1 => if c = true then R true H1 else u σ H1 R) : tOr t u σ H R := k
theorem g_not {R : Bool → Hp → Prop} (k : t σ H fun c H1 => R (!c) H1) : tNot t σ H R := k
theorem g_andV (k : ta σ H fun x H1 => ∃ c, x = .bl c ∧ if c = true then tb σ H1 Q else Q (.bl false) H1) : tAndV ta tb σ H Q := k
theorem g_orV (k : ta σ H fun x H1 => ∃ c, x = .bl c ∧ if c = true then Q (.bl true) H1 else tb σ H1 Q) : tOrV ta tb σ H Q := k
theorem g_notV (k : ta σ H fun x H1 => ∃ c, x = .bl c ∧ Q (.bl (!c)) H1) : tNotV ta σ H Q := k
theorem g_if (k : t σ H fun c H1 => if c = true then ta σ H1 Q else tb σ H1 Q) : tIf t ta tb σ H Q := k
theorem g_chain (k : ta σ H fun x H1 => tb σ H1 fun y H2 => r x y H2 fun z H3 => ∃ k, z = .bl k ∧
  (if k = true then tc σ H3 fun w' H4 => r' y w' H4 Q else Q (.bl false) H3)) : tChain r r' ta tb tc σ H Q := k
theorem g_nil {R : List V → Hp → Prop} (k : R [] H) : tNil σ H R := k
theorem g_cons {tr : TA} {R : List V → Hp → Prop} (k : ta σ H fun x H1 => tr σ H1 fun xs H2 => R (x :: xs) H2) : tCons ta tr σ H R := k
theorem g_cb {f : List V → Hp → VK → Prop} {tr : TA} (k : tr σ H fun vs H1 => f vs H1 Q) : tCB f tr σ H Q := k
theorem g_kn {n m : Nat} {gV : List V → List V → List V} {sp : Sp} {E : XK} {ts tk : TA}
  (k : ts σ H fun vs H1 => tk σ H1 fun zs H2 => vs.length = n ∧ zs.length = m ∧ sp (gV vs zs) H2 Q E) : tKn n m gV sp E ts tk σ H Q := k
theorem g_tup {tr : TA} (k : tr σ H fun xs H1 => xs.length ≤ sizeLine ∧ NewO H1 (.tup xs) Q) : tTup tr σ H Q := k
theorem g_lst {tr : TA} (k : tr σ H fun xs H1 => xs.length ≤ sizeLine ∧ NewO H1 (.lst xs) Q) : tLst tr σ H Q := k
theorem g_dnew (k : NewO H (.dK []) Q) : tDNewK σ H Q := k
theorem g_sl {f : V → Option Int → Option Int → Hp → VK → Prop} {tl th : TO} (k : te σ H fun x H1 => tl σ H1 fun l H2 => th σ H2 fun u H3 => f x l u H3 Q) : tSl f te tl th σ H Q := k
theorem g_nopart {R : Option Int → Hp → Prop} (k : R none H) : tNoPart σ H R := k
theorem g_part {R : Option Int → Hp → Prop} (k : te σ H fun x H1 => ∃ i, x = .int i ∧ R (some i) H1) : tPart te σ H R := k
theorem g_int {R : Int → Prop} (k : R i) : ∃ j, V.int i = .int j ∧ R j := ⟨i, rfl, k⟩
theorem g_m1 {f : V → List V → Hp → VK → Prop} (k : ta σ H fun x H1 => (∃ a, x = .str a) ∧ te σ H1 fun y H2 => f x [y] H2 Q) : tM1 f ta te σ H Q := k
theorem g_m0 {f : V → List V → Hp → VK → Prop} (k : ta σ H fun x H1 => (∃ a, x = .str a) ∧ f x [] H1 Q) : tM0 f ta σ H Q := k
theorem g_isS {R : Prop} (k : R) : (∃ b, V.str a = .str b) ∧ R := ⟨⟨a, rfl⟩, k⟩
-- statements
theorem g_seq (k : t1 { D with nx := t2 D } σ H) : tSeq t1 t2 D σ H := k
theorem g_next (k : D.nx σ H) : tNext D σ H := k
theorem g_ifS (k : c σ H fun b H1 => if b = true then t1 D σ H1 else t2 D σ H1) : tIfS c t1 t2 D σ H := k
theorem g_ret (k : te σ H D.rt) : tRet te D σ H := k
theorem g_asg (k : te σ H fun x H1 => g x σ H1 D.nx) : tAsg te g D σ H := k
theorem g_drop (k : te σ H fun _ H1 => D.nx σ H1) : tDrop te D σ H := k
theorem g_two {R : V → V → Prop} (k : R x y) : ∃ v w, [x, y] = [v, w] ∧ R v w := ⟨x, y, rfl, k⟩
theorem g_ifT {A B : Prop} {i : Decidable (true = true)} (k : A) : @ite Prop (true = true) i A B := by rw [if_pos rfl]; exact k
theorem g_ifF {A B : Prop} {i : Decidable (false = true)} (k : B) : @ite Prop (false = true) i A B := by rw [if_neg (by simp)]; exact k
theorem g_ifnT {A B : Prop} {i : Decidable ((!true) = true)} (k : B) : @ite Prop ((!true) = true) i A B := by rw [if_neg (by simp)]; exact k
theorem g_ifnF {A B : Prop} {i : Decidable ((!false) = true)} (k : A) : @ite Prop ((!false) = true) i A B := by rw [if_pos (by simp)]; exact k
theorem g_kT {A B : Prop} {i : Decidable (b = true)} (h : b = true) (k : A) : @ite Prop (b = true) i A B := by rw [if_pos h]; exact k
theorem g_kF {A B : Prop} {i : Decidable (b = true)} (h : b = false) (k : B) : @ite Prop (b = true) i A B := by rw [if_neg (by rw [h]; simp)]; exact k
theorem g_knT {A B : Prop} {i : Decidable ((!b) = true)} (h : b = true) (k : B) : @ite Prop ((!b) = true) i A B := by rw [if_neg (by rw [h]; simp)]; exact k
theorem g_knF {A B : Prop} {i : Decidable ((!b) = true)} (h : b = false) (k : A) : @ite Prop ((!b) = true) i A B := by rw [if_pos (by rw [h]; simp)]; exact k
theorem g_brk (k : D.bk σ H) : tBreak D σ H := k
theorem g_cont (k : D.ct σ H) : tCont D σ H := k
-- operators by values
theorem g_addI (k : Q (.int (i + j)) H) : rAddM K (.int i) (.int j) H Q := .inl ⟨i, j, rfl, rfl, k⟩
theorem g_addS (hz : a.length + q.length ≤ sizeLine) (k : Q (.str (a ++ q)) H) : rAddM K (.str a) (.str q) H Q := .inr (.inl ⟨a, q, rfl, rfl, hz, k⟩)
theorem g_addL {l m : Addr} {xs ys : List V} (h1 : H l = some (.lst xs)) (h2 : H m = some (.lst ys)) (hz : xs.length + ys.length ≤ sizeLine)
    (k : NewO H (.lst (xs ++ ys)) Q) : rAddM K (.ref l) (.ref m) H Q := .inr (.inr (.inl ⟨l, m, xs, ys, rfl, rfl, h1, h2, hz, k⟩))
theorem g_mulI (hc : CMa i j) (k : Q (.int (i * j)) H) : rMulM (.int i) (.int j) H Q := .inl ⟨i, j, rfl, rfl, hc, k⟩
theorem g_mulS (hc : MulOk a j) (k : Q (.str (Txt.mul a j)) H) : rMulM (.str a) (.int j) H Q := .inr (.inl ⟨a, j, rfl, rfl, hc, k⟩)
theorem g_i0 {f : Int → Int → V} (k : Q (f i j) H) : rI0 f (.int i) (.int j) H Q := ⟨i, j, rfl, rfl, k⟩
theorem g_i {C : Int → Int → Prop} {f : Int → Int → V} (hc : C i j) (k : Q (f i j) H) : rI C f (.int i) (.int j) H Q := ⟨i, j, rfl, rfl, hc, k⟩
theorem g_u {f : Int → V} (k : Q (f i) H) : rU f (.int i) H Q := ⟨i, rfl, k⟩
theorem g_eq (h : scal x y = true) (k : Q (.bl (decide (x = y))) H) : rEqM K x y H Q := .inl ⟨h, k⟩
theorem g_ne (h : scal x y = true) (k : Q (.bl (!decide (x = y))) H) : rNeM K x y H Q := .inl ⟨h, k⟩
theorem g_inS {n : Nat} {neg : Bool} (k : Q (.bl (if neg then !decide (n ∈ a.cps.toList) else decide (n ∈ a.cps.toList))) H) : rInM K neg (.str ⟨#[n]⟩) (.str a) H Q := .inl ⟨n, a, rfl, rfl, k⟩
theorem g_inQ {p : Addr} {xs : List V} {neg : Bool} (h : SqL K H p xs ∨ SqT K H p xs) (f1 : flatV x = true) (f2 : xs.all flatV = true)
    (k : Q (.bl (if neg then !inV x xs else inV x xs)) H) : rInM K neg x (.ref p) H Q := .inr ⟨p, xs, rfl, h, f1, f2, k⟩
theorem g_ixL {p : Addr} {xs : List V} (h : SqL K H p xs) (ha : atI xs i = some v) (k : Q v H) : rIxM K (.ref p) (.int i) H Q := .inl ⟨p, xs, i, v, rfl, rfl, h, ha, k⟩
theorem g_ixT {p : Addr} {xs : List V} (h : SqT K H p xs) (ha : atI xs i = some v) (k : Q v H) : rIxM K (.ref p) (.int i) H Q := .inr (.inl ⟨p, xs, i, v, rfl, rfl, h, ha, k⟩)
theorem g_ixS {n : Nat} (hz : a.length ≤ sizeLine) (ha : atI a.cps.toList i = some n) (k : Q (.str ⟨#[n]⟩) H) : rIxM K (.str a) (.int i) H Q := .inr (.inr ⟨a, i, n, rfl, rfl, hz, ha, k⟩)
theorem g_slL {p : Addr} {xs : List V} {lo hi : Option Int} (h : SqL K H p xs) (k : NewO H (.lst (cutV xs lo hi)) Q) : rSlM K (.ref p) lo hi H Q := .inl ⟨p, xs, rfl, h, k⟩
theorem g_slS {lo hi : Option Int} (hz : a.length ≤ sizeLine) (k : Q (.str (cutS a lo hi)) H) : rSlM K (.str a) lo hi H Q := .inr ⟨a, rfl, hz, k⟩
-- calls of built-ins by values
theorem g_lenS (hz : a.length ≤ sizeLine) (k : Q (.int a.length) H) : rLen K [.str a] H Q := ⟨_, _, rfl, ⟨hz, rfl⟩, k⟩
theorem g_lenL {p : Addr} {xs : List V} (h : SqL K H p xs) (k : Q (.int xs.length) H) : rLen K [.ref p] H Q := ⟨_, _, rfl, .inl ⟨xs, h, rfl⟩, k⟩
theorem g_lenT {p : Addr} {xs : List V} (h : SqT K H p xs) (k : Q (.int xs.length) H) : rLen K [.ref p] H Q := ⟨_, _, rfl, .inr ⟨xs, h, rfl⟩, k⟩
theorem g_abs (k : Q (.int (if i < 0 then -i else i)) H) : rAbs [.int i] H Q := ⟨i, rfl, k⟩
theorem g_intI (k : Q (.int i) H) : rIntM [.int i] H Q := .inl ⟨i, rfl, k⟩
theorem g_intB (k : Q (.int (if b then 1 else 0)) H) : rIntM [.bl b] H Q := .inr (.inl ⟨b, rfl, k⟩)
theorem g_intS {n : Int} (h : PySem.intText? a = some n) (hz : a.length ≤ 640) (k : Q (.int n) H) : rIntM [.str a] H Q := .inr (.inr ⟨a, n, rfl, h, hz, k⟩)
theorem g_isiStr {d : PyData} (h : Da K H x d) (k : Q (.bl (isStr d)) H) : rIsi K [x, .ty "str"] H Q :=
  ⟨x, .ty "str", _, _, isStr d, rfl, .ty _, h.ty, kit_ty (kit_isStr d), k⟩
theorem g_isiInt {d : PyData} (h : Da K H x d) (k : Q (.bl (isInt d)) H) : rIsi K [x, .ty "int"] H Q :=
  ⟨x, .ty "int", _, _, isInt d, rfl, .ty _, h.ty, kit_ty (kit_isInt d), k⟩
theorem g_isiBool {d : PyData} (h : Da K H x d) (k : Q (.bl (isBool d)) H) : rIsi K [x, .ty "bool"] H Q :=
  ⟨x, .ty "bool", _, _, isBool d, rfl, .ty _, h.ty, kit_ty (kit_isBool d), k⟩
theorem g_isiTup {d : PyData} (h : Da K H x d) (k : Q (.bl (isTup d)) H) : rIsi K [x, .ty "tuple"] H Q :=
  ⟨x, .ty "tuple", _, _, isTup d, rfl, .ty _, h.ty, kit_ty (kit_isTup d), k⟩
theorem g_repr {d : PyData} (h : Da K H x d) (h1 : d.showable = true) (h2 : d.depth ≤ 60) (h3 : d.shown.length ≤ sizeLine) (k : Q (.str d.shown) H) : rRepr K [x] H Q :=
  ⟨x, d, rfl, h, h1, h2, h3, k⟩
theorem g_strip (hz : a.length ≤ sizeLine) (k : Q (.str (Txt.stripChars a q)) H) : rStrip (.str a) [.str q] H Q := ⟨a, q, rfl, rfl, hz, k⟩
theorem g_upper (hz : a.length ≤ 5592405) (k : Q (.str (Txt.upper a)) H) : rUpper (.str a) [] H Q := ⟨a, rfl, rfl, hz, k⟩
end
/-! ### steps found by their form -/
class Step (G : Prop) (N : outParam Prop) : Prop where
  imp : N → G
class GetSlot (σ : L2.St) (n : Nat) (v : outParam V) : Prop where
  get : σ[n]? = some (some v)
instance i_get0 {σ : L2.St} {v : V} : GetSlot (some v :: σ) 0 v := ⟨rfl⟩
instance i_getS {σ : L2.St} {n : Nat} {v : V} {x : Option V} [h : GetSlot σ n v] : GetSlot (x :: σ) (n + 1) v := ⟨by rw [List.getElem?_cons_succ]; exact h.get⟩
class SetSlot (σ : L2.St) (n : Nat) (v : V) (τ : outParam L2.St) : Prop where
  set : σ.set n (some v) = τ
instance i_set0 {σ : L2.St} {v : V} {x : Option V} : SetSlot (x :: σ) 0 v (some v :: σ) := ⟨rfl⟩
instance i_setS {σ τ : L2.St} {n : Nat} {v : V} {x : Option V} [h : SetSlot σ n v τ] : SetSlot (x :: σ) (n + 1) v (x :: τ) := ⟨by rw [List.set_cons_succ, h.set]⟩
section
variable {σ : L2.St} {H : Hp} {Q : VK} {v x y : V} {ta tb tc te : TE} {t u c : TT} {K : PySem.W.Frag} {D : Ends} {t1 t2 : TS}
  {r r' : R2} {i j : Int} {b : Bool} {g : TG} {a q : Str}
instance i_var {n : Nat} [h : GetSlot σ n v] : Step (tVar n σ H Q) (Q v H) := ⟨fun k => ⟨v, h.get, k⟩⟩
instance i_name {n : Nat} {τ : L2.St} {R : L2.St → Hp → Prop} [h : SetSlot σ n v τ] : Step (gName n v σ H R) (R τ H) := ⟨fun k => by
  have e := h.set
  show R (σ.set n (some v)) H
  rw [e]; exact k⟩
instance i_par {n m : Nat} {ts : TA} : Step (tPar n m ts D σ H) (ts σ H fun vs H1 => ∃ v w, vs = [v, w] ∧ gName n v σ H1 fun τ H2 => gName m w τ H2 D.nx) := ⟨fun k => k⟩
instance i_eqI : Step (rEqM K (.int i) (.int j) H Q) (Q (.bl (decide (i = j))) H) := ⟨fun k => g_eq rfl (by simpa using k)⟩
instance i_eqS : Step (rEqM K (.str a) (.str q) H Q) (Q (.bl (decide (a = q))) H) := ⟨fun k => g_eq rfl (by simpa using k)⟩
instance i_eqB {b c : Bool} : Step (rEqM K (.bl b) (.bl c) H Q) (Q (.bl (decide (b = c))) H) := ⟨fun k => g_eq rfl (by simpa using k)⟩
instance i_neI : Step (rNeM K (.int i) (.int j) H Q) (Q (.bl (!decide (i = j))) H) := ⟨fun k => g_ne rfl (by simpa using k)⟩
instance i_neS : Step (rNeM K (.str a) (.str q) H Q) (Q (.bl (!decide (a = q))) H) := ⟨fun k => g_ne rfl (by simpa using k)⟩
instance i_neB {b c : Bool} : Step (rNeM K (.bl b) (.bl c) H Q) (Q (.bl (!decide (b = c))) H) := ⟨fun k => g_ne rfl (by simpa using k)⟩
instance i_c  : Step (tC v σ H Q) (Q v H) := ⟨fun k => g_c k⟩
instance i_op  : Step (tOp r ta tb σ H Q) (ta σ H fun x H1 => tb σ H1 fun y H2 => r x y H2 Q) := ⟨fun k => g_op k⟩
instance i_un {r : V → Hp → VK → Prop} : Step (tUn r ta σ H Q) (ta σ H fun x H1 => r x H1 Q) := ⟨fun k => g_un k⟩
instance i_test {R : Bool → Hp → Prop} : Step (tTest te σ H R) (te σ H fun x H' => ∃ k, x = .bl k ∧ R k H') := ⟨fun k => g_test k⟩
instance i_tB {R : Bool → Hp → Prop} : Step (tB te σ H R) (te σ H fun x H' => ∃ k, x = .bl k ∧ R k H') := ⟨fun k => g_tB k⟩
instance i_bl {R : Bool → Prop} : Step (∃ k, V.bl b = .bl k ∧ R k) (R b) := ⟨fun k => g_bl k⟩
instance i_and {R : Bool → Hp → Prop} : Step (tAnd t u σ H R) (t σ H fun c H1 => if c = true then u σ H1 R else R false H1) := ⟨fun k => g_and k⟩
instance i_or {R : Bool → Hp → Prop} : Step (tOr t u σ H R) (t σ H fun c H1 => if c = true then R true H1 else u σ H1 R) := ⟨fun k => g_or k⟩
instance i_not {R : Bool → Hp → Prop} : Step (tNot t σ H R) (t σ H fun c H1 => R (!c) H1) := ⟨fun k => g_not k⟩
instance i_andV  : Step (tAndV ta tb σ H Q) (ta σ H fun x H1 => ∃ c, x = .bl c ∧ if c = true then tb σ H1 Q else Q (.bl false) H1) := ⟨fun k => g_andV k⟩
instance i_orV  : Step (tOrV ta tb σ H Q) (ta σ H fun x H1 => ∃ c, x = .bl c ∧ if c = true then Q (.bl true) H1 else tb σ H1 Q) := ⟨fun k => g_orV k⟩
instance i_notV  : Step (tNotV ta σ H Q) (ta σ H fun x H1 => ∃ c, x = .bl c ∧ Q (.bl (!c)) H1) := ⟨fun k => g_notV k⟩
instance i_if  : Step (tIf t ta tb σ H Q) (t σ H fun c H1 => if c = true then ta σ H1 Q else tb σ H1 Q) := ⟨fun k => g_if k⟩
instance i_chain  : Step (tChain r r' ta tb tc σ H Q) (ta σ H fun x H1 => tb σ H1 fun y H2 => r x y H2 fun z H3 => ∃ k, z = .bl k ∧
  (if k = true then tc σ H3 fun w' H4 => r' y w' H4 Q else Q (.bl false) H3)) := ⟨fun k => g_chain k⟩
instance i_nil {R : List V → Hp → Prop} : Step (tNil σ H R) (R [] H) := ⟨fun k => g_nil k⟩
instance i_cons {tr : TA} {R : List V → Hp → Prop} : Step (tCons ta tr σ H R) (ta σ H fun x H1 => tr σ H1 fun xs H2 => R (x :: xs) H2) := ⟨fun k => g_cons k⟩
instance i_cb {f : List V → Hp → VK → Prop} {tr : TA} : Step (tCB f tr σ H Q) (tr σ H fun vs H1 => f vs H1 Q) := ⟨fun k => g_cb k⟩
instance i_kn {n m : Nat} {gV : List V → List V → List V} {sp : Sp} {E : XK} {ts tk : TA} : Step (tKn n m gV sp E ts tk σ H Q) (ts σ H fun vs H1 => tk σ H1 fun zs H2 => vs.length = n ∧ zs.length = m ∧ sp (gV vs zs) H2 Q E) := ⟨fun k => g_kn k⟩
instance i_tup {tr : TA} : Step (tTup tr σ H Q) (tr σ H fun xs H1 => xs.length ≤ sizeLine ∧ NewO H1 (.tup xs) Q) := ⟨fun k => g_tup k⟩
instance i_lst {tr : TA} : Step (tLst tr σ H Q) (tr σ H fun xs H1 => xs.length ≤ sizeLine ∧ NewO H1 (.lst xs) Q) := ⟨fun k => g_lst k⟩
instance i_dnew  : Step (tDNewK σ H Q) (NewO H (.dK []) Q) := ⟨fun k => g_dnew k⟩
instance i_sl {f : V → Option Int → Option Int → Hp → VK → Prop} {tl th : TO} : Step (tSl f te tl th σ H Q) (te σ H fun x H1 => tl σ H1 fun l H2 => th σ H2 fun u H3 => f x l u H3 Q) := ⟨fun k => g_sl k⟩
instance i_nopart {R : Option Int → Hp → Prop} : Step (tNoPart σ H R) (R none H) := ⟨fun k => g_nopart k⟩
instance i_part {R : Option Int → Hp → Prop} : Step (tPart te σ H R) (te σ H fun x H1 => ∃ i, x = .int i ∧ R (some i) H1) := ⟨fun k => g_part k⟩
instance i_int {R : Int → Prop} : Step (∃ j, V.int i = .int j ∧ R j) (R i) := ⟨fun k => g_int k⟩
instance i_m1 {f : V → List V → Hp → VK → Prop} : Step (tM1 f ta te σ H Q) (ta σ H fun x H1 => (∃ a, x = .str a) ∧ te σ H1 fun y H2 => f x [y] H2 Q) := ⟨fun k => g_m1 k⟩
instance i_m0 {f : V → List V → Hp → VK → Prop} : Step (tM0 f ta σ H Q) (ta σ H fun x H1 => (∃ a, x = .str a) ∧ f x [] H1 Q) := ⟨fun k => g_m0 k⟩
instance i_isS {R : Prop} : Step ((∃ b, V.str a = .str b) ∧ R) (R) := ⟨fun k => g_isS k⟩
instance i_seq  : Step (tSeq t1 t2 D σ H) (t1 { D with nx := t2 D } σ H) := ⟨fun k => g_seq k⟩
instance i_next  : Step (tNext D σ H) (D.nx σ H) := ⟨fun k => g_next k⟩
instance i_ifS  : Step (tIfS c t1 t2 D σ H) (c σ H fun b H1 => if b = true then t1 D σ H1 else t2 D σ H1) := ⟨fun k => g_ifS k⟩
instance i_ret  : Step (tRet te D σ H) (te σ H D.rt) := ⟨fun k => g_ret k⟩
instance i_asg  : Step (tAsg te g D σ H) (te σ H fun x H1 => g x σ H1 D.nx) := ⟨fun k => g_asg k⟩
instance i_drop  : Step (tDrop te D σ H) (te σ H fun _ H1 => D.nx σ H1) := ⟨fun k => g_drop k⟩
instance i_two {R : V → V → Prop} : Step (∃ v w, [x, y] = [v, w] ∧ R v w) (R x y) := ⟨fun k => g_two k⟩
instance i_ifT {A B : Prop} {i : Decidable (true = true)} : Step (@ite Prop (true = true) i A B) (A) := ⟨fun k => g_ifT k⟩
instance i_ifF {A B : Prop} {i : Decidable (false = true)} : Step (@ite Prop (false = true) i A B) (B) := ⟨fun k => g_ifF k⟩
instance i_ifnT {A B : Prop} {i : Decidable ((!true) = true)} : Step (@ite Prop ((!true) = true) i A B) (B) := ⟨fun k => g_ifnT k⟩
instance i_ifnF {A B : Prop} {i : Decidable ((!false) = true)} : Step (@ite Prop ((!false) = true) i A B) (A) := ⟨fun k => g_ifnF k⟩
instance i_brk  : Step (tBreak D σ H) (D.bk σ H) := ⟨fun k => g_brk k⟩
instance i_cont  : Step (tCont D σ H) (D.ct σ H) := ⟨fun k => g_cont k⟩
instance i_addI  : Step (rAddM K (.int i) (.int j) H Q) (Q (.int (i + j)) H) := ⟨fun k => g_addI k⟩
instance i_i0 {f : Int → Int → V} : Step (rI0 f (.int i) (.int j) H Q) (Q (f i j) H) := ⟨fun k => g_i0 k⟩
instance i_u {f : Int → V} : Step (rU f (.int i) H Q) (Q (f i) H) := ⟨fun k => g_u k⟩
instance i_inS {n : Nat} {neg : Bool} : Step (rInM K neg (.str ⟨#[n]⟩) (.str a) H Q) (Q (.bl (if neg then !decide (n ∈ a.cps.toList) else decide (n ∈ a.cps.toList))) H) := ⟨fun k => g_inS k⟩
instance i_abs  : Step (rAbs [.int i] H Q) (Q (.int (if i < 0 then -i else i)) H) := ⟨fun k => g_abs k⟩
instance i_intI  : Step (rIntM [.int i] H Q) (Q (.int i) H) := ⟨fun k => g_intI k⟩
instance i_intB  : Step (rIntM [.bl b] H Q) (Q (.int (if b then 1 else 0)) H) := ⟨fun k => g_intB k⟩
/-- a step that asks for a size -/
class StepZ (G : Prop) (C N : outParam Prop) : Prop where
  imp : C → N → G
instance z_addS : StepZ (rAddM K (.str a) (.str q) H Q) (a.length + q.length ≤ sizeLine) (Q (.str (a ++ q)) H) := ⟨g_addS⟩
instance z_lenS : StepZ (rLen K [.str a] H Q) (a.length ≤ sizeLine) (Q (.int a.length) H) := ⟨g_lenS⟩
instance z_strip : StepZ (rStrip (.str a) [.str q] H Q) (a.length ≤ sizeLine) (Q (.str (Txt.stripChars a q)) H) := ⟨g_strip⟩
instance z_slS {lo hi : Option Int} : StepZ (rSlM K (.str a) lo hi H Q) (a.length ≤ sizeLine) (Q (.str (cutS a lo hi)) H) := ⟨g_slS⟩
instance z_mulI : StepZ (rMulM (.int i) (.int j) H Q) (CMa i j) (Q (.int (i * j)) H) := ⟨g_mulI⟩
instance z_mulS : StepZ (rMulM (.str a) (.int j) H Q) (MulOk a j) (Q (.str (Txt.mul a j)) H) := ⟨g_mulS⟩
instance z_upper : StepZ (rUpper (.str a) [] H Q) (a.length ≤ 5592405) (Q (.str (Txt.upper a)) H) := ⟨g_upper⟩
instance z_i {C : Int → Int → Prop} {f : Int → Int → V} : StepZ (rI C f (.int i) (.int j) H Q) (C i j) (Q (f i j) H) := ⟨g_i⟩
instance z_and {n : Nat} {R : Prop} : StepZ (n ≤ sizeLine ∧ R) (n ≤ sizeLine) R := ⟨fun a b => ⟨a, b⟩⟩
instance z_andL {n : Nat} {R : Prop} : StepZ (n < sizeLine ∧ R) (n < sizeLine) R := ⟨fun a b => ⟨a, b⟩⟩
/-- a step that asks what stands at an address -/
class StepQ (G : Prop) (C N : outParam (List V → Prop)) : Prop where
  imp : ∀ xs, C xs → N xs → G
instance q_lenL {p : Addr} : StepQ (rLen K [.ref p] H Q) (fun xs => SqL K H p xs ∨ SqT K H p xs) (fun xs => Q (.int xs.length) H) :=
  ⟨fun xs h k => h.elim (fun h => g_lenL h k) (fun h => g_lenT h k)⟩
instance q_ix {p : Addr} : StepQ (rIxM K (.ref p) (.int i) H Q) (fun xs => SqL K H p xs ∨ SqT K H p xs) (fun xs => ∃ v, atI xs i = some v ∧ Q v H) :=
  ⟨fun xs h ⟨v, e, k⟩ => h.elim (fun h => g_ixL h e k) (fun h => g_ixT h e k)⟩
instance q_slL {p : Addr} {lo hi : Option Int} : StepQ (rSlM K (.ref p) lo hi H Q) (fun xs => SqL K H p xs) (fun xs => NewO H (.lst (cutV xs lo hi)) Q) :=
  ⟨fun xs h k => g_slL h k⟩
instance q_in {p : Addr} {neg : Bool} : StepQ (rInM K neg x (.ref p) H Q) (fun xs => SqL K H p xs ∨ SqT K H p xs)
  (fun xs => flatV x = true ∧ xs.all flatV = true ∧ Q (.bl (if neg then !inV x xs else inV x xs)) H) := ⟨fun xs h ⟨k1, k2, k3⟩ => g_inQ h k1 k2 k3⟩
instance q_addL {l m : Addr} : StepQ (rAddM K (.ref l) (.ref m) H Q) (fun xs => H l = some (.lst xs))
  (fun xs => ∃ ys, H m = some (.lst ys) ∧ xs.length + ys.length ≤ sizeLine ∧ NewO H (.lst (xs ++ ys)) Q) :=
  ⟨fun xs h ⟨ys, k1, k2, k3⟩ => g_addL h k1 k2 k3⟩
instance q_exL {p : Addr} {R : List V → Prop} : StepQ (∃ ys, H p = some (.lst ys) ∧ R ys) (fun ys => H p = some (.lst ys)) R := ⟨fun ys h k => ⟨ys, h, k⟩⟩
instance q_itL {p : Addr} {R : Addr → Prop} : StepQ (∃ b, V.ref p = .ref b ∧ (∃ xs, SqL K H b xs) ∧ R b) (fun xs => SqL K H p xs) (fun _ => R p) := ⟨fun xs h k => ⟨p, rfl, ⟨xs, h⟩, k⟩⟩
instance q_itT {p : Addr} {R : Addr → Prop} : StepQ (∃ b, V.ref p = .ref b ∧ (∃ xs, SqT K H b xs) ∧ R b) (fun xs => SqT K H p xs) (fun _ => R p) := ⟨fun xs h k => ⟨p, rfl, ⟨xs, h⟩, k⟩⟩
instance q_tyL {p : Addr} {R : Prop} : StepQ (tyV K "list" (.ref p) H ∧ R) (fun xs => SqL K H p xs) (fun _ => R) := ⟨fun xs h k => ⟨.inl ⟨rfl, xs, h⟩, k⟩⟩
instance q_append {l : Addr} : StepQ (rAppend (.ref l) [v] H Q) (fun xs => H l = some (.lst xs)) (fun xs => xs.length < sizeLine ∧ Q .non (upd H l (.lst (xs ++ [v])))) :=
  ⟨fun xs h k => ⟨l, xs, v, rfl, rfl, h, k⟩⟩
instance q_extend {l m : Addr} : StepQ (rExtend (.ref l) [.ref m] H Q) (fun xs => H l = some (.lst xs))
  (fun xs => ∃ zs, H m = some (.lst zs) ∧ xs.length + zs.length ≤ sizeLine ∧ Q .non (upd H l (.lst (xs ++ zs)))) := ⟨fun xs h ⟨zs, k1, k2, k3⟩ => ⟨l, m, xs, zs, rfl, rfl, h, k1, k2, k3⟩⟩
instance q_setL {p : Addr} {R : Hp → Prop} : StepQ (rSetL (.ref p) (.int i) v H R) (fun xs => H p = some (.lst xs)) (fun xs => ∃ j, ixN xs.length i = some j ∧ R (upd H p (.lst (xs.set j v)))) :=
  ⟨fun xs h ⟨j, e, k⟩ => ⟨p, xs, i, j, rfl, rfl, h, e, k⟩⟩
instance i_gSub {t : TSet} {R : L2.St → Hp → Prop} : Step (gSub ta tb t v σ H R) (ta σ H fun o H1 => tb σ H1 fun i H2 => t o i v H2 fun H3 => R σ H3) := ⟨fun k => k⟩
instance i_bm {T : String} {f : V → List V → Hp → VK → Prop} {ts : TA} : Step (tBM K T f ta ts σ H Q) (ta σ H fun x H1 => tyV K T x H1 ∧ ts σ H1 fun xs H2 => f x xs H2 Q) := ⟨fun k => k⟩
instance i_bm0 {T : String} {f : V → List V → Hp → VK → Prop} : Step (tBM0 K T f ta σ H Q) (ta σ H fun x H1 => tyV K T x H1 ∧ f x [] H1 Q) := ⟨fun k => k⟩
/-- a step that asks for a datum -/
class StepD (G : Prop) (C N : outParam (PyData → Prop)) : Prop where
  imp : ∀ d, C d → N d → G
instance d_isStr : StepD (rIsi K [x, .ty "str"] H Q) (fun d => Da K H x d) (fun d => Q (.bl (isStr d)) H) := ⟨fun d h k => g_isiStr h k⟩
instance d_isInt : StepD (rIsi K [x, .ty "int"] H Q) (fun d => Da K H x d) (fun d => Q (.bl (isInt d)) H) := ⟨fun d h k => g_isiInt h k⟩
instance d_isBool : StepD (rIsi K [x, .ty "bool"] H Q) (fun d => Da K H x d) (fun d => Q (.bl (isBool d)) H) := ⟨fun d h k => g_isiBool h k⟩
instance d_isTup : StepD (rIsi K [x, .ty "tuple"] H Q) (fun d => Da K H x d) (fun d => Q (.bl (isTup d)) H) := ⟨fun d h k => g_isiTup h k⟩
instance d_repr : StepD (rRepr K [x] H Q) (fun d => Da K H x d) (fun d => d.showable = true ∧ d.depth ≤ 60 ∧ d.shown.length ≤ sizeLine ∧ Q (.str d.shown) H) :=
  ⟨fun d h ⟨k1, k2, k3, k4⟩ => g_repr h k1 k2 k3 k4⟩
end
end L2.Pc
namespace L2.Pc
open PySem PySem.Spec PyProof.Rows
theorem bt_len : bootBuiltins "len" = some (.builtin "len") := by decide +kernel
theorem bt_abs : bootBuiltins "abs" = some (.builtin "abs") := by decide +kernel
theorem bt_repr : bootBuiltins "repr" = some (.builtin "repr") := by decide +kernel
theorem bt_isinstance : bootBuiltins "isinstance" = some (.builtin "isinstance") := by decide +kernel
theorem bt_int : bootBuiltins "int" = some (.type "int") := by decide +kernel
theorem hu64 {k : Nat} {A : Around} (r : Room k A) : A.units + 64 < cLine := by have := r.un; omega
theorem szl : sizeLine = 16777216 := by decide
/-! ### promises by the number of arguments -/
def Sp1 (R : V → Hp → VK → Prop) : Sp := fun vs H Q _ => ∃ x, vs = [x] ∧ R x H Q
def Sp2 (R : V → V → Hp → VK → Prop) : Sp := fun vs H Q _ => ∃ x y, vs = [x, y] ∧ R x y H Q
def Sp3 (R : V → V → V → Hp → VK → Prop) : Sp := fun vs H Q _ => ∃ x y z, vs = [x, y, z] ∧ R x y z H Q
def Sp4 (R : V → V → V → V → Hp → VK → Prop) : Sp := fun vs H Q _ => ∃ x y z u, vs = [x, y, z, u] ∧ R x y z u H Q
section
variable {vs : List V} {H : Hp} {Q : VK} {E : XK} {x y z u : V}
theorem Sp1.len {R : V → Hp → VK → Prop} (h : Sp1 R vs H Q E) : vs.length = 1 := by obtain ⟨x, rfl, _⟩ := h; rfl
theorem Sp2.len {R : V → V → Hp → VK → Prop} (h : Sp2 R vs H Q E) : vs.length = 2 := by obtain ⟨x, y, rfl, _⟩ := h; rfl
theorem Sp3.len {R : V → V → V → Hp → VK → Prop} (h : Sp3 R vs H Q E) : vs.length = 3 := by obtain ⟨x, y, z, rfl, _⟩ := h; rfl
theorem Sp4.len {R : V → V → V → V → Hp → VK → Prop} (h : Sp4 R vs H Q E) : vs.length = 4 := by obtain ⟨x, y, z, u, rfl, _⟩ := h; rfl
theorem g_call1 {R : V → Hp → VK → Prop} (k : R x H Q) : [x].length = 1 ∧ ([] : List V).length = 0 ∧ Sp1 R [x] H Q E := ⟨rfl, rfl, x, rfl, k⟩
theorem g_call2 {R : V → V → Hp → VK → Prop} (k : R x y H Q) : [x, y].length = 2 ∧ ([] : List V).length = 0 ∧ Sp2 R [x, y] H Q E := ⟨rfl, rfl, x, y, rfl, k⟩
theorem g_call3 {R : V → V → V → Hp → VK → Prop} (k : R x y z H Q) : [x, y, z].length = 3 ∧ ([] : List V).length = 0 ∧ Sp3 R [x, y, z] H Q E := ⟨rfl, rfl, x, y, z, rfl, k⟩
theorem g_call4 {R : V → V → V → V → Hp → VK → Prop} (k : R x y z u H Q) : [x, y, z, u].length = 4 ∧ ([] : List V).length = 0 ∧ Sp4 R [x, y, z, u] H Q E := ⟨rfl, rfl, x, y, z, u, rfl, k⟩
end
/-- a written tuple of the module -/
def Kt (K : PySem.W.Frag) (a : Addr) (xs : List V) : Prop :=
  ∃ (o : Obj) (its : Array Value) (n : Nat), K.lookup a = some o ∧ o.cls = .type "tuple" ∧ o.data = .seq its n ∧ its.size ≤ sizeLine ∧ Vals xs its.toList
theorem Kt.sq {K : PySem.W.Frag} {a : Addr} {xs : List V} (h : Kt K a xs) (H : Hp) : SqT K H a xs := .inr h
/-! ### loops and comprehensions -/
def ForW (J : It) (g : TG) (tb : TS) (D : Ends) : L2.St → Hp → Prop := fun σ H =>
  ∃ W : Nat → Nat → L2.St → Hp → Prop, (∃ m, W 0 m σ H) ∧ ∀ i m σ H, W i m σ H → (J.stop i H ∧ D.nx σ H) ∨
    (J.go i H ∧ ∃ N : L2.St → Hp → Prop, (∀ σ' H', N σ' H' → ∃ m', m' < m ∧ W (i + 1) m' σ' H') ∧
      ∀ x H', J.yld i H x H' → g x σ H' fun σ2 H2 => tb { D with nx := N, ct := N, bk := D.nx } σ2 H2)
def LcW (J : It) (g : TG) (tt : TT) (te : TE) (vs : List Nat) (σ : L2.St) (Q : VK) : Hp → Prop := fun H1 =>
  ∀ D, H1 D = none → ∃ W : Nat → Nat → Hp → Prop, (∃ m, W 0 m (upd H1 D (.lst []))) ∧ ∀ i m H, W i m H →
    (J.stop i H ∧ Q (.ref D) H) ∨ (J.go i H ∧ ∃ Nx : Hp → Prop, (∀ H', Nx H' → ∃ m', m' < m ∧ W (i + 1) m' H') ∧
      ∀ x H', J.yld i H x H' → g x (wipe σ vs) H' fun σ2 H2 => wipe σ2 vs = wipe σ vs ∧ tt σ2 H2 fun b H3 =>
        if b = true then te σ2 H3 fun y H4 => ∃ acc, H4 D = some (.lst acc) ∧ acc.length < sizeLine ∧ Nx (upd H4 D (.lst (acc ++ [y]))) else Nx H3)
section
variable {K : PySem.W.Frag} {σ : L2.St} {H : Hp} {Q : VK} {D : Ends} {tb : TS} {g : TG} {tt : TT} {te tl : TE} {vs : List Nat} {ta : TA}
  {J : It} {n : Nat} {it : Nat → V} {G : Hp → Prop} {wi : TI} {R : It → Hp → Prop}
theorem g_for (k : wi σ H fun J H1 => ForW J g tb D σ H1) : tFor wi g tb D σ H := k
theorem g_lc (k : wi σ H fun J H1 => LcW J g tt te vs σ Q H1) : tLc wi g tt te vs σ H Q := k
theorem g_rng1 (k : ta σ H fun vs H1 => ∃ j : Int, vs = [.int j] ∧ -(2 ^ 62) ≤ j ∧ j < 2 ^ 62 ∧ R (Itr 0 j.toNat) H1) : iRng1 ta σ H R := k
theorem g_rng2 (k : ta σ H fun vs H1 => ∃ i j : Int, vs = [.int i, .int j] ∧ (-(2 ^ 62) ≤ i ∧ i < 2 ^ 62 ∧ -(2 ^ 62) ≤ j ∧ j < 2 ^ 62) ∧ R (Itr i (j - i).toNat) H1) : iRng2 ta σ H R := k
theorem g_iList (k : tl σ H fun x H1 => ∃ a, x = .ref a ∧ (∃ xs, SqL K H1 a xs) ∧ R (Itl K a) H1) : iList K tl σ H R := k
theorem g_iTup (k : tl σ H fun x H1 => ∃ a, x = .ref a ∧ (∃ xs, SqT K H1 a xs) ∧ R (Itt K a) H1) : iTup K tl σ H R := k
theorem g_iStr (k : tl σ H fun x H1 => ∃ z, x = .str z ∧ R (Its z) H1) : iStr tl σ H R := k
theorem g_itS {z : Str} (k : R (Its z) H) : ∃ y, V.str z = .str y ∧ R (Its y) H := ⟨z, rfl, k⟩
end
/-! ### steps found by their form -/
section
variable {vs : List V} {H : Hp} {Q : VK} {E : XK} {x y z u : V}
instance i_call1 {R : V → Hp → VK → Prop} : Step ([x].length = 1 ∧ ([] : List V).length = 0 ∧ Sp1 R [x] H Q E) (R x H Q) := ⟨fun k => g_call1 k⟩
instance i_call2 {R : V → V → Hp → VK → Prop} : Step ([x, y].length = 2 ∧ ([] : List V).length = 0 ∧ Sp2 R [x, y] H Q E) (R x y H Q) := ⟨fun k => g_call2 k⟩
instance i_call3 {R : V → V → V → Hp → VK → Prop} : Step ([x, y, z].length = 3 ∧ ([] : List V).length = 0 ∧ Sp3 R [x, y, z] H Q E) (R x y z H Q) := ⟨fun k => g_call3 k⟩
instance i_call4 {R : V → V → V → V → Hp → VK → Prop} : Step ([x, y, z, u].length = 4 ∧ ([] : List V).length = 0 ∧ Sp4 R [x, y, z, u] H Q E) (R x y z u H Q) := ⟨fun k => g_call4 k⟩
end
section
variable {K : PySem.W.Frag} {σ : L2.St} {H : Hp} {Q : VK} {D : Ends} {tb : TS} {g : TG} {tt : TT} {te tl : TE} {vs : List Nat} {ta : TA}
  {J : It} {n : Nat} {it : Nat → V} {G : Hp → Prop} {wi : TI} {R : It → Hp → Prop}
instance i_for  : Step (tFor wi g tb D σ H) (wi σ H fun J H1 => ForW J g tb D σ H1) := ⟨fun k => g_for k⟩
instance i_lc  : Step (tLc wi g tt te vs σ H Q) (wi σ H fun J H1 => LcW J g tt te vs σ Q H1) := ⟨fun k => g_lc k⟩
instance i_rng1  : Step (iRng1 ta σ H R) (ta σ H fun vs H1 => ∃ j : Int, vs = [.int j] ∧ -(2 ^ 62) ≤ j ∧ j < 2 ^ 62 ∧ R (Itr 0 j.toNat) H1) := ⟨fun k => g_rng1 k⟩
instance i_rng2  : Step (iRng2 ta σ H R) (ta σ H fun vs H1 => ∃ i j : Int, vs = [.int i, .int j] ∧ (-(2 ^ 62) ≤ i ∧ i < 2 ^ 62 ∧ -(2 ^ 62) ≤ j ∧ j < 2 ^ 62) ∧ R (Itr i (j - i).toNat) H1) := ⟨fun k => g_rng2 k⟩
instance i_iList  : Step (iList K tl σ H R) (tl σ H fun x H1 => ∃ a, x = .ref a ∧ (∃ xs, SqL K H1 a xs) ∧ R (Itl K a) H1) := ⟨fun k => g_iList k⟩
instance i_iTup  : Step (iTup K tl σ H R) (tl σ H fun x H1 => ∃ a, x = .ref a ∧ (∃ xs, SqT K H1 a xs) ∧ R (Itt K a) H1) := ⟨fun k => g_iTup k⟩
instance i_iStr  : Step (iStr tl σ H R) (tl σ H fun x H1 => ∃ z, x = .str z ∧ R (Its z) H1) := ⟨fun k => g_iStr k⟩
instance i_itS {z : Str} : Step (∃ y, V.str z = .str y ∧ R (Its y) H) (R (Its z) H) := ⟨fun k => g_itS k⟩
end
end L2.Pc
namespace L2.Pc
open PySem PySem.Spec PyProof.Rows
/-! ### lists cut and read -/
end L2.Pc
namespace L2.Pc
open PySem PySem.Spec PyProof.Rows
/-! ### the same rules, of a module's K that is named -/
section
variable {X : Cx} {K : PySem.W.Frag} (h : X.K = K)
include h
theorem k_eq (hu : X.A.units + 64 < cLine) : OpR X (compareOp .Eq) (rEqM K) := h ▸ op_eqM hu
theorem k_ne (hu : X.A.units + 64 < cLine) : OpR X (compareOp .NotEq) (rNeM K) := h ▸ op_neM hu
theorem k_ix : IxR X (rIxM K) := h ▸ ixM
theorem k_len : CallR X (.builtin "len") (rLen K) := h ▸ call_lenM
theorem k_repr (hga : X.A.guards = some []) (hu : X.A.units + 64 < cLine) (M : Sm X.base) : CallR X (.builtin "repr") (rRepr K) := h ▸ call_reprD hga hu M
end
instance i_exS {a : Str} {R : Str → Prop} : Step (∃ z, V.str a = .str z ∧ R z) (R a) := ⟨fun k => ⟨a, rfl, k⟩⟩
instance i_yes {σ : L2.St} {H : Hp} {R : Bool → Hp → Prop} : Step (tYes σ H R) (R true H) := ⟨fun k => k⟩
section
variable {X : Cx}
theorem pe_lcM {elt tg iter : Expr} {ifs : List Expr} {scope : Scope} {own : List (Str × Nat)} {vs : List Nat} {pos : Pos} {wi : TI} {g : TG} {tt : TT} {te : TE} (hv : own.map (·.2) = vs) (hc : X.calm = true) (hN : X.N.Nodup) (hi : PI X tg iter wi) (ok : BlkOk X.N X.env.scope scope own)
    (hg : ∀ (s : Shared) (H : Hp) (C : Addr) (cl : List (Str × Addr)) (fp : List Addr), PG (X.blk s H scope (compEnvC scope cl C X.env) fp) tg g) (ht : ∀ (s : Shared) (H : Hp) (C : Addr) (cl : List (Str × Addr)) (fp : List Addr), PTs (X.blk s H scope (compEnvC scope cl C X.env) fp) ifs tt)
    (he : ∀ (s : Shared) (H : Hp) (C : Addr) (cl : List (Str × Addr)) (fp : List Addr), PE (X.blk s H scope (compEnvC scope cl C X.env) fp) elt te) (hs : ∀ x, foldedSetIterable iter X.env x = pure x := by intro _; rfl) :
    PE X (.ListComp elt [⟨tg, iter, ifs, 0⟩] scope pos) (tLc wi g tt te vs) := hv ▸ pe_lc hc hN hi ok hg ht he hs
end
instance z_ixS {K : PySem.W.Frag} {a : Str} {i : Int} {H : Hp} {Q : VK} : StepZ (rIxM K (.str a) (.int i) H Q) (a.length ≤ sizeLine) (∃ n, atI a.cps.toList i = some n ∧ Q (.str ⟨#[n]⟩) H) :=
  ⟨fun hz ⟨n, e, k⟩ => g_ixS hz e k⟩
theorem one_len (n : Nat) : (⟨#[n]⟩ : Str).length = 1 := rfl
theorem reprB {K : PySem.W.Frag} {b : Bool} {H : Hp} {Q : VK} (k : Q (.str (PyData.bool b).shown) H) : rRepr K [.bl b] H Q :=
  g_repr (.bl b) (by simp [PyData.showable]) (by simp [PyData.depth]) (by rw [szl]; simp only [PyData.shown]; cases b <;> decide) k
instance i_reprB {K : PySem.W.Frag} {b : Bool} {H : Hp} {Q : VK} : Step (rRepr K [.bl b] H Q) (Q (.str (PyData.bool b).shown) H) := ⟨fun k => reprB k⟩
instance (priority := 2000) i_neSame {K : PySem.W.Frag} {a : Str} {H : Hp} {Q : VK} : Step (rNeM K (.str a) (.str a) H Q) (Q (.bl false) H) := ⟨fun k => g_ne rfl (by simpa using k)⟩
/-! ### a law's draws -/
structure PotOk (n : Nat) (a b c : Int) : Prop where
  a0 : 0 ≤ a
  b0 : 0 ≤ b
  b1 : b < 2305843009213693952
  c0 : 0 ≤ c
  c1 : c ≤ n
def PotR (n : Nat) : HO → Prop := fun u => ∃ a b c : Int, u = .lst [.int a, .int b, .int c] ∧ PotOk n a b c
abbrev PotO (P : Program) (w : World) (n : Nat) (z : Addr) : HO := AbsO P w (PotR n) z
def R_draw (P : Program) (w : World) : V → V → Hp → VK → Prop := fun x y H Q => ∃ (p : Addr) (k : Int) (n : Nat), x = .ref p ∧ y = .int k ∧
  H p = some (PotO P w n p) ∧ 1 ≤ k ∧ k < 1073741824 ∧ n ≤ 1000000000 ∧
  ∀ (r : Int) (H' : Hp), 0 ≤ r → r < k → Mx H H' → H' p = some (PotO P w (n + 1) p) → Q (.int r) H'
theorem g_draw {P : Program} {w : World} {p : Addr} {k : Int} {n : Nat} {H : Hp} {Q : VK} (hp : H p = some (PotO P w n p)) (k1 : 1 ≤ k) (k2 : k < 1073741824) (hn : n ≤ 1000000000)
    (q : ∀ (r : Int) (H' : Hp), 0 ≤ r → r < k → Mx H H' → H' p = some (PotO P w (n + 1) p) → Q (.int r) H') : R_draw P w (.ref p) (.int k) H Q :=
  ⟨p, k, n, rfl, rfl, hp, k1, k2, hn, q⟩
/-- a text that is no longer than a text may be -/
def smallD : PyData → Prop
  | .str s => s.length ≤ 16777216
  | _ => True
/-! ### texts of signs that repr shows -/
def Asc (z : Str) : Prop := ∀ c ∈ z.cps.toList, c < 16 ^ 8
/-! ### things of any kind -/
structure GoodD (k : Nat) (d : PyData) : Prop where
  sh : d.showable = true
  dp : d.depth ≤ k
  ln : d.shown.length ≤ 50000 + 4 * k
  sm : smallD d
  as : Asc d.shown
theorem GoodD.mono {k j : Nat} {d : PyData} (g : GoodD k d) (h : k ≤ j) : GoodD j d := ⟨g.sh, Nat.le_trans g.dp h, by have := g.ln; omega, g.sm, g.as⟩
/-! ### what the top has left -/
theorem df_mk {K : PySem.W.Frag} {x qual : Str} {st : Stmt} {f : Addr} {oc : Value} {od : Option Addr} {dV kV doc pm : Value} {an : Option Addr} {cdv ct : Value} {sl : Array (Option Value)}
    (l : K.lookup f = some ⟨oc, od, .func (PySem.W.fnOf x qual (defArgs st) (defBody st) (defScope st) dV kV doc pm an cdv ct), sl⟩) (c : PySem.W.codeIn K cdv qual = true) :
    Df K x qual st f (PySem.W.fnOf x qual (defArgs st) (defBody st) (defScope st) dV kV doc pm an cdv ct) := ⟨oc, od, dV, kV, doc, pm, an, cdv, ct, sl, rfl, l, c⟩
theorem Df.pos {K : PySem.W.Frag} {x qual : Str} {st : Stmt} {f : Addr} {fd : FuncData} {ps : List Str} {n : Nat} (F : Df K x qual st f fd)
    (h : ∀ (dV kV doc pm : Value) (an : Option Addr) (cdv ct : Value) (us : List Value), us.length = n →
      bindArgs (PySem.W.fnOf x qual (defArgs st) (defBody st) (defScope st) dV kV doc pm an cdv ct) ⟨us, []⟩ = pure (ps.zip us)) :
    ∀ us : List Value, us.length = n → bindArgs fd ⟨us, []⟩ = pure (ps.zip us) := by
  obtain ⟨oc, od, dV, kV, doc, pm, an, cdv, ct, sl, rfl, _, _⟩ := F.ex
  exact h dV kV doc pm an cdv ct
/-! ### names -/
end L2.Pc
namespace L2.Pc
open PySem PySem.Spec PyProof.Rows
/-! ### promises that tell of exceptions too -/
def SpX1 (R : V → Hp → VK → XK → Prop) : Sp := fun vs H Q E => ∃ x, vs = [x] ∧ R x H Q E
def SpX2 (R : V → V → Hp → VK → XK → Prop) : Sp := fun vs H Q E => ∃ x y, vs = [x, y] ∧ R x y H Q E
def SpX3 (R : V → V → V → Hp → VK → XK → Prop) : Sp := fun vs H Q E => ∃ x y z, vs = [x, y, z] ∧ R x y z H Q E
def SpX4 (R : V → V → V → V → Hp → VK → XK → Prop) : Sp := fun vs H Q E => ∃ x y z u, vs = [x, y, z, u] ∧ R x y z u H Q E
def SpX5 (R : V → V → V → V → V → Hp → VK → XK → Prop) : Sp := fun vs H Q E => ∃ x y z u t, vs = [x, y, z, u, t] ∧ R x y z u t H Q E
def SpX6 (R : V → V → V → V → V → V → Hp → VK → XK → Prop) : Sp := fun vs H Q E => ∃ x y z u t r, vs = [x, y, z, u, t, r] ∧ R x y z u t r H Q E
section
variable {vs : List V} {H : Hp} {Q : VK} {E : XK} {x y z u t r : V}
theorem SpX1.len {R : V → Hp → VK → XK → Prop} (h : SpX1 R vs H Q E) : vs.length = 1 := by obtain ⟨x, rfl, _⟩ := h; rfl
theorem SpX2.len {R : V → V → Hp → VK → XK → Prop} (h : SpX2 R vs H Q E) : vs.length = 2 := by obtain ⟨x, y, rfl, _⟩ := h; rfl
theorem SpX3.len {R : V → V → V → Hp → VK → XK → Prop} (h : SpX3 R vs H Q E) : vs.length = 3 := by obtain ⟨x, y, z, rfl, _⟩ := h; rfl
theorem SpX4.len {R : V → V → V → V → Hp → VK → XK → Prop} (h : SpX4 R vs H Q E) : vs.length = 4 := by obtain ⟨x, y, z, u, rfl, _⟩ := h; rfl
theorem SpX5.len {R : V → V → V → V → V → Hp → VK → XK → Prop} (h : SpX5 R vs H Q E) : vs.length = 5 := by obtain ⟨x, y, z, u, t, rfl, _⟩ := h; rfl
theorem SpX6.len {R : V → V → V → V → V → V → Hp → VK → XK → Prop} (h : SpX6 R vs H Q E) : vs.length = 6 := by obtain ⟨x, y, z, u, t, r, rfl, _⟩ := h; rfl
instance i_callX1 {R : V → Hp → VK → XK → Prop} : Step ([x].length = 1 ∧ ([] : List V).length = 0 ∧ SpX1 R [x] H Q E) (R x H Q E) := ⟨fun k => ⟨rfl, rfl, x, rfl, k⟩⟩
instance i_callX2 {R : V → V → Hp → VK → XK → Prop} : Step ([x, y].length = 2 ∧ ([] : List V).length = 0 ∧ SpX2 R [x, y] H Q E) (R x y H Q E) := ⟨fun k => ⟨rfl, rfl, x, y, rfl, k⟩⟩
instance i_callX3 {R : V → V → V → Hp → VK → XK → Prop} : Step ([x, y, z].length = 3 ∧ ([] : List V).length = 0 ∧ SpX3 R [x, y, z] H Q E) (R x y z H Q E) := ⟨fun k => ⟨rfl, rfl, x, y, z, rfl, k⟩⟩
instance i_callX4 {R : V → V → V → V → Hp → VK → XK → Prop} : Step ([x, y, z, u].length = 4 ∧ ([] : List V).length = 0 ∧ SpX4 R [x, y, z, u] H Q E) (R x y z u H Q E) := ⟨fun k => ⟨rfl, rfl, x, y, z, u, rfl, k⟩⟩
end
/-! ### calls of defs that may raise -/
section
variable {X : Cx} {CX : CXT} {k n : Nat} {ks : List Str} {gV : List V → List V → List V} {sp : Sp} {E : L2.St → XK} {x : Str}
  {p pos : Pos} {e : Expr} {es : List Expr} {kws : List Keyword} {t tk : TA}
def tKnS (n m : Nat) (gV : List V → List V → List V) (sp : Sp) (E : L2.St → XK) (t tk : TA) : TE := fun σ H Q =>
  t σ H fun vs H1 => tk σ H1 fun zs H2 => vs.length = n ∧ zs.length = m ∧ sp (gV vs zs) H2 Q (E σ)
instance i_knS {σ : L2.St} {H : Hp} {Q : VK} {m : Nat} {ts tk : TA} : Step (tKnS n m gV sp E ts tk σ H Q) (ts σ H fun vs H1 => tk σ H1 fun zs H2 => vs.length = n ∧ zs.length = m ∧ sp (gV vs zs) H2 Q (E σ)) := ⟨fun k => k⟩
end
/-! ### an own exception class with its own __init__ -/
/-- the class x stands at C, its __init__ at fI; fs: the fields -/
structure XcK (K : PySem.W.Frag) (mg : Str → Option Value) (x : Str) (C fI : Addr) (fs : List Str) : Prop where
  g : mg x = some (.ref C)
  oe : OexC K C
  xf : XfC K C
  iC : PySem.W.findIn K (.ref C) "__init__" = some (some (.ref fI))
  tI : PySem.W.typeIn K (.ref fI) = some (.type "function")
  no : ∀ f ∈ fs, PySem.W.findIn K (.ref C) f = some none
  me : PySem.W.exmOne K (.ref C) (.ref C) = some true
/-- the base class x, without own __init__ -/
structure XbK (K : PySem.W.Frag) (mg : Str → Option Value) (x : Str) (C : Addr) : Prop where
  g : mg x = some (.ref C)
  sp : PySem.W.specialIn K (.ref C) "__getattribute__" = some (some (.builtin "type.__getattribute__"))
  ty : PySem.W.typeIn K (.ref C) = some (.type "type")
  rd : PySem.W.readsIn K C (.type "type") = true
  fi : PySem.W.findCls K (.ref C) (.type "type") "__init__" = some (.val (.builtin "ValueError.__init__"))
section
variable {X : Cx} {o e : Expr} {es : List Expr} {to te : TE} {ta : TA} {f x : Str} {p p' p1 p2 pos : Pos} {C : Addr} {K : PySem.W.Frag}
/-- C.__init__(self, ..), C without own __init__ -/
theorem pe_cinit {pl : Sem Bool} (hK : X.K = K) (B : XbK K X.mg x C) (hg : Gl X x) (ha : PA X (e :: es) ta)
    (hc : eval (.Call (.Attribute (.Name x p1) "__init__" p2) (e :: es) [] pos) X.env = (do
      let ov ← eval (.Name x p1) X.env
      standAt p2.atName
      let (f, first) ← holding [ov] (getMethod ov "__init__" pl)
      callWith pos f first (backTo pos (starEach (e :: es) X.env)) (backToKw pos (keywordEach [] X.env))) := by rfl)
    (he : starEach (e :: es) X.env = (false, eval e X.env) :: starEach es X.env := by rfl) (hpl : (backTo pos (starEach es X.env)).any (·.1) = false := by rfl)
    (hdb : (x == ("__debug__" : Str)) = false := by decide) :
    PE X (.Call (.Attribute (.Name x p1) "__init__" p2) (e :: es) [] pos) (tVeI K ta) := by
  subst hK
  refine ⟨fun pins s σ H Q I h => ?_⟩
  refine PySem.W.methodCall_KW (ld_glob I hg B.g ?_ hdb) hc
  obtain ⟨m, fr⟩ := I.fr
  refine PySem.W.method_of_cls fr I.ok.mod.kin B.sp (PySem.W.cls_val fr I.ok.mod.kin B.ty B.rd B.fi (by rfl) ?_)
  show wpAny _ _ (callWith pos (Value.builtin "ValueError.__init__") [] (backTo pos (starEach (e :: es) X.env)) []) _ _ _
  refine PyProof.Rows.callWith_method1 (thn (ha.run pos pins _ σ H _ (I.tok _) h) fun us s1 ⟨vs, H1, I1, r1, a, C, ws, ev, hl, T, ea, q⟩ => ?_) he hpl
  subst ev
  cases r1 with
  | @cons _ u0 _ ur ra rw' =>
    obtain rfl : u0 = Value.ref a := ra
    have hlen : ur.length ≤ sizeLine := by
      rw [← Paired.length rw', sizeLine_eq]
      omega
    exact oinit_ok T I1 ea hlen fun s' J => ⟨.non, H1, J, rfl, q⟩
theorem ps_ostK (hK : X.K = K) (ho : PE X o to) (he : PE X e te) (hs : swapsWith e (some (.Attribute o f p')) pos.line X.env = pure false := by rfl) : PS X (.Assign [.Attribute o f p'] e pos) (tOst K f to te) := hK ▸ ps_ost ho he hs
end
/-! ### readings -/
/-- what an __init__ of one field promises -/
def R_exc1 (C : Addr) (f : Str) : V → V → Hp → VK → Prop := fun x y H Q => ∃ a, x = .ref a ∧ H a = some (exo a C none) ∧
  ∀ dx, H dx = none → dx ≠ a → Q .non (upd (upd H dx (exd dx [(f, y)])) a (exo a C (some dx)))
/-- a new exception of the class at C, its field -/
def NewX (C : Addr) (f : Str) (y : V) (H : Hp) (Q : XK) : Prop := ∀ d H2, H d = none → Same H H2 → H2 d = some (.xd [(f, y)]) → Q (.ref C) (some d) H2
/-- the leaf of C(e, ..) -/
def MkX (C : Addr) (sp : Sp) (H1 : Hp) (Q : XK) (vs : List V) : Prop := vs.length ≤ 1000 ∧ ∀ a, H1 a = none → sp (.ref a :: (vs ++ [])) (upd H1 a (exo a C none))
  (fun v H2 => v = .non ∧ ∃ (d : Addr) (fs : List (Str × V)), H2 a = some (exo a C (some d)) ∧ H2 d = some (exd d fs) ∧ H1 d = none ∧ Q (.ref C) (some d) (upd (del H2 a) d (.xd fs))) (fun _ _ _ => False)
theorem g_mkX {C : Addr} {f : Str} {H1 : Hp} {Q : XK} {y : V} (q : NewX C f y H1 Q) : MkX C (Sp2 (R_exc1 C f)) H1 Q [y] := by
  refine ⟨by simp, fun a na => ⟨_, y, rfl, a, rfl, upd_same, fun dx nd ne => ⟨rfl, dx, [(f, y)], upd_same, ?_, ?_, ?_⟩⟩⟩
  · rw [upd_ne ne, upd_same]
  · rw [upd_ne ne] at nd; exact nd
  · rw [upd_ne ne] at nd
    refine q dx _ nd (fun b o hb => ?_) upd_same
    have b1 : b ≠ dx := ne_of_none hb nd
    have b2 : b ≠ a := ne_of_none hb na
    rw [upd_ne b1, del_ne b2, upd_ne b2, upd_ne b1, upd_ne b2]
    exact hb
section
variable {σ : L2.St} {H : Hp} {K : PySem.W.Frag} {C : Addr} {f : Str} {y : V}
instance i_mkO {sp : Sp} {ta : TA} {Q : XK} : Step (tMkO C sp [] ta σ H Q) (ta σ H fun vs H1 => MkX C sp H1 Q vs) := ⟨fun k => k⟩
instance i_mkX {Q : XK} : Step (MkX C (Sp2 (R_exc1 C f)) H Q [y]) (NewX C f y H Q) := ⟨g_mkX⟩
instance i_vei {ta : TA} {Q : VK} : Step (tVeI K ta σ H Q) (ta σ H fun vs H1 => ∃ (a C : Addr) (ws : List V), vs = .ref a :: ws ∧ ws.length ≤ 1000 ∧ OexC K C ∧ H1 a = some (exo a C none) ∧ Q .non H1) := ⟨fun k => k⟩
instance i_ost {to te : TE} {D : Ends} : Step (tOst K f to te D σ H) (te σ H fun y H1 => to σ H1 fun x H2 => ∃ a C : Addr, x = .ref a ∧ OexC K C ∧ PySem.W.findIn K (.ref C) f = some none ∧
  ((H2 a = some (exo a C none) ∧ ∀ dx, H2 dx = none → dx ≠ a → D.nx σ (upd (upd H2 dx (exd dx [(f, y)])) a (exo a C (some dx)))) ∨
    ∃ (dx : Addr) (fs : List (Str × V)), H2 a = some (exo a C (some dx)) ∧ H2 dx = some (exd dx fs) ∧ fs.length ≤ 900 ∧ D.nx σ (upd H2 dx (exd dx ((f, y) :: fs))))) := ⟨fun k => k⟩
end
instance i_xf {a C : Addr} {cls : Value} {d : Option Addr} {f : Str} {te : TE} {σ : L2.St} {H : Hp} {Q : VK} : Step (tXf a cls d C f te σ H Q) (te σ H fun x H1 => x = .ref a ∧ cls = .ref C ∧ ∃ (dd : Addr) (fs : List (Str × V)) (v : V), d = some dd ∧ H1 dd = some (.xd fs) ∧ fs.lookup f = some v ∧ Q v H1) := ⟨fun k => k⟩
theorem exm_of {K : PySem.W.Frag} {C S : Addr} {b : Bool} (h1 : PySem.W.subIn K (.ref S) (.type "BaseException") = some true) (h2 : PySem.W.isClsIn K S = true) (h3 : PySem.W.typeIn K (.ref S) = some (.type "type")) (h4 : PySem.W.subIn K (.ref C) (.ref S) = some b) :
    PySem.W.exmOne K (.ref C) (.ref S) = some b := by
  have e1 : (PySem.W.subIn K (.ref S) (.type "BaseException") == some true) = true := by rw [h1] <;> rfl
  have e2 : ((PySem.W.clsIn K S).isSome && PySem.W.typeIn K (.ref S) == some (.type "type")) = true := by
    have h2' : (PySem.W.clsIn K S).isSome = true := h2
    rw [h2', h3] <;> rfl
  show (if (PySem.W.subIn K (.ref S) (.type "BaseException") == some true) = true then (if ((PySem.W.clsIn K S).isSome && PySem.W.typeIn K (.ref S) == some (.type "type")) = true then PySem.W.subIn K (.ref C) (.ref S) else none) else none) = some b
  rw [if_pos e1, if_pos e2]
  exact h4
theorem oexC_mk {K : PySem.W.Frag} {C N : Addr} {nm q : Str} {bs bm : List Value} {sn : List Str} {sub : List Value} {ab : Bool} {col : Option Bool} {dd : Option Addr} {k0 k1 k2 k3 k5 : Option Value}
    (l : K.lookup C = some (excClassObj nm q C N bs bm true sn sub ab col dd k0 k1 k2 k3 k5 "ValueError.__new__")) (r : PySem.HandSPX.refsVE bm = true)
    (sa : PySem.W.findIn K (.ref C) "__setattr__" = some (some (.builtin "object.__setattr__"))) (ex : PySem.W.subIn K (.ref C) (.type "BaseException") = some true)
    (ty : PySem.W.typeIn K (.ref C) = some (.type "type")) (kp : PySem.W.keepIn K (.ref C) = true) : OexC K C := ⟨⟨nm, q, N, bs, bm, sn, sub, ab, col, dd, k0, k1, k2, k3, k5, l, r⟩, sa, ex, ty, kp⟩
end L2.Pc
namespace L2.Pc
open PySem PySem.Spec PyProof.Rows
/-! ### texts further -/
section
variable {X : Cx}
def rStrM : List V → Hp → VK → Prop := fun xs H Q => (∃ i, xs = [.int i] ∧ i.natAbs.log2 < 1920 ∧ Q (.str (toString i)) H) ∨ ∃ a, xs = [.str a] ∧ Q (.str a) H
def rZfill : V → List V → Hp → VK → Prop := fun x xs H Q => ∃ (a : Str) (i : Int), x = .str a ∧ xs = [.int i] ∧ PadOk i = true ∧ Q (.str (Txt.zfill a i)) H
def rPart : V → List V → Hp → VK → Prop := fun x xs H Q => ∃ a b, x = .str a ∧ xs = [.str b] ∧ (b.length == 0) = false ∧ a.length ≤ sizeLine ∧
  ∀ p, H p = none → Q (.ref p) (upd H p (.tup [.str (Txt.partition a b).1, .str (Txt.partition a b).2.1, .str (Txt.partition a b).2.2]))
end
section
variable {σ : L2.St} {H : Hp} {Q : VK} {a b : Str} {i : Int}
instance z_strI : StepZ (rStrM [.int i] H Q) (i.natAbs.log2 < 1920) (Q (.str (toString i)) H) := ⟨fun h k => .inl ⟨i, rfl, h, k⟩⟩
instance i_strS : Step (rStrM [.str a] H Q) (Q (.str a) H) := ⟨fun k => .inr ⟨a, rfl, k⟩⟩
instance z_zfill : StepZ (rZfill (.str a) [.int i] H Q) (PadOk i = true) (Q (.str (Txt.zfill a i)) H) := ⟨fun h k => ⟨a, i, rfl, rfl, h, k⟩⟩
instance z_part : StepZ (rPart (.str a) [.str b] H Q) ((b.length == 0) = false ∧ a.length ≤ sizeLine) (NewO H (.tup [.str (Txt.partition a b).1, .str (Txt.partition a b).2.1, .str (Txt.partition a b).2.2]) Q) :=
  ⟨fun h k => ⟨a, b, rfl, rfl, h.1, h.2, k⟩⟩
end
/-- a[::-1] of a text: a text of signs of it, no longer -/
def tRevS (te : TE) : TE := fun σ H Q => te σ H fun x H1 => ∃ a, x = .str a ∧ a.length ≤ sizeLine ∧ ∀ z : Str, z.length ≤ a.length → (∀ c ∈ z.cps.toList, c ∈ a.cps.toList) → Q (.str z) H1
instance i_revS {te : TE} {σ : L2.St} {H : Hp} {Q : VK} : Step (tRevS te σ H Q) (te σ H fun x H1 => ∃ a, x = .str a ∧ a.length ≤ sizeLine ∧ ∀ z : Str, z.length ≤ a.length → (∀ c ∈ z.cps.toList, c ∈ a.cps.toList) → Q (.str z) H1) := ⟨fun k => k⟩
/-! ### small numbers as texts -/
/-! ### texts of figures -/
instance z_intS {a : Str} {H : Hp} {Q : VK} : StepZ (rIntM [.str a] H Q) (a.length ≤ 640) (∃ n, PySem.intText? a = some n ∧ Q (.int n) H) := ⟨fun h ⟨n, e, k⟩ => g_intS e h k⟩
/-! ### is None; a tuple unpacked -/
def rIsNo : R2 := fun x y H Q => y = .non ∧ Q (.bl (decide (x = .non))) H
def rNotNo : R2 := fun x y H Q => y = .non ∧ Q (.bl (!decide (x = .non))) H
section
variable {H : Hp} {Q : VK} {i : Int} {a : Str} {b : Bool} {p : Addr} {m : String}
instance i_isNoN : Step (rIsNo .non .non H Q) (Q (.bl true) H) := ⟨fun k => ⟨rfl, k⟩⟩
instance i_notNoN : Step (rNotNo .non .non H Q) (Q (.bl false) H) := ⟨fun k => ⟨rfl, k⟩⟩
instance i_isNoI : Step (rIsNo (.int i) .non H Q) (Q (.bl false) H) := ⟨fun k => ⟨rfl, by rw [show decide ((.int i : V) = .non) = false from decide_eq_false (fun z => by cases z)]; exact k⟩⟩
instance i_notNoI : Step (rNotNo (.int i) .non H Q) (Q (.bl true) H) := ⟨fun k => ⟨rfl, by rw [show decide ((.int i : V) = .non) = false from decide_eq_false (fun z => by cases z)]; exact k⟩⟩
instance i_isNoS : Step (rIsNo (.str a) .non H Q) (Q (.bl false) H) := ⟨fun k => ⟨rfl, by rw [show decide ((.str a : V) = .non) = false from decide_eq_false (fun z => by cases z)]; exact k⟩⟩
instance i_notNoS : Step (rNotNo (.str a) .non H Q) (Q (.bl true) H) := ⟨fun k => ⟨rfl, by rw [show decide ((.str a : V) = .non) = false from decide_eq_false (fun z => by cases z)]; exact k⟩⟩
instance i_isNoB : Step (rIsNo (.bl b) .non H Q) (Q (.bl false) H) := ⟨fun k => ⟨rfl, by rw [show decide ((.bl b : V) = .non) = false from decide_eq_false (fun z => by cases z)]; exact k⟩⟩
instance i_notNoB : Step (rNotNo (.bl b) .non H Q) (Q (.bl true) H) := ⟨fun k => ⟨rfl, by rw [show decide ((.bl b : V) = .non) = false from decide_eq_false (fun z => by cases z)]; exact k⟩⟩
instance i_isNoR : Step (rIsNo (.ref p) .non H Q) (Q (.bl false) H) := ⟨fun k => ⟨rfl, by rw [show decide ((.ref p : V) = .non) = false from decide_eq_false (fun z => by cases z)]; exact k⟩⟩
instance i_notNoR : Step (rNotNo (.ref p) .non H Q) (Q (.bl true) H) := ⟨fun k => ⟨rfl, by rw [show decide ((.ref p : V) = .non) = false from decide_eq_false (fun z => by cases z)]; exact k⟩⟩
instance i_isNoTy : Step (rIsNo (.ty m) .non H Q) (Q (.bl false) H) := ⟨fun k => ⟨rfl, by rw [show decide ((.ty m : V) = .non) = false from decide_eq_false (fun z => by cases z)]; exact k⟩⟩
instance i_notNoTy : Step (rNotNo (.ty m) .non H Q) (Q (.bl true) H) := ⟨fun k => ⟨rfl, by rw [show decide ((.ty m : V) = .non) = false from decide_eq_false (fun z => by cases z)]; exact k⟩⟩
end
theorem pg_tupK {X : Cx} {K : PySem.W.Frag} {es : List Expr} {k : Nat} {t : TGs} {n : Nat} {pos : Pos} (hK : X.K = K) (hc : X.calm = true) (h : PGs X es t)
    (hn : (assignEach es X.env).length = n := by rfl) (hst : (assignEach es X.env).findIdx? (·.1) = none := by rfl) : PG X (.Tuple es k pos) (gTup K n t) := hK ▸ pg_tup hc h hn hst
section
variable {K : PySem.W.Frag} {σ : L2.St} {H : Hp} {t : TG} {u : TGs} {n : Nat} {v : V} {vs : List V} {a : Addr} {R : L2.St → Hp → Prop}
instance q_gTup : StepQ (gTup K n u (.ref a) σ H R) (fun xs => SqT K H a xs) (fun xs => xs.length = n ∧ u xs σ H R) := ⟨fun xs h k => ⟨a, xs, rfl, h, k.1, k.2⟩⟩
instance i_gCons : Step (gCons t u (v :: vs) σ H R) (t v σ H fun σ' H' => u vs σ' H' R) := ⟨fun k => ⟨v, vs, rfl, k⟩⟩
instance i_gNil : Step (gNil [] σ H R) (R σ H) := ⟨fun k => ⟨rfl, k⟩⟩
end
end L2.Pc
namespace L2.Pc
open PySem PySem.Spec PyProof.Rows
/-! ### a text cut at its first sign c -/
section
variable {K : PySem.W.Frag} {x : V} {p : Addr} {H : Hp} {Q : VK}
instance (priority := 2000) q_in1 : StepQ (rInM K true x (.ref p) H Q) (fun xs => SqL K H p xs ∨ SqT K H p xs)
  (fun xs => flatV x = true ∧ xs.all flatV = true ∧ Q (.bl (!inV x xs)) H) := ⟨fun xs h ⟨k1, k2, k3⟩ => g_inQ h k1 k2 k3⟩
instance (priority := 2000) q_in0 : StepQ (rInM K false x (.ref p) H Q) (fun xs => SqL K H p xs ∨ SqT K H p xs)
  (fun xs => flatV x = true ∧ xs.all flatV = true ∧ Q (.bl (inV x xs)) H) := ⟨fun xs h ⟨k1, k2, k3⟩ => g_inQ h k1 k2 k3⟩
end
/-! ### long texts of one figure, as constants -/
end L2.Pc
namespace L2.Tr
open PySem PySem.Spec PyProof.Rows L2 L2.Pc
/-! ### values as trees -/
inductive D where
  | non | bl (b : Bool) | int (i : Int) | str (s : Str)
  | tup (xs : List D) | lst (xs : List D) | lsk (xs : List D) | tuk (xs : List D) | dct (kvs : List (D × D)) | dcu (kvs : List (D × D))
  | ins (c : Str) (fs : List (Str × D)) | cel (n : Nat) | fn (f : Str) | ty (n : String) | xob (c : Str) (fs : List (Str × D)) | xok (c : Str) (fs : List (Str × D)) | tun (xs : List D)
/-- a tree whose objects are owned, down to frozen leaves -/
inductive O where
  | fz (d : D) | lst (xs : List D) | dct (kvs : List (D × D)) | dcu (kvs : List (D × D)) | ins (c : Str) (fs : List (Str × O)) | dco (kvs : List (D × O)) | dcv (kvs : List (D × O))
def kD : Key → D
  | .inl i => .int i
  | .inr x => .str x
mutual
def O.toD : O → D
  | .fz d => d
  | .lst xs => .lst xs
  | .dct kvs => .dct kvs
  | .ins c fs => .ins c (O.toDf fs)
  | .dco kvs => .dct (O.toDk kvs)
  | .dcu kvs => .dcu kvs
  | .dcv kvs => .dcu (O.toDk kvs)
def O.toDf : List (Str × O) → List (Str × D)
  | [] => []
  | (n, o) :: r => (n, O.toD o) :: O.toDf r
def O.toDk : List (D × O) → List (D × D)
  | [] => []
  | (n, o) :: r => (n, O.toD o) :: O.toDk r
end
theorem toDf_map : ∀ fs : List (Str × O), O.toDf fs = fs.map fun p => (p.1, p.2.toD)
  | [] => rfl
  | (n, o) :: r => by rw [O.toDf, toDf_map r]; rfl
theorem toDk_map : ∀ fs : List (D × O), O.toDk fs = fs.map fun p => (p.1, p.2.toD)
  | [] => rfl
  | (n, o) :: r => by rw [O.toDk, toDk_map r]; rfl
/-- the module's facts that values lean on -/
structure Gi where
  K : PySem.W.Frag
  mg : Str → Option Value
  /-- the exception that a suite has in hand: its address, its class, its dict -/
  xo : Option (Addr × Addr × Option Addr) := none
/-- an exception that is kept: its very object -/
def xkH (oe : Obj) (a : Addr) : HO := .ext fun h => h.get? a = some oe
def XKp (F : Hp) (a C : Addr) (d : Option Addr) : Prop := ∃ oe, F a = some (xkH oe a) ∧ Zc (.ref C) d oe ∧ ∃ vs, oe.data = .fields vs
mutual
inductive Rp (G : Gi) (F : Hp) (al : List Addr) : V → D → Prop
  | non : Rp G F al .non .non
  | bl (b : Bool) : Rp G F al (.bl b) (.bl b)
  | int (i : Int) : Rp G F al (.int i) (.int i)
  | str (x : Str) : Rp G F al (.str x) (.str x)
  | tup {a : Addr} {xs : List V} {ds : List D} : F a = some (.tup xs) → RpA G F al xs ds → Rp G F al (.ref a) (.tup ds)
  | tuk {a : Addr} {xs : List V} {ds : List D} : SqT G.K F a xs → RpA G F al xs ds → Rp G F al (.ref a) (.tuk ds)
  | lst {a : Addr} {xs : List V} {ds : List D} : F a = some (.lst xs) → RpA G F al xs ds → Rp G F al (.ref a) (.lst ds)
  | lsk {a : Addr} {xs : List V} {ds : List D} : SqL G.K F a xs → RpA G F al xs ds → Rp G F al (.ref a) (.lsk ds)
  | dcK {a : Addr} {kvs : List (Key × V)} {ds : List (D × D)} : Rd F a (.dK kvs) → ds.map (·.1) = kvs.map (fun p => kD p.1) →
      RpA G F al (kvs.map (·.2)) (ds.map (·.2)) → Rp G F al (.ref a) (.dct ds)
  | dcT {a : Addr} {kvs : List (List Key × V)} {ds : List (D × D)} : Rd F a (.dT kvs) → ds.map (·.1) = kvs.map (fun p => .tup (p.1.map kD)) →
      RpA G F al (kvs.map (·.2)) (ds.map (·.2)) → Rp G F al (.ref a) (.dcu ds)
  | ins {a C dx : Addr} {c : Str} {fs : List (Str × V)} {ds : List (Str × D)} : F a = some (.ins C dx fs) → G.mg c = some (.ref C) → ds.map (·.1) = fs.map (·.1) →
      RpA G F al (fs.map (·.2)) (ds.map (·.2)) → Rp G F al (.ref a) (.ins c ds)
  | cel {a : Addr} {n : Nat} : al[n]? = some a → Rp G F al (.ref a) (.cel n)
  | fn {a : Addr} {f : Str} : G.mg f = some (.ref a) → Rp G F al (.ref a) (.fn f)
  | ty (n : String) : Rp G F al (.ty n) (.ty n)
  | xob {a C dx : Addr} {c : Str} {fs : List (Str × V)} {ds : List (Str × D)} : G.xo = some (a, C, some dx) → G.mg c = some (.ref C) → F dx = some (.xd fs) → ds.map (·.1) = fs.map (·.1) →
      RpA G F al (fs.map (·.2)) (ds.map (·.2)) → Rp G F al (.ref a) (.xob c ds)
  | xob0 {a C : Addr} {c : Str} : G.xo = some (a, C, none) → G.mg c = some (.ref C) → Rp G F al (.ref a) (.xob c [])
  | xok {a C dx : Addr} {c : Str} {fs : List (Str × V)} {ds : List (Str × D)} : XKp F a C (some dx) → G.mg c = some (.ref C) → F dx = some (.xd fs) → ds.map (·.1) = fs.map (·.1) →
      RpA G F al (fs.map (·.2)) (ds.map (·.2)) → Rp G F al (.ref a) (.xok c ds)
  | xok0 {a C : Addr} {c : Str} : XKp F a C none → G.mg c = some (.ref C) → Rp G F al (.ref a) (.xok c [])
  | tun {a : Addr} {o : Obj} {xs : List V} {ds : List D} : F a = some (.frz o (.tup xs)) → o.dict = none → RpA G F al xs ds → Rp G F al (.ref a) (.tun ds)
inductive RpA (G : Gi) (F : Hp) (al : List Addr) : List V → List D → Prop
  | nil : RpA G F al [] []
  | cons {v : V} {vs : List V} {d : D} {ds : List D} : Rp G F al v d → RpA G F al vs ds → RpA G F al (v :: vs) (d :: ds)
end
theorem sqT_fz {K : PySem.W.Frag} {F : Hp} {a : Addr} {o : Obj} {xs : List V} (h : F a = some (.frz o (.tup xs))) : SqT K F a xs := .inl (.inr ⟨o, h⟩)
/-- dicts: locked while they are walked -/
def dictO : HO → Bool
  | .dK _ => true
  | .dT _ => true
  | .frz _ (.tup _) => false
  | .frz _ _ => true
  | _ => false
/-- more frozen objects, more cells -/
structure Mo (F F' : Hp) (al al' : List Addr) : Prop where
  mF : ∀ (a : Addr) (o : HO), F a = some o → dictO o = false → F' a = some o
  mR : ∀ (a : Addr) (o : HO), Rd F a o → Rd F' a o
  mA : ∀ (n : Nat) (a : Addr), al[n]? = some a → al'[n]? = some a
theorem rd_mo {F F' : Hp} (e : ∀ a o, F a = some o → F' a = some o) {a : Addr} {u : HO} (h : Rd F a u) : Rd F' a u := by
  rcases h with h | ⟨o, h⟩
  · exact .inl (e _ _ h)
  · exact .inr ⟨o, e _ _ h⟩
theorem Mo.of {F F' : Hp} {al al' : List Addr} (e : ∀ a o, F a = some o → F' a = some o) (k : ∀ (n : Nat) (a : Addr), al[n]? = some a → al'[n]? = some a) : Mo F F' al al' :=
  ⟨fun a o h _ => e a o h, fun a o h => rd_mo e h, k⟩
theorem Mo.refl (F : Hp) (al : List Addr) : Mo F F al al := .of (fun _ _ h => h) fun _ _ h => h
theorem Mo.trans {F F1 F2 : Hp} {al al1 al2 : List Addr} (a : Mo F F1 al al1) (b : Mo F1 F2 al1 al2) : Mo F F2 al al2 :=
  ⟨fun x o h k => b.mF x o (a.mF x o h k) k, fun x o h => b.mR x o (a.mR x o h), fun n x h => b.mA n x (a.mA n x h)⟩
theorem sqL_mo {K : PySem.W.Frag} {F F' : Hp} (e : ∀ a o, F a = some o → F' a = some o) {a : Addr} {xs : List V} (h : SqL K F a xs) : SqL K F' a xs := by
  rcases h with h | h
  · exact .inl (rd_mo e h)
  · exact .inr h
theorem sqT_mo {K : PySem.W.Frag} {F F' : Hp} (e : ∀ a o, F a = some o → F' a = some o) {a : Addr} {xs : List V} (h : SqT K F a xs) : SqT K F' a xs := by
  rcases h with h | h
  · exact .inl (rd_mo e h)
  · exact .inr h
theorem sqL_mr {K : PySem.W.Frag} {F F' : Hp} (e : ∀ a o, Rd F a o → Rd F' a o) {a : Addr} {xs : List V} (h : SqL K F a xs) : SqL K F' a xs := by
  rcases h with h | h
  · exact .inl (e _ _ h)
  · exact .inr h
theorem sqT_mr {K : PySem.W.Frag} {F F' : Hp} (e : ∀ a o, Rd F a o → Rd F' a o) {a : Addr} {xs : List V} (h : SqT K F a xs) : SqT K F' a xs := by
  rcases h with h | h
  · exact .inl (e _ _ h)
  · exact .inr h
theorem xk_mo {F F' : Hp} (e : ∀ (a : Addr) (o : HO), F a = some o → dictO o = false → F' a = some o) {a C : Addr} {d : Option Addr} (h : XKp F a C d) : XKp F' a C d := by
  obtain ⟨oe, h1, h2⟩ := h
  exact ⟨oe, e _ _ h1 rfl, h2⟩
mutual
theorem Rp.mo {G : Gi} {F F' : Hp} {al al' : List Addr} (e : Mo F F' al al') : ∀ {v : V} {d : D}, Rp G F al v d → Rp G F' al' v d
  | _, _, .non => .non
  | _, _, .bl b => .bl b
  | _, _, .int i => .int i
  | _, _, .str x => .str x
  | _, _, .tup h hs => .tup (e.mF _ _ h rfl) (RpA.mo e hs)
  | _, _, .tuk h hs => .tuk (sqT_mr e.mR h) (RpA.mo e hs)
  | _, _, .lst h hs => .lst (e.mF _ _ h rfl) (RpA.mo e hs)
  | _, _, .lsk h hs => .lsk (sqL_mr e.mR h) (RpA.mo e hs)
  | _, _, .dcK h k hs => .dcK (e.mR _ _ h) k (RpA.mo e hs)
  | _, _, .dcT h k hs => .dcT (e.mR _ _ h) k (RpA.mo e hs)
  | _, _, .ins h k n hs => .ins (e.mF _ _ h rfl) k n (RpA.mo e hs)
  | _, _, .cel h => .cel (e.mA _ _ h)
  | _, _, .fn h => .fn h
  | _, _, .ty n => .ty n
  | _, _, .xob h q k n hs => .xob h q (e.mF _ _ k rfl) n (RpA.mo e hs)
  | _, _, .xob0 h q => .xob0 h q
  | _, _, .xok h q k n hs => .xok (xk_mo e.mF h) q (e.mF _ _ k rfl) n (RpA.mo e hs)
  | _, _, .xok0 h q => .xok0 (xk_mo e.mF h) q
  | _, _, .tun h k hs => .tun (e.mF _ _ h rfl) k (RpA.mo e hs)
theorem RpA.mo {G : Gi} {F F' : Hp} {al al' : List Addr} (e : Mo F F' al al') : ∀ {vs : List V} {ds : List D}, RpA G F al vs ds → RpA G F' al' vs ds
  | _, _, .nil => .nil
  | _, _, .cons h hs => .cons (Rp.mo e h) (RpA.mo e hs)
end
theorem RpA.len {G : Gi} {F : Hp} {al : List Addr} : ∀ {vs : List V} {ds : List D}, RpA G F al vs ds → vs.length = ds.length
  | _, _, .nil => rfl
  | _, _, .cons _ hs => congrArg (· + 1) (RpA.len hs)
theorem RpA.get {G : Gi} {F : Hp} {al : List Addr} : ∀ {vs : List V} {ds : List D} {i : Nat} {d : D}, RpA G F al vs ds → ds[i]? = some d → ∃ v, vs[i]? = some v ∧ Rp G F al v d
  | _, _, _, _, .nil, e => by simp at e
  | _, _, 0, _, .cons h _, e => by simp at e; subst e; exact ⟨_, rfl, h⟩
  | _, _, i + 1, _, .cons _ hs, e => by
    obtain ⟨v, h1, h2⟩ := RpA.get (i := i) hs (by simpa using e)
    exact ⟨v, by simpa using h1, h2⟩
theorem RpA.app {G : Gi} {F : Hp} {al : List Addr} : ∀ {vs ws : List V} {ds es : List D}, RpA G F al vs ds → RpA G F al ws es → RpA G F al (vs ++ ws) (ds ++ es)
  | _, _, _, _, .nil, k => k
  | _, _, _, _, .cons h hs, k => .cons h (RpA.app hs k)
theorem RpA.drop {G : Gi} {F : Hp} {al : List Addr} : ∀ {vs : List V} {ds : List D} (n : Nat), RpA G F al vs ds → RpA G F al (vs.drop n) (ds.drop n)
  | _, _, 0, h => h
  | _, _, _ + 1, .nil => .nil
  | _, _, n + 1, .cons _ hs => RpA.drop n hs
theorem RpA.take {G : Gi} {F : Hp} {al : List Addr} : ∀ {vs : List V} {ds : List D} (n : Nat), RpA G F al vs ds → RpA G F al (vs.take n) (ds.take n)
  | _, _, 0, h => .nil
  | _, _, _ + 1, .nil => .nil
  | _, _, n + 1, .cons h hs => .cons h (RpA.take n hs)
theorem RpA.set {G : Gi} {F : Hp} {al : List Addr} {v : V} {d : D} (r : Rp G F al v d) : ∀ {vs : List V} {ds : List D} (n : Nat), RpA G F al vs ds → RpA G F al (vs.set n v) (ds.set n d)
  | _, _, _, .nil => .nil
  | _, _, 0, .cons _ hs => .cons r hs
  | _, _, n + 1, .cons h hs => .cons h (RpA.set r n hs)
theorem RpA.rev {G : Gi} {F : Hp} {al : List Addr} : ∀ {vs : List V} {ds : List D}, RpA G F al vs ds → RpA G F al vs.reverse ds.reverse
  | _, _, .nil => .nil
  | _, _, .cons h hs => by rw [List.reverse_cons, List.reverse_cons]; exact RpA.app (RpA.rev hs) (.cons h .nil)
mutual
inductive OwnT (G : Gi) (F : Hp) (al : List Addr) (H : Hp) : O → V → List Addr → Prop
  | fz {v : V} {d : D} : Rp G F al v d → OwnT G F al H (.fz d) v []
  | lst {a : Addr} {vs : List V} {ds : List D} : H a = some (.lst vs) → RpA G F al vs ds → OwnT G F al H (.lst ds) (.ref a) [a]
  | dcK {a : Addr} {kvs : List (Key × V)} {ds : List (D × D)} : H a = some (.dK kvs) → ds.map (·.1) = kvs.map (fun p => kD p.1) →
      RpA G F al (kvs.map (·.2)) (ds.map (·.2)) → OwnT G F al H (.dct ds) (.ref a) [a]
  | dcT {a : Addr} {kvs : List (List Key × V)} {ds : List (D × D)} : H a = some (.dT kvs) → ds.map (·.1) = kvs.map (fun p => .tup (p.1.map kD)) →
      RpA G F al (kvs.map (·.2)) (ds.map (·.2)) → OwnT G F al H (.dcu ds) (.ref a) [a]
  | ins {a C dx : Addr} {c : Str} {fs : List (Str × V)} {os : List (Str × O)} {fp : List Addr} : H a = some (.ins C dx fs) → G.mg c = some (.ref C) →
      os.map (·.1) = fs.map (·.1) → OwnA G F al H (os.map (·.2)) (fs.map (·.2)) fp → OwnT G F al H (.ins c os) (.ref a) (a :: fp)
  | dcoK {a : Addr} {kvs : List (Key × V)} {os : List (D × O)} {fp : List Addr} : H a = some (.dK kvs) → os.map (·.1) = kvs.map (fun p => kD p.1) →
      OwnA G F al H (os.map (·.2)) (kvs.map (·.2)) fp → OwnT G F al H (.dco os) (.ref a) (a :: fp)
  | dcoT {a : Addr} {kvs : List (List Key × V)} {os : List (D × O)} {fp : List Addr} : H a = some (.dT kvs) → os.map (·.1) = kvs.map (fun p => .tup (p.1.map kD)) →
      OwnA G F al H (os.map (·.2)) (kvs.map (·.2)) fp → OwnT G F al H (.dcv os) (.ref a) (a :: fp)
inductive OwnA (G : Gi) (F : Hp) (al : List Addr) (H : Hp) : List O → List V → List Addr → Prop
  | nil : OwnA G F al H [] [] []
  | cons {o : O} {v : V} {os : List O} {vs : List V} {fp fq : List Addr} : OwnT G F al H o v fp → OwnA G F al H os vs fq → OwnA G F al H (o :: os) (v :: vs) (fp ++ fq)
end
mutual
theorem OwnT.mo {G : Gi} {F F' : Hp} {al al' : List Addr} {H H' : Hp} (e : Mo F F' al al') : ∀ {o : O} {v : V} {fp : List Addr}, OwnT G F al H o v fp →
    (∀ a ∈ fp, H' a = H a) → OwnT G F' al' H' o v fp
  | _, _, _, .fz h, _ => .fz (h.mo e)
  | _, _, _, .lst h hs, k => .lst ((k _ (List.mem_singleton_self _)).trans h) (hs.mo e)
  | _, _, _, .dcK h q hs, k => .dcK ((k _ (List.mem_singleton_self _)).trans h) q (hs.mo e)
  | _, _, _, .dcT h q hs, k => .dcT ((k _ (List.mem_singleton_self _)).trans h) q (hs.mo e)
  | _, _, _, .ins h q n hs, k => .ins ((k _ List.mem_cons_self).trans h) q n (OwnA.mo e hs fun a ha => k a (List.mem_cons_of_mem _ ha))
  | _, _, _, .dcoK h q hs, k => .dcoK ((k _ List.mem_cons_self).trans h) q (OwnA.mo e hs fun a ha => k a (List.mem_cons_of_mem _ ha))
  | _, _, _, .dcoT h q hs, k => .dcoT ((k _ List.mem_cons_self).trans h) q (OwnA.mo e hs fun a ha => k a (List.mem_cons_of_mem _ ha))
theorem OwnA.mo {G : Gi} {F F' : Hp} {al al' : List Addr} {H H' : Hp} (e : Mo F F' al al') : ∀ {os : List O} {vs : List V} {fp : List Addr}, OwnA G F al H os vs fp →
    (∀ a ∈ fp, H' a = H a) → OwnA G F' al' H' os vs fp
  | _, _, _, .nil, _ => .nil
  | _, _, _, .cons h hs, k => .cons (OwnT.mo e h fun a ha => k a (List.mem_append_left _ ha)) (OwnA.mo e hs fun a ha => k a (List.mem_append_right _ ha))
end
mutual
theorem OwnT.there {G : Gi} {F : Hp} {al : List Addr} {H : Hp} : ∀ {o : O} {v : V} {fp : List Addr}, OwnT G F al H o v fp → ∀ a ∈ fp, H a ≠ none
  | _, _, _, .fz _, a, ha => by cases ha
  | _, _, _, .lst h _, a, ha => by rw [List.mem_singleton.mp ha, h]; exact Option.some_ne_none _
  | _, _, _, .dcK h _ _, a, ha => by rw [List.mem_singleton.mp ha, h]; exact Option.some_ne_none _
  | _, _, _, .dcT h _ _, a, ha => by rw [List.mem_singleton.mp ha, h]; exact Option.some_ne_none _
  | _, _, _, .ins h _ _ hs, a, ha => by
    rcases List.mem_cons.mp ha with e | e
    · rw [e, h]; exact Option.some_ne_none _
    · exact OwnA.there hs a e
  | _, _, _, .dcoK h _ hs, a, ha => by
    rcases List.mem_cons.mp ha with e | e
    · rw [e, h]; exact Option.some_ne_none _
    · exact OwnA.there hs a e
  | _, _, _, .dcoT h _ hs, a, ha => by
    rcases List.mem_cons.mp ha with e | e
    · rw [e, h]; exact Option.some_ne_none _
    · exact OwnA.there hs a e
theorem OwnA.there {G : Gi} {F : Hp} {al : List Addr} {H : Hp} : ∀ {os : List O} {vs : List V} {fp : List Addr}, OwnA G F al H os vs fp → ∀ a ∈ fp, H a ≠ none
  | _, _, _, .nil, a, ha => by cases ha
  | _, _, _, .cons h hs, a, ha => (List.mem_append.mp ha).elim (fun e => OwnT.there h a e) fun e => OwnA.there hs a e
end
/-! frozen, with all objects of its footprint -/
mutual
theorem OwnT.freeze {G : Gi} {F F' : Hp} {al : List Addr} {H : Hp} (e : ∀ a o, F a = some o → F' a = some o) : ∀ {o : O} {v : V} {fp : List Addr}, OwnT G F al H o v fp →
    (∀ a ∈ fp, F' a = H a) → Rp G F' al v o.toD
  | _, _, _, .fz h, _ => by rw [O.toD]; exact h.mo (.of e fun _ _ q => q)
  | _, _, _, .lst h hs, k => by rw [O.toD]; exact .lst ((k _ (List.mem_singleton_self _)).trans h) (hs.mo (.of e fun _ _ q => q))
  | _, _, _, .dcK h q hs, k => by rw [O.toD]; exact .dcK (.inl ((k _ (List.mem_singleton_self _)).trans h)) q (hs.mo (.of e fun _ _ q => q))
  | _, _, _, .dcT h q hs, k => by rw [O.toD]; exact .dcT (.inl ((k _ (List.mem_singleton_self _)).trans h)) q (hs.mo (.of e fun _ _ q => q))
  | _, _, _, @OwnT.ins _ _ _ _ a C dx c fs os fp h q n hs, k => by
    rw [O.toD, toDf_map]
    have r := OwnA.freeze e hs fun a ha => k a (List.mem_cons_of_mem _ ha)
    refine .ins ((k _ List.mem_cons_self).trans h) q (by rw [List.map_map]; exact n) ?_
    rw [List.map_map]
    rw [List.map_map] at r
    exact r
  | _, _, _, @OwnT.dcoK _ _ _ _ a kvs os fp h q hs, k => by
    rw [O.toD, toDk_map]
    have r := OwnA.freeze e hs fun a ha => k a (List.mem_cons_of_mem _ ha)
    refine .dcK (.inl ((k _ List.mem_cons_self).trans h)) (by rw [List.map_map]; exact q) ?_
    rw [List.map_map]
    rw [List.map_map] at r
    exact r
  | _, _, _, @OwnT.dcoT _ _ _ _ a kvs os fp h q hs, k => by
    rw [O.toD, toDk_map]
    have r := OwnA.freeze e hs fun a ha => k a (List.mem_cons_of_mem _ ha)
    refine .dcT (.inl ((k _ List.mem_cons_self).trans h)) (by rw [List.map_map]; exact q) ?_
    rw [List.map_map]
    rw [List.map_map] at r
    exact r
theorem OwnA.freeze {G : Gi} {F F' : Hp} {al : List Addr} {H : Hp} (e : ∀ a o, F a = some o → F' a = some o) : ∀ {os : List O} {vs : List V} {fp : List Addr}, OwnA G F al H os vs fp →
    (∀ a ∈ fp, F' a = H a) → RpA G F' al vs (os.map O.toD)
  | _, _, _, .nil, _ => .nil
  | _, _, _, .cons h hs, k => .cons (OwnT.freeze e h fun a ha => k a (List.mem_append_left _ ha)) (OwnA.freeze e hs fun a ha => k a (List.mem_append_right _ ha))
end
/-! ### states of a def's body -/
structure S where
  env : List (Option O)
  mu : List O
inductive Slots (G : Gi) (F : Hp) (al : List Addr) (H : Hp) : List (Option O) → L2.St → List Addr → Prop
  | nil : Slots G F al H [] [] []
  | un {env : List (Option O)} {x : Option V} {σ : L2.St} {fp : List Addr} : Slots G F al H env σ fp → Slots G F al H (none :: env) (x :: σ) fp
  | so {o : O} {v : V} {env : List (Option O)} {σ : L2.St} {fp fq : List Addr} : OwnT G F al H o v fp → Slots G F al H env σ fq →
      Slots G F al H (some o :: env) (some v :: σ) (fp ++ fq)
/-- a configuration: the frozen part, the heap, the cells' addresses, the objects that slots and cells own -/
structure Cf where
  F : Hp
  H : Hp
  al : List Addr
  fs : List Addr
  fc : List Addr
structure Rel (G : Gi) (st : S) (σ : L2.St) (c : Cf) : Prop where
  sub : ∀ a o, c.F a = some o → c.H a = some o
  own : ∀ a, a ∈ c.fs ∨ a ∈ c.fc → c.F a = none
  nds : c.fs.Nodup
  ndc : c.fc.Nodup
  dis : ∀ a ∈ c.fs, a ∉ c.fc
  slots : Slots G c.F c.al c.H st.env σ c.fs
  cells : OwnA G c.F c.al c.H st.mu (c.al.map V.ref) c.fc
/-- nothing there, or a tuple -/
def NT (o : Option HO) : Prop := o = none ∨ ∃ xs, o = some (.tup xs)
/-- what code may do -/
structure Go (c c' : Cf) : Prop where
  mo : Mo c.F c'.F c.al c'.al
  fr : ∀ a, c.H a ≠ none → a ∉ c.fs → a ∉ c.fc → c'.H a = c.H a
  fp : ∀ a, a ∈ c'.fs ∨ a ∈ c'.fc → a ∈ c.fs ∨ a ∈ c.fc ∨ c.H a = none
  nF : ∀ a, c'.F a ≠ none → c.F a ≠ none ∨ a ∈ c.fs ∨ a ∈ c.fc ∨ NT (c.H a)
mutual
theorem OwnT.obj {G : Gi} {F : Hp} {al : List Addr} {H : Hp} : ∀ {o : O} {v : V} {fp : List Addr}, OwnT G F al H o v fp → ∀ a ∈ fp, ¬ NT (H a)
  | _, _, _, .fz _, a, ha => by cases ha
  | _, _, _, .lst h _, a, ha => by rw [List.mem_singleton.mp ha, h]; rintro (z | ⟨_, z⟩) <;> cases z
  | _, _, _, .dcK h _ _, a, ha => by rw [List.mem_singleton.mp ha, h]; rintro (z | ⟨_, z⟩) <;> cases z
  | _, _, _, .dcT h _ _, a, ha => by rw [List.mem_singleton.mp ha, h]; rintro (z | ⟨_, z⟩) <;> cases z
  | _, _, _, .ins h _ _ hs, a, ha => by
    rcases List.mem_cons.mp ha with rfl | ha
    · rw [h]; rintro (z | ⟨_, z⟩) <;> cases z
    · exact OwnA.obj hs a ha
  | _, _, _, .dcoK h _ hs, a, ha => by
    rcases List.mem_cons.mp ha with rfl | ha
    · rw [h]; rintro (z | ⟨_, z⟩) <;> cases z
    · exact OwnA.obj hs a ha
  | _, _, _, .dcoT h _ hs, a, ha => by
    rcases List.mem_cons.mp ha with rfl | ha
    · rw [h]; rintro (z | ⟨_, z⟩) <;> cases z
    · exact OwnA.obj hs a ha
theorem OwnA.obj {G : Gi} {F : Hp} {al : List Addr} {H : Hp} : ∀ {os : List O} {vs : List V} {fp : List Addr}, OwnA G F al H os vs fp → ∀ a ∈ fp, ¬ NT (H a)
  | _, _, _, .nil, a, ha => by cases ha
  | _, _, _, .cons h hs, a, ha => (List.mem_append.mp ha).elim (fun e => OwnT.obj h a e) fun e => OwnA.obj hs a e
end
theorem OwnT.noNT {G : Gi} {F : Hp} {al : List Addr} {H : Hp} {o : O} {v : V} {fp : List Addr} (t : OwnT G F al H o v fp) : ∀ a ∈ fp, ¬ NT (H a) := OwnT.obj t
theorem Slots.noNT {G : Gi} {F : Hp} {al : List Addr} {H : Hp} : ∀ {env : List (Option O)} {σ : L2.St} {fp : List Addr}, Slots G F al H env σ fp → ∀ a ∈ fp, ¬ NT (H a)
  | _, _, _, .nil, a, ha => by cases ha
  | _, _, _, .un h, a, ha => Slots.noNT h a ha
  | _, _, _, .so h hs, a, ha => (List.mem_append.mp ha).elim (fun e => OwnT.noNT h a e) fun e => Slots.noNT hs a e
theorem Rel.noNT {G : Gi} {st : S} {σ : L2.St} {c : Cf} (r : Rel G st σ c) {a : Addr} (h : a ∈ c.fs ∨ a ∈ c.fc) : ¬ NT (c.H a) :=
  h.elim (fun h => r.slots.noNT a h) fun h => OwnA.obj r.cells a h
theorem Slots.there {G : Gi} {F : Hp} {al : List Addr} {H : Hp} : ∀ {env : List (Option O)} {σ : L2.St} {fp : List Addr}, Slots G F al H env σ fp → ∀ a ∈ fp, H a ≠ none
  | _, _, _, .nil, a, ha => by cases ha
  | _, _, _, .un h, a, ha => Slots.there h a ha
  | _, _, _, .so h hs, a, ha => (List.mem_append.mp ha).elim (fun e => OwnT.there h a e) fun e => Slots.there hs a e
theorem Slots.mo {G : Gi} {F F' : Hp} {al al' : List Addr} {H H' : Hp} (e : Mo F F' al al') : ∀ {env : List (Option O)} {σ : L2.St} {fp : List Addr}, Slots G F al H env σ fp →
    (∀ a ∈ fp, H' a = H a) → Slots G F' al' H' env σ fp
  | _, _, _, .nil, _ => .nil
  | _, _, _, .un h, k => .un (Slots.mo e h k)
  | _, _, _, .so h hs, k => .so (OwnT.mo e h fun a ha => k a (List.mem_append_left _ ha)) (Slots.mo e hs fun a ha => k a (List.mem_append_right _ ha))
theorem Rel.there {G : Gi} {st : S} {σ : L2.St} {c : Cf} (r : Rel G st σ c) {a : Addr} (h : a ∈ c.fs ∨ a ∈ c.fc) : c.H a ≠ none :=
  h.elim (fun h => r.slots.there a h) fun h => r.cells.there a h
theorem Go.refl {G : Gi} {st : S} {σ : L2.St} {c : Cf} : Go c c :=
  ⟨Mo.refl _ _, fun _ _ _ _ => rfl, fun a h => h.elim .inl fun h => .inr (.inl h), fun a h => .inl h⟩
theorem Go.rfl' {c : Cf} : Go c c := ⟨Mo.refl _ _, fun _ _ _ _ => rfl, fun a h => h.elim .inl fun h => .inr (.inl h), fun a h => .inl h⟩
theorem Go.keep {c c' : Cf} (g : Go c c') {a : Addr} (h : c.H a ≠ none) (h1 : a ∉ c.fs) (h2 : a ∉ c.fc) : c'.H a = c.H a ∧ a ∉ c'.fs ∧ a ∉ c'.fc :=
  ⟨g.fr a h h1 h2, fun z => (g.fp a (.inl z)).elim h1 fun z => z.elim h2 h, fun z => (g.fp a (.inr z)).elim h1 fun z => z.elim h2 h⟩
theorem Go.trans {c c1 c2 : Cf} (g : Go c c1) (k : Go c1 c2) : Go c c2 where
  mo := g.mo.trans k.mo
  fr := fun a h h1 h2 => by
    obtain ⟨e, n1, n2⟩ := g.keep h h1 h2
    rw [← e] at h
    exact (k.fr a h n1 n2).trans e
  fp := fun a h => by
    rcases k.fp a h with z | z | z
    · exact g.fp a (.inl z)
    · exact g.fp a (.inr z)
    · by_cases h1 : a ∈ c.fs
      · exact .inl h1
      · by_cases h2 : a ∈ c.fc
        · exact .inr (.inl h2)
        · refine .inr (.inr ?_)
          cases e : c.H a with
          | none => rfl
          | some o => rw [g.fr a (by rw [e]; exact Option.some_ne_none _) h1 h2, e] at z; cases z
  nF := fun a h => by
    rcases k.nF a h with z | z | z | z
    · exact g.nF a z
    · rcases g.fp a (.inl z) with y | y | y
      · exact .inr (.inl y)
      · exact .inr (.inr (.inl y))
      · exact .inr (.inr (.inr (.inl y)))
    · rcases g.fp a (.inr z) with y | y | y
      · exact .inr (.inl y)
      · exact .inr (.inr (.inl y))
      · exact .inr (.inr (.inr (.inl y)))
    · by_cases h1 : a ∈ c.fs
      · exact .inr (.inl h1)
      · by_cases h2 : a ∈ c.fc
        · exact .inr (.inr (.inl h2))
        · refine .inr (.inr (.inr ?_))
          cases e : c.H a with
          | none => exact .inl rfl
          | some o => rw [g.fr a (by rw [e]; exact Option.some_ne_none _) h1 h2, e] at z; exact z
/-- objects that nothing else owns -/
structure Fresh (fp : List Addr) (c : Cf) : Prop where
  nd : fp.Nodup
  nf : ∀ a ∈ fp, c.F a = none
  ns : ∀ a ∈ fp, a ∉ c.fs
  nc : ∀ a ∈ fp, a ∉ c.fc
def New (fp : List Addr) (c : Cf) : Prop := ∀ a ∈ fp, a ∈ c.fs ∨ a ∈ c.fc ∨ c.H a = none
theorem Fresh.go {fp : List Addr} {c c' : Cf} (f : Fresh fp c) (h' : ∀ a ∈ fp, ¬ NT (c.H a)) (g : Go c c') : Fresh fp c' ∧ ∀ a ∈ fp, c'.H a = c.H a := by
  have h : ∀ a ∈ fp, c.H a ≠ none := fun a ha z => h' a ha (.inl z)
  refine ⟨⟨f.nd, fun a ha => ?_, fun a ha => (g.keep (h a ha) (f.ns a ha) (f.nc a ha)).2.1, fun a ha => (g.keep (h a ha) (f.ns a ha) (f.nc a ha)).2.2⟩,
    fun a ha => g.fr a (h a ha) (f.ns a ha) (f.nc a ha)⟩
  cases e : c'.F a with
  | none => rfl
  | some o =>
    rcases g.nF a (by rw [e]; exact Option.some_ne_none _) with z | z | z | z
    · exact absurd (f.nf a ha) z
    · exact absurd z (f.ns a ha)
    · exact absurd z (f.nc a ha)
    · exact absurd z (h' a ha)
theorem OwnT.go {G : Gi} {c c' : Cf} {o : O} {v : V} {fp : List Addr} (t : OwnT G c.F c.al c.H o v fp) (f : Fresh fp c) (g : Go c c') :
    OwnT G c'.F c'.al c'.H o v fp ∧ Fresh fp c' := by
  obtain ⟨f2, e⟩ := f.go t.noNT g
  exact ⟨t.mo g.mo e, f2⟩
theorem New.go {fp : List Addr} {c c1 : Cf} (n : New fp c1) (g : Go c c1) : New fp c := fun a ha => by
  rcases n a ha with z | z | z
  · exact g.fp a (.inl z)
  · exact g.fp a (.inr z)
  · by_cases h1 : a ∈ c.fs
    · exact .inl h1
    · by_cases h2 : a ∈ c.fc
      · exact .inr (.inl h2)
      · refine .inr (.inr ?_)
        cases e : c.H a with
        | none => rfl
        | some o => rw [g.fr a (by rw [e]; exact Option.some_ne_none _) h1 h2, e] at z; cases z
theorem New.nil (c : Cf) : New [] c := fun _ h => nomatch h
theorem Fresh.nil (c : Cf) : Fresh [] c := ⟨.nil, (fun _ h => nomatch h), (fun _ h => nomatch h), (fun _ h => nomatch h)⟩
/-! ### freezing -/
def frzF (c : Cf) (fp : List Addr) : Hp := fun a => if a ∈ fp then c.H a else c.F a
def Cf.frz (c : Cf) (fp : List Addr) : Cf := { c with F := frzF c fp }
theorem frz_sub {G : Gi} {st : S} {σ : L2.St} {c : Cf} {fp : List Addr} (r : Rel G st σ c) : ∀ a o, c.F a = some o → frzF c fp a = some o := fun a o e => by
  unfold frzF
  split
  · exact r.sub a o e
  · exact e
theorem Rel.freeze {G : Gi} {st : S} {σ : L2.St} {c : Cf} {fp : List Addr} (r : Rel G st σ c) (f : Fresh fp c) : Rel G st σ (c.frz fp) := by
  have mo : Mo c.F (frzF c fp) c.al c.al := .of (frz_sub r) fun _ _ h => h
  refine ⟨fun a o e => ?_, fun a h => ?_, r.nds, r.ndc, r.dis, r.slots.mo mo fun _ _ => rfl, r.cells.mo mo fun _ _ => rfl⟩
  · have e : frzF c fp a = some o := e
    unfold frzF at e
    split at e
    · exact e
    · exact r.sub a o e
  · show frzF c fp a = none
    unfold frzF
    rw [if_neg (fun z => h.elim (f.ns a z) (f.nc a z))]
    exact r.own a h
theorem Go.freeze {c0 c : Cf} {fp : List Addr} (g : Go c0 c) (n : New fp c0) (s : ∀ a o, c.F a = some o → frzF c fp a = some o) : Go c0 (c.frz fp) where
  mo := g.mo.trans (.of s fun _ _ h => h)
  fr := g.fr
  fp := g.fp
  nF := fun a h => by
    have h : frzF c fp a ≠ none := h
    unfold frzF at h
    split at h
    · rename_i ha
      rcases n a ha with z | z | z
      · exact .inr (.inl z)
      · exact .inr (.inr (.inl z))
      · exact .inr (.inr (.inr (.inl z)))
    · exact g.nF a h
theorem OwnT.frz {G : Gi} {st : S} {σ : L2.St} {c : Cf} {o : O} {v : V} {fp : List Addr} (t : OwnT G c.F c.al c.H o v fp) (r : Rel G st σ c) :
    Rp G (c.frz fp).F (c.frz fp).al v o.toD := t.freeze (frz_sub r) fun a ha => by
  show frzF c fp a = _
  unfold frzF
  rw [if_pos ha]
/-- what an expression may do: the slots' own objects stay as they are -/
structure GoE (c c' : Cf) : Prop extends Go c c' where
  hs : ∀ a ∈ c.fs, c.H a ≠ none → c'.H a = c.H a
  sf : ∀ a ∈ c'.fs, a ∈ c.fs
  cf : ∀ a ∈ c'.fc, a ∈ c.fs → c.H a = none
theorem GoE.refl {G : Gi} {st : S} {σ : L2.St} {c : Cf} (r : Rel G st σ c) : GoE c c :=
  { Go.rfl' with hs := fun _ _ _ => rfl, sf := fun _ h => h, cf := fun a h k => absurd h (r.dis a k) }
theorem GoE.trans {c c1 c2 : Cf} (g : GoE c c1) (k : GoE c1 c2) : GoE c c2 :=
  { g.toGo.trans k.toGo with
    hs := fun a h n => by
      have e := g.hs a h n
      have n1 : c1.H a ≠ none := by rw [e]; exact n
      by_cases h1 : a ∈ c1.fs
      · exact (k.hs a h1 n1).trans e
      · exact (k.fr a n1 h1 (fun z => n (g.cf a z h))).trans e
    sf := fun a h => g.sf a (k.sf a h)
    cf := fun a h q => by
      cases e : c.H a with
      | none => rfl
      | some o =>
        have n : c.H a ≠ none := by rw [e]; exact Option.some_ne_none _
        have e1 := g.hs a q n
        rcases k.fp a (.inr h) with z | z | z
        · have := k.cf a h z; rw [e1, e] at this; cases this
        · have := g.cf a z q; rw [e] at this; cases this
        · rw [e1, e] at z; cases z }
/-- kept by every expression -/
def Keep (fp : List Addr) (c : Cf) : Prop := ∀ a ∈ fp, a ∉ c.fc
theorem Fresh.keep {fp : List Addr} {c : Cf} (f : Fresh fp c) : Keep fp c := f.nc
theorem Keep.go {G : Gi} {c c' : Cf} {o : O} {v : V} {fp : List Addr} (t : OwnT G c.F c.al c.H o v fp) (k : Keep fp c) (g : GoE c c') : OwnT G c'.F c'.al c'.H o v fp :=
  t.mo g.mo fun a ha => by
    have n := t.there a ha
    by_cases h : a ∈ c.fs
    · exact g.hs a h n
    · exact g.fr a n h (k a ha)
/-- a new object, owned by nothing yet -/
def Cf.new (c : Cf) (p : Addr) (o : HO) : Cf := { c with H := upd c.H p o }
theorem Rel.new {G : Gi} {st : S} {σ : L2.St} {c : Cf} {p : Addr} {o : HO} (r : Rel G st σ c) (h : c.H p = none) : Rel G st σ (c.new p o) := by
  have ne : ∀ a, c.H a ≠ none → upd c.H p o a = c.H a := fun a n => upd_ne (fun e => n (by rw [e]; exact h))
  refine ⟨fun a u e => ?_, r.own, r.nds, r.ndc, r.dis, r.slots.mo (Mo.refl _ _) fun a ha => ne a (r.there (.inl ha)), r.cells.mo (Mo.refl _ _) fun a ha => ne a (r.there (.inr ha))⟩
  have e2 := r.sub a u e
  rw [show (c.new p o).H a = upd c.H p o a from rfl, ne a (by rw [e2]; exact Option.some_ne_none _)]
  exact e2
theorem GoE.new {G : Gi} {st : S} {σ : L2.St} {c : Cf} {p : Addr} {o : HO} (r : Rel G st σ c) (h : c.H p = none) : GoE c (c.new p o) where
  mo := Mo.refl _ _
  fr := fun a n _ _ => upd_ne (fun e => n (by rw [e]; exact h))
  fp := fun a h => h.elim .inl fun h => .inr (.inl h)
  nF := fun a h => .inl h
  hs := fun a _ n => upd_ne (fun e => n (by rw [e]; exact h))
  sf := fun _ h => h
  cf := fun a h k => absurd h (r.dis a k)
theorem Fresh.new {G : Gi} {st : S} {σ : L2.St} {c : Cf} {p : Addr} {o : HO} (r : Rel G st σ c) (h : c.H p = none) : Fresh [p] (c.new p o) := by
  refine ⟨by simp, fun a ha => ?_, fun a ha => ?_, fun a ha => ?_⟩ <;> rw [List.mem_singleton.mp ha]
  · cases e : c.F p with
    | none => exact e
    | some u => have := r.sub p u e; rw [h] at this; cases this
  · exact fun z => r.there (.inl z) h
  · exact fun z => r.there (.inr z) h
theorem New.new {c : Cf} {p : Addr} (h : c.H p = none) : New [p] c := fun a ha => by
  rw [List.mem_singleton.mp ha]; exact .inr (.inr h)
theorem GoE.freeze {G : Gi} {st : S} {σ : L2.St} {c0 c : Cf} {fp : List Addr} (g : GoE c0 c) (n : New fp c0) (r : Rel G st σ c) : GoE c0 (c.frz fp) :=
  { g.toGo.freeze n (frz_sub r) with hs := g.hs, sf := g.sf, cf := g.cf }
/-- the lengths that the heap bears -/
theorem Rel.rdT {G : Gi} {st : S} {σ : L2.St} {c : Cf} {K : PySem.W.Frag} {a : Addr} {xs : List V} (r : Rel G st σ c) (h : SqT K c.F a xs) : SqT K c.H a xs := sqT_mo r.sub h
theorem Rel.rdL {G : Gi} {st : S} {σ : L2.St} {c : Cf} {K : PySem.W.Frag} {a : Addr} {xs : List V} (r : Rel G st σ c) (h : SqL K c.F a xs) : SqL K c.H a xs := sqL_mo r.sub h
end L2.Tr
namespace L2.Tr
open PySem PySem.Spec PyProof.Rows L2 L2.Pc
/-! ### what code gives, over trees -/
structure Exc where
  cls : Str
  fs : List (Str × D)
inductive R (α : Type) where
  | ok (a : α) (s : S) | exc (x : Exc) (s : S) | no
abbrev M (α : Type) := S → R α
section
variable {α β : Type}
def R.bind (r : R α) (f : α → M β) : R β := match r with
  | .ok a s => f a s
  | .exc x s => .exc x s
  | .no => .no
def bnd (m : M α) (f : α → M β) : M β := fun s => (m s).bind f
def ret (a : α) : M α := fun s => .ok a s
def ofO (o : Option α) : M α := fun s => match o with
  | some a => .ok a s
  | none => .no
@[simp] theorem R.bind_ok (a : α) (s : S) (f : α → M β) : (R.ok a s).bind f = f a s := rfl
@[simp] theorem R.bind_exc (x : Exc) (s : S) (f : α → M β) : (R.exc x s : R α).bind f = .exc x s := rfl
@[simp] theorem R.bind_no (f : α → M β) : (R.no : R α).bind f = .no := rfl
@[simp] theorem bnd_app (m : M α) (f : α → M β) (s : S) : bnd m f s = (m s).bind f := rfl
@[simp] theorem ret_app (a : α) (s : S) : ret a s = .ok a s := rfl
@[simp] theorem ofO_some (a : α) (s : S) : ofO (some a) s = .ok a s := rfl
@[simp] theorem ofO_none (s : S) : ofO (none : Option α) s = .no := rfl
def wp (r : R α) (Q : α → S → Prop) (E : Exc → S → Prop) : Prop := match r with
  | .ok a s => Q a s
  | .exc x s => E x s
  | .no => False
theorem wp_mono {r : R α} {Q Q' : α → S → Prop} {E E' : Exc → S → Prop} (h : wp r Q E) (q : ∀ a s, Q a s → Q' a s) (e : ∀ x s, E x s → E' x s) : wp r Q' E' := by
  cases r with
  | ok a s => exact q a s h
  | exc x s => exact e x s h
  | no => exact h
theorem wp_bind {r : R α} {f : α → M β} {Q : β → S → Prop} {E : Exc → S → Prop} : wp (r.bind f) Q E ↔ wp r (fun a s => wp (f a s) Q E) E := by
  cases r <;> exact Iff.rfl
theorem wp_ofO {o : Option α} {s : S} {Q : α → S → Prop} {E : Exc → S → Prop} : wp (ofO o s) Q E ↔ ∃ a, o = some a ∧ Q a s := by
  cases o with
  | none => exact ⟨fun h => h.elim, fun ⟨_, h, _⟩ => by cases h⟩
  | some a => exact ⟨fun h => ⟨a, rfl, h⟩, fun ⟨_, h, q⟩ => by cases h; exact q⟩
end
/-! ### what they mean for the heap -/
def XRp (G : Gi) (c : Cf) (x : Exc) (v : Value) (d : Option Addr) : Prop := ∃ C, v = .ref C ∧ G.mg x.cls = some (.ref C) ∧
  ((x.fs = [] ∧ d = none) ∨ ∃ dx vs, d = some dx ∧ c.F dx = some (.xd vs) ∧ x.fs.map (·.1) = vs.map (·.1) ∧ RpA G c.F c.al (vs.map (·.2)) (x.fs.map (·.2)))
def xw (G : Gi) (W : WX) (σ : L2.St) (c : Cf) : Exc → S → Prop := fun x st' => ∀ v d c', Rel G st' σ c' → GoE c c' → XRp G c' x v d → W v d σ c'.H
theorem xw.go {G : Gi} {W : WX} {σ : L2.St} {c c1 : Cf} (g : GoE c c1) {x : Exc} {s : S} (h : xw G W σ c x s) : xw G W σ c1 x s :=
  fun v d c' r k q => h v d c' r (g.trans k) q
section
variable (G : Gi) (W : WX)
/-- what a reading asks: the state as trees, and that the code goes well there -/
def tG {α β : Type} (Pr : α → Cf → Cf → β → Prop) (m : M α) : L2.St → Hp → (β → Hp → Prop) → Prop := fun σ H Q =>
  ∃ c st, c.H = H ∧ Rel G st σ c ∧ wp (m st) (fun a st' => ∀ v c', Rel G st' σ c' → GoE c c' → Pr a c c' v → Q v c'.H) (xw G W σ c)
/-- a value of which what is owned is its own alone -/
def PrO : O → Cf → Cf → V → Prop := fun o c c' v => ∃ fp, OwnT G c'.F c'.al c'.H o v fp ∧ Fresh fp c' ∧ New fp c
/-- a value that expressions leave as it is -/
def PrB : O → Cf → Cf → V → Prop := fun o _ c' v => ∃ fp, OwnT G c'.F c'.al c'.H o v fp ∧ Keep fp c'
/-- a value as it is just now -/
def PrL : O → Cf → Cf → V → Prop := fun o _ c' v => ∃ fp, OwnT G c'.F c'.al c'.H o v fp
def PrD : D → Cf → Cf → V → Prop := fun d _ c' v => Rp G c'.F c'.al v d
def PrA : List D → Cf → Cf → List V → Prop := fun ds _ c' vs => RpA G c'.F c'.al vs ds
def PrT : Bool → Cf → Cf → Bool → Prop := fun b _ _ v => v = b
abbrev tO (m : M O) : TE := tG G W (PrO G) m
abbrev tBr (m : M O) : TE := tG G W (PrB G) m
abbrev tLa (m : M O) : TE := tG G W (PrL G) m
abbrev tD (m : M D) : TE := tG G W (PrD G) m
abbrev tAs (m : M (List D)) : TA := tG G W (PrA G) m
abbrev tTs (m : M Bool) : TT := tG G W PrT m
end
theorem _root_.L2.PE.weak {X : Cx} {e : Expr} {t t' : TE} (h : PE X e t) (k : ∀ σ H Q, t' σ H Q → t σ H Q) : PE X e t' := ⟨fun pins s σ H Q I q => h.run pins s σ H Q I (k _ _ _ q)⟩
theorem _root_.L2.PT.weak {X : Cx} {e : Expr} {t t' : TT} (h : PT X e t) (k : ∀ σ H Q, t' σ H Q → t σ H Q) : PT X e t' := ⟨fun pins s σ H Q I q => h.run pins s σ H Q I (k _ _ _ q)⟩
theorem _root_.L2.PW.weak {X : Cx} {e : Expr} {t t' : TT} (h : PW X e t) (k : ∀ σ H Q, t' σ H Q → t σ H Q) : PW X e t' := ⟨fun wh pins s σ H Q I q => h.run wh pins s σ H Q I (k _ _ _ q)⟩
theorem _root_.L2.PA.weak {X : Cx} {e : List Expr} {t t' : TA} (h : PA X e t) (k : ∀ σ H Q, t' σ H Q → t σ H Q) : PA X e t' := ⟨fun p pins s σ H Q I q => h.run p pins s σ H Q I (k _ _ _ q)⟩
theorem _root_.L2.PK.weak {X : Cx} {e : List Keyword} {t t' : TA} (h : PK X e t) (k : ∀ σ H Q, t' σ H Q → t σ H Q) : PK X e t' := ⟨fun p pins s σ H Q I q => h.run p pins s σ H Q I (k _ _ _ q)⟩
section
variable {G : Gi} {W : WX} {α β γ δ : Type} {Pr : α → Cf → Cf → β → Prop} {Pr' : γ → Cf → Cf → δ → Prop}
/-- first m, then what follows in the state behind it -/
theorem tG.seq0 {m : M α} {f : α → M γ} {σ : L2.St} {H : Hp} {Q : δ → Hp → Prop} (h : tG G W Pr' (bnd m f) σ H Q) (R : β → Hp → Prop)
    (k : ∀ a v c c1 st1, Rel G st1 σ c1 → GoE c c1 → Pr a c c1 v →
      wp (f a st1) (fun x st' => ∀ u c', Rel G st' σ c' → GoE c c' → Pr' x c c' u → Q u c'.H) (xw G W σ c) → R v c1.H) : tG G W Pr m σ H R := by
  obtain ⟨c, st, e, r, h⟩ := h
  exact ⟨c, st, e, r, wp_mono (wp_bind.mp h) (fun a st1 q v c1 r1 g p => k a v c c1 st1 r1 g p q) (fun x s q => q)⟩
/-- what is told of a value holds from an earlier start, too -/
def Bk (Pr : α → Cf → Cf → β → Prop) : Prop := ∀ x c c1 c' u, GoE c c1 → Pr x c1 c' u → Pr x c c' u
theorem tG.seq (hb : Bk Pr') {m : M α} {f : α → M γ} {σ : L2.St} {H : Hp} {Q : δ → Hp → Prop} (h : tG G W Pr' (bnd m f) σ H Q) (R : β → Hp → Prop)
    (k : ∀ a v c c1 st1, Rel G st1 σ c1 → GoE c c1 → Pr a c c1 v →
      wp (f a st1) (fun x st' => ∀ u c', Rel G st' σ c' → GoE c1 c' → Pr' x c1 c' u → Q u c'.H) (xw G W σ c1) → R v c1.H) : tG G W Pr m σ H R :=
  h.seq0 R fun a v c c1 st1 r1 g p w => k a v c c1 st1 r1 g p
    (wp_mono w (fun x st' q u c' r' g' p' => q u c' r' (g.trans g') (hb _ _ _ _ _ g p')) (fun x s q => q.go g))
theorem tG.seq1 (hb : Bk Pr') {m : M α} {f : α → M γ} {σ : L2.St} {c1 : Cf} {st1 : S} {Q : δ → Hp → Prop} (r1 : Rel G st1 σ c1)
    (w : wp (bnd m f st1) (fun x st' => ∀ u c', Rel G st' σ c' → GoE c1 c' → Pr' x c1 c' u → Q u c'.H) (xw G W σ c1)) (R : β → Hp → Prop)
    (k : ∀ a v c2 st2, Rel G st2 σ c2 → GoE c1 c2 → Pr a c1 c2 v →
      wp (f a st2) (fun x st' => ∀ u c', Rel G st' σ c' → GoE c2 c' → Pr' x c2 c' u → Q u c'.H) (xw G W σ c2) → R v c2.H) : tG G W Pr m σ c1.H R :=
  ⟨c1, st1, rfl, r1, wp_mono (wp_bind.mp w) (fun a st2 q v c2 r2 g p => k a v c2 st2 r2 g p
    (wp_mono q (fun x st' q u c' r' g' p' => q u c' r' (g.trans g') (hb _ _ _ _ _ g p')) (fun x s q => q.go g))) (fun x s q => q)⟩
/-- a further reading from within -/
theorem tG.at {m : M α} {σ : L2.St} {c : Cf} {st : S} {Q : β → Hp → Prop} (r : Rel G st σ c)
    (h : wp (m st) (fun a st' => ∀ v c', Rel G st' σ c' → GoE c c' → Pr a c c' v → Q v c'.H) (xw G W σ c)) : tG G W Pr m σ c.H Q := ⟨c, st, rfl, r, h⟩
theorem bkO : Bk (PrO G) := fun o c c1 c' v g ⟨fp, t, f, n⟩ => ⟨fp, t, f, n.go g.toGo⟩
theorem bkA : Bk (PrA G) := fun _ _ _ _ _ _ h => h
theorem bkT : Bk PrT := fun _ _ _ _ _ _ h => h
theorem PrO.new {c c1 c' : Cf} {o : O} {v : V} (g : GoE c c1) (h : PrO G o c1 c' v) : PrO G o c c' v := by
  obtain ⟨fp, t, f, n⟩ := h
  exact ⟨fp, t, f, n.go g.toGo⟩
end
section
variable {X : Cx} {G : Gi} {W : WX} {e a b : Expr} {m ma mb : M O}
/-! ### frozen, borrowed -/
def frz (m : M O) : M D := bnd m fun o => ret o.toD
def fzd (m : M D) : M O := bnd m fun d => ret (.fz d)
@[simp] theorem frz_app (m : M O) (s : S) : frz m s = (m s).bind fun o => ret o.toD := rfl
@[simp] theorem fzd_app (m : M D) (s : S) : fzd m s = (m s).bind fun d => ret (.fz d) := rfl
theorem x_frz (h : PE X e (tO G W m)) : PE X e (tD G W (frz m)) := h.weak fun σ H Q q => by
  refine q.seq0 Q (fun o v c c1 st1 r1 g p w => ?_)
  obtain ⟨fp, t, f, n⟩ := p
  exact w v (c1.frz fp) (r1.freeze f) (g.freeze n r1) (t.frz r1)
theorem x_bor (h : PE X e (tO G W m)) : PE X e (tBr G W m) := h.weak fun σ H Q q => by
  obtain ⟨c, st, e, r, h⟩ := q
  exact ⟨c, st, e, r, wp_mono h (fun a st1 q v c1 r1 g ⟨fp, t, f, n⟩ => q v c1 r1 g ⟨fp, t, f.keep⟩) (fun x s q => q)⟩
theorem x_las (h : PE X e (tBr G W m)) : PE X e (tLa G W m) := h.weak fun σ H Q q => by
  obtain ⟨c, st, e, r, h⟩ := q
  exact ⟨c, st, e, r, wp_mono h (fun a st1 q v c1 r1 g ⟨fp, t, _⟩ => q v c1 r1 g ⟨fp, t⟩) (fun x s q => q)⟩
/-! ### names and constants -/
def getS : List (Option O) → Nat → Option O
  | [], _ => none
  | x :: _, 0 => x
  | _ :: l, n + 1 => getS l n
def setS : List (Option O) → Nat → Option O → List (Option O)
  | [], _, _ => []
  | _ :: l, 0, o => o :: l
  | x :: l, n + 1, o => x :: setS l n o
def isFz : O → Bool
  | .fz _ => true
  | _ => false
/-- a name's value; an owned one is frozen from here on -/
def xVar (i : Nat) : M O := fun s => match getS s.env i with
  | some o => .ok (.fz o.toD) ⟨if isFz o then s.env else setS s.env i (some (.fz o.toD)), s.mu⟩
  | none => .no
/-- .. read in passing -/
def xBor (i : Nat) : M O := fun s => match getS s.env i with
  | some o => .ok o s
  | none => .no
/-- .. taken out of its slot -/
def xMov (i : Nat) : M O := fun s => match getS s.env i with
  | some o => .ok o ⟨if isFz o then s.env else setS s.env i none, s.mu⟩
  | none => .no
def xC (d : D) : M O := ret (.fz d)
@[simp] theorem xC_app (d : D) (s : S) : xC d s = .ok (.fz d) s := rfl
theorem slots_get {F H : Hp} {al : List Addr} : ∀ {env : List (Option O)} {σ : L2.St} {fp : List Addr} {i : Nat} {o : O}, Slots G F al H env σ fp → getS env i = some o →
    ∃ v f1 f2 f3, σ[i]? = some (some v) ∧ OwnT G F al H o v f2 ∧ fp = f1 ++ (f2 ++ f3)
  | _, _, _, i, o, .nil, e => by cases i <;> cases e
  | _, _, _, 0, o, .un h, e => by cases e
  | _, _, _, i + 1, o, .un h, e => by
    obtain ⟨v, f1, f2, f3, q1, q2, q3⟩ := slots_get (i := i) h e
    exact ⟨v, f1, f2, f3, by simpa using q1, q2, q3⟩
  | _, _, _, 0, o, .so (fp := fp) (fq := fq) h hs, e => by cases e; exact ⟨_, [], fp, fq, rfl, h, rfl⟩
  | _, _, _, i + 1, o, .so (fp := fp) h hs, e => by
    obtain ⟨v, f1, f2, f3, q1, q2, q3⟩ := slots_get (i := i) hs e
    exact ⟨v, fp ++ f1, f2, f3, by simpa using q1, q2, by rw [q3, List.append_assoc]⟩
/-- a slot exchanged -/
theorem slots_set {F H : Hp} {al : List Addr} : ∀ {env : List (Option O)} {σ : L2.St} {fp : List Addr} {i : Nat} {o : O}, Slots G F al H env σ fp → getS env i = some o →
    ∃ v f1 f2 f3, σ[i]? = some (some v) ∧ OwnT G F al H o v f2 ∧ fp = f1 ++ (f2 ++ f3) ∧ ∀ (F' H' : Hp) (al' : List Addr), Mo F F' al al' → (∀ a ∈ f1 ++ f3, H' a = H a) →
      (∀ o' f', OwnT G F' al' H' o' v f' → Slots G F' al' H' (setS env i (some o')) σ (f1 ++ (f' ++ f3))) ∧ Slots G F' al' H' (setS env i none) σ (f1 ++ f3)
  | _, _, _, i, o, .nil, e => by cases i <;> cases e
  | _, _, _, 0, o, .un h, e => by cases e
  | _, _, _, i + 1, o, .un h, e => by
    obtain ⟨v, f1, f2, f3, q1, q2, q3, q4⟩ := slots_set (i := i) h e
    exact ⟨v, f1, f2, f3, by simpa using q1, q2, q3, fun F' H' al' m k => ⟨fun o' f' t => .un ((q4 F' H' al' m k).1 o' f' t), .un (q4 F' H' al' m k).2⟩⟩
  | _, _, _, 0, o, .so (fp := fp) (fq := fq) h hs, e => by
    cases e
    exact ⟨_, [], fp, fq, rfl, h, rfl, fun F' H' al' m k => ⟨fun o' f' t => .so (fp := f') t (hs.mo m k), .un (hs.mo m k)⟩⟩
  | _, _, _, i + 1, o, .so (fp := fp) h hs, e => by
    obtain ⟨v, f1, f2, f3, q1, q2, q3, q4⟩ := slots_set (i := i) hs e
    refine ⟨v, fp ++ f1, f2, f3, by simpa using q1, q2, by rw [q3, List.append_assoc], fun F' H' al' m k => ?_⟩
    have k1 : ∀ a ∈ fp, H' a = H a := fun a ha => k a (List.mem_append_left _ (List.mem_append_left _ ha))
    have k2 : ∀ a ∈ f1 ++ f3, H' a = H a := fun a ha => k a (by
      rw [List.append_assoc]; exact List.mem_append_right _ ha)
    refine ⟨fun o' f' t => ?_, ?_⟩
    · rw [List.append_assoc]; exact .so (h.mo m k1) ((q4 F' H' al' m k2).1 o' f' t)
    · rw [List.append_assoc]; exact .so (h.mo m k1) (q4 F' H' al' m k2).2
/-- a slot stored to -/
theorem slots_put {F H : Hp} {al : List Addr} : ∀ {env : List (Option O)} {σ : L2.St} {fp : List Addr} (i : Nat), Slots G F al H env σ fp →
    ∃ f1 f2 f3, fp = f1 ++ (f2 ++ f3) ∧ (env.length ≤ i → f2 = []) ∧ ∀ (F' H' : Hp) (al' : List Addr), Mo F F' al al' → (∀ a ∈ f1 ++ f3, H' a = H a) →
      (i < env.length → ∀ o' v' f', OwnT G F' al' H' o' v' f' → Slots G F' al' H' (setS env i (some o')) (σ.set i (some v')) (f1 ++ (f' ++ f3))) ∧
      ∀ x, Slots G F' al' H' (setS env i none) (σ.set i x) (f1 ++ f3)
  | _, _, _, i, .nil => ⟨[], [], [], rfl, fun _ => rfl, fun F' H' al' m k => ⟨fun h => absurd h (Nat.not_lt_zero _), fun x => by cases i <;> exact .nil⟩⟩
  | _, _, _, 0, .un (fp := fp) h => ⟨[], [], fp, rfl, fun _ => rfl, fun F' H' al' m k => ⟨fun _ o' v' f' t => .so (fp := f') t (h.mo m k), fun x => .un (h.mo m k)⟩⟩
  | _, _, _, i + 1, .un h => by
    obtain ⟨f1, f2, f3, q3, q5, q4⟩ := slots_put i h
    exact ⟨f1, f2, f3, q3, fun z => q5 (by simpa using z), fun F' H' al' m k => ⟨fun z o' v' f' t => .un ((q4 F' H' al' m k).1 (by simpa using z) o' v' f' t), fun x => .un ((q4 F' H' al' m k).2 x)⟩⟩
  | _, _, _, 0, .so (fp := fp) (fq := fq) h hs => ⟨[], fp, fq, rfl, fun z => absurd z (by simp), fun F' H' al' m k => ⟨fun _ o' v' f' t => .so (fp := f') t (hs.mo m k), fun x => .un (hs.mo m k)⟩⟩
  | _, _, _, i + 1, .so (fp := fp) h hs => by
    obtain ⟨f1, f2, f3, q3, q5, q4⟩ := slots_put i hs
    refine ⟨fp ++ f1, f2, f3, by rw [q3, List.append_assoc], fun z => q5 (by simpa using z), fun F' H' al' m k => ?_⟩
    have k1 : ∀ a ∈ fp, H' a = H a := fun a ha => k a (List.mem_append_left _ (List.mem_append_left _ ha))
    have k2 : ∀ a ∈ f1 ++ f3, H' a = H a := fun a ha => k a (by
      rw [List.append_assoc]; exact List.mem_append_right _ ha)
    refine ⟨fun z o' v' f' t => ?_, fun x => ?_⟩
    · rw [List.append_assoc]; exact .so (h.mo m k1) ((q4 F' H' al' m k2).1 (by simpa using z) o' v' f' t)
    · rw [List.append_assoc]; exact .so (h.mo m k1) ((q4 F' H' al' m k2).2 x)
theorem mem_ends {f1 f2 f3 : List Addr} {a : Addr} (h : a ∈ f1 ++ f3) : a ∈ f1 ++ (f2 ++ f3) := by
  rcases List.mem_append.mp h with k | k
  · exact List.mem_append_left _ k
  · exact List.mem_append_right _ (List.mem_append_right _ k)
theorem mem_mid {f1 f2 f3 : List Addr} {a : Addr} (h : a ∈ f2) : a ∈ f1 ++ (f2 ++ f3) := List.mem_append_right _ (List.mem_append_left _ h)
theorem nd_ends {f1 f2 f3 : List Addr} (h : (f1 ++ (f2 ++ f3)).Nodup) : (f1 ++ f3).Nodup ∧ f2.Nodup ∧ ∀ a ∈ f2, a ∉ f1 ++ f3 := by
  have h1 := List.nodup_append.mp h
  have h2 := List.nodup_append.mp h1.2.1
  refine ⟨h.sublist (List.Sublist.append_left (List.sublist_append_right _ _) _), h2.1, fun a ha hk => ?_⟩
  rcases List.mem_append.mp hk with k | k
  · exact h1.2.2 a k a (List.mem_append_left _ ha) rfl
  · exact h2.2.2 a ha a k rfl
/-- the slot at i given up: what it owned is owned by nothing -/
theorem rel_out {st : S} {σ : L2.St} {c : Cf} {i : Nat} {o : O} (r : Rel G st σ c) (e : getS st.env i = some o) : ∃ v f2 fs', σ[i]? = some (some v) ∧ OwnT G c.F c.al c.H o v f2 ∧
    Rel G ⟨setS st.env i none, st.mu⟩ σ { c with fs := fs' } ∧ Fresh f2 { c with fs := fs' } ∧ GoE c { c with fs := fs' } ∧ (∀ a ∈ f2, a ∈ c.fs) ∧
    ∀ F' H' al', Mo c.F F' c.al al' → (∀ a ∈ fs', H' a = c.H a) → ∀ o', OwnT G F' al' H' o' v [] → Slots G F' al' H' (setS st.env i (some o')) σ fs' := by
  obtain ⟨v, f1, f2, f3, q1, q2, q3, q4⟩ := slots_set r.slots e
  have nd := r.nds
  rw [q3] at nd
  obtain ⟨n1, n2, n3⟩ := nd_ends nd
  have sub : ∀ a, a ∈ f1 ++ f3 → a ∈ c.fs := fun a h => by rw [q3]; exact mem_ends h
  have sub2 : ∀ a, a ∈ f2 → a ∈ c.fs := fun a h => by rw [q3]; exact mem_mid h
  refine ⟨v, f2, f1 ++ f3, q1, q2, ⟨r.sub, fun a h => r.own a (h.elim (fun h => .inl (sub a h)) .inr), n1, r.ndc, fun a h => r.dis a (sub a h), (q4 c.F c.H c.al (Mo.refl _ _) fun _ _ => rfl).2, r.cells⟩,
    ⟨n2, fun a h => r.own a (.inl (sub2 a h)), n3, fun a h => r.dis a (sub2 a h)⟩,
    { mo := Mo.refl _ _, fr := fun _ _ _ _ => rfl, fp := fun a h => h.elim (fun h => .inl (sub a h)) (fun h => .inr (.inl h)), nF := fun a h => .inl h,
      hs := fun _ _ _ => rfl, sf := sub, cf := fun a h k => absurd h (r.dis a k) }, sub2, fun F' H' al' m k o' t => (q4 F' H' al' m k).1 o' [] t⟩
theorem own_fz {F H : Hp} {al : List Addr} {o : O} {v : V} {fp : List Addr} (h : OwnT G F al H o v fp) (z : isFz o = true) : fp = [] ∧ Rp G F al v o.toD := by
  cases h with
  | fz h => exact ⟨rfl, by rw [O.toD]; exact h⟩
  | _ => cases z
theorem x_var {i : Nat} {x : Str} {pos : Pos} (hN : X.N[i]? = some x) (hv : Vis X.env.scope x) (hd : (x == ("__debug__" : Str)) = false := by decide) (hcd : (x == ("__classdict__" : Str)) = false := by decide) :
    PE X (.Name x pos) (tO G W (xVar i)) := (pe_var hN hv hd hcd).weak fun σ H Q q => by
  obtain ⟨c, st, rfl, r, h⟩ := q
  unfold xVar at h
  cases e : getS st.env i with
  | none => rw [e] at h; exact h.elim
  | some o =>
    rw [e] at h
    dsimp only [wp] at h
    obtain ⟨v, f2, fs', q1, q2, r2, fr, g, sb, q4⟩ := rel_out r e
    refine ⟨v, q1, ?_⟩
    cases z : isFz o with
    | true =>
      obtain ⟨rfl, rp⟩ := own_fz q2 z
      rw [z] at h
      exact h v c r (GoE.refl r) ⟨[], .fz rp, Fresh.nil _, New.nil _⟩
    | false =>
      rw [z] at h
      have r3 := r2.freeze fr
      have t3 := OwnT.frz (c := { c with fs := fs' }) q2 r2
      have nw : New f2 c := fun a ha => .inl (sb a ha)
      refine h v (Cf.frz { c with fs := fs' } f2) ?_ (g.freeze nw r2) ⟨[], .fz t3, Fresh.nil _, New.nil _⟩
      exact ⟨r3.sub, r3.own, r3.nds, r3.ndc, r3.dis, q4 _ _ _ (.of (frz_sub (c := { c with fs := fs' }) r2) fun _ _ h => h) (fun _ _ => rfl) _ (.fz t3), r3.cells⟩
theorem x_mov {i : Nat} {x : Str} {pos : Pos} (hN : X.N[i]? = some x) (hv : Vis X.env.scope x) (hd : (x == ("__debug__" : Str)) = false := by decide) (hcd : (x == ("__classdict__" : Str)) = false := by decide) :
    PE X (.Name x pos) (tO G W (xMov i)) := (pe_var hN hv hd hcd).weak fun σ H Q q => by
  obtain ⟨c, st, rfl, r, h⟩ := q
  unfold xMov at h
  cases e : getS st.env i with
  | none => rw [e] at h; exact h.elim
  | some o =>
    rw [e] at h
    dsimp only [wp] at h
    obtain ⟨v, f2, fs', q1, q2, r2, fr, g, sb, q4⟩ := rel_out r e
    refine ⟨v, q1, ?_⟩
    cases z : isFz o with
    | true =>
      obtain ⟨rfl, rp⟩ := own_fz q2 z
      rw [z] at h
      exact h v c r (GoE.refl r) ⟨[], q2, Fresh.nil _, New.nil _⟩
    | false =>
      rw [z] at h
      exact h v { c with fs := fs' } r2 g ⟨f2, q2, fr, fun a ha => .inl (sb a ha)⟩
theorem x_bvar {i : Nat} {x : Str} {pos : Pos} (hN : X.N[i]? = some x) (hv : Vis X.env.scope x) (hd : (x == ("__debug__" : Str)) = false := by decide) (hcd : (x == ("__classdict__" : Str)) = false := by decide) :
    PE X (.Name x pos) (tBr G W (xBor i)) := (pe_var hN hv hd hcd).weak fun σ H Q q => by
  obtain ⟨c, st, rfl, r, h⟩ := q
  unfold xBor at h
  cases e : getS st.env i with
  | none => rw [e] at h; exact h.elim
  | some o =>
    rw [e] at h
    dsimp only [wp] at h
    obtain ⟨v, f2, fs', q1, q2, r2, fr, g, sb, q4⟩ := rel_out r e
    exact ⟨v, q1, h v c r (GoE.refl r) ⟨f2, q2, fun a ha => r.dis a (sb a ha)⟩⟩
theorem x_c {e : Expr} {v : V} {d : D} (h : PE X e (tC v)) (hr : ∀ F al, Rp G F al v d) : PE X e (tO G W (xC d)) := h.weak fun σ H Q q => by
  obtain ⟨c, st, rfl, r, h⟩ := q
  exact h v c r (GoE.refl r) ⟨[], .fz (hr _ _), Fresh.nil _, New.nil _⟩
/-! ### operators -/
/-- an operator by values, and what it gives of trees -/
def OpD (G : Gi) (r : R2) (g : D → D → Option O) : Prop := ∀ (st : S) (σ : L2.St) (c : Cf) (x y : V) (ox oy : O) (fx fy : List Addr) (o : O) (Q : VK), Rel G st σ c →
  OwnT G c.F c.al c.H ox x fx → OwnT G c.F c.al c.H oy y fy → g ox.toD oy.toD = some o →
  (∀ v c', Rel G st σ c' → GoE c c' → PrO G o c c' v → Q v c'.H) → r x y c.H Q
def UnD (G : Gi) (r : V → Hp → VK → Prop) (g : D → Option O) : Prop := ∀ (st : S) (σ : L2.St) (c : Cf) (x : V) (ox : O) (fx : List Addr) (o : O) (Q : VK), Rel G st σ c →
  OwnT G c.F c.al c.H ox x fx → g ox.toD = some o → (∀ v c', Rel G st σ c' → GoE c c' → PrO G o c c' v → Q v c'.H) → r x c.H Q
def xOp (g : D → D → Option O) (ma mb : M O) : M O := bnd ma fun x => bnd mb fun y => ofO (g x.toD y.toD)
def xUn (g : D → Option O) (ma : M O) : M O := bnd ma fun x => ofO (g x.toD)
@[simp] theorem xOp_app (g : D → D → Option O) (ma mb : M O) (s : S) : xOp g ma mb s = (ma s).bind fun x s1 => (mb s1).bind fun y s2 => ofO (g x.toD y.toD) s2 := rfl
@[simp] theorem xUn_app (g : D → Option O) (ma : M O) (s : S) : xUn g ma s = (ma s).bind fun x s1 => ofO (g x.toD) s1 := rfl
theorem op_t {r : R2} {g : D → D → Option O} (hr : OpD G r g) {σ : L2.St} {H : Hp} {Q : VK} (q : tO G W (xOp g ma mb) σ H Q) : tOp r (tBr G W ma) (tLa G W mb) σ H Q := by
  show tBr G W ma σ H (fun x H1 => tLa G W mb σ H1 (fun y H2 => r x y H2 Q))
  refine q.seq bkO _ (fun ox x c c1 st1 r1 g1 p1 w => ?_)
  obtain ⟨fx, tx, kx⟩ := p1
  refine tG.seq1 bkO r1 w _ (fun oy y c2 st2 r2 g2 p2 w2 => ?_)
  obtain ⟨fy, ty⟩ := p2
  obtain ⟨o, eo, q3⟩ := wp_ofO.mp w2
  exact hr st2 σ c2 x y ox oy fx fy o Q r2 (kx.go tx g2) ty eo q3
theorem un_t {r : V → Hp → VK → Prop} {g : D → Option O} (hr : UnD G r g) {σ : L2.St} {H : Hp} {Q : VK} (q : tO G W (xUn g ma) σ H Q) : tUn r (tLa G W ma) σ H Q := by
  show tLa G W ma σ H (fun x H1 => r x H1 Q)
  refine q.seq bkO _ (fun ox x c c1 st1 r1 g1 p1 w => ?_)
  obtain ⟨fx, tx⟩ := p1
  obtain ⟨o, eo, q3⟩ := wp_ofO.mp w
  exact hr st1 σ c1 x ox fx o Q r1 tx eo q3
theorem x_op {op : Operator} {r : R2} {g : D → D → Option O} {pos : Pos} (ho : OpR X (binaryOp op) r) (hr : OpD G r g) (ha : PE X a (tBr G W ma)) (hb : PE X b (tLa G W mb)) :
    PE X (.BinOp a op b pos) (tO G W (xOp g ma mb)) := (pe_op ho ha hb).weak fun σ H Q q => op_t hr q
theorem x_cmp {op : CmpOp} {r : R2} {g : D → D → Option O} {pos : Pos} (ho : OpR X (compareOp op) r) (hr : OpD G r g) (ha : PE X a (tBr G W ma)) (hb : PE X b (tLa G W mb)) (hm : behindInMarks op b = false) :
    PE X (.Compare a [op] [b] pos) (tO G W (xOp g ma mb)) := (pe_cmpR ho ha hb hm).weak fun σ H Q q => op_t hr q
theorem x_ix {r : R2} {g : D → D → Option O} {pos : Pos} (ho : IxR X r) (hr : OpD G r g) (ha : PE X a (tBr G W ma)) (hb : PE X b (tLa G W mb)) (hs : PlainIx b) :
    PE X (.Subscript a b pos) (tO G W (xOp g ma mb)) := (pe_ix ho ha hb hs).weak fun σ H Q q => op_t hr q
theorem x_un {op : UnaryOp} {r : V → Hp → VK → Prop} {g : D → Option O} {pos : Pos} (ho : UnR X (unaryOp op) r) (hr : UnD G r g) (ha : PE X a (tLa G W ma)) :
    PE X (.UnaryOp op a pos) (tO G W (xUn g ma)) := (pe_un ho ha).weak fun σ H Q q => un_t hr q
/-- a truth out of a tree -/
def asB : O → Option Bool
  | .fz (.bl b) => some b
  | _ => none
def toB (m : M O) : M Bool := bnd m fun o => ofO (asB o)
@[simp] theorem toB_app (m : M O) (s : S) : toB m s = (m s).bind fun o => ofO (asB o) := rfl
theorem test_t {Pr : O → Cf → Cf → V → Prop} (hp : ∀ b c c' v, Pr (.fz (.bl b)) c c' v → v = .bl b) {σ : L2.St} {H : Hp} {Q : Bool → Hp → Prop} (q : tTs G W (toB m) σ H Q) :
    tG G W Pr m σ H fun x H' => ∃ k, x = .bl k ∧ Q k H' := by
  refine q.seq bkT _ (fun o v c c1 st1 r1 g1 p w => ?_)
  obtain ⟨b, eb, q3⟩ := wp_ofO.mp w
  have eo : o = .fz (.bl b) := by
    unfold asB at eb
    split at eb
    · cases eb; rfl
    · cases eb
  subst eo
  exact ⟨b, hp b c c1 v p, q3 b c1 r1 (GoE.refl r1) rfl⟩
theorem own_bl {F H : Hp} {al : List Addr} {b : Bool} {v : V} {fp : List Addr} (h : OwnT G F al H (.fz (.bl b)) v fp) : v = .bl b := by
  cases h with
  | fz h => cases h; rfl
theorem prO_bl (b : Bool) (c c' : Cf) (v : V) (h : PrO G (.fz (.bl b)) c c' v) : v = .bl b := by obtain ⟨fp, t, _⟩ := h; exact own_bl t
theorem xt_val (h : PE X e (tO G W m)) (he : ∀ whole, isTrue e X.env whole = (do let v ← whole; standAt e.pos; holding [v] (truthy v)) := by intro _; rfl) :
    PT X e (tTs G W (toB m)) := (pt_val h he).weak fun σ H Q q => test_t (prO_bl) q
theorem xt_cmp {op : CmpOp} {r : R2} {g : D → D → Option O} {pos : Pos} (ho : OpR X (compareOp op) r) (hr : OpD G r g) (ha : PE X a (tBr G W ma)) (hb : PE X b (tLa G W mb)) (hm : behindInMarks op b = false) :
    PT X (.Compare a [op] [b] pos) (tTs G W (toB (xOp g ma mb))) := (pt_cmpR ho ha hb hm).weak fun σ H Q q => by
  have q2 := test_t (prO_bl (G := G)) q
  exact op_t hr q2
/-! ### and, or, not; a if b else c -/
def bAnd (ma mb : M Bool) : M Bool := bnd ma fun x => if x = true then mb else ret false
def bOr (ma mb : M Bool) : M Bool := bnd ma fun x => if x = true then ret true else mb
def bNot (ma : M Bool) : M Bool := bnd ma fun x => ret (!x)
def xIf (mt : M Bool) (ma mb : M O) : M O := bnd mt fun x => if x = true then ma else mb
@[simp] theorem bAnd_app (ma mb : M Bool) (s : S) : bAnd ma mb s = (ma s).bind fun x => if x = true then mb else ret false := rfl
@[simp] theorem bOr_app (ma mb : M Bool) (s : S) : bOr ma mb s = (ma s).bind fun x => if x = true then ret true else mb := rfl
@[simp] theorem bNot_app (ma : M Bool) (s : S) : bNot ma s = (ma s).bind fun x => ret (!x) := rfl
@[simp] theorem xIf_app (mt : M Bool) (ma mb : M O) (s : S) : xIf mt ma mb s = (mt s).bind fun x => if x = true then ma else mb := rfl
theorem or_t {ma mb : M Bool} {σ : L2.St} {H : Hp} {Q : Bool → Hp → Prop} (q : tTs G W (bOr ma mb) σ H Q) : tOr (tTs G W ma) (tTs G W mb) σ H Q := by
  show tTs G W ma σ H fun c H1 => if c = true then Q true H1 else tTs G W mb σ H1 Q
  refine q.seq bkT _ (fun o v c c1 st1 r1 g1 p w => ?_)
  obtain rfl : v = o := p
  cases v with
  | false => exact tG.at r1 w
  | true => exact w true c1 r1 (GoE.refl r1) rfl
theorem not_t {ma : M Bool} {σ : L2.St} {H : Hp} {Q : Bool → Hp → Prop} (q : tTs G W (bNot ma) σ H Q) : tNot (tTs G W ma) σ H Q := by
  show tTs G W ma σ H fun c H1 => Q (!c) H1
  refine q.seq bkT _ (fun o v c c1 st1 r1 g1 p w => ?_)
  obtain rfl : v = o := p
  exact w (!v) c1 r1 (GoE.refl r1) rfl
theorem if_t {Pr : O → Cf → Cf → V → Prop} (hb : Bk Pr) {mt : M Bool} {σ : L2.St} {H : Hp} {Q : VK} (q : tG G W Pr (xIf mt ma mb) σ H Q) : tIf (tTs G W mt) (tG G W Pr ma) (tG G W Pr mb) σ H Q := by
  show tTs G W mt σ H fun c H1 => if c = true then tG G W Pr ma σ H1 Q else tG G W Pr mb σ H1 Q
  refine q.seq hb _ (fun o v c c1 st1 r1 g1 p w => ?_)
  obtain rfl : v = o := p
  cases v with
  | true => exact tG.at r1 w
  | false => exact tG.at r1 w
section
variable {A B A2 : Expr} {rest : List Expr} {pos : Pos} {ma mb mt : M Bool}
theorem xw_or1 (ha : PT X A (tTs G W ma)) : PW X (.BoolOp .Or [A] pos) (tTs G W ma) := pw_or1 ha
theorem xw_or (ha : PT X A (tTs G W ma)) (hb : PW X (.BoolOp .Or (B :: rest) pos) (tTs G W mb)) : PW X (.BoolOp .Or (A :: B :: rest) pos) (tTs G W (bOr ma mb)) := (pw_or ha hb).weak fun _ _ _ q => or_t q
theorem xt_not (ha : PT X A (tTs G W ma)) : PT X (.UnaryOp .Not A pos) (tTs G W (bNot ma)) := (pt_not ha).weak fun _ _ _ q => not_t q
theorem x_if {mx my : M O} (ht : PT X A (tTs G W mt)) (ha : PE X B (tO G W mx)) (hb : PE X A2 (tO G W my)) : PE X (.IfExp A B A2 pos) (tO G W (xIf mt mx my)) :=
  (pe_ifExp ht ha hb).weak fun _ _ _ q => if_t bkO q
end
/-- and, or, not as values: truths alone -/
def xAndV (ma mb : M O) : M O := bnd (toB ma) fun x => if x = true then mb else ret (.fz (.bl false))
def xOrV (ma mb : M O) : M O := bnd (toB ma) fun x => if x = true then ret (.fz (.bl true)) else mb
def xNotV (ma : M O) : M O := bnd (toB ma) fun x => ret (.fz (.bl (!x)))
@[simp] theorem xAndV_app (ma mb : M O) (s : S) : xAndV ma mb s = (toB ma s).bind fun x => if x = true then mb else ret (.fz (.bl false)) := rfl
@[simp] theorem xOrV_app (ma mb : M O) (s : S) : xOrV ma mb s = (toB ma s).bind fun x => if x = true then ret (.fz (.bl true)) else mb := rfl
@[simp] theorem xNotV_app (ma : M O) (s : S) : xNotV ma s = (toB ma s).bind fun x => ret (.fz (.bl (!x))) := rfl
theorem prO_fz {c c' : Cf} {v : V} {d : D} (h : Rp G c'.F c'.al v d) : PrO G (.fz d) c c' v := ⟨[], .fz h, Fresh.nil _, New.nil _⟩
/-! ### argument lists, tuples, lists -/
def aNil : M (List D) := ret []
def aCons (m : M D) (ms : M (List D)) : M (List D) := bnd m fun d => bnd ms fun ds => ret (d :: ds)
@[simp] theorem aNil_app (s : S) : aNil s = .ok [] s := rfl
@[simp] theorem aCons_app (m : M D) (ms : M (List D)) (s : S) : aCons m ms s = (m s).bind fun d s1 => (ms s1).bind fun ds => ret (d :: ds) := rfl
theorem xa_nil : PA X [] (tAs G W aNil) := (pa_nil (X := X)).weak fun σ H Q q => by
  obtain ⟨c, st, rfl, r, h⟩ := q
  exact h [] c r (GoE.refl r) .nil
theorem cons_t {m : M D} {ms : M (List D)} {σ : L2.St} {H : Hp} {Q : List V → Hp → Prop} (q : tAs G W (aCons m ms) σ H Q) : tCons (tD G W m) (tAs G W ms) σ H Q := by
  show tD G W m σ H fun x H1 => tAs G W ms σ H1 fun xs H2 => Q (x :: xs) H2
  refine q.seq bkA _ (fun d v c c1 st1 r1 g1 p1 w => ?_)
  refine tG.seq1 bkA r1 w _ (fun ds vs c2 st2 r2 g2 p2 w2 => ?_)
  exact w2 (v :: vs) c2 r2 (GoE.refl r2) (.cons (p1.mo g2.mo) p2)
theorem xa_cons {m : M D} {ms : M (List D)} {es : List Expr} (ha : PE X e (tD G W m)) (hr : PA X es (tAs G W ms)) (hs : starEach (e :: es) X.env = (false, eval e X.env) :: starEach es X.env := by rfl) :
    PA X (e :: es) (tAs G W (aCons m ms)) := (pa_cons ha hr hs).weak fun _ _ _ q => cons_t q
theorem xk_nil : PK X [] (tAs G W aNil) := (pk_nil (X := X)).weak fun σ H Q q => by
  obtain ⟨c, st, rfl, r, h⟩ := q
  exact h [] c r (GoE.refl r) .nil
theorem xk_cons {m : M D} {ms : M (List D)} {nm : Option Str} {kpos : Pos} {kws : List Keyword} (ha : PE X e (tD G W m)) (hr : PK X kws (tAs G W ms)) : PK X (⟨nm, e, kpos⟩ :: kws) (tAs G W (aCons m ms)) :=
  (pk_cons ha hr).weak fun _ _ _ q => cons_t q
/-- what a display of n things gives -/
def dTup (ds : List D) : Option O := if ds.length ≤ 16777216 then some (.fz (.tup ds)) else none
def dLst (ds : List D) : Option O := if ds.length ≤ 16777216 then some (.lst ds) else none
def xTup (ms : M (List D)) : M O := bnd ms fun ds => ofO (dTup ds)
def xLst (ms : M (List D)) : M O := bnd ms fun ds => ofO (dLst ds)
@[simp] theorem xTup_app (ms : M (List D)) (s : S) : xTup ms s = (ms s).bind fun ds => ofO (dTup ds) := rfl
@[simp] theorem xLst_app (ms : M (List D)) (s : S) : xLst ms s = (ms s).bind fun ds => ofO (dLst ds) := rfl
/-- a new frozen object -/
theorem new_fz {st : S} {σ : L2.St} {c : Cf} {p : Addr} {o : HO} {d : D} (r : Rel G st σ c) (h : c.H p = none)
    (hp : Rp G (frzF (c.new p o) [p]) c.al (.ref p) d) : ∃ c', c'.H = upd c.H p o ∧ Rel G st σ c' ∧ GoE c c' ∧ PrO G (.fz d) c c' (.ref p) := by
  have r1 := r.new (o := o) h
  have f := Fresh.new (o := o) r h
  exact ⟨(c.new p o).frz [p], rfl, r1.freeze f, (GoE.new r h).freeze (New.new h) r1, [], .fz hp, Fresh.nil _, New.nil _⟩
theorem new_ow {st : S} {σ : L2.St} {c : Cf} {p : Addr} {o : HO} {t : O} (r : Rel G st σ c) (h : c.H p = none)
    (hp : OwnT G c.F c.al (upd c.H p o) t (.ref p) [p]) : ∃ c', c'.H = upd c.H p o ∧ Rel G st σ c' ∧ GoE c c' ∧ PrO G t c c' (.ref p) :=
  ⟨c.new p o, rfl, r.new h, GoE.new r h, [p], hp, Fresh.new r h, New.new h⟩
theorem frzF_same {c : Cf} {p : Addr} {o : HO} : frzF (c.new p o) [p] p = some o := by
  unfold frzF
  rw [if_pos (List.mem_singleton_self _)]
  exact upd_same
theorem mo_new {st : S} {σ : L2.St} {c : Cf} {p : Addr} {o : HO} (r : Rel G st σ c) (h : c.H p = none) : Mo c.F (frzF (c.new p o) [p]) c.al c.al :=
  .of (frz_sub (r.new (o := o) h)) fun _ _ h => h
theorem x_tup {es : List Expr} {ms : M (List D)} {x1 : Nat} {pos : Pos} (h : PA X es (tAs G W ms)) : PE X (.Tuple es x1 pos) (tO G W (xTup ms)) := (pe_tup h).weak fun σ H Q q => by
  show tAs G W ms σ H fun xs H1 => xs.length ≤ sizeLine ∧ ∀ p, H1 p = none → Q (.ref p) (upd H1 p (.tup xs))
  refine q.seq bkO _ (fun ds vs c c1 st1 r1 g1 p1 w => ?_)
  obtain ⟨o, eo, q3⟩ := wp_ofO.mp w
  unfold dTup at eo
  split at eo
  · rename_i hl
    cases eo
    have hl2 := p1.len
    refine ⟨by rw [szl]; omega, fun p hp => ?_⟩
    obtain ⟨c', e, r', g', p'⟩ := new_fz (G := G) (o := .tup vs) (d := .tup ds) r1 hp (.tup frzF_same (p1.mo (mo_new r1 hp)))
    rw [← e]
    exact q3 _ c' r' g' p'
  · cases eo
theorem x_lst {es : List Expr} {ms : M (List D)} {pos : Pos} (h : PA X es (tAs G W ms)) : PE X (.List es pos) (tO G W (xLst ms)) := (pe_lst h).weak fun σ H Q q => by
  show tAs G W ms σ H fun xs H1 => xs.length ≤ sizeLine ∧ ∀ p, H1 p = none → Q (.ref p) (upd H1 p (.lst xs))
  refine q.seq bkO _ (fun ds vs c c1 st1 r1 g1 p1 w => ?_)
  obtain ⟨o, eo, q3⟩ := wp_ofO.mp w
  unfold dLst at eo
  split at eo
  · rename_i hl
    cases eo
    have hl2 := p1.len
    refine ⟨by rw [szl]; omega, fun p hp => ?_⟩
    obtain ⟨c', e, r', g', p'⟩ := new_ow (G := G) (o := .lst vs) (t := .lst ds) r1 hp (.lst upd_same p1)
    rw [← e]
    exact q3 _ c' r' g' p'
  · cases eo
end
end L2.Tr
namespace L2.Tr
open PySem PySem.Spec PyProof.Rows L2 L2.Pc
/-! ### what a value is, by its tree -/
def Vi (G : Gi) (c : Cf) (v : V) : D → Prop
  | .non => v = .non
  | .bl b => v = .bl b
  | .int i => v = .int i
  | .str s => v = .str s
  | .tup ds => ∃ a xs, v = .ref a ∧ SqT G.K c.H a xs ∧ RpA G c.F c.al xs ds ∧ Rp G c.F c.al v (.tup ds)
  | .tuk ds => ∃ a xs, v = .ref a ∧ SqT G.K c.H a xs ∧ RpA G c.F c.al xs ds
  | .lst ds => ∃ a xs, v = .ref a ∧ c.H a = some (.lst xs) ∧ RpA G c.F c.al xs ds
  | .lsk ds => ∃ a xs, v = .ref a ∧ SqL G.K c.H a xs ∧ RpA G c.F c.al xs ds
  | .dct _ => ∃ a, v = .ref a
  | .dcu _ => ∃ a, v = .ref a
  | .ins _ _ => ∃ a, v = .ref a
  | .cel n => ∃ a, v = .ref a ∧ c.al[n]? = some a
  | .fn f => ∃ a, v = .ref a ∧ G.mg f = some (.ref a)
  | .ty n => v = .ty n
  | .xob _ _ => ∃ a, v = .ref a
  | .xok _ _ => ∃ a, v = .ref a
  | .tun ds => ∃ a xs, v = .ref a ∧ SqT G.K c.H a xs ∧ RpA G c.F c.al xs ds ∧ ∃ o, c.H a = some (.frz o (.tup xs)) ∧ o.dict = none
theorem rp_view {G : Gi} {st : S} {σ : L2.St} {c : Cf} {v : V} {d : D} (r : Rel G st σ c) (t : Rp G c.F c.al v d) : Vi G c v d := by
  cases t with
  | non => rfl
  | bl b => rfl
  | int i => rfl
  | str x => rfl
  | tup h hs => exact ⟨_, _, rfl, r.rdT (.inl (.inl h)), hs, .tup h hs⟩
  | tuk h hs => exact ⟨_, _, rfl, r.rdT h, hs⟩
  | lst h hs => exact ⟨_, _, rfl, r.sub _ _ h, hs⟩
  | lsk h hs => exact ⟨_, _, rfl, r.rdL h, hs⟩
  | dcK h q hs => exact ⟨_, rfl⟩
  | dcT h q hs => exact ⟨_, rfl⟩
  | ins h q n hs => exact ⟨_, rfl⟩
  | cel h => exact ⟨_, rfl, h⟩
  | fn h => exact ⟨_, rfl, h⟩
  | ty n => rfl
  | xob h q k n hs => exact ⟨_, rfl⟩
  | xob0 h q => exact ⟨_, rfl⟩
  | xok h q k n hs => exact ⟨_, rfl⟩
  | xok0 h q => exact ⟨_, rfl⟩
  | tun h k hs => exact ⟨_, _, rfl, sqT_fz (r.sub _ _ h), hs, _, r.sub _ _ h, k⟩
theorem own_view {G : Gi} {st : S} {σ : L2.St} {c : Cf} {v : V} {o : O} {fp : List Addr} (r : Rel G st σ c) (t : OwnT G c.F c.al c.H o v fp) : Vi G c v o.toD := by
  cases t with
  | fz h => rw [O.toD]; exact rp_view r h
  | lst h hs => rw [O.toD]; exact ⟨_, _, rfl, h, hs⟩
  | dcK h q hs => rw [O.toD]; exact ⟨_, rfl⟩
  | dcT h q hs => rw [O.toD]; exact ⟨_, rfl⟩
  | ins h q n hs => rw [O.toD]; exact ⟨_, rfl⟩
  | dcoK h q hs => rw [O.toD]; exact ⟨_, rfl⟩
  | dcoT h q hs => rw [O.toD]; exact ⟨_, rfl⟩
/-! data without own classes; b: dicts too -/
mutual
def D.py (b : Bool) : D → Option PyData
  | .non => some .none
  | .bl x => some (.bool x)
  | .int i => some (.int i)
  | .str s => some (.str s)
  | .tup xs => (D.pyA b xs).map .tuple
  | .tuk xs => (D.pyA b xs).map .tuple
  | .lst xs => (D.pyA b xs).map .list
  | .lsk xs => (D.pyA b xs).map .list
  | .dct kvs => if b then (D.pyK b kvs).map .dict else none
  | .dcu _ => none
  | .ins _ _ => none
  | .cel _ => none
  | .fn _ => none
  | .ty _ => none
  | .xob _ _ => none
  | .xok _ _ => none
  | .tun xs => (D.pyA b xs).map .tuple
def D.pyA (b : Bool) : List D → Option (List PyData)
  | [] => some []
  | x :: xs => (D.py b x).bind fun y => (D.pyA b xs).map (y :: ·)
def D.pyK (b : Bool) : List (D × D) → Option (List (PyData × PyData))
  | [] => some []
  | (k, x) :: xs => (D.py b k).bind fun j => (D.py b x).bind fun y => (D.pyK b xs).map ((j, y) :: ·)
end
theorem map_some {α β : Type} {f : α → β} {o : Option α} {b : β} (h : o.map f = some b) : ∃ a, o = some a ∧ b = f a := by
  cases o with
  | none => cases h
  | some a => cases h; exact ⟨a, rfl, rfl⟩
theorem bind_some {α β : Type} {f : α → Option β} {o : Option α} {b : β} (h : o.bind f = some b) : ∃ a, o = some a ∧ f a = some b := by
  cases o with
  | none => cases h
  | some a => exact ⟨a, rfl, h⟩
theorem py_key {b : Bool} {k : Key} : D.py b (kD k) = some (keyD k) := by cases k <;> rfl
theorem pyK_zip {b : Bool} {kvs : List (Key × V)} : ∀ {ds : List (D × D)} {l : List (PyData × PyData)}, D.pyK b ds = some l → ds.map (·.1) = kvs.map (fun p => kD p.1) →
    ∃ ps, D.pyA b (ds.map (·.2)) = some ps ∧ l = (kvs.map fun p => keyD p.1).zip ps := by
  intro ds
  induction ds generalizing kvs with
  | nil =>
    intro l h e
    cases kvs with
    | nil => cases h; exact ⟨[], rfl, rfl⟩
    | cons _ _ => cases e
  | cons p ds ih =>
    obtain ⟨k, x⟩ := p
    intro l h e
    cases kvs with
    | nil => cases e
    | cons q kvs =>
      rw [List.map_cons, List.map_cons] at e
      injection e with e1 e2
      rw [D.pyK] at h
      obtain ⟨j, h1, h⟩ := bind_some h
      obtain ⟨y, h2, h⟩ := bind_some h
      obtain ⟨l', h3, rfl⟩ := map_some h
      obtain ⟨ps, h4, rfl⟩ := ih h3 e2
      have e1 : k = kD q.1 := e1
      rw [e1, py_key] at h1
      cases h1
      refine ⟨y :: ps, ?_, rfl⟩
      rw [List.map_cons, D.pyA, h2]
      show (D.pyA b (ds.map (·.2))).map _ = _
      rw [h4]; rfl
mutual
theorem Rp.da {G : Gi} {F H : Hp} {al : List Addr} (e : ∀ a o, F a = some o → H a = some o) : ∀ {v : V} {d : D} {p : PyData}, Rp G F al v d → d.py true = some p → Da G.K H v p
  | _, _, _, .non, h => by cases h; exact .non
  | _, _, _, .bl b, h => by cases h; exact .bl b
  | _, _, _, .int i, h => by cases h; exact .int i
  | _, _, _, .str x, h => by cases h; exact .str x
  | _, _, _, .tup q hs, h => by rw [D.py] at h; obtain ⟨ps, h1, rfl⟩ := map_some h; exact .tup (.inl (.inl (e _ _ q))) (RpA.da e hs h1)
  | _, _, _, .tuk q hs, h => by rw [D.py] at h; obtain ⟨ps, h1, rfl⟩ := map_some h; exact .tup (sqT_mo e q) (RpA.da e hs h1)
  | _, _, _, .lst q hs, h => by rw [D.py] at h; obtain ⟨ps, h1, rfl⟩ := map_some h; exact .lst (.inl (.inl (e _ _ q))) (RpA.da e hs h1)
  | _, _, _, .lsk q hs, h => by rw [D.py] at h; obtain ⟨ps, h1, rfl⟩ := map_some h; exact .lst (sqL_mo e q) (RpA.da e hs h1)
  | _, _, _, @Rp.dcK _ _ _ a kvs ds q k hs, h => by
    rw [D.py, if_pos rfl] at h
    obtain ⟨ps, h1, rfl⟩ := map_some h
    obtain ⟨ps2, h2, rfl⟩ := pyK_zip h1 k
    exact .dct (rd_mo e q) (RpA.da e hs h2)
  | _, _, _, .dcT _ _ _, h => by rw [D.py] at h; cases h
  | _, _, _, .ins _ _ _ _, h => by rw [D.py] at h; cases h
  | _, _, _, .cel _, h => by rw [D.py] at h; cases h
  | _, _, _, .fn _, h => by rw [D.py] at h; cases h
  | _, _, _, .ty _, h => by rw [D.py] at h; cases h
  | _, _, _, .xob _ _ _ _ _, h => by rw [D.py] at h; cases h
  | _, _, _, .xob0 _ _, h => by rw [D.py] at h; cases h
  | _, _, _, .xok _ _ _ _ _, h => by rw [D.py] at h; cases h
  | _, _, _, .xok0 _ _, h => by rw [D.py] at h; cases h
  | _, _, _, .tun q _ hs, h => by rw [D.py] at h; obtain ⟨ps, h1, rfl⟩ := map_some h; exact .tup (sqT_mo e (sqT_fz q)) (RpA.da e hs h1)
theorem RpA.da {G : Gi} {F H : Hp} {al : List Addr} (e : ∀ a o, F a = some o → H a = some o) : ∀ {vs : List V} {ds : List D} {ps : List PyData}, RpA G F al vs ds → D.pyA true ds = some ps → DaAll G.K H vs ps
  | _, _, _, .nil, h => by cases h; exact .nil
  | _, _, _, .cons q hs, h => by
    rw [D.pyA] at h
    obtain ⟨y, h1, h⟩ := bind_some h
    obtain ⟨ys, h2, rfl⟩ := map_some h
    exact .cons (Rp.da e q h1) (RpA.da e hs h2)
end
mutual
theorem Rp.dp {G : Gi} {F H : Hp} {al : List Addr} (e : ∀ a o, F a = some o → H a = some o) : ∀ {v : V} {d : D} {p : PyData}, Rp G F al v d → d.py false = some p → Dp G.K H v p
  | _, _, _, .non, h => by cases h; exact .non
  | _, _, _, .bl b, h => by cases h; exact .bl b
  | _, _, _, .int i, h => by cases h; exact .int i
  | _, _, _, .str x, h => by cases h; exact .str x
  | _, _, _, .tup q hs, h => by rw [D.py] at h; obtain ⟨ps, h1, rfl⟩ := map_some h; exact .tup (.inl (.inl (e _ _ q))) (RpA.dp e hs h1)
  | _, _, _, .tuk q hs, h => by rw [D.py] at h; obtain ⟨ps, h1, rfl⟩ := map_some h; exact .tup (sqT_mo e q) (RpA.dp e hs h1)
  | _, _, _, .lst q hs, h => by rw [D.py] at h; obtain ⟨ps, h1, rfl⟩ := map_some h; exact .lst (.inl (.inl (e _ _ q))) (RpA.dp e hs h1)
  | _, _, _, .lsk q hs, h => by rw [D.py] at h; obtain ⟨ps, h1, rfl⟩ := map_some h; exact .lst (sqL_mo e q) (RpA.dp e hs h1)
  | _, _, _, .dcK _ _ _, h => by rw [D.py, if_neg (by decide)] at h; cases h
  | _, _, _, .dcT _ _ _, h => by rw [D.py] at h; cases h
  | _, _, _, .ins _ _ _ _, h => by rw [D.py] at h; cases h
  | _, _, _, .cel _, h => by rw [D.py] at h; cases h
  | _, _, _, .fn _, h => by rw [D.py] at h; cases h
  | _, _, _, .ty _, h => by rw [D.py] at h; cases h
  | _, _, _, .xob _ _ _ _ _, h => by rw [D.py] at h; cases h
  | _, _, _, .xob0 _ _, h => by rw [D.py] at h; cases h
  | _, _, _, .xok _ _ _ _ _, h => by rw [D.py] at h; cases h
  | _, _, _, .xok0 _ _, h => by rw [D.py] at h; cases h
  | _, _, _, .tun q _ hs, h => by rw [D.py] at h; obtain ⟨ps, h1, rfl⟩ := map_some h; exact .tup (sqT_mo e (sqT_fz q)) (RpA.dp e hs h1)
theorem RpA.dp {G : Gi} {F H : Hp} {al : List Addr} (e : ∀ a o, F a = some o → H a = some o) : ∀ {vs : List V} {ds : List D} {ps : List PyData}, RpA G F al vs ds → D.pyA false ds = some ps → DpAll G.K H vs ps
  | _, _, _, .nil, h => by cases h; exact .nil
  | _, _, _, .cons q hs, h => by
    rw [D.pyA] at h
    obtain ⟨y, h1, h⟩ := bind_some h
    obtain ⟨ys, h2, rfl⟩ := map_some h
    exact .cons (Rp.dp e q h1) (RpA.dp e hs h2)
end
theorem pyK_own {b : Bool} {kvs : List (Key × V)} {os : List (D × O)} {l : List (PyData × PyData)} (h : D.pyK b (O.toDk os) = some l) (e : os.map (·.1) = kvs.map (fun p => kD p.1)) :
    ∃ ps, D.pyA b ((os.map (·.2)).map O.toD) = some ps ∧ l = (kvs.map fun p => keyD p.1).zip ps := by
  rw [toDk_map] at h
  have := pyK_zip (kvs := kvs) h (by rw [List.map_map]; exact e)
  rw [List.map_map] at this ⊢
  exact this
mutual
theorem own_da {G : Gi} {F H : Hp} {al : List Addr} (e : ∀ a o, F a = some o → H a = some o) : ∀ {o : O} {v : V} {fp : List Addr} {p : PyData}, OwnT G F al H o v fp → o.toD.py true = some p → Da G.K H v p
  | _, _, _, _, .fz t, h => by rw [O.toD] at h; exact t.da e h
  | _, _, _, _, .lst t hs, h => by rw [O.toD, D.py] at h; obtain ⟨ps, h1, rfl⟩ := map_some h; exact .lst (.inl (.inl t)) (hs.da e h1)
  | _, _, _, _, .dcK t k hs, h => by
    rw [O.toD, D.py, if_pos rfl] at h
    obtain ⟨ps, h1, rfl⟩ := map_some h
    obtain ⟨ps2, h2, rfl⟩ := pyK_zip h1 k
    exact .dct (.inl t) (hs.da e h2)
  | _, _, _, _, .dcT t k hs, h => by rw [O.toD, D.py] at h; cases h
  | _, _, _, _, .ins t q n hs, h => by rw [O.toD, D.py] at h; cases h
  | _, _, _, _, .dcoK t q hs, h => by
    rw [O.toD, D.py, if_pos rfl] at h
    obtain ⟨ps, h1, rfl⟩ := map_some h
    obtain ⟨ps2, h2, rfl⟩ := pyK_own h1 q
    exact .dct (.inl t) (ownA_da e hs h2)
  | _, _, _, _, .dcoT t q hs, h => by rw [O.toD, D.py] at h; cases h
theorem ownA_da {G : Gi} {F H : Hp} {al : List Addr} (e : ∀ a o, F a = some o → H a = some o) : ∀ {os : List O} {vs : List V} {fp : List Addr} {ps : List PyData}, OwnA G F al H os vs fp →
    D.pyA true (os.map O.toD) = some ps → DaAll G.K H vs ps
  | _, _, _, _, .nil, h => by cases h; exact .nil
  | _, _, _, _, .cons q hs, h => by
    rw [List.map_cons, D.pyA] at h
    obtain ⟨y, h1, h⟩ := bind_some h
    obtain ⟨ys, h2, rfl⟩ := map_some h
    exact .cons (own_da e q h1) (ownA_da e hs h2)
end
section
variable {G : Gi} {st : S} {σ : L2.St} {c : Cf} {v : V} {o : O} {fp : List Addr}
theorem own_dp {p : PyData} (r : Rel G st σ c) (t : OwnT G c.F c.al c.H o v fp) (h : o.toD.py false = some p) : Dp G.K c.H v p := by
  cases t with
  | fz t => rw [O.toD] at h; exact t.dp r.sub h
  | lst t hs => rw [O.toD, D.py] at h; obtain ⟨ps, h1, rfl⟩ := map_some h; exact .lst (.inl (.inl t)) (hs.dp r.sub h1)
  | dcK t k hs => rw [O.toD, D.py, if_neg (by decide)] at h; cases h
  | dcT t k hs => rw [O.toD, D.py] at h; cases h
  | ins t q n hs => rw [O.toD, D.py] at h; cases h
  | dcoK t q hs => rw [O.toD, D.py, if_neg (by decide)] at h; cases h
  | dcoT t q hs => rw [O.toD, D.py] at h; cases h
/-! ### ends of rules -/
theorem fin {d : D} {Q : VK} (r : Rel G st σ c) (h : Rp G c.F c.al v d) (q : ∀ v c', Rel G st σ c' → GoE c c' → PrO G (.fz d) c c' v → Q v c'.H) : Q v c.H :=
  q v c r (GoE.refl r) (prO_fz h)
theorem finL {vs : List V} {ds : List D} {Q : VK} (r : Rel G st σ c) (h : RpA G c.F c.al vs ds) (q : ∀ v c', Rel G st σ c' → GoE c c' → PrO G (.lst ds) c c' v → Q v c'.H) :
    ∀ p, c.H p = none → Q (.ref p) (upd c.H p (.lst vs)) := fun p hp => by
  obtain ⟨c', e, r', g', p'⟩ := new_ow (G := G) (o := .lst vs) (t := .lst ds) r hp (.lst upd_same h)
  rw [← e]; exact q _ c' r' g' p'
theorem finT {vs : List V} {ds : List D} {Q : VK} (r : Rel G st σ c) (h : RpA G c.F c.al vs ds) (q : ∀ v c', Rel G st σ c' → GoE c c' → PrO G (.fz (.tup ds)) c c' v → Q v c'.H) :
    ∀ p, c.H p = none → Q (.ref p) (upd c.H p (.tup vs)) := fun p hp => by
  obtain ⟨c', e, r', g', p'⟩ := new_fz (G := G) (o := .tup vs) (d := .tup ds) r hp (.tup frzF_same (h.mo (mo_new r hp)))
  rw [← e]; exact q _ c' r' g' p'
end
/-! ### arithmetic -/
def addD (x y : D) : Option O := match x, y with
  | .int i, .int j => some (.fz (.int (i + j)))
  | .str a, .str b => if a.length + b.length ≤ 16777216 then some (.fz (.str (a ++ b))) else none
  | .lst xs, .lst ys => if xs.length + ys.length ≤ 16777216 then some (.lst (xs ++ ys)) else none
  | .tup xs, .tup ys => if xs.length + ys.length ≤ 16777216 then some (.fz (.tup (xs ++ ys))) else none
  | _, _ => none
def rAddA (K : PySem.W.Frag) : R2 := fun a b H Q =>
  rI0 (fun i j => .int (i + j)) a b H Q ∨ (∃ i j, a = .str i ∧ b = .str j ∧ i.length + j.length ≤ sizeLine ∧ Q (.str (i ++ j)) H) ∨
  rCat a b H Q ∨ rCatA K a b H Q
theorem op_addA {X : Cx} {K : PySem.W.Frag} (hK : X.K = K) : OpR X (binaryOp .Add) (rAddA K) := by
  subst hK
  intro pins s σ H a b v u Q I ra rb h
  rcases h with h | h | h | h
  · exact op_add pins s σ H a b v u Q I ra rb h
  · exact op_add_str pins s σ H a b v u Q I ra rb h
  · exact op_cat pins s σ H a b v u Q I ra rb h
  · exact op_catA pins s σ H a b v u Q I ra rb h
theorem d_add {G : Gi} : OpD G (rAddA G.K) addD := by
  intro st σ c x y ox oy fx fy o Q r tx ty e q
  have vx := own_view r tx
  have vy := own_view r ty
  generalize ox.toD = dx at *
  generalize oy.toD = dy at *
  unfold addD at e
  split at e
  · cases e
    obtain rfl : x = _ := vx
    obtain rfl : y = _ := vy
    exact .inl ⟨_, _, rfl, rfl, fin r (.int _) q⟩
  · split at e
    · rename_i hl
      cases e
      obtain rfl : x = _ := vx
      obtain rfl : y = _ := vy
      exact .inr (.inl ⟨_, _, rfl, rfl, by rw [szl]; exact hl, fin r (.str _) q⟩)
    · cases e
  · split at e
    · rename_i hl
      cases e
      obtain ⟨a, xs, rfl, hx, rx⟩ := vx
      obtain ⟨b, ys, rfl, hy, ry⟩ := vy
      exact .inr (.inr (.inl ⟨_, _, _, _, rfl, rfl, hx, hy, by rw [rx.len, ry.len, szl]; exact hl, finL r (rx.app ry) q⟩))
    · cases e
  · split at e
    · rename_i hl
      cases e
      obtain ⟨a, xs, rfl, hx, rx, rpx⟩ := vx
      obtain ⟨b, ys, rfl, hy, ry, rpy⟩ := vy
      refine .inr (.inr (.inr ⟨_, _, _, _, rfl, rfl, hx, hy, by rw [rx.len, ry.len, szl]; exact hl, fun h => ?_, fun _ h => ?_, fun _ _ => finT r (rx.app ry) q⟩))
      · subst h
        cases rx
        exact fin r rpy (by simpa using q)
      · subst h
        cases ry
        exact fin r rpx (by simpa using q)
    · cases e
  · cases e
/-- two ints -/
def iiD (C : Int → Int → Bool) (g : Int → Int → D) (x y : D) : Option O := match x, y with
  | .int i, .int j => if C i j = true then some (.fz (g i j)) else none
  | _, _ => none
theorem d_ii {G : Gi} {C : Int → Int → Bool} {C' : Int → Int → Prop} {g : Int → Int → D} {g' : Int → Int → V} (hC : ∀ i j, C i j = true → C' i j) (hg : ∀ i j F al, Rp G F al (g' i j) (g i j)) :
    OpD G (rI C' g') (iiD C g) := by
  intro st σ c x y ox oy fx fy o Q r tx ty e q
  have vx := own_view r tx
  have vy := own_view r ty
  generalize ox.toD = dx at *
  generalize oy.toD = dy at *
  unfold iiD at e
  split at e
  · split at e
    · rename_i hc
      cases e
      obtain rfl : x = _ := vx
      obtain rfl : y = _ := vy
      exact ⟨_, _, rfl, rfl, hC _ _ hc, fin r (hg _ _ _ _) q⟩
    · cases e
  · cases e
def ii0 (g : Int → Int → D) (x y : D) : Option O := match x, y with
  | .int i, .int j => some (.fz (g i j))
  | _, _ => none
theorem d_ii0 {G : Gi} {g : Int → Int → D} {g' : Int → Int → V} (hg : ∀ i j F al, Rp G F al (g' i j) (g i j)) : OpD G (rI0 g') (ii0 g) := by
  intro st σ c x y ox oy fx fy o Q r tx ty e q
  have vx := own_view r tx
  have vy := own_view r ty
  generalize ox.toD = dx at *
  generalize oy.toD = dy at *
  unfold ii0 at e
  split at e
  · cases e
    obtain rfl : x = _ := vx
    obtain rfl : y = _ := vy
    exact ⟨_, _, rfl, rfl, fin r (hg _ _ _ _) q⟩
  · cases e
def subD : D → D → Option O := ii0 fun i j => .int (i - j)
def ltD : D → D → Option O := ii0 fun i j => .bl (decide (i < j))
def leD : D → D → Option O := ii0 fun i j => .bl (decide (i ≤ j))
def gtD : D → D → Option O := ii0 fun i j => .bl (decide (j < i))
def geD : D → D → Option O := ii0 fun i j => .bl (decide (j ≤ i))
def divD : D → D → Option O := iiD (fun _ j => decide (0 < j) && decide (j < 1073741824)) fun i j => .int (i / j)
def modD : D → D → Option O := iiD (fun _ j => decide (0 < j)) fun i j => .int (i % j)
def powD : D → D → Option O := iiD (fun i j => decide (0 ≤ j) && decide (j ≤ 1000000) && decide (i.natAbs < 2 ^ 64)) fun i j => .int (i ^ j.toNat)
section
variable {G : Gi}
theorem d_lt : OpD G (rI0 fun i j => .bl (decide (i < j))) ltD := d_ii0 fun _ _ _ _ => .bl _
theorem d_gt : OpD G (rI0 fun i j => .bl (decide (j < i))) gtD := d_ii0 fun _ _ _ _ => .bl _
theorem d_ge : OpD G (rI0 fun i j => .bl (decide (j ≤ i))) geD := d_ii0 fun _ _ _ _ => .bl _
theorem d_div : OpD G (rI CDiv fun i j => .int (i / j)) divD := d_ii (fun i j h => by simp at h; exact h) fun _ _ _ _ => .int _
theorem d_mod : OpD G (rI (fun _ j => 0 < j) fun i j => .int (i % j)) modD := d_ii (fun i j h => by simpa using h) fun _ _ _ _ => .int _
theorem d_pow : OpD G (rI CPow fun i j => .int (i ^ j.toNat)) powD := d_ii (fun i j h => by simp at h; exact ⟨h.1.1, h.1.2, h.2⟩) fun _ _ _ _ => .int _
end
/-- * : ints; a text, a list so often -/
def mulOkB (i j : Int) : Bool := (decide (-(2 ^ 64) < i) && decide (i < 2 ^ 64)) || (decide (-(2 ^ 64) < j) && decide (j < 2 ^ 64)) || decide (i.natAbs.log2 + j.natAbs.log2 < 1000000)
def mulD (x y : D) : Option O := match x, y with
  | .int i, .int j => if mulOkB i j = true then some (.fz (.int (i * j))) else none
  | .str a, .int n => if 0 ≤ n ∧ n ≤ 100000 ∧ a.length ≤ 100 then some (.fz (.str (Txt.mul a n))) else none
  | .lst xs, .int n => if 0 ≤ n ∧ n ≤ 10000 ∧ xs.length ≤ 1000 then some (.lst (List.replicate n.toNat xs).flatten) else none
  | _, _ => none
theorem mulOk_small {a : Str} {n : Int} (h0 : 0 ≤ n) (h1 : n ≤ 100000) (h2 : a.length ≤ 100) : MulOk a n := by
  refine ⟨by simp; omega, fun z1 z2 => ?_, fun z1 z2 => ?_⟩
  · have : (100 : Int) ≤ (2 ^ 63 - 1) / n := Int.le_ediv_of_mul_le (by omega) (by omega)
    omega
  · have : a.length * n.toNat ≤ 100 * 100000 := Nat.mul_le_mul h2 (by omega)
    unfold PySem.Builtin.Str.tooLong
    rw [sizeLine_eq]
    simp
    omega
theorem RpA.rep {G : Gi} {F : Hp} {al : List Addr} {vs : List V} {ds : List D} (h : RpA G F al vs ds) : ∀ n : Nat, RpA G F al (List.replicate n vs).flatten (List.replicate n ds).flatten
  | 0 => .nil
  | n + 1 => by rw [List.replicate_succ, List.replicate_succ, List.flatten_cons, List.flatten_cons]; exact h.app (RpA.rep h n)
theorem d_mul {G : Gi} : OpD G rMulM mulD := by
  intro st σ c x y ox oy fx fy o Q r tx ty e q
  have vx := own_view r tx
  have vy := own_view r ty
  generalize ox.toD = dx at *
  generalize oy.toD = dy at *
  unfold mulD at e
  split at e
  · split at e
    · rename_i hc
      cases e
      obtain rfl : x = _ := vx
      obtain rfl : y = _ := vy
      refine .inl ⟨_, _, rfl, rfl, ?_, fin r (.int _) q⟩
      unfold mulOkB at hc
      simp only [Bool.or_eq_true, Bool.and_eq_true, decide_eq_true_eq] at hc
      rcases hc with (h | h) | h
      · exact .inl (.inl h)
      · exact .inl (.inr h)
      · exact .inr h
    · cases e
  · split at e
    · rename_i hc
      cases e
      obtain rfl : x = _ := vx
      obtain rfl : y = _ := vy
      exact .inr (.inl ⟨_, _, rfl, rfl, mulOk_small hc.1 hc.2.1 hc.2.2, fin r (.str _) q⟩)
    · cases e
  · split at e
    · rename_i hc
      cases e
      obtain ⟨a, xs, rfl, hx, rx⟩ := vx
      obtain rfl : y = _ := vy
      refine .inr (.inr ⟨_, _, _, rfl, rfl, hx, by omega, by omega, ?_, finL r (rx.rep _) q⟩)
      have h1 := rx.len
      refine Nat.le_trans (Nat.mul_le_mul (show xs.length ≤ 1000 by omega) (show _ ≤ 10000 by omega)) ?_
      rw [szl]; decide
    · cases e
  · cases e
def negD : D → Option O
  | .int i => some (.fz (.int (-i)))
  | _ => none
theorem d_neg {G : Gi} : UnD G (rU fun i => .int (-i)) negD := by
  intro st σ c x ox fx o Q r tx e q
  have vx := own_view r tx
  generalize ox.toD = dx at *
  unfold negD at e
  split at e
  · cases e
    obtain rfl : x = _ := vx
    exact ⟨_, rfl, fin r (.int _) q⟩
  · cases e
/-! ### equal or not, None or not -/
/-- plain values: compared by themselves -/
def plainEq : D → D → Option Bool
  | .int i, .int j => some (decide (i = j))
  | .str a, .str b => some (decide (a = b))
  | .bl a, .bl b => some (decide (a = b))
  | .non, .non => some true
  | .non, .int _ => some false
  | .int _, .non => some false
  | .non, .str _ => some false
  | .str _, .non => some false
  | .str _, .int _ => some false
  | .int _, .str _ => some false
  | x, y => match D.py false x, D.py false y with
    | some p, some q => if SeqAt.shaped p = true ∧ SeqAt.shaped q = true then some (PyData.eqv p q) else none
    | _, _ => none
def eqD (x y : D) : Option O := (plainEq x y).map fun b => .fz (.bl b)
def neD (x y : D) : Option O := (plainEq x y).map fun b => .fz (.bl (!b))
theorem plain_ok {G : Gi} {st : S} {σ : L2.St} {c : Cf} {x y : V} {ox oy : O} {fx fy : List Addr} {b : Bool} (r : Rel G st σ c) (tx : OwnT G c.F c.al c.H ox x fx) (ty : OwnT G c.F c.al c.H oy y fy)
    (e : plainEq ox.toD oy.toD = some b) : (scal x y = true ∧ b = decide (x = y)) ∨ ∃ d e, Dp G.K c.H x d ∧ Dp G.K c.H y e ∧ SeqAt.shaped d = true ∧ SeqAt.shaped e = true ∧ b = PyData.eqv d e := by
  have vx := own_view r tx
  have vy := own_view r ty
  have dx := fun p h => own_dp (p := p) r tx h
  have dy := fun p h => own_dp (p := p) r ty h
  generalize ox.toD = tdx at *
  generalize oy.toD = tdy at *
  unfold plainEq at e
  split at e
  · cases e; obtain rfl : x = _ := vx; obtain rfl : y = _ := vy; exact .inl ⟨rfl, by simp⟩
  · cases e; obtain rfl : x = _ := vx; obtain rfl : y = _ := vy; exact .inl ⟨rfl, by simp⟩
  · cases e; obtain rfl : x = _ := vx; obtain rfl : y = _ := vy; exact .inl ⟨rfl, by simp⟩
  · cases e; obtain rfl : x = _ := vx; obtain rfl : y = _ := vy; exact .inl ⟨rfl, by simp⟩
  · cases e; obtain rfl : x = _ := vx; obtain rfl : y = _ := vy; exact .inl ⟨rfl, by simp⟩
  · cases e; obtain rfl : x = _ := vx; obtain rfl : y = _ := vy; exact .inl ⟨rfl, by simp⟩
  · cases e; obtain rfl : x = _ := vx; obtain rfl : y = _ := vy; exact .inl ⟨rfl, by simp⟩
  · cases e; obtain rfl : x = _ := vx; obtain rfl : y = _ := vy; exact .inl ⟨rfl, by simp⟩
  · cases e; obtain rfl : x = _ := vx; obtain rfl : y = _ := vy; exact .inl ⟨rfl, by simp⟩
  · cases e; obtain rfl : x = _ := vx; obtain rfl : y = _ := vy; exact .inl ⟨rfl, by simp⟩
  · split at e
    · rename_i p q h1 h2
      split at e
      · rename_i hs
        cases e
        exact .inr ⟨p, q, dx p h1, dy q h2, hs.1, hs.2, rfl⟩
      · cases e
    · cases e
theorem d_eq {G : Gi} : OpD G (rEqM G.K) eqD := by
  intro st σ c x y ox oy fx fy o Q r tx ty e q
  obtain ⟨b, eb, rfl⟩ := map_some e
  rcases plain_ok r tx ty eb with ⟨h1, h2⟩ | ⟨d, e', h1, h2, h3, h4, h5⟩
  · exact .inl ⟨h1, by rw [← h2]; exact fin r (.bl _) q⟩
  · exact .inr ⟨d, e', h1, h2, h3, h4, by rw [← h5]; exact fin r (.bl _) q⟩
theorem d_ne {G : Gi} : OpD G (rNeM G.K) neD := by
  intro st σ c x y ox oy fx fy o Q r tx ty e q
  obtain ⟨b, eb, rfl⟩ := map_some e
  rcases plain_ok r tx ty eb with ⟨h1, h2⟩ | ⟨d, e', h1, h2, h3, h4, h5⟩
  · exact .inl ⟨h1, by rw [← h2]; exact fin r (.bl _) q⟩
  · exact .inr ⟨d, e', h1, h2, h3, h4, by rw [← h5]; exact fin r (.bl _) q⟩
def isNon : D → Bool
  | .non => true
  | _ => false
def isD (x y : D) : Option O := if isNon y = true then some (.fz (.bl (isNon x))) else none
def isntD (x y : D) : Option O := if isNon y = true then some (.fz (.bl (!isNon x))) else none
end L2.Tr
namespace L2.Tr
open PySem PySem.Spec PyProof.Rows L2 L2.Pc
/-! ### statements -/
inductive Fl where
  | nx | bk | ct | rt (o : O)
section
variable (G : Gi) (W : WX)
def xs (c : Cf) : Exc → S → Prop := fun x st' => ∀ σ' v d c', Rel G st' σ' c' → Go c c' → XRp G c' x v d → W v d σ' c'.H
/-- what holds behind a statement -/
def Fw (D : Ends) (c : Cf) (f : Fl) (st' : S) : Prop := match f with
  | .nx => ∀ σ' c', Rel G st' σ' c' → Go c c' → D.nx σ' c'.H
  | .bk => ∀ σ' c', Rel G st' σ' c' → Go c c' → D.bk σ' c'.H
  | .ct => ∀ σ' c', Rel G st' σ' c' → Go c c' → D.ct σ' c'.H
  | .rt o => ∀ v c' fp, Rel G ⟨[], st'.mu⟩ [] c' → Go c c' → OwnT G c'.F c'.al c'.H o v fp → Fresh fp c' → New fp c → D.rt v c'.H
def tS (m : M Fl) : TS := fun D σ H => ∃ c st, c.H = H ∧ Rel G st σ c ∧ wp (m st) (Fw G D c) (xs G W c)
end
theorem _root_.L2.PS.weak {X : Cx} {e : Stmt} {t t' : TS} (h : PS X e t) (k : ∀ D σ H, t' D σ H → t D σ H) : PS X e t' := ⟨fun pins s σ H Q I q => h.run pins s σ H Q I (k _ _ _ q)⟩
theorem _root_.L2.PSs.weak {X : Cx} {e : List Stmt} {t t' : TS} (h : PSs X e t) (k : ∀ D σ H, t' D σ H → t D σ H) : PSs X e t' := ⟨fun pins s σ H Q I q => h.run pins s σ H Q I (k _ _ _ q)⟩
section
variable {X : Cx} {G : Gi} {W : WX} {e : Expr} {st : Stmt} {rest : List Stmt} {m m1 m2 : M Fl} {me : M O} {mt : M Bool} {pos pos' : Pos}
theorem xs.go {c c1 : Cf} (g : Go c c1) {x : Exc} {s : S} (h : xs G W c x s) : xs G W c1 x s := fun σ' v d c' r k q => h σ' v d c' r (g.trans k) q
theorem Fw.go {D : Ends} {c c1 : Cf} (g : Go c c1) {f : Fl} {s : S} (h : Fw G D c f s) : Fw G D c1 f s := by
  cases f with
  | nx => exact fun σ' c' r k => h σ' c' r (g.trans k)
  | bk => exact fun σ' c' r k => h σ' c' r (g.trans k)
  | ct => exact fun σ' c' r k => h σ' c' r (g.trans k)
  | rt o => exact fun v c' fp r k t f n => h v c' fp r (g.trans k) t f (n.go g)
/-- an expression within a statement -/
theorem tS.ex {α β : Type} {Pr : α → Cf → Cf → β → Prop} {D : Ends} {σ : L2.St} {H : Hp} {ma : M α} {f : α → M Fl} (h : tS G W (bnd ma f) D σ H) (R : β → Hp → Prop)
    (k : ∀ a v c c1 st1, Rel G st1 σ c1 → GoE c c1 → Pr a c c1 v → wp (f a st1) (Fw G D c) (xs G W c) → R v c1.H) : tG G W Pr ma σ H R := by
  obtain ⟨c, st, e, r, h⟩ := h
  exact ⟨c, st, e, r, wp_mono (wp_bind.mp h) (fun a st1 q v c1 r1 g p => k a v c c1 st1 r1 g p q) (fun x s q v d c' r' g' x' => q σ v d c' r' g'.toGo x')⟩
theorem tS.at {D : Ends} {σ : L2.St} {c : Cf} {st : S} (r : Rel G st σ c) (h : wp (m st) (Fw G D c) (xs G W c)) : tS G W m D σ c.H := ⟨c, st, rfl, r, h⟩
theorem wpS_go {D : Ends} {c c1 : Cf} (g : Go c c1) {r : R Fl} (h : wp r (Fw G D c) (xs G W c)) : wp r (Fw G D c1) (xs G W c1) := wp_mono h (fun _ _ q => q.go g) (fun _ _ q => q.go g)
def sNil : M Fl := ret .nx
def sSeq (m1 m2 : M Fl) : M Fl := bnd m1 fun f => match f with
  | .nx => m2
  | f => ret f
@[simp] theorem sNil_app (s : S) : sNil s = .ok .nx s := rfl
theorem ss_nil : PSs X [] (tS G W sNil) := (pss_nil (X := X)).weak fun D σ H q => by
  obtain ⟨c, st, rfl, r, h⟩ := q
  exact h σ c r Go.rfl'
theorem seq_t {D : Ends} {σ : L2.St} {H : Hp} (q : tS G W (sSeq m1 m2) D σ H) : tSeq (tS G W m1) (tS G W m2) D σ H := by
  obtain ⟨c, st, rfl, r, h⟩ := q
  refine ⟨c, st, rfl, r, wp_mono (wp_bind.mp h) (fun f st1 q => ?_) (fun _ _ q => q)⟩
  cases f with
  | nx => exact fun σ1 c1 r1 g1 => tS.at r1 (wpS_go g1 q)
  | bk => exact q
  | ct => exact q
  | rt o => exact q
theorem ss_cons (h1 : PS X st (tS G W m1)) (h2 : PSs X rest (tS G W m2)) : PSs X (st :: rest) (tS G W (sSeq m1 m2)) := (pss_cons h1 h2).weak fun _ _ _ q => seq_t q
theorem ss_one (h1 : PS X st (tS G W m1)) : PSs X [st] (tS G W m1) := pss_one h1
def sExpr (me : M O) : M Fl := bnd me fun _ => ret .nx
@[simp] theorem sExpr_app (me : M O) (s : S) : sExpr me s = (me s).bind fun _ => ret .nx := rfl
def sRet (me : M O) : M Fl := bnd me fun o => ret (.rt o)
@[simp] theorem sRet_app (me : M O) (s : S) : sRet me s = (me s).bind fun o => ret (.rt o) := rfl
/-- the slots dropped -/
theorem Rel.drop {st : S} {σ : L2.St} {c : Cf} (r : Rel G st σ c) : Rel G ⟨[], st.mu⟩ [] { c with fs := [] } :=
  ⟨r.sub, fun a h => r.own a (h.elim (fun h => nomatch h) .inr), List.nodup_nil, r.ndc, (fun a h => nomatch h), .nil, r.cells⟩
theorem Go.drop {c : Cf} : Go c { c with fs := [] } := ⟨Mo.refl _ _, fun _ _ _ _ => rfl, fun a h => h.elim (fun h => nomatch h) (fun h => .inr (.inl h)), fun a h => .inl h⟩
theorem Fresh.drop {c : Cf} {fp : List Addr} (f : Fresh fp c) : Fresh fp { c with fs := [] } := ⟨f.nd, f.nf, (fun a _ h => nomatch h), f.nc⟩
theorem s_ret (he : PE X e (tO G W me)) : PS X (.Return (some e) pos) (tS G W (sRet me)) := (ps_ret he).weak fun D σ H q => by
  show tO G W me σ H D.rt
  refine tS.ex q _ (fun o v c c1 st1 r1 g1 p1 w => ?_)
  obtain ⟨fp, t, f, n⟩ := p1
  exact w v { c1 with fs := [] } fp r1.drop (g1.toGo.trans Go.drop) t f.drop n
def sIf (mt : M Bool) (m1 m2 : M Fl) : M Fl := bnd mt fun b => if b = true then m1 else m2
@[simp] theorem sIf_app (mt : M Bool) (m1 m2 : M Fl) (s : S) : sIf mt m1 m2 s = (mt s).bind fun b => if b = true then m1 else m2 := rfl
theorem s_if {c : Expr} {a b : List Stmt} (hc : PT X c (tTs G W mt)) (ha : PSs X a (tS G W m1)) (hb : PSs X b (tS G W m2)) : PS X (.If c a b pos) (tS G W (sIf mt m1 m2)) := (ps_if hc ha hb).weak fun D σ H q => by
  show tTs G W mt σ H fun b H1 => if b = true then tS G W m1 D σ H1 else tS G W m2 D σ H1
  refine tS.ex q _ (fun o v c c1 st1 r1 g1 p1 w => ?_)
  obtain rfl : v = o := p1
  cases v with
  | true => exact tS.at r1 (wpS_go g1.toGo w)
  | false => exact tS.at r1 (wpS_go g1.toGo w)
/-! ### storing to names -/
theorem slots_len {F H : Hp} {al : List Addr} : ∀ {env : List (Option O)} {σ : L2.St} {fp : List Addr}, Slots G F al H env σ fp → env.length = σ.length
  | _, _, _, .nil => rfl
  | _, _, _, .un h => congrArg (· + 1) (slots_len h)
  | _, _, _, .so _ h => congrArg (· + 1) (slots_len h)
theorem setS_big : ∀ (env : List (Option O)) (i : Nat) (x : Option O), env.length ≤ i → setS env i x = env
  | [], _, _, _ => rfl
  | _ :: _, 0, _, h => absurd h (by simp)
  | a :: l, i + 1, x, h => by rw [setS, setS_big l i x (by simpa using h)]
/-- a slot stored to -/
theorem rel_put {st : S} {σ : L2.St} {c0 c : Cf} {i : Nat} {o : O} {v : V} {fp : List Addr} (r : Rel G st σ c) (t : OwnT G c.F c.al c.H o v fp) (f : Fresh fp c) (g : Go c0 c) (n : New fp c0) :
    ∃ c', c'.H = c.H ∧ Rel G ⟨setS st.env i (some o), st.mu⟩ (σ.set i (some v)) c' ∧ Go c0 c' ∧ c'.F = c.F ∧ c'.al = c.al ∧ (∀ a, a ∉ fp → a ∉ c.fs → a ∉ c'.fs) ∧ c'.fc = c.fc := by
  by_cases hi : i < st.env.length
  · obtain ⟨f1, f2, f3, e, _, q⟩ := slots_put i r.slots
    obtain ⟨n1, n2, n3⟩ := nd_ends (by rw [← e]; exact r.nds)
    have sub : ∀ a, a ∈ f1 ++ f3 → a ∈ c.fs := fun a h => by rw [e]; exact mem_ends h
    have sub' : ∀ a, a ∈ f1 ++ (fp ++ f3) → a ∈ fp ∨ a ∈ f1 ++ f3 := fun a h => by
      rcases List.mem_append.mp h with k | k
      · exact .inr (List.mem_append_left _ k)
      · rcases List.mem_append.mp k with k | k
        · exact .inl k
        · exact .inr (List.mem_append_right _ k)
    refine ⟨{ c with fs := f1 ++ (fp ++ f3) }, rfl, ⟨r.sub, fun a h => ?_, ?_, r.ndc, fun a h => ?_, (q c.F c.H c.al (Mo.refl _ _) fun _ _ => rfl).1 hi o v fp t, r.cells⟩,
      ⟨g.mo, g.fr, fun a h => ?_, g.nF⟩, rfl, rfl, fun a h1 h2 h3 => (sub' a h3).elim h1 (fun z => h2 (sub a z)), rfl⟩
    · rcases h with h | h
      · exact (sub' a h).elim (f.nf a) (fun z => r.own a (.inl (sub a z)))
      · exact r.own a (.inr h)
    · have h1 := List.nodup_append.mp n1
      refine List.nodup_append.mpr ⟨h1.1, List.nodup_append.mpr ⟨f.nd, h1.2.1, fun a ha b hb ab => ?_⟩, fun a ha b hb ab => ?_⟩
      · subst ab; exact f.ns a ha (sub a (List.mem_append_right _ hb))
      · subst ab
        rcases List.mem_append.mp hb with k | k
        · exact f.ns a k (sub a (List.mem_append_left _ ha))
        · exact h1.2.2 a ha a k rfl
    · exact (sub' a h).elim (f.nc a) (fun z => r.dis a (sub a z))
    · rcases h with h | h
      · exact (sub' a h).elim (n a) (fun z => g.fp a (.inl (sub a z)))
      · exact g.fp a (.inr h)
  · have hl := slots_len r.slots
    refine ⟨c, rfl, ?_, g, rfl, rfl, fun _ _ h => h, rfl⟩
    rw [setS_big _ _ _ (by omega), List.set_eq_of_length_le (by omega)]
    exact r
def sAsg (i : Nat) (me : M O) : M Fl := bnd me fun o s => .ok .nx ⟨setS s.env i (some o), s.mu⟩
@[simp] theorem sAsg_app (i : Nat) (me : M O) (s : S) : sAsg i me s = (me s).bind fun o s => .ok .nx ⟨setS s.env i (some o), s.mu⟩ := rfl
theorem asg_t {i : Nat} {D : Ends} {σ : L2.St} {H : Hp} (q : tS G W (sAsg i me) D σ H) : tAsg (tO G W me) (gName i) D σ H := by
  show tO G W me σ H fun v H1 => D.nx (σ.set i (some v)) H1
  refine tS.ex q _ (fun o v c c1 st1 r1 g1 p1 w => ?_)
  obtain ⟨fp, t, f, n⟩ := p1
  obtain ⟨c', e, r', g', _⟩ := rel_put (i := i) r1 t f g1.toGo n
  have w : Fw G D c .nx _ := w
  rw [← e]
  exact w _ c' r' g'
theorem s_asg {i : Nat} {x : Str} {pos' : Pos} (hN : X.N.Nodup) (hi : X.N[i]? = some x) (hx : Loc X.env.scope x) (he : PE X e (tO G W me)) (hs : swapsWith e (some (.Name x pos')) pos.line X.env = pure false := by rfl)
    (hf : X.fn x = true ∨ X.env.scope.names.lookup x = some .local := by first | exact .inl rfl | exact .inr rfl | assumption) : PS X (.Assign [.Name x pos'] e pos) (tS G W (sAsg i me)) :=
  (ps_set hN hi hx he hs hf).weak fun _ _ _ q => asg_t q
/-! ### targets: names, tuples of targets -/
/-- a target's store of a frozen value -/
abbrev MT := D → S → Option S
def gN (i : Nat) : MT := fun d s => some ⟨setS s.env i (some (.fz d)), s.mu⟩
def gsN : List MT → List D → S → Option S
  | [], [], s => some s
  | t :: ts, d :: ds, s => (t d s).bind (gsN ts ds)
  | _, _, _ => none
def seqOf : D → Option (List D)
  | .tup ds => some ds
  | .tuk ds => some ds
  | .tun ds => some ds
  | _ => none
def gT (ts : List MT) : MT := fun d s => (seqOf d).bind fun ds => gsN ts ds s
/-- the reading of a target, over trees -/
def TgOk (G : Gi) (g : TG) (t : MT) : Prop := ∀ (st st' : S) (σ : L2.St) (c : Cf) (v : V) (d : D) (Q : L2.St → Hp → Prop), Rel G st σ c → Rp G c.F c.al v d → t d st = some st' →
  (∀ σ' c', Rel G st' σ' c' → c'.H = c.H → c'.F = c.F → c'.al = c.al → c'.fc = c.fc → (∀ a ∈ c'.fs, a ∈ c.fs) → Q σ' c'.H) → g v σ c.H Q
def TgsOk (G : Gi) (g : TGs) (t : List MT) : Prop := ∀ (st st' : S) (σ : L2.St) (c : Cf) (vs : List V) (ds : List D) (Q : L2.St → Hp → Prop), Rel G st σ c → RpA G c.F c.al vs ds → gsN t ds st = some st' →
  (∀ σ' c', Rel G st' σ' c' → c'.H = c.H → c'.F = c.F → c'.al = c.al → c'.fc = c.fc → (∀ a ∈ c'.fs, a ∈ c.fs) → Q σ' c'.H) → g vs σ c.H Q
theorem tg_name {i : Nat} : TgOk G (gName i) (gN i) := by
  intro st st' σ c v d Q r h e q
  cases e
  obtain ⟨c', e, r', g', eF, eA, hs, hc⟩ := rel_put (i := i) r (.fz h) (Fresh.nil _) (Go.rfl' (c := c)) (New.nil _)
  show Q (σ.set i (some v)) c.H
  rw [← e]
  exact q _ c' r' e eF eA hc (fun a ha => Classical.byContradiction fun z => hs a (fun k => nomatch k) z ha)
theorem tgs_nil : TgsOk G gNil [] := by
  intro st st' σ c vs ds Q r h e q
  cases h with
  | nil => cases e; exact ⟨rfl, q σ c r rfl rfl rfl rfl fun _ h => h⟩
  | cons _ _ => cases e
theorem tgs_cons {g : TG} {gs : TGs} {t : MT} {ts : List MT} (h1 : TgOk G g t) (h2 : TgsOk G gs ts) : TgsOk G (gCons g gs) (t :: ts) := by
  intro st st' σ c vs ds Q r h e q
  cases h with
  | nil => cases e
  | @cons v vs d ds h hs =>
    obtain ⟨s1, e1, e2⟩ := bind_some (show (t d st).bind (gsN ts ds) = some st' from e)
    refine ⟨v, vs, rfl, h1 st s1 σ c v d _ r h e1 (fun σ1 c1 r1 k1 k2 k3 k4 k5 => ?_)⟩
    refine h2 s1 st' σ1 c1 vs ds Q r1 (by rw [k2, k3]; exact hs) e2 (fun σ' c' r' j1 j2 j3 j4 j5 => ?_)
    exact q σ' c' r' (j1.trans k1) (j2.trans k2) (j3.trans k3) (j4.trans k4) (fun a ha => k5 a (j5 a ha))
theorem tg_tup {gs : TGs} {ts : List MT} {n : Nat} (h : TgsOk G gs ts) (hn : ts.length = n) : TgOk G (gTup G.K n gs) (gT ts) := by
  intro st st' σ c v d Q r hv e q
  obtain ⟨ds, e1, e2⟩ := bind_some e
  have len : ∀ (ts : List MT) (ds : List D) (s s' : S), gsN ts ds s = some s' → ts.length = ds.length := by
    intro ts
    induction ts with
    | nil => intro ds s s' h; cases ds with
      | nil => rfl
      | cons _ _ => cases h
    | cons t ts ih => intro ds s s' h; cases ds with
      | nil => cases h
      | cons d ds =>
        obtain ⟨s1, _, h2⟩ := bind_some (show (t d s).bind (gsN ts ds) = some s' from h)
        rw [List.length_cons, List.length_cons, ih ds s1 s' h2]
  have hl := len _ _ _ _ e2
  have vv := rp_view r hv
  cases d with
  | tup ds' =>
    cases e1
    obtain ⟨a, xs, rfl, hx, rx, _⟩ := vv
    exact ⟨a, xs, rfl, hx, by rw [rx.len]; omega, h st st' σ c xs _ Q r rx e2 q⟩
  | tuk ds' =>
    cases e1
    obtain ⟨a, xs, rfl, hx, rx⟩ := vv
    exact ⟨a, xs, rfl, hx, by rw [rx.len]; omega, h st st' σ c xs _ Q r rx e2 q⟩
  | tun ds' =>
    cases e1
    obtain ⟨a, xs, rfl, hx, rx, _⟩ := vv
    exact ⟨a, xs, rfl, hx, by rw [rx.len]; omega, h st st' σ c xs _ Q r rx e2 q⟩
  | _ => cases e1
def sAsgT (t : MT) (me : M D) : M Fl := bnd me fun d s => match t d s with
  | some s' => .ok .nx s'
  | none => .no
@[simp] theorem sAsgT_app (t : MT) (me : M D) (s : S) : sAsgT t me s = (me s).bind fun d s => match t d s with
  | some s' => .ok .nx s'
  | none => .no := rfl
theorem go_tg {c c' : Cf} (k1 : c'.H = c.H) (k2 : c'.F = c.F) (k3 : c'.al = c.al) (k4 : c'.fc = c.fc) (k5 : ∀ a ∈ c'.fs, a ∈ c.fs) : Go c c' :=
  ⟨.of (fun a o h => by rw [k2]; exact h) (fun n a h => by rw [k3]; exact h), fun a _ _ _ => by rw [k1], fun a h => h.elim (fun h => .inl (k5 a h)) (fun h => .inr (.inl (by rw [← k4]; exact h))), fun a h => .inl (by rw [← k2]; exact h)⟩
theorem asgT_t {g : TG} {t : MT} {md : M D} (hg : TgOk G g t) {D : Ends} {σ : L2.St} {H : Hp} (q : tS G W (sAsgT t md) D σ H) : tAsg (tD G W md) g D σ H := by
  show tD G W md σ H fun v H1 => g v σ H1 D.nx
  refine tS.ex q _ (fun d v c c1 st1 r1 g1 p1 w => ?_)
  cases e : t d st1 with
  | none => rw [e] at w; exact w.elim
  | some s' =>
    rw [e] at w
    have w : Fw G D c .nx s' := w
    exact hg st1 s' σ c1 v d D.nx r1 p1 e (fun σ' c' r' k1 k2 k3 k4 k5 => w σ' c' r' (g1.toGo.trans (go_tg k1 k2 k3 k4 k5)))
theorem s_asgT {tg : Expr} {g : TG} {t : MT} {md : M D} (he : PE X e (tD G W md)) (hg : PG X tg g) (ht : TgOk G g t) (hs : swapsWithSole [tg] e pos.line X.env = pure false := by rfl) (hw : swappedStores [tg] e X.env = pure none := by rfl)
    (h1 : (assignEach [tg] X.env).map (·.2) = [assign tg X.env] := by rfl) : PS X (.Assign [tg] e pos) (tS G W (sAsgT t md)) := (ps_asg he hg hs hw h1).weak fun _ _ _ q => asgT_t ht q
end
end L2.Tr
namespace L2.Tr
open PySem PySem.Spec PyProof.Rows L2 L2.Pc
/-! ### defs -/
abbrev MF := List D → List O → R O
def SpM (G : Gi) (n : Nat) (m : MF) : Sp := fun vs H Q E => ∃ c ds mu, c.H = H ∧ c.fs = [] ∧ Rel G ⟨[], mu⟩ [] c ∧ RpA G c.F c.al vs ds ∧ vs.length = n ∧
  wp (m ds mu) (fun o s' => ∀ v c' fp, Rel G ⟨[], s'.mu⟩ [] c' → Go c c' → OwnT G c'.F c'.al c'.H o v fp → Fresh fp c' → New fp c → Q v c'.H)
    (fun x s' => ∀ v d c', Rel G ⟨[], s'.mu⟩ [] c' → Go c c' → XRp G c' x v d → E v d c'.H)
def env0 (N : Nat) (ds : List D) : List (Option O) := ds.map (fun d => some (.fz d)) ++ List.replicate (N - ds.length) none
/-- a def's body as a function of its arguments -/
def fnM (N : Nat) (body : M Fl) : MF := fun ds mu => match body ⟨env0 N ds, mu⟩ with
  | .ok (.rt o) s => .ok o ⟨[], s.mu⟩
  | .ok .nx s => .ok (.fz .non) ⟨[], s.mu⟩
  | .ok _ _ => .no
  | .exc x s => .exc x ⟨[], s.mu⟩
  | .no => .no
structure FnT (P : Program) (w : World) (G : Gi) (base : Heap) (gb : Bool) (k : Nat) (f : Addr) (fd : FuncData) (ps : List Str) (m : MF) : Prop where
  go : ∀ (A : Around) (outer : List Env) (s : Shared) (H : Hp) (args : Args) (us : List Value)
    (vs : List V) (Q : VK) (E : XK), (gb = true → A.guards = some []) → Room k A → Env0 P w G.K G.mg base A outer s H →
    BindsTo s fd args (ps.zip us) → Vals vs us → SpM G ps.length m vs H Q E →
    codeAny (model P w) A (.call (.ref f) args) (CR (L2.CX P w) outer P w H s Q E) s
section
variable {P : Program} {w : World} {G : Gi} {base : Heap} {gb : Bool} {k j : Nat} {f : Addr} {fd : FuncData} {N ps : List Str} {m m' : MF}
theorem FnT.mono (F : FnT P w G base gb j f fd ps m) (h : j ≤ k) : FnT P w G base gb k f fd ps m :=
  ⟨fun A o s H a us vs Q E g r => F.go A o s H a us vs Q E g (r.mono h)⟩
theorem slots_start {c : Cf} : ∀ {vs : List V} {ds : List D} (n : Nat), RpA G c.F c.al vs ds → Slots G c.F c.al c.H (ds.map (fun d => some (.fz d)) ++ List.replicate n none) (vs.map some ++ List.replicate n none) []
  | _, _, 0, .nil => .nil
  | _, _, n + 1, .nil => by rw [List.replicate_succ, List.replicate_succ]; exact .un (slots_start (vs := []) (ds := []) n .nil)
  | _, _, n, .cons h hs => .so (fp := []) (fq := []) (.fz h) (slots_start n hs)
/-- the def's body, as a term of rules -/
theorem Df.okT {x qual : Str} {st : Stmt} {body : M Fl} (F : Df G.K x qual st f fd) (S : FnScope N ps (defScope st))
    (hb : ∀ (cdv : Value) (A : Around) (outer : List Env) (s : Shared) (H : Hp) (E : XK),
      (gb = true → (A.deeper (envOfC qual (defScope st) s.heap.objs.size f cdv)).guards = some []) →
      Room k (A.deeper (envOfC qual (defScope st) s.heap.objs.size f cdv)) →
      PSs (cxOf (L2.CX P w) P w G.K G.mg base N qual (defScope st) f cdv A outer s H E) (defBody st) (tS G (fun v d _ H => E v d H) body)) :
    FnT P w G base gb (k + 1) f fd ps (fnM N.length body) := by
  obtain ⟨oc, od, dV, kV, doc, pm, an, cdv, ct, osl, rfl, lk, hc⟩ := F.ex
  refine ⟨fun A outer s H args us vs Q E hga hr e0 hbi r hsp => ?_⟩
  obtain ⟨c, ds, mu, rfl, hfs, rl, rp, hlen, h⟩ := hsp
  have kin : G.K.In s.heap := e0.mod.kin.keeps (fun b o e => (e0.bs b o e).1)
  have hlm : s.heap.NoLimit := e0.mod.nolimit.keeps (fun b o e => (e0.bs b o e).1)
  have kinds : ∀ y ∈ ps.zip us, (defScope st).names.lookup y.1 = some .local ∨
      ((defScope st).names.lookup y.1 = some .cell ∧
        ((cellsFrom (s.heap.objs.size + 1) (defScope st).names []).lookup y.1).isSome = true) := by
    rintro ⟨n, v⟩ hy
    rcases S.par n (List.of_mem_zip hy).1 with h1 | h1
    · left; exact h1
    · right; exact ⟨h1, PySem.W.cellsFrom_some _ _ _ (Or.inl h1)⟩
  apply codeAny_call_function hr.depth (kin _ _ lk) rfl S.co S.gen rfl (PySem.W.codeRec_of kin hc) (hbi _ _ _ _ ?_)
  apply wpAny_newFunctionEnv_cells S.kind kinds
  intro env he s1 hx
  subst he
  refine ⟨hlm.keeps hx.toInCall.keep, codeAny_func ?_⟩
  have ht := hb cdv A outer s c.H E (fun z => guards_deep (hga z)) (hr.deeper _)
  have I0 : Inv (cxOf (L2.CX P w) P w G.K G.mg base N qual (defScope st) f cdv A outer s c.H E) [] (start N vs) c.H s1 :=
    inv_start S hr.hd e0 hlen r hx
  have hq : tS G (fun v d _ H => E v d H) body { nx := fun _ H' => Q .non H', rt := Q } (start N vs) c.H := by
    refine ⟨c, ⟨env0 N.length ds, mu⟩, rfl, ⟨rl.sub, rl.own, rl.nds, rl.ndc, rl.dis, ?_, rl.cells⟩, ?_⟩
    · rw [hfs]
      unfold env0 start
      rw [← rp.len]
      exact slots_start _ rp
    · unfold fnM at h
      cases e : body ⟨env0 N.length ds, mu⟩ with
      | no => rw [e] at h; exact h
      | exc x s' =>
        rw [e] at h
        exact fun σ' v d c' r' g' x' => h v d { c' with fs := [] } r'.drop (g'.trans Go.drop) x'
      | ok fl s' =>
        rw [e] at h
        cases fl with
        | rt o => exact fun v c' fp r' g' t f n => h v c' fp r' g' t f n
        | nx => exact fun σ' c' r' g' => h .non { c' with fs := [] } [] r'.drop (g'.trans Go.drop) (.fz .non) (Fresh.nil _) (New.nil _)
        | bk => exact h.elim
        | ct => exact h.elim
  refine wpAny_mono (ht.run [] s1 (start N vs) c.H _ I0 hq) ?_ (fun e s' hs => hs)
  intro fl s' hs
  cases fl with
  | ret u =>
    obtain ⟨v, σ', H', J, rv, q⟩ := hs
    exact ⟨v, H', J.os, J.bare, J.base, J.hok, rv, q⟩
  | next =>
    obtain ⟨σ', H', J, q⟩ := hs
    exact ⟨V.non, H', J.os, J.bare, J.base, J.hok, rfl, q⟩
  | brk => obtain ⟨_, _, _, q⟩ := hs; exact q.elim
  | cont => obtain ⟨_, _, _, q⟩ := hs; exact q.elim
end
/-! ### calls of defs -/
/-- how the written arguments and keywords become the parameters' values -/
structure BdD (K : PySem.W.Frag) (fd : FuncData) (ps : List Str) (n : Nat) (ks : List Str) (gD : List D → List D → List D) : Prop where
  ex : ∃ (g : List Value → List Value → List Value) (gV : List V → List V → List V), KBn K fd ps n ks g gV ∧
    (∀ vs zs, vs.length = n → zs.length = ks.length → (gV vs zs).length = ps.length) ∧
    ∀ (G : Gi) (F : Hp) (al : List Addr) vs zs ds es, RpA G F al vs ds → RpA G F al zs es → vs.length = n → zs.length = ks.length → RpA G F al (gV vs zs) (gD ds es)
structure KnT (P : Program) (w : World) (G : Gi) (base : Heap) (gb : Bool) (x : Str) (k n : Nat) (ks : List Str) (gD : List D → List D → List D) (m : MF) : Prop where
  ex : ∃ (f : Addr) (fd : FuncData) (ps : List Str), FnT P w G base gb k f fd ps m ∧ G.mg x = some (.ref f) ∧ PySem.W.keepIn G.K (.ref f) = true ∧ BdD G.K fd ps n ks gD
/-- a def's function run on trees -/
def runF (m : MF) (ds : List D) : M O := fun s => match m ds s.mu with
  | .ok o s' => .ok o ⟨s.env, s'.mu⟩
  | .exc x s' => .exc x ⟨s.env, s'.mu⟩
  | .no => .no
theorem rel_lift {G : Gi} {st : S} {σ : L2.St} {c c2 : Cf} {mu' : List O} (r : Rel G st σ c) (r2 : Rel G ⟨[], mu'⟩ [] c2) (g : Go { c with fs := [] } c2) :
    Rel G ⟨st.env, mu'⟩ σ { c2 with fs := c.fs } ∧ GoE c { c2 with fs := c.fs } := by
  have there : ∀ a ∈ c.fs, c.H a ≠ none := fun a h => r.there (.inl h)
  have kp : ∀ a ∈ c.fs, c2.H a = c.H a ∧ a ∉ c2.fc := fun a h => by
    obtain ⟨e, _, n⟩ := g.keep (c := { c with fs := [] }) (there a h) (fun z => nomatch z) (r.dis a h)
    exact ⟨e, n⟩
  refine ⟨⟨r2.sub, fun a h => ?_, r.nds, r2.ndc, fun a h => (kp a h).2, r.slots.mo g.mo fun a h => (kp a h).1, r2.cells⟩, ?_⟩
  · rcases h with h | h
    · cases e : c2.F a with
      | none => rfl
      | some o =>
        rcases g.nF a (by rw [e]; exact Option.some_ne_none _) with z | z | z | z
        · exact absurd (r.own a (.inl h)) z
        · cases z
        · exact absurd z (r.dis a h)
        · exact absurd z (r.noNT (.inl h))
    · exact r2.own a (.inr h)
  · exact { mo := g.mo, fr := fun a h h1 h2 => g.fr a h (fun z => nomatch z) h2,
            fp := fun a h => h.elim .inl fun h => (g.fp a (.inr h)).elim (fun z => nomatch z) .inr,
            nF := fun a h => (g.nF a h).elim .inl fun z => z.elim (fun z => nomatch z) fun z => .inr (.inr z),
            hs := fun a h _ => (kp a h).1, sf := fun _ h => h, cf := fun a h k => absurd h (kp a k).2 }
theorem call_t {G : Gi} {W : WX} {m : MF} {st : S} {σ : L2.St} {c : Cf} {vs : List V} {ds : List D} {Q : VK} {n : Nat} (r : Rel G st σ c) (rp : RpA G c.F c.al vs ds) (hn : vs.length = n)
    (h : wp (runF m ds st) (fun o st' => ∀ v c', Rel G st' σ c' → GoE c c' → PrO G o c c' v → Q v c'.H) (xw G W σ c)) : SpM G n m vs c.H Q (WE W σ) := by
  refine ⟨{ c with fs := [] }, ds, st.mu, rfl, rfl, r.drop, rp, hn, ?_⟩
  unfold runF at h
  cases e : m ds st.mu with
  | no => rw [e] at h; exact h
  | exc x s' =>
    rw [e] at h
    intro v d c2 r2 g x2
    obtain ⟨r3, g3⟩ := rel_lift r r2 g
    exact h v d { c2 with fs := c.fs } r3 g3 x2
  | ok o s' =>
    rw [e] at h
    intro v c2 fp r2 g t f nw
    obtain ⟨r3, g3⟩ := rel_lift r r2 g
    refine h v { c2 with fs := c.fs } r3 g3 ⟨fp, t, ⟨f.nd, f.nf, fun a ha hs => ?_, f.nc⟩, fun a ha => ?_⟩
    · rcases nw a ha with z | z | z
      · cases z
      · exact r.dis a hs z
      · exact r.there (.inl hs) z
    · rcases nw a ha with z | z | z
      · cases z
      · exact .inr (.inl z)
      · exact .inr (.inr z)
section
variable {X : Cx} {G : Gi} {W : WX} {gb : Bool} {k n : Nat} {ks : List Str} {gD : List D → List D → List D} {m : MF} {x : Str} {p pos : Pos} {e : Expr} {es : List Expr} {kws : List Keyword} {ma mk : M (List D)}
def xCall (m : MF) (gD : List D → List D → List D) (n k : Nat) (ma mk : M (List D)) : M O := bnd ma fun ds => bnd mk fun es => if ds.length = n ∧ es.length = k then runF m (gD ds es) else fun _ => .no
@[simp] theorem xCall_app (m : MF) (gD : List D → List D → List D) (n k : Nat) (ma mk : M (List D)) (s : S) :
    xCall m gD n k ma mk s = (ma s).bind fun ds s1 => (mk s1).bind fun es => if ds.length = n ∧ es.length = k then runF m (gD ds es) else fun _ => .no := rfl
theorem runT {pins : List (Addr × Obj)} {σ : L2.St} {H : Hp} {s : Shared} {Q : VK} {us ws : List Value} {vs zs : List V}
    {f : Addr} {fd : FuncData} {ps : List Str} {g : List Value → List Value → List Value} {gV : List V → List V → List V} (hK : X.K = G.K) (hM : X.mg = G.mg)
    (F : FnT X.prog X.w G X.base gb k f fd ps m) (hga : gb = true → X.A.guards = some []) (hr : Room k X.A)
    (hb : KBn G.K fd ps n ks g gV) (hx : ∀ σ, PassesAt (L2.CX X.prog X.w) X σ (WE W σ)) (I : Inv X pins σ H s) (r : Vals vs us) (rz : Vals zs ws)
    (hn : vs.length = n) (hm : zs.length = ks.length) (h : SpM G ps.length m (gV vs zs) H Q (WE W σ)) :
    wpAny (model X.prog X.w) X.A (call (.ref f) us (ks.zip ws)) (EP X pins σ Q) X.xe s := by
  have hu : us.length = n := by rw [← r.length]; exact hn
  have hw : ws.length = ks.length := by rw [← rz.length]; exact hm
  apply wpAny_call
  have kin := I.kIn
  rw [hK] at kin
  have env := I.env0
  rw [hK, hM] at env
  refine codeAny_mono (F.go X.A X.stack s H _ (g us ws) (gV vs zs) Q (WE W σ) hga hr env (hb.to s us ws kin hu hw) (hb.rel r rz) h) ?_
  intro res s' hq
  cases res with
  | error er => exact hx σ pins H s er s' I hq
  | ok fl =>
    cases fl with
    | ret u => exact I.after hq
    | next => exact hq.elim
    | brk => exact hq.elim
    | cont => exact hq.elim
/-- the reading of a call -/
theorem call_rd {vs : List V} {ds es' : List D} {zs : List V} {σ : L2.St} {c : Cf} {st : S} {Q : VK} {gV : List V → List V → List V} {ps : List Str}
    (hl : ∀ vs zs, vs.length = n → zs.length = ks.length → (gV vs zs).length = ps.length)
    (hd : ∀ (G : Gi) (F : Hp) (al : List Addr) vs zs ds es, RpA G F al vs ds → RpA G F al zs es → vs.length = n → zs.length = ks.length → RpA G F al (gV vs zs) (gD ds es))
    (r : Rel G st σ c) (r1 : RpA G c.F c.al vs ds) (r2 : RpA G c.F c.al zs es')
    (h : wp ((if ds.length = n ∧ es'.length = ks.length then runF m (gD ds es') else fun _ => .no) st) (fun o st' => ∀ v c', Rel G st' σ c' → GoE c c' → PrO G o c c' v → Q v c'.H) (xw G W σ c)) :
    vs.length = n ∧ zs.length = ks.length ∧ SpM G ps.length m (gV vs zs) c.H Q (WE W σ) := by
  split at h
  · rename_i hc
    have h1 : vs.length = n := by rw [r1.len]; exact hc.1
    have h2 : zs.length = ks.length := by rw [r2.len]; exact hc.2
    exact ⟨h1, h2, call_t r (hd _ _ _ _ _ _ _ r1 r2 h1 h2) (hl _ _ h1 h2) h⟩
  · exact h.elim
theorem x_call (hK : X.K = G.K) (hM : X.mg = G.mg) (F : KnT X.prog X.w G X.base gb x k n ks gD m) (hga : gb = true → X.A.guards = some []) (hr : Room k X.A)
    (hg : Gl X x) (hx : ∀ σ, PassesAt (L2.CX X.prog X.w) X σ (WE W σ)) (ha : PA X (e :: es) (tAs G W ma)) (hkw : PK X kws (tAs G W mk))
    (hall : (backToKw pos (keywordEach kws X.env)).all (·.1.isSome) = true := by rfl)
    (hks : (backToKw pos (keywordEach kws X.env)).filterMap (·.1) = ks := by rfl)
    (hdb : (x == ("__debug__" : Str)) = false := by decide)
    (he : starEach (e :: es) X.env = (false, eval e X.env) :: starEach es X.env := by rfl)
    (hpl : ((backTo pos (starEach (e :: es) X.env)).any (·.1) || (backToKw pos (keywordEach kws X.env)).any (·.1.isNone)) = false := by rfl) :
    PE X (.Call (.Name x p) (e :: es) kws pos) (tO G W (xCall m gD n ks.length ma mk)) := by
  obtain ⟨f, fd, ps, FT, hm, hk, g, gV, hb, hl, hd⟩ := F.ex
  refine ⟨fun pins s σ H Q I q => wpAny_Call_Name_kw (ld_glob I hg (by rw [hM]; exact hm) ?_ hdb)⟩
  apply PySem.W.callWith_KW (h₀ := X.base) I.ok.mod.kin (by rw [hK]; exact hk) hall ?_ hpl he
  refine thn (ha.run pos pins s σ H (fun vs H1 => tAs G W mk σ H1 fun zs H2 => vs.length = n ∧ zs.length = ks.length ∧ SpM G ps.length m (gV vs zs) H2 Q (WE W σ)) I ?_) ?_
  · refine q.seq bkO _ (fun ds vs c c1 st1 r1 g1 p1 w => ?_)
    refine tG.seq1 bkO r1 w _ (fun es' zs c2 st2 r2 g2 p2 w2 => ?_)
    exact call_rd hl hd r2 (p1.mo g2.mo) p2 w2
  · rintro us s1 ⟨vs, H1, I1, r, q⟩
    refine thn (hkw.run pos pins s1 σ H1 _ I1 q) ?_
    rintro ws s2 ⟨zs, H2, I2, rz, q1, q2, q3⟩
    refine ⟨I2.kIn, ?_⟩
    rw [hks]
    exact runT hK hM FT hga hr hb hx I2 r rz q1 q2 q3
end
end L2.Tr
namespace L2.Tr
open PySem PySem.Spec PyProof.Rows L2 L2.Pc
/-! ### what is walked -/
/-- the iterator gives these, whatever the code between does -/
def Srcs (G : Gi) (J : It) (ds : List D) (c0 : Cf) : Prop := ∀ (st : S) (σ : L2.St) (c : Cf), Rel G st σ c → Go c0 c →
  (∀ i d, ds[i]? = some d → J.go i c.H ∧ ∀ x H', J.yld i c.H x H' → ∃ c', c'.H = H' ∧ Rel G st σ c' ∧ GoE c c' ∧ Rp G c'.F c'.al x d) ∧ J.stop ds.length c.H
def PrI (G : Gi) : List D → Cf → Cf → It → Prop := fun ds _ c' J => Srcs G J ds c'
abbrev tI (G : Gi) (W : WX) (mi : M (List D)) : TI := tG G W (PrI G) mi
theorem _root_.L2.PI.weak {X : Cx} {tg e : Expr} {t t' : TI} (h : PI X tg e t) (k : ∀ σ H Q, t' σ H Q → t σ H Q) : PI X tg e t' := ⟨fun pins s σ H Q I q => h.run pins s σ H Q I (k _ _ _ q)⟩
/-- things that may be walked by their places -/
def seqI : D → Option (List D)
  | .lst ds => some ds
  | .lsk ds => some ds
  | .tup ds => some ds
  | .tuk ds => some ds
  | .tun ds => some ds
  | .str s => some (s.cps.toList.map fun c => .str ⟨#[c]⟩)
  | _ => none
def iAny (K : PySem.W.Frag) (te : TE) : TI := fun σ H R => te σ H fun x H1 =>
  (∃ a, x = .ref a ∧ (∃ xs, SqL K H1 a xs) ∧ R (Itl K a) H1) ∨ (∃ a, x = .ref a ∧ (∃ xs, SqT K H1 a xs) ∧ R (Itt K a) H1) ∨ ∃ z, x = .str z ∧ R (Its z) H1
theorem pi_any {X : Cx} {tg l : Expr} {tl : TE} {K : PySem.W.Frag} (hK : X.K = K) (hl : PE X l tl) : PI X tg l (iAny K tl) := by
  subst hK
  refine ⟨fun pins s σ H R I h => ?_⟩
  refine thn (hl.run pins s σ H _ I h) fun v s1 ⟨x, H1, I1, r1, q1⟩ => ?_
  rcases q1 with ⟨a, e, ⟨xs, hq⟩, q⟩ | ⟨a, e, ⟨xs, hq⟩, q⟩ | ⟨z, e, q⟩
  · subst e
    cases r1
    obtain ⟨its, rv, p, hz⟩ := I1.list hq
    refine wpAny_pyIter_list p.isList ?_
    refine ⟨s1.heap.objs.size, [s1.heap.objs.size], _, _, H1, rfl, I1.kept (t' := s1.toks) fun b o e => Heap.get?_push_of_some _ e, turn_list a _, ⟨_, Heap.get?_push_size _ rfl, rfl, rfl⟩, fun b hb => ?_, q⟩
    have e : b = s1.heap.objs.size := by simpa using hb
    subst e
    exact I1.fpOk (Nat.le_refl _) (I1.hok.fresh (Nat.le_refl _))
  · subst e
    cases r1
    obtain ⟨its, rv, p, hz⟩ := I1.tuple hq
    refine wpAny_pyIter_tuple (show s1.heap.IsTuple a its.toArray from p) ?_
    refine ⟨s1.heap.objs.size, [s1.heap.objs.size], _, _, H1, rfl, I1.kept (t' := s1.toks) fun b o e => Heap.get?_push_of_some _ e, turn_tuple a _, ⟨_, Heap.get?_push_size _ rfl, rfl, rfl⟩, fun b hb => ?_, q⟩
    have e : b = s1.heap.objs.size := by simpa using hb
    subst e
    exact I1.fpOk (Nat.le_refl _) (I1.hok.fresh (Nat.le_refl _))
  · subst e
    obtain ⟨t, rfl⟩ := r1
    cases ha : z.cps.all (· < 128)
    · exact wpAny_pyIter_wide ha (pi_one (tk := s1.toks) I1 _ (turn_str _ z t "str_iterator" (.inr rfl)) ⟨_, Heap.get?_push_size _ rfl, rfl, rfl⟩ q)
    · exact wpAny_pyIter_ascii ha (pi_one (tk := s1.toks) I1 _ (turn_str _ z t "str_ascii_iterator" (.inl rfl)) ⟨_, Heap.get?_push_size _ rfl, rfl, rfl⟩ q)
theorem srcs_seq {G : Gi} {st : S} {σ : L2.St} {c : Cf} {v : V} {d : D} {ds : List D} (r : Rel G st σ c) (t : Rp G c.F c.al v d) (e : seqI d = some ds) :
    (∃ a, v = .ref a ∧ (∃ xs, SqL G.K c.H a xs) ∧ Srcs G (Itl G.K a) ds c) ∨ (∃ a, v = .ref a ∧ (∃ xs, SqT G.K c.H a xs) ∧ Srcs G (Itt G.K a) ds c) ∨ ∃ z, v = .str z ∧ Srcs G (Its z) ds c := by
  have lst : ∀ {a : Addr} {xs : List V}, SqL G.K c.F a xs → RpA G c.F c.al xs ds → Srcs G (Itl G.K a) ds c := fun {a xs} h hs st' σ' c2 r2 g2 => by
    have h2 := r2.rdL (sqL_mr g2.mo.mR h)
    refine ⟨fun i d hd => ?_, xs, h2, by rw [hs.len]; exact Nat.le_refl _⟩
    obtain ⟨x, hx, rx⟩ := (hs.mo g2.mo).get hd
    refine ⟨⟨xs, x, h2, hx⟩, fun y H' hy => ?_⟩
    obtain ⟨rfl, hy⟩ := hy
    have := hy xs h2
    rw [hx] at this
    cases this
    exact ⟨c2, rfl, r2, GoE.refl r2, rx⟩
  have tup : ∀ {a : Addr} {xs : List V}, SqT G.K c.F a xs → RpA G c.F c.al xs ds → Srcs G (Itt G.K a) ds c := fun {a xs} h hs st' σ' c2 r2 g2 => by
    have h2 := r2.rdT (sqT_mr g2.mo.mR h)
    refine ⟨fun i d hd => ?_, xs, h2, by rw [hs.len]; exact Nat.le_refl _⟩
    obtain ⟨x, hx, rx⟩ := (hs.mo g2.mo).get hd
    refine ⟨⟨xs, x, h2, hx⟩, fun y H' hy => ?_⟩
    obtain ⟨rfl, hy⟩ := hy
    have := hy xs h2
    rw [hx] at this
    cases this
    exact ⟨c2, rfl, r2, GoE.refl r2, rx⟩
  cases t with
  | lst h hs => cases e; exact .inl ⟨_, rfl, ⟨_, r.rdL (.inl (.inl h))⟩, lst (.inl (.inl h)) hs⟩
  | lsk h hs => cases e; exact .inl ⟨_, rfl, ⟨_, r.rdL h⟩, lst h hs⟩
  | tup h hs => cases e; exact .inr (.inl ⟨_, rfl, ⟨_, r.rdT (.inl (.inl h))⟩, tup (.inl (.inl h)) hs⟩)
  | tuk h hs => cases e; exact .inr (.inl ⟨_, rfl, ⟨_, r.rdT h⟩, tup h hs⟩)
  | tun h k hs => cases e; exact .inr (.inl ⟨_, rfl, ⟨_, r.rdT (sqT_fz h)⟩, tup (sqT_fz h) hs⟩)
  | str s =>
    cases e
    refine .inr (.inr ⟨s, rfl, fun st' σ' c2 r2 g2 => ⟨fun i d hd => ?_, ?_⟩⟩)
    · rw [List.getElem?_map] at hd
      obtain ⟨ch, hc, rfl⟩ := map_some hd
      have hc' : s.cps[i]? = some ch := by rw [← Array.getElem?_toList]; exact hc
      refine ⟨(Array.getElem?_eq_some_iff.mp hc').1, fun y H' hy => ?_⟩
      obtain ⟨rfl, ch', h1, rfl⟩ := hy
      rw [hc'] at h1
      cases h1
      exact ⟨c2, rfl, r2, GoE.refl r2, .str _⟩
    · show s.cps.size ≤ _
      simp
  | _ => cases e
section
variable {X : Cx} {G : Gi} {W : WX} {tg e : Expr} {md : M D} {ma : M (List D)} {p pos : Pos}
def mSeq (md : M D) : M (List D) := bnd md fun d => ofO (seqI d)
@[simp] theorem mSeq_app (md : M D) (s : S) : mSeq md s = (md s).bind fun d => ofO (seqI d) := rfl
theorem xi_any (hK : X.K = G.K) (he : PE X e (tD G W md)) : PI X tg e (tI G W (mSeq md)) := (pi_any hK he).weak fun σ H R q => by
  unfold iAny
  refine q.seq0 _ (fun d v c c1 st1 r1 g1 p1 w => ?_)
  obtain ⟨ds, e1, q⟩ := wp_ofO.mp w
  rcases srcs_seq r1 p1 e1 with ⟨a, rfl, h1, h2⟩ | ⟨a, rfl, h1, h2⟩ | ⟨z, rfl, h2⟩
  · exact .inl ⟨a, rfl, h1, q _ c1 r1 g1 h2⟩
  · exact .inr (.inl ⟨a, rfl, h1, q _ c1 r1 g1 h2⟩)
  · exact .inr (.inr ⟨z, rfl, q _ c1 r1 g1 h2⟩)
/-- range -/
def rngL (i : Int) (n : Nat) : List D := (List.range n).map fun k : Nat => .int (i + (k : Int))
def rng1 : List D → Option (List D)
  | [.int j] => if j < 2 ^ 62 ∧ -(2 ^ 62) ≤ j then some (rngL 0 j.toNat) else none
  | _ => none
def rng2 : List D → Option (List D)
  | [.int i, .int j] => if (-(2 ^ 62) ≤ i ∧ i < 2 ^ 62) ∧ -(2 ^ 62) ≤ j ∧ j < 2 ^ 62 then some (rngL i (j - i).toNat) else none
  | _ => none
theorem srcs_rng {c : Cf} {i : Int} {n : Nat} : Srcs G (Itr i n) (rngL i n) c := fun st σ c2 r2 g2 => by
  refine ⟨fun k d hd => ?_, by unfold rngL; rw [List.length_map, List.length_range]; exact Nat.le_refl _⟩
  unfold rngL at hd
  rw [List.getElem?_map] at hd
  obtain ⟨j, hj, rfl⟩ := map_some hd
  obtain ⟨hk, rfl⟩ : k < n ∧ k = j := by
    have h1 := (List.getElem?_eq_some_iff.mp hj)
    obtain ⟨h1, h2⟩ := h1
    rw [List.length_range] at h1
    rw [List.getElem_range] at h2
    exact ⟨h1, h2⟩
  refine ⟨hk, fun y H' hy => ?_⟩
  obtain ⟨rfl, rfl⟩ := hy
  exact ⟨c2, rfl, r2, GoE.refl r2, .int _⟩
theorem rp_ints1 {F : Hp} {al : List Addr} {vs : List V} {i : Int} (h : RpA G F al vs [.int i]) : vs = [.int i] := by
  cases h with
  | cons h hs => cases h; cases hs; rfl
def mRng1 (ma : M (List D)) : M (List D) := bnd ma fun ds => ofO (rng1 ds)
def mRng2 (ma : M (List D)) : M (List D) := bnd ma fun ds => ofO (rng2 ds)
@[simp] theorem mRng1_app (ma : M (List D)) (s : S) : mRng1 ma s = (ma s).bind fun ds => ofO (rng1 ds) := rfl
@[simp] theorem mRng2_app (ma : M (List D)) (s : S) : mRng2 ma s = (ma s).bind fun ds => ofO (rng2 ds) := rfl
theorem xi_range1 {a : Expr} (hg : Gl X "range") (hm : X.mg "range" = none) (ha : PA X [a] (tAs G W ma)) (hs : starEach [a] X.env = [(false, eval a X.env)] := by rfl) :
    PI X tg (.Call (.Name "range" p) [a] [] pos) (tI G W (mRng1 ma)) := (pi_range1 hg hm ha hs).weak fun σ H R q => by
  unfold iRng1
  refine q.seq0 _ (fun ds vs c c1 st1 r1 g1 p1 w => ?_)
  obtain ⟨l, e1, q⟩ := wp_ofO.mp w
  unfold rng1 at e1
  split at e1
  · split at e1
    · rename_i h
      cases e1
      exact ⟨_, rp_ints1 p1, h.2, h.1, q _ c1 r1 g1 srcs_rng⟩
    · cases e1
  · cases e1
end
/-! ### for -/
def forL (t : MT) (mb : M Fl) : List D → M Fl
  | [] => ret .nx
  | d :: ds => fun s => match t d s with
    | none => .no
    | some s1 => (mb s1).bind fun f => match f with
      | .nx => forL t mb ds
      | .ct => forL t mb ds
      | .bk => ret .nx
      | .rt o => ret (.rt o)
def sFor (mi : M (List D)) (t : MT) (mb : M Fl) : M Fl := bnd mi fun ds => forL t mb ds
@[simp] theorem sFor_app (mi : M (List D)) (t : MT) (mb : M Fl) (s : S) : sFor mi t mb s = (mi s).bind fun ds => forL t mb ds := rfl
section
variable {X : Cx} {G : Gi} {W : WX} {tg iter : Expr} {body : List Stmt} {mi : M (List D)} {t : MT} {mb : M Fl} {g : TG} {pos : Pos}
theorem for_t (ht : TgOk G g t) {D' : Ends} {σ : L2.St} {H : Hp} (q : tS G W (sFor mi t mb) D' σ H) : tFor (tI G W mi) g (tS G W mb) D' σ H := by
  show tI G W mi σ H fun J H1 => ∃ W' : Nat → Nat → L2.St → Hp → Prop, (∃ m, W' 0 m σ H1) ∧ ∀ i m σ H, W' i m σ H →
    (J.stop i H ∧ D'.nx σ H) ∨ (J.go i H ∧ ∃ N : L2.St → Hp → Prop, (∀ σ' H', N σ' H' → ∃ m', m' < m ∧ W' (i + 1) m' σ' H') ∧ ∀ x H', J.yld i H x H' → g x σ H' fun σ2 H2 => tS G W mb { D' with nx := N, ct := N, bk := D'.nx } σ2 H2)
  refine tS.ex q _ (fun ds J c c1 st1 r1 g1 src w => ?_)
  have w := wpS_go g1.toGo w
  refine ⟨fun i m σ' H' => m = ds.length - i ∧ i ≤ ds.length ∧ ∃ c2 st2, c2.H = H' ∧ Rel G st2 σ' c2 ∧ Go c1 c2 ∧ wp (forL t mb (ds.drop i) st2) (Fw G D' c1) (xs G W c1),
    ⟨ds.length, rfl, Nat.zero_le _, c1, st1, rfl, r1, Go.rfl', w⟩, ?_⟩
  rintro i m σ' H' ⟨rfl, hi, c2, st2, rfl, r2, g2, w2⟩
  obtain ⟨s1, s2⟩ := src st2 σ' c2 r2 g2
  rcases Nat.lt_or_ge i ds.length with hl | hl
  · refine .inr ?_
    have hd := List.getElem?_eq_getElem hl
    obtain ⟨go, yl⟩ := s1 i _ hd
    refine ⟨go, fun σ'' H'' => ∃ c3 st3, c3.H = H'' ∧ Rel G st3 σ'' c3 ∧ Go c1 c3 ∧ wp (forL t mb (ds.drop (i + 1)) st3) (Fw G D' c1) (xs G W c1),
      fun σ'' H'' ⟨c3, st3, e, r, g, w⟩ => ⟨ds.length - (i + 1), by omega, rfl, hl, c3, st3, e, r, g, w⟩, fun x H'' hy => ?_⟩
    obtain ⟨c3, rfl, r3, g3, rx⟩ := yl x H'' hy
    rw [List.drop_eq_getElem_cons hl] at w2
    rw [forL] at w2
    dsimp only at w2
    cases e : t ds[i] st2 with
    | none => rw [e] at w2; exact w2.elim
    | some st3 =>
      rw [e] at w2
      refine ht st2 st3 σ' c3 x ds[i] _ r3 rx e (fun σ4 c4 r4 k1 k2 k3 k4 k5 => ?_)
      have g4 : Go c1 c4 := (g2.trans g3.toGo).trans (go_tg k1 k2 k3 k4 k5)
      refine tS.at r4 (wpS_go g4 (wp_mono (wp_bind.mp w2) (fun f st5 w5 => ?_) (fun _ _ h => h)))
      cases f with
      | nx => exact fun σ5 c5 r5 g5 => ⟨c5, st5, rfl, r5, g5, w5⟩
      | ct => exact fun σ5 c5 r5 g5 => ⟨c5, st5, rfl, r5, g5, w5⟩
      | bk => exact w5
      | rt o => exact w5
  · have e : i = ds.length := by omega
    subst e
    refine .inl ⟨s2, ?_⟩
    rw [List.drop_length] at w2
    exact w2 σ' c2 r2 g2
theorem s_for (hp : PassesOwn (model X.prog X.w) X.A X.env X.xe) (hc : X.calm = true) (hi : PI X tg iter (tI G W mi)) (hg : PG X tg g) (ht : TgOk G g t) (hb : PSs X body (tS G W mb))
    (hs : ∀ x, foldedSetIterable iter X.env x = pure x := by intro _; rfl) : PS X (.For tg iter body [] pos) (tS G W (sFor mi t mb)) := (ps_for hp hc hi hg hb hs).weak fun _ _ _ q => for_t ht q
end
/-! ### while, with so many turns at most -/
end L2.Tr
namespace L2.Tr
open PySem PySem.Spec PyProof.Rows L2 L2.Pc
/-! ### list comprehensions -/
/-- the comprehension's own slots forgotten -/
def wipeE (env : List (Option O)) : List Nat → List (Option O)
  | [] => env
  | v :: vs => setS (wipeE env vs) v none
/-- .. put back as they were -/
def backE (old new : List (Option O)) : List Nat → List (Option O)
  | [] => new
  | v :: vs => backE old (setS new v (getS old v)) vs
/-- nothing is owned there -/
def freeE (env : List (Option O)) : List Nat → Bool
  | [] => true
  | v :: vs => (match getS env v with
    | some o => isFz o
    | none => true) && freeE env vs
/-- the turns of a comprehension -/
def lcL (vs : List Nat) (t : MT) (mt : M Bool) (me : M D) : List D → M (List D)
  | [] => ret []
  | d :: ds => fun s => match t d s with
    | none => .no
    | some s1 => (mt s1).bind fun b s2 =>
      if b = true then (me s2).bind (fun y s3 => if freeE s3.env vs = true then (lcL vs t mt me ds ⟨wipeE s3.env vs, s3.mu⟩).bind fun ys => ret (y :: ys) else .no)
      else if freeE s2.env vs = true then lcL vs t mt me ds ⟨wipeE s2.env vs, s2.mu⟩ else .no
def noExc {α : Type} (r : R α) : R α := match r with
  | .exc _ _ => .no
  | r => r
def xLc (vs : List Nat) (mi : M (List D)) (t : MT) (mt : M Bool) (me : M D) : M O := bnd mi fun ds s => if freeE s.env vs = true ∧ ds.length ≤ 16777216 then
  (noExc (lcL vs t mt me ds ⟨wipeE s.env vs, s.mu⟩)).bind fun ys s2 => .ok (.lst ys) ⟨backE s.env s2.env vs, s2.mu⟩ else .no
@[simp] theorem xLc_app (vs : List Nat) (mi : M (List D)) (t : MT) (mt : M Bool) (me : M D) (s : S) : xLc vs mi t mt me s = (mi s).bind fun ds s => if freeE s.env vs = true ∧ ds.length ≤ 16777216 then
  (noExc (lcL vs t mt me ds ⟨wipeE s.env vs, s.mu⟩)).bind fun ys s2 => .ok (.lst ys) ⟨backE s.env s2.env vs, s2.mu⟩ else .no := rfl
def noW : WX := fun _ _ _ _ => False
section
variable {G : Gi}
/-- a slot that owns nothing set to nothing -/
theorem slots_clear {F H : Hp} {al : List Addr} : ∀ {env : List (Option O)} {σ : L2.St} {fp : List Addr} (i : Nat), Slots G F al H env σ fp →
    (match getS env i with
      | some o => isFz o = true
      | none => True) → ∀ x, Slots G F al H (setS env i none) (σ.set i x) fp
  | _, _, _, i, .nil, _, x => by cases i <;> exact .nil
  | _, _, _, 0, .un h, _, x => .un h
  | _, _, _, i + 1, .un h, k, x => .un (slots_clear i h k x)
  | _, _, _, 0, .so (fp := fp) h hs, k, x => by
    obtain ⟨rfl, _⟩ := own_fz h k
    exact .un hs
  | _, _, _, i + 1, .so h hs, k, x => .so h (slots_clear i hs k x)
theorem getS_set_ne : ∀ {env : List (Option O)} {i j : Nat} {x : Option O}, i ≠ j → getS (setS env i x) j = getS env j
  | [], _, _, _, _ => rfl
  | _ :: _, 0, 0, _, h => absurd rfl h
  | _ :: _, 0, _ + 1, _, _ => rfl
  | _ :: _, _ + 1, 0, _, _ => rfl
  | _ :: l, i + 1, j + 1, x, h => getS_set_ne (env := l) (fun e => h (by rw [e]))
theorem getS_set_none : ∀ {env : List (Option O)} {i : Nat}, getS (setS env i none) i = none
  | [], i => by cases i <;> rfl
  | _ :: _, 0 => rfl
  | _ :: l, i + 1 => getS_set_none (env := l)
theorem wipe_get {env : List (Option O)} : ∀ {vs : List Nat} {i : Nat}, getS (wipeE env vs) i = none ∨ getS (wipeE env vs) i = getS env i
  | [], _ => .inr rfl
  | v :: vs, i => by
    by_cases h : v = i
    · subst h; exact .inl getS_set_none
    · show getS (setS (wipeE env vs) v none) i = none ∨ getS (setS (wipeE env vs) v none) i = _
      rw [getS_set_ne h]; exact wipe_get
theorem slots_wipe {F H : Hp} {al : List Addr} {env : List (Option O)} {σ : L2.St} {fp : List Addr} (h : Slots G F al H env σ fp) : ∀ {vs : List Nat}, freeE env vs = true → Slots G F al H (wipeE env vs) (wipe σ vs) fp
  | [], _ => h
  | v :: vs, k => by
    unfold freeE at k
    rw [Bool.and_eq_true] at k
    refine slots_clear v (slots_wipe h k.2) ?_ none
    rcases wipe_get (env := env) (vs := vs) (i := v) with e | e
    · rw [e]; trivial
    · rw [e]
      have k1 := k.1
      cases e2 : getS env v with
      | none => trivial
      | some o => rw [e2] at k1; exact k1
theorem wipe_none {env : List (Option O)} : ∀ {vs : List Nat} {i : Nat}, i ∈ vs → getS (wipeE env vs) i = none
  | v :: vs, i, h => by
    by_cases e : v = i
    · subst e; exact getS_set_none
    · show getS (setS (wipeE env vs) v none) i = none
      rw [getS_set_ne e]
      exact wipe_none ((List.mem_cons.mp h).resolve_left fun z => e z.symm)
def BackOk (G : Gi) (F : Hp) (al : List Addr) (H : Hp) (τ : L2.St) (v : Nat) : Option O → Prop
  | some o => ∃ x, τ[v]? = some (some x) ∧ OwnT G F al H o x []
  | none => True
theorem slots_back {F H : Hp} {al : List Addr} : ∀ {env : List (Option O)} {τ : L2.St} {fp : List Addr} (v : Nat) (o : Option O), Slots G F al H env (τ.set v none) fp → getS env v = none →
    BackOk G F al H τ v o → Slots G F al H (setS env v o) τ fp
  | [], τ, _, v, o, h, _, k => by
    cases τ with
    | nil => cases h; exact .nil
    | cons x τ => cases v <;> cases h
  | e :: env, τ, _, 0, o, h, e0, k => by
    cases τ with
    | nil => cases h
    | cons x τ =>
      obtain rfl : e = none := e0
      cases h with
      | un h =>
        cases o with
        | none => exact .un h
        | some o =>
          obtain ⟨y, e2, t⟩ := k
          obtain rfl : x = some y := by simpa using e2
          exact .so (fp := []) t h
  | e :: env, τ, _, v + 1, o, h, e0, k => by
    cases τ with
    | nil => cases h
    | cons x τ =>
      have k' : BackOk G F al H τ v o := by
        cases o with
        | none => trivial
        | some o => obtain ⟨y, e2, t⟩ := k; exact ⟨y, by simpa using e2, t⟩
      cases h with
      | un h => exact .un (slots_back v o h e0 k')
      | so h hs => exact .so h (slots_back v o hs e0 k')
theorem wipe_at {σ : L2.St} : ∀ {vs : List Nat} {v : Nat}, v ∉ vs → (wipe σ vs)[v]? = σ[v]?
  | [], _, _ => rfl
  | u :: vs, v, h => by
    rw [List.mem_cons, not_or] at h
    show ((wipe σ vs).set u none)[v]? = _
    rw [List.getElem?_set_ne (fun e => h.1 e.symm)]
    exact wipe_at h.2
/-- the def's slots put back behind a comprehension -/
theorem slots_home {F0 H0 F H : Hp} {al0 al : List Addr} {env : List (Option O)} {σ : L2.St} {f0 fp : List Addr} (h0 : Slots G F0 al0 H0 env σ f0) (m : Mo F0 F al0 al) :
    ∀ {vs : List Nat} {env2 : List (Option O)}, vs.Nodup → freeE env vs = true → (∀ v ∈ vs, getS env2 v = none) → Slots G F al H env2 (wipe σ vs) fp → Slots G F al H (backE env env2 vs) σ fp
  | [], _, _, _, _, h => h
  | v :: vs, env2, nd, fr, hn, h => by
    obtain ⟨n1, n2⟩ := List.nodup_cons.mp nd
    unfold freeE at fr
    rw [Bool.and_eq_true] at fr
    refine slots_home h0 m (vs := vs) n2 fr.2 (fun u hu => ?_) (slots_back v (getS env v) h (hn v List.mem_cons_self) ?_)
    · rw [getS_set_ne (fun e => n1 (by rw [e]; exact hu))]
      exact hn u (List.mem_cons_of_mem _ hu)
    · cases e : getS env v with
      | none => trivial
      | some o =>
        have f1 := fr.1
        rw [e] at f1
        obtain ⟨x, g1, g2, g3, q1, q2, q3⟩ := slots_get h0 e
        obtain ⟨rfl, rp⟩ := own_fz q2 f1
        refine ⟨x, by rw [wipe_at n1]; exact q1, ?_⟩
        cases o with
        | fz d => rw [O.toD] at rp; exact .fz (rp.mo m)
        | _ => cases f1
/-- an object of our own written -/
theorem rel_own {st : S} {σ : L2.St} {c : Cf} {p : Addr} {o : HO} (r : Rel G st σ c) (f : Fresh [p] c) : Rel G st σ (c.new p o) := by
  have m := List.mem_singleton_self p
  have ne : ∀ a, a ≠ p → upd c.H p o a = c.H a := fun a n => upd_ne n
  refine ⟨fun a u e => ?_, r.own, r.nds, r.ndc, r.dis, r.slots.mo (Mo.refl _ _) fun a ha => ne a (fun e => f.ns p m (e ▸ ha)), r.cells.mo (Mo.refl _ _) fun a ha => ne a (fun e => f.nc p m (e ▸ ha))⟩
  show upd c.H p o a = some u
  rw [ne a (fun z => by subst z; have e : c.F a = some u := e; rw [f.nf a m] at e; cases e)]
  exact r.sub a u e
theorem goE_own {c0 c : Cf} {p : Addr} {o : HO} (g : GoE c0 c) (h : c0.H p = none) : GoE c0 (c.new p o) where
  mo := g.mo
  fr := fun a n h1 h2 => (upd_ne (fun e => n (by rw [e]; exact h))).trans (g.fr a n h1 h2)
  fp := g.fp
  nF := g.nF
  hs := fun a h1 n => (upd_ne (fun e => n (by rw [e]; exact h))).trans (g.hs a h1 n)
  sf := g.sf
  cf := g.cf
theorem goE_tg {st : S} {σ : L2.St} {c c' : Cf} (r : Rel G st σ c) (k1 : c'.H = c.H) (k2 : c'.F = c.F) (k3 : c'.al = c.al) (k4 : c'.fc = c.fc) (k5 : ∀ a ∈ c'.fs, a ∈ c.fs) : GoE c c' :=
  { go_tg k1 k2 k3 k4 k5 with hs := fun a _ _ => by rw [k1], sf := k5, cf := fun a h k => absurd (by rw [← k4]; exact h) (r.dis a k) }
/-- a target that fills the comprehension's own slots alone -/
def TgW (G : Gi) (g : TG) (t : MT) (vs : List Nat) : Prop := ∀ (st st' : S) (σ : L2.St) (c : Cf) (v : V) (d : D) (Q : L2.St → Hp → Prop), Rel G st σ c → Rp G c.F c.al v d → t d st = some st' →
  (∀ σ' c', wipe σ' vs = wipe σ vs → Rel G st' σ' c' → c'.H = c.H → c'.F = c.F → c'.al = c.al → c'.fc = c.fc → (∀ a ∈ c'.fs, a ∈ c.fs) → Q σ' c'.H) → g v σ c.H Q
theorem wipe_set {σ : L2.St} {i : Nat} {x : Option V} : ∀ {vs : List Nat}, i ∈ vs → wipe (σ.set i x) vs = wipe σ vs
  | v :: vs, h => by
    show (wipe (σ.set i x) vs).set v none = (wipe σ vs).set v none
    by_cases e : i ∈ vs
    · rw [wipe_set e]
    · obtain rfl : i = v := (List.mem_cons.mp h).resolve_right e
      have : ∀ (vs : List Nat) (τ : L2.St), i ∉ vs → wipe (τ.set i x) vs = (wipe τ vs).set i x := by
        intro vs
        induction vs with
        | nil => intro _ _; rfl
        | cons u vs ih =>
          intro τ hn
          rw [List.mem_cons, not_or] at hn
          show (wipe (τ.set i x) vs).set u none = ((wipe τ vs).set u none).set i x
          rw [ih τ hn.2, List.set_comm _ _ hn.1]
      rw [this vs σ e, List.set_set]
theorem tw_name {i : Nat} {vs : List Nat} (hi : i ∈ vs) : TgW G (gName i) (gN i) vs := by
  intro st st' σ c v d Q r h e q
  cases e
  obtain ⟨c', e, r', g', eF, eA, hs, hc⟩ := rel_put (i := i) r (.fz h) (Fresh.nil _) (Go.rfl' (c := c)) (New.nil _)
  show Q (σ.set i (some v)) c.H
  rw [← e]
  exact q _ c' (wipe_set hi) r' e eF eA hc (fun a ha => Classical.byContradiction fun z => hs a (fun k => nomatch k) z ha)
theorem wp_noExc {α : Type} {r : R α} {Q : α → S → Prop} {E : Exc → S → Prop} (h : wp (noExc r) Q E) : wp r Q (fun _ _ => False) := by
  cases r with
  | ok a s => exact h
  | exc x s => exact h.elim
  | no => exact h
theorem lc_t {W : WX} {vs : List Nat} {mi : M (List D)} {t : MT} {mt : M Bool} {me : M D} {g : TG} (nd : vs.Nodup) (ht : TgW G g t vs) {σ : L2.St} {H : Hp} {Q : VK} (q : tO G W (xLc vs mi t mt me) σ H Q) :
    tLc (tI G W mi) g (tTs G noW mt) (tD G noW me) vs σ H Q := by
  show tI G W mi σ H fun J H1 => ∀ L, H1 L = none → ∃ W' : Nat → Nat → Hp → Prop, (∃ m, W' 0 m (upd H1 L (.lst []))) ∧ ∀ i m H, W' i m H →
    (J.stop i H ∧ Q (.ref L) H) ∨ (J.go i H ∧ ∃ Nx : Hp → Prop, (∀ H', Nx H' → ∃ m', m' < m ∧ W' (i + 1) m' H') ∧ ∀ x H', J.yld i H x H' → g x (wipe σ vs) H' fun σ2 H2 => wipe σ2 vs = wipe σ vs ∧ tTs G noW mt σ2 H2 fun b H3 =>
    if b = true then tD G noW me σ2 H3 fun y H4 => ∃ acc, H4 L = some (.lst acc) ∧ acc.length < sizeLine ∧ Nx (upd H4 L (.lst (acc ++ [y]))) else Nx H3)
  refine q.seq bkO _ (fun ds J c0 c1 st1 r1 g1 src w => ?_)
  split at w
  · rename_i hfr
    obtain ⟨hfr, hlen⟩ := hfr
    have w := wp_noExc (wp_bind.mp w |> fun h => h)
    intro L hL
    -- the state within
    have rw1 : Rel G ⟨wipeE st1.env vs, st1.mu⟩ (wipe σ vs) c1 := ⟨r1.sub, r1.own, r1.nds, r1.ndc, r1.dis, slots_wipe r1.slots hfr, r1.cells⟩
    have rn := rw1.new (o := .lst []) hL
    refine ⟨fun i m H' => m = ds.length - i ∧ i ≤ ds.length ∧ ∃ c2 st2 accV accD, c2.H = H' ∧ Rel G st2 (wipe σ vs) c2 ∧ (∃ e, st2.env = wipeE e vs) ∧ GoE c1 c2 ∧ Fresh [L] c2 ∧ c2.H L = some (.lst accV) ∧
        RpA G c2.F c2.al accV accD ∧ accV.length ≤ i ∧ wp (lcL vs t mt me (ds.drop i) st2) (fun ys s2 => ∀ u c', Rel G ⟨backE st1.env s2.env vs, s2.mu⟩ σ c' → GoE c1 c' → PrO G (.lst (accD ++ ys)) c1 c' u → Q u c'.H) (fun _ _ => False),
      ⟨ds.length, rfl, Nat.zero_le _, c1.new L (.lst []), _, [], [], rfl, rn, ⟨_, rfl⟩, GoE.new rw1 hL, Fresh.new rw1 hL, upd_same, .nil, Nat.le_refl _, w⟩, ?_⟩
    rintro i m H' ⟨rfl, hi, c2, st2, accV, accD, rfl, r2, ⟨env2, he2⟩, g2, f2, hL2, ra, hacc, w2⟩
    obtain ⟨s1, s2⟩ := src st2 (wipe σ vs) c2 r2 g2.toGo
    rcases Nat.lt_or_ge i ds.length with hl | hl
    · refine .inr ?_
      have hd := List.getElem?_eq_getElem hl
      obtain ⟨go, yl⟩ := s1 i _ hd
      have mL := List.mem_singleton_self L
      -- the next turn
      refine ⟨go, fun H'' => ∃ c3 st3 accV3 accD3, c3.H = H'' ∧ Rel G st3 (wipe σ vs) c3 ∧ (∃ e, st3.env = wipeE e vs) ∧ GoE c1 c3 ∧ Fresh [L] c3 ∧ c3.H L = some (.lst accV3) ∧
          RpA G c3.F c3.al accV3 accD3 ∧ accV3.length ≤ i + 1 ∧ wp (lcL vs t mt me (ds.drop (i + 1)) st3) (fun ys s2 => ∀ u c', Rel G ⟨backE st1.env s2.env vs, s2.mu⟩ σ c' → GoE c1 c' → PrO G (.lst (accD3 ++ ys)) c1 c' u → Q u c'.H) (fun _ _ => False),
        fun H'' ⟨c3, st3, a3, d3, q⟩ => ⟨ds.length - (i + 1), by omega, rfl, hl, c3, st3, a3, d3, q⟩, fun x H'' hy => ?_⟩
      obtain ⟨c3, rfl, r3, g3, rx⟩ := yl x H'' hy
      rw [List.drop_eq_getElem_cons hl, lcL] at w2
      dsimp only at w2
      cases e : t ds[i] st2 with
      | none => rw [e] at w2; exact w2.elim
      | some st4 =>
        rw [e] at w2
        refine ht st2 st4 (wipe σ vs) c3 x ds[i] _ r3 rx e (fun σ4 c4 hw r4 k1 k2 k3 k4 k5 => ?_)
        have wid : wipe (wipe σ vs) vs = wipe σ vs := by
          have : ∀ vs' : List Nat, (∀ v ∈ vs', v ∈ vs) → wipe (wipe σ vs') vs = wipe σ vs := by
            intro vs'
            induction vs' with
            | nil => intro _; rfl
            | cons u vs' ih => intro h; show wipe ((wipe σ vs').set u none) vs = _; rw [wipe_set (h u List.mem_cons_self)]; exact ih fun v hv => h v (List.mem_cons_of_mem _ hv)
          exact this vs fun _ h => h
        rw [wid] at hw
        have g4 : GoE c2 c4 := g3.trans (goE_tg r3 k1 k2 k3 k4 k5)
        have noe : ∀ {c' : Cf} (x : Exc) (s : S), False → xw G noW σ4 c' x s := fun _ _ z => z.elim
        refine ⟨hw, tG.at r4 (wp_mono (wp_bind.mp w2) (fun b st5 w5 v c5 r5 g5 p5 => ?_) (fun x s z => z.elim))⟩
        obtain rfl : v = b := p5
        -- the list is as it was
        have keepL : ∀ {c' : Cf}, GoE c2 c' → Fresh [L] c' ∧ c'.H L = some (.lst accV) := fun {c'} gg => by
          obtain ⟨fa, fb⟩ := f2.go (fun a ha => by rw [List.mem_singleton.mp ha, hL2]; rintro (z | ⟨_, z⟩) <;> cases z) gg.toGo
          exact ⟨fa, (fb L mL).trans hL2⟩
        cases v with
        | false =>
          rw [if_neg (by decide)] at w5 ⊢
          split at w5
          · rename_i hf5
            have gg := g4.trans g5
            obtain ⟨fa, fb⟩ := keepL gg
            have rw5 : Rel G ⟨wipeE st5.env vs, st5.mu⟩ (wipe σ vs) c5 := by
              rw [← hw]
              exact ⟨r5.sub, r5.own, r5.nds, r5.ndc, r5.dis, slots_wipe r5.slots hf5, r5.cells⟩
            exact ⟨c5, _, accV, accD, rfl, rw5, ⟨_, rfl⟩, g2.trans gg, fa, fb, ra.mo gg.mo, by omega, w5⟩
          · exact w5.elim
        | true =>
          rw [if_pos rfl] at w5 ⊢
          refine tG.at r5 (wp_mono (wp_bind.mp w5) (fun y st6 w6 u c6 r6 g6 p6 => ?_) (fun x s z => z.elim))
          split at w6
          · rename_i hf6
            have gg := (g4.trans g5).trans g6
            obtain ⟨fa, fb⟩ := keepL gg
            have rw6 : Rel G ⟨wipeE st6.env vs, st6.mu⟩ (wipe σ vs) c6 := by
              rw [← hw]
              exact ⟨r6.sub, r6.own, r6.nds, r6.ndc, r6.dis, slots_wipe r6.slots hf6, r6.cells⟩
            refine ⟨accV, fb, by rw [szl]; omega, c6.new L (.lst (accV ++ [u])), _, accV ++ [u], accD ++ [y], rfl, rel_own rw6 fa, ⟨_, rfl⟩, goE_own (g2.trans gg) hL, ⟨fa.nd, fa.nf, fa.ns, fa.nc⟩, upd_same,
              (ra.mo gg.mo).app (.cons p6 .nil), by rw [List.length_append, List.length_singleton]; omega, ?_⟩
            refine wp_mono (wp_bind.mp w6) (fun ys s7 w7 => ?_) (fun x s z => z.elim)
            have w7 : ∀ u c', Rel G ⟨backE st1.env s7.env vs, s7.mu⟩ σ c' → GoE c1 c' → PrO G (.lst (accD ++ (y :: ys))) c1 c' u → Q u c'.H := w7
            rw [List.append_assoc]
            exact w7
          · exact w6.elim
    · have e : i = ds.length := by omega
      subst e
      refine .inl ⟨s2, ?_⟩
      rw [List.drop_length] at w2
      have w2 : ∀ u c', Rel G ⟨backE st1.env st2.env vs, st2.mu⟩ σ c' → GoE c1 c' → PrO G (.lst (accD ++ [])) c1 c' u → Q u c'.H := w2
      rw [List.append_nil] at w2
      refine w2 _ c2 ⟨r2.sub, r2.own, r2.nds, r2.ndc, r2.dis, ?_, r2.cells⟩ g2 ⟨[L], .lst hL2 ra, f2, New.new hL⟩
      exact slots_home r1.slots g2.mo nd hfr (fun v hv => by rw [he2]; exact wipe_none hv) r2.slots
  · exact w.elim
section
variable {X : Cx} {W : WX} {elt tg iter : Expr} {ifs : List Expr} {scope : Scope} {own : List (Str × Nat)} {vs : List Nat} {pos : Pos} {mi : M (List D)} {t : MT} {mt : M Bool} {me : M D} {g : TG}
theorem xts_nil : PTs X [] (tTs G W (ret true)) := by
  refine ⟨fun pins s σ H Q I q => (pts_nil (X := X)).run pins s σ H Q I ?_⟩
  obtain ⟨c, st, rfl, r, h⟩ := q
  exact h true c r (GoE.refl r) rfl
theorem x_lc (hv : own.map (·.2) = vs) (nd : vs.Nodup) (hc : X.calm = true) (hN : X.N.Nodup) (hi : PI X tg iter (tI G W mi)) (ok : BlkOk X.N X.env.scope scope own) (htg : TgW G g t vs)
    (hg : ∀ (s : Shared) (H : Hp) (C : Addr) (cl : List (Str × Addr)) (fp : List Addr), PG (X.blk s H scope (compEnvC scope cl C X.env) fp) tg g) (ht : ∀ (s : Shared) (H : Hp) (C : Addr) (cl : List (Str × Addr)) (fp : List Addr), PTs (X.blk s H scope (compEnvC scope cl C X.env) fp) ifs (tTs G noW mt))
    (he : ∀ (s : Shared) (H : Hp) (C : Addr) (cl : List (Str × Addr)) (fp : List Addr), PE (X.blk s H scope (compEnvC scope cl C X.env) fp) elt (tD G noW me)) (hs : ∀ x, foldedSetIterable iter X.env x = pure x := by intro _; rfl) :
    PE X (.ListComp elt [⟨tg, iter, ifs, 0⟩] scope pos) (tO G W (xLc vs mi t mt me)) := (pe_lcM hv hc hN hi ok hg ht he hs).weak fun _ _ _ q => lc_t nd htg q
end
end
end L2.Tr
namespace L2.Tr
open PySem PySem.Spec PyProof.Rows L2 L2.Pc
/-! ### what a slot owns, or the cell it names -/
def getM : List O → Nat → Option O
  | [], _ => none
  | x :: _, 0 => some x
  | _ :: l, n + 1 => getM l n
def setM : List O → Nat → O → List O
  | [], _, _ => []
  | _ :: l, 0, o => o :: l
  | x :: l, n + 1, o => x :: setM l n o
/-- the root that the slot i stands for: itself, or a cell -/
def getP (s : S) (i : Nat) : Option O := match getS s.env i with
  | some (.fz (.cel n)) => getM s.mu n
  | some (.fz _) => none
  | x => x
def putP (s : S) (i : Nat) (o : O) : S := match getS s.env i with
  | some (.fz (.cel n)) => ⟨s.env, setM s.mu n o⟩
  | some (.fz _) => s
  | some _ => ⟨setS s.env i (some o), s.mu⟩
  | none => s
section
variable {G : Gi}
theorem ownA_set {F H : Hp} {al : List Addr} : ∀ {os : List O} {vs : List V} {fp : List Addr} {i : Nat} {o : O}, OwnA G F al H os vs fp → getM os i = some o →
    ∃ v f1 f2 f3, vs[i]? = some v ∧ OwnT G F al H o v f2 ∧ fp = f1 ++ (f2 ++ f3) ∧ ∀ (F' H' : Hp) (al' : List Addr), Mo F F' al al' → (∀ a ∈ f1 ++ f3, H' a = H a) →
      ∀ o' f', OwnT G F' al' H' o' v f' → OwnA G F' al' H' (setM os i o') vs (f1 ++ (f' ++ f3))
  | _, _, _, i, o, .nil, e => by cases i <;> cases e
  | _, _, _, 0, o, .cons (fp := fp) (fq := fq) h hs, e => by
    cases e
    exact ⟨_, [], fp, fq, rfl, h, rfl, fun F' H' al' m k o' f' t => .cons (fp := f') t (hs.mo m k)⟩
  | _, _, _, i + 1, o, .cons (fp := fp) h hs, e => by
    obtain ⟨v, f1, f2, f3, q1, q2, q3, q4⟩ := ownA_set (i := i) hs e
    refine ⟨v, fp ++ f1, f2, f3, by simpa using q1, q2, by rw [q3, List.append_assoc], fun F' H' al' m k o' f' t => ?_⟩
    have k1 : ∀ a ∈ fp, H' a = H a := fun a ha => k a (List.mem_append_left _ (List.mem_append_left _ ha))
    have k2 : ∀ a ∈ f1 ++ f3, H' a = H a := fun a ha => k a (by rw [List.append_assoc]; exact List.mem_append_right _ ha)
    show OwnA G F' al' H' (_ :: setM _ i o') _ _
    rw [List.append_assoc]
    exact .cons (h.mo m k1) (q4 F' H' al' m k2 o' f' t)
/-- the root at slot i: where it stands, and how it is written -/
theorem place {st : S} {σ : L2.St} {c : Cf} {i : Nat} {o : O} (r : Rel G st σ c) (e : getP st i = some o) : ∃ v f2, σ[i]? = some (some v) ∧ OwnT G c.F c.al c.H o v f2 ∧
    ∀ (H' : Hp) (o' : O), (∀ a, a ∉ f2 → H' a = c.H a) → OwnT G c.F c.al H' o' v f2 → Rel G (putP st i o') σ { c with H := H' } ∧ Go c { c with H := H' } := by
  have go : ∀ {f2 : List Addr} {H' : Hp}, (∀ a ∈ f2, a ∈ c.fs ∨ a ∈ c.fc) → (∀ a, a ∉ f2 → H' a = c.H a) → Go c { c with H := H' } := fun {f2 H'} sub k =>
    ⟨Mo.refl _ _, fun a _ h1 h2 => k a fun z => (sub a z).elim h1 h2, fun a h => h.elim .inl fun h => .inr (.inl h), fun a h => .inl h⟩
  have sb : ∀ {f2 : List Addr} {H' : Hp}, (∀ a ∈ f2, a ∈ c.fs ∨ a ∈ c.fc) → (∀ a, a ∉ f2 → H' a = c.H a) → ∀ a u, c.F a = some u → H' a = some u := fun {f2 H'} sub k a u z => by
    rw [k a (fun y => by have := r.own a (sub a y); rw [z] at this; cases this)]
    exact r.sub a u z
  -- a cell
  have cell : ∀ n, getS st.env i = some (.fz (.cel n)) → getM st.mu n = some o → putP st i = (fun o' => ⟨st.env, setM st.mu n o'⟩) → ∃ v f2, σ[i]? = some (some v) ∧ OwnT G c.F c.al c.H o v f2 ∧
      ∀ (H' : Hp) (o' : O), (∀ a, a ∉ f2 → H' a = c.H a) → OwnT G c.F c.al H' o' v f2 → Rel G (putP st i o') σ { c with H := H' } ∧ Go c { c with H := H' } := by
    intro n e1 e2 e3
    obtain ⟨v, g1, g2, g3, q1, q2, _⟩ := slots_get r.slots e1
    obtain ⟨v', f1, f2, f3, p1, p2, p3, p4⟩ := ownA_set r.cells e2
    have ev : v = v' := by
      cases q2 with
      | fz t =>
        cases t with
        | cel h =>
          rw [List.getElem?_map, h] at p1
          exact Option.some.inj p1
    subst ev
    have nd := r.ndc
    rw [p3] at nd
    obtain ⟨n1, n2, n3⟩ := nd_ends nd
    have sub : ∀ a ∈ f2, a ∈ c.fs ∨ a ∈ c.fc := fun a h => .inr (by rw [p3]; exact mem_mid h)
    refine ⟨v, f2, q1, p2, fun H' o' k t => ⟨?_, go sub k⟩⟩
    rw [e3]
    refine ⟨sb sub k, r.own, r.nds, r.ndc, r.dis, r.slots.mo (Mo.refl _ _) fun a ha => k a fun z => r.dis a ha (by rw [p3]; exact mem_mid z), ?_⟩
    have := p4 c.F H' c.al (Mo.refl _ _) (fun a ha => k a fun z => n3 a z ha) o' f2 t
    rw [← p3] at this
    exact this
  unfold getP at e
  split at e
  · rename_i n h
    exact cell n h e (by funext o'; unfold putP; rw [h])
  · cases e
  · rename_i h1 h2
    obtain ⟨v, f1, f2, f3, q1, q2, q3, q4⟩ := slots_set r.slots e
    have nd := r.nds
    rw [q3] at nd
    obtain ⟨n1, n2, n3⟩ := nd_ends nd
    have sub : ∀ a ∈ f2, a ∈ c.fs ∨ a ∈ c.fc := fun a h => .inl (by rw [q3]; exact mem_mid h)
    refine ⟨v, f2, q1, q2, fun H' o' k t => ⟨?_, go sub k⟩⟩
    have hp : putP st i o' = ⟨setS st.env i (some o'), st.mu⟩ := by
      unfold putP
      cases o with
      | fz d =>
        cases d with
        | cel n => exact absurd e (h1 n)
        | _ => exact absurd e (h2 _)
      | _ => rw [e]
    rw [hp]
    refine ⟨sb sub k, r.own, r.nds, r.ndc, r.dis, ?_, r.cells.mo (Mo.refl _ _) fun a ha => k a fun z => r.dis a (by rw [q3]; exact mem_mid z) ha⟩
    have := (q4 c.F H' c.al (Mo.refl _ _) (fun a ha => k a fun z => n3 a z ha)).1 o' f2 t
    rw [← q3] at this
    exact this
end
section
variable {X : Cx} {G : Gi} {W : WX} {e k value : Expr} {me mk : M O} {md mkd : M D} {pos pos' apos cpos : Pos} {i : Nat}
/-! ### x.append(e), x.extend(e) -/
def sApp (i : Nat) (md : M D) : M Fl := fun s => match getP s i with
  | some (.lst _) => (md s).bind fun d s1 => match getP s1 i with
    | some (.lst xs) => if xs.length < 16777216 then .ok .nx (putP s1 i (.lst (xs ++ [d]))) else .no
    | _ => .no
  | _ => .no
theorem own_lst {F H : Hp} {al : List Addr} {ds : List D} {v : V} {fp : List Addr} (h : OwnT G F al H (.lst ds) v fp) : ∃ a vs, v = .ref a ∧ fp = [a] ∧ H a = some (.lst vs) ∧ RpA G F al vs ds := by
  cases h with
  | lst h hs => exact ⟨_, _, rfl, rfl, h, hs⟩
/-- a tracked list's content exchanged -/
theorem put_lst {st : S} {σ : L2.St} {c : Cf} {ds' : List D} {o : O} {a : Addr} {vs' : List V} (hp : ∀ (H' : Hp) (o' : O), (∀ b, b ∉ [a] → H' b = c.H b) → OwnT G c.F c.al H' o' (.ref a) [a] → Rel G (putP st i o') σ { c with H := H' } ∧ Go c { c with H := H' })
    (h : RpA G c.F c.al vs' ds') : Rel G (putP st i (.lst ds')) σ { c with H := upd c.H a (.lst vs') } ∧ Go c { c with H := upd c.H a (.lst vs') } :=
  hp _ _ (fun b hb => upd_ne fun e => hb (by rw [e]; exact List.mem_singleton_self _)) (.lst upd_same h)
/-! ### x[k] = e -/
def putAt (i : Nat) (d k : D) : M Fl := fun s => match getP s i, k with
  | some (.lst xs), .int j => match ixN xs.length j with
    | some q => .ok .nx (putP s i (.lst (xs.set q d)))
    | none => .no
  | _, _ => .no
def sPutL (i : Nat) (mk md : M D) : M Fl := bnd md fun d s1 => match getP s1 i with
  | none => .no
  | some _ => (mk s1).bind fun k => putAt i d k
theorem putL_t {D' : Ends} {σ : L2.St} {H : Hp} (q : tS G W (sPutL i mkd md) D' σ H) : tAsg (tD G W md) (gSub (tVar i) (tD G W mkd) rSetL) D' σ H := by
  show tD G W md σ H fun v H1 => tVar i σ H1 fun o H1 => tD G W mkd σ H1 fun k H2 => rSetL o k v H2 fun H3 => D'.nx σ H3
  refine tS.ex q _ (fun d v c c1 st1 r1 g1 p1 w => ?_)
  split at w
  · exact w.elim
  · rename_i o0 e0
    obtain ⟨x, f0, hx, _⟩ := place r1 e0
    refine ⟨x, hx, c1, st1, rfl, r1, wp_mono (wp_bind.mp w) (fun k st2 w2 u c2 r2 g2 p2 => ?_) (fun x s q v d c' r' g' x' => q σ v d c' r' (g1.toGo.trans g'.toGo) x')⟩
    unfold putAt at w2
    split at w2
    · rename_i xs j e1
      split at w2
      · rename_i q' eq'
        obtain ⟨v', f2', q1', q2', hp⟩ := place r2 e1
        rw [hx] at q1'
        cases q1'
        obtain ⟨a', vs', rfl, rfl, hv', rv'⟩ := own_lst q2'
        cases p2
        obtain ⟨r3, g3⟩ := put_lst (o := .lst xs) hp (RpA.set (p1.mo g2.mo) q' rv')
        exact ⟨a', vs', j, q', rfl, rfl, hv', by rw [rv'.len]; exact eq', w2 σ _ r3 ((g1.toGo.trans g2.toGo).trans g3)⟩
      · exact w2.elim
    · exact w2.elim
theorem s_putL {x : Str} {px : Pos} (hN : X.N[i]? = some x) (hv : Vis X.env.scope x) (hk : PE X k (tD G W mkd)) (he : PE X e (tD G W md)) (hd : (x == ("__debug__" : Str)) = false := by decide) (hcd : (x == ("__classdict__" : Str)) = false := by decide)
    (hs : swapsWithSole [.Subscript (.Name x px) k pos'] e pos.line X.env = pure false := by rfl) (hw : swappedStores [.Subscript (.Name x px) k pos'] e X.env = pure none := by rfl)
    (h1 : (assignEach [.Subscript (.Name x px) k pos'] X.env).map (·.2) = [assign (.Subscript (.Name x px) k pos') X.env] := by rfl)
    (ha : ∀ v, assign (.Subscript (.Name x px) k pos') X.env v = (do
      let ov ← holding [v] (eval (.Name x px) X.env)
      let iv ← holding [v, ov] (eval k X.env)
      standAt pos'
      holding [v, ov, iv] (setItem ov iv v)
      release [v, ov, iv] []) := by intro _; rfl) :
    PS X (.Assign [.Subscript (.Name x px) k pos'] e pos) (tS G W (sPutL i mkd md)) :=
  (ps_asg he (pg_sub (pe_var hN hv hd hcd) hk set_list ha) hs hw h1).weak fun _ _ _ q => putL_t q
/-! ### a new cell -/
def cellO : O → Bool
  | .fz _ => false
  | _ => true
def sAsgC (i : Nat) (me : M O) : M Fl := bnd me fun o s => if cellO o = true then .ok .nx ⟨setS s.env i (some (.fz (.cel s.mu.length))), s.mu ++ [o]⟩ else .no
@[simp] theorem sAsgC_app (i : Nat) (me : M O) (s : S) : sAsgC i me s = (me s).bind fun o s => if cellO o = true then .ok .nx ⟨setS s.env i (some (.fz (.cel s.mu.length))), s.mu ++ [o]⟩ else .no := rfl
theorem own_ref {F H : Hp} {al : List Addr} {o : O} {v : V} {fp : List Addr} (h : OwnT G F al H o v fp) (k : cellO o = true) : ∃ a, v = .ref a := by
  cases h with
  | fz _ => cases k
  | _ => exact ⟨_, rfl⟩
theorem ownA_snoc {F H : Hp} {al : List Addr} : ∀ {os : List O} {vs : List V} {fp : List Addr} {o : O} {v : V} {fq : List Addr}, OwnA G F al H os vs fp → OwnT G F al H o v fq → OwnA G F al H (os ++ [o]) (vs ++ [v]) (fp ++ fq)
  | _, _, _, _, _, _, .nil, t => by
    have := OwnA.cons t (.nil (G := G) (F := F) (al := al) (H := H))
    rw [List.append_nil] at this
    exact this
  | _, _, _, _, _, _, .cons h hs, t => by
    rw [List.append_assoc]
    exact .cons h (ownA_snoc hs t)
theorem ownA_len {F H : Hp} {al : List Addr} : ∀ {os : List O} {vs : List V} {fp : List Addr}, OwnA G F al H os vs fp → os.length = vs.length
  | _, _, _, .nil => rfl
  | _, _, _, .cons _ hs => congrArg (· + 1) (ownA_len hs)
/-- an owned thing becomes a cell -/
theorem rel_cell {st : S} {σ : L2.St} {c0 c : Cf} {o : O} {a : Addr} {fp : List Addr} (r : Rel G st σ c) (t : OwnT G c.F c.al c.H o (.ref a) fp) (f : Fresh fp c) (g : Go c0 c) (n : New fp c0) :
    Rel G ⟨st.env, st.mu ++ [o]⟩ σ { c with al := c.al ++ [a], fc := c.fc ++ fp } ∧ Go c0 { c with al := c.al ++ [a], fc := c.fc ++ fp } ∧ (c.al ++ [a])[st.mu.length]? = some a := by
  have mo : Mo c.F c.F c.al (c.al ++ [a]) := .of (fun _ _ h => h) fun n b h => by
    have hl := (List.getElem?_eq_some_iff.mp h).1
    rw [List.getElem?_append_left hl]; exact h
  have hl : st.mu.length = c.al.length := by rw [ownA_len r.cells, List.length_map]
  refine ⟨⟨r.sub, fun b h => ?_, r.nds, ?_, fun b h k => ?_, r.slots.mo mo fun _ _ => rfl, ?_⟩, ⟨g.mo.trans mo, g.fr, fun b h => ?_, g.nF⟩, ?_⟩
  · rcases h with h | h
    · exact r.own b (.inl h)
    · exact (List.mem_append.mp h).elim (fun h => r.own b (.inr h)) (f.nf b)
  · exact List.nodup_append.mpr ⟨r.ndc, f.nd, fun x hx y hy e => by subst e; exact f.nc x hy hx⟩
  · exact (List.mem_append.mp k).elim (r.dis b h) (fun z => f.ns b z h)
  · show OwnA G c.F (c.al ++ [a]) c.H (st.mu ++ [o]) ((c.al ++ [a]).map V.ref) (c.fc ++ fp)
    rw [List.map_append]
    exact ownA_snoc (r.cells.mo mo fun _ _ => rfl) (t.mo mo fun _ _ => rfl)
  · rcases h with h | h
    · exact g.fp b (.inl h)
    · exact (List.mem_append.mp h).elim (fun h => g.fp b (.inr h)) (n b)
  · rw [hl, List.getElem?_append_right (Nat.le_refl _), Nat.sub_self]; rfl
theorem asgC_t {D' : Ends} {σ : L2.St} {H : Hp} (q : tS G W (sAsgC i me) D' σ H) : tAsg (tO G W me) (gName i) D' σ H := by
  show tO G W me σ H fun v H1 => D'.nx (σ.set i (some v)) H1
  refine tS.ex q _ (fun o v c c1 st1 r1 g1 p1 w => ?_)
  obtain ⟨fp, t, f, n⟩ := p1
  split at w
  · rename_i hc
    obtain ⟨a, rfl⟩ := own_ref t hc
    obtain ⟨r2, g2, e2⟩ := rel_cell r1 t f g1.toGo n
    obtain ⟨c', e, r', g', _⟩ := rel_put (i := i) (o := .fz (.cel st1.mu.length)) r2 (.fz (.cel e2)) (Fresh.nil _) g2 (New.nil _)
    have w : Fw G D' c .nx _ := w
    have e : c'.H = c1.H := e
    rw [← e]
    exact w _ c' r' g'
  · exact w.elim
theorem s_asgC {x : Str} (hN : X.N.Nodup) (hi : X.N[i]? = some x) (hx : Loc X.env.scope x) (he : PE X e (tO G W me)) (hs : swapsWith e (some (.Name x pos')) pos.line X.env = pure false := by rfl)
    (hf : X.fn x = true ∨ X.env.scope.names.lookup x = some .local := by first | exact .inl rfl | exact .inr rfl | assumption) : PS X (.Assign [.Name x pos'] e pos) (tS G W (sAsgC i me)) :=
  (ps_set hN hi hx he hs hf).weak fun _ _ _ q => asgC_t q
/-! ### reading that changes nothing -/
/-- a quiet expression -/
def tQ (G : Gi) (f : S → Option D) : TE := fun σ H Q => ∃ c st d, c.H = H ∧ Rel G st σ c ∧ f st = some d ∧ ∀ v, Rp G c.F c.al v d → Q v c.H
def qVar (i : Nat) : S → Option D := fun s => match getS s.env i with
  | some (.fz d) => some d
  | _ => none
theorem xq_var {x : Str} (hN : X.N[i]? = some x) (hv : Vis X.env.scope x) (hd : (x == ("__debug__" : Str)) = false := by decide) (hcd : (x == ("__classdict__" : Str)) = false := by decide) : PE X (.Name x pos) (tQ G (qVar i)) :=
  (pe_var hN hv hd hcd).weak fun σ H Q q => by
    obtain ⟨c, st, d, rfl, r, e, k⟩ := q
    unfold qVar at e
    split at e
    · rename_i d' h
      cases e
      obtain ⟨v, g1, g2, g3, q1, q2, _⟩ := slots_get r.slots h
      cases q2 with
      | fz t => exact ⟨v, q1, k v t⟩
    · cases e
theorem xq_c {v : V} {d : D} (h : PE X e (tC v)) (hr : ∀ F al, Rp G F al v d) : PE X e (tQ G (fun _ => some d)) := h.weak fun σ H Q q => by
  obtain ⟨c, st, d', rfl, r, e, k⟩ := q
  cases e
  exact k v (hr _ _)
/-- an operator whose second operand is quiet -/
def xOpQ (g : D → D → Option O) (ma : M O) (f : S → Option D) : M O := bnd ma fun x s => match f s with
  | some y => ofO (g x.toD y) s
  | none => .no
theorem opq_t {r : R2} {g : D → D → Option O} {ma : M O} {f : S → Option D} (hr : OpD G r g) {σ : L2.St} {H : Hp} {Q : VK} (q : tO G W (xOpQ g ma f) σ H Q) : tOp r (tLa G W ma) (tQ G f) σ H Q := by
  show tLa G W ma σ H fun x H1 => tQ G f σ H1 fun y H2 => r x y H2 Q
  refine q.seq bkO _ (fun ox x c c1 st1 r1 g1 p1 w => ?_)
  obtain ⟨fx, tx⟩ := p1
  split at w
  · rename_i d hd
    obtain ⟨o, eo, q3⟩ := wp_ofO.mp w
    exact ⟨c1, st1, d, rfl, r1, hd, fun v hv => hr st1 σ c1 x v ox (.fz d) fx [] o Q r1 tx (.fz hv) (by rw [O.toD]; exact eo) q3⟩
  · exact w.elim
theorem x_ixQ {a b : Expr} {r : R2} {g : D → D → Option O} {ma : M O} {f : S → Option D} (ho : IxR X r) (hr : OpD G r g) (ha : PE X a (tLa G W ma)) (hb : PE X b (tQ G f)) (hs : PlainIx b) :
    PE X (.Subscript a b pos) (tO G W (xOpQ g ma f)) := (pe_ix ho ha hb hs).weak fun σ H Q q => opq_t hr q
end
/-! ### subscripts -/
def ixD (x y : D) : Option O := match x, y with
  | .lst ds, .int i => (atI ds i).map .fz
  | .lsk ds, .int i => (atI ds i).map .fz
  | .tup ds, .int i => (atI ds i).map .fz
  | .tuk ds, .int i => (atI ds i).map .fz
  | .tun ds, .int i => (atI ds i).map .fz
  | .str s, .int i => if s.length ≤ 16777216 then (atI s.cps.toList i).map fun c => .fz (.str ⟨#[c]⟩) else none
  | _, _ => none
theorem rp_at {G : Gi} {F : Hp} {al : List Addr} {vs : List V} {ds : List D} {i : Int} {d : D} (h : RpA G F al vs ds) (e : atI ds i = some d) : ∃ v, atI vs i = some v ∧ Rp G F al v d := by
  unfold atI at e ⊢
  rw [h.len]
  obtain ⟨j, e1, e2⟩ := bind_some e
  obtain ⟨v, h1, h2⟩ := h.get e2
  exact ⟨v, by rw [e1]; exact h1, h2⟩
theorem d_ix {G : Gi} : OpD G (rIxM G.K) ixD := by
  intro st σ c x y ox oy fx fy o Q r tx ty e q
  have vx := own_view r tx
  have vy := own_view r ty
  generalize ox.toD = dx at *
  generalize oy.toD = dy at *
  unfold ixD at e
  split at e
  · obtain ⟨d, h1, rfl⟩ := map_some e
    obtain ⟨a, xs, rfl, hx, rx⟩ := vx
    obtain rfl : y = _ := vy
    obtain ⟨v, h2, h3⟩ := rp_at rx h1
    exact .inl ⟨a, xs, _, v, rfl, rfl, .inl (.inl hx), h2, fin r h3 q⟩
  · obtain ⟨d, h1, rfl⟩ := map_some e
    obtain ⟨a, xs, rfl, hx, rx⟩ := vx
    obtain rfl : y = _ := vy
    obtain ⟨v, h2, h3⟩ := rp_at rx h1
    exact .inl ⟨a, xs, _, v, rfl, rfl, hx, h2, fin r h3 q⟩
  · obtain ⟨d, h1, rfl⟩ := map_some e
    obtain ⟨a, xs, rfl, hx, rx, _⟩ := vx
    obtain rfl : y = _ := vy
    obtain ⟨v, h2, h3⟩ := rp_at rx h1
    exact .inr (.inl ⟨a, xs, _, v, rfl, rfl, hx, h2, fin r h3 q⟩)
  · obtain ⟨d, h1, rfl⟩ := map_some e
    obtain ⟨a, xs, rfl, hx, rx⟩ := vx
    obtain rfl : y = _ := vy
    obtain ⟨v, h2, h3⟩ := rp_at rx h1
    exact .inr (.inl ⟨a, xs, _, v, rfl, rfl, hx, h2, fin r h3 q⟩)
  · obtain ⟨d, h1, rfl⟩ := map_some e
    obtain ⟨a, xs, rfl, hx, rx, _⟩ := vx
    obtain rfl : y = _ := vy
    obtain ⟨v, h2, h3⟩ := rp_at rx h1
    exact .inr (.inl ⟨a, xs, _, v, rfl, rfl, hx, h2, fin r h3 q⟩)
  · split at e
    · rename_i hl
      obtain ⟨ch, h1, rfl⟩ := map_some e
      obtain rfl : x = _ := vx
      obtain rfl : y = _ := vy
      exact .inr (.inr ⟨_, _, ch, rfl, rfl, by rw [szl]; exact hl, h1, fin r (.str _) q⟩)
    · cases e
  · cases e
/-- slices -/
def cutD (ds : List D) (lo hi : Option Int) : List D := (ds.drop (HT.sIx ds.length 0 lo)).take (HT.sIx ds.length ds.length hi - HT.sIx ds.length 0 lo)
theorem rp_cut {G : Gi} {F : Hp} {al : List Addr} {vs : List V} {ds : List D} (lo hi : Option Int) (h : RpA G F al vs ds) : RpA G F al (cutV vs lo hi) (cutD ds lo hi) := by
  unfold cutV cutD
  rw [h.len]
  exact RpA.take _ (RpA.drop _ h)
def slD (x : D) (lo hi : Option Int) : Option O := match x with
  | .lst ds => some (.lst (cutD ds lo hi))
  | .lsk ds => some (.lst (cutD ds lo hi))
  | .str s => if s.length ≤ 16777216 then some (.fz (.str (cutS s lo hi))) else none
  | .tup ds => some (.fz (.tup (cutD ds lo hi)))
  | _ => none
def rSlX (K : PySem.W.Frag) : V → Option Int → Option Int → Hp → VK → Prop := fun a lo hi H Q => rSlL K a lo hi H Q ∨ rSlS a lo hi H Q ∨ rSlA K a lo hi H Q
theorem slX {X : Cx} {K : PySem.W.Frag} (hK : X.K = K) : SlR X (rSlX K) := hK ▸ SlR.or sl_list (SlR.or sl_str sl_tupA)
def mPart (md : M O) : M (Option Int) := bnd md fun o => match o with
  | .fz (.int i) => ret (some i)
  | _ => fun _ => .no
section
variable {X : Cx} {G : Gi} {W : WX} {e : Expr} {me ma : M O} {pos : Pos} {lo hi : Option Expr} {ml mh : M (Option Int)}
theorem xp_none : PO X none (tG G W (fun (i : Option Int) _ _ (v : Option Int) => v = i) (ret none)) := by
  refine ⟨fun pins s σ H Q I q => (po_none (X := X)).run pins s σ H Q I ?_⟩
  obtain ⟨c, st, rfl, r, w⟩ := q
  exact w none c r (GoE.refl r) rfl
theorem xp_some (h : PE X e (tO G W me)) : PO X (some e) (tG G W (fun (i : Option Int) _ _ (v : Option Int) => v = i) (mPart me)) := by
  refine ⟨fun pins s σ H Q I q => (po_some h).run pins s σ H Q I ?_⟩
  show tO G W me σ H fun x H1 => ∃ i, x = .int i ∧ Q (some i) H1
  refine q.seq0 _ (fun o v c c1 st1 r1 g1 p1 w => ?_)
  obtain ⟨fp, t, _⟩ := p1
  split at w
  · rename_i i
    cases t with
    | fz t => cases t; exact ⟨i, rfl, w _ c1 r1 g1 rfl⟩
  · exact w.elim
def xSl (ma : M O) (ml mh : M (Option Int)) : M O := bnd ma fun x => bnd ml fun l => bnd mh fun h => ofO (slD x.toD l h)
@[simp] theorem xSl_app (ma : M O) (ml mh : M (Option Int)) (s : S) : xSl ma ml mh s = (ma s).bind fun x s1 => (ml s1).bind fun l s2 => (mh s2).bind fun h => ofO (slD x.toD l h) := rfl
theorem finS {st : S} {σ : L2.St} {c : Cf} {x : V} {ox : O} {fx : List Addr} {o : O} {l h : Option Int} {Q : VK} (r : Rel G st σ c) (tx : OwnT G c.F c.al c.H ox x fx) (e : slD ox.toD l h = some o)
    (q : ∀ v c', Rel G st σ c' → GoE c c' → PrO G o c c' v → Q v c'.H) : rSlX G.K x l h c.H Q := by
  have vx := own_view r tx
  generalize ox.toD = dx at *
  unfold slD at e
  split at e
  · cases e
    obtain ⟨a, xs, rfl, hx, rx⟩ := vx
    exact .inl ⟨a, xs, rfl, .inl (.inl hx), finL r (rp_cut l h rx) q⟩
  · cases e
    obtain ⟨a, xs, rfl, hx, rx⟩ := vx
    exact .inl ⟨a, xs, rfl, hx, finL r (rp_cut l h rx) q⟩
  · split at e
    · rename_i hl
      cases e
      obtain rfl : x = _ := vx
      exact .inr (.inl ⟨_, rfl, by rw [szl]; exact hl, fin r (.str _) q⟩)
    · cases e
  · cases e
    obtain ⟨a, xs, rfl, hx, rx, rp⟩ := vx
    refine .inr (.inr ⟨a, xs, rfl, hx, fun hw => ?_, fun _ => finT r (rp_cut l h rx) q⟩)
    rename_i ds
    have e1 : cutD ds l h = ds := by
      unfold cutD
      rw [rx.len] at hw
      rw [hw.1, hw.2, Nat.sub_zero, List.drop_zero, List.take_length]
    rw [e1] at q
    exact fin r rp q
  · cases e
theorem x_sl {p2 : Pos} (hK : X.K = G.K) (he : PE X e (tBr G W ma)) (hl : PO X lo (tG G W (fun (i : Option Int) _ _ (v : Option Int) => v = i) ml)) (hu : PO X hi (tG G W (fun (i : Option Int) _ _ (v : Option Int) => v = i) mh)) :
    PE X (.Subscript e (.Slice lo hi none p2) pos) (tO G W (xSl ma ml mh)) := (pe_slice (slX hK) he hl hu).weak fun σ H Q q => by
  show tBr G W ma σ H fun x H1 => tG G W _ ml σ H1 fun l H2 => tG G W _ mh σ H2 fun h H3 => rSlX G.K x l h H3 Q
  refine q.seq bkO _ (fun ox x c c1 st1 r1 g1 p1 w => ?_)
  obtain ⟨fx, tx, kx⟩ := p1
  refine tG.seq1 bkO r1 w _ (fun l' l c2 st2 r2 g2 p2 w2 => ?_)
  obtain rfl : l = l' := p2
  refine tG.seq1 bkO r2 w2 _ (fun h' h c3 st3 r3 g3 p3 w3 => ?_)
  obtain rfl : h = h' := p3
  obtain ⟨o, eo, q3⟩ := wp_ofO.mp w3
  exact finS r3 (kx.go tx (g2.trans g3)) eo q3
end
end L2.Tr
namespace L2.Tr
open PySem PySem.Spec PyProof.Rows L2 L2.Pc
/-! ### calls of built-ins -/
def CnD (G : Gi) (r : List V → Hp → VK → Prop) (g : List D → Option O) : Prop := ∀ (st : S) (σ : L2.St) (c : Cf) (vs : List V) (ds : List D) (o : O) (Q : VK), Rel G st σ c →
  RpA G c.F c.al vs ds → g ds = some o → (∀ v c', Rel G st σ c' → GoE c c' → PrO G o c c' v → Q v c'.H) → r vs c.H Q
section
variable {X : Cx} {G : Gi} {W : WX} {e o : Expr} {es : List Expr} {m : M O} {ma : M (List D)} {x : Str} {p pos apos cpos : Pos} {id T : String} {r : List V → Hp → VK → Prop}
def xCn (g : List D → Option O) (ma : M (List D)) : M O := bnd ma fun ds => ofO (g ds)
@[simp] theorem xCn_app (g : List D → Option O) (ma : M (List D)) (s : S) : xCn g ma s = (ma s).bind fun ds => ofO (g ds) := rfl
theorem cn_t {g : List D → Option O} (hr : CnD G r g) {σ : L2.St} {H : Hp} {Q : VK} (q : tO G W (xCn g ma) σ H Q) : tCB r (tAs G W ma) σ H Q := by
  show tAs G W ma σ H fun vs H1 => r vs H1 Q
  refine q.seq bkO _ (fun ds vs c c1 st1 r1 g1 p1 w => ?_)
  obtain ⟨o, eo, q3⟩ := wp_ofO.mp w
  exact hr st1 σ c1 vs ds o Q r1 p1 eo q3
theorem c1_t {g : D → Option O} (hr : UnD G (fun x => r [x]) g) {σ : L2.St} {H : Hp} {Q : VK} (q : tO G W (xUn g m) σ H Q) : tCB r (tCons (tLa G W m) tNil) σ H Q := by
  show tLa G W m σ H fun x H1 => r [x] H1 Q
  exact un_t hr q
theorem x_b1 {g : D → Option O} (hc : CallR X (.builtin id) r) (hr : UnD G (fun x => r [x]) g) (hg : Gl X x) (hm : X.mg x = none) (hv : bootBuiltins x = some (.builtin id)) (ha : PE X e (tLa G W m)) (hn : x ≠ "__name__" := by decide) (hdb : (x == ("__debug__" : Str)) = false := by decide)
    (he : starEach [e] X.env = (false, eval e X.env) :: starEach [] X.env := by rfl) (hpl : (backTo pos (starEach [] X.env)).any (·.1) = false := by rfl) : PE X (.Call (.Name x p) [e] [] pos) (tO G W (xUn g m)) :=
  (pe_callB hc hg hm hv (pa_cons ha pa_nil he) hn hdb he hpl).weak fun _ _ _ q => c1_t hr q
theorem x_bn {g : List D → Option O} (hc : CallR X (.builtin id) r) (hr : CnD G r g) (hg : Gl X x) (hm : X.mg x = none) (hv : bootBuiltins x = some (.builtin id)) (ha : PA X (e :: es) (tAs G W ma)) (hn : x ≠ "__name__" := by decide) (hdb : (x == ("__debug__" : Str)) = false := by decide)
    (he : starEach (e :: es) X.env = (false, eval e X.env) :: starEach es X.env := by rfl) (hpl : (backTo pos (starEach es X.env)).any (·.1) = false := by rfl) : PE X (.Call (.Name x p) (e :: es) [] pos) (tO G W (xCn g ma)) :=
  (pe_callB hc hg hm hv ha hn hdb he hpl).weak fun _ _ _ q => cn_t hr q
theorem x_t1 {g : D → Option O} (hc : CallR X (.type T) r) (hr : UnD G (fun x => r [x]) g) (hg : Gl X x) (hm : X.mg x = none) (hv : bootBuiltins x = some (.type T)) (ha : PE X e (tLa G W m)) (hn : x ≠ "__name__" := by decide) (hdb : (x == ("__debug__" : Str)) = false := by decide)
    (he : starEach [e] X.env = (false, eval e X.env) :: starEach [] X.env := by rfl) (hpl : (backTo pos (starEach [] X.env)).any (·.1) = false := by rfl) : PE X (.Call (.Name x p) [e] [] pos) (tO G W (xUn g m)) :=
  (pe_callTy hc hg hm hv (pa_cons ha pa_nil he) hn hdb he hpl).weak fun _ _ _ q => c1_t hr q
/-- a built-in type as a value -/
theorem x_ty {n : String} (hg : Gl X x) (hm : X.mg x = none) (hv : bootBuiltins x = some (.type n)) (hn : x ≠ "__name__" := by decide) (hd : (x == ("__debug__" : Str)) = false := by decide) : PE X (.Name x pos) (tD G W (ret (.ty n))) :=
  (pe_bltn (v := .ty n) hg hm hv rfl hn hd).weak fun σ H Q q => by
    obtain ⟨c, st, rfl, r, h⟩ := q
    exact h _ c r (GoE.refl r) (.ty n)
/-! ### methods of texts -/
def isS : D → Bool
  | .str _ => true
  | _ => false
def xM1 (g : D → List D → Option O) (m : M O) (md : M D) : M O := bnd m fun x => if isS x.toD = true then bnd md fun d => ofO (g x.toD [d]) else fun _ => .no
def xM0 (g : D → List D → Option O) (m : M O) : M O := bnd m fun x => if isS x.toD = true then ofO (g x.toD []) else fun _ => .no
@[simp] theorem xM1_app (g : D → List D → Option O) (m : M O) (md : M D) (s : S) : xM1 g m md s = (m s).bind fun x => if isS x.toD = true then bnd md fun d => ofO (g x.toD [d]) else fun _ => .no := rfl
@[simp] theorem xM0_app (g : D → List D → Option O) (m : M O) (s : S) : xM0 g m s = (m s).bind fun x => if isS x.toD = true then ofO (g x.toD []) else fun _ => .no := rfl
end
/-! ### built-ins by their values -/
section
variable {G : Gi}
def lenD : D → Option O
  | .str s => if s.length ≤ 16777216 then some (.fz (.int s.length)) else none
  | .lst ds => some (.fz (.int ds.length))
  | .lsk ds => some (.fz (.int ds.length))
  | .tup ds => some (.fz (.int ds.length))
  | .tuk ds => some (.fz (.int ds.length))
  | .tun ds => some (.fz (.int ds.length))
  | _ => none
theorem d_len : UnD G (fun x => L2.Pc.rLen G.K [x]) lenD := by
  intro st σ c x ox fx o Q r tx e q
  have vx := own_view r tx
  generalize ox.toD = dx at *
  unfold lenD at e
  split at e
  · split at e
    · rename_i hl
      cases e
      obtain rfl : x = _ := vx
      exact ⟨_, _, rfl, ⟨by rw [szl]; exact hl, rfl⟩, fin r (.int _) q⟩
    · cases e
  · cases e
    obtain ⟨a, xs, rfl, hx, rx⟩ := vx
    exact ⟨_, _, rfl, .inl ⟨xs, .inl (.inl hx), rx.len.symm⟩, fin r (.int _) q⟩
  · cases e
    obtain ⟨a, xs, rfl, hx, rx⟩ := vx
    exact ⟨_, _, rfl, .inl ⟨xs, hx, rx.len.symm⟩, fin r (.int _) q⟩
  · cases e
    obtain ⟨a, xs, rfl, hx, rx, _⟩ := vx
    exact ⟨_, _, rfl, .inr ⟨xs, hx, rx.len.symm⟩, fin r (.int _) q⟩
  · cases e
    obtain ⟨a, xs, rfl, hx, rx⟩ := vx
    exact ⟨_, _, rfl, .inr ⟨xs, hx, rx.len.symm⟩, fin r (.int _) q⟩
  · cases e
    obtain ⟨a, xs, rfl, hx, rx, _⟩ := vx
    exact ⟨_, _, rfl, .inr ⟨xs, hx, rx.len.symm⟩, fin r (.int _) q⟩
  · cases e
def absD : D → Option O
  | .int i => some (.fz (.int (if i < 0 then -i else i)))
  | _ => none
theorem d_abs : UnD G (fun x => rAbs [x]) absD := by
  intro st σ c x ox fx o Q r tx e q
  have vx := own_view r tx
  generalize ox.toD = dx at *
  unfold absD at e
  split at e
  · cases e
    obtain rfl : x = _ := vx
    exact ⟨_, rfl, fin r (.int _) q⟩
  · cases e
def intD : D → Option O
  | .int i => some (.fz (.int i))
  | .bl b => some (.fz (.int (if b then 1 else 0)))
  | .str s => if s.length ≤ 640 then (PySem.intText? s).map fun n => .fz (.int n) else none
  | _ => none
theorem d_int : UnD G (fun x => rIntM [x]) intD := by
  intro st σ c x ox fx o Q r tx e q
  have vx := own_view r tx
  generalize ox.toD = dx at *
  unfold intD at e
  split at e
  · cases e
    obtain rfl : x = _ := vx
    exact .inl ⟨_, rfl, fin r (.int _) q⟩
  · cases e
    obtain rfl : x = _ := vx
    exact .inr (.inl ⟨_, rfl, fin r (.int _) q⟩)
  · split at e
    · rename_i hl
      obtain ⟨n, h1, rfl⟩ := map_some e
      obtain rfl : x = _ := vx
      exact .inr (.inr ⟨_, n, rfl, h1, hl, fin r (.int _) q⟩)
    · cases e
  · cases e
def strD : D → Option O
  | .int i => if i.natAbs.log2 < 1920 then some (.fz (.str (toString i))) else none
  | .str s => some (.fz (.str s))
  | _ => none
/-- repr of data without own classes -/
def reprD (d : D) : Option O := (D.py true d).bind fun p => if p.showable = true ∧ p.depth ≤ 60 ∧ p.shown.length ≤ 16777216 then some (.fz (.str p.shown)) else none
theorem d_repr : UnD G (fun x => rRepr G.K [x]) reprD := by
  intro st σ c x ox fx o Q r tx e q
  unfold reprD at e
  obtain ⟨p, h1, h2⟩ := bind_some e
  split at h2
  · rename_i h
    cases h2
    exact ⟨x, p, rfl, own_da r.sub tx h1, h.1, h.2.1, by rw [szl]; exact h.2.2, fin r (.str _) q⟩
  · cases h2
/-- tuple(x), list(x) of what is walked by places -/
def tupleD : D → Option O
  | .lst ds => some (.fz (.tup ds))
  | .lsk ds => some (.fz (.tup ds))
  | .tup ds => some (.fz (.tup ds))
  | _ => none
def listD : D → Option O
  | .lst ds => some (.lst ds)
  | .lsk ds => some (.lst ds)
  | .tup ds => some (.lst ds)
  | .tuk ds => some (.lst ds)
  | .tun ds => some (.lst ds)
  | _ => none
/-! ### in -/
def flatD : D → Bool
  | .non => true
  | .bl _ => true
  | .int _ => true
  | .str _ => true
  | _ => false
def eqF : D → D → Bool
  | .non, .non => true
  | .bl a, .bl b => a == b
  | .bl a, .int b => (if a then 1 else 0) == b
  | .int a, .bl b => a == (if b then 1 else 0)
  | .int a, .int b => a == b
  | .str a, .str b => a == b
  | _, _ => false
def itemsD : D → Option (List D)
  | .lst ds => some ds
  | .lsk ds => some ds
  | .tup ds => some ds
  | .tuk ds => some ds
  | .tun ds => some ds
  | _ => none
/-! ### methods of texts, by their values -/
def strsD : List D → Option (List Str)
  | [] => some []
  | .str b :: ds => (strsD ds).map (b :: ·)
  | _ => none
def joinD (x : D) (ds : List D) : Option O := match x, ds with
  | .str a, [d] => match itemsD d with
    | some es => (strsD es).bind fun ys => if (ys.map (·.length)).sum + ys.length * a.length ≤ 16777216 then some (.fz (.str (Txt.join a ys))) else none
    | none => none
  | _, _ => none
def zfillD (x : D) (ds : List D) : Option O := match x, ds with
  | .str a, [.int i] => if PadOk i = true then some (.fz (.str (Txt.zfill a i))) else none
  | _, _ => none
/-! ### isinstance of data -/
def clsName : D → Option String
  | .non => some "NoneType"
  | .bl _ => some "bool"
  | .int _ => some "int"
  | .str _ => some "str"
  | .tup _ => some "tuple"
  | .tuk _ => some "tuple"
  | .tun _ => some "tuple"
  | .lst _ => some "list"
  | .lsk _ => some "list"
  | .dct _ => some "dict"
  | _ => none
/-- what isinstance tells of a kind and a built-in type -/
def kindIs : String → String → Option Bool
  | k, "str" => some (k == "str")
  | k, "int" => some (k == "int" || k == "bool")
  | k, "bool" => some (k == "bool")
  | k, "tuple" => some (k == "tuple")
  | k, "list" => some (k == "list")
  | k, "dict" => some (k == "dict")
  | _, _ => none
def isiD : List D → Option O
  | [x, .ty n] => (clsName x).bind fun k => (kindIs k n).map fun b => .fz (.bl b)
  | _ => none
end
end L2.Tr
namespace L2.Tr
open PySem PySem.Spec PyProof.Rows L2 L2.Pc
/-! ### short words for derivations -/
section
variable {X : Cx} {G : Gi} {W : WX} {e : Expr} {m : M O} {pos : Pos}
theorem noPass {σ : L2.St} : PassesAt (L2.CX X.prog X.w) X σ (WE noW σ) := fun _ _ _ _ _ _ c => by
  obtain ⟨_, _, _, _, _, _, _, _, _, _, _, _, h⟩ := c
  exact h.elim
theorem nog {p : Prop} : false = true → p := fun z => by cases z
theorem tv (i : Nat) {x : Str} (hN : X.N[i]? = some x := by rfl) (hv : Vis X.env.scope x := by first | exact Or.inl rfl | exact Or.inr (Or.inl rfl) | exact Or.inr (Or.inr rfl)) (hd : (x == ("__debug__" : Str)) = false := by decide)
    (hcd : (x == ("__classdict__" : Str)) = false := by decide) : PE X (.Name x pos) (tO G W (xVar i)) := x_var hN hv hd hcd
theorem tm (i : Nat) {x : Str} (hN : X.N[i]? = some x := by rfl) (hv : Vis X.env.scope x := by first | exact Or.inl rfl | exact Or.inr (Or.inl rfl) | exact Or.inr (Or.inr rfl)) (hd : (x == ("__debug__" : Str)) = false := by decide)
    (hcd : (x == ("__classdict__" : Str)) = false := by decide) : PE X (.Name x pos) (tO G W (xMov i)) := x_mov hN hv hd hcd
theorem tb (i : Nat) {x : Str} (hN : X.N[i]? = some x := by rfl) (hv : Vis X.env.scope x := by first | exact Or.inl rfl | exact Or.inr (Or.inl rfl) | exact Or.inr (Or.inr rfl)) (hd : (x == ("__debug__" : Str)) = false := by decide)
    (hcd : (x == ("__classdict__" : Str)) = false := by decide) : PE X (.Name x pos) (tBr G W (xBor i)) := x_bvar hN hv hd hcd
theorem tq (i : Nat) {x : Str} (hN : X.N[i]? = some x := by rfl) (hv : Vis X.env.scope x := by first | exact Or.inl rfl | exact Or.inr (Or.inl rfl) | exact Or.inr (Or.inr rfl)) (hd : (x == ("__debug__" : Str)) = false := by decide)
    (hcd : (x == ("__classdict__" : Str)) = false := by decide) : PE X (.Name x pos) (tQ G (qVar i)) := xq_var hN hv hd hcd
/-- a slot's thing, or what its cell holds -/
def xRd (i : Nat) : M O := fun s => match getS s.env i with
  | some (.fz (.cel n)) => (match getM s.mu n with
    | some o => .ok o s
    | none => .no)
  | some o => .ok o s
  | none => .no
theorem x_rd {i : Nat} {x : Str} (hN : X.N[i]? = some x) (hv : Vis X.env.scope x) (hd : (x == ("__debug__" : Str)) = false := by decide) (hcd : (x == ("__classdict__" : Str)) = false := by decide) : PE X (.Name x pos) (tLa G W (xRd i)) :=
  (pe_var hN hv hd hcd).weak fun σ H Q q => by
    obtain ⟨c, st, rfl, r, w⟩ := q
    unfold xRd at w
    split at w
    · rename_i n h
      split at w
      · rename_i o h2
        obtain ⟨v, f2, q1, q2, _⟩ := place (i := i) r (show getP st i = some o by unfold getP; rw [h]; exact h2)
        exact ⟨v, q1, w v c r (GoE.refl r) ⟨f2, q2⟩⟩
      · exact w.elim
    · rename_i o h1 h
      obtain ⟨v, g1, g2, g3, q1, q2, _⟩ := slots_get r.slots h
      exact ⟨v, q1, w v c r (GoE.refl r) ⟨g2, q2⟩⟩
    · exact w.elim
theorem tr (i : Nat) {x : Str} (hN : X.N[i]? = some x := by rfl) (hv : Vis X.env.scope x := by first | exact Or.inl rfl | exact Or.inr (Or.inl rfl) | exact Or.inr (Or.inr rfl)) (hd : (x == ("__debug__" : Str)) = false := by decide)
    (hcd : (x == ("__classdict__" : Str)) = false := by decide) : PE X (.Name x pos) (tLa G W (xRd i)) := x_rd hN hv hd hcd
theorem tc_int {i : Int} {j : Nat} : PE X (.Constant (.int i) j pos) (tO G W (xC (.int i))) := x_c pe_int fun _ _ => .int i
theorem tc_bl {b : Bool} {j : Nat} : PE X (.Constant (.bool b) j pos) (tO G W (xC (.bl b))) := x_c pe_bl fun _ _ => .bl b
theorem tc_non {j : Nat} : PE X (.Constant .none j pos) (tO G W (xC .non)) := x_c pe_non fun _ _ => .non
theorem tc_str {s : Str} {j : Nat} : PE X (.Constant (.str s) j pos) (tO G W (xC (.str s))) := x_c pe_str fun _ _ => .str s
theorem tq_int {i : Int} {j : Nat} : PE X (.Constant (.int i) j pos) (tQ G fun _ => some (.int i)) := xq_c pe_int fun _ _ => .int i
/-- a module's constant -/
structure Gc (G : Gi) (x : Str) (d : D) : Prop where
  ex : ∃ v, Gm G.mg x v ∧ ∀ F al, Rp G F al v d
theorem tg {x : Str} {d : D} (h : Gc G x d) (hM : X.mg = G.mg) (hg : Gl X x) (hd : (x == ("__debug__" : Str)) = false := by decide) : PE X (.Name x pos) (tO G W (xC d)) := by
  obtain ⟨v, h1, h2⟩ := h.ex
  exact x_c (pe_gm (by rw [hM]; exact h1) hg hd) h2
end
/-! ### several values, owned -/
section
variable {G : Gi} {W : WX}
def PrAO (G : Gi) : List O → Cf → Cf → List V → Prop := fun os c c' vs => ∃ fp, OwnA G c'.F c'.al c'.H os vs fp ∧ Fresh fp c' ∧ New fp c
abbrev tAo (G : Gi) (W : WX) (m : M (List O)) : TA := tG G W (PrAO G) m
def oNil : M (List O) := ret []
def oCons (m : M O) (ms : M (List O)) : M (List O) := bnd m fun d => bnd ms fun ds => ret (d :: ds)
@[simp] theorem oNil_app (s : S) : oNil s = .ok [] s := rfl
@[simp] theorem oCons_app (m : M O) (ms : M (List O)) (s : S) : oCons m ms s = (m s).bind fun d s1 => (ms s1).bind fun ds => ret (d :: ds) := rfl
variable {X : Cx} {e : Expr} {es : List Expr} {m : M O} {ms : M (List O)}
theorem xo_nil : PA X [] (tAo G W oNil) := (pa_nil (X := X)).weak fun σ H Q q => by
  obtain ⟨c, st, rfl, r, h⟩ := q
  exact h [] c r (GoE.refl r) ⟨[], .nil, Fresh.nil _, New.nil _⟩
theorem ocons_t {σ : L2.St} {H : Hp} {Q : List V → Hp → Prop} (q : tAo G W (oCons m ms) σ H Q) : tCons (tO G W m) (tAo G W ms) σ H Q := by
  show tO G W m σ H fun x H1 => tAo G W ms σ H1 fun xs H2 => Q (x :: xs) H2
  obtain ⟨c0, st0, e0, r0, h0⟩ := q
  refine ⟨c0, st0, e0, r0, wp_mono (wp_bind.mp h0) (fun o st1 w v c1 r1 g1 p1 => ?_) (fun _ _ h => h)⟩
  obtain ⟨f1, t1, fr1, n1⟩ := p1
  refine ⟨c1, st1, rfl, r1, wp_mono (wp_bind.mp w) (fun os st2 w2 vs c2 r2 g2 p2 => ?_) (fun x s h => h.go g1)⟩
  obtain ⟨f2, t2, fr2, n2⟩ := p2
  obtain ⟨t1', fr1'⟩ := OwnT.go t1 fr1 g2.toGo
  refine w2 (v :: vs) c2 r2 (g1.trans g2) ⟨f1 ++ f2, .cons t1' t2, ?_, fun a ha => (List.mem_append.mp ha).elim (n1 a) (n2.go g1.toGo a)⟩
  refine ⟨List.nodup_append.mpr ⟨fr1'.nd, fr2.nd, fun a ha b hb e => ?_⟩, fun a ha => (List.mem_append.mp ha).elim (fr1'.nf a) (fr2.nf a), fun a ha => (List.mem_append.mp ha).elim (fr1'.ns a) (fr2.ns a),
    fun a ha => (List.mem_append.mp ha).elim (fr1'.nc a) (fr2.nc a)⟩
  subst e
  rcases n2 a hb with z | z | z
  · exact fr1.ns a ha z
  · exact fr1.nc a ha z
  · exact t1.there a ha z
theorem xo_cons (ha : PE X e (tO G W m)) (hr : PA X es (tAo G W ms)) (hs : starEach (e :: es) X.env = (false, eval e X.env) :: starEach es X.env := by rfl) : PA X (e :: es) (tAo G W (oCons m ms)) :=
  (pa_cons ha hr hs).weak fun _ _ _ q => ocons_t q
/-- a, b = x, y -/
def sPar (i j : Nat) (ms : M (List O)) : M Fl := bnd ms fun os s => match os with
  | [o, p] => .ok .nx ⟨setS (setS s.env i (some o)) j (some p), s.mu⟩
  | _ => .no
def sPar3 (i j l : Nat) (ms : M (List O)) : M Fl := bnd ms fun os s => match os with
  | [o, p, r] => .ok .nx ⟨setS (setS (setS s.env i (some o)) j (some p)) l (some r), s.mu⟩
  | _ => .no
/-- a slot stored to, the rest of what is at hand stays at hand -/
theorem rel_put2 {st : S} {σ : L2.St} {c0 c : Cf} {i : Nat} {o : O} {v : V} {fp fq : List Addr} (r : Rel G st σ c) (t : OwnT G c.F c.al c.H o v fp) (f : Fresh (fp ++ fq) c) (g : Go c0 c) (n : New fp c0) :
    ∃ c', c'.H = c.H ∧ Rel G ⟨setS st.env i (some o), st.mu⟩ (σ.set i (some v)) c' ∧ Go c0 c' ∧ c'.F = c.F ∧ c'.al = c.al ∧ Fresh fq c' := by
  have nd := List.nodup_append.mp f.nd
  have f1 : Fresh fp c := ⟨nd.1, fun a h => f.nf a (List.mem_append_left _ h), fun a h => f.ns a (List.mem_append_left _ h), fun a h => f.nc a (List.mem_append_left _ h)⟩
  obtain ⟨c', e, r', g', eF, eA, hs, hc⟩ := rel_put (i := i) r t f1 g n
  refine ⟨c', e, r', g', eF, eA, nd.2.1, fun a h => by rw [eF]; exact f.nf a (List.mem_append_right _ h), fun a h => hs a (fun z => nd.2.2 a z a h rfl) (f.ns a (List.mem_append_right _ h)), fun a h => by rw [hc]; exact f.nc a (List.mem_append_right _ h)⟩
theorem par_t {i j : Nat} {D' : Ends} {σ : L2.St} {H : Hp} (q : tS G W (sPar i j ms) D' σ H) : tPar i j (tAo G W ms) D' σ H := by
  show tAo G W ms σ H fun vs H1 => ∃ v w, vs = [v, w] ∧ D'.nx ((σ.set i (some v)).set j (some w)) H1
  refine tS.ex q _ (fun os vs c c1 st1 r1 g1 p1 w => ?_)
  obtain ⟨fp, t, f, n⟩ := p1
  split at w
  · rename_i o p
    cases t with
    | @cons _ v _ _ fa fb t1 ts =>
      cases ts with
      | @cons _ u _ _ fc fd t2 ts =>
        cases ts
        rw [List.append_nil] at f n
        refine ⟨v, u, rfl, ?_⟩
        obtain ⟨c2, e2, r2, g2, eF, eA, f2⟩ := rel_put2 (i := i) r1 t1 f g1.toGo (fun a h => n a (List.mem_append_left _ h))
        obtain ⟨c3, e3, r3, g3, _⟩ := rel_put (i := j) r2 (t2.mo (by rw [eF, eA]; exact Mo.refl _ _) fun a _ => by rw [e2]) f2 g2 (fun a h => n a (List.mem_append_right _ h))
        have w : Fw G D' c .nx _ := w
        rw [← e2, ← e3]
        exact w _ c3 r3 g3
  · exact w.elim
end
/-! ### chains of two comparisons -/
section
variable {X : Cx} {G : Gi} {W : WX} {a b c : Expr} {ma mb mc : M O} {pos : Pos}
/-- a < b < c -/
def xChain (g g' : D → D → Option O) (ma mb mc : M O) : M O := bnd ma fun x => bnd mb fun y => match (g x.toD y.toD).bind asB with
  | some true => bnd mc fun z => ofO (g' y.toD z.toD)
  | some false => ret (.fz (.bl false))
  | none => fun _ => .no
end
section
variable {X : Cx} {G : Gi} {W : WX} {ms : M (List O)} {pos : Pos}
theorem s_par {i j : Nat} {x y : Str} {a b : Expr} {px py pt : Pos} {kt k2 : Nat} {pt2 : Pos} (h : PS X (.Assign [.Tuple [.Name x px, .Name y py] kt pt] (.Tuple [a, b] k2 pt2) pos) (tPar i j (tAo G W ms))) :
    PS X (.Assign [.Tuple [.Name x px, .Name y py] kt pt] (.Tuple [a, b] k2 pt2) pos) (tS G W (sPar i j ms)) := h.weak fun _ _ _ q => par_t q
theorem tg_tupK {K : PySem.W.Frag} {gs : TGs} {ts : List MT} {n : Nat} (hK : G.K = K) (h : TgsOk G gs ts) (hn : ts.length = n := by rfl) : TgOk G (gTup K n gs) (gT ts) := hK ▸ tg_tup h hn
end
/-! ### max, min of some ints -/
end L2.Tr
namespace L2.Tr
open PySem PySem.Spec PyProof.Rows L2 L2.Pc
end L2.Tr
namespace L2.Tr
open PySem PySem.Spec PyProof.Rows L2 L2.Pc
/-! ### trees without cells -/
mutual
def noC : D → Bool
  | .cel _ => false
  | .tup xs => noCA xs
  | .lst xs => noCA xs
  | .lsk xs => noCA xs
  | .tuk xs => noCA xs
  | .tun xs => noCA xs
  | .dct kvs => noCK kvs
  | .dcu kvs => noCK kvs
  | .ins _ fs => noCF fs
  | .xob _ fs => noCF fs
  | .xok _ fs => noCF fs
  | .non => true
  | .bl _ => true
  | .int _ => true
  | .str _ => true
  | .fn _ => true
  | .ty _ => true
def noCA : List D → Bool
  | [] => true
  | d :: ds => noC d && noCA ds
def noCK : List (D × D) → Bool
  | [] => true
  | (_, d) :: ds => noC d && noCK ds
def noCF : List (Str × D) → Bool
  | [] => true
  | (_, d) :: ds => noC d && noCF ds
end
theorem noCF_map : ∀ fs : List (Str × D), noCF fs = noCA (fs.map (·.2))
  | [] => by rw [noCF]; rfl
  | (_, d) :: r => by rw [noCF, List.map_cons, noCA, noCF_map r]
theorem noCK_map : ∀ fs : List (D × D), noCK fs = noCA (fs.map (·.2))
  | [] => by rw [noCK]; rfl
  | (_, d) :: r => by rw [noCK, List.map_cons, noCA, noCK_map r]
mutual
theorem Rp.al {G : Gi} {F : Hp} {al al' : List Addr} : ∀ {v : V} {d : D}, Rp G F al v d → noC d = true → Rp G F al' v d
  | _, _, .non, _ => .non
  | _, _, .bl b, _ => .bl b
  | _, _, .int i, _ => .int i
  | _, _, .str x, _ => .str x
  | _, _, .tup h hs, n => by rw [noC] at n; exact .tup h (RpA.al hs n)
  | _, _, .tuk h hs, n => by rw [noC] at n; exact .tuk h (RpA.al hs n)
  | _, _, .tun h k hs, n => by rw [noC] at n; exact .tun h k (RpA.al hs n)
  | _, _, .lst h hs, n => by rw [noC] at n; exact .lst h (RpA.al hs n)
  | _, _, .lsk h hs, n => by rw [noC] at n; exact .lsk h (RpA.al hs n)
  | _, _, .dcK h k hs, n => by rw [noC, noCK_map] at n; exact .dcK h k (RpA.al hs n)
  | _, _, .dcT h k hs, n => by rw [noC, noCK_map] at n; exact .dcT h k (RpA.al hs n)
  | _, _, .ins h k m hs, n => by rw [noC, noCF_map] at n; exact .ins h k m (RpA.al hs n)
  | _, _, .cel h, n => by rw [noC] at n; cases n
  | _, _, .fn h, _ => .fn h
  | _, _, .ty n, _ => .ty n
  | _, _, .xob h q k m hs, n => by rw [noC, noCF_map] at n; exact .xob h q k m (RpA.al hs n)
  | _, _, .xob0 h q, _ => .xob0 h q
  | _, _, .xok h q k m hs, n => by rw [noC, noCF_map] at n; exact .xok h q k m (RpA.al hs n)
  | _, _, .xok0 h q, _ => .xok0 h q
theorem RpA.al {G : Gi} {F : Hp} {al al' : List Addr} : ∀ {vs : List V} {ds : List D}, RpA G F al vs ds → noCA ds = true → RpA G F al' vs ds
  | _, _, .nil, _ => .nil
  | _, _, .cons h hs, n => by rw [noCA, Bool.and_eq_true] at n; exact .cons (Rp.al h n.1) (RpA.al hs n.2)
end
mutual
def noCO : O → Bool
  | .fz d => noC d
  | .lst xs => noCA xs
  | .dct kvs => noCK kvs
  | .dcu kvs => noCK kvs
  | .ins _ fs => noCOF fs
  | .dco kvs => noCOK kvs
  | .dcv kvs => noCOK kvs
def noCOF : List (Str × O) → Bool
  | [] => true
  | (_, d) :: ds => noCO d && noCOF ds
def noCOK : List (D × O) → Bool
  | [] => true
  | (_, d) :: ds => noCO d && noCOK ds
end
def noCOA : List O → Bool
  | [] => true
  | d :: ds => noCO d && noCOA ds
theorem noCOF_map : ∀ fs : List (Str × O), noCOF fs = noCOA (fs.map (·.2))
  | [] => by rw [noCOF]; rfl
  | (_, d) :: r => by rw [noCOF, List.map_cons, noCOA, noCOF_map r]
theorem noCOK_map : ∀ fs : List (D × O), noCOK fs = noCOA (fs.map (·.2))
  | [] => by rw [noCOK]; rfl
  | (_, d) :: r => by rw [noCOK, List.map_cons, noCOA, noCOK_map r]
mutual
theorem OwnT.al {G : Gi} {F H : Hp} {al al' : List Addr} : ∀ {o : O} {v : V} {fp : List Addr}, OwnT G F al H o v fp → noCO o = true → OwnT G F al' H o v fp
  | _, _, _, .fz h, n => by rw [noCO] at n; exact .fz (h.al n)
  | _, _, _, .lst h hs, n => by rw [noCO] at n; exact .lst h (hs.al n)
  | _, _, _, .dcK h q hs, n => by rw [noCO, noCK_map] at n; exact .dcK h q (hs.al n)
  | _, _, _, .dcT h q hs, n => by rw [noCO, noCK_map] at n; exact .dcT h q (hs.al n)
  | _, _, _, .ins h q m hs, n => by rw [noCO, noCOF_map] at n; exact .ins h q m (OwnA.al hs n)
  | _, _, _, .dcoK h q hs, n => by rw [noCO, noCOK_map] at n; exact .dcoK h q (OwnA.al hs n)
  | _, _, _, .dcoT h q hs, n => by rw [noCO, noCOK_map] at n; exact .dcoT h q (OwnA.al hs n)
theorem OwnA.al {G : Gi} {F H : Hp} {al al' : List Addr} : ∀ {os : List O} {vs : List V} {fp : List Addr}, OwnA G F al H os vs fp → noCOA os = true → OwnA G F al' H os vs fp
  | _, _, _, .nil, _ => .nil
  | _, _, _, .cons h hs, n => by rw [noCOA, Bool.and_eq_true] at n; exact .cons (OwnT.al h n.1) (OwnA.al hs n.2)
end
/-! ### attributes -/
abbrev CTab := List (Str × List Str)
def okF (CT : CTab) (c f : Str) : Bool := match CT.lookup c with
  | some fl => fl.contains f
  | none => false
def fldD (CT : CTab) (f : Str) : D → Option D
  | .ins c fs => if okF CT c f = true then fs.lookup f else none
  | _ => none
def fldO (CT : CTab) (f : Str) : O → Option O
  | .fz d => (fldD CT f d).map .fz
  | .ins c fs => if okF CT c f = true then fs.lookup f else none
  | _ => none
theorem lk_rp {G : Gi} {F : Hp} {al : List Addr} {f : Str} {d : D} : ∀ {fs : List (Str × V)} {ds : List (Str × D)}, ds.map (·.1) = fs.map (·.1) → RpA G F al (fs.map (·.2)) (ds.map (·.2)) → ds.lookup f = some d →
    ∃ v, fs.lookup f = some v ∧ Rp G F al v d
  | [], [], _, _, h => by cases h
  | [], _ :: _, e, _, _ => by cases e
  | _ :: _, [], e, _, _ => by cases e
  | (n, v) :: fs, (m, x) :: ds, e, .cons r rs, h => by
    rw [List.map_cons, List.map_cons] at e
    injection e with e1 e2
    have e1 : m = n := e1
    subst e1
    unfold List.lookup at h ⊢
    cases q : f == m with
    | true => rw [q] at h; cases h; exact ⟨v, rfl, r⟩
    | false => rw [q] at h; exact lk_rp e2 rs h
section
variable {X : Cx} {G : Gi} {W : WX} {e value : Expr} {m : M O} {md : M D} {pos pos' : Pos} {CT : CTab} {f : Str} {i : Nat}
/-- e.f, as it is now -/
def xFld (CT : CTab) (f : Str) (m : M O) : M O := bnd m fun o => ofO (fldO CT f o)
def fzO : O → Option O
  | .fz d => some (.fz d)
  | _ => none
/-- e.f, frozen -/
def xFldF (CT : CTab) (f : Str) (m : M O) : M O := bnd m fun o => ofO ((fldO CT f o).bind fzO)
@[simp] theorem xFld_app (m : M O) (s : S) : xFld CT f m s = (m s).bind fun o => ofO (fldO CT f o) := rfl
@[simp] theorem xFldF_app (m : M O) (s : S) : xFldF CT f m s = (m s).bind fun o => ofO ((fldO CT f o).bind fzO) := rfl
def putO (f : Str) (o : O) : List (Str × O) → List (Str × O)
  | [] => [(f, o)]
  | (g, x) :: r => if g = f then (g, o) :: r else (g, x) :: putO f o r
/-- self.f = e, self a name: all attributes frozen -/
def sFldD (CT : CTab) (f : Str) (i : Nat) (md : M D) : M Fl := bnd md fun d s => match getP s i with
  | some (.ins c os) => if okF CT c f = true ∧ (os.map (·.2)).all isFz = true ∧ os.length < 1000 then .ok .nx (putP s i (.ins c (putO f (.fz d) os))) else .no
  | _ => .no
end
/-! ### a new instance -/
/-- what an __init__ promises: self is new -/
def SpI (G : Gi) (x : Str) (n : Nat) (m : MF) : Sp := fun vs H Q E => ∃ c0 ds mu a C dx ws, c0.fs = [] ∧ Rel G ⟨[], mu⟩ [] c0 ∧ c0.H a = none ∧ c0.H dx = none ∧ dx ≠ a ∧
  H = upd (upd c0.H dx (.own a)) a (.ins C dx []) ∧ G.mg x = some (.ref C) ∧ vs = .ref a :: ws ∧ RpA G c0.F c0.al ws ds ∧ vs.length = n ∧
  wp (m ds mu) (fun o s' => ∀ c' fp, Rel G ⟨[], s'.mu⟩ [] c' → Go c0 c' → OwnT G c'.F c'.al c'.H o (.ref a) fp → Fresh fp c' → New fp c0 → Q .non c'.H)
    (fun e s' => ∀ v d c', Rel G ⟨[], s'.mu⟩ [] c' → Go c0 c' → XRp G c' e v d → E v d c'.H)
/-- an __init__'s body as a function: self is the only cell -/
def fnI (N : Nat) (x : Str) (body : M Fl) : MF := fun ds mu => if noCA ds = true then (match body ⟨some (.fz (.cel 0)) :: env0 (N - 1) ds, [.ins x []]⟩ with
  | .ok .nx ⟨_, [o]⟩ => if noCO o = true then .ok o ⟨[], mu⟩ else .no
  | .exc e _ => if noCF e.fs = true then .exc e ⟨[], mu⟩ else .no
  | _ => .no) else .no
structure FnI (P : Program) (w : World) (G : Gi) (base : Heap) (k : Nat) (f : Addr) (fd : FuncData) (ps : List Str) (x : Str) (m : MF) : Prop where
  go : ∀ (A : Around) (outer : List Env) (s : Shared) (H : Hp) (args : Args) (us : List Value)
    (vs : List V) (Q : VK) (E : XK), Room k A → Env0 P w G.K G.mg base A outer s H →
    BindsTo s fd args (ps.zip us) → Vals vs us → SpI G x ps.length m vs H Q E →
    codeAny (model P w) A (.call (.ref f) args) (CR (L2.CX P w) outer P w H s Q E) s
section
variable {P : Program} {w : World} {G : Gi} {base : Heap} {k j : Nat} {f : Addr} {fd : FuncData} {N ps : List Str} {m m' : MF} {cn : Str}
theorem FnI.mono (F : FnI P w G base j f fd ps cn m) (h : j ≤ k) : FnI P w G base k f fd ps cn m :=
  ⟨fun A o s H a us vs Q E r => F.go A o s H a us vs Q E (r.mono h)⟩
end
structure BdI (K : PySem.W.Frag) (fd : FuncData) (ps : List Str) (n : Nat) (ks : List Str) (gD : List D → List D → List D) : Prop where
  ex : ∃ (g : List Value → List Value → List Value) (gV : List V → List V → List V), KBn K fd ps (n + 1) ks g gV ∧
    ∀ x vs zs, vs.length = n → zs.length = ks.length → ∃ ws, gV (x :: vs) zs = x :: ws ∧ (x :: ws).length = ps.length ∧
      ∀ (G : Gi) (F : Hp) (al : List Addr) ds es, RpA G F al vs ds → RpA G F al zs es → RpA G F al ws (gD ds es)
end L2.Tr
namespace L2.Tr
open PySem PySem.Spec PyProof.Rows L2 L2.Pc
/-! ### methods -/
section
variable {X : Cx} {G : Gi} {W : WX} {gb : Bool} {k n : Nat} {ks ps : List Str} {gD : List D → List D → List D} {m : MF} {x : Str} {p pos apos : Pos} {e o : Expr} {es : List Expr} {kws : List Keyword} {ma mk : M (List D)} {md : M D} {c mn : Str}
/-- o.m(.., k = ..) of a frozen instance of the class c -/
def xMeth (c mn : Str) (m : MF) (gD : List D → List D → List D) (n k : Nat) (md : M D) (ma mk : M (List D)) : M O := bnd md fun d => match d with
  | .ins c' fs => if c' = c ∧ (fs.map (·.1)).contains mn = false then bnd ma fun ds => bnd mk fun es => if ds.length + 1 = n ∧ es.length = k then runF m (gD (.ins c' fs :: ds) es) else fun _ => .no
    else fun _ => .no
  | _ => fun _ => .no
end
/-! ### str, repr, len by an own method -/
def strO : O → Option O
  | .fz (.str y) => some (.fz (.str y))
  | _ => none
/-- the own method run on d alone -/
def insOf : D → Option Str
  | .ins c _ => some c
  | _ => none
def runS (tbl : List (Str × MF)) (g : D → Option O) (d : D) : M O := fun s => match insOf d with
  | some c => (match tbl.lookup c with
    | some mf => (match noExc (runF mf [d] s) with
      | .ok o s' => ofO (strO o) s'
      | _ => .no)
    | none => .no)
  | none => ofO (g d) s
def xSp (tbl : List (Str × MF)) (g : D → Option O) (md : M D) : M O := bnd md (runS tbl g)
@[simp] theorem xSp_app (tbl : List (Str × MF)) (g : D → Option O) (md : M D) (s : S) : xSp tbl g md s = (md s).bind (runS tbl g) := rfl
end L2.Tr
namespace PySem.SeqAt
open AutoSeq1 (wpAny_loadPart')
open MeetsSeq
/-! data decline an instance -/
end PySem.SeqAt
namespace L2.Tr
open PySem PySem.Spec PyProof.Rows L2 L2.Pc
section
variable {prog : Program} {w : World} {A : Around} {E : Value → Shared → Prop} {s : Shared} {K : PySem.W.Frag} {x C f : Addr} {ox : Obj} {od : Option Obj}
/-- what K holds of a class with an own == -/
def kindsE : List String := ["NoneType", "bool", "int", "str", "tuple", "list"]
end
end L2.Tr
namespace L2.Tr
open PySem PySem.Spec PyProof.Rows L2 L2.Pc
/-! ### x == y, x != y with instances of classes that have their own == -/
abbrev ETab := List (Str × (MF × (D → D → Option Bool)))
def okL (d : D) : Bool := match clsName d with
  | some k => kindsE.contains k
  | none => false
def okR (tbl : ETab) (d : D) : Bool := match insOf d with
  | some c => (tbl.lookup c).isSome
  | none => okL d
/-- == of trees -/
def eqP (tbl : ETab) (x y : D) : Option Bool := match insOf x with
  | some c => (tbl.lookup c).bind fun mp => if okR tbl y = true then mp.2 x y else none
  | none => (match insOf y with
    | some c => (tbl.lookup c).bind fun mp => if okL x = true then mp.2 y x else none
    | none => plainEq x y)
def xEqO (tbl : ETab) (neg : Bool) (ma mb : M D) : M O := bnd ma fun x => bnd mb fun y => ofO ((eqP tbl x y).map fun b => .fz (.bl (b != neg)))
@[simp] theorem xEqO_app (tbl : ETab) (neg : Bool) (ma mb : M D) (s : S) : xEqO tbl neg ma mb s = (ma s).bind fun x s1 => (mb s1).bind fun y => ofO ((eqP tbl x y).map fun b => .fz (.bl (b != neg))) := rfl
end L2.Tr
namespace L2.Tr
open PySem PySem.Spec PyProof.Rows L2 L2.Pc
section
variable {X : Cx} {G : Gi} {gb : Bool} {k : Nat} {tbl : ETab}
/-- an item y against x, as `in` compares them -/
def itP (tbl : ETab) (y x : D) : Option Bool := if (insOf y).isSome = true ∨ (insOf x).isSome = true then eqP tbl y x else if flatD y = true ∧ flatD x = true then some (eqF y x) else none
def inPL (tbl : ETab) (x : D) : List D → Option Bool
  | [] => some false
  | y :: ys => (itP tbl y x).bind fun b => if b = true then some true else inPL tbl x ys
def inPT (tbl : ETab) (x y : D) : Option Bool := (itemsD y).bind (inPL tbl x)
variable {W : WX} {a b : Expr} {ma mb : M D} {pos : Pos}
def xInO (tbl : ETab) (neg : Bool) (ma mb : M D) : M O := bnd ma fun x => bnd mb fun y => ofO ((inPT tbl x y).map fun b => .fz (.bl (b != neg)))
@[simp] theorem xInO_app (tbl : ETab) (neg : Bool) (ma mb : M D) (s : S) : xInO tbl neg ma mb s = (ma s).bind fun x s1 => (mb s1).bind fun y => ofO ((inPT tbl x y).map fun b => .fz (.bl (b != neg))) := rfl
end
end L2.Tr
namespace L2.Tr
open PySem PySem.Spec PyProof.Rows L2 L2.Pc
/-! ### f-strings -/
section
variable {X : Cx} {G : Gi} {W : WX} {e : Expr} {es : List Expr} {m : M O} {ms : List (M O)} {pos : Pos}
def fmtD : D → Option O
  | .str y => if y.length ≤ 16777216 then some (.fz (.str y)) else none
  | .int i => if i.natAbs.log2 < 1920 then some (.fz (.str (toString i))) else none
  | _ => none
def jsM : List (M O) → Str → M O
  | [], acc => ret (.fz (.str acc))
  | m :: ms, acc => bnd m fun o => match o with
    | .fz (.str y) => if (acc ++ y).length ≤ 16777216 then jsM ms (acc ++ y) else fun _ => .no
    | _ => fun _ => .no
end
/-! ### isinstance with own classes -/
/-! ### x.extend(e) -/
section
variable {X : Cx} {G : Gi} {W : WX} {e : Expr} {me : M O} {pos apos cpos : Pos} {i : Nat}
def sExt (i : Nat) (me : M O) : M Fl := fun s => match getP s i with
  | some (.lst _) => (me s).bind fun o s1 => match getP s1 i, o.toD with
    | some (.lst xs), .lst ds => if xs.length + ds.length ≤ 16777216 then .ok .nx (putP s1 i (.lst (xs ++ ds))) else .no
    | _, _ => .no
  | _ => .no
end
/-! ### keywords alone -/
end L2.Tr
namespace L2.Tr
open PySem L2 L2.Pc
/-! ### what follows a step -/
def opqK (g : D → D → Option O) (f : S → Option D) (x : O) : M O := fun s => match f s with
  | some d => ofO (g x.toD d) s
  | none => .no
def chainK (g g' : D → D → Option O) (mc : M O) (x y : O) : M O := match (g x.toD y.toD).bind asB with
  | some true => bnd mc fun z => ofO (g' y.toD z.toD)
  | some false => ret (.fz (.bl false))
  | none => fun _ => .no
def seqK (m2 : M Fl) (f : Fl) : M Fl := match f with
  | .nx => m2
  | f => ret f
def asgK (i : Nat) (o : O) : M Fl := fun s => .ok .nx ⟨setS s.env i (some o), s.mu⟩
def asgTK (t : MT) (d : D) : M Fl := fun s => match t d s with
  | some s' => .ok .nx s'
  | none => .no
def asgCK (i : Nat) (o : O) : M Fl := fun s => if cellO o = true then .ok .nx ⟨setS s.env i (some (.fz (.cel s.mu.length))), s.mu ++ [o]⟩ else .no
def putLK (i : Nat) (mk : M D) (d : D) : M Fl := fun s1 => match getP s1 i with
  | none => .no
  | some _ => (mk s1).bind fun k => putAt i d k
def appK (i : Nat) (d : D) : M Fl := fun s1 => match getP s1 i with
  | some (.lst xs) => if xs.length < 16777216 then .ok .nx (putP s1 i (.lst (xs ++ [d]))) else .no
  | _ => .no
def extK (i : Nat) (o : O) : M Fl := fun s1 => match getP s1 i, o.toD with
  | some (.lst xs), .lst ds => if xs.length + ds.length ≤ 16777216 then .ok .nx (putP s1 i (.lst (xs ++ ds))) else .no
  | _, _ => .no
def forK (t : MT) (mb : M Fl) (ds : List D) (f : Fl) : M Fl := match f with
  | .nx => forL t mb ds
  | .ct => forL t mb ds
  | .bk => ret .nx
  | .rt o => ret (.rt o)
def parK (i j : Nat) (os : List O) : M Fl := fun s => match os with
  | [o, p] => .ok .nx ⟨setS (setS s.env i (some o)) j (some p), s.mu⟩
  | _ => .no
def parK3 (i j l : Nat) (os : List O) : M Fl := fun s => match os with
  | [o, p, r] => .ok .nx ⟨setS (setS (setS s.env i (some o)) j (some p)) l (some r), s.mu⟩
  | _ => .no
def fldK (CT : CTab) (f : Str) (i : Nat) (d : D) : M Fl := fun s => match getP s i with
  | some (.ins c os) => if okF CT c f = true ∧ (os.map (·.2)).all isFz = true ∧ os.length < 1000 then .ok .nx (putP s i (.ins c (putO f (.fz d) os))) else .no
  | _ => .no
def methK (c mn : Str) (m : MF) (gD : List D → List D → List D) (n k : Nat) (ma mk : M (List D)) (d : D) : M O := match d with
  | .ins c' fs => if c' = c ∧ (fs.map (·.1)).contains mn = false then bnd ma fun ds => bnd mk fun es => if ds.length + 1 = n ∧ es.length = k then runF m (gD (.ins c' fs :: ds) es) else fun _ => .no
    else fun _ => .no
  | _ => fun _ => .no
def jsK (ms : List (M O)) (acc : Str) (o : O) : M O := match o with
  | .fz (.str y) => if (acc ++ y).length ≤ 16777216 then jsM ms (acc ++ y) else fun _ => .no
  | _ => fun _ => .no
def lcB (env0 : List (Option O)) (vs : List Nat) (ys : List D) : M O := fun s2 => .ok (.lst ys) ⟨backE env0 s2.env vs, s2.mu⟩
def lcK (vs : List Nat) (t : MT) (mt : M Bool) (me : M D) (ds : List D) : M O := fun s => if freeE s.env vs = true ∧ ds.length ≤ 16777216 then
  (noExc (lcL vs t mt me ds ⟨wipeE s.env vs, s.mu⟩)).bind (lcB s.env vs) else .no
def lcY (vs : List Nat) (t : MT) (mt : M Bool) (me : M D) (ds : List D) (y : D) : M (List D) := fun s3 => if freeE s3.env vs = true then (lcL vs t mt me ds ⟨wipeE s3.env vs, s3.mu⟩).bind fun ys => ret (y :: ys) else .no
def lcT (vs : List Nat) (t : MT) (mt : M Bool) (me : M D) (ds : List D) (b : Bool) : M (List D) := fun s2 =>
  if b = true then (me s2).bind (lcY vs t mt me ds) else if freeE s2.env vs = true then lcL vs t mt me ds ⟨wipeE s2.env vs, s2.mu⟩ else .no
def partK (o : O) : M (Option Int) := match o with
  | .fz (.int i) => ret (some i)
  | _ => fun _ => .no
section
variable (env : List (Option O)) (mu : List O)
theorem st_ret {α : Type} (a : α) : ret a ⟨env, mu⟩ = .ok a ⟨env, mu⟩ := rfl
theorem st_bnd {α β : Type} (m : M α) (f : α → M β) : bnd m f ⟨env, mu⟩ = (m ⟨env, mu⟩).bind f := rfl
theorem st_ofs {α : Type} (a : α) : ofO (some a) ⟨env, mu⟩ = .ok a ⟨env, mu⟩ := rfl
theorem st_frz (m : M O) : frz m ⟨env, mu⟩ = (m ⟨env, mu⟩).bind fun o => ret o.toD := rfl
theorem st_fzd (m : M D) : fzd m ⟨env, mu⟩ = (m ⟨env, mu⟩).bind fun d => ret (.fz d) := rfl
theorem st_var (i : Nat) : xVar i ⟨env, mu⟩ = (match getS env i with | some o => .ok (.fz o.toD) ⟨if isFz o then env else setS env i (some (.fz o.toD)), mu⟩ | none => .no) := rfl
theorem st_bor (i : Nat) : xBor i ⟨env, mu⟩ = (match getS env i with | some o => .ok o ⟨env, mu⟩ | none => .no) := rfl
theorem st_mov (i : Nat) : xMov i ⟨env, mu⟩ = (match getS env i with | some o => .ok o ⟨if isFz o then env else setS env i none, mu⟩ | none => .no) := rfl
theorem st_rd (i : Nat) : xRd i ⟨env, mu⟩ = (match getS env i with | some (.fz (.cel n)) => (match getM mu n with | some o => .ok o ⟨env, mu⟩ | none => .no) | some o => .ok o ⟨env, mu⟩ | none => .no) := rfl
theorem st_qv (i : Nat) : qVar i ⟨env, mu⟩ = (match getS env i with | some (.fz d) => some d | _ => none) := rfl
theorem st_c (d : D) : xC d ⟨env, mu⟩ = .ok (.fz d) ⟨env, mu⟩ := rfl
theorem st_op (g : D → D → Option O) (ma mb : M O) : xOp g ma mb ⟨env, mu⟩ = (ma ⟨env, mu⟩).bind fun x => bnd mb fun y => ofO (g x.toD y.toD) := rfl
theorem st_un (g : D → Option O) (m : M O) : xUn g m ⟨env, mu⟩ = (m ⟨env, mu⟩).bind fun x => ofO (g x.toD) := rfl
theorem st_tob (m : M O) : toB m ⟨env, mu⟩ = (m ⟨env, mu⟩).bind fun o => ofO (asB o) := rfl
theorem st_band (ma mb : M Bool) : bAnd ma mb ⟨env, mu⟩ = (ma ⟨env, mu⟩).bind fun x => if x = true then mb else ret false := rfl
theorem st_bor2 (ma mb : M Bool) : bOr ma mb ⟨env, mu⟩ = (ma ⟨env, mu⟩).bind fun x => if x = true then ret true else mb := rfl
theorem st_bnot (ma : M Bool) : bNot ma ⟨env, mu⟩ = (ma ⟨env, mu⟩).bind fun x => ret (!x) := rfl
theorem st_if (mt : M Bool) (ma mb : M O) : xIf mt ma mb ⟨env, mu⟩ = (mt ⟨env, mu⟩).bind fun x => if x = true then ma else mb := rfl
theorem st_andV (ma mb : M O) : xAndV ma mb ⟨env, mu⟩ = (toB ma ⟨env, mu⟩).bind fun x => if x = true then mb else ret (.fz (.bl false)) := rfl
theorem st_orV (ma mb : M O) : xOrV ma mb ⟨env, mu⟩ = (toB ma ⟨env, mu⟩).bind fun x => if x = true then ret (.fz (.bl true)) else mb := rfl
theorem st_notV (ma : M O) : xNotV ma ⟨env, mu⟩ = (toB ma ⟨env, mu⟩).bind fun x => ret (.fz (.bl (!x))) := rfl
theorem st_anil  : aNil ⟨env, mu⟩ = .ok [] ⟨env, mu⟩ := rfl
theorem st_acons (m : M D) (ms : M (List D)) : aCons m ms ⟨env, mu⟩ = (m ⟨env, mu⟩).bind fun d => bnd ms fun ds => ret (d :: ds) := rfl
theorem st_onil  : oNil ⟨env, mu⟩ = .ok [] ⟨env, mu⟩ := rfl
theorem st_ocons (m : M O) (ms : M (List O)) : oCons m ms ⟨env, mu⟩ = (m ⟨env, mu⟩).bind fun d => bnd ms fun ds => ret (d :: ds) := rfl
theorem st_tup (ms : M (List D)) : xTup ms ⟨env, mu⟩ = (ms ⟨env, mu⟩).bind fun ds => ofO (dTup ds) := rfl
theorem st_lst (ms : M (List D)) : xLst ms ⟨env, mu⟩ = (ms ⟨env, mu⟩).bind fun ds => ofO (dLst ds) := rfl
theorem st_cn (g : List D → Option O) (ma : M (List D)) : xCn g ma ⟨env, mu⟩ = (ma ⟨env, mu⟩).bind fun ds => ofO (g ds) := rfl
theorem st_m1 (g : D → List D → Option O) (m : M O) (md : M D) : xM1 g m md ⟨env, mu⟩ = (m ⟨env, mu⟩).bind fun x => if isS x.toD = true then bnd md fun d => ofO (g x.toD [d]) else fun _ => .no := rfl
theorem st_m0 (g : D → List D → Option O) (m : M O) : xM0 g m ⟨env, mu⟩ = (m ⟨env, mu⟩).bind fun x => if isS x.toD = true then ofO (g x.toD []) else fun _ => .no := rfl
theorem st_opq (g : D → D → Option O) (ma : M O) (f : S → Option D) : xOpQ g ma f ⟨env, mu⟩ = (ma ⟨env, mu⟩).bind fun x => opqK g f x := rfl
theorem st_sl (ma : M O) (ml mh : M (Option Int)) : xSl ma ml mh ⟨env, mu⟩ = (ma ⟨env, mu⟩).bind fun x => bnd ml fun l => bnd mh fun h => ofO (slD x.toD l h) := rfl
theorem st_chain (g g' : D → D → Option O) (ma mb mc : M O) : xChain g g' ma mb mc ⟨env, mu⟩ = (ma ⟨env, mu⟩).bind fun x => bnd mb fun y => chainK g g' mc x y := rfl
theorem st_mseq (md : M D) : mSeq md ⟨env, mu⟩ = (md ⟨env, mu⟩).bind fun d => ofO (seqI d) := rfl
theorem st_rg1 (ma : M (List D)) : mRng1 ma ⟨env, mu⟩ = (ma ⟨env, mu⟩).bind fun ds => ofO (rng1 ds) := rfl
theorem st_rg2 (ma : M (List D)) : mRng2 ma ⟨env, mu⟩ = (ma ⟨env, mu⟩).bind fun ds => ofO (rng2 ds) := rfl
theorem st_snil  : sNil ⟨env, mu⟩ = .ok .nx ⟨env, mu⟩ := rfl
theorem st_seq (m1 m2 : M Fl) : sSeq m1 m2 ⟨env, mu⟩ = (m1 ⟨env, mu⟩).bind fun f => seqK m2 f := rfl
theorem st_sexpr (me : M O) : sExpr me ⟨env, mu⟩ = (me ⟨env, mu⟩).bind fun _ => ret .nx := rfl
theorem st_sret (me : M O) : sRet me ⟨env, mu⟩ = (me ⟨env, mu⟩).bind fun o => ret (.rt o) := rfl
theorem st_sif (mt : M Bool) (m1 m2 : M Fl) : sIf mt m1 m2 ⟨env, mu⟩ = (mt ⟨env, mu⟩).bind fun b => if b = true then m1 else m2 := rfl
theorem st_asg (i : Nat) (me : M O) : sAsg i me ⟨env, mu⟩ = (me ⟨env, mu⟩).bind (asgK i) := rfl
theorem st_asgK (i : Nat) (o : O) : asgK i o ⟨env, mu⟩ = .ok .nx ⟨setS env i (some o), mu⟩ := rfl
theorem st_asgT (t : MT) (me : M D) : sAsgT t me ⟨env, mu⟩ = (me ⟨env, mu⟩).bind (asgTK t) := rfl
theorem st_asgTK (t : MT) (d : D) : asgTK t d ⟨env, mu⟩ = (match t d ⟨env, mu⟩ with | some s' => .ok .nx s' | none => .no) := rfl
theorem st_asgC (i : Nat) (me : M O) : sAsgC i me ⟨env, mu⟩ = (me ⟨env, mu⟩).bind (asgCK i) := rfl
theorem st_asgCK (i : Nat) (o : O) : asgCK i o ⟨env, mu⟩ = if cellO o = true then .ok .nx ⟨setS env i (some (.fz (.cel mu.length))), mu ++ [o]⟩ else .no := rfl
theorem st_putL (i : Nat) (mk md : M D) : sPutL i mk md ⟨env, mu⟩ = (md ⟨env, mu⟩).bind (putLK i mk) := rfl
theorem st_putLK (i : Nat) (mk : M D) (d : D) : putLK i mk d ⟨env, mu⟩ = (match getP ⟨env, mu⟩ i with | none => .no | some _ => (mk ⟨env, mu⟩).bind fun k => putAt i d k) := rfl
theorem st_putAt (i : Nat) (d : D) (j : Int) : putAt i d (.int j) ⟨env, mu⟩ = (match getP ⟨env, mu⟩ i with | some (.lst xs) => (match ixN xs.length j with | some q => .ok .nx (putP ⟨env, mu⟩ i (.lst (xs.set q d))) | none => .no) | _ => .no) := by unfold putAt; cases getP ⟨env, mu⟩ i with | none => rfl | some o => cases o <;> rfl
theorem st_getP (i : Nat) : getP ⟨env, mu⟩ i = (match getS env i with | some (.fz (.cel n)) => getM mu n | some (.fz _) => none | o => o) := rfl
theorem st_putP (i : Nat) (o : O) : putP ⟨env, mu⟩ i o = (match getS env i with | some (.fz (.cel n)) => ⟨env, setM mu n o⟩ | some (.fz _) => ⟨env, mu⟩ | some _ => ⟨setS env i (some o), mu⟩ | none => ⟨env, mu⟩) := rfl
theorem st_app (i : Nat) (md : M D) : sApp i md ⟨env, mu⟩ = (match getP ⟨env, mu⟩ i with | some (.lst _) => (md ⟨env, mu⟩).bind (appK i) | _ => .no) := rfl
theorem st_appK (i : Nat) (d : D) : appK i d ⟨env, mu⟩ = (match getP ⟨env, mu⟩ i with | some (.lst xs) => if xs.length < 16777216 then .ok .nx (putP ⟨env, mu⟩ i (.lst (xs ++ [d]))) else .no | _ => .no) := rfl
theorem st_ext (i : Nat) (me : M O) : sExt i me ⟨env, mu⟩ = (match getP ⟨env, mu⟩ i with | some (.lst _) => (me ⟨env, mu⟩).bind (extK i) | _ => .no) := rfl
theorem st_extK (i : Nat) (o : O) : extK i o ⟨env, mu⟩ = (match getP ⟨env, mu⟩ i, o.toD with | some (.lst xs), .lst ds => if xs.length + ds.length ≤ 16777216 then .ok .nx (putP ⟨env, mu⟩ i (.lst (xs ++ ds))) else .no | _, _ => .no) := rfl
theorem st_for (mi : M (List D)) (t : MT) (mb : M Fl) : sFor mi t mb ⟨env, mu⟩ = (mi ⟨env, mu⟩).bind fun ds => forL t mb ds := rfl
theorem st_for0 (t : MT) (mb : M Fl) : forL t mb [] ⟨env, mu⟩ = .ok .nx ⟨env, mu⟩ := rfl
theorem st_for1 (t : MT) (mb : M Fl) (d : D) (ds : List D) : forL t mb (d :: ds) ⟨env, mu⟩ = (match t d ⟨env, mu⟩ with | none => .no | some s1 => (mb s1).bind (forK t mb ds)) := rfl
theorem st_gN (i : Nat) (d : D) : gN i d ⟨env, mu⟩ = some ⟨setS env i (some (.fz d)), mu⟩ := rfl
theorem st_gT (ts : List MT) (d : D) : gT ts d ⟨env, mu⟩ = (seqOf d).bind fun ds => gsN ts ds ⟨env, mu⟩ := rfl
theorem st_gs0  : gsN [] [] ⟨env, mu⟩ = some ⟨env, mu⟩ := rfl
theorem st_gs1 (t : MT) (ts : List MT) (d : D) (ds : List D) : gsN (t :: ts) (d :: ds) ⟨env, mu⟩ = (t d ⟨env, mu⟩).bind (gsN ts ds) := rfl
theorem st_par (i j : Nat) (ms : M (List O)) : sPar i j ms ⟨env, mu⟩ = (ms ⟨env, mu⟩).bind (parK i j) := rfl
theorem st_parK (i j : Nat) (o p : O) : parK i j [o, p] ⟨env, mu⟩ = .ok .nx ⟨setS (setS env i (some o)) j (some p), mu⟩ := rfl
theorem st_par3 (i j l : Nat) (ms : M (List O)) : sPar3 i j l ms ⟨env, mu⟩ = (ms ⟨env, mu⟩).bind (parK3 i j l) := rfl
theorem st_parK3 (i j l : Nat) (o p r : O) : parK3 i j l [o, p, r] ⟨env, mu⟩ = .ok .nx ⟨setS (setS (setS env i (some o)) j (some p)) l (some r), mu⟩ := rfl
theorem st_call (m : MF) (gD : List D → List D → List D) (n k : Nat) (ma mk : M (List D)) : xCall m gD n k ma mk ⟨env, mu⟩ = (ma ⟨env, mu⟩).bind fun ds => bnd mk fun es => if ds.length = n ∧ es.length = k then runF m (gD ds es) else fun _ => .no := rfl
theorem st_runF (m : MF) (ds : List D) : runF m ds ⟨env, mu⟩ = (match m ds mu with | .ok o s' => .ok o ⟨env, s'.mu⟩ | .exc x s' => .exc x ⟨env, s'.mu⟩ | .no => .no) := rfl
theorem st_fld (CT : CTab) (f : Str) (m : M O) : xFld CT f m ⟨env, mu⟩ = (m ⟨env, mu⟩).bind fun o => ofO (fldO CT f o) := rfl
theorem st_fldF (CT : CTab) (f : Str) (m : M O) : xFldF CT f m ⟨env, mu⟩ = (m ⟨env, mu⟩).bind fun o => ofO ((fldO CT f o).bind fzO) := rfl
theorem st_sfld (CT : CTab) (f : Str) (i : Nat) (md : M D) : sFldD CT f i md ⟨env, mu⟩ = (md ⟨env, mu⟩).bind (fldK CT f i) := rfl
theorem st_fldK (CT : CTab) (f : Str) (i : Nat) (d : D) : fldK CT f i d ⟨env, mu⟩ = (match getP ⟨env, mu⟩ i with | some (.ins c os) => if okF CT c f = true ∧ (os.map (·.2)).all isFz = true ∧ os.length < 1000 then .ok .nx (putP ⟨env, mu⟩ i (.ins c (putO f (.fz d) os))) else .no | _ => .no) := rfl
theorem st_meth (c mn : Str) (m : MF) (gD : List D → List D → List D) (n k : Nat) (md : M D) (ma mk : M (List D)) : xMeth c mn m gD n k md ma mk ⟨env, mu⟩ = (md ⟨env, mu⟩).bind fun d => methK c mn m gD n k ma mk d := rfl
theorem st_sp (tbl : List (Str × MF)) (g : D → Option O) (md : M D) : xSp tbl g md ⟨env, mu⟩ = (md ⟨env, mu⟩).bind (runS tbl g) := rfl
theorem st_eqO (tbl : ETab) (neg : Bool) (ma mb : M D) : xEqO tbl neg ma mb ⟨env, mu⟩ = (ma ⟨env, mu⟩).bind fun x => bnd mb fun y => ofO ((eqP tbl x y).map fun b => .fz (.bl (b != neg))) := rfl
theorem st_inO (tbl : ETab) (neg : Bool) (ma mb : M D) : xInO tbl neg ma mb ⟨env, mu⟩ = (ma ⟨env, mu⟩).bind fun x => bnd mb fun y => ofO ((inPT tbl x y).map fun b => .fz (.bl (b != neg))) := rfl
theorem st_js0 (acc : Str) : jsM [] acc ⟨env, mu⟩ = .ok (.fz (.str acc)) ⟨env, mu⟩ := rfl
theorem st_js1 (m : M O) (ms : List (M O)) (acc : Str) : jsM (m :: ms) acc ⟨env, mu⟩ = (m ⟨env, mu⟩).bind (jsK ms acc) := rfl
theorem st_jsK (ms : List (M O)) (acc y : Str) : jsK ms acc (.fz (.str y)) ⟨env, mu⟩ = (if (acc ++ y).length ≤ 16777216 then jsM ms (acc ++ y) ⟨env, mu⟩ else .no) := by unfold jsK; dsimp only; by_cases h : (acc ++ y).length ≤ 16777216 <;> simp only [h, if_true, if_false]
theorem st_lc (vs : List Nat) (mi : M (List D)) (t : MT) (mt : M Bool) (me : M D) : xLc vs mi t mt me ⟨env, mu⟩ = (mi ⟨env, mu⟩).bind fun ds => lcK vs t mt me ds := rfl
theorem st_lcK (vs : List Nat) (t : MT) (mt : M Bool) (me : M D) (ds : List D) : lcK vs t mt me ds ⟨env, mu⟩ = if freeE env vs = true ∧ ds.length ≤ 16777216 then (noExc (lcL vs t mt me ds ⟨wipeE env vs, mu⟩)).bind (lcB env vs) else .no := rfl
theorem st_lcB (env0 : List (Option O)) (vs : List Nat) (ys : List D) : lcB env0 vs ys ⟨env, mu⟩ = .ok (.lst ys) ⟨backE env0 env vs, mu⟩ := rfl
theorem st_lc0 (vs : List Nat) (t : MT) (mt : M Bool) (me : M D) : lcL vs t mt me [] ⟨env, mu⟩ = .ok [] ⟨env, mu⟩ := rfl
theorem st_lc1 (vs : List Nat) (t : MT) (mt : M Bool) (me : M D) (d : D) (ds : List D) : lcL vs t mt me (d :: ds) ⟨env, mu⟩ = (match t d ⟨env, mu⟩ with | none => .no | some s1 => (mt s1).bind (lcT vs t mt me ds)) := rfl
theorem st_lcT (vs : List Nat) (t : MT) (mt : M Bool) (me : M D) (ds : List D) (b : Bool) : lcT vs t mt me ds b ⟨env, mu⟩ = if b = true then (me ⟨env, mu⟩).bind (lcY vs t mt me ds) else if freeE env vs = true then lcL vs t mt me ds ⟨wipeE env vs, mu⟩ else .no := rfl
theorem st_lcY (vs : List Nat) (t : MT) (mt : M Bool) (me : M D) (ds : List D) (y : D) : lcY vs t mt me ds y ⟨env, mu⟩ = if freeE env vs = true then (lcL vs t mt me ds ⟨wipeE env vs, mu⟩).bind fun ys => ret (y :: ys) else .no := rfl
theorem st_mpart (md : M O) : mPart md ⟨env, mu⟩ = (md ⟨env, mu⟩).bind partK := rfl
end
section
variable {a0 a1 a2 a3 a4 a5 a6 a7 a8 a9 a10 a11 a12 a13 a14 x : Option O} {env : List (Option O)}
theorem getS_0 : getS (x :: env) 0 = x := rfl
theorem setS_0 : setS (a0 :: env) 0 x = x :: env := rfl
theorem getS_1 : getS (a0 :: x :: env) 1 = x := rfl
theorem setS_1 : setS (a0 :: a1 :: env) 1 x = a0 :: x :: env := rfl
theorem getS_2 : getS (a0 :: a1 :: x :: env) 2 = x := rfl
theorem setS_2 : setS (a0 :: a1 :: a2 :: env) 2 x = a0 :: a1 :: x :: env := rfl
theorem getS_3 : getS (a0 :: a1 :: a2 :: x :: env) 3 = x := rfl
theorem setS_3 : setS (a0 :: a1 :: a2 :: a3 :: env) 3 x = a0 :: a1 :: a2 :: x :: env := rfl
theorem getS_4 : getS (a0 :: a1 :: a2 :: a3 :: x :: env) 4 = x := rfl
theorem setS_4 : setS (a0 :: a1 :: a2 :: a3 :: a4 :: env) 4 x = a0 :: a1 :: a2 :: a3 :: x :: env := rfl
theorem getS_5 : getS (a0 :: a1 :: a2 :: a3 :: a4 :: x :: env) 5 = x := rfl
theorem setS_5 : setS (a0 :: a1 :: a2 :: a3 :: a4 :: a5 :: env) 5 x = a0 :: a1 :: a2 :: a3 :: a4 :: x :: env := rfl
theorem getS_6 : getS (a0 :: a1 :: a2 :: a3 :: a4 :: a5 :: x :: env) 6 = x := rfl
theorem setS_6 : setS (a0 :: a1 :: a2 :: a3 :: a4 :: a5 :: a6 :: env) 6 x = a0 :: a1 :: a2 :: a3 :: a4 :: a5 :: x :: env := rfl
theorem getS_7 : getS (a0 :: a1 :: a2 :: a3 :: a4 :: a5 :: a6 :: x :: env) 7 = x := rfl
theorem setS_7 : setS (a0 :: a1 :: a2 :: a3 :: a4 :: a5 :: a6 :: a7 :: env) 7 x = a0 :: a1 :: a2 :: a3 :: a4 :: a5 :: a6 :: x :: env := rfl
theorem getS_8 : getS (a0 :: a1 :: a2 :: a3 :: a4 :: a5 :: a6 :: a7 :: x :: env) 8 = x := rfl
theorem setS_8 : setS (a0 :: a1 :: a2 :: a3 :: a4 :: a5 :: a6 :: a7 :: a8 :: env) 8 x = a0 :: a1 :: a2 :: a3 :: a4 :: a5 :: a6 :: a7 :: x :: env := rfl
theorem getS_9 : getS (a0 :: a1 :: a2 :: a3 :: a4 :: a5 :: a6 :: a7 :: a8 :: x :: env) 9 = x := rfl
theorem setS_9 : setS (a0 :: a1 :: a2 :: a3 :: a4 :: a5 :: a6 :: a7 :: a8 :: a9 :: env) 9 x = a0 :: a1 :: a2 :: a3 :: a4 :: a5 :: a6 :: a7 :: a8 :: x :: env := rfl
theorem getS_10 : getS (a0 :: a1 :: a2 :: a3 :: a4 :: a5 :: a6 :: a7 :: a8 :: a9 :: x :: env) 10 = x := rfl
theorem setS_10 : setS (a0 :: a1 :: a2 :: a3 :: a4 :: a5 :: a6 :: a7 :: a8 :: a9 :: a10 :: env) 10 x = a0 :: a1 :: a2 :: a3 :: a4 :: a5 :: a6 :: a7 :: a8 :: a9 :: x :: env := rfl
theorem getS_11 : getS (a0 :: a1 :: a2 :: a3 :: a4 :: a5 :: a6 :: a7 :: a8 :: a9 :: a10 :: x :: env) 11 = x := rfl
theorem setS_11 : setS (a0 :: a1 :: a2 :: a3 :: a4 :: a5 :: a6 :: a7 :: a8 :: a9 :: a10 :: a11 :: env) 11 x = a0 :: a1 :: a2 :: a3 :: a4 :: a5 :: a6 :: a7 :: a8 :: a9 :: a10 :: x :: env := rfl
theorem getS_12 : getS (a0 :: a1 :: a2 :: a3 :: a4 :: a5 :: a6 :: a7 :: a8 :: a9 :: a10 :: a11 :: x :: env) 12 = x := rfl
theorem setS_12 : setS (a0 :: a1 :: a2 :: a3 :: a4 :: a5 :: a6 :: a7 :: a8 :: a9 :: a10 :: a11 :: a12 :: env) 12 x = a0 :: a1 :: a2 :: a3 :: a4 :: a5 :: a6 :: a7 :: a8 :: a9 :: a10 :: a11 :: x :: env := rfl
theorem getS_13 : getS (a0 :: a1 :: a2 :: a3 :: a4 :: a5 :: a6 :: a7 :: a8 :: a9 :: a10 :: a11 :: a12 :: x :: env) 13 = x := rfl
theorem setS_13 : setS (a0 :: a1 :: a2 :: a3 :: a4 :: a5 :: a6 :: a7 :: a8 :: a9 :: a10 :: a11 :: a12 :: a13 :: env) 13 x = a0 :: a1 :: a2 :: a3 :: a4 :: a5 :: a6 :: a7 :: a8 :: a9 :: a10 :: a11 :: a12 :: x :: env := rfl
theorem getS_14 : getS (a0 :: a1 :: a2 :: a3 :: a4 :: a5 :: a6 :: a7 :: a8 :: a9 :: a10 :: a11 :: a12 :: a13 :: x :: env) 14 = x := rfl
theorem setS_14 : setS (a0 :: a1 :: a2 :: a3 :: a4 :: a5 :: a6 :: a7 :: a8 :: a9 :: a10 :: a11 :: a12 :: a13 :: a14 :: env) 14 x = a0 :: a1 :: a2 :: a3 :: a4 :: a5 :: a6 :: a7 :: a8 :: a9 :: a10 :: a11 :: a12 :: a13 :: x :: env := rfl
end
section
variable {N : Nat} {body : M Fl} {ds xs ys : List D} {mu : List O} {d : D} {o : O} {i j : Int} {a b : Str} {k : Bool} {n m : Nat} {os : List O}
theorem st_fnM : fnM N body ds mu = match body ⟨env0 N ds, mu⟩ with
  | .ok (.rt o) s => .ok o ⟨[], s.mu⟩
  | .ok .nx s => .ok (.fz .non) ⟨[], s.mu⟩
  | .ok _ _ => .no
  | .exc x s => .exc x ⟨[], s.mu⟩
  | .no => .no := rfl
theorem st_env0 : env0 N ds = ds.map (fun d => some (.fz d)) ++ List.replicate (N - ds.length) none := rfl
theorem st_seqn {m2 : M Fl} : seqK m2 .nx = m2 := rfl
theorem st_seqr {m2 : M Fl} : seqK m2 (.rt o) = ret (.rt o) := rfl
theorem st_seqb {m2 : M Fl} : seqK m2 .bk = ret .bk := rfl
theorem st_seqc {m2 : M Fl} : seqK m2 .ct = ret .ct := rfl
theorem st_forn {t : MT} {mb : M Fl} : forK t mb ds .nx = forL t mb ds := rfl
theorem st_forc {t : MT} {mb : M Fl} : forK t mb ds .ct = forL t mb ds := rfl
theorem st_forb {t : MT} {mb : M Fl} : forK t mb ds .bk = ret .nx := rfl
theorem st_forr {t : MT} {mb : M Fl} : forK t mb ds (.rt o) = ret (.rt o) := rfl
theorem st_parti : partK (.fz (.int i)) = ret (some i) := rfl
theorem st_opqK {g : D → D → Option O} {f : S → Option D} {env : List (Option O)} : opqK g f o ⟨env, mu⟩ = match f ⟨env, mu⟩ with
  | some d => ofO (g o.toD d) ⟨env, mu⟩
  | none => .no := rfl
theorem st_bok {α β : Type} {a : α} {s : S} {f : α → M β} : (R.ok a s).bind f = f a s := rfl
theorem st_bex {α β : Type} {x : Exc} {s : S} {f : α → M β} : (R.exc x s : R α).bind f = .exc x s := rfl
theorem st_isf : isFz (.fz d) = true := rfl
theorem st_isl : isFz (.lst ds) = false := rfl
theorem st_isi {c : Str} {fs : List (Str × O)} : isFz (.ins c fs) = false := rfl
theorem st_tdf : O.toD (.fz d) = d := by rw [O.toD]
theorem st_tdl : O.toD (.lst ds) = .lst ds := by rw [O.toD]
theorem st_tdi {c : Str} {fs : List (Str × O)} : O.toD (.ins c fs) = .ins c (O.toDf fs) := by rw [O.toD]
theorem st_tdn : O.toDf [] = [] := by rw [O.toDf]
theorem st_tdc {c : Str} {fs : List (Str × O)} : O.toDf ((c, o) :: fs) = (c, o.toD) :: O.toDf fs := by rw [O.toDf]
theorem st_asb : asB (.fz (.bl k)) = some k := rfl
theorem st_celf : cellO (.fz d) = false := rfl
theorem st_cell : cellO (.lst ds) = true := rfl
theorem st_fzO : fzO (.fz d) = some (.fz d) := rfl
theorem st_isS : isS (.str a) = true := rfl
theorem st_sqt : seqOf (.tup ds) = some ds := rfl
theorem st_squ : seqOf (.tuk ds) = some ds := rfl
theorem st_silst : seqI (.lst ds) = some ds := rfl
theorem st_silsk : seqI (.lsk ds) = some ds := rfl
theorem st_situp : seqI (.tup ds) = some ds := rfl
theorem st_situk : seqI (.tuk ds) = some ds := rfl
theorem st_addi : addD (.int i) (.int j) = some (.fz (.int (i + j))) := rfl
theorem st_adds : addD (.str a) (.str b) = if a.length + b.length ≤ 16777216 then some (.fz (.str (a ++ b))) else none := rfl
theorem st_addl : addD (.lst xs) (.lst ys) = if xs.length + ys.length ≤ 16777216 then some (.lst (xs ++ ys)) else none := rfl
theorem st_addt : addD (.tup xs) (.tup ys) = if xs.length + ys.length ≤ 16777216 then some (.fz (.tup (xs ++ ys))) else none := rfl
theorem st_subi : subD (.int i) (.int j) = some (.fz (.int (i - j))) := rfl
theorem st_lti : ltD (.int i) (.int j) = some (.fz (.bl (decide (i < j)))) := rfl
theorem st_lei : leD (.int i) (.int j) = some (.fz (.bl (decide (i ≤ j)))) := rfl
theorem st_gti : gtD (.int i) (.int j) = some (.fz (.bl (decide (j < i)))) := rfl
theorem st_gei : geD (.int i) (.int j) = some (.fz (.bl (decide (j ≤ i)))) := rfl
theorem st_divi (h : 0 < j) (h2 : j < 1073741824) : divD (.int i) (.int j) = some (.fz (.int (i / j))) := by simp [divD, iiD, h, h2]
theorem st_modi (h : 0 < j) : modD (.int i) (.int j) = some (.fz (.int (i % j))) := by simp [modD, iiD, h]
theorem st_muli (h : mulOkB i j = true) : mulD (.int i) (.int j) = some (.fz (.int (i * j))) := by simp [mulD, h]
theorem mulL (h : -18446744073709551616 < i) (h2 : i < 18446744073709551616) : mulOkB i j = true := by unfold mulOkB; simp; exact .inl (.inl ⟨h, h2⟩)
theorem mulR (h : -18446744073709551616 < j) (h2 : j < 18446744073709551616) : mulOkB i j = true := by unfold mulOkB; simp; exact .inl (.inr ⟨h, h2⟩)
theorem st_negi : negD (.int i) = some (.fz (.int (-i))) := rfl
theorem st_ixl : ixD (.lst ds) (.int i) = (atI ds i).map .fz := rfl
theorem st_ixk : ixD (.lsk ds) (.int i) = (atI ds i).map .fz := rfl
theorem st_ixt : ixD (.tup ds) (.int i) = (atI ds i).map .fz := rfl
theorem st_ixu : ixD (.tuk ds) (.int i) = (atI ds i).map .fz := rfl
theorem atN {α : Type} {xs : List α} {n : Nat} : atI xs ((n : Nat) : Int) = xs[n]? := by
  unfold atI ixN
  have h0 : (0 : Int) ≤ (n : Int) := Int.natCast_nonneg n
  rw [if_pos h0]
  by_cases h : n < xs.length
  · rw [if_pos (by exact_mod_cast h)]; rfl
  · rw [if_neg (by omega)]; rw [List.getElem?_eq_none (by omega)]; rfl
theorem st_at0 {α : Type} {x : α} {xs : List α} : atI (x :: xs) 0 = some x := by show atI _ ((0 : Nat) : Int) = _; rw [atN]; rfl
theorem st_at1 {α : Type} {x y : α} {xs : List α} : atI (x :: y :: xs) 1 = some y := by show atI _ ((1 : Nat) : Int) = _; rw [atN]; rfl
theorem st_at2 {α : Type} {x y z : α} {xs : List α} : atI (x :: y :: z :: xs) 2 = some z := by show atI _ ((2 : Nat) : Int) = _; rw [atN]; rfl
theorem st_at3 {α : Type} {x y z w : α} {xs : List α} : atI (x :: y :: z :: w :: xs) 3 = some w := by show atI _ ((3 : Nat) : Int) = _; rw [atN]; rfl
theorem st_at4 {α : Type} {x y z w v : α} {xs : List α} : atI (x :: y :: z :: w :: v :: xs) 4 = some v := by show atI _ ((4 : Nat) : Int) = _; rw [atN]; rfl
theorem st_ixn0 : ixN (n + 1) 0 = some 0 := by unfold ixN; rw [if_pos (by omega), if_pos (by omega)]; rfl
theorem st_ixn1 : ixN (n + 2) 1 = some 1 := by unfold ixN; rw [if_pos (by omega), if_pos (by omega)]; rfl
theorem st_ixn2 : ixN (n + 3) 2 = some 2 := by unfold ixN; rw [if_pos (by omega), if_pos (by omega)]; rfl
theorem st_absi : absD (.int i) = some (.fz (.int (if i < 0 then -i else i))) := rfl
theorem st_inti : intD (.int i) = some (.fz (.int i)) := rfl
theorem st_intb : intD (.bl k) = some (.fz (.int (if k then 1 else 0))) := rfl
theorem st_lenl : lenD (.lst ds) = some (.fz (.int ds.length)) := rfl
theorem st_lenk : lenD (.lsk ds) = some (.fz (.int ds.length)) := rfl
theorem st_lent : lenD (.tup ds) = some (.fz (.int ds.length)) := rfl
theorem st_lenu : lenD (.tuk ds) = some (.fz (.int ds.length)) := rfl
theorem st_lens : lenD (.str a) = if a.length ≤ 16777216 then some (.fz (.int a.length)) else none := rfl
theorem st_ixs : ixD (.str a) (.int i) = if a.length ≤ 16777216 then (atI a.cps.toList i).map (fun c => .fz (.str ⟨#[c]⟩)) else none := rfl
theorem st_stri (h : i.natAbs.log2 < 1920) : strD (.int i) = some (.fz (.str (toString i))) := by simp [strD, h]
theorem st_strs : strD (.str a) = some (.fz (.str a)) := rfl
theorem st_is : isD d .non = some (.fz (.bl (isNon d))) := rfl
theorem st_isnt : isntD d .non = some (.fz (.bl (!isNon d))) := rfl
theorem st_nonn : isNon .non = true := rfl
theorem st_noni : isNon (.int i) = false := rfl
theorem st_nons : isNon (.str a) = false := rfl
theorem st_zf2 : zfillD (.str a) [.int 2] = some (.fz (.str (Txt.zfill a 2))) := rfl
theorem st_eqi : eqD (.int i) (.int j) = some (.fz (.bl (decide (i = j)))) := rfl
theorem st_eqs : eqD (.str a) (.str b) = some (.fz (.bl (decide (a = b)))) := rfl
theorem st_nei : neD (.int i) (.int j) = some (.fz (.bl (!decide (i = j)))) := rfl
theorem st_nes : neD (.str a) (.str b) = some (.fz (.bl (!decide (a = b)))) := rfl
theorem st_nenn : neD .non .non = some (.fz (.bl false)) := rfl
theorem st_neni : neD .non (.int i) = some (.fz (.bl true)) := rfl
theorem st_nein : neD (.int i) .non = some (.fz (.bl true)) := rfl
theorem st_fmts : fmtD (.str a) = if a.length ≤ 16777216 then some (.fz (.str a)) else none := rfl
theorem st_mull : mulD (.lst xs) (.int i) = if 0 ≤ i ∧ i ≤ 10000 ∧ xs.length ≤ 1000 then some (.lst (List.replicate i.toNat xs).flatten) else none := rfl
theorem st_fr0 {env : List (Option O)} : freeE env [] = true := rfl
theorem st_fr1 {env : List (Option O)} {v : Nat} {vs : List Nat} : freeE env (v :: vs) = ((match getS env v with | some o => isFz o | none => true) && freeE env vs) := rfl
theorem st_wp0 {env : List (Option O)} : wipeE env [] = env := rfl
theorem st_wp1 {env : List (Option O)} {v : Nat} {vs : List Nat} : wipeE env (v :: vs) = setS (wipeE env vs) v none := rfl
theorem st_bk0 {env e2 : List (Option O)} : backE env e2 [] = e2 := rfl
theorem st_bk1 {env e2 : List (Option O)} {v : Nat} {vs : List Nat} : backE env e2 (v :: vs) = backE env (setS e2 v (getS env v)) vs := rfl
theorem st_nok {α : Type} {a : α} {s : S} : noExc (R.ok a s) = .ok a s := rfl
theorem st_rng1 (h : 0 ≤ i) (h2 : i < 4611686018427387904) : rng1 [.int i] = some (rngL 0 i.toNat) := by unfold rng1; dsimp only; rw [if_pos ⟨by omega, by omega⟩]
theorem st_joi {es : List D} {bs : List Str} (h : strsD es = some bs) (h2 : (bs.map (·.length)).sum + bs.length * a.length ≤ 16777216) : joinD (.str a) [.lst es] = some (.fz (.str (Txt.join a bs))) := by
  unfold joinD itemsD; dsimp only; rw [h]; dsimp only [Option.bind_some]; rw [if_pos h2]
theorem st_dtup : dTup ds = if ds.length ≤ 16777216 then some (.fz (.tup ds)) else none := rfl
theorem st_dlst : dLst ds = if ds.length ≤ 16777216 then some (.lst ds) else none := rfl
end
end L2.Tr
namespace L2.Tr
open PySem PySem.Spec PyProof.Rows L2 L2.Pc
/-! ### texts -/
theorem joinL_len (S : List Nat) : ∀ ps : List (List Nat), (TL.joinL S ps).length ≤ (ps.map (·.length)).sum + ps.length * S.length
  | [] => by simp [TL.joinL]
  | [p] => by simp [TL.joinL]
  | p :: q :: r => by
    have := joinL_len S (q :: r)
    show (p ++ (S ++ TL.joinL S (q :: r))).length ≤ _
    rw [List.length_append, List.length_append, List.map_cons, List.sum_cons, List.length_cons (a := p), Nat.succ_mul]
    omega
theorem join_le (y : Str) (ws : List Str) : (Txt.join y ws).length ≤ (ws.map (·.length)).sum + ws.length * y.length := by
  have h := TL.tl_join y ws
  have h2 := joinL_len (TL.tl y) (ws.map TL.tl)
  rw [← h, ← TL.join_eq, List.length_map, List.map_map] at h2
  exact h2
/-! ### repr of data: what it asks -/
mutual
def okD : D → Bool
  | .non => true
  | .bl _ => true
  | .int i => decide (i.natAbs.log2 < 1920)
  | .str s => s.cps.toList.all fun c => decide (c < 16 ^ 8)
  | .tup xs => okA xs
  | .tuk xs => okA xs
  | .tun xs => okA xs
  | .lst xs => okA xs
  | .lsk xs => okA xs
  | .dct kvs => okK kvs
  | _ => false
def okA : List D → Bool
  | [] => true
  | x :: xs => okD x && okA xs
def okK : List (D × D) → Bool
  | [] => true
  | (k, x) :: xs => okD k && okD x && okK xs
end
mutual
def dpD : D → Nat
  | .tup xs => dpA xs + 1
  | .tuk xs => dpA xs + 1
  | .tun xs => dpA xs + 1
  | .lst xs => dpA xs + 1
  | .lsk xs => dpA xs + 1
  | .dct kvs => dpK kvs + 1
  | _ => 0
def dpA : List D → Nat
  | [] => 0
  | x :: xs => max (dpD x) (dpA xs)
def dpK : List (D × D) → Nat
  | [] => 0
  | (k, x) :: xs => max (max (dpD k) (dpD x)) (dpK xs)
end
mutual
def wtD : D → Nat
  | .non => 4
  | .bl _ => 5
  | .int i => i.natAbs.log2 + 2
  | .str s => 10 * s.length + 2
  | .tup xs => wtA xs + 3
  | .tuk xs => wtA xs + 3
  | .tun xs => wtA xs + 3
  | .lst xs => wtA xs + 3
  | .lsk xs => wtA xs + 3
  | .dct kvs => wtK kvs + 3
  | _ => 0
def wtA : List D → Nat
  | [] => 0
  | x :: xs => wtD x + 2 + wtA xs
def wtK : List (D × D) → Nat
  | [] => 0
  | (k, x) :: xs => wtD k + wtD x + 4 + wtK xs
end
def lensS (ts : List Str) : Nat := (ts.map fun t => t.length + 2).sum
theorem textFrom_le : ∀ (ts : List Str) (k : Nat) (acc : Str), (textFrom k acc ts).length ≤ acc.length + lensS ts
  | [], k, acc => Nat.le_add_right _ _
  | t :: r, k, acc => by
    have h := textFrom_le r (k + 1) (acc ++ (if k > 0 then ", " else "" : String) ++ t)
    have e : textFrom k acc (t :: r) = textFrom (k + 1) (acc ++ (if k > 0 then ", " else "" : String) ++ t) r := rfl
    rw [e]
    refine Nat.le_trans h ?_
    rw [strLen_append, strLen_append]
    have : (Str.ofString (if k > 0 then ", " else "" : String)).length ≤ 2 := by split <;> decide
    have e2 : lensS (t :: r) = t.length + 2 + lensS r := by unfold lensS; rw [List.map_cons, List.sum_cons]
    rw [e2]
    omega
theorem lens_sum (ts : List Str) : (ts.map (·.length)).sum + ts.length * 2 = lensS ts := by
  unfold lensS
  induction ts with
  | nil => rfl
  | cons t r ih => rw [List.map_cons, List.map_cons, List.sum_cons, List.sum_cons, List.length_cons]; omega
theorem joinS_le (ts : List Str) : (Str.join ", " ts).length ≤ lensS ts := by
  have h := join_le ", " ts
  rw [TL.join_eq, show (", " : Str).length = 2 from rfl, lens_sum] at h
  exact h
theorem py_tup {ps : List PyData} {n : Nat} (h : lensS (PyData.shownAll ps) ≤ n) : (PyData.tuple ps).shown.length ≤ n + 3 := by
  rw [PyData.shown]
  unfold tupleText
  have := joinS_le (PyData.shownAll ps)
  rw [strLen_append, strLen_append]
  have e1 : ("(" : Str).length = 1 := rfl
  have : (Str.ofString (if (PyData.shownAll ps).length == 1 then ",)" else ")" : String)).length ≤ 2 := by split <;> decide
  omega
theorem py_lst {ps : List PyData} {n : Nat} (h : lensS (PyData.shownAll ps) ≤ n) : (PyData.list ps).shown.length ≤ n + 3 := by
  rw [PyData.shown]
  unfold listText
  have := textFrom_le (PyData.shownAll ps) 0 "["
  rw [strLen_append]
  have e1 : ("[" : Str).length = 1 := rfl
  have e2 : ("]" : Str).length = 1 := rfl
  have e3 : (Str.ofString "]").length = 1 := rfl
  omega
mutual
theorem py_ok : ∀ d : D, okD d = true → ∃ p, D.py true d = some p ∧ p.showable = true ∧ p.depth = dpD d ∧ p.shown.length ≤ wtD d
  | .non, _ => ⟨.none, rfl, by simp [PyData.showable], by simp [PyData.depth, dpD], by simp only [PyData.shown, wtD]; decide⟩
  | .bl b, _ => ⟨.bool b, rfl, by simp [PyData.showable], by simp [PyData.depth, dpD], by simp only [PyData.shown, wtD]; cases b <;> decide⟩
  | .int i, h => by
    rw [okD] at h
    refine ⟨.int i, rfl, by rw [PyData.showable]; exact h, by simp [PyData.depth, dpD], ?_⟩
    simp only [PyData.shown, wtD]
    have := int_text_length_le (a := i) (k := i.natAbs.log2 + 1) (by omega) (by omega)
    rw [PySem.ofString_length]
    omega
  | .str s, h => by
    rw [okD] at h
    have h : ∀ c ∈ s.cps.toList, c < 16 ^ 8 := fun c hc => of_decide_eq_true (List.all_eq_true.mp h c hc)
    refine ⟨.str s, rfl, by simp [PyData.showable], by simp [PyData.depth, dpD], ?_⟩
    simp only [PyData.shown, wtD]
    exact StrLaws.reprText_len s h
  | .tup xs, h => by rw [okD] at h; obtain ⟨ps, h1, h2, h3, h4⟩ := py_okA xs h; exact ⟨.tuple ps, by rw [D.py, h1]; rfl, by rw [PyData.showable]; exact h2, by rw [PyData.depth, dpD, h3], py_tup h4⟩
  | .tuk xs, h => by rw [okD] at h; obtain ⟨ps, h1, h2, h3, h4⟩ := py_okA xs h; exact ⟨.tuple ps, by rw [D.py, h1]; rfl, by rw [PyData.showable]; exact h2, by rw [PyData.depth, dpD, h3], py_tup h4⟩
  | .tun xs, h => by rw [okD] at h; obtain ⟨ps, h1, h2, h3, h4⟩ := py_okA xs h; exact ⟨.tuple ps, by rw [D.py, h1]; rfl, by rw [PyData.showable]; exact h2, by rw [PyData.depth, dpD, h3], py_tup h4⟩
  | .lst xs, h => by rw [okD] at h; obtain ⟨ps, h1, h2, h3, h4⟩ := py_okA xs h; exact ⟨.list ps, by rw [D.py, h1]; rfl, by rw [PyData.showable]; exact h2, by rw [PyData.depth, dpD, h3], py_lst h4⟩
  | .lsk xs, h => by rw [okD] at h; obtain ⟨ps, h1, h2, h3, h4⟩ := py_okA xs h; exact ⟨.list ps, by rw [D.py, h1]; rfl, by rw [PyData.showable]; exact h2, by rw [PyData.depth, dpD, h3], py_lst h4⟩
  | .dct kvs, h => by
    rw [okD] at h
    obtain ⟨ps, h1, h2, h3, h4⟩ := py_okK kvs h
    refine ⟨.dict ps, by rw [D.py, h1]; rfl, by rw [PyData.showable]; exact h2, by rw [PyData.depth, dpD, h3], ?_⟩
    rw [PyData.shown, wtD]
    unfold dictText
    have := joinS_le (PyData.shownKv ps)
    rw [strLen_append, strLen_append]
    have e1 : ("{" : Str).length = 1 := rfl
    have e2 : ("}" : Str).length = 1 := rfl
    have e3 : (Str.ofString "}").length = 1 := rfl
    omega
  | .dcu _, h => by simp [okD] at h
  | .ins _ _, h => by simp [okD] at h
  | .cel _, h => by simp [okD] at h
  | .fn _, h => by simp [okD] at h
  | .ty _, h => by simp [okD] at h
  | .xob _ _, h => by simp [okD] at h
  | .xok _ _, h => by simp [okD] at h
theorem py_okA : ∀ ds : List D, okA ds = true → ∃ ps, D.pyA true ds = some ps ∧ PyData.showableAll ps = true ∧ PyData.depthAll ps = dpA ds ∧ lensS (PyData.shownAll ps) ≤ wtA ds
  | [], _ => ⟨[], by rw [D.pyA], by rw [PyData.showableAll], by rw [PyData.depthAll, dpA], by rw [PyData.shownAll, wtA]; exact Nat.le_refl _⟩
  | d :: ds, h => by
    rw [okA, Bool.and_eq_true] at h
    obtain ⟨p, a1, a2, a3, a4⟩ := py_ok d h.1
    obtain ⟨ps, b1, b2, b3, b4⟩ := py_okA ds h.2
    refine ⟨p :: ps, by rw [D.pyA, a1, b1]; rfl, by rw [PyData.showableAll, a2, b2]; rfl, by rw [PyData.depthAll, dpA, a3, b3], ?_⟩
    rw [PyData.shownAll, wtA]
    have e2 : lensS (p.shown :: PyData.shownAll ps) = p.shown.length + 2 + lensS (PyData.shownAll ps) := by unfold lensS; rw [List.map_cons, List.sum_cons]
    omega
theorem py_okK : ∀ ds : List (D × D), okK ds = true → ∃ ps, D.pyK true ds = some ps ∧ PyData.showableKv ps = true ∧ PyData.depthKv ps = dpK ds ∧ lensS (PyData.shownKv ps) ≤ wtK ds
  | [], _ => ⟨[], by rw [D.pyK], by rw [PyData.showableKv], by rw [PyData.depthKv, dpK], by rw [PyData.shownKv, wtK]; exact Nat.le_refl _⟩
  | (k, d) :: ds, h => by
    rw [okK, Bool.and_eq_true, Bool.and_eq_true] at h
    obtain ⟨q, c1, c2, c3, c4⟩ := py_ok k h.1.1
    obtain ⟨p, a1, a2, a3, a4⟩ := py_ok d h.1.2
    obtain ⟨ps, b1, b2, b3, b4⟩ := py_okK ds h.2
    refine ⟨(q, p) :: ps, by rw [D.pyK, c1, a1, b1]; rfl, by rw [PyData.showableKv, c2, a2, b2]; rfl, by rw [PyData.depthKv, dpK, a3, b3, c3], ?_⟩
    rw [PyData.shownKv, wtK]
    have e2 : lensS ((q.shown ++ ": " ++ p.shown) :: PyData.shownKv ps) = (q.shown ++ ": " ++ p.shown).length + 2 + lensS (PyData.shownKv ps) := by unfold lensS; rw [List.map_cons, List.sum_cons]
    rw [e2, strLen_append, strLen_append]
    have e1 : (": " : Str).length = 2 := rfl
    have e3 : (Str.ofString ": ").length = 2 := rfl
    omega
end
theorem repr_okD {d : D} (h : okD d = true) (h1 : dpD d ≤ 60) (h2 : wtD d ≤ 16777216) : ∃ p, D.py true d = some p ∧ reprD d = some (.fz (.str p.shown)) ∧ p.shown.length ≤ wtD d := by
  obtain ⟨p, a1, a2, a3, a4⟩ := py_ok d h
  refine ⟨p, a1, ?_, a4⟩
  unfold reprD
  rw [a1]
  show (if p.showable = true ∧ p.depth ≤ 60 ∧ p.shown.length ≤ 16777216 then _ else _) = _
  rw [if_pos ⟨a2, by omega, by omega⟩]
/-! ### turns that go through -/
theorem cutD_mem {ds : List D} {lo hi : Option Int} : ∀ d ∈ cutD ds lo hi, d ∈ ds := fun d h => List.mem_of_mem_drop (List.mem_of_mem_take h)
theorem cutD_len {ds : List D} {lo hi : Option Int} : (cutD ds lo hi).length ≤ ds.length := by
  unfold cutD
  rw [List.length_take, List.length_drop]
  omega
end L2.Tr
namespace L2.Tr
open PySem PySem.Spec PyProof.Rows L2 L2.Pc
/-! ### steps with conditions, which a discharger shows -/
section
variable {α : Type} {p : Prop} [Decidable p] {a b : α}
theorem c_if (h : p) : (if p then a else b) = a := if_pos h
theorem c_ifn (h : ¬ p) : (if p then a else b) = b := if_neg h
theorem c_dt (h : p) : decide p = true := decide_eq_true h
theorem c_df (h : ¬ p) : decide p = false := decide_eq_false h
end
section
variable {CT : CTab} {c f g : Str} {d e : D} {o x : O} {fs : List (Str × D)} {os : List (Str × O)}
theorem c_fld (h : okF CT c f = true) : fldO CT f (.fz (.ins c fs)) = (fs.lookup f).map .fz := by
  unfold fldO fldD
  dsimp only
  rw [if_pos h]
theorem c_fldi (h : okF CT c f = true) : fldO CT f (.ins c os) = os.lookup f := by
  unfold fldO
  dsimp only
  rw [if_pos h]
theorem c_lk0 {β : Type} {d : β} {r : List (Str × β)} : List.lookup f ((f, d) :: r) = some d := by simp [List.lookup]
theorem c_lk1 {β : Type} {d : β} {r : List (Str × β)} (h : (f == g) = false) : List.lookup f ((g, d) :: r) = List.lookup f r := by simp [List.lookup, h]
theorem c_pu0 : putO f o [] = [(f, o)] := rfl
theorem c_pu1 : putO f o ((f, x) :: os) = (f, o) :: os := by unfold putO; rw [if_pos rfl]
theorem c_pu2 (h : (f == g) = false) : putO f o ((g, x) :: os) = (g, x) :: putO f o os := by
  conv => lhs; unfold putO
  rw [if_neg]
  intro e
  rw [e] at h
  simp at h
def chB (o : Option Bool) (m : M O) : M O := match o with
  | some true => m
  | some false => ret (.fz (.bl false))
  | none => fun _ => .no
theorem c_chK {g g' : D → D → Option O} {mc : M O} {x y : O} : chainK g g' mc x y = chB ((g x.toD y.toD).bind asB) (bnd mc fun z => ofO (g' y.toD z.toD)) := by
  unfold chainK chB
  rfl
theorem c_chT {m : M O} : chB (some true) m = m := rfl
theorem c_chF {m : M O} : chB (some false) m = ret (.fz (.bl false)) := rfl
theorem c_div {i j : Int} (h : 0 < j ∧ j < 1073741824) : divD (.int i) (.int j) = some (.fz (.int (i / j))) := st_divi h.1 h.2
theorem c_str {i : Int} (h : -18446744073709551616 < i ∧ i < 18446744073709551616) : strD (.int i) = some (.fz (.str (toString i))) := by
  refine st_stri ?_
  by_cases h0 : i.natAbs = 0
  · rw [h0]; decide
  · have : i.natAbs.log2 < 64 := (Nat.log2_lt h0).mpr (by omega)
    omega
section
variable {tbl : List (Str × MF)} {g : D → Option O} {env : List (Option O)} {mu : List O} {ds : List D}
theorem c_rs1 {b : Bool} : runS tbl g (.bl b) ⟨env, mu⟩ = ofO (g (.bl b)) ⟨env, mu⟩ := rfl
theorem c_rs2 {i : Int} : runS tbl g (.int i) ⟨env, mu⟩ = ofO (g (.int i)) ⟨env, mu⟩ := rfl
theorem c_rs3 {a : Str} : runS tbl g (.str a) ⟨env, mu⟩ = ofO (g (.str a)) ⟨env, mu⟩ := rfl
theorem c_rs4 : runS tbl g (.tup ds) ⟨env, mu⟩ = ofO (g (.tup ds)) ⟨env, mu⟩ := rfl
theorem c_rs5 : runS tbl g (.lst ds) ⟨env, mu⟩ = ofO (g (.lst ds)) ⟨env, mu⟩ := rfl
theorem c_rs6 : runS tbl g .non ⟨env, mu⟩ = ofO (g .non) ⟨env, mu⟩ := rfl
theorem c_rs7 : runS tbl g (.tuk ds) ⟨env, mu⟩ = ofO (g (.tuk ds)) ⟨env, mu⟩ := rfl
theorem c_rs8 {kvs : List (D × D)} : runS tbl g (.dct kvs) ⟨env, mu⟩ = ofO (g (.dct kvs)) ⟨env, mu⟩ := rfl
end
theorem c_runI {tbl : List (Str × MF)} {g : D → Option O} {c : Str} {fs : List (Str × D)} {env : List (Option O)} {mu : List O} : runS tbl g (.ins c fs) ⟨env, mu⟩ = (match tbl.lookup c with
  | some mf => (match noExc (runF mf [.ins c fs] ⟨env, mu⟩) with | .ok o s' => ofO (strO o) s' | _ => R.no)
  | none => R.no) := rfl
theorem c_strO {a : Str} : strO (.fz (.str a)) = some (.fz (.str a)) := rfl
theorem c_al0 : List.all ([] : List O) isFz = true := rfl
theorem c_al1 {os : List O} : List.all (.fz d :: os) isFz = List.all os isFz := rfl
theorem c_g0 {mu : List O} : getM (o :: mu) 0 = some o := rfl
theorem c_s0 {mu : List O} {o' : O} : setM (o :: mu) 0 o' = o' :: mu := rfl
theorem c_at5 {β : Type} {x y z w v u : β} {r : List β} : atI (x :: y :: z :: w :: v :: u :: r) 5 = some u := by show atI _ ((5 : Nat) : Int) = _; rw [atN]; rfl
end
theorem c_ltlen (s : String) : (Str.ofString s).length = s.length := PySem.ofString_length s
end L2.Tr
namespace L2.Tr
open PySem PySem.Spec PyProof.Rows L2 L2.Pc
section
variable {P : Program} {w : World} {G : Gi} {base : Heap} {gb : Bool} {k j n : Nat} {f : Addr} {fd : FuncData} {ps ks : List Str} {m : MF} {x c mn : Str} {gD : List D → List D → List D}
theorem FnT.toG (F : FnT P w G base gb k f fd ps m) : FnG P w G.K G.mg base (L2.CX P w) k f fd ps (SpM G ps.length m) :=
  ⟨fun _ _ _ _ ⟨_, _, _, _, _, _, _, h, _⟩ => h, fun A o s H args us vs Q E hg hr e b v h => F.go A o s H args us vs Q E (fun _ => hg) hr e b v h⟩
/-! ### forms of calls -/
/-- values picked: 0 the written ones, 1 the defaults, 2 the keywords' -/
def pick {α : Type} : List (Nat × Nat) → List α → List α → List α → List α
  | [], _, _, _ => []
  | (0, i) :: r, us, ds, ws => us[i]?.toList ++ pick r us ds ws
  | (1, i) :: r, us, ds, ws => ds[i]?.toList ++ pick r us ds ws
  | (_, i) :: r, us, ds, ws => ws[i]?.toList ++ pick r us ds ws
theorem paired_opt {α β : Type} {R : α → β → Prop} : ∀ {us : List α} {vs : List β} (i : Nat), Paired R us vs → Paired R us[i]?.toList vs[i]?.toList
  | _, _, _, .nil => by simpa using Paired.nil
  | _, _, 0, .cons h _ => by simpa using Paired.cons h .nil
  | _, _, i + 1, .cons _ hs => by simpa using paired_opt i hs
theorem paired_app {α β : Type} {R : α → β → Prop} : ∀ {us us' : List α} {vs vs' : List β}, Paired R us vs → Paired R us' vs' → Paired R (us ++ us') (vs ++ vs')
  | _, _, _, _, .nil, k => k
  | _, _, _, _, .cons h hs, k => .cons h (paired_app hs k)
theorem pick_paired {α β : Type} {R : α → β → Prop} {us ds ws : List α} {us' ds' ws' : List β} (h1 : Paired R us us') (h2 : Paired R ds ds') (h3 : Paired R ws ws') : ∀ code : List (Nat × Nat), Paired R (pick code us ds ws) (pick code us' ds' ws')
  | [] => .nil
  | (0, i) :: r => paired_app (paired_opt i h1) (pick_paired h1 h2 h3 r)
  | (1, i) :: r => paired_app (paired_opt i h2) (pick_paired h1 h2 h3 r)
  | (_ + 2, i) :: r => paired_app (paired_opt i h3) (pick_paired h1 h2 h3 r)
theorem rp_paired {F : Hp} {al : List Addr} : ∀ {vs : List V} {ds : List D}, RpA G F al vs ds → Paired (Rp G F al) vs ds
  | _, _, .nil => .nil
  | _, _, .cons h hs => .cons h (rp_paired hs)
theorem paired_rp {F : Hp} {al : List Addr} : ∀ {vs : List V} {ds : List D}, Paired (Rp G F al) vs ds → RpA G F al vs ds
  | _, _, .nil => .nil
  | _, _, .cons h hs => .cons h (paired_rp hs)
theorem bd_pos (hb : ∀ us : List Value, us.length = ps.length → bindArgs fd ⟨us, []⟩ = pure (ps.zip us)) : BdD G.K fd ps ps.length [] (fun ds _ => ds) :=
  ⟨_, _, kb_pos hb, fun vs _ h _ => h, fun _ _ _ _ _ _ _ r _ _ _ => r⟩
theorem kn_pos (F : FnT P w G base gb k f fd ps m) (hm : G.mg x = some (.ref f)) (hk : PySem.W.keepIn G.K (.ref f) = true) (hb : ∀ us : List Value, us.length = ps.length → bindArgs fd ⟨us, []⟩ = pure (ps.zip us)) :
    KnT P w G base gb x k ps.length [] (fun ds _ => ds) m := ⟨f, fd, ps, F, hm, hk, bd_pos hb⟩
theorem bi_pos {p : Str} (hb : ∀ us : List Value, us.length = (p :: ps).length → bindArgs fd ⟨us, []⟩ = pure ((p :: ps).zip us)) : BdI G.K fd (p :: ps) ps.length [] (fun ds _ => ds) :=
  ⟨_, _, kb_pos hb, fun x vs zs h _ => ⟨vs, rfl, by rw [List.length_cons, List.length_cons, h], fun _ _ _ _ _ r _ => r⟩⟩
def selfP {α : Type} (code : List (Nat × Nat)) (us ds ws : List α) : List α := match us with
  | a :: vs => a :: pick code vs ds ws
  | [] => []
/-- the script, as the tree function reads it -/
theorem law_sp {H : Hp} {a : Addr} {ns : List Int} (hO : Only H) (hS : SqL G.K H a (ns.map V.int)) (hm : ∃ mu, m [.lsk (ns.map .int)] [] = .ok (.fz (.bl true)) ⟨[], mu⟩) :
    SpM G 1 m [.ref a] H (fun v _ => v = .bl true) fun _ _ _ => False := by
  obtain ⟨mu, e⟩ := hm
  have hints : ∀ ns : List Int, RpA G H [] (ns.map V.int) (ns.map D.int) := fun ns => by
    induction ns with
    | nil => exact .nil
    | cons i ns ih => exact .cons (.int i) ih
  refine ⟨⟨H, H, [], [], []⟩, [.lsk (ns.map .int)], [], rfl, rfl, ⟨fun _ _ h => h, fun b h => by simp at h, .nil, .nil, fun b h => (nomatch h), .nil, .nil⟩, .cons (.lsk hS (hints ns)) .nil, rfl, ?_⟩
  rw [e]
  intro v c' fp r g t f nw
  exact own_bl t
end
/-! ### tables -/
section
variable {P : Program} {w : World} {G : Gi} {base : Heap} {gb : Bool} {k j n : Nat} {f C : Addr} {fd : FuncData} {ps ks : List Str} {m : MF} {x c mn : Str}
theorem gc_cls (h : G.mg x = some (.ref C)) : Gc G x (.fn x) := ⟨.ref C, ⟨_, h, rfl⟩, fun _ _ => .fn h⟩
theorem kit_same {K : PySem.W.Frag} {v : Value} : PySem.W.kitOne K v v = some true := by unfold PySem.W.kitOne; simp
theorem cls_some {K : PySem.W.Frag} {C : Addr} (h : PySem.W.mroIn K C (.type "object") = some true) : (PySem.W.clsIn K C).isSome = true := by
  unfold PySem.W.mroIn at h
  cases e : PySem.W.clsIn K C with
  | none => rw [e] at h; cases h
  | some _ => rfl
theorem kit_up {K : PySem.W.Frag} {C : Addr} {t : Value} {b : Bool} (h : PySem.W.mroIn K C (.type "object") = some true) (ty : PySem.W.typeIn K (.ref C) = some (.type "type")) (su : PySem.W.subIn K t (.ref C) = some b) (ne : (t == Value.ref C) = false) : PySem.W.kitOne K t (.ref C) = some b := by
  unfold PySem.W.kitOne PySem.W.kitCls
  rw [if_neg (by rw [ne]; decide)]
  dsimp only
  rw [if_pos (by rw [cls_some h, ty]; simp)]
  exact su
theorem kit_dn {K : PySem.W.Frag} {C : Addr} {T : String} {b : Bool} (hm : PySem.W.kitMeta T = true) (su : PySem.W.subIn K (.ref C) (.type T) = some b) : PySem.W.kitOne K (.ref C) (.type T) = some b := by
  unfold PySem.W.kitOne PySem.W.kitCls
  rw [if_neg (by simp)]
  dsimp only
  rw [if_pos hm]
  exact su
theorem kit_x {K : PySem.W.Frag} {C C2 : Addr} (h : PySem.W.mroIn K C (.type "object") = some true) (ty : PySem.W.typeIn K (.ref C) = some (.type "type")) (ss : PySem.W.subIn K (.ref C) (.ref C) = some true) (su : PySem.W.subIn K (.ref C2) (.ref C) = some false) : PySem.W.kitOne K (.ref C2) (.ref C) = some false :=
  kit_up h ty su (by
    cases e : (Value.ref C2 == Value.ref C) with
    | false => rfl
    | true => have := eq_of_beq e; injection this with this; rw [this, ss] at su; cases su)
end
/-- the goal behind k_head, k_fill -/
theorem walkT {l : PySem.W.OpenLaw} {n k : Nat} {q : Program} {loose : List Str} {XP : (Str → Option Value) → Heap → Prop}
    {YP : World → Heap → Prop} {d : DefRec} {K : Params → PySem.W.Frag} {m : MF} {gb : Bool} {x : Str}
    (hn : l.most = some n) (hn2 : n ≤ sizeLine) (hi : importsNone q = true) (hdf : d.params.defaults = []) (hr : Room k callerA)
    (hY : ∀ (w : World) (h : Heap), YP w h → (K w.params).In h)
    (F : ∀ (w : World) (mg : Str → Option Value) (fa : Addr) (h : Heap), (K w.params).In h → h.Ns mainGlobals mg →
      mg d.name = some (.ref fa) →
      ∃ fd : FuncData, (∀ (s : Shared) (u : Value), BindsTo s fd ⟨[u], []⟩ [(x, u)]) ∧
        ∀ base : Heap, (K w.params).In base → base.Ns mainGlobals mg → Sm base →
          FnT l.prog w ⟨K w.params, mg, none⟩ base gb k fa fd [x] m)
    (hm : ∀ ns : List Int, ns.length ≤ n → ∃ mu, m [.lsk (ns.map .int)] [] = .ok (.fz (.bl true)) ⟨[], mu⟩) :
    PySem.W.WalkO q loose XP YP l.row.toRowW d [] (fun f vs => PySem.call f vs) := by
  refine Att.attach_call hn hdf ?_
  intro w s0 s1 mg mb fa o pm cd doc a vs ns G Y ho hd hcd hmg hobj hints hlen hge
  have KX := hY w _ Y
  obtain ⟨fd, hbi, hF⟩ := F w mg fa _ KX G.T.g hmg
  exact law_callG (CX := L2.CX l.prog w) (sp := SpM ⟨K w.params, mg, none⟩ 1 m) KX G.T.g G.T.b G.T.builtins G.T.nolimit hge hobj hints (Nat.le_trans hlen hn2) hr ((G.T.seer hi).mods.imp fun _ h => h.1) (fun base a b c => (hF base a b c).toG) hbi
    (fun H hO hS => law_sp hO hS (hm ns hlen)) (fun H e s' c => by
      obtain ⟨_, _, _, _, _, _, _, _, _, _, _, _, h⟩ := c
      exact h.elim)
end L2.Tr
namespace L2.Tr
open PySem PySem.Spec PyProof.Rows L2 L2.Pc
/-! ### an exception's __init__ -/
theorem Df.okF {P : Program} {w : World} {K : PySem.W.Frag} {mg : Str → Option Value} {base : Heap} {f : Addr} {fd : FuncData} {N ps : List Str} {sp : Sp} {k : Nat}
    {x qual : Str} {st : Stmt} (F : Df K x qual st f fd) (S : FnScope N ps (defScope st))
    (len : ∀ vs H Q E, sp vs H Q E → vs.length = ps.length)
    (hb : ∀ (cdv : Value) (A : Around) (outer : List Env) (s : Shared) (H : Hp) (vs : List V) (Q : VK) (E : XK), sp vs H Q E →
      ∃ t, PSs (cxOf CX0 P w K mg base N qual (defScope st) f cdv A outer s H E).nox (defBody st) t ∧
        t { nx := fun _ H' => Q .non H', rt := Q } (start N vs) H) :
    FnOk P w K mg base CX0 (k + 1) f fd ps sp := by
  obtain ⟨oc, od, dV, kV, doc, pm, an, cdv, ct, osl, rfl, lk, hc⟩ := F.ex
  refine ⟨len, fun A outer s H args us vs Q E hr e0 hbi r hsp => ?_⟩
  have hlen := len _ _ _ _ hsp
  have kin : K.In s.heap := e0.mod.kin.keeps (fun b o e => (e0.bs b o e).1)
  have hlm : s.heap.NoLimit := e0.mod.nolimit.keeps (fun b o e => (e0.bs b o e).1)
  have kinds : ∀ y ∈ ps.zip us, (defScope st).names.lookup y.1 = some .local ∨
      ((defScope st).names.lookup y.1 = some .cell ∧
        ((cellsFrom (s.heap.objs.size + 1) (defScope st).names []).lookup y.1).isSome = true) := by
    rintro ⟨n, v⟩ hy
    rcases S.par n (List.of_mem_zip hy).1 with h1 | h1
    · left; exact h1
    · right; exact ⟨h1, PySem.W.cellsFrom_some _ _ _ (Or.inl h1)⟩
  apply codeAny_call_function hr.depth (kin _ _ lk) rfl S.co S.gen rfl (PySem.W.codeRec_of kin hc) (hbi _ _ _ _ ?_)
  apply wpAny_newFunctionEnv_cells S.kind kinds
  intro env he s1 hx
  subst he
  refine ⟨hlm.keeps hx.toInCall.keep, codeAny_func ?_⟩
  obtain ⟨t, ht, hq⟩ := hb cdv A outer s H vs Q E hsp
  have ht := ht.nox
  have I0 : Inv (cxOf CX0 P w K mg base N qual (defScope st) f cdv A outer s H E) [] (start N vs) H s1 :=
    inv_start S hr.hd e0 hlen r hx
  refine wpAny_mono (ht.run [] s1 (start N vs) H _ I0 hq) ?_ (fun e s' hs => hs)
  intro fl s' hs
  cases fl with
  | ret u =>
    obtain ⟨v, σ', H', J, rv, q⟩ := hs
    exact ⟨v, H', J.os, J.bare, J.base, J.hok, rv, q⟩
  | next =>
    obtain ⟨σ', H', J, q⟩ := hs
    exact ⟨V.non, H', J.os, J.bare, J.base, J.hok, rfl, q⟩
  | brk => obtain ⟨_, _, _, q⟩ := hs; exact q.elim
  | cont => obtain ⟨_, _, _, q⟩ := hs; exact q.elim
/-- what it promises: the fields, the last one first -/
def SpXi (C : Addr) (n : Nat) (fl : List V → List (Str × V)) : Sp := fun vs H Q E => ∃ a ys, vs = .ref a :: ys ∧ ys.length = n ∧ H a = some (exo a C none) ∧
  ∀ dx, H dx = none → dx ≠ a → Q .non (upd (upd H dx (exd dx (fl ys))) a (exo a C (some dx)))
theorem upd_two {H : Hp} {a dx : Addr} {o1 o2 o3 : HO} (ne : dx ≠ a) : upd (upd (upd H dx o1) a o3) dx o2 = upd (upd H dx o2) a o3 := by
  funext b
  by_cases h1 : b = dx
  · subst h1; rw [upd_same, upd_ne ne, upd_same]
  · by_cases h2 : b = a
    · subst h2; rw [upd_ne h1, upd_same, upd_same]
    · rw [upd_ne h1, upd_ne h2, upd_ne h1, upd_ne h2, upd_ne h1]
/-! ### raise -/
theorem zip_map1 {α β : Type} : ∀ (as : List Str) (xs : List α) (ys : List β), xs.length = as.length → ys.length = as.length → (as.zip xs).map (·.1) = (as.zip ys).map (·.1)
  | [], xs, ys, _, _ => by simp
  | a :: as, x :: xs, y :: ys, h1, h2 => by
    rw [List.zip_cons_cons, List.zip_cons_cons, List.map_cons, List.map_cons, zip_map1 as xs ys (by simpa using h1) (by simpa using h2)]
  | a :: as, [], _, h1, _ => by simp at h1
  | a :: as, _ :: _, [], _, h2 => by simp at h2
theorem zip_map2 {α : Type} : ∀ (as : List Str) (xs : List α), xs.length = as.length → (as.zip xs).map (·.2) = xs
  | [], [], _ => rfl
  | [], _ :: _, h => by simp at h
  | a :: as, [], h => by simp at h
  | a :: as, x :: xs, h => by rw [List.zip_cons_cons, List.map_cons, zip_map2 as xs (by simpa using h)]
def sRaise (x : Str) (fns : List Str) (ma : M (List D)) : M Fl := bnd ma fun ds s => if ds.length = fns.length ∧ ds.length ≤ 1000 then .exc ⟨x, (fns.zip ds).reverse⟩ s else .no
/-! ### trees without a caught exception -/
mutual
def noX : D → Bool
  | .xob _ _ => false
  | .xok _ fs => noXF fs
  | .tup xs => noXA xs
  | .lst xs => noXA xs
  | .lsk xs => noXA xs
  | .tuk xs => noXA xs
  | .tun xs => noXA xs
  | .dct kvs => noXK kvs
  | .dcu kvs => noXK kvs
  | .ins _ fs => noXF fs
  | .cel _ => true
  | .non => true
  | .bl _ => true
  | .int _ => true
  | .str _ => true
  | .fn _ => true
  | .ty _ => true
def noXA : List D → Bool
  | [] => true
  | d :: ds => noX d && noXA ds
def noXK : List (D × D) → Bool
  | [] => true
  | (_, d) :: ds => noX d && noXK ds
def noXF : List (Str × D) → Bool
  | [] => true
  | (_, d) :: ds => noX d && noXF ds
end
theorem noXF_map : ∀ fs : List (Str × D), noXF fs = noXA (fs.map (·.2))
  | [] => by rw [noXF]; rfl
  | (_, d) :: r => by rw [noXF, List.map_cons, noXA, noXF_map r]
theorem noXK_map : ∀ fs : List (D × D), noXK fs = noXA (fs.map (·.2))
  | [] => by rw [noXK]; rfl
  | (_, d) :: r => by rw [noXK, List.map_cons, noXA, noXK_map r]
mutual
def noXO : O → Bool
  | .fz d => noX d
  | .lst xs => noXA xs
  | .dct kvs => noXK kvs
  | .dcu kvs => noXK kvs
  | .ins _ fs => noXOF fs
  | .dco kvs => noXOK kvs
  | .dcv kvs => noXOK kvs
def noXOF : List (Str × O) → Bool
  | [] => true
  | (_, d) :: ds => noXO d && noXOF ds
def noXOK : List (D × O) → Bool
  | [] => true
  | (_, d) :: ds => noXO d && noXOK ds
end
def noXOA : List O → Bool
  | [] => true
  | d :: ds => noXO d && noXOA ds
theorem noXOF_map : ∀ fs : List (Str × O), noXOF fs = noXOA (fs.map (·.2))
  | [] => by rw [noXOF]; rfl
  | (_, d) :: r => by rw [noXOF, List.map_cons, noXOA, noXOF_map r]
theorem noXOK_map : ∀ fs : List (D × O), noXOK fs = noXOA (fs.map (·.2))
  | [] => by rw [noXOK]; rfl
  | (_, d) :: r => by rw [noXOK, List.map_cons, noXOA, noXOK_map r]
section
variable {G G' : Gi} {F H : Hp} {al : List Addr}
mutual
theorem Rp.nx (h0 : G.xo = none) : ∀ {v : V} {d : D}, Rp G F al v d → noX d = true
  | _, _, .non => by rw [noX]
  | _, _, .bl b => by rw [noX]
  | _, _, .int i => by rw [noX]
  | _, _, .str x => by rw [noX]
  | _, _, .tup h hs => by rw [noX]; exact RpA.nx h0 hs
  | _, _, .tuk h hs => by rw [noX]; exact RpA.nx h0 hs
  | _, _, .tun h k hs => by rw [noX]; exact RpA.nx h0 hs
  | _, _, .lst h hs => by rw [noX]; exact RpA.nx h0 hs
  | _, _, .lsk h hs => by rw [noX]; exact RpA.nx h0 hs
  | _, _, .dcK h k hs => by rw [noX, noXK_map]; exact RpA.nx h0 hs
  | _, _, .dcT h k hs => by rw [noX, noXK_map]; exact RpA.nx h0 hs
  | _, _, .ins h k m hs => by rw [noX, noXF_map]; exact RpA.nx h0 hs
  | _, _, .cel h => by rw [noX]
  | _, _, .fn h => by rw [noX]
  | _, _, .ty n => by rw [noX]
  | _, _, .xob h _ _ _ _ => by rw [h0] at h; cases h
  | _, _, .xob0 h _ => by rw [h0] at h; cases h
  | _, _, .xok h q k n hs => by rw [noX, noXF_map]; exact RpA.nx h0 hs
  | _, _, .xok0 h q => by rw [noX, noXF]
theorem RpA.nx (h0 : G.xo = none) : ∀ {vs : List V} {ds : List D}, RpA G F al vs ds → noXA ds = true
  | _, _, .nil => by rw [noXA]
  | _, _, .cons h hs => by rw [noXA, Rp.nx h0 h, RpA.nx h0 hs]; rfl
end
mutual
theorem OwnT.nx (h0 : G.xo = none) : ∀ {o : O} {v : V} {fp : List Addr}, OwnT G F al H o v fp → noXO o = true
  | _, _, _, .fz h => by rw [noXO]; exact h.nx h0
  | _, _, _, .lst h hs => by rw [noXO]; exact hs.nx h0
  | _, _, _, .dcK h q hs => by rw [noXO, noXK_map]; exact hs.nx h0
  | _, _, _, .dcT h q hs => by rw [noXO, noXK_map]; exact hs.nx h0
  | _, _, _, .ins h q m hs => by rw [noXO, noXOF_map]; exact OwnA.nx h0 hs
  | _, _, _, .dcoK h q hs => by rw [noXO, noXOK_map]; exact OwnA.nx h0 hs
  | _, _, _, .dcoT h q hs => by rw [noXO, noXOK_map]; exact OwnA.nx h0 hs
theorem OwnA.nx (h0 : G.xo = none) : ∀ {os : List O} {vs : List V} {fp : List Addr}, OwnA G F al H os vs fp → noXOA os = true
  | _, _, _, .nil => rfl
  | _, _, _, .cons h hs => by rw [noXOA, OwnT.nx h0 h, OwnA.nx h0 hs]; rfl
end
def noXE : List (Option O) → Bool
  | [] => true
  | none :: env => noXE env
  | some o :: env => noXO o && noXE env
theorem Slots.nx (h0 : G.xo = none) : ∀ {env : List (Option O)} {σ : L2.St} {fp : List Addr}, Slots G F al H env σ fp → noXE env = true
  | _, _, _, .nil => rfl
  | _, _, _, .un h => by rw [noXE]; exact Slots.nx h0 h
  | _, _, _, .so h hs => by rw [noXE, h.nx h0, Slots.nx h0 hs]; rfl
end
def chkV (env : List (Option O)) (vs : List Nat) : Bool := vs.all fun v => match getS env v with
  | some o => noXO o
  | none => true
/-! ### try .. except C as e -/
def noXFl : Fl → Bool
  | .rt o => noXO o
  | _ => true
open Classical in
/-- the suite of a clause with a name: slot i bears the exception, the slots vs may be stored to -/
noncomputable def sSuite (i : Nat) (vs : List Nat) (ms : M Fl) (x : Exc) : M Fl := fun s => match ms ⟨setS s.env i (some (.fz (.xob x.cls x.fs))), s.mu⟩ with
  | .ok f s2 => if s2.mu = s.mu ∧ wipeE (setS s2.env i none) vs = wipeE (setS s.env i none) vs ∧ chkV (setS s2.env i none) vs = true ∧ noXFl f = true then .ok f ⟨setS s2.env i none, s2.mu⟩ else .no
  | _ => .no
noncomputable def sTryAs (i : Nat) (vs : List Nat) (tbl : List (Str × Bool)) (mb ms : M Fl) : M Fl := fun s => match mb s with
  | .exc x s' => (match tbl.lookup x.cls with
    | some true => sSuite i vs ms x s'
    | some false => .exc x s'
    | none => .no)
  | r => r
/-- .. without a name -/
def sTry1 (tbl : List (Str × Bool)) (mb ms : M Fl) : M Fl := fun s => match mb s with
  | .exc x s' => (match tbl.lookup x.cls with
    | some true => (match ms s' with
      | .exc _ _ => .no
      | r => r)
    | some false => .exc x s'
    | none => .no)
  | r => r
theorem _root_.L2.PSs.ex {α : Type} {X : Cx} {e : List Stmt} {t : α → TS} (h : ∀ x, PSs X e (t x)) : PSs X e (fun D σ H => ∃ x, t x D σ H) :=
  ⟨fun pins s σ H Q I ⟨x, q⟩ => (h x).run pins s σ H Q I q⟩
/-! ### e.f in a suite -/
structure Kx (G : Gi) (XT : CTab) : Prop where
  ex : ∀ c f, okF XT c f = true → ∃ C, G.mg c = some (.ref C) ∧ XfC G.K C ∧ PySem.W.findIn G.K (.ref C) f = some none
def xfO (XT : CTab) (f : Str) (o : O) : Option O := match o with
  | .fz (.xob c fs) => if okF XT c f = true then (fs.lookup f).map .fz else none
  | _ => none
def xXf (XT : CTab) (f : Str) (m : M O) : M O := bnd m fun o => ofO (xfO XT f o)
/-! ### tables -/
theorem lookup_mem {α : Type} {k : Str} {v : α} : ∀ {l : List (Str × α)}, l.lookup k = some v → (k, v) ∈ l
  | [], h => by cases h
  | (a, b) :: l, h => by
    rw [List.lookup] at h
    split at h
    · rename_i e
      cases h
      have e := eq_of_beq e
      subst e
      exact List.mem_cons_self
    · exact List.mem_cons_of_mem _ (lookup_mem h)
theorem kx_of {G : Gi} {XT : CTab} (h : ∀ p ∈ XT, ∃ C, G.mg p.1 = some (.ref C) ∧ XfC G.K C ∧ ∀ f ∈ p.2, PySem.W.findIn G.K (.ref C) f = some none) : Kx G XT := ⟨fun c f e => by
  unfold okF at e
  cases hl : XT.lookup c with
  | none => rw [hl] at e; cases e
  | some fl =>
    rw [hl] at e
    obtain ⟨C, h1, h2, h3⟩ := h (c, fl) (lookup_mem hl)
    exact ⟨C, h1, h2, h3 f (List.contains_iff_mem.mp e)⟩⟩
end L2.Tr
namespace L2.Tr
open PySem PySem.Spec PyProof.Rows L2 L2.Pc
/-- how many keywords (a name of its own, so that simp leaves it) -/
def nK (l : List Str) : Nat := l.length
/-! ### zip, enumerate, reversed -/
def lstD : D → Option (List D)
  | .lst ds => some ds
  | .lsk ds => some ds
  | _ => none
def tupD : D → Option (List D)
  | .tup ds => some ds
  | .tuk ds => some ds
  | .tun ds => some ds
  | _ => none
def pairD (xs ys : List D) : List D := (xs.zip ys).map fun p => .tup [p.1, p.2]
def zipD : List D → Option (List D)
  | [a, b] => match lstD a, lstD b with
    | some xs, some ys => some (pairD xs ys)
    | _, _ => (match tupD a, tupD b with
      | some xs, some ys => some (pairD xs ys)
      | _, _ => none)
  | _ => none
def numD (i : Nat) : List D → List D
  | [] => []
  | d :: ds => .tup [.int (i : Nat), d] :: numD (i + 1) ds
def enumD : List D → Option (List D)
  | [a] => (lstD a).map (numD 0)
  | _ => none
def revI (d : D) : Option (List D) := match lstD d with
  | some xs => some xs.reverse
  | none => (tupD d).map List.reverse
section
variable {G : Gi} {c : Cf} {st : S} {σ : L2.St} {v : V} {d : D} {ds : List D}
theorem lst_view {F : Hp} {al : List Addr} (t : Rp G F al v d) (e : lstD d = some ds) : ∃ a xs, v = .ref a ∧ SqL G.K F a xs ∧ RpA G F al xs ds := by
  cases t with
  | lst h hs => cases e; exact ⟨_, _, rfl, .inl (.inl h), hs⟩
  | lsk h hs => cases e; exact ⟨_, _, rfl, h, hs⟩
  | _ => cases e
theorem tup_view {F : Hp} {al : List Addr} (t : Rp G F al v d) (e : tupD d = some ds) : ∃ a xs, v = .ref a ∧ SqT G.K F a xs ∧ RpA G F al xs ds := by
  cases t with
  | tup h hs => cases e; exact ⟨_, _, rfl, .inl (.inl h), hs⟩
  | tuk h hs => cases e; exact ⟨_, _, rfl, h, hs⟩
  | tun h k hs => cases e; exact ⟨_, _, rfl, sqT_fz h, hs⟩
  | _ => cases e
theorem numD_get : ∀ (ds : List D) (k i : Nat) {d : D}, (numD k ds)[i]? = some d → ∃ x, ds[i]? = some x ∧ d = .tup [.int ((k + i : Nat) : Int), x]
  | [], k, i, d, h => by cases i <;> cases h
  | x :: ds, k, 0, d, h => by cases h; exact ⟨x, rfl, rfl⟩
  | x :: ds, k, i + 1, d, h => by
    obtain ⟨y, h1, h2⟩ := numD_get ds (k + 1) i (by simpa [numD] using h)
    exact ⟨y, by simpa using h1, by rw [h2, show k + 1 + i = k + (i + 1) by omega]⟩
theorem numD_len : ∀ (ds : List D) (k : Nat), (numD k ds).length = ds.length
  | [], _ => rfl
  | x :: ds, k => by rw [numD, List.length_cons, numD_len ds, List.length_cons]
/-- a fresh pair -/
theorem new_pair {T : Addr} {x y : V} {dx dy : D} (r : Rel G st σ c) (hT : c.H T = none) (rx : Rp G c.F c.al x dx) (ry : Rp G c.F c.al y dy) :
    ∃ c', c'.H = upd c.H T (.tup [x, y]) ∧ Rel G st σ c' ∧ GoE c c' ∧ Rp G c'.F c'.al (.ref T) (.tup [dx, dy]) := by
  have m := mo_new (o := .tup [x, y]) r hT
  have r2 := r.new (o := .tup [x, y]) hT
  have f2 := Fresh.new (o := .tup [x, y]) r hT
  have g2 := (GoE.new (o := .tup [x, y]) r hT).freeze (New.new hT) r2
  exact ⟨(c.new T (.tup [x, y])).frz [T], rfl, r2.freeze f2, g2, .tup frzF_same (.cons (rx.mo m) (.cons (ry.mo m) .nil))⟩
theorem srcs_enum {a : Addr} {xs : List V} {ds : List D} (h1 : SqL G.K c.F a xs) (r1 : RpA G c.F c.al xs ds) : Srcs G (Ite G.K a) (numD 0 ds) c := fun st2 σ2 c2 rl g => by
  have k1 := rl.rdL (sqL_mr g.mo.mR h1)
  refine ⟨fun i d hd => ?_, xs, k1, by rw [numD_len, r1.len]; exact Nat.le_refl _⟩
  obtain ⟨dx, e1, rfl⟩ := numD_get ds 0 i hd
  obtain ⟨x, hx, rx⟩ := (r1.mo g.mo).get e1
  refine ⟨⟨xs, x, k1, hx⟩, fun w H' hw => ?_⟩
  obtain ⟨T, x', rfl, hT, rfl, q1⟩ := hw
  have := q1 xs k1; rw [hx] at this; cases this
  have := new_pair rl hT (.int ((0 + i : Nat) : Int)) rx
  rw [Nat.zero_add] at this ⊢
  exact this
end
def mZip (ma : M (List D)) : M (List D) := bnd ma fun ds => ofO (zipD ds)
def mEnum (ma : M (List D)) : M (List D) := bnd ma fun ds => ofO (enumD ds)
def mRev (md : M D) : M (List D) := bnd md fun d => ofO (revI d)
end L2.Tr
namespace L2.Tr
open PySem PySem.Spec PyProof.Rows L2 L2.Pc
/-! ### steps of raise, try, zip -/
def raiseK (x : Str) (fns : List Str) (ds : List D) : M Fl := fun s => if ds.length = fns.length ∧ ds.length ≤ 1000 then .exc ⟨x, (fns.zip ds).reverse⟩ s else .no
noncomputable def tryB (i : Nat) (vs : List Nat) (ms : M Fl) (x : Exc) (s : S) : Option Bool → R Fl
  | some true => sSuite i vs ms x s
  | some false => .exc x s
  | none => .no
noncomputable def tryK (i : Nat) (vs : List Nat) (tbl : List (Str × Bool)) (ms : M Fl) : R Fl → R Fl
  | .exc x s => tryB i vs ms x s (tbl.lookup x.cls)
  | r => r
def try1B (ms : M Fl) (x : Exc) (s : S) : Option Bool → R Fl
  | some true => noExc (ms s)
  | some false => .exc x s
  | none => .no
def try1K (tbl : List (Str × Bool)) (ms : M Fl) : R Fl → R Fl
  | .exc x s => try1B ms x s (tbl.lookup x.cls)
  | r => r
open Classical in
noncomputable def suiK (i : Nat) (vs : List Nat) (s : S) : R Fl → R Fl
  | .ok f s2 => if s2.mu = s.mu ∧ wipeE (setS s2.env i none) vs = wipeE (setS s.env i none) vs ∧ chkV (setS s2.env i none) vs = true ∧ noXFl f = true then .ok f ⟨setS s2.env i none, s2.mu⟩ else .no
  | _ => .no
section
variable {x f g c : Str} {fns : List Str} {ma : M (List D)} {mb ms : M Fl} {env e2 : List (Option O)} {mu : List O} {d d2 d3 : D} {i v : Nat} {vs : List Nat} {tbl : List (Str × Bool)} {fs : List (Str × D)} {fl : Fl} {s : S} {XT : CTab} {ex : Exc} {m : M O} {md : M D} {xs ys ds : List D} {o : O}
theorem st_raise : sRaise x fns ma ⟨env, mu⟩ = (ma ⟨env, mu⟩).bind (raiseK x fns) := rfl
theorem st_raise1 : raiseK x [f] [d] s = .exc ⟨x, [(f, d)]⟩ s := rfl
theorem st_raise2 : raiseK x [f, g] [d, d2] s = .exc ⟨x, [(g, d2), (f, d)]⟩ s := rfl
theorem st_raise3 : raiseK x [f, g, c] [d, d2, d3] s = .exc ⟨x, [(c, d3), (g, d2), (f, d)]⟩ s := rfl
theorem st_try : sTryAs i vs tbl mb ms ⟨env, mu⟩ = tryK i vs tbl ms (mb ⟨env, mu⟩) := by
  unfold sTryAs tryK
  cases mb ⟨env, mu⟩ with
  | exc x s => dsimp only; cases tbl.lookup x.cls with
    | none => rfl
    | some b => cases b <;> rfl
  | _ => rfl
theorem st_tryok : tryK i vs tbl ms (.ok fl s) = .ok fl s := rfl
theorem st_tryex : tryK i vs tbl ms (.exc ⟨c, fs⟩ s) = tryB i vs ms ⟨c, fs⟩ s (tbl.lookup c) := rfl
theorem st_tryt : tryB i vs ms ex s (some true) = sSuite i vs ms ex s := rfl
theorem st_tryf : tryB i vs ms ex s (some false) = .exc ex s := rfl
theorem st_suite : sSuite i vs ms ⟨c, fs⟩ ⟨env, mu⟩ = suiK i vs ⟨env, mu⟩ (ms ⟨setS env i (some (.fz (.xob c fs))), mu⟩) := by
  unfold sSuite suiK
  rfl
open Classical in
theorem st_suiok : suiK i vs ⟨env, mu⟩ (.ok fl ⟨e2, mu⟩) = if wipeE (setS e2 i none) vs = wipeE (setS env i none) vs ∧ chkV (setS e2 i none) vs = true ∧ noXFl fl = true then .ok fl ⟨setS e2 i none, mu⟩ else .no := by
  unfold suiK
  dsimp only
  by_cases h : wipeE (setS e2 i none) vs = wipeE (setS env i none) vs ∧ chkV (setS e2 i none) vs = true ∧ noXFl fl = true
  · rw [if_pos h, if_pos ⟨rfl, h⟩]
  · rw [if_neg h, if_neg (fun z => h z.2)]
theorem st_chk0 : chkV env [] = true := rfl
theorem st_chk1 : chkV env (v :: vs) = ((match getS env v with | some o => noXO o | none => true) && chkV env vs) := rfl
theorem st_nxo : noXO (.fz d) = noX d := by rw [noXO]
theorem st_nxl : noXO (.lst ds) = noXA ds := by rw [noXO]
theorem st_nxs : noX (.str x) = true := by rw [noX]
theorem st_nxb {b : Bool} : noX (.bl b) = true := by rw [noX]
theorem st_nxi {i : Int} : noX (.int i) = true := by rw [noX]
theorem st_nxn : noX .non = true := by rw [noX]
theorem st_nxt : noX (.tup ds) = noXA ds := by rw [noX]
theorem st_nxL : noX (.lst ds) = noXA ds := by rw [noX]
theorem st_nxa0 : noXA [] = true := by rw [noXA]
theorem st_nxa1 : noXA (d :: ds) = (noX d && noXA ds) := by rw [noXA]
theorem st_nxf : noXFl .nx = true := rfl
theorem st_nxr : noXFl (.rt o) = noXO o := rfl
theorem st_try1 : sTry1 tbl mb ms ⟨env, mu⟩ = try1K tbl ms (mb ⟨env, mu⟩) := by
  unfold sTry1 try1K
  cases mb ⟨env, mu⟩ with
  | exc x s => dsimp only; cases tbl.lookup x.cls with
    | none => rfl
    | some b =>
      cases b
      · rfl
      · show _ = noExc (ms s)
        cases ms s <;> rfl
  | _ => rfl
theorem st_try1ok : try1K tbl ms (.ok fl s) = .ok fl s := rfl
theorem st_try1ex : try1K tbl ms (.exc ⟨c, fs⟩ s) = try1B ms ⟨c, fs⟩ s (tbl.lookup c) := rfl
theorem st_try1t : try1B ms ex s (some true) = noExc (ms s) := rfl
theorem st_try1f : try1B ms ex s (some false) = .exc ex s := rfl
theorem st_xf : xXf XT f m ⟨env, mu⟩ = (m ⟨env, mu⟩).bind fun o => ofO (xfO XT f o) := rfl
theorem st_xfo (h : okF XT c f = true) : xfO XT f (.fz (.xob c fs)) = (fs.lookup f).map .fz := by unfold xfO; dsimp only; rw [if_pos h]
theorem st_mzip : mZip ma ⟨env, mu⟩ = (ma ⟨env, mu⟩).bind fun ds => ofO (zipD ds) := rfl
theorem st_menum : mEnum ma ⟨env, mu⟩ = (ma ⟨env, mu⟩).bind fun ds => ofO (enumD ds) := rfl
theorem st_mrev : mRev md ⟨env, mu⟩ = (md ⟨env, mu⟩).bind fun ds => ofO (revI ds) := rfl
theorem st_zipl : zipD [.lst xs, .lst ys] = some (pairD xs ys) := rfl
theorem st_zipt : zipD [.tup xs, .tup ys] = some (pairD xs ys) := rfl
theorem st_pair0 : pairD [] ys = [] := rfl
theorem st_pair1 : pairD (d :: xs) (d2 :: ys) = .tup [d, d2] :: pairD xs ys := rfl
theorem st_enuml : enumD [.lst xs] = some (numD 0 xs) := rfl
theorem st_num0 {k : Nat} : numD k [] = [] := rfl
theorem st_num1 {k : Nat} : numD k (d :: xs) = .tup [.int (k : Nat), d] :: numD (k + 1) xs := rfl
theorem st_revl : revI (.lst xs) = some xs.reverse := rfl
theorem st_revt : revI (.tup xs) = some xs.reverse := rfl
theorem st_fnI {N : Nat} {body : M Fl} : fnI N x body ds mu = if noCA ds = true then (match body ⟨some (.fz (.cel 0)) :: env0 (N - 1) ds, [.ins x []]⟩ with
  | .ok .nx ⟨_, [o]⟩ => if noCO o = true then .ok o ⟨[], mu⟩ else .no
  | .exc e _ => if noCF e.fs = true then .exc e ⟨[], mu⟩ else .no
  | _ => .no) else .no := rfl
theorem st_nk0 : ((0 : Nat) = nK []) = True := eq_true rfl
theorem st_nk1 {k0 : Str} : ((1 : Nat) = nK [k0]) = True := eq_true rfl
theorem st_nk2 {k0 k1 : Str} : ((2 : Nat) = nK [k0, k1]) = True := eq_true rfl
theorem st_nk3 {k0 k1 k2 : Str} : ((3 : Nat) = nK [k0, k1, k2]) = True := eq_true rfl
theorem st_nk4 {k0 k1 k2 k3 : Str} : ((4 : Nat) = nK [k0, k1, k2, k3]) = True := eq_true rfl
theorem st_nk5 {k0 k1 k2 k3 k4 : Str} : ((5 : Nat) = nK [k0, k1, k2, k3, k4]) = True := eq_true rfl
theorem st_nk6 {k0 k1 k2 k3 k4 k5 : Str} : ((6 : Nat) = nK [k0, k1, k2, k3, k4, k5]) = True := eq_true rfl
theorem st_nk7 {k0 k1 k2 k3 k4 k5 k6 : Str} : ((7 : Nat) = nK [k0, k1, k2, k3, k4, k5, k6]) = True := eq_true rfl
theorem st_nk8 {k0 k1 k2 k3 k4 k5 k6 k7 : Str} : ((8 : Nat) = nK [k0, k1, k2, k3, k4, k5, k6, k7]) = True := eq_true rfl
end
end L2.Tr
namespace L2.Tr
open PySem PySem.Spec PyProof.Rows L2 L2.Pc
/-! ### a dict of the module with text keys -/
inductive VTab (G : Gi) : List (Str × Value) → List (Str × D) → Prop
  | nil : VTab G [] []
  | cons {k : Str} {u : Value} {us : List (Str × Value)} {d : D} {ds : List (Str × D)} : (∃ v, RelV v u ∧ ∀ F al, Rp G F al v d) → VTab G us ds → VTab G ((k, u) :: us) ((k, d) :: ds)
theorem VTab.get {G : Gi} {us : List (Str × Value)} {ds : List (Str × D)} (h : VTab G us ds) (z : Str) : (∀ d, ds.lookup z = some d → ∃ u v, us.lookup z = some u ∧ RelV v u ∧ ∀ F al, Rp G F al v d) ∧ (us.lookup z).isSome = (ds.lookup z).isSome := by
  induction h with
  | nil => exact ⟨fun d h => (by cases h), rfl⟩
  | @cons k u us d ds hv _ ih =>
    obtain ⟨v, r, hr⟩ := hv
    by_cases hz : z = k
    · subst hz
      rw [List.lookup_cons_self, List.lookup_cons_self]
      exact ⟨fun d' h => by cases h; exact ⟨u, v, rfl, r, hr⟩, rfl⟩
    · have n2 : (z == k) = false := beq_eq_false_iff_ne.mpr hz
      rw [List.lookup, n2, List.lookup, n2]
      exact ih
/-! ### a call by a name that holds a def -/
theorem KnT.mono {P : Program} {w : World} {G : Gi} {base : Heap} {gb : Bool} {x : Str} {j k n : Nat} {ks : List Str} {gD : List D → List D → List D} {m : MF} (F : KnT P w G base gb x j n ks gD m) (h : j ≤ k) : KnT P w G base gb x k n ks gD m := by
  obtain ⟨f, fd, ps, F, r⟩ := F.ex
  exact ⟨f, fd, ps, F.mono h, r⟩
end L2.Tr
namespace L2.Tr
open PySem PySem.Spec PyProof.Rows L2 L2.Pc
/-! ### a slot's own thing made a cell; pop of a cell -/
section
variable {X : Cx} {G : Gi} {W : WX} {e : Expr} {st : Stmt} {m : M Fl} {me : M O} {pos apos cpos : Pos} {i : Nat}
def celS (i : Nat) : M Fl := fun s => match getS s.env i with
  | some o => if cellO o = true then .ok .nx ⟨setS s.env i (some (.fz (.cel s.mu.length))), s.mu ++ [o]⟩ else .no
  | none => .no
def celK (i : Nat) : Fl → M Fl
  | .nx => celS i
  | f => ret f
def sCel (i : Nat) (m : M Fl) : M Fl := bnd m (celK i)
def xPop (i : Nat) (me : M O) : M O := fun s => match getS s.env i with
  | some (.fz (.cel n)) => (match getM s.mu n with
    | some (.lst _) => (me s).bind fun o s1 => (match getS s1.env i, getM s1.mu n, o.toD with
      | some (.fz (.cel n')), some (.lst xs), .int k => if n' = n ∧ -(2 ^ 63) ≤ k ∧ k < 2 ^ 63 then (match seqIndex? k xs.length with
        | some j => (match xs[j]? with
          | some y => .ok (.fz y) ⟨s1.env, setM s1.mu n (.lst (xs.eraseIdx j))⟩
          | none => .no)
        | none => .no) else .no
      | _, _, _ => .no)
    | _ => .no)
  | _ => .no
end
/-! ### a list compared with [] -/
section
variable {X : Cx} {G : Gi} {W : WX} {a b : Expr} {ma mb : M O}
def nilD (neg : Bool) : D → D → Option O
  | .lst xs, .lst [] => some (.fz (.bl (xs.isEmpty != neg)))
  | _, _ => none
end
/-! ### a function called by keywords alone -/
/-! ### a cell compared with [] -/
section
variable {X : Cx} {G : Gi} {W : WX} {b : Expr} {pos : Pos} {i : Nat}
def xNil (neg : Bool) (i : Nat) : M O := fun s => match getS s.env i with
  | some (.fz (.cel n)) => (match getM s.mu n with
    | some (.lst xs) => .ok (.fz (.bl (xs.isEmpty != neg))) s
    | _ => .no)
  | _ => .no
end
/-! ### `is` of two truths -/
end L2.Tr
namespace L2.Tr
open PySem PySem.Spec PyProof.Rows L2 L2.Pc
/-! ### cells that are dicts with text keys, their entries owned -/
def isK (k : Str) : D → Bool
  | .str s => decide (s = k)
  | _ => false
def getK (k : Str) : List (D × O) → Option O
  | [] => none
  | (d, o) :: r => if isK k d = true then some o else getK k r
/-- the first entry of a key exchanged -/
def setK (k : Str) (o' : O) : List (D × O) → List (D × O)
  | [] => []
  | (d, o) :: r => if isK k d = true then (d, o') :: r else (d, o) :: setK k o' r
end L2.Tr
namespace L2.Tr
open PySem PySem.Spec PyProof.Rows L2 L2.Pc
open Sem (wp)
open AutoSeq1 (wpAny_loadPart')
/-! ### enumerate(tuple) -/
abbrev tupIt (t : Addr) : Obj := { cls := .type "tuple_iterator", data := .fields #[.ref t, .int 0 0] }
abbrev enumOb (i : Addr) : Obj := { cls := .type "enumerate", data := .fields #[.none, .bool false, .ref i, rawInt 0, .none, .none] }
theorem meets_enumT (t : Addr) (items : Array Value) (n : Nat) (dct : Option Addr) (sl : Array (Option Value)) :
    Meets (Builtin.«enumerate.__new__» ⟨[.type "enumerate", .ref t], []⟩) (fun _ R s => s.heap.get? t = some { cls := .type "tuple", dict := dct, data := .seq items n, slots := sl } ∧
      R (.ok (.ret (.ref (s.heap.push (tupIt t)).objs.size))) { s with heap := (s.heap.push (tupIt t)).push (enumOb s.heap.objs.size) }) :=
  .of_wp fun prog w A R s h => by
    obtain ⟨hp, gg, dd, tk, os⟩ := s
    obtain ⟨hl, h⟩ := h
    have hsb := sub_enumerate
    have hT : Heap.IsTuple (Shared.heap ⟨hp, gg, dd, tk, os⟩) t items := ⟨_, hl, rfl, n, rfl⟩
    wp_walk using wpAny_loadPart' hl
    refine wpAny_stack_any fun stk => wpAny_pure ?_
    split
    · rename_i c0 _ _ _ _ _
      cases (c0 == Value.type "enumerate") <;> (wp_walk using wpAny_loadPart' hl, wpAny_pyIter_tuple hT; exact ⟨_, rfl, h⟩)
    · wp_walk using wpAny_loadPart' hl, wpAny_pyIter_tuple hT
      exact ⟨_, rfl, h⟩
section
variable {prog : Program} {w : World} {A : Around} {E : Value → Shared → Prop} {s : Shared}
theorem call_enumT {t : Addr} {items : Array Value} {Q : Value → Shared → Prop} (hT : s.heap.IsTuple t items)
    (h : ∀ h', IsEnum h' (s.heap.objs.size + 1) s.heap.objs.size 0 .none → h'.IsTupleIter s.heap.objs.size t 0 → (∀ b o, s.heap.get? b = some o → h'.get? b = some o) → Q (.ref (s.heap.objs.size + 1)) { s with heap := h' }) :
    wpAny (model prog w) A (call (.type "enumerate") [.ref t]) Q E s := by
  obtain ⟨⟨c, dct, dt, sl⟩, hl, hc, n, hd⟩ := hT
  obtain rfl : c = .type "tuple" := hc
  obtain rfl : dt = .seq items n := hd
  have hcall := fun (R : Value → Shared → Prop) q => callType_new (Q := R) (A := A) (E := E) (s := s) (prog := prog) (w := w) F.called_enumerate (by decide) (F.typeCall_enumerate_1 _) (F.newCall_enumerate_1 _) (fun ob => F.args_object_init_2 ob _) F.entry_enumerate_new (meets_enumT t items n dct sl) q
  refine hcall Q ⟨hl, ?_⟩
  have hz : (s.heap.push (tupIt t)).objs.size = s.heap.objs.size + 1 := Heap.size_push ..
  show _ ∧ _
  rw [hz]
  have he : IsEnum ((s.heap.push (tupIt t)).push (enumOb s.heap.objs.size)) (s.heap.objs.size + 1) s.heap.objs.size 0 .none := by
    have q := Heap.get?_push_size (s.heap.push (tupIt t)) (o := enumOb s.heap.objs.size) rfl
    rw [hz] at q
    exact q
  exact ⟨⟨_, he, rfl⟩, h _ he ⟨_, Heap.get?_push_of_some _ (Heap.get?_push_size _ rfl), rfl, rfl⟩ fun b o q => Heap.get?_push_of_some _ (Heap.get?_push_of_some _ q)⟩
end
/-- the tuple at a as it stands at each turn, each item in a new pair -/
def IteT (K : PySem.W.Frag) (a : Addr) : It :=
  ⟨fun i H => ∃ (xs : List V) (x : V), SqT K H a xs ∧ xs[i]? = some x, fun i H v H' => ∃ T x, v = .ref T ∧ H T = none ∧ H' = upd H T (.tup [.int (i : Nat), x]) ∧ ∀ xs, SqT K H a xs → xs[i]? = some x, fun i H => ∃ xs : List V, SqT K H a xs ∧ xs.length ≤ i⟩
theorem turn_enumT {P : Program} {w : World} {K : PySem.W.Frag} {elts : List Expr} {kk : Nat} {tpos : Pos} (a e it : Addr) (hat : a ≠ it) :
    Turn P w K (.Tuple elts kk tpos) (IteT K a) [e, it] e (fun i h => (∃ old, IsEnum h e it ((i : Nat) : Int) old) ∧ h.IsTupleIter it a i ∧ e ≠ it ∧ e ≠ a) where
  mem := by simp
  obj := fun i h st b hb => by
    obtain ⟨⟨old, he⟩, ⟨o, ho, hc, hd⟩, _⟩ := st
    rcases List.mem_cons.mp hb with z | z
    · rw [z]
      exact ⟨_, he, fun v q => nomatch q⟩
    · rw [List.mem_singleton.mp z]
      exact ⟨o, ho, fun v q => by rw [hd] at q; cases q⟩
  keep := fun i h h' st k => ⟨⟨st.1.choose, k e (by simp) _ st.1.choose_spec⟩, st.2.1.at fun o q => k it (by simp) o q, st.2.2⟩
  item := by
    intro X hP hw hK hc i pins s σ H E I hf st hg
    subst hP hw hK
    obtain ⟨⟨old, he⟩, hit, hne, hea⟩ := st
    obtain ⟨xs, x, hq, hx⟩ := hg
    obtain ⟨its, rv, p, hz⟩ := I.tuple hq
    obtain ⟨u, hu, ru⟩ := rv.get hx
    have hel : e < s.heap.objs.size := Heap.lt_size he
    have hil : it < s.heap.objs.size := by
      obtain ⟨_, q, _⟩ := hit
      exact Heap.lt_size q
    have hi : i < its.toArray.size := by
      have := (List.getElem?_eq_some_iff.mp hu).1
      simpa using this
    refine wpAny_pyNext_enum_itemD (Draws.tuple (A := X.A.in1) (show X.A.in1.handled = none from I.ok.hd hc) it a hat its.toArray) he ⟨hit, p⟩ hi hne (by simp [hne, hea]) fun y h' tk hy ho hst' hT hsz hk => ?_
    have ey : y = u := by
      have h2 : its[i]? = some y := by simpa using hy
      rw [hu] at h2
      exact (Option.some.inj h2).symm
    subst ey
    refine ⟨_, rfl, wpAny_letOwnedTupleGo_enum (s := { s with heap := h', toks := tk + 1 }) ho fun h'' he' sb => ?_⟩
    have hT2 : h''.get? s.heap.objs.size = some { cls := .type "tuple", data := .seq #[.int i tk, y] } := (sb.2 _ (Nat.ne_of_gt hel)).trans hT
    have new : ObjOk X.prog X.w (upd H s.heap.objs.size (.tup [.int (i : Nat), x])) h'' s.heap.objs.size (.tup [.int (i : Nat), x]) :=
      ⟨by show 2 ≤ sizeLine; decide, [.int i tk, y], .cons ⟨_, rfl⟩ (.cons ru .nil), ⟨_, hT2, rfl, _, rfl⟩⟩
    have I1 : Inv X pins σ (upd H s.heap.objs.size (.tup [.int (i : Nat), x])) { s with heap := h'', toks := tk + 1 } :=
      I.turnedNew (ch := [e, it]) (fun b ob hb q => (sb.2 b (fun z => hb (by simp [z]))).trans (hk b ob (fun z => hb (by simp [z])) (fun z => hb (by simp [z])) q)) hf (Nat.le_refl _) new
    refine ⟨.ref s.heap.objs.size, _, I1, rfl, ⟨_, x, rfl, I.hok.fresh (Nat.le_refl _), rfl, fun ys hy => by rw [I.tuple_inj hy hq]; exact hx⟩, ⟨⟨y, ?_⟩, hst'.1.at fun o q => (sb.2 it (Ne.symm hne)).trans q, hne, hea⟩, fun b hb => ?_⟩
    · have e1 : ((i + 1 : Nat) : Int) = (i : Int) + 1 := by omega
      rw [e1]
      exact he'
    · have hb' : b < s.heap.objs.size := by
        rcases List.mem_cons.mp hb with z | z
        · rw [z]; exact hel
        · rw [List.mem_singleton.mp z]; exact hil
      rw [upd_ne (Nat.ne_of_lt hb')]
      exact (hf b hb).1
  done := by
    intro X hP hw hK hc i pins s σ H E I hf st hg
    subst hP hw hK
    obtain ⟨⟨old, he⟩, hit, hne, hea⟩ := st
    obtain ⟨xs, hq, hx⟩ := hg
    obtain ⟨its, rv, p, hz⟩ := I.tuple hq
    obtain ⟨f0, f1, f2, f3, f4, f5⟩ := hf it (by simp)
    have hl := rv.length
    have no : its.toArray[i]? = none := by simp; omega
    have D : Draws X.prog X.w X.A.in1 it [it, a] i (fun _ _ => False) (fun j h => j = i ∧ h.IsTupleIter it a j ∧ h.IsTuple a its.toArray) :=
      { live := fun _ _ st => st.2.1.elim fun o q => ⟨o, q.1⟩
        frame := fun _ _ _ st hk => ⟨st.1, st.2.1.at fun o q => hk it (by simp) o q, st.2.2.at fun o q => hk a (by simp) o q⟩
        item := fun j s Q E hj st hQ => absurd hj (by rw [st.1]; omega)
        done := fun s Q E st hE => wpAny_nextOf_tuple_end (show X.A.in1.handled = none from I.ok.hd hc) st.2.1 st.2.2 no hE }
    exact wpAny_pyNext_enum_endD D he ⟨rfl, hit, p⟩ fun h' eb => ⟨rfl, I.turned (t' := s.toks) (fun b o hb q => eb b o hb q) f0 f1 f3 f4 f5⟩
  self := fun A i s Q E st h => wpAny_pyIter_enum st.1.choose_spec h
def iEnumA (K : PySem.W.Frag) (ta : TA) : TI := fun σ H R => ta σ H fun vs H1 => ∃ a xs, vs = [.ref a] ∧ ((SqL K H1 a xs ∧ R (Ite K a) H1) ∨ (SqT K H1 a xs ∧ R (IteT K a) H1))
theorem pi_enumA {X : Cx} {e : Expr} {ta : TA} {p pos tpos : Pos} {elts : List Expr} {kk : Nat} (hg : Gl X "enumerate") (hm : X.mg "enumerate" = none) (ha : PA X [e] ta) (hs : starEach [e] X.env = [(false, eval e X.env)] := by rfl) :
    PI X (.Tuple elts kk tpos) (.Call (.Name "enumerate" p) [e] [] pos) (iEnumA X.K ta) := by
  refine ⟨fun pins s σ H R I h => ?_⟩
  refine Call_ (ld_blt I hg hm boot_enumerate (callWith_type1 (thn (ha.run pos pins s σ H _ I h) fun us s1 q0 => ?_) hs rfl))
  obtain ⟨vs, H1, I1, r1, a, xs, rfl, q1⟩ := q0
  cases r1 with
  | cons r rr =>
    cases rr
    cases r
    have fpo : ∀ b ∈ [s1.heap.objs.size + 1, s1.heap.objs.size], FpOk X pins H1 b := fun b hb => by
      have hle : s1.heap.objs.size ≤ b := by
        rcases List.mem_cons.mp hb with z | z
        · rw [z]; exact Nat.le_add_right _ _
        · rw [List.mem_singleton.mp z]; exact Nat.le_refl _
      exact I1.fpOk hle (I1.hok.fresh hle)
    rcases q1 with ⟨hq, q⟩ | ⟨hq, q⟩
    · obtain ⟨its, rv, p', hz⟩ := I1.list hq
      exact call_enumerate_list p'.isList fun h' he hit hsz hk => wpAny_pyIter_enum he
        ⟨s1.heap.objs.size + 1, [s1.heap.objs.size + 1, s1.heap.objs.size], _, _, H1, rfl, I1.kept (t' := s1.toks) hk, turn_enum a (s1.heap.objs.size + 1) s1.heap.objs.size, ⟨⟨.none, he⟩, hit, Nat.succ_ne_self _⟩, fpo, q⟩
    · obtain ⟨its, rv, p', hz⟩ := I1.tuple hq
      have hlt : a < s1.heap.objs.size := by
        obtain ⟨o, ho, _⟩ := p'
        exact Heap.lt_size ho
      exact call_enumT p' fun h' he hit hk => wpAny_pyIter_enum he
        ⟨s1.heap.objs.size + 1, [s1.heap.objs.size + 1, s1.heap.objs.size], _, _, H1, rfl, I1.kept (t' := s1.toks) hk, turn_enumT a (s1.heap.objs.size + 1) s1.heap.objs.size (Nat.ne_of_lt hlt), ⟨⟨.none, he⟩, hit, Nat.succ_ne_self _, fun z => Nat.lt_irrefl _ (Nat.lt_trans (Nat.lt_succ_self _) (show s1.heap.objs.size + 1 < s1.heap.objs.size from z ▸ hlt))⟩, fpo, q⟩
section
variable {X : Cx} {G : Gi} {W : WX} {c : Cf} {e : Expr} {ma : M (List D)} {p pos tpos : Pos} {elts : List Expr} {kk : Nat}
theorem srcs_enumT {a : Addr} {xs : List V} {ds : List D} (h1 : SqT G.K c.F a xs) (r1 : RpA G c.F c.al xs ds) : Srcs G (IteT G.K a) (numD 0 ds) c := fun st2 σ2 c2 rl g => by
  have k1 := rl.rdT (sqT_mr g.mo.mR h1)
  refine ⟨fun i d hd => ?_, xs, k1, by rw [numD_len, r1.len]; exact Nat.le_refl _⟩
  obtain ⟨dx, e1, rfl⟩ := numD_get ds 0 i hd
  obtain ⟨x, hx, rx⟩ := (r1.mo g.mo).get e1
  refine ⟨⟨xs, x, k1, hx⟩, fun w H' hw => ?_⟩
  obtain ⟨T, x', rfl, hT, rfl, q1⟩ := hw
  have := q1 xs k1; rw [hx] at this; cases this
  have := new_pair rl hT (.int ((0 + i : Nat) : Int)) rx
  rw [Nat.zero_add] at this ⊢
  exact this
def enumA (ds : List D) : Option (List D) := match ds with
  | [.lst xs] => some (numD 0 xs)
  | [.lsk xs] => some (numD 0 xs)
  | [.tup xs] => some (numD 0 xs)
  | [.tuk xs] => some (numD 0 xs)
  | _ => none
def mEnumA (ma : M (List D)) : M (List D) := bnd ma fun ds => ofO (enumA ds)
theorem xi_enumA (hK : X.K = G.K) (hg : Gl X "enumerate") (hm : X.mg "enumerate" = none) (ha : PA X [e] (tAs G W ma)) (hs : starEach [e] X.env = [(false, eval e X.env)] := by rfl) :
    PI X (.Tuple elts kk tpos) (.Call (.Name "enumerate" p) [e] [] pos) (tI G W (mEnumA ma)) := (pi_enumA hg hm ha hs).weak fun σ H R q => by
  rw [hK]
  unfold iEnumA
  refine q.seq0 _ (fun ds vs c c1 st1 r1 g1 p1 w => ?_)
  obtain ⟨l, e1, q⟩ := wp_ofO.mp w
  unfold enumA at e1
  split at e1
  · cases e1
    cases p1 with
    | cons ta ts =>
      cases ts
      obtain ⟨a', xs', rfl, k1, k2⟩ := lst_view ta rfl
      exact ⟨a', xs', rfl, .inl ⟨r1.rdL k1, q _ c1 r1 g1 (srcs_enum k1 k2)⟩⟩
  · cases e1
    cases p1 with
    | cons ta ts =>
      cases ts
      obtain ⟨a', xs', rfl, k1, k2⟩ := lst_view ta rfl
      exact ⟨a', xs', rfl, .inl ⟨r1.rdL k1, q _ c1 r1 g1 (srcs_enum k1 k2)⟩⟩
  · cases e1
    cases p1 with
    | cons ta ts =>
      cases ts
      obtain ⟨a', xs', rfl, k1, k2⟩ := tup_view ta rfl
      exact ⟨a', xs', rfl, .inr ⟨r1.rdT k1, q _ c1 r1 g1 (srcs_enumT k1 k2)⟩⟩
  · cases e1
    cases p1 with
    | cons ta ts =>
      cases ts
      obtain ⟨a', xs', rfl, k1, k2⟩ := tup_view ta rfl
      exact ⟨a', xs', rfl, .inr ⟨r1.rdT k1, q _ c1 r1 g1 (srcs_enumT k1 k2)⟩⟩
  · cases e1
end
/-! ### {x!r} of data -/
/-! ### len by an own __len__ -/
def intB : O → Option O
  | .fz (.int i) => if 0 ≤ i ∧ i < 4611686018427387904 then some (.fz (.int i)) else none
  | _ => none
def runN (tbl : List (Str × MF)) (g : D → Option O) (d : D) : M O := fun s => match insOf d with
  | some c => (match tbl.lookup c with
    | some mf => (match noExc (runF mf [d] s) with
      | .ok o s' => ofO (intB o) s'
      | _ => .no)
    | none => .no)
  | none => ofO (g d) s
def xSn (tbl : List (Str × MF)) (g : D → Option O) (md : M D) : M O := bnd md (runN tbl g)
end L2.Tr
namespace L2.Tr
open PySem PySem.Spec PyProof.Rows L2 L2.Pc
/-! ### repr of a tuple of own instances -/
section
variable {X : Cx} {G : Gi} {W : WX} {gb : Bool} {k : Nat} {tbl : List (Str × MF)} {md : M D} {x : Str} {p pos : Pos} {e : Expr}
/-- the texts of instances by their own methods -/
def reprsM (tbl : List (Str × MF)) : List D → Nat → M (List Str)
  | [], _ => ret []
  | d :: ds, n => fun s => match insOf d with
    | some c => (match tbl.lookup c with
      | some mf => (match noExc (runF mf [d] s) with
        | .ok (.fz (.str y)) s' => if n + (y.length + 2) ≤ 16777000 then (reprsM tbl ds (n + (y.length + 2)) s').bind fun ts => ret (y :: ts) else .no
        | _ => .no)
      | none => .no)
    | none => .no
def xReprT (tbl : List (Str × MF)) (md : M D) : M O := bnd md fun d => match d with
  | .tup ds => bnd (reprsM tbl ds 0) fun ts => ret (.fz (.str (tupleText ts)))
  | _ => fun _ => .no
end
end L2.Tr
namespace L2.Tr
open PySem PySem.Spec PyProof.Rows L2 L2.Pc
/-! ### dicts with tuples as keys -/
def keyOfD : D → Option Key
  | .int i => some (.inl i)
  | .str s => some (.inr s)
  | _ => none
def keysL : List D → Option (List Key)
  | [] => some []
  | d :: ds => match keyOfD d, keysL ds with
    | some k, some ks => some (k :: ks)
    | _, _ => none
def tkeyD : D → Option (List Key)
  | .tup ds => keysL ds
  | _ => none
def getTD (ks : List Key) : List (D × D) → Option D
  | [] => none
  | (d, x) :: r => if tkeyD d = some ks then some x else getTD ks r
def putTD (ks : List Key) (x : D) (kvs : List (D × D)) : List (D × D) :=
  if (kvs.any fun p => decide (tkeyD p.1 = some ks)) = true then kvs.map (fun p => if tkeyD p.1 = some ks then (p.1, x) else p) else kvs ++ [(.tup (ks.map kD), x)]
section
variable {X : Cx} {G : Gi} {W : WX} {e e2 : Expr} {i : Nat} {x : Str} {px pos pos' apos cpos : Pos} {mk md : M D}
def putTAt (i : Nat) (d k : D) : M Fl := fun s => match getP s i, tkeyD k with
  | some (.dcu kvs), some ks => if kvs.length < 16777216 then .ok .nx (putP s i (.dcu (putTD ks d kvs))) else .no
  | _, _ => .no
/-- d[k] = e, k a tuple -/
def sPutT (i : Nat) (mk md : M D) : M Fl := bnd md fun d s1 => match getP s1 i with
  | none => .no
  | some _ => (mk s1).bind fun k => putTAt i d k
/-- what a slot's dict holds -/
def dctS (s : S) (i : Nat) : Option (List (D × D)) := match getS s.env i with
  | some (.dcu kvs) => some kvs
  | some (.fz (.dcu kvs)) => some kvs
  | some (.fz (.cel n)) => (match getM s.mu n with
    | some (.dcu kvs) => some kvs
    | _ => none)
  | _ => none
/-- d.get(k, z), k a tuple -/
def xGetT (i : Nat) (mk md : M D) : M O := fun s => match dctS s i with
  | none => .no
  | some _ => (mk s).bind fun k => bnd md fun z s2 => match dctS s2 i, tkeyD k with
    | some kvs, some ks => .ok (.fz ((getTD ks kvs).getD z)) s2
    | _, _ => .no
end
end L2.Tr
namespace L2.Tr
open PySem PySem.Spec PyProof.Rows L2 L2.Pc
open Sem (wp)
open AutoSeq1 (wpAny_loadPart')
/-! ### a, b = (.., ..) by a tuple in between, what is owned kept -/
end L2.Tr
namespace L2.Tr
open PySem PySem.Spec PyProof.Rows L2 L2.Pc
/-! ### dicts with numbers and texts as keys -/
def getKD (k : Key) : List (D × D) → Option D
  | [] => none
  | (d, x) :: r => if keyOfD d = some k then some x else getKD k r
def putKD (k : Key) (x : D) (kvs : List (D × D)) : List (D × D) :=
  if (kvs.any fun p => decide (keyOfD p.1 = some k)) = true then kvs.map (fun p => if keyOfD p.1 = some k then (p.1, x) else p) else kvs ++ [(kD k, x)]
section
variable {X : Cx} {G : Gi} {W : WX} {e e2 : Expr} {i : Nat} {x : Str} {px pos pos' apos cpos : Pos} {mk md : M D}
def putKAt (i : Nat) (d k : D) : M Fl := fun s => match getP s i, keyOfD k with
  | some (.dct kvs), some ks => if kvs.length < 16777216 then .ok .nx (putP s i (.dct (putKD ks d kvs))) else .no
  | _, _ => .no
/-- d[k] = e, k a number or a text -/
def sPutK (i : Nat) (mk md : M D) : M Fl := bnd md fun d s1 => match getP s1 i with
  | none => .no
  | some _ => (mk s1).bind fun k => putKAt i d k
/-- what a slot's dict holds -/
def dctK (s : S) (i : Nat) : Option (List (D × D)) := match getS s.env i with
  | some (.dct kvs) => some kvs
  | some (.fz (.dct kvs)) => some kvs
  | some (.fz (.cel n)) => (match getM s.mu n with
    | some (.dct kvs) => some kvs
    | _ => none)
  | _ => none
/-- d[k], k a number or a text -/
def xIxK (i : Nat) (mk : M D) : M O := fun s => match dctK s i with
  | none => .no
  | some _ => (mk s).bind fun k s2 => match dctK s2 i, keyOfD k with
    | some kvs, some ks => ofO ((getKD ks kvs).map .fz) s2
    | _, _ => .no
/-- d[k], k a tuple -/
def xIxT (i : Nat) (mk : M D) : M O := fun s => match dctS s i with
  | none => .no
  | some _ => (mk s).bind fun k s2 => match dctS s2 i, tkeyD k with
    | some kvs, some ks => ofO ((getTD ks kvs).map .fz) s2
    | _, _ => .no
/-- k in d, k not in d -/
def xInK (neg : Bool) (i : Nat) (mk : M D) : M O := bnd mk fun k s => match dctK s i, keyOfD k with
  | some kvs, some ks => .ok (.fz (.bl ((getKD ks kvs).isSome != neg))) s
  | _, _ => .no
def xInT (neg : Bool) (i : Nat) (mk : M D) : M O := bnd mk fun k s => match dctS s i, tkeyD k with
  | some kvs, some ks => .ok (.fz (.bl ((getTD ks kvs).isSome != neg))) s
  | _, _ => .no
/-- list(d), d a dict that stands in a slot -/
def xLsK (i : Nat) : M O := fun s => match getP s i with
  | some (.dct kvs) => .ok (.lst (kvs.map (·.1))) s
  | _ => .no
end
end L2.Tr
namespace L2.Tr
open PySem PySem.Spec PyProof.Rows L2 L2.Pc
/-! ### sorted lists -/
section
variable {α : Type}
def insB (lt : α → α → Bool) (x : α) : List α → List α
  | [] => [x]
  | y :: l => if lt y x = true then y :: insB lt x l else x :: y :: l
def isortB (lt : α → α → Bool) : List α → List α
  | [] => []
  | x :: l => insB lt x (isortB lt l)
end
def ltI (a b : Int) : Bool := decide (a < b)
def intD' : D → Option Int
  | .int a => some a
  | _ => none
def allM {α : Type} (f : D → Option α) : List D → Option (List α)
  | [] => some []
  | d :: ds => match f d, allM f ds with
    | some x, some xs => some (x :: xs)
    | _, _ => none
section
variable {G : Gi}
/-- xs[::-1] -/
def revD : D → Option O
  | .lst ds => some (.lst ds.reverse)
  | .lsk ds => some (.lst ds.reverse)
  | _ => none
end
section
variable {X : Cx} {G : Gi} {W : WX} {e : Expr} {m : M O} {k : Nat} {p1 p2 p3 pos : Pos}
/-- range(i, j, -1) -/
def rngC (i : Int) (n : Nat) : List D := (List.range n).map fun k : Nat => .int (i + (k : Int) * (-1))
def rng3 : List D → Option (List D)
  | [.int i, .int j, .int c] => if (-(2 ^ 62) ≤ i ∧ i < 2 ^ 62) ∧ (-(2 ^ 62) ≤ j ∧ j < 2 ^ 62) ∧ c = -1 then some (rngC i (i - j).toNat) else none
  | _ => none
end
end L2.Tr
namespace L2.Tr
open PySem PySem.Spec PyProof.Rows L2 L2.Pc
/-! ### a dict that is walked: locked for so long -/
def nf : HO → Bool
  | .frz _ _ => false
  | _ => true
/-- the keys of a dict that stands frozen in a slot -/
def mKeysT (i : Nat) : M (List D) := fun s => match getS s.env i with
  | some (.fz (.dcu kvs)) => .ok (kvs.map (·.1)) s
  | _ => .no
def frzS (s : S) (i : Nat) : S := match getS s.env i with
  | some (.dcu kvs) => ⟨setS s.env i (some (.fz (.dcu kvs))), s.mu⟩
  | _ => s
/-- [e for t in d if c], d a dict with tuples as keys that stands in a slot -/
def xLcT (i : Nat) (vs : List Nat) (t : MT) (mt : M Bool) (me : M D) : M O := fun s => xLc vs (mKeysT i) t mt me (frzS s i)
/-! ### range(i, j, -1) -/
section
variable {X : Cx} {G : Gi} {W : WX} {ma : M (List D)} {tg a b e3 : Expr} {p pos : Pos}
def mRng3 (ma : M (List D)) : M (List D) := bnd ma fun ds => ofO (rng3 ds)
end
end L2.Tr
namespace L2.Tr
open PySem L2 L2.Pc
/-! ### plain data compared -/
/-! ### sorted pairs -/
/-! ### loops and comprehensions -/
end L2.Tr
namespace L2.Tr
open PySem PySem.Spec PyProof.Rows L2 L2.Pc
variable {G : Gi} {F : Hp} {al : List Addr}
/-- {k: e}, both read quietly -/
def xOneK (fk fv : S → Option D) : M O := fun s => match fk s, fv s with
  | some k, some d => (match keyOfD k with
    | some _ => .ok (.dct [(k, d)]) s
    | none => .no)
  | _, _ => .no
/-! ### texts by their codes -/
abbrev tl (s : Str) : List Nat := s.cps.toList
theorem ix_str {a : Str} {i : Nat} {c : Nat} (hl : a.length ≤ 16777216) (h : (tl a)[i]? = some c) : ixD (.str a) (.int (i : Int)) = some (.fz (.str ⟨#[c]⟩)) := by
  rw [st_ixs, if_pos hl, atN, h]; rfl
/-! ### dicts with numbers as keys -/
end L2.Tr
namespace L2.Tr
open PySem PySem.Spec PyProof.Rows L2 L2.Pc
/-! ### readings by what is asked behind -/
/-- what code gives, not to be unfolded -/
@[irreducible] def wv {α : Type} (r : Tr.R α) (Q : α → S → Prop) (E : Exc → S → Prop) : Prop := wp r Q E
theorem wv_eq {α : Type} {r : Tr.R α} {Q : α → S → Prop} {E : Exc → S → Prop} : wv r Q E = wp r Q E := by unfold wv; rfl
theorem wv_mono {α : Type} {r : Tr.R α} {Q Q' : α → S → Prop} {E E' : Exc → S → Prop} (h : wv r Q E) (q : ∀ a s, Q a s → Q' a s) (e : ∀ x s, E x s → E' x s) : wv r Q' E' := by
  rw [wv_eq] at *; exact wp_mono h q e
abbrev noQ : Exc → S → Prop := fun _ _ => False
section
variable {α β : Type} {Q : α → S → Prop} {E : Exc → S → Prop} {env : List (Option O)} {mu : List O}
theorem w_ok {a : α} {s : S} (h : Q a s) : wv (.ok a s) Q E := by
  simp only [wv_eq] at *
  exact h
theorem w_id {r : Tr.R α} (h : wv r Q E) : wv r Q E := by
  simp only [wv_eq] at *
  exact h
theorem w_rw {r r' : Tr.R α} (e : r = r') (h : wv r' Q E) : wv r Q E := by simp only [wv_eq] at *; rw [e]; exact h
theorem w_exc {x : Exc} {s : S} (h : E x s) : wv (.exc x s) Q E := by
  simp only [wv_eq] at *
  exact h
theorem w_bd {r : Tr.R β} {f : β → M α} (h : wv r (fun a s => wv (f a s) Q E) E) : wv (r.bind f) Q E := by
  simp only [wv_eq] at *
  exact wp_bind.mpr h
theorem w_nox {r : Tr.R α} (h : wv r Q noQ) : wv (noExc r) Q E := by
  simp only [wv_eq] at *
  cases r with
  | ok a s => exact h
  | exc x s => exact h.elim
  | no => exact h
theorem w_to {r : Tr.R α} {a : α} {s : S} (e : r = .ok a s) (h : Q a s) : wv r Q E := by simp only [wv_eq] at *; rw [e]; exact h
theorem w_ex {r : Tr.R α} (h : wv r Q noQ) : ∃ a s, r = .ok a s ∧ Q a s := by
  simp only [wv_eq] at *
  cases r with
  | ok a s => exact ⟨a, s, rfl, h⟩
  | exc x s => exact h.elim
  | no => exact h.elim
theorem w_eq {r : Tr.R α} {a : α} {s : S} (h : wv r (fun b s' => b = a ∧ s' = s) noQ) : r = .ok a s := by
  obtain ⟨b, s', e, rfl, rfl⟩ := w_ex h
  exact e
theorem w_imp0 {r : Tr.R α} {Q' : α → S → Prop} (h : wv r Q' noQ) (q : ∀ a s, Q' a s → Q a s) : wv r Q E := by
  exact wv_mono h q fun _ _ z => z.elim
end
section
variable {Q : O → S → Prop} {E : Exc → S → Prop} {env : List (Option O)} {mu : List O}
theorem w_run {m : MF} {ds : List D} (h : wv (m ds mu) (fun o s => Q o ⟨env, s.mu⟩) (fun x s => E x ⟨env, s.mu⟩)) : wv (runF m ds ⟨env, mu⟩) Q E := by
  simp only [wv_eq] at *
  rw [st_runF]
  cases e : m ds mu with
  | ok o s => rw [e] at h; exact h
  | exc x s => rw [e] at h; exact h
  | no => rw [e] at h; exact h
theorem w_runE {m : MF} {ds : List D} {o : O} {s : S} (e : m ds mu = .ok o s) (h : Q o ⟨env, s.mu⟩) : wv (runF m ds ⟨env, mu⟩) Q E := by
  exact w_run (w_to e h)
theorem run_ok {m : MF} {ds : List D} {o : O} {s : S} (e : m ds mu = .ok o s) : runF m ds ⟨env, mu⟩ = .ok o ⟨env, s.mu⟩ := by rw [st_runF, e]
/-- what is asked behind a def's body -/
def rtQ (Q : O → S → Prop) : Fl → S → Prop
  | .rt o, s => Q o ⟨[], s.mu⟩
  | .nx, s => Q (.fz .non) ⟨[], s.mu⟩
  | _, _ => False
theorem rtQ_rt {o : O} {s : S} (h : Q o ⟨[], s.mu⟩) : rtQ Q (.rt o) s := h
theorem rtQ_nx {s : S} (h : Q (.fz .non) ⟨[], s.mu⟩) : rtQ Q .nx s := h
theorem w_fnM {N : Nat} {body : M Fl} {ds : List D} (h : wv (body ⟨env0 N ds, mu⟩) (rtQ Q) (fun x s => E x ⟨[], s.mu⟩)) : wv (fnM N body ds mu) Q E := by
  simp only [wv_eq] at *
  rw [st_fnM]
  cases e : body ⟨env0 N ds, mu⟩ with
  | ok f s =>
    rw [e] at h
    cases f with
    | rt o => exact h
    | nx => exact h
    | bk => exact h.elim
    | ct => exact h.elim
  | exc x s => rw [e] at h; exact h
  | no => rw [e] at h; exact h
theorem fn_wv {N : Nat} {body : M Fl} {m : MF} (hm : m = fnM N body) {ds : List D} (h : wv (body ⟨env0 N ds, mu⟩) (rtQ Q) (fun x s => E x ⟨[], s.mu⟩)) : wv (m ds mu) Q E := by rw [hm]; exact w_fnM h
end
/-! ### loops -/
section
variable {E : Exc → S → Prop} {env : List (Option O)} {mu : List O}
/-- what is asked behind a turn -/
def fQ (I : S → Prop) (Q : Fl → S → Prop) : Fl → S → Prop
  | .nx, s => I s
  | .ct, s => I s
  | .bk, s => Q .nx s
  | .rt o, s => Q (.rt o) s
theorem fQ_nx {I : S → Prop} {Q : Fl → S → Prop} {s : S} (h : I s) : fQ I Q .nx s := h
theorem fQ_ct {I : S → Prop} {Q : Fl → S → Prop} {s : S} (h : I s) : fQ I Q .ct s := h
theorem fQ_bk {I : S → Prop} {Q : Fl → S → Prop} {s : S} (h : Q .nx s) : fQ I Q .bk s := h
theorem fQ_rt {I : S → Prop} {Q : Fl → S → Prop} {s : S} {o : O} (h : Q (.rt o) s) : fQ I Q (.rt o) s := h
theorem w_for {α : Type} {Q : Fl → S → Prop} {t : MT} {mb : M Fl} {enc : α → D} {l : List α} {s : S} (I : List α → List α → S → Prop) (h0 : I [] l s)
    (hs : ∀ done a todo s, l = done ++ a :: todo → I done (a :: todo) s → ∃ s1, t (enc a) s = some s1 ∧ wv (mb s1) (fQ (I (done ++ [a]) todo) Q) E) (hQ : ∀ s, I l [] s → Q .nx s) : wv (forL t mb (l.map enc) s) Q E := by
  suffices g : ∀ (todo done : List α) (s : S), l = done ++ todo → I done todo s → wv (forL t mb (todo.map enc) s) Q E from g l [] s rfl h0
  intro todo
  induction todo with
  | nil => intro done s e h; rw [List.append_nil] at e; subst e; exact w_ok (hQ s h)
  | cons a todo ih =>
    intro done s e h
    obtain ⟨s1, e1, w1⟩ := hs done a todo s e h
    obtain ⟨env, mu⟩ := s
    rw [List.map_cons, st_for1, e1]
    refine w_bd (wv_mono w1 (fun f s2 w2 => ?_) fun _ _ z => z)
    cases f with
    | nx => exact ih (done ++ [a]) s2 (by rw [e, List.append_assoc]; rfl) w2
    | ct => exact ih (done ++ [a]) s2 (by rw [e, List.append_assoc]; rfl) w2
    | bk => exact w_ok w2
    | rt o => exact w_ok w2
/-- a loop over anything, by the things left -/
theorem w_forD {Q : Fl → S → Prop} {t : MT} {mb : M Fl} {l : List D} {s : S} (I : List D → S → Prop) (h0 : I l s)
    (hs : ∀ a todo s, I (a :: todo) s → ∃ s1, t a s = some s1 ∧ wv (mb s1) (fQ (I todo) Q) E) (hQ : ∀ s, I [] s → Q .nx s) : wv (forL t mb l s) Q E := by
  have := w_for (α := D) (enc := id) (l := l) (E := E) (Q := Q) (t := t) (mb := mb) (s := s) (fun _ todo s => I todo s) h0 (fun _ a todo s _ h => hs a todo s h) hQ
  rwa [List.map_id] at this
/-! ### comprehensions -/
/-- what is asked behind a comprehension's element -/
def lcE (vs : List Nat) (env : List (Option O)) (P : D → List O → Prop) (y : D) (s : S) : Prop := freeE s.env vs = true ∧ wipeE s.env vs = env ∧ P y s.mu
/-- .. behind its condition -/
def lcC (vs : List Nat) (env : List (Option O)) (me : M D) (P : Option D → List O → Prop) (b : Bool) (s : S) : Prop :=
  if b = true then wv (me s) (lcE vs env fun y mu => P (some y) mu) noQ else freeE s.env vs = true ∧ wipeE s.env vs = env ∧ P none s.mu
theorem lcC_t {vs : List Nat} {env : List (Option O)} {me : M D} {P : Option D → List O → Prop} {s : S} (h : wv (me s) (lcE vs env fun y mu => P (some y) mu) noQ) : lcC vs env me P true s := by
  exact h
/-- a turn of a comprehension -/
def lcQ (vs : List Nat) (t : MT) (mt : M Bool) (me : M D) (env : List (Option O)) (mu : List O) (d : D) (P : Option D → List O → Prop) : Prop :=
  ∃ s1, t d ⟨env, mu⟩ = some s1 ∧ wv (mt s1) (lcC vs env me P) noQ
theorem lcQ_of {vs : List Nat} {t : MT} {mt : M Bool} {me : M D} {env : List (Option O)} {mu : List O} {d : D} {P : Option D → List O → Prop} {s1 : S} (e : t d ⟨env, mu⟩ = some s1) (h : wv (mt s1) (lcC vs env me P) noQ) : lcQ vs t mt me env mu d P := by
  exact ⟨s1, e, h⟩
theorem w_lcI {α : Type} {Q : List D → S → Prop} {vs : List Nat} {t : MT} {mt : M Bool} {me : M D} {enc : α → D} {l : List α} (I : List α → List α → List D → List O → Prop) (h0 : I [] l [] mu)
    (hs : ∀ done a todo ys mu, l = done ++ a :: todo → I done (a :: todo) ys mu → lcQ vs t mt me env mu (enc a) (fun oy mu' => I (done ++ [a]) todo (ys ++ oy.toList) mu')) (hQ : ∀ ys mu', I l [] ys mu' → Q ys ⟨env, mu'⟩) :
    wv (lcL vs t mt me (l.map enc) ⟨env, mu⟩) Q E := by
  suffices g : ∀ (todo done : List α) (ys : List D) (mu : List O), l = done ++ todo → I done todo ys mu → wv (lcL vs t mt me (todo.map enc) ⟨env, mu⟩) (fun zs s => ∃ mu', s = ⟨env, mu'⟩ ∧ I l [] (ys ++ zs) mu') noQ from
    w_imp0 (g l [] [] mu rfl h0) fun zs s h => by obtain ⟨mu', rfl, h⟩ := h; exact hQ _ _ h
  intro todo
  induction todo with
  | nil => intro done ys mu e h; rw [List.append_nil] at e; subst e; exact w_ok ⟨mu, rfl, by rw [List.append_nil]; exact h⟩
  | cons a todo ih =>
    intro done ys mu e h
    have w := hs done a todo ys mu e h
    obtain ⟨s1, e1, w⟩ := w
    rw [List.map_cons, st_lc1]
    rw [e1]
    · refine w_bd (wv_mono w (fun b s2 w2 => ?_) fun _ _ z => z)
      obtain ⟨env2, mu2⟩ := s2
      rw [st_lcT]
      cases b with
      | false =>
        unfold lcC at w2
        rw [if_neg (by decide)] at w2
        obtain ⟨f1, f2, f3⟩ := w2
        rw [if_neg (by decide), if_pos f1, f2]
        have := ih (done ++ [a]) (ys ++ []) mu2 (by rw [e, List.append_assoc]; rfl) f3
        rw [List.append_nil] at this
        exact this
      | true =>
        rw [if_pos rfl]
        refine w_bd (wv_mono w2 (fun y s3 w3 => ?_) fun _ _ z => z)
        obtain ⟨env3, mu3⟩ := s3
        obtain ⟨f1, f2, f3⟩ := w3
        rw [st_lcY, if_pos f1]
        dsimp only at f2
        rw [f2]
        refine w_bd (wv_mono (ih (done ++ [a]) (ys ++ [y]) mu3 (by rw [e, List.append_assoc]; rfl) f3) (fun zs s4 w4 => ?_) fun _ _ z => z)
        obtain ⟨mu', rfl, w4⟩ := w4
        rw [List.append_assoc] at w4
        exact w_ok ⟨mu', rfl, w4⟩
/-- each thing gives one, nothing is changed -/
theorem w_lcm {α : Type} {Q : List D → S → Prop} {vs : List Nat} {t : MT} {mt : M Bool} {me : M D} {enc : α → D} {l : List α} (f : α → D)
    (hs : ∀ a ∈ l, lcQ vs t mt me env mu (enc a) (fun oy mu' => oy = some (f a) ∧ mu' = mu)) (hQ : Q (l.map f) ⟨env, mu⟩) : wv (lcL vs t mt me (l.map enc) ⟨env, mu⟩) Q E := by
  refine w_lcI (fun done _ ys mu' => ys = done.map f ∧ mu' = mu) ⟨rfl, rfl⟩ (fun done a todo ys mu' e h => ?_) fun ys mu' h => by obtain ⟨rfl, rfl⟩ := h; exact hQ
  obtain ⟨rfl, rfl⟩ := h
  have ma : a ∈ l := by rw [e]; exact List.mem_append_right _ List.mem_cons_self
  obtain ⟨s1, e1, w⟩ := hs a ma
  · refine ⟨s1, e1, wv_mono w (fun b s2 w2 => ?_) fun _ _ z => z⟩
    cases b with
    | false => obtain ⟨_, _, h, _⟩ := w2; cases h
    | true => exact wv_mono w2 (fun y s3 ⟨f1, f2, f3, f4⟩ => ⟨f1, f2, by cases f3; rw [List.map_append]; rfl, f4⟩) fun _ _ z => z
/-- no condition -/
theorem w_lcx {α : Type} {Q : List D → S → Prop} {vs : List Nat} {t : MT} {me : M D} {enc : α → D} {l : List α} (f : α → D)
    (hs : ∀ a ∈ l, ∃ s1, t (enc a) ⟨env, mu⟩ = some s1 ∧ wv (me s1) (lcE vs env fun y mu' => y = f a ∧ mu' = mu) noQ) (hQ : Q (l.map f) ⟨env, mu⟩) : wv (lcL vs t (Tr.ret true) me (l.map enc) ⟨env, mu⟩) Q E :=
  w_lcm f (fun a ha => by
    obtain ⟨s1, e1, w⟩ := hs a ha
    exact lcQ_of e1 (w_ok (lcC_t (wv_mono w (fun y s h => ⟨h.1, h.2.1, by rw [h.2.2.1], h.2.2.2⟩) fun _ _ z => z)))) hQ
end
/-! ### loops by their number -/
section
variable {E : Exc → S → Prop} {env : List (Option O)} {mu : List O}
theorem w_forI {α : Type} {Q : Fl → S → Prop} {t : MT} {mb : M Fl} {enc : α → D} {l : List α} {s : S} (I : Nat → S → Prop) (h0 : I 0 s)
    (hs : ∀ k a s, l[k]? = some a → I k s → ∃ s1, t (enc a) s = some s1 ∧ wv (mb s1) (fQ (I (k + 1)) Q) E) (hQ : ∀ s, I l.length s → Q .nx s) : wv (forL t mb (l.map enc) s) Q E :=
  w_for (fun done _ s => I done.length s) h0 (fun done a todo s e h => by
    obtain ⟨s1, e1, w⟩ := hs done.length a s (by rw [e, List.getElem?_append_right (Nat.le_refl _), Nat.sub_self]; rfl) h
    exact ⟨s1, e1, by rw [List.length_append]; exact w⟩) hQ
theorem w_rng {Q : Fl → S → Prop} {t : MT} {mb : M Fl} {i : Int} {n : Nat} {s : S} (I : Nat → S → Prop) (h0 : I 0 s)
    (hs : ∀ k s, k < n → I k s → ∃ s1, t (.int (i + (k : Int))) s = some s1 ∧ wv (mb s1) (fQ (I (k + 1)) Q) E) (hQ : ∀ s, I n s → Q .nx s) : wv (forL t mb (rngL i n) s) Q E :=
  w_forI I h0 (fun k a s e h => by
    have hk : k < n := by
      rcases Nat.lt_or_ge k n with z | z
      · exact z
      · rw [List.getElem?_eq_none (by rw [List.length_range]; exact z)] at e; cases e
    rw [List.getElem?_range hk] at e
    cases e
    exact hs k s hk h) (by rw [List.length_range]; exact hQ)
theorem w_lcr {Q : List D → S → Prop} {vs : List Nat} {t : MT} {me : M D} {i : Int} {n : Nat} (f : Nat → D)
    (hs : ∀ k < n, ∃ s1, t (.int (i + (k : Int))) ⟨env, mu⟩ = some s1 ∧ wv (me s1) (lcE vs env fun y mu' => y = f k ∧ mu' = mu) noQ) (hQ : Q ((List.range n).map f) ⟨env, mu⟩) : wv (lcL vs t (Tr.ret true) me (rngL i n) ⟨env, mu⟩) Q E :=
  w_lcx f (fun k hk => hs k (List.mem_range.mp hk)) hQ
end
/-! ### steps of dicts -/
section
variable {env : List (Option O)} {mu : List O} {neg : Bool} {i : Nat} {mk md : M D} {kvs : List (D × D)} {j a b : Int} {x : Str} {d : D}
def inKK (neg : Bool) (i : Nat) (k : D) : M O := fun s => match dctK s i, keyOfD k with
  | some kvs, some ks => .ok (.fz (.bl ((getKD ks kvs).isSome != neg))) s
  | _, _ => .no
def inTK (neg : Bool) (i : Nat) (k : D) : M O := fun s => match dctS s i, tkeyD k with
  | some kvs, some ks => .ok (.fz (.bl ((getTD ks kvs).isSome != neg))) s
  | _, _ => .no
def ixKK (i : Nat) (k : D) : M O := fun s => match dctK s i, keyOfD k with
  | some kvs, some ks => ofO ((getKD ks kvs).map .fz) s
  | _, _ => .no
def ixTK (i : Nat) (k : D) : M O := fun s => match dctS s i, tkeyD k with
  | some kvs, some ks => ofO ((getTD ks kvs).map .fz) s
  | _, _ => .no
def putKK (i : Nat) (mk : M D) (d : D) : M Fl := fun s1 => match getP s1 i with
  | none => .no
  | some _ => (mk s1).bind fun k => putKAt i d k
def putTK (i : Nat) (mk : M D) (d : D) : M Fl := fun s1 => match getP s1 i with
  | none => .no
  | some _ => (mk s1).bind fun k => putTAt i d k
def getTK (i : Nat) (k z : D) : M O := fun s => match dctS s i, tkeyD k with
  | some kvs, some ks => .ok (.fz ((getTD ks kvs).getD z)) s
  | _, _ => .no
theorem sk_inK : xInK neg i mk ⟨env, mu⟩ = (mk ⟨env, mu⟩).bind (inKK neg i) := rfl
theorem sk_inT : xInT neg i mk ⟨env, mu⟩ = (mk ⟨env, mu⟩).bind (inTK neg i) := rfl
theorem sk_inKi : inKK neg i (.int j) ⟨env, mu⟩ = (match dctK ⟨env, mu⟩ i with | some kvs => .ok (.fz (.bl ((getKD (.inl j) kvs).isSome != neg))) ⟨env, mu⟩ | none => .no) := by unfold inKK; cases dctK ⟨env, mu⟩ i <;> rfl
theorem sk_inKs : inKK neg i (.str x) ⟨env, mu⟩ = (match dctK ⟨env, mu⟩ i with | some kvs => .ok (.fz (.bl ((getKD (.inr x) kvs).isSome != neg))) ⟨env, mu⟩ | none => .no) := by unfold inKK; cases dctK ⟨env, mu⟩ i <;> rfl
theorem sk_inT2 : inTK neg i (.tup [.int a, .int b]) ⟨env, mu⟩ = (match dctS ⟨env, mu⟩ i with | some kvs => .ok (.fz (.bl ((getTD [.inl a, .inl b] kvs).isSome != neg))) ⟨env, mu⟩ | none => .no) := by unfold inTK; cases dctS ⟨env, mu⟩ i <;> rfl
theorem sk_dctK : dctK ⟨env, mu⟩ i = (match getS env i with | some (.dct kvs) => some kvs | some (.fz (.dct kvs)) => some kvs | some (.fz (.cel n)) => (match getM mu n with | some (.dct kvs) => some kvs | _ => none) | _ => none) := rfl
theorem sk_dctS : dctS ⟨env, mu⟩ i = (match getS env i with | some (.dcu kvs) => some kvs | some (.fz (.dcu kvs)) => some kvs | some (.fz (.cel n)) => (match getM mu n with | some (.dcu kvs) => some kvs | _ => none) | _ => none) := rfl
theorem sk_ixK : xIxK i mk ⟨env, mu⟩ = (match dctK ⟨env, mu⟩ i with | some _ => (mk ⟨env, mu⟩).bind (ixKK i) | none => .no) := by unfold xIxK; cases dctK ⟨env, mu⟩ i <;> rfl
theorem sk_ixT : xIxT i mk ⟨env, mu⟩ = (match dctS ⟨env, mu⟩ i with | some _ => (mk ⟨env, mu⟩).bind (ixTK i) | none => .no) := by unfold xIxT; cases dctS ⟨env, mu⟩ i <;> rfl
theorem sk_ixKi : ixKK i (.int j) ⟨env, mu⟩ = (match dctK ⟨env, mu⟩ i with | some kvs => ofO ((getKD (.inl j) kvs).map .fz) ⟨env, mu⟩ | none => .no) := by unfold ixKK; cases dctK ⟨env, mu⟩ i <;> rfl
theorem sk_ixKs : ixKK i (.str x) ⟨env, mu⟩ = (match dctK ⟨env, mu⟩ i with | some kvs => ofO ((getKD (.inr x) kvs).map .fz) ⟨env, mu⟩ | none => .no) := by unfold ixKK; cases dctK ⟨env, mu⟩ i <;> rfl
theorem sk_ixT2 : ixTK i (.tup [.int a, .int b]) ⟨env, mu⟩ = (match dctS ⟨env, mu⟩ i with | some kvs => ofO ((getTD [.inl a, .inl b] kvs).map .fz) ⟨env, mu⟩ | none => .no) := by unfold ixTK; cases dctS ⟨env, mu⟩ i <;> rfl
theorem sk_putK : sPutK i mk md ⟨env, mu⟩ = (md ⟨env, mu⟩).bind (putKK i mk) := rfl
theorem sk_putT : sPutT i mk md ⟨env, mu⟩ = (md ⟨env, mu⟩).bind (putTK i mk) := rfl
theorem sk_putKK : putKK i mk d ⟨env, mu⟩ = (match getP ⟨env, mu⟩ i with | none => .no | some _ => (mk ⟨env, mu⟩).bind fun k => putKAt i d k) := rfl
theorem sk_putTK : putTK i mk d ⟨env, mu⟩ = (match getP ⟨env, mu⟩ i with | none => .no | some _ => (mk ⟨env, mu⟩).bind fun k => putTAt i d k) := rfl
theorem sk_putKi : putKAt i d (.int j) ⟨env, mu⟩ = (match getP ⟨env, mu⟩ i with | some (.dct kvs) => if kvs.length < 16777216 then .ok .nx (putP ⟨env, mu⟩ i (.dct (putKD (.inl j) d kvs))) else .no | _ => .no) := by unfold putKAt; cases getP ⟨env, mu⟩ i with | none => rfl | some o => cases o <;> rfl
theorem sk_putKs : putKAt i d (.str x) ⟨env, mu⟩ = (match getP ⟨env, mu⟩ i with | some (.dct kvs) => if kvs.length < 16777216 then .ok .nx (putP ⟨env, mu⟩ i (.dct (putKD (.inr x) d kvs))) else .no | _ => .no) := by unfold putKAt; cases getP ⟨env, mu⟩ i with | none => rfl | some o => cases o <;> rfl
theorem sk_putT2 : putTAt i d (.tup [.int a, .int b]) ⟨env, mu⟩ = (match getP ⟨env, mu⟩ i with | some (.dcu kvs) => if kvs.length < 16777216 then .ok .nx (putP ⟨env, mu⟩ i (.dcu (putTD [.inl a, .inl b] d kvs))) else .no | _ => .no) := by unfold putTAt; cases getP ⟨env, mu⟩ i with | none => rfl | some o => cases o <;> rfl
theorem sk_lsK : xLsK i ⟨env, mu⟩ = (match getP ⟨env, mu⟩ i with | some (.dct kvs) => .ok (.lst (kvs.map (·.1))) ⟨env, mu⟩ | _ => .no) := rfl
theorem sk_getT : xGetT i mk md ⟨env, mu⟩ = (match dctS ⟨env, mu⟩ i with | some _ => (mk ⟨env, mu⟩).bind fun k => bnd md fun z => getTK i k z | none => .no) := by unfold xGetT; cases dctS ⟨env, mu⟩ i <;> rfl
theorem sk_getT2 : getTK i (.tup [.int a, .int b]) d ⟨env, mu⟩ = (match dctS ⟨env, mu⟩ i with | some kvs => .ok (.fz ((getTD [.inl a, .inl b] kvs).getD d)) ⟨env, mu⟩ | none => .no) := by unfold getTK; cases dctS ⟨env, mu⟩ i <;> rfl
theorem sk_oneK {fk fv : S → Option D} : xOneK fk fv ⟨env, mu⟩ = (match fk ⟨env, mu⟩, fv ⟨env, mu⟩ with | some k, some d => (match keyOfD k with | some _ => .ok (.dct [(k, d)]) ⟨env, mu⟩ | none => .no) | _, _ => .no) := rfl
theorem sk_kyi : keyOfD (.int j) = some (.inl j) := rfl
theorem sk_kys : keyOfD (.str x) = some (.inr x) := rfl
theorem sk_isd : isFz (.dct kvs) = false := rfl
theorem sk_isu : isFz (.dcu kvs) = false := rfl
theorem sk_tod : O.toD (.dct kvs) = .dct kvs := by rw [O.toD]
theorem sk_tou : O.toD (.dcu kvs) = .dcu kvs := by rw [O.toD]
theorem sk_menum {ma : M (List D)} : mEnumA ma ⟨env, mu⟩ = (ma ⟨env, mu⟩).bind fun ds => ofO (enumA ds) := rfl
theorem sk_rg3 {ma : M (List D)} : mRng3 ma ⟨env, mu⟩ = (ma ⟨env, mu⟩).bind fun ds => ofO (rng3 ds) := rfl
theorem sk_ennl {ds : List D} : enumA [.lst ds] = some (numD 0 ds) := rfl
theorem sk_ennt {ds : List D} : enumA [.tup ds] = some (numD 0 ds) := rfl
theorem sk_rev {ds : List D} : revD (.lst ds) = some (.lst ds.reverse) := rfl
theorem sk_tupl {ds : List D} : tupleD (.lst ds) = some (.fz (.tup ds)) := rfl
theorem sk_tupt {ds : List D} : tupleD (.tup ds) = some (.fz (.tup ds)) := rfl
theorem sk_lstl {ds : List D} : listD (.lst ds) = some (.lst ds) := rfl
theorem sk_lstt {ds : List D} : listD (.tup ds) = some (.lst ds) := rfl
theorem sk_bne0 {b : Bool} : (b != false) = b := by cases b <;> rfl
theorem sk_bne1 {b : Bool} : (b != true) = !b := by cases b <;> rfl
end
section
variable {x y z w v u : D} {xs : List D}
theorem sk_x0 : ixD (.lst (x :: xs)) (.int 0) = some (.fz x) := by rw [st_ixl, st_at0]; rfl
theorem sk_x1 : ixD (.lst (x :: y :: xs)) (.int 1) = some (.fz y) := by rw [st_ixl, st_at1]; rfl
theorem sk_x2 : ixD (.lst (x :: y :: z :: xs)) (.int 2) = some (.fz z) := by rw [st_ixl, st_at2]; rfl
theorem sk_x3 : ixD (.lst (x :: y :: z :: w :: xs)) (.int 3) = some (.fz w) := by rw [st_ixl, st_at3]; rfl
theorem sk_x4 : ixD (.lst (x :: y :: z :: w :: v :: xs)) (.int 4) = some (.fz v) := by rw [st_ixl, st_at4]; rfl
theorem sk_t0 : ixD (.tup (x :: xs)) (.int 0) = some (.fz x) := by rw [st_ixt, st_at0]; rfl
theorem sk_t1 : ixD (.tup (x :: y :: xs)) (.int 1) = some (.fz y) := by rw [st_ixt, st_at1]; rfl
theorem sk_t2 : ixD (.tup (x :: y :: z :: xs)) (.int 2) = some (.fz z) := by rw [st_ixt, st_at2]; rfl
theorem sk_t3 : ixD (.tup (x :: y :: z :: w :: xs)) (.int 3) = some (.fz w) := by rw [st_ixt, st_at3]; rfl
theorem sk_t4 : ixD (.tup (x :: y :: z :: w :: v :: xs)) (.int 4) = some (.fz v) := by rw [st_ixt, st_at4]; rfl
theorem sk_t5 : ixD (.tup (x :: y :: z :: w :: v :: u :: xs)) (.int 5) = some (.fz u) := by rw [st_ixt, c_at5]; rfl
end
/-! ### things drawn -/
theorem sk_isit {xs : List D} : isiD [.tup xs, .ty "tuple"] = some (.fz (.bl true)) := rfl
/-! ### ifs of values -/
section
variable {p : Prop} [Decidable p] {α : Type} {a b : α} {s : S} {env : List (Option O)} {mu : List O}
theorem v_app {m1 m2 : M α} : (if p then m1 else m2) ⟨env, mu⟩ = if p then m1 ⟨env, mu⟩ else m2 ⟨env, mu⟩ := by split <;> rfl
theorem v_ok : (if p then Tr.R.ok a s else .ok b s) = Tr.R.ok (if p then a else b) s := by split <;> rfl
theorem v_fz {d e : D} : (if p then O.fz d else .fz e) = .fz (if p then d else e) := by split <;> rfl
theorem v_int {i j : Int} : (if p then D.int i else .int j) = .int (if p then i else j) := by split <;> rfl
theorem v_bl {i j : Bool} : (if p then D.bl i else .bl j) = .bl (if p then i else j) := by split <;> rfl
theorem v_str {i j : Str} : (if p then D.str i else .str j) = .str (if p then i else j) := by split <;> rfl
theorem v_ba {y : Bool} : (if p then y else false) = (decide p && y) := by by_cases h : p <;> simp [h]
theorem v_bo {y : Bool} : (if p then true else y) = (decide p || y) := by by_cases h : p <;> simp [h]
end
section
variable {a0 a1 a2 a3 a4 a5 a6 a7 a8 a9 a10 a11 a12 a13 a14 a15 a16 a17 a18 a19 a20 a21 a22 a23 a24 a25 a26 a27 a28 a29 a30 x : Option O} {env : List (Option O)}
theorem getS_15 : getS (a0 :: a1 :: a2 :: a3 :: a4 :: a5 :: a6 :: a7 :: a8 :: a9 :: a10 :: a11 :: a12 :: a13 :: a14 :: x :: env) 15 = x := rfl
theorem setS_15 : setS (a0 :: a1 :: a2 :: a3 :: a4 :: a5 :: a6 :: a7 :: a8 :: a9 :: a10 :: a11 :: a12 :: a13 :: a14 :: a15 :: env) 15 x = a0 :: a1 :: a2 :: a3 :: a4 :: a5 :: a6 :: a7 :: a8 :: a9 :: a10 :: a11 :: a12 :: a13 :: a14 :: x :: env := rfl
theorem getS_16 : getS (a0 :: a1 :: a2 :: a3 :: a4 :: a5 :: a6 :: a7 :: a8 :: a9 :: a10 :: a11 :: a12 :: a13 :: a14 :: a15 :: x :: env) 16 = x := rfl
theorem setS_16 : setS (a0 :: a1 :: a2 :: a3 :: a4 :: a5 :: a6 :: a7 :: a8 :: a9 :: a10 :: a11 :: a12 :: a13 :: a14 :: a15 :: a16 :: env) 16 x = a0 :: a1 :: a2 :: a3 :: a4 :: a5 :: a6 :: a7 :: a8 :: a9 :: a10 :: a11 :: a12 :: a13 :: a14 :: a15 :: x :: env := rfl
theorem getS_17 : getS (a0 :: a1 :: a2 :: a3 :: a4 :: a5 :: a6 :: a7 :: a8 :: a9 :: a10 :: a11 :: a12 :: a13 :: a14 :: a15 :: a16 :: x :: env) 17 = x := rfl
theorem setS_17 : setS (a0 :: a1 :: a2 :: a3 :: a4 :: a5 :: a6 :: a7 :: a8 :: a9 :: a10 :: a11 :: a12 :: a13 :: a14 :: a15 :: a16 :: a17 :: env) 17 x = a0 :: a1 :: a2 :: a3 :: a4 :: a5 :: a6 :: a7 :: a8 :: a9 :: a10 :: a11 :: a12 :: a13 :: a14 :: a15 :: a16 :: x :: env := rfl
theorem getS_18 : getS (a0 :: a1 :: a2 :: a3 :: a4 :: a5 :: a6 :: a7 :: a8 :: a9 :: a10 :: a11 :: a12 :: a13 :: a14 :: a15 :: a16 :: a17 :: x :: env) 18 = x := rfl
theorem setS_18 : setS (a0 :: a1 :: a2 :: a3 :: a4 :: a5 :: a6 :: a7 :: a8 :: a9 :: a10 :: a11 :: a12 :: a13 :: a14 :: a15 :: a16 :: a17 :: a18 :: env) 18 x = a0 :: a1 :: a2 :: a3 :: a4 :: a5 :: a6 :: a7 :: a8 :: a9 :: a10 :: a11 :: a12 :: a13 :: a14 :: a15 :: a16 :: a17 :: x :: env := rfl
theorem getS_19 : getS (a0 :: a1 :: a2 :: a3 :: a4 :: a5 :: a6 :: a7 :: a8 :: a9 :: a10 :: a11 :: a12 :: a13 :: a14 :: a15 :: a16 :: a17 :: a18 :: x :: env) 19 = x := rfl
theorem setS_19 : setS (a0 :: a1 :: a2 :: a3 :: a4 :: a5 :: a6 :: a7 :: a8 :: a9 :: a10 :: a11 :: a12 :: a13 :: a14 :: a15 :: a16 :: a17 :: a18 :: a19 :: env) 19 x = a0 :: a1 :: a2 :: a3 :: a4 :: a5 :: a6 :: a7 :: a8 :: a9 :: a10 :: a11 :: a12 :: a13 :: a14 :: a15 :: a16 :: a17 :: a18 :: x :: env := rfl
theorem getS_20 : getS (a0 :: a1 :: a2 :: a3 :: a4 :: a5 :: a6 :: a7 :: a8 :: a9 :: a10 :: a11 :: a12 :: a13 :: a14 :: a15 :: a16 :: a17 :: a18 :: a19 :: x :: env) 20 = x := rfl
theorem setS_20 : setS (a0 :: a1 :: a2 :: a3 :: a4 :: a5 :: a6 :: a7 :: a8 :: a9 :: a10 :: a11 :: a12 :: a13 :: a14 :: a15 :: a16 :: a17 :: a18 :: a19 :: a20 :: env) 20 x = a0 :: a1 :: a2 :: a3 :: a4 :: a5 :: a6 :: a7 :: a8 :: a9 :: a10 :: a11 :: a12 :: a13 :: a14 :: a15 :: a16 :: a17 :: a18 :: a19 :: x :: env := rfl
theorem getS_21 : getS (a0 :: a1 :: a2 :: a3 :: a4 :: a5 :: a6 :: a7 :: a8 :: a9 :: a10 :: a11 :: a12 :: a13 :: a14 :: a15 :: a16 :: a17 :: a18 :: a19 :: a20 :: x :: env) 21 = x := rfl
theorem setS_21 : setS (a0 :: a1 :: a2 :: a3 :: a4 :: a5 :: a6 :: a7 :: a8 :: a9 :: a10 :: a11 :: a12 :: a13 :: a14 :: a15 :: a16 :: a17 :: a18 :: a19 :: a20 :: a21 :: env) 21 x = a0 :: a1 :: a2 :: a3 :: a4 :: a5 :: a6 :: a7 :: a8 :: a9 :: a10 :: a11 :: a12 :: a13 :: a14 :: a15 :: a16 :: a17 :: a18 :: a19 :: a20 :: x :: env := rfl
theorem getS_22 : getS (a0 :: a1 :: a2 :: a3 :: a4 :: a5 :: a6 :: a7 :: a8 :: a9 :: a10 :: a11 :: a12 :: a13 :: a14 :: a15 :: a16 :: a17 :: a18 :: a19 :: a20 :: a21 :: x :: env) 22 = x := rfl
theorem setS_22 : setS (a0 :: a1 :: a2 :: a3 :: a4 :: a5 :: a6 :: a7 :: a8 :: a9 :: a10 :: a11 :: a12 :: a13 :: a14 :: a15 :: a16 :: a17 :: a18 :: a19 :: a20 :: a21 :: a22 :: env) 22 x = a0 :: a1 :: a2 :: a3 :: a4 :: a5 :: a6 :: a7 :: a8 :: a9 :: a10 :: a11 :: a12 :: a13 :: a14 :: a15 :: a16 :: a17 :: a18 :: a19 :: a20 :: a21 :: x :: env := rfl
theorem getS_23 : getS (a0 :: a1 :: a2 :: a3 :: a4 :: a5 :: a6 :: a7 :: a8 :: a9 :: a10 :: a11 :: a12 :: a13 :: a14 :: a15 :: a16 :: a17 :: a18 :: a19 :: a20 :: a21 :: a22 :: x :: env) 23 = x := rfl
theorem setS_23 : setS (a0 :: a1 :: a2 :: a3 :: a4 :: a5 :: a6 :: a7 :: a8 :: a9 :: a10 :: a11 :: a12 :: a13 :: a14 :: a15 :: a16 :: a17 :: a18 :: a19 :: a20 :: a21 :: a22 :: a23 :: env) 23 x = a0 :: a1 :: a2 :: a3 :: a4 :: a5 :: a6 :: a7 :: a8 :: a9 :: a10 :: a11 :: a12 :: a13 :: a14 :: a15 :: a16 :: a17 :: a18 :: a19 :: a20 :: a21 :: a22 :: x :: env := rfl
theorem getS_24 : getS (a0 :: a1 :: a2 :: a3 :: a4 :: a5 :: a6 :: a7 :: a8 :: a9 :: a10 :: a11 :: a12 :: a13 :: a14 :: a15 :: a16 :: a17 :: a18 :: a19 :: a20 :: a21 :: a22 :: a23 :: x :: env) 24 = x := rfl
theorem setS_24 : setS (a0 :: a1 :: a2 :: a3 :: a4 :: a5 :: a6 :: a7 :: a8 :: a9 :: a10 :: a11 :: a12 :: a13 :: a14 :: a15 :: a16 :: a17 :: a18 :: a19 :: a20 :: a21 :: a22 :: a23 :: a24 :: env) 24 x = a0 :: a1 :: a2 :: a3 :: a4 :: a5 :: a6 :: a7 :: a8 :: a9 :: a10 :: a11 :: a12 :: a13 :: a14 :: a15 :: a16 :: a17 :: a18 :: a19 :: a20 :: a21 :: a22 :: a23 :: x :: env := rfl
theorem getS_25 : getS (a0 :: a1 :: a2 :: a3 :: a4 :: a5 :: a6 :: a7 :: a8 :: a9 :: a10 :: a11 :: a12 :: a13 :: a14 :: a15 :: a16 :: a17 :: a18 :: a19 :: a20 :: a21 :: a22 :: a23 :: a24 :: x :: env) 25 = x := rfl
theorem setS_25 : setS (a0 :: a1 :: a2 :: a3 :: a4 :: a5 :: a6 :: a7 :: a8 :: a9 :: a10 :: a11 :: a12 :: a13 :: a14 :: a15 :: a16 :: a17 :: a18 :: a19 :: a20 :: a21 :: a22 :: a23 :: a24 :: a25 :: env) 25 x = a0 :: a1 :: a2 :: a3 :: a4 :: a5 :: a6 :: a7 :: a8 :: a9 :: a10 :: a11 :: a12 :: a13 :: a14 :: a15 :: a16 :: a17 :: a18 :: a19 :: a20 :: a21 :: a22 :: a23 :: a24 :: x :: env := rfl
theorem getS_26 : getS (a0 :: a1 :: a2 :: a3 :: a4 :: a5 :: a6 :: a7 :: a8 :: a9 :: a10 :: a11 :: a12 :: a13 :: a14 :: a15 :: a16 :: a17 :: a18 :: a19 :: a20 :: a21 :: a22 :: a23 :: a24 :: a25 :: x :: env) 26 = x := rfl
theorem setS_26 : setS (a0 :: a1 :: a2 :: a3 :: a4 :: a5 :: a6 :: a7 :: a8 :: a9 :: a10 :: a11 :: a12 :: a13 :: a14 :: a15 :: a16 :: a17 :: a18 :: a19 :: a20 :: a21 :: a22 :: a23 :: a24 :: a25 :: a26 :: env) 26 x = a0 :: a1 :: a2 :: a3 :: a4 :: a5 :: a6 :: a7 :: a8 :: a9 :: a10 :: a11 :: a12 :: a13 :: a14 :: a15 :: a16 :: a17 :: a18 :: a19 :: a20 :: a21 :: a22 :: a23 :: a24 :: a25 :: x :: env := rfl
theorem getS_27 : getS (a0 :: a1 :: a2 :: a3 :: a4 :: a5 :: a6 :: a7 :: a8 :: a9 :: a10 :: a11 :: a12 :: a13 :: a14 :: a15 :: a16 :: a17 :: a18 :: a19 :: a20 :: a21 :: a22 :: a23 :: a24 :: a25 :: a26 :: x :: env) 27 = x := rfl
theorem setS_27 : setS (a0 :: a1 :: a2 :: a3 :: a4 :: a5 :: a6 :: a7 :: a8 :: a9 :: a10 :: a11 :: a12 :: a13 :: a14 :: a15 :: a16 :: a17 :: a18 :: a19 :: a20 :: a21 :: a22 :: a23 :: a24 :: a25 :: a26 :: a27 :: env) 27 x = a0 :: a1 :: a2 :: a3 :: a4 :: a5 :: a6 :: a7 :: a8 :: a9 :: a10 :: a11 :: a12 :: a13 :: a14 :: a15 :: a16 :: a17 :: a18 :: a19 :: a20 :: a21 :: a22 :: a23 :: a24 :: a25 :: a26 :: x :: env := rfl
theorem getS_28 : getS (a0 :: a1 :: a2 :: a3 :: a4 :: a5 :: a6 :: a7 :: a8 :: a9 :: a10 :: a11 :: a12 :: a13 :: a14 :: a15 :: a16 :: a17 :: a18 :: a19 :: a20 :: a21 :: a22 :: a23 :: a24 :: a25 :: a26 :: a27 :: x :: env) 28 = x := rfl
theorem setS_28 : setS (a0 :: a1 :: a2 :: a3 :: a4 :: a5 :: a6 :: a7 :: a8 :: a9 :: a10 :: a11 :: a12 :: a13 :: a14 :: a15 :: a16 :: a17 :: a18 :: a19 :: a20 :: a21 :: a22 :: a23 :: a24 :: a25 :: a26 :: a27 :: a28 :: env) 28 x = a0 :: a1 :: a2 :: a3 :: a4 :: a5 :: a6 :: a7 :: a8 :: a9 :: a10 :: a11 :: a12 :: a13 :: a14 :: a15 :: a16 :: a17 :: a18 :: a19 :: a20 :: a21 :: a22 :: a23 :: a24 :: a25 :: a26 :: a27 :: x :: env := rfl
theorem getS_29 : getS (a0 :: a1 :: a2 :: a3 :: a4 :: a5 :: a6 :: a7 :: a8 :: a9 :: a10 :: a11 :: a12 :: a13 :: a14 :: a15 :: a16 :: a17 :: a18 :: a19 :: a20 :: a21 :: a22 :: a23 :: a24 :: a25 :: a26 :: a27 :: a28 :: x :: env) 29 = x := rfl
theorem setS_29 : setS (a0 :: a1 :: a2 :: a3 :: a4 :: a5 :: a6 :: a7 :: a8 :: a9 :: a10 :: a11 :: a12 :: a13 :: a14 :: a15 :: a16 :: a17 :: a18 :: a19 :: a20 :: a21 :: a22 :: a23 :: a24 :: a25 :: a26 :: a27 :: a28 :: a29 :: env) 29 x = a0 :: a1 :: a2 :: a3 :: a4 :: a5 :: a6 :: a7 :: a8 :: a9 :: a10 :: a11 :: a12 :: a13 :: a14 :: a15 :: a16 :: a17 :: a18 :: a19 :: a20 :: a21 :: a22 :: a23 :: a24 :: a25 :: a26 :: a27 :: a28 :: x :: env := rfl
theorem getS_30 : getS (a0 :: a1 :: a2 :: a3 :: a4 :: a5 :: a6 :: a7 :: a8 :: a9 :: a10 :: a11 :: a12 :: a13 :: a14 :: a15 :: a16 :: a17 :: a18 :: a19 :: a20 :: a21 :: a22 :: a23 :: a24 :: a25 :: a26 :: a27 :: a28 :: a29 :: x :: env) 30 = x := rfl
theorem setS_30 : setS (a0 :: a1 :: a2 :: a3 :: a4 :: a5 :: a6 :: a7 :: a8 :: a9 :: a10 :: a11 :: a12 :: a13 :: a14 :: a15 :: a16 :: a17 :: a18 :: a19 :: a20 :: a21 :: a22 :: a23 :: a24 :: a25 :: a26 :: a27 :: a28 :: a29 :: a30 :: env) 30 x = a0 :: a1 :: a2 :: a3 :: a4 :: a5 :: a6 :: a7 :: a8 :: a9 :: a10 :: a11 :: a12 :: a13 :: a14 :: a15 :: a16 :: a17 :: a18 :: a19 :: a20 :: a21 :: a22 :: a23 :: a24 :: a25 :: a26 :: a27 :: a28 :: a29 :: x :: env := rfl
end
/-! ### methods -/
def reprTK (tbl : List (Str × MF)) (d : D) : M O := match d with
  | .tup ds => bnd (reprsM tbl ds 0) fun ts => ret (.fz (.str (tupleText ts)))
  | _ => fun _ => .no
theorem v_chB {b : Bool} {m : M O} {env : List (Option O)} {mu : List O} : chB (some b) m ⟨env, mu⟩ = if b = true then m ⟨env, mu⟩ else .ok (.fz (.bl false)) ⟨env, mu⟩ := by cases b <;> rfl
theorem c_meth {c mn : Str} {m : MF} {gD : List D → List D → List D} {n k : Nat} {ma mk : M (List D)} {fs : List (Str × D)} (h : (fs.map (·.1)).contains mn = false) :
    methK c mn m gD n k ma mk (.ins c fs) = bnd ma fun ds => bnd mk fun es => if ds.length + 1 = n ∧ es.length = k then runF m (gD (.ins c fs :: ds) es) else fun _ => .no := by
  unfold methK
  dsimp only
  rw [if_pos ⟨rfl, h⟩]
theorem sk_sn {tbl : List (Str × MF)} {g : D → Option O} {md : M D} {env : List (Option O)} {mu : List O} : xSn tbl g md ⟨env, mu⟩ = (md ⟨env, mu⟩).bind (runN tbl g) := rfl
theorem sk_reprT {tbl : List (Str × MF)} {md : M D} {env : List (Option O)} {mu : List O} : xReprT tbl md ⟨env, mu⟩ = (md ⟨env, mu⟩).bind (reprTK tbl) := rfl
end L2.Tr
/-! tuples turned about: t[::-1] -/
namespace L2.Tr
open PySem PySem.Spec PyProof.Rows L2 L2.Pc
section
variable {X : Cx} {G : Gi} {W : WX} {e : Expr} {te : TE} {m : M O} {k : Nat} {p1 p2 p3 pos : Pos}
/-- xs[::-1] of lists and tuples -/
def rvD : D → Option O
  | .lst ds => some (.lst ds.reverse)
  | .lsk ds => some (.lst ds.reverse)
  | .tup ds => some (.fz (.tup ds.reverse))
  | .tuk ds => some (.fz (.tup ds.reverse))
  | _ => none
end
theorem sk_rvl {ds : List D} : rvD (.lst ds) = some (.lst ds.reverse) := rfl
theorem sk_rvt {ds : List D} : rvD (.tup ds) = some (.fz (.tup ds.reverse)) := rfl
end L2.Tr
/-! x in xs, where the members are data of any depth -/
namespace L2.Tr
open PySem PySem.Spec PyProof.Rows L2 L2.Pc
end L2.Tr
/-! max of a list of data that are alike (pairs) -/
namespace L2.Tr
open PySem PySem.Spec PyProof.Rows L2 L2.Pc
end L2.Tr
/-! a, b, c = (.., .., ..) by a tuple in between, what is owned kept -/
namespace L2.Tr
open PySem PySem.Spec PyProof.Rows L2 L2.Pc
end L2.Tr
/-! dict(xs), xs a list of pairs whose keys are numbers or texts, all different -/
namespace L2.Tr
open PySem PySem.Spec PyProof.Rows L2 L2.Pc
end L2.Tr
/-! what stands in a slot is frozen once the things to walk are at hand -/
namespace L2.Tr
open PySem PySem.Spec PyProof.Rows L2 L2.Pc
def frzO (s : S) (i : Nat) : S := match getS s.env i with
  | some o => ⟨setS s.env i (some (.fz o.toD)), s.mu⟩
  | none => s
def fzK (i : Nat) (ds : List D) : M (List D) := fun s => .ok ds (frzO s i)
def mFz (i : Nat) (it : M (List D)) : M (List D) := bnd it (fzK i)
theorem sk_fz {i : Nat} {it : M (List D)} {env : List (Option O)} {mu : List O} : mFz i it ⟨env, mu⟩ = (it ⟨env, mu⟩).bind (fzK i) := rfl
theorem sk_fzK {i : Nat} {ds : List D} {env : List (Option O)} {mu : List O} : fzK i ds ⟨env, mu⟩ = (match getS env i with | some o => .ok ds ⟨setS env i (some (.fz o.toD)), mu⟩ | none => .ok ds ⟨env, mu⟩) := by
  show Tr.R.ok ds (frzO ⟨env, mu⟩ i) = _
  unfold frzO
  cases getS env i <;> rfl
end L2.Tr
/-! len(set(xs)), xs a list or tuple of texts that all differ -/
namespace L2.Tr
open PySem PySem.Spec PyProof.Rows L2 L2.Pc
end L2.Tr
/-! zip(t, l), t a tuple and l a list: what the call makes and its turns -/
namespace L2.Tr
open PySem PySem.Spec PyProof.Rows L2 L2.Pc
end L2.Tr
namespace L2.Tr
open PySem PySem.Spec PyProof.Rows L2 L2.Pc
/-! ### cells by their numbers -/
section
variable {G : Gi}
/-- what a value stands for: itself, or what its cell holds -/
def derO (mu : List O) : O → Option O
  | .fz (.cel n) => getM mu n
  | o => some o
variable {X : Cx} {W : WX} {e e2 a b : Expr} {m : M O} {ma mb md mk : M D} {pos pos' apos cpos : Pos}
/-- read through a cell -/
def xDr (m : M O) : M O := bnd m fun o s => match derO s.mu o with
  | some o' => .ok o' s
  | none => .no
/-- an operator whose left operand is a cell, perhaps, read when both stand -/
def xOpD (g : D → D → Option O) (ma : M D) (mb : M O) : M O := bnd ma fun x => bnd mb fun y s => match derO s.mu (.fz x) with
  | some ox => ofO (g ox.toD y.toD) s
  | none => .no
end
/-! ### walks over what a cell holds, as long as it stays -/
section
variable {G : Gi}
abbrev Cw := Nat × O × List D
open Classical in
noncomputable def forCL (n : Nat) (o : O) (t : MT) (mb : M Fl) : List D → M Fl
  | [] => fun s => if getM s.mu n = some o then .ok .nx s else .no
  | d :: ds => fun s => if getM s.mu n = some o then (match t d s with
    | none => .no
    | some s1 => (mb s1).bind fun f => match f with
      | .nx => forCL n o t mb ds
      | .ct => forCL n o t mb ds
      | .bk => ret .nx
      | .rt o => ret (.rt o)) else .no
noncomputable def sForC (mi : M Cw) (t : MT) (mb : M Fl) : M Fl := bnd mi fun p => forCL p.1 p.2.1 t mb p.2.2
variable {X : Cx} {W : WX} {tg iter e : Expr} {body : List Stmt} {mi : M Cw} {t : MT} {mb : M Fl} {g : TG} {p pos : Pos} {md : M D} {ma : M (List D)}
/-- a cell's list walked -/
def mCel (md : M D) : M Cw := bnd md fun d s => match d with
  | .cel n => (match getM s.mu n with
    | some (.lst ds) => .ok (n, .lst ds, ds) s
    | _ => .no)
  | _ => .no
/-- enumerate of a cell's list -/
def mEnC (ma : M (List D)) : M Cw := bnd ma fun l s => match l with
  | [.cel n] => (match getM s.mu n with
    | some (.lst ds) => .ok (n, .lst ds, numD 0 ds) s
    | _ => .no)
  | _ => .no
/-! comprehensions -/
open Classical in
noncomputable def lcCL (n : Nat) (o : O) (vs : List Nat) (t : MT) (mt : M Bool) (me : M D) : List D → M (List D)
  | [] => fun s => if getM s.mu n = some o then .ok [] s else .no
  | d :: ds => fun s => if getM s.mu n = some o then (match t d s with
    | none => .no
    | some s1 => (mt s1).bind fun b s2 =>
      if b = true then (me s2).bind (fun y s3 => if freeE s3.env vs = true then (lcCL n o vs t mt me ds ⟨wipeE s3.env vs, s3.mu⟩).bind fun ys => ret (y :: ys) else .no)
      else if freeE s2.env vs = true then lcCL n o vs t mt me ds ⟨wipeE s2.env vs, s2.mu⟩ else .no) else .no
noncomputable def xLcC (vs : List Nat) (mi : M Cw) (t : MT) (mt : M Bool) (me : M D) : M O := bnd mi fun p s => if freeE s.env vs = true ∧ p.2.2.length ≤ 16777216 then
  (noExc (lcCL p.1 p.2.1 vs t mt me p.2.2 ⟨wipeE s.env vs, s.mu⟩)).bind fun ys s2 => .ok (.lst ys) ⟨backE s.env s2.env vs, s2.mu⟩ else .no
end
end L2.Tr
namespace L2.Tr
open PySem PySem.Spec PyProof.Rows L2 L2.Pc
/-! ### dicts: pop, d[k] -= e, sorted(d) -/
section
variable {X : Cx} {G : Gi} {W : WX} {e e2 : Expr} {i : Nat} {x : Str} {px pos pos' apos cpos : Pos} {mk : M D} {mb : M O}
def dropKD (k : Key) : List (D × D) → List (D × D)
  | [] => []
  | (d, x) :: r => if keyOfD d = some k then dropKD k r else (d, x) :: dropKD k r
/-- x.pop(k) of a dict -/
def xPopK (i : Nat) (mk : M D) : M O := fun s => match getS s.env i with
  | some (.fz (.cel n)) => (match getM s.mu n with
    | some (.dct _) => (mk s).bind fun k s1 => (match getS s1.env i, keyOfD k with
      | some (.fz (.cel n')), some ks => if n' = n then (match getM s1.mu n with
        | some (.dct kvs) => (match getKD ks kvs with
          | some y => .ok (.fz y) ⟨s1.env, setM s1.mu n (.dct (dropKD ks kvs))⟩
          | none => .no)
        | _ => .no) else .no
      | _, _ => .no)
    | _ => .no)
  | _ => .no
/-- d[k] -= e and its like, k a tuple -/
def augTAt (g : D → D → Option O) (i : Nat) (mk : M D) (mb : M O) : M Fl := fun s => match dctS s i with
  | none => .no
  | some _ => (mk s).bind fun k s2 => match dctS s2 i, tkeyD k with
    | some kvs, some ks => (match getTD ks kvs with
      | some v => (mb s2).bind fun oy s3 => (match g v oy.toD, getP s3 i with
        | some (.fz z), some (.dcu kvs3) => if kvs3.length < 16777216 then .ok .nx (putP s3 i (.dcu (putTD ks z kvs3))) else .no
        | _, _ => .no)
      | none => .no)
    | _, _ => .no
/-! comparisons whose left operand is a cell, perhaps -/
variable {a b : Expr} {ma md : M D}
/-! list(range(n)) -/
def xLstRg (md : M D) : M O := bnd md fun d s => match d with
  | .int n => if n < 16777216 ∧ -(2 ^ 62) ≤ n then .ok (.lst (rngL 0 n.toNat)) s else .no
  | _ => .no
/-! x.remove(e), numbers -/
def sRem (i : Nat) (md : M D) : M Fl := fun s => match getP s i with
  | some (.lst _) => (md s).bind fun d s1 => match getP s1 i, d with
    | some (.lst xs), .int k => (match allM intD' xs with
      | some ns => if k ∈ ns then .ok .nx (putP s1 i (.lst ((ns.erase k).map .int))) else .no
      | none => .no)
    | _, _ => .no
  | _ => .no
/-! sorted(d), d a dict with numbers as keys -/
def xSrtK (i : Nat) : M O := fun s => match getP s i with
  | some (.dct kvs) => (match allM intD' (kvs.map (·.1)) with
    | some ns => if ns.length < 64 then .ok (.lst ((isortB ltI ns).map .int)) s else .no
    | none => .no)
  | _ => .no
end
/-! sorted(xs), texts -/
def ltS (a b : Str) : Bool := decide (a.cps.toList < b.cps.toList)
def strD' : D → Option Str
  | .str a => some a
  | _ => none
end L2.Tr
namespace L2.Tr
open PySem PySem.Spec PyProof.Rows L2 L2.Pc
/-! ### steps: cells walked, dicts -/
section
variable {env : List (Option O)} {mu : List O} {i n : Nat} {mk md ma : M D} {mb m : M O} {kvs : List (D × D)} {j : Int} {x : Str} {d : D} {g : D → D → Option O} {mi : M Cw} {t : MT} {mbd : M Fl} {mal : M (List D)}
def srtO (kvs : List (D × D)) : Option O := match allM intD' (kvs.map (·.1)) with
  | some ns => if ns.length < 64 then some (.lst ((isortB ltI ns).map .int)) else none
  | none => none
theorem sk_srtK : xSrtK i ⟨env, mu⟩ = (match getP ⟨env, mu⟩ i with | some (.dct kvs) => ofO (srtO kvs) ⟨env, mu⟩ | _ => .no) := by
  unfold xSrtK
  cases getP ⟨env, mu⟩ i with
  | none => rfl
  | some o =>
    cases o with
    | dct kvs =>
      dsimp only
      unfold srtO
      cases allM intD' (kvs.map (·.1)) with
      | none => rfl
      | some ns =>
        dsimp only
        by_cases h : ns.length < 64
        · rw [if_pos h, if_pos h]; rfl
        · rw [if_neg h, if_neg h]; rfl
    | _ => rfl
def popKK (i n : Nat) (k : D) : M O := fun s1 => (match getS s1.env i, keyOfD k with
      | some (.fz (.cel n')), some ks => if n' = n then (match getM s1.mu n with
        | some (.dct kvs) => (match getKD ks kvs with
          | some y => .ok (.fz y) ⟨s1.env, setM s1.mu n (.dct (dropKD ks kvs))⟩
          | none => .no)
        | _ => .no) else .no
      | _, _ => .no)
theorem sk_popK : xPopK i mk ⟨env, mu⟩ = (match getS env i with | some (.fz (.cel n)) => (match getM mu n with | some (.dct _) => (mk ⟨env, mu⟩).bind (popKK i n) | _ => .no) | _ => .no) := rfl
theorem sk_popKi : popKK i n (.int j) ⟨env, mu⟩ = (match getS env i with | some (.fz (.cel n')) => (if n' = n then (match getM mu n with | some (.dct kvs) => (match getKD (.inl j) kvs with | some y => .ok (.fz y) ⟨env, setM mu n (.dct (dropKD (.inl j) kvs))⟩ | none => .no) | _ => .no) else .no) | _ => .no) := by
  unfold popKK
  show (match getS env i, keyOfD (.int j) with | some (.fz (.cel n')), some ks => _ | _, _ => _) = _
  cases getS env i with
  | none => rfl
  | some o => cases o with
    | fz d => cases d <;> rfl
    | _ => rfl
theorem sk_popKs : popKK i n (.str x) ⟨env, mu⟩ = (match getS env i with | some (.fz (.cel n')) => (if n' = n then (match getM mu n with | some (.dct kvs) => (match getKD (.inr x) kvs with | some y => .ok (.fz y) ⟨env, setM mu n (.dct (dropKD (.inr x) kvs))⟩ | none => .no) | _ => .no) else .no) | _ => .no) := by
  unfold popKK
  show (match getS env i, keyOfD (.str x) with | some (.fz (.cel n')), some ks => _ | _, _ => _) = _
  cases getS env i with
  | none => rfl
  | some o => cases o with
    | fz d => cases d <;> rfl
    | _ => rfl
def remK (i : Nat) (d : D) : M Fl := fun s1 => match getP s1 i, d with
    | some (.lst xs), .int k => (match allM intD' xs with
      | some ns => if k ∈ ns then .ok .nx (putP s1 i (.lst ((ns.erase k).map .int))) else .no
      | none => .no)
    | _, _ => .no
theorem sk_rem : sRem i md ⟨env, mu⟩ = (match getP ⟨env, mu⟩ i with | some (.lst _) => (md ⟨env, mu⟩).bind (remK i) | _ => .no) := rfl
theorem sk_remi : remK i (.int j) ⟨env, mu⟩ = (match getP ⟨env, mu⟩ i with | some (.lst xs) => (match allM intD' xs with | some ns => if j ∈ ns then .ok .nx (putP ⟨env, mu⟩ i (.lst ((ns.erase j).map .int))) else .no | none => .no) | _ => .no) := by
  unfold remK
  cases getP ⟨env, mu⟩ i with
  | none => rfl
  | some o => cases o <;> rfl
def lstRgK (d : D) : M O := fun s => match d with
  | .int n => if n < 16777216 ∧ -(2 ^ 62) ≤ n then .ok (.lst (rngL 0 n.toNat)) s else .no
  | _ => .no
theorem sk_lstRg : xLstRg md ⟨env, mu⟩ = (md ⟨env, mu⟩).bind lstRgK := rfl
theorem sk_lstRgi : lstRgK (.int j) ⟨env, mu⟩ = if j < 16777216 ∧ -4611686018427387904 ≤ j then .ok (.lst (rngL 0 j.toNat)) ⟨env, mu⟩ else .no := rfl
def augTKk (g : D → D → Option O) (i : Nat) (mb : M O) (k : D) : M Fl := fun s2 => match dctS s2 i, tkeyD k with
    | some kvs, some ks => (match getTD ks kvs with
      | some v => (mb s2).bind fun oy s3 => (match g v oy.toD, getP s3 i with
        | some (.fz z), some (.dcu kvs3) => if kvs3.length < 16777216 then .ok .nx (putP s3 i (.dcu (putTD ks z kvs3))) else .no
        | _, _ => .no)
      | none => .no)
    | _, _ => .no
def augTKz (g : D → D → Option O) (i : Nat) (ks : List Key) (v : D) (oy : O) : M Fl := fun s3 => match g v oy.toD, getP s3 i with
        | some (.fz z), some (.dcu kvs3) => if kvs3.length < 16777216 then .ok .nx (putP s3 i (.dcu (putTD ks z kvs3))) else .no
        | _, _ => .no
theorem sk_augT : augTAt g i mk mb ⟨env, mu⟩ = (match dctS ⟨env, mu⟩ i with | some _ => (mk ⟨env, mu⟩).bind (augTKk g i mb) | none => .no) := by
  unfold augTAt
  cases dctS ⟨env, mu⟩ i <;> rfl
theorem sk_augT2 {a b : Int} : augTKk g i mb (.tup [.int a, .int b]) ⟨env, mu⟩ = (match dctS ⟨env, mu⟩ i with | some kvs => (match getTD [.inl a, .inl b] kvs with | some v => (mb ⟨env, mu⟩).bind (augTKz g i [.inl a, .inl b] v) | none => .no) | none => .no) := by
  unfold augTKk
  cases dctS ⟨env, mu⟩ i <;> rfl
theorem sk_augTz {ks : List Key} {v : D} {oy : O} : augTKz g i ks v oy ⟨env, mu⟩ = (match g v oy.toD with | some (.fz z) => (match getP ⟨env, mu⟩ i with | some (.dcu kvs3) => if kvs3.length < 16777216 then .ok .nx (putP ⟨env, mu⟩ i (.dcu (putTD ks z kvs3))) else .no | _ => .no) | _ => .no) := by
  unfold augTKz
  cases g v oy.toD with
  | none => rfl
  | some o =>
    cases o with
    | fz z =>
      dsimp only
      cases getP ⟨env, mu⟩ i with
      | none => rfl
      | some o => cases o <;> rfl
    | _ => rfl
def drK (o : O) : M O := fun s => match derO s.mu o with
  | some o' => .ok o' s
  | none => .no
theorem sk_dr : xDr m ⟨env, mu⟩ = (m ⟨env, mu⟩).bind drK := rfl
def opDk (g : D → D → Option O) (x : D) (y : O) : M O := fun s => match derO s.mu (.fz x) with
  | some ox => ofO (g ox.toD y.toD) s
  | none => .no
theorem sk_opD : xOpD g ma mb ⟨env, mu⟩ = (ma ⟨env, mu⟩).bind fun x => bnd mb (opDk g x) := rfl
theorem sk_opDk {y : O} : opDk g d y ⟨env, mu⟩ = (match derO mu (.fz d) with | some ox => ofO (g ox.toD y.toD) ⟨env, mu⟩ | none => .no) := rfl
theorem sk_der : derO mu (.fz (.cel n)) = getM mu n := rfl
theorem sk_forC : sForC mi t mbd ⟨env, mu⟩ = (mi ⟨env, mu⟩).bind fun p => forCL p.1 p.2.1 t mbd p.2.2 := rfl
def celK' (d : D) : M Cw := fun s => match d with
  | .cel n => (match getM s.mu n with
    | some (.lst ds) => .ok (n, .lst ds, ds) s
    | _ => .no)
  | _ => .no
theorem sk_mCel : mCel md ⟨env, mu⟩ = (md ⟨env, mu⟩).bind celK' := rfl
theorem sk_mCelk : celK' (.cel n) ⟨env, mu⟩ = (match getM mu n with | some (.lst ds) => .ok (n, .lst ds, ds) ⟨env, mu⟩ | _ => .no) := rfl
def enCk (l : List D) : M Cw := fun s => match l with
  | [.cel n] => (match getM s.mu n with
    | some (.lst ds) => .ok (n, .lst ds, numD 0 ds) s
    | _ => .no)
  | _ => .no
theorem sk_mEnC : mEnC mal ⟨env, mu⟩ = (mal ⟨env, mu⟩).bind enCk := rfl
theorem sk_mEnCk : enCk [.cel n] ⟨env, mu⟩ = (match getM mu n with | some (.lst ds) => .ok (n, .lst ds, numD 0 ds) ⟨env, mu⟩ | _ => .no) := rfl
end
/-! a slot's thing made a cell; pop; lists compared with [] -/
section
variable {env : List (Option O)} {mu : List O} {i n : Nat} {m : M Fl} {me : M O} {neg : Bool} {k : Int} {o o' o2 : O} {d : D} {xs : List D} {kvs : List (D × D)} {c : Str} {fs : List (Str × O)}
theorem sk_cel : sCel i m ⟨env, mu⟩ = (m ⟨env, mu⟩).bind (celK i) := rfl
theorem sk_celn : celK i .nx ⟨env, mu⟩ = (match getS env i with | some o => if cellO o = true then .ok .nx ⟨setS env i (some (.fz (.cel mu.length))), mu ++ [o]⟩ else .no | none => .no) := rfl
theorem sk_celr : celK i (.rt o) ⟨env, mu⟩ = .ok (.rt o) ⟨env, mu⟩ := rfl
theorem sk_col : cellO (.lst xs) = true := rfl
theorem sk_cod : cellO (.dct kvs) = true := rfl
theorem sk_cou : cellO (.dcu kvs) = true := rfl
theorem sk_coi : cellO (.ins c fs) = true := rfl
def popLK (i n : Nat) (o : O) : M O := fun s1 => (match getS s1.env i, getM s1.mu n, o.toD with
      | some (.fz (.cel n')), some (.lst xs), .int k => if n' = n ∧ -(2 ^ 63) ≤ k ∧ k < 2 ^ 63 then (match seqIndex? k xs.length with
        | some j => (match xs[j]? with
          | some y => .ok (.fz y) ⟨s1.env, setM s1.mu n (.lst (xs.eraseIdx j))⟩
          | none => .no)
        | none => .no) else .no
      | _, _, _ => .no)
theorem sk_pop : xPop i me ⟨env, mu⟩ = (match getS env i with | some (.fz (.cel n)) => (match getM mu n with | some (.lst _) => (me ⟨env, mu⟩).bind (popLK i n) | _ => .no) | _ => .no) := rfl
theorem sk_popi : popLK i n (.fz (.int k)) ⟨env, mu⟩ = (match getS env i with | some (.fz (.cel n')) => (match getM mu n with | some (.lst xs) => (if n' = n ∧ -9223372036854775808 ≤ k ∧ k < 9223372036854775808 then (match seqIndex? k xs.length with | some j => (match xs[j]? with | some y => .ok (.fz y) ⟨env, setM mu n (.lst (xs.eraseIdx j))⟩ | none => .no) | none => .no) else .no) | _ => .no) | _ => .no):= by
  unfold popLK
  rw [st_tdf]
  cases getS env i with
  | none => rfl
  | some a => cases a with
    | fz d => cases d with
      | cel n' => cases getM mu n with
        | none => rfl
        | some b => cases b <;> rfl
      | _ => rfl
    | _ => rfl
theorem sk_nilD : nilD neg (.lst xs) (.lst []) = some (.fz (.bl (xs.isEmpty != neg))) := rfl
theorem sk_nil : xNil neg i ⟨env, mu⟩ = (match getS env i with | some (.fz (.cel n)) => (match getM mu n with | some (.lst xs) => .ok (.fz (.bl (xs.isEmpty != neg))) ⟨env, mu⟩ | _ => .no) | _ => .no) := rfl
theorem gap1 : ∀ (mu : List O) (o : O), getM (mu ++ [o]) mu.length = some o
  | [], _ => rfl
  | _ :: mu, o => gap1 mu o
theorem sk_gap : getM (mu ++ [o]) mu.length = some o := gap1 mu o
theorem sap1 : ∀ (mu : List O) (o o' : O), setM (mu ++ [o]) mu.length o' = mu ++ [o']
  | [], _, _ => rfl
  | x :: mu, o, o' => by show x :: setM (mu ++ [o]) mu.length o' = _; rw [sap1 mu o o']; rfl
theorem sk_sap : setM (mu ++ [o]) mu.length o' = mu ++ [o'] := sap1 mu o o'
theorem gap2 : ∀ (mu : List O) (o o2 : O), getM (mu ++ [o] ++ [o2]) mu.length = some o
  | [], _, _ => rfl
  | _ :: mu, o, o2 => gap2 mu o o2
theorem sk_gap2 : getM (mu ++ [o] ++ [o2]) mu.length = some o := gap2 mu o o2
theorem sap2 : ∀ (mu : List O) (o o2 o' : O), setM (mu ++ [o] ++ [o2]) mu.length o' = mu ++ [o'] ++ [o2]
  | [], _, _, _ => rfl
  | x :: mu, o, o2, o' => by show x :: setM (mu ++ [o] ++ [o2]) mu.length o' = _; rw [sap2 mu o o2 o']; rfl
theorem sk_sap2 : setM (mu ++ [o] ++ [o2]) mu.length o' = mu ++ [o'] ++ [o2] := sap2 mu o o2 o'
end
/-! ### rules -/
section
variable {env : List (Option O)} {mu : List O} {vs : List Nat} {t : MT} {mt : M Bool} {me : M D} {mi : M Cw} {n : Nat} {o : O} {ds : List D}
noncomputable def lcCK (vs : List Nat) (t : MT) (mt : M Bool) (me : M D) (p : Cw) : M O := fun s => if freeE s.env vs = true ∧ p.2.2.length ≤ 16777216 then
  (noExc (lcCL p.1 p.2.1 vs t mt me p.2.2 ⟨wipeE s.env vs, s.mu⟩)).bind (lcB s.env vs) else .no
theorem sk_lcC : xLcC vs mi t mt me ⟨env, mu⟩ = (mi ⟨env, mu⟩).bind (lcCK vs t mt me) := rfl
theorem sk_lcCK : lcCK vs t mt me (n, o, ds) ⟨env, mu⟩ = if freeE env vs = true ∧ ds.length ≤ 16777216 then (noExc (lcCL n o vs t mt me ds ⟨wipeE env vs, mu⟩)).bind (lcB env vs) else .no := rfl
end
end L2.Tr
namespace L2.Tr
open PySem PySem.Spec PyProof.Rows L2 L2.Pc
/-! ### sorted(t), t a tuple of texts -/
/-! ### len(set(xs)), xs a list of numbers -/
theorem sk_nnt {ds : List D} : isNon (.tup ds) = false := rfl
theorem sk_nnl {ds : List D} : isNon (.lst ds) = false := rfl
theorem sk_nni {c : Str} {fs : List (Str × D)} : isNon (.ins c fs) = false := rfl
theorem sk_nnb {b : Bool} : isNon (.bl b) = false := rfl
end L2.Tr
namespace L2.Tr
open PySem PySem.Spec PyProof.Rows L2 L2.Pc
/-! {k: e}, e any expression -/
def xDispK (fk : S → Option D) (md : M D) : M O := fun s => match fk s with
  | some kd => (match keyOfD kd with
    | some _ => (md s).bind fun d => ret (.dct [(kd, d)])
    | none => .no)
  | none => .no
/-! bool(x) -/
def boolD : D → Option O
  | .int i => some (.fz (.bl (i != 0)))
  | .bl b => some (.fz (.bl b))
  | _ => none
section
variable {env : List (Option O)} {mu : List O} {x : Str} {md : M D} {i : Int}
theorem sk_booli : boolD (.int i) = some (.fz (.bl (i != 0))) := rfl
theorem sk_dispK : xDispK (fun _ => some (.str x)) md ⟨env, mu⟩ = (md ⟨env, mu⟩).bind fun d => ret (.dct [(.str x, d)]) := rfl
end
end L2.Tr
namespace L2
open PySem PySem.Spec PyProof.Rows
/-! ### setdefault, tuple keys -/
end L2
namespace L2.Tr
open PySem PySem.Spec PyProof.Rows L2 L2.Pc
/-! ### dicts with tuple keys whose entries are owned -/
def getV (ks : List Key) : List (D × O) → Option O
  | [] => none
  | (d, o) :: r => if tkeyD d = some ks then some o else getV ks r
/-- the first entry of a key exchanged -/
def setV (ks : List Key) (o' : O) : List (D × O) → List (D × O)
  | [] => []
  | (d, o) :: r => if tkeyD d = some ks then (d, o') :: r else (d, o) :: setV ks o' r
section
variable {X : Cx} {G : Gi} {W : WX} {e e2 : Expr} {i : Nat} {x : Str} {px pos pos' apos apos2 cpos cpos2 lpos : Pos} {mk md : M D}
def sSd2 (i : Nat) (ks : List Key) (md : M D) : M Fl := fun s => match getS s.env i with
  | some (.dcv kvs) => (match getV ks kvs with
    | some (.lst _) => (md s).bind fun d s2 => (match getS s2.env i with
      | some (.dcv kvs2) => (match getV ks kvs2 with
        | some (.lst xs) => if xs.length < 16777216 then .ok .nx ⟨setS s2.env i (some (.dcv (setV ks (.lst (xs ++ [d])) kvs2))), s2.mu⟩ else .no
        | _ => .no)
      | _ => .no)
    | _ => .no)
  | _ => .no
/-- d.setdefault(k, []).append(e), k a tuple -/
def sSdApp (i : Nat) (mk md : M D) : M Fl := fun s => match getS s.env i with
  | some (.dcv _) => (mk s).bind fun k s1 => (match getS s1.env i, tkeyD k with
    | some (.dcv kvs), some ks => if kvs.length < 16777216 then (match getV ks kvs with
        | some _ => sSd2 i ks md s1
        | none => sSd2 i ks md ⟨setS s1.env i (some (.dcv (kvs ++ [(.tup (ks.map kD), .lst [])]))), s1.mu⟩) else .no
    | _, _ => .no)
  | _ => .no
theorem getS_setS : ∀ {env : List (Option O)} {i : Nat} {o x : O}, getS env i = some o → getS (setS env i (some x)) i = some x
  | [], i, _, _, h => by cases i <;> cases h
  | _ :: _, 0, _, _, _ => rfl
  | _ :: env, i + 1, _, _, h => getS_setS (env := env) (i := i) h
/-! steps -/
def sdK (i : Nat) (ks : List Key) (d : D) : M Fl := fun s2 => match getS s2.env i with
  | some (.dcv kvs2) => (match getV ks kvs2 with
    | some (.lst xs) => if xs.length < 16777216 then .ok .nx ⟨setS s2.env i (some (.dcv (setV ks (.lst (xs ++ [d])) kvs2))), s2.mu⟩ else .no
    | _ => .no)
  | _ => .no
def sdK2 (i : Nat) (md : M D) (k : D) : M Fl := fun s1 => match getS s1.env i, tkeyD k with
  | some (.dcv kvs), some ks => if kvs.length < 16777216 then (match getV ks kvs with
      | some _ => sSd2 i ks md s1
      | none => sSd2 i ks md ⟨setS s1.env i (some (.dcv (kvs ++ [(.tup (ks.map kD), .lst [])]))), s1.mu⟩) else .no
  | _, _ => .no
theorem sk_sdApp {env : List (Option O)} {mu : List O} : sSdApp i mk md ⟨env, mu⟩ = (match getS env i with | some (.dcv _) => (mk ⟨env, mu⟩).bind (sdK2 i md) | _ => .no) := rfl
theorem sk_sdK2 {env : List (Option O)} {mu : List O} {a b : Int} : sdK2 i md (.tup [.int a, .int b]) ⟨env, mu⟩ = (match getS env i with
    | some (.dcv kvs) => if kvs.length < 16777216 then (match getV [.inl a, .inl b] kvs with
      | some _ => sSd2 i [.inl a, .inl b] md ⟨env, mu⟩
      | none => sSd2 i [.inl a, .inl b] md ⟨setS env i (some (.dcv (kvs ++ [(.tup [.int a, .int b], .lst [])]))), mu⟩) else .no
    | _ => .no) := by
  unfold sdK2
  cases getS env i with
  | none => rfl
  | some o => cases o <;> rfl
theorem sk_sd2 {env : List (Option O)} {mu : List O} {ks : List Key} : sSd2 i ks md ⟨env, mu⟩ = (match getS env i with | some (.dcv kvs) => (match getV ks kvs with | some (.lst _) => (md ⟨env, mu⟩).bind (sdK i ks) | _ => .no) | _ => .no) := rfl
theorem sk_sdK {env : List (Option O)} {mu : List O} {ks : List Key} {d : D} : sdK i ks d ⟨env, mu⟩ = (match getS env i with
  | some (.dcv kvs2) => (match getV ks kvs2 with
    | some (.lst xs) => if xs.length < 16777216 then .ok .nx ⟨setS env i (some (.dcv (setV ks (.lst (xs ++ [d])) kvs2))), mu⟩ else .no
    | _ => .no)
  | _ => .no) := rfl
theorem sk_isv {kvs : List (D × O)} : isFz (.dcv kvs) = false := rfl
theorem sk_tdv {kvs : List (D × O)} : O.toD (.dcv kvs) = .dcu (O.toDk kvs) := by rw [O.toD]
end
/-! a list, or another one where it is empty -/
section
variable {X : Cx} {G : Gi} {W : WX} {a b : Expr} {ma mb : M O} {pos : Pos}
def orLK (mb : M O) (o : O) : M O := fun s => match o with
  | .lst xs => if xs.isEmpty = true then mb s else .ok (.lst xs) s
  | .fz (.lst xs) => if xs.isEmpty = true then mb s else .ok (.fz (.lst xs)) s
  | _ => .no
def xOrL (ma mb : M O) : M O := bnd ma (orLK mb)
theorem sk_orL {env : List (Option O)} {mu : List O} : xOrL ma mb ⟨env, mu⟩ = (ma ⟨env, mu⟩).bind (orLK mb) := rfl
theorem sk_orLo {env : List (Option O)} {mu : List O} {xs : List D} : orLK mb (.lst xs) ⟨env, mu⟩ = if xs.isEmpty = true then mb ⟨env, mu⟩ else .ok (.lst xs) ⟨env, mu⟩ := rfl
theorem sk_orLf {env : List (Option O)} {mu : List O} {xs : List D} : orLK mb (.fz (.lst xs)) ⟨env, mu⟩ = if xs.isEmpty = true then mb ⟨env, mu⟩ else .ok (.fz (.lst xs)) ⟨env, mu⟩ := rfl
end
end L2.Tr
namespace L2.Tr
open PySem PySem.Spec PyProof.Rows L2 L2.Pc
/-! ### repr of a tuple of tuples of own instances and of data -/
/-- an own instance lies in it -/
inductive UnH (H : Hp) : Addr → Prop
  | ins {a C dx : Addr} {fs : List (Str × V)} : H a = some (.ins C dx fs) → UnH H a
  | tup {a b : Addr} {vs : List V} : H a = some (.tup vs) → V.ref b ∈ vs → UnH H b → UnH H a
theorem readsAll_mem {h : Heap} : ∀ {vs : List Value} {ds : List PyData} {as : List Addr}, ReadsAll h vs ds as → ∀ v ∈ vs, ∃ d as', Reads h v d as'
  | _, _, _, .nil, v, hv => by cases hv
  | _, _, _, .cons r rs, v, hv => by
    rcases List.mem_cons.mp hv with e | hv
    · subst e; exact ⟨_, _, r⟩
    · exact readsAll_mem rs v hv
theorem vals_mem : ∀ {vs : List V} {us : List Value} {b : Addr}, Vals vs us → V.ref b ∈ vs → Value.ref b ∈ us
  | _, _, _, .nil, h => by cases h
  | _, _, _, .cons r rs, h => by
    rcases List.mem_cons.mp h with e | h
    · subst e; cases r; exact List.mem_cons_self
    · exact List.mem_cons_of_mem _ (vals_mem rs h)
section
variable {X : Cx} {pins : List (Addr × Obj)} {σ : L2.St} {H : Hp} {s : Shared} {G : Gi}
theorem UnH.no (I : Inv X pins σ H s) {a : Addr} (u : UnH H a) : ∀ d as, ¬ Reads s.heap (.ref a) d as := by
  induction u with
  | ins h =>
    intro d as r
    obtain ⟨mA, J, _⟩ := ins_get I.hok h
    obtain ⟨od, J, _⟩ := J.look
    have ho := J.at_
    have hc := J.cls
    cases r with
    | list h1 h2 h3 h4 => rw [ho] at h1; cases h1; rw [hc] at h2; cases h2
    | tuple h1 h2 h3 h4 => rw [ho] at h1; cases h1; rw [hc] at h2; cases h2
    | dict h1 h2 h3 h4 h5 => rw [ho] at h1; cases h1; rw [hc] at h2; cases h2
  | tup h m u ih =>
    intro d as r
    obtain ⟨its, rv, ⟨o, ho, hc, n, hd⟩, _⟩ := I.tuple (.inl (.inl h))
    cases r with
    | list h1 h2 h3 h4 => rw [ho] at h1; cases h1; rw [hc] at h2; exact absurd h2 (by decide)
    | tuple h1 h2 h3 h4 =>
      rw [ho] at h1; cases h1
      rw [hd] at h3; cases h3
      obtain ⟨d', as', r'⟩ := readsAll_mem h4 _ (by simpa using vals_mem rv m)
      exact ih d' as' r'
    | dict h1 h2 h3 h4 h5 => rw [ho] at h1; cases h1; rw [hc] at h2; exact absurd h2 (by decide)
end
/-! ### a method whose text is that of a field's data, within builtin reprs -/
section
variable {X : Cx} {G : Gi} {W : WX} {k : Nat} {tbl : List (Str × MF)} {tp : List (Str × (Str × Str × Str))} {md : M D} {x : Str} {p pos : Pos} {e : Expr}
abbrev phTx (p : Str × Str × Str) (y : Str) : Str := Str.empty ++ p.1 ++ y ++ p.2.2
/-- instances' texts by their own methods, or by a field's data -/
def jM (tbl : List (Str × MF)) (tp : List (Str × (Str × Str × Str))) : List D → Nat → M (List Str)
  | [], _ => ret []
  | d :: ds, n => fun s => match insOf d with
    | some c => (match tbl.lookup c with
      | some mf => (match noExc (runF mf [d] s) with
        | .ok (.fz (.str y)) s' => if n + (y.length + 2) ≤ 16777000 then (jM tbl tp ds (n + (y.length + 2)) s').bind fun ts => ret (y :: ts) else .no
        | _ => .no)
      | none => (match tp.lookup c with
        | some p => (match d with
          | .ins _ fs => (match fs.lookup p.2.1 with
            | some (.tup rs) => (match reprD (.tup rs) with
              | some (.fz (.str y)) => if n + ((phTx p y).length + 2) ≤ 16777000 then (jM tbl tp ds (n + ((phTx p y).length + 2)) s).bind fun ts => ret (phTx p y :: ts) else .no
              | _ => .no)
            | _ => .no)
          | _ => .no)
        | none => .no))
    | none => .no
def hasIns : D → Bool
  | .tup (.ins _ _ :: _) => true
  | _ => false
def tlD : D → Bool
  | .tup _ => true
  | .lst _ => true
  | _ => false
def oM (tbl : List (Str × MF)) (tp : List (Str × (Str × Str × Str))) : List D → Nat → M (List Str)
  | [], _ => ret []
  | d :: ds, n => if hasIns d = true then (match d with
      | .tup es => if n + 1 ≤ 16777000 then bnd (jM tbl tp es (n + 1)) fun ts => if n + ((tupleText ts).length + 2) ≤ 16777000 then bnd (oM tbl tp ds (n + ((tupleText ts).length + 2))) fun us => ret (tupleText ts :: us) else fun _ => .no
        else fun _ => .no
      | _ => fun _ => .no)
    else match reprD d with
      | some (.fz (.str y)) => if n + (y.length + 2) ≤ 16777000 then bnd (oM tbl tp ds (n + (y.length + 2))) fun us => ret (y :: us) else fun _ => .no
      | _ => fun _ => .no
def reprXK (tbl : List (Str × MF)) (tp : List (Str × (Str × Str × Str))) : D → M O
  | .tup ds => if ds.any hasIns = true ∧ ds.all tlD = true then bnd (oM tbl tp ds 0) fun ts => ret (.fz (.str (tupleText ts))) else fun s => ofO (reprD (.tup ds)) s
  | d => fun s => ofO (reprD d) s
/-- repr of things, of tuples of instances among them -/
def xReprX (tbl : List (Str × MF)) (tp : List (Str × (Str × Str × Str))) (md : M D) : M O := bnd md (reprXK tbl tp)
theorem UnH.mo {F F' : Hp} (e : ∀ a o, F a = some o → dictO o = false → F' a = some o) {a : Addr} (u : UnH F a) : UnH F' a := by
  induction u with
  | ins h => exact .ins (e _ _ h rfl)
  | tup h m u ih => exact .tup (e _ _ h rfl) m ih
end
theorem sk_reprX {tbl : List (Str × MF)} {tp : List (Str × (Str × Str × Str))} {md : M D} {env : List (Option O)} {mu : List O} : xReprX tbl tp md ⟨env, mu⟩ = (md ⟨env, mu⟩).bind (reprXK tbl tp) := rfl
end L2.Tr
namespace L2
open PySem PySem.Spec PyProof.Rows
/-! ### sorted(xs), xs a list of tuples of numbers and texts -/
end L2
namespace L2.Tr
open PySem PySem.Spec PyProof.Rows L2 L2.Pc
/-! ### d.setdefault(k, e), k a tuple -/
section
variable {X : Cx} {G : Gi} {W : WX} {e e2 : Expr} {i : Nat} {x : Str} {px pos apos cpos : Pos} {mk md : M D}
/-- d.setdefault(k, e) as a statement -/
def sSdT (i : Nat) (mk md : M D) : M Fl := fun s => match getS s.env i with
  | some (.dcu _) => (mk s).bind fun k s1 => (md s1).bind fun d s2 => (match getS s2.env i, tkeyD k with
    | some (.dcu kvs), some ks => if kvs.length < 16777216 then (match getTD ks kvs with
        | some _ => .ok .nx s2
        | none => .ok .nx ⟨setS s2.env i (some (.dcu (putTD ks d kvs))), s2.mu⟩) else .no
    | _, _ => .no)
  | _ => .no
end
/-! steps -/
section
variable {env : List (Option O)} {mu : List O} {mk md : M D} {i : Nat} {neg : Bool} {a b : Str} {d : D}
theorem sk_inTs : inTK neg i (.tup [.str a, .str b]) ⟨env, mu⟩ = (match dctS ⟨env, mu⟩ i with | some kvs => .ok (.fz (.bl ((getTD [.inr a, .inr b] kvs).isSome != neg))) ⟨env, mu⟩ | none => .no) := by unfold inTK; cases dctS ⟨env, mu⟩ i <;> rfl
theorem sk_ixTs : ixTK i (.tup [.str a, .str b]) ⟨env, mu⟩ = (match dctS ⟨env, mu⟩ i with | some kvs => ofO ((getTD [.inr a, .inr b] kvs).map .fz) ⟨env, mu⟩ | none => .no) := by unfold ixTK; cases dctS ⟨env, mu⟩ i <;> rfl
theorem sk_putTs : putTAt i d (.tup [.str a, .str b]) ⟨env, mu⟩ = (match getP ⟨env, mu⟩ i with | some (.dcu kvs) => if kvs.length < 16777216 then .ok .nx (putP ⟨env, mu⟩ i (.dcu (putTD [.inr a, .inr b] d kvs))) else .no | _ => .no) := by unfold putTAt; cases getP ⟨env, mu⟩ i with | none => rfl | some o => cases o <;> rfl
theorem sk_getTs : getTK i (.tup [.str a, .str b]) d ⟨env, mu⟩ = (match dctS ⟨env, mu⟩ i with | some kvs => .ok (.fz ((getTD [.inr a, .inr b] kvs).getD d)) ⟨env, mu⟩ | none => .no) := by unfold getTK; cases dctS ⟨env, mu⟩ i <;> rfl
def sdTK (i : Nat) (k d : D) : M Fl := fun s2 => match getS s2.env i, tkeyD k with
    | some (.dcu kvs), some ks => if kvs.length < 16777216 then (match getTD ks kvs with
        | some _ => .ok .nx s2
        | none => .ok .nx ⟨setS s2.env i (some (.dcu (putTD ks d kvs))), s2.mu⟩) else .no
    | _, _ => .no
theorem sk_sdT : sSdT i mk md ⟨env, mu⟩ = (match getS env i with | some (.dcu _) => (mk ⟨env, mu⟩).bind fun k => bnd md (sdTK i k) | _ => .no) := rfl
theorem sk_sdTs : sdTK i (.tup [.str a, .str b]) d ⟨env, mu⟩ = (match getS env i with
    | some (.dcu kvs) => if kvs.length < 16777216 then (match getTD [.inr a, .inr b] kvs with
        | some _ => .ok .nx ⟨env, mu⟩
        | none => .ok .nx ⟨setS env i (some (.dcu (putTD [.inr a, .inr b] d kvs))), mu⟩) else .no
    | _ => .no) := by
  unfold sdTK
  cases getS env i with
  | none => rfl
  | some o => cases o <;> rfl
theorem sk_lcTk {vs : List Nat} {t : MT} {mt : M Bool} {me : M D} : xLcT i vs t mt me ⟨env, mu⟩ = (match getS env i with
    | some (.dcu kvs) => lcK vs t mt me (kvs.map (·.1)) ⟨setS env i (some (.fz (.dcu kvs))), mu⟩
    | some (.fz (.dcu kvs)) => lcK vs t mt me (kvs.map (·.1)) ⟨env, mu⟩
    | _ => .no) := by
  unfold xLcT frzS
  cases h : getS env i with
  | none =>
    show (mKeysT i ⟨env, mu⟩).bind _ = _
    unfold mKeysT
    dsimp only
    rw [h]; rfl
  | some o =>
    cases o with
    | dcu kvs =>
      show (mKeysT i ⟨setS env i (some (.fz (.dcu kvs))), mu⟩).bind _ = _
      unfold mKeysT
      dsimp only
      rw [getS_setS h]; rfl
    | fz d =>
      cases d with
      | dcu kvs =>
        show (mKeysT i ⟨env, mu⟩).bind _ = _
        unfold mKeysT
        dsimp only
        rw [h]; rfl
      | _ =>
        show (mKeysT i ⟨env, mu⟩).bind _ = _
        unfold mKeysT
        dsimp only
        rw [h]; rfl
    | _ =>
      show (mKeysT i ⟨env, mu⟩).bind _ = _
      unfold mKeysT
      dsimp only
      rw [h]; rfl
end
end L2.Tr
namespace L2.Tr
open PySem PySem.Spec PyProof.Rows L2 L2.Pc
/-! ### dict([(t, []) for t in xs]): a dict of new lists -/
/-- dict([(t, []) for t in xs]), xs a list of texts that stands in a slot -/
def xDictL (j v : Nat) : M O := fun s => match getS s.env j with
  | some o => (match o.toD with
    | .lst ds => (match allM strD' ds with
      | some ss => if ss.Nodup ∧ ss.length ≤ 16777215 ∧ v < s.env.length then .ok (.dco (ss.map fun s => (.str s, .lst []))) s else .no
      | none => .no)
    | _ => .no)
  | none => .no
/-! ### d[k].append(e), the entries of d its own lists -/
section
variable {X : Cx} {G : Gi} {W : WX} {e e2 : Expr} {i : Nat} {x : Str} {px pos pos2 apos cpos : Pos} {mk md : M D}
def sDa2 (i : Nat) (k : Str) (md : M D) : M Fl := fun s => match getS s.env i with
  | some (.dco kvs) => (match getK k kvs with
    | some (.lst _) => (md s).bind fun d s2 => (match getS s2.env i with
      | some (.dco kvs2) => (match getK k kvs2 with
        | some (.lst xs) => if xs.length < 16777216 then .ok .nx ⟨setS s2.env i (some (.dco (setK k (.lst (xs ++ [d])) kvs2))), s2.mu⟩ else .no
        | _ => .no)
      | _ => .no)
    | _ => .no)
  | _ => .no
def daK (i : Nat) (md : M D) (k : D) : M Fl := fun s1 => match k with
  | .str x => sDa2 i x md s1
  | _ => .no
/-- d[k].append(e), k a text -/
def sDaApp (i : Nat) (mk md : M D) : M Fl := fun s => match getS s.env i with
  | some (.dco _) => (mk s).bind (daK i md)
  | _ => .no
/-! ### d.setdefault(k, e), k a text or a number -/
def sSdKy (i : Nat) (mk md : M D) : M Fl := fun s => match getS s.env i with
  | some (.dct _) => (mk s).bind fun k s1 => (md s1).bind fun d s2 => (match getS s2.env i, keyOfD k with
    | some (.dct kvs), some ks => if kvs.length < 16777216 then (match getKD ks kvs with
        | some _ => .ok .nx s2
        | none => .ok .nx ⟨setS s2.env i (some (.dct (putKD ks d kvs))), s2.mu⟩) else .no
    | _, _ => .no)
  | _ => .no
end
/-! {k: e}, both any expressions -/
def dispGK (md : M D) (k : D) : M O := match keyOfD k with
  | some _ => bnd md fun d => ret (.dct [(k, d)])
  | none => fun _ => .no
def xDispG (mk md : M D) : M O := bnd mk (dispGK md)
/-! steps -/
section
variable {env : List (Option O)} {mu : List O} {mk md : M D} {i j v : Nat} {x : Str} {d : D}
theorem sk_dispG : xDispG mk md ⟨env, mu⟩ = (mk ⟨env, mu⟩).bind (dispGK md) := rfl
theorem sk_dispGs : dispGK md (.str x) ⟨env, mu⟩ = (md ⟨env, mu⟩).bind fun d => ret (.dct [(.str x, d)]) := rfl
theorem sk_dictL : xDictL j v ⟨env, mu⟩ = (match getS env j with
  | some o => (match o.toD with
    | .lst ds => (match allM strD' ds with
      | some ss => if ss.Nodup ∧ ss.length ≤ 16777215 ∧ v < env.length then .ok (.dco (ss.map fun s => (.str s, .lst []))) ⟨env, mu⟩ else .no
      | none => .no)
    | _ => .no)
  | none => .no) := rfl
theorem sk_daApp : sDaApp i mk md ⟨env, mu⟩ = (match getS env i with | some (.dco _) => (mk ⟨env, mu⟩).bind (daK i md) | _ => .no) := rfl
def da3 (i : Nat) (x : Str) (d : D) : M Fl := fun s2 => match getS s2.env i with
      | some (.dco kvs2) => (match getK x kvs2 with
        | some (.lst xs) => if xs.length < 16777216 then .ok .nx ⟨setS s2.env i (some (.dco (setK x (.lst (xs ++ [d])) kvs2))), s2.mu⟩ else .no
        | _ => .no)
      | _ => .no
theorem sk_daKs : daK i md (.str x) ⟨env, mu⟩ = (match getS env i with
  | some (.dco kvs) => (match getK x kvs with
    | some (.lst _) => (md ⟨env, mu⟩).bind (da3 i x)
    | _ => .no)
  | _ => .no) := rfl
theorem sk_da3 : da3 i x d ⟨env, mu⟩ = (match getS env i with
      | some (.dco kvs2) => (match getK x kvs2 with
        | some (.lst xs) => if xs.length < 16777216 then .ok .nx ⟨setS env i (some (.dco (setK x (.lst (xs ++ [d])) kvs2))), mu⟩ else .no
        | _ => .no)
      | _ => .no) := rfl
def sdKyK (i : Nat) (k d : D) : M Fl := fun s2 => match getS s2.env i, keyOfD k with
    | some (.dct kvs), some ks => if kvs.length < 16777216 then (match getKD ks kvs with
        | some _ => .ok .nx s2
        | none => .ok .nx ⟨setS s2.env i (some (.dct (putKD ks d kvs))), s2.mu⟩) else .no
    | _, _ => .no
theorem sk_sdKy : sSdKy i mk md ⟨env, mu⟩ = (match getS env i with | some (.dct _) => (mk ⟨env, mu⟩).bind fun k => bnd md (sdKyK i k) | _ => .no) := rfl
theorem sk_sdKys : sdKyK i (.str x) d ⟨env, mu⟩ = (match getS env i with
    | some (.dct kvs) => if kvs.length < 16777216 then (match getKD (.inr x) kvs with
        | some _ => .ok .nx ⟨env, mu⟩
        | none => .ok .nx ⟨setS env i (some (.dct (putKD (.inr x) d kvs))), mu⟩) else .no
    | _ => .no) := by
  unfold sdKyK
  cases getS env i with
  | none => rfl
  | some o => cases o <;> rfl
theorem sk_isw {kvs : List (D × O)} : isFz (.dco kvs) = false := rfl
theorem sk_tdw {kvs : List (D × O)} : O.toD (.dco kvs) = .dct (O.toDk kvs) := by rw [O.toD]
end
end L2.Tr
namespace L2
open PySem PySem.Spec PyProof.Rows
/-! ### xs.remove(t), texts -/
end L2
namespace L2.Tr
open PySem PySem.Spec PyProof.Rows L2 L2.Pc
section
variable {X : Cx} {G : Gi} {W : WX} {e : Expr} {i : Nat} {x : Str} {px pos apos cpos : Pos} {md : M D}
def remSK (i : Nat) (d : D) : M Fl := fun s1 => match getP s1 i, d with
    | some (.lst xs), .str k => (match allM strD' xs with
      | some ns => if k ∈ ns then .ok .nx (putP s1 i (.lst ((ns.erase k).map .str))) else .no
      | none => .no)
    | _, _ => .no
/-- x.remove(t), x a list of texts -/
def sRemS (i : Nat) (md : M D) : M Fl := fun s => match getP s i with
  | some (.lst _) => (md s).bind (remSK i)
  | _ => .no
/-! sorted(d), d a dict with texts as keys -/
def xSrtKS (i : Nat) : M O := fun s => match getP s i with
  | some (.dct kvs) => (match allM strD' (kvs.map (·.1)) with
    | some ns => if ns.length < 64 then .ok (.lst ((isortB ltS ns).map .str)) s else .no
    | none => .no)
  | _ => .no
end
section
variable {env : List (Option O)} {mu : List O} {md : M D} {i : Nat} {x : Str}
theorem sk_remS : sRemS i md ⟨env, mu⟩ = (match getP ⟨env, mu⟩ i with | some (.lst _) => (md ⟨env, mu⟩).bind (remSK i) | _ => .no) := rfl
theorem sk_remSs : remSK i (.str x) ⟨env, mu⟩ = (match getP ⟨env, mu⟩ i with | some (.lst xs) => (match allM strD' xs with | some ns => if x ∈ ns then .ok .nx (putP ⟨env, mu⟩ i (.lst ((ns.erase x).map .str))) else .no | none => .no) | _ => .no) := by
  unfold remSK
  cases getP ⟨env, mu⟩ i with
  | none => rfl
  | some o => cases o <;> rfl
theorem sk_srtKS : xSrtKS i ⟨env, mu⟩ = (match getP ⟨env, mu⟩ i with | some (.dct kvs) => (match allM strD' (kvs.map (·.1)) with | some ns => if ns.length < 64 then .ok (.lst ((isortB ltS ns).map .str)) ⟨env, mu⟩ else .no | none => .no) | _ => .no) := rfl
end
end L2.Tr
namespace L2
open PySem PySem.Spec PyProof.Rows
/-! ### sorted(d), d a dict with tuples as keys -/
/-! ### d == {}, d != {} -/
end L2
namespace L2.Tr
open PySem PySem.Spec PyProof.Rows L2 L2.Pc
end L2.Tr
namespace L2
open PySem PySem.Spec PyProof.Rows
/-! ### an exception kept behind its suite -/
end L2
namespace L2
open PySem PySem.Spec PyProof.Rows
/-! ### isinstance of a kept exception, its fields -/
structure ExK (K : PySem.W.Frag) (C : Addr) : Prop where
  cl : (PySem.W.clsIn K C).isSome = true
  ga : PySem.W.findIn K (.ref C) "__getattribute__" = some (some (.builtin "BaseException.__getattribute__"))
  gg : PySem.W.findIn K (.ref C) "__getattr__" = some none
  sb : PySem.W.subIn K (.ref C) (.type "BaseException") = some true
  ca : PySem.W.findIn K (.ref C) "__class__" = some (some (.builtin "object.__class__"))
  gn : PySem.W.specialIn K (.builtin "object.__class__") "__get__" = some (some (.builtin "getset_descriptor.__get__"))
  tk : PySem.W.takesIn K (.builtin "object.__class__") = some true
  mr : PySem.W.mroIn K C (.type "object") = some true
/-- a kept exception of class C -/
def KeptX (H : Hp) (a C : Addr) : Prop := ∃ d, L2.Tr.XKp H a C d ∧ (d = none ∨ ∃ dx fs, d = some dx ∧ H dx = some (.xd fs))
section
variable {X : Cx} {pins : List (Addr × Obj)} {σ : St} {H : Hp} {s : Shared}
theorem kept_at {a C : Addr} (I : Inv X pins σ H s) (h : KeptX H a C) : ∃ oe od, PySem.W.InstAt s.heap a oe C od := by
  obtain ⟨d, ⟨oe, h1, ⟨z1, z2⟩, vs, hv⟩, hd⟩ := h
  have e : s.heap.get? a = some oe := (I.hok a _ h1).1
  have nc : PySem.W.notCls oe = true := by unfold PySem.W.notCls; rw [hv]
  rcases hd with rfl | ⟨dx, fs, rfl, hx⟩
  · exact ⟨oe, none, ⟨e, z1, nc, by rw [z2]; trivial⟩⟩
  · obtain ⟨mA, hns, _⟩ := (show ObjOk X.prog X.w H s.heap dx (.xd fs) from I.hok dx _ hx)
    obtain ⟨o, es, ep, ho, _⟩ := hns
    exact ⟨oe, some o, ⟨e, z1, nc, by rw [z2]; exact ho⟩⟩
end
def rIsX (K : PySem.W.Frag) : List V → Hp → VK → Prop := fun xs H Q => ∃ (a C : Addr) (c : V) (b : Bool), xs = [.ref a, c] ∧ KeptX H a C ∧ ExK K C ∧
  ((∃ u, ClsV c u ∧ PySem.W.kitOne K (.ref C) u = some b) ∨ (∃ tp cs us, c = .ref tp ∧ H tp = some (.tup cs) ∧ Paired ClsV cs us ∧ PySem.W.kitAny K (.ref C) us = some b)) ∧ Q (.bl b) H
section
variable {X : Cx}
theorem call_isX : CallR X (.builtin "isinstance") (rIsX X.K) := by
  intro pins s σ H xs us Q I r h
  obtain ⟨a, C, c, b, rfl, hk, T, hc, q⟩ := h
  obtain ⟨u1, u2, rfl, r1, r2⟩ := vals2 r
  cases r1
  obtain ⟨oe, od, J⟩ := kept_at I hk
  have Z := PySem.W.kitx_exc (x := a) (ox := oe) (od := od) T.cl T.ga T.gg T.sb T.ca T.gn T.tk T.mr
  rcases hc with ⟨u, hu, e⟩ | ⟨tp, cs, ws, rfl, hT, k, e⟩
  · have e2 := hu.eq r2
    subst e2
    exact PySem.W.kia_one Z I.kIn J e (fun z => nomatch z) fun tk => ⟨.bl b, H, I.tok tk, rfl, q⟩
  · cases (show u2 = Value.ref tp from r2)
    obtain ⟨_, its, rv, o, h1, h2, n, h3⟩ := (show ObjOk X.prog X.w H s.heap tp (.tup cs) from I.hok tp _ hT)
    have e3 := ClsV.all k rv
    subst e3
    obtain ⟨oc, od2, dt, sl⟩ := o
    simp only at h2 h3
    subst h2 h3
    exact PySem.W.kia_tup Z I.kIn J h1 e (fun z => nomatch z) fun tk => ⟨.bl b, H, I.tok tk, rfl, q⟩
def tXk (K : PySem.W.Frag) (n : Str) (te : TE) : TE := fun σ H Q => te σ H fun x H1 => ∃ (a C dd : Addr) (fs : List (Str × V)) (v : V), x = .ref a ∧ L2.Tr.XKp H1 a C (some dd) ∧ XfC K C ∧ PySem.W.findIn K (.ref C) n = some none ∧ H1 dd = some (.xd fs) ∧ fs.lookup n = some v ∧ Q v H1
theorem pe_xk {e : Expr} {te : TE} {pos : Pos} {n : Str} (he : PE X e te) (hb : attributeBase e n X.env (eval e X.env) = eval e X.env := by rfl) : PE X (.Attribute e n pos) (tXk X.K n te) := by
  refine ⟨fun pins s σ H Q I h => ?_⟩
  refine attr_of hb (thn (he.run pins s σ H _ I h) fun u s1 hh => ?_)
  obtain ⟨x, H1, I1, rx, a, C, dd, fs, v, rfl, ⟨oe, k1, ⟨z1, z2⟩, vs, hv⟩, T, hno, hx, l, q⟩ := hh
  cases rx
  obtain ⟨mA, hns, hr⟩ := (show ObjOk X.prog X.w H1 s1.heap dd (.xd fs) from I1.hok dd _ hx)
  obtain ⟨od, ho, hl⟩ := lookIn_ns hns
  obtain ⟨u, hu, ru⟩ := RelO.some_of (v := v) (o := mA n) (by rw [← l]; exact hr n)
  have J : PySem.W.InstAt s1.heap a oe C (some od) := ⟨(I1.hok a _ k1).1, z1, by unfold PySem.W.notCls; rw [hv], by rw [z2]; exact ho⟩
  exact HandSPX.exc_get I1.kIn J T.ga T.gg T.exC (PySem.W.findObj_own T.hdC hno rfl (by rw [hl, hu])) (handed_of ru) ⟨v, H1, I1.tok _, ru, q⟩
end
end L2
namespace L2.Tr
open PySem PySem.Spec PyProof.Rows L2 L2.Pc
/-! ### try: .. except C as e: v = e -/
/-! ### isinstance(e, C), isinstance(e, (C, ..)), e.f of a kept exception -/
abbrev XITab := List (Str × List (Str × Bool))
abbrev XBTab := List (Str × List (String × Bool))
def isiXc (IX : XITab) (BX : XBTab) (c : Str) : D → Option Bool
  | .fn c' => (IX.lookup c).bind fun r => r.lookup c'
  | .ty n => (BX.lookup c).bind fun r => r.lookup n
  | _ => none
def isiXa (IX : XITab) (BX : XBTab) (c : Str) : List D → Option Bool
  | [] => some false
  | y :: ys => match isiXc IX BX c y with
    | some true => some true
    | some false => isiXa IX BX c ys
    | none => none
def isiX (IX : XITab) (BX : XBTab) : List D → Option O
  | [.xok c _, .tup ys] => (isiXa IX BX c ys).map fun b => .fz (.bl b)
  | [.xok c _, y] => (isiXc IX BX c y).map fun b => .fz (.bl b)
  | _ => none
structure KxI (G : Gi) (IX : XITab) (BX : XBTab) : Prop where
  cl : ∀ c r, IX.lookup c = some r → ∃ C, G.mg c = some (.ref C) ∧ ExK G.K C
  bl : ∀ c r, BX.lookup c = some r → ∃ C, G.mg c = some (.ref C) ∧ ExK G.K C
  ix : ∀ c r c' b, IX.lookup c = some r → r.lookup c' = some b → ∃ C C', G.mg c = some (.ref C) ∧ G.mg c' = some (.ref C') ∧ PySem.W.kitOne G.K (.ref C) (.ref C') = some b
  bx : ∀ c r n b, BX.lookup c = some r → r.lookup n = some b → ∃ C, G.mg c = some (.ref C) ∧ PySem.W.kitOne G.K (.ref C) (.type n) = some b
theorem isiX_one {G : Gi} {IX : XITab} {BX : XBTab} (T : KxI G IX BX) {c : Str} {y : D} {b : Bool} {C : Addr} {F : Hp} {al : List Addr} {v : V} (hC : G.mg c = some (.ref C)) (h : Rp G F al v y) (e : isiXc IX BX c y = some b) :
    ∃ u, ClsV v u ∧ PySem.W.kitOne G.K (.ref C) u = some b := by
  unfold isiXc at e
  split at e
  · obtain ⟨r, h1, h2⟩ := bind_some e
    obtain ⟨C1, C2, k1, k2, k3⟩ := T.ix _ _ _ _ h1 h2
    rw [hC] at k1
    cases k1
    cases h with
    | fn h => rw [k2] at h; cases h; exact ⟨_, .own _, k3⟩
  · obtain ⟨r, h1, h2⟩ := bind_some e
    obtain ⟨C1, k1, k3⟩ := T.bx _ _ _ _ h1 h2
    rw [hC] at k1
    cases k1
    cases h
    exact ⟨_, .ty _, k3⟩
  · cases e
theorem isiX_clsV {G : Gi} {IX : XITab} {BX : XBTab} (T : KxI G IX BX) {c : Str} {C : Addr} {F : Hp} {al : List Addr} (hC : G.mg c = some (.ref C)) : ∀ {vs : List V} {ys : List D} {b : Bool}, RpA G F al vs ys → isiXa IX BX c ys = some b → (∀ y ∈ ys, ∃ b, isiXc IX BX c y = some b) →
    ∃ us, Paired ClsV vs us ∧ PySem.W.kitAny G.K (.ref C) us = some b
  | _, _, b, .nil, e, _ => by cases e; exact ⟨[], .nil, rfl⟩
  | _, y :: ys, b, .cons h hs, e, ha => by
    obtain ⟨b1, e1⟩ := ha y List.mem_cons_self
    obtain ⟨u, h1, h2⟩ := isiX_one T hC h e1
    rw [isiXa, e1] at e
    have hx : ∃ bx, isiXa IX BX c ys = some bx := by
      have : ∀ ys : List D, (∀ y ∈ ys, ∃ b, isiXc IX BX c y = some b) → ∃ bx, isiXa IX BX c ys = some bx := fun ys => by
        induction ys with
        | nil => exact fun _ => ⟨false, rfl⟩
        | cons z zs ih =>
          intro h
          obtain ⟨bz, ez⟩ := h z List.mem_cons_self
          rw [isiXa, ez]
          cases bz with
          | true => exact ⟨true, rfl⟩
          | false => exact ih fun y hy => h y (List.mem_cons_of_mem _ hy)
      exact this ys fun y hy => ha y (List.mem_cons_of_mem _ hy)
    obtain ⟨bx, ex⟩ := hx
    obtain ⟨us, p, k⟩ := isiX_clsV T hC hs ex fun y hy => ha y (List.mem_cons_of_mem _ hy)
    refine ⟨u :: us, .cons h1 p, ?_⟩
    unfold PySem.W.kitAny
    rw [h2]
    cases b1 with
    | true => exact e
    | false =>
      dsimp only at e
      rw [ex] at e
      cases e
      exact k
theorem own_xok {G : Gi} {st : S} {σ : L2.St} {c : Cf} {x : V} {d : D} {cn : Str} {ds : List (Str × D)} (r : Rel G st σ c) (h : Rp G c.F c.al x d) (e : d = .xok cn ds) :
    ∃ a C, x = .ref a ∧ G.mg cn = some (.ref C) ∧ KeptX c.H a C ∧ (∀ f d2, ds.lookup f = some d2 → ∃ dx fs u, XKp c.H a C (some dx) ∧ c.H dx = some (.xd fs) ∧ fs.lookup f = some u ∧ Rp G c.F c.al u d2) := by
  subst e
  cases h with
  | xok k1 k2 k3 k4 k5 =>
    obtain ⟨oe, q1, q2⟩ := k1
    have kk : XKp c.H _ _ _ := ⟨oe, r.sub _ _ q1, q2⟩
    refine ⟨_, _, rfl, k2, ⟨_, kk, .inr ⟨_, _, rfl, r.sub _ _ k3⟩⟩, fun f d2 hl => ?_⟩
    obtain ⟨u, l1, l2⟩ := lk_rp k4 k5 hl
    exact ⟨_, _, u, kk, r.sub _ _ k3, l1, l2⟩
  | xok0 k1 k2 =>
    obtain ⟨oe, q1, q2⟩ := k1
    exact ⟨_, _, rfl, k2, ⟨_, ⟨oe, r.sub _ _ q1, q2⟩, .inl rfl⟩, fun f d2 hl => by cases hl⟩
def isiXT (IX : XITab) (BX : XBTab) (ds : List D) : Option O := match ds with
  | [.xok c fs, .tup ys] => if (ys.all fun y => (isiXc IX BX c y).isSome) = true ∧ (IX.lookup c).isSome = true then isiX IX BX [.xok c fs, .tup ys] else none
  | ds => isiX IX BX ds
theorem d_isiX {G : Gi} {IX : XITab} {BX : XBTab} (T : KxI G IX BX) : CnD G (rIsX G.K) (isiXT IX BX) := by
  intro st σ c vs ds o Q r rv e q
  unfold isiXT at e
  split at e
  · rename_i cn fs ys
    split at e
    · rename_i hc
      obtain ⟨b, h1, rfl⟩ := map_some e
      cases rv with
      | cons h hs =>
        cases hs with
        | cons h' hs' =>
          cases hs'
          obtain ⟨a, C, rfl, hC, hk, _⟩ := own_xok r h rfl
          obtain ⟨row, hrow⟩ := Option.isSome_iff_exists.mp hc.2
          obtain ⟨C2, k1, ek⟩ := T.cl _ _ hrow
          rw [hC] at k1
          cases k1
          cases h' with
          | tup t1 t2 =>
            obtain ⟨us, p, k⟩ := isiX_clsV T hC t2 h1 fun y hy => Option.isSome_iff_exists.mp (List.all_eq_true.mp hc.1 y hy)
            exact ⟨a, C, _, b, rfl, hk, ek, .inr ⟨_, _, us, rfl, r.sub _ _ t1, p, k⟩, fin r (.bl _) q⟩
    · cases e
  · rename_i hne
    unfold isiX at e
    split at e
    · rename_i cn fs ys
      exact absurd rfl (hne cn fs ys)
    · rename_i cn fs y hy
      obtain ⟨b, h1, rfl⟩ := map_some e
      cases rv with
      | cons h hs =>
        cases hs with
        | cons h' hs' =>
          cases hs'
          obtain ⟨a, C, rfl, hC, hk, _⟩ := own_xok r h rfl
          have ek : ExK G.K C := by
            unfold isiXc at h1
            split at h1
            · obtain ⟨row, e1, _⟩ := bind_some h1
              obtain ⟨C2, k1, ek⟩ := T.cl _ _ e1
              rw [hC] at k1; cases k1; exact ek
            · obtain ⟨row, e1, _⟩ := bind_some h1
              obtain ⟨C2, k1, ek⟩ := T.bl _ _ e1
              rw [hC] at k1; cases k1; exact ek
            · cases h1
          obtain ⟨u, h2, h3⟩ := isiX_one T hC h' h1
          exact ⟨a, C, _, b, rfl, hk, ek, .inl ⟨u, h2, h3⟩, fin r (.bl _) q⟩
    · cases e
theorem k_isX {X : Cx} {K : PySem.W.Frag} (h : X.K = K) : CallR X (.builtin "isinstance") (rIsX K) := h ▸ call_isX
def xkO (XT : CTab) (f : Str) (d : D) : Option O := match d with
  | .xok c fs => if okF XT c f = true then (fs.lookup f).map .fz else none
  | _ => none
/-- e.f, e a kept exception -/
def xXk (XT : CTab) (f : Str) (m : M D) : M O := bnd m fun d => ofO (xkO XT f d)
theorem x_xk {X : Cx} {G : Gi} {XT : CTab} {e : Expr} {W : WX} {m : M D} {pos : Pos} {f : Str} (hK : X.K = G.K) (T : Kx G XT) (he : PE X e (tD G W m)) (hb : attributeBase e f X.env (eval e X.env) = eval e X.env := by rfl) :
    PE X (.Attribute e f pos) (tO G W (xXk XT f m)) :=
  (pe_xk he hb).weak fun σ H Q q => by
    show tD G W m σ H fun x H1 => ∃ (a C dd : Addr) (fs : List (Str × V)) (v : V), x = .ref a ∧ XKp H1 a C (some dd) ∧ XfC X.K C ∧ PySem.W.findIn X.K (.ref C) f = some none ∧ H1 dd = some (.xd fs) ∧ fs.lookup f = some v ∧ Q v H1
    refine q.seq bkO _ (fun d v c c1 st1 r1 g1 p1 w => ?_)
    obtain ⟨o', e1, q3⟩ := wp_ofO.mp w
    unfold xkO at e1
    split at e1
    · rename_i cn fs
      split at e1
      · rename_i hk
        obtain ⟨d2, e2, rfl⟩ := map_some e1
        obtain ⟨a, C, rfl, hC, _, hl⟩ := own_xok r1 p1 rfl
        obtain ⟨dx, fs2, u, k1, k2, k3, k4⟩ := hl f d2 e2
        obtain ⟨C2, t1, t2, t3⟩ := T.ex _ _ hk
        rw [hC] at t1
        cases t1
        rw [hK]
        exact ⟨a, C, dx, fs2, u, rfl, k1, t2, t3, k2, k3, q3 u c1 r1 (GoE.refl r1) (prO_fz k4)⟩
      · cases e1
    · cases e1
section
variable {env : List (Option O)} {mu : List O} {md : M D} {mb : M Fl} {i j : Nat} {tbl : List (Str × Bool)} {s s' : S} {x : Exc} {f : Fl} {c : Str} {fs : List (Str × D)} {XT : CTab}
theorem sk_xXk {n : Str} : xXk XT n md ⟨env, mu⟩ = (md ⟨env, mu⟩).bind fun d => ofO (xkO XT n d) := rfl
end
/-! ### tables -/
theorem bt_ValueError : bootBuiltins "ValueError" = some (.type "ValueError") := by decide +kernel
theorem kit_sub {K : PySem.W.Frag} {C C2 : Addr} (h : PySem.W.mroIn K C (.type "object") = some true) (ty : PySem.W.typeIn K (.ref C) = some (.type "type")) (su : PySem.W.subIn K (.ref C2) (.ref C) = some true) : PySem.W.kitOne K (.ref C2) (.ref C) = some true := by
  cases e : (Value.ref C2 == Value.ref C) with
  | true => unfold PySem.W.kitOne; rw [e]; rfl
  | false => exact kit_up h ty su e
theorem lookup_memB {α β : Type} [BEq α] [LawfulBEq α] {k : α} {v : β} : ∀ {l : List (α × β)}, l.lookup k = some v → (k, v) ∈ l
  | [], h => by cases h
  | (a, b) :: l, h => by
    rw [List.lookup] at h
    split at h
    · rename_i e
      cases h
      have e := eq_of_beq e
      subst e
      exact List.mem_cons_self
    · exact List.mem_cons_of_mem _ (lookup_memB h)
theorem kxi_of {G : Gi} {IX : XITab} {BX : XBTab} (h : ∀ p ∈ IX, ∃ C, G.mg p.1 = some (.ref C) ∧ ExK G.K C ∧ ∀ q ∈ p.2, ∃ C', G.mg q.1 = some (.ref C') ∧ PySem.W.kitOne G.K (.ref C) (.ref C') = some q.2)
    (h2 : ∀ p ∈ BX, ∃ C, G.mg p.1 = some (.ref C) ∧ ExK G.K C ∧ ∀ q ∈ p.2, PySem.W.kitOne G.K (.ref C) (.type q.1) = some q.2) : KxI G IX BX where
  cl := fun c r e => by
    obtain ⟨C, k1, k2, _⟩ := h _ (lookup_mem e)
    exact ⟨C, k1, k2⟩
  bl := fun c r e => by
    obtain ⟨C, k1, k2, _⟩ := h2 _ (lookup_mem e)
    exact ⟨C, k1, k2⟩
  ix := fun c r c' b e e2 => by
    obtain ⟨C, k1, _, k3⟩ := h _ (lookup_mem e)
    obtain ⟨C', q1, q2⟩ := k3 _ (lookup_mem e2)
    exact ⟨C, C', k1, q1, q2⟩
  bx := fun c r n b e e2 => by
    obtain ⟨C, k1, _, k3⟩ := h2 _ (lookup_mem e)
    exact ⟨C, k1, k3 _ (lookup_memB e2)⟩
/-! ### x += e, x -= e, numbers -/
def augK (neg : Bool) (i : Nat) (a : Int) (d : D) : M Fl := fun s => match d with
  | .int b => .ok .nx ⟨setS s.env i (some (.fz (.int (if neg = true then a - b else a + b)))), s.mu⟩
  | _ => .no
def sAugI (neg : Bool) (i : Nat) (md : M D) : M Fl := fun s => match getS s.env i with
  | some (.fz (.int a)) => (md s).bind (augK neg i a)
  | _ => .no
section
variable {env : List (Option O)} {mu : List O} {md : M D} {i : Nat} {neg : Bool} {a b : Int}
theorem sk_augI : sAugI neg i md ⟨env, mu⟩ = (match getS env i with | some (.fz (.int a)) => (md ⟨env, mu⟩).bind (augK neg i a) | _ => .no) := rfl
theorem sk_augKa : augK false i a (.int b) ⟨env, mu⟩ = .ok .nx ⟨setS env i (some (.fz (.int (a + b)))), mu⟩ := rfl
theorem sk_augKb : augK true i a (.int b) ⟨env, mu⟩ = .ok .nx ⟨setS env i (some (.fz (.int (a - b)))), mu⟩ := rfl
end
end L2.Tr
namespace L2
open PySem PySem.Spec PyProof.Rows
/-! ### tuple(xs) whose object is known to have no dict, and t.index(x) of such -/
end L2
namespace L2.Tr
open PySem PySem.Spec PyProof.Rows L2 L2.Pc
section
variable {X : Cx} {G : Gi} {W : WX} {st : S} {σ : L2.St} {c : Cf} {o e : Expr} {m : M O} {md : M D} {pos apos : Pos}
def tunD : D → Option O
  | .lst ds => some (.fz (.tun ds))
  | .lsk ds => some (.fz (.tun ds))
  | _ => none
/-- t.index(x) -/
def tixD : D → List D → Option O
  | .tun ds, [.str z] => match allM strD' ds with
    | some ss => if z ∈ ss then some (.fz (.int (ss.idxOf z : Nat))) else none
    | none => none
  | _, _ => none
def isTn : D → Bool
  | .tun _ => true
  | _ => false
def xTix (mo : M O) (md : M D) : M O := bnd mo fun ox => if isTn ox.toD then bnd md fun d => ofO (tixD ox.toD [d]) else fun _ => .no
@[simp] theorem xTix_app (mo : M O) (md : M D) (s : S) : xTix mo md s = (mo s).bind fun ox s1 => (if isTn ox.toD then bnd md fun d => ofO (tixD ox.toD [d]) else fun _ => .no) s1 := rfl
/-! ### steps -/
theorem sk_tunl {ds : List D} : tunD (.lst ds) = some (.fz (.tun ds)) := rfl
theorem sk_xTix {env : List (Option O)} {mu : List O} : xTix m md ⟨env, mu⟩ = (m ⟨env, mu⟩).bind fun x => if isTn x.toD = true then bnd md fun d => ofO (tixD x.toD [d]) else fun _ => .no := rfl
theorem sk_isitn {xs : List D} : isiD [.tun xs, .ty "tuple"] = some (.fz (.bl true)) := rfl
theorem sk_nntn {xs : List D} : Tr.isNon (.tun xs) = false := rfl
theorem sk_lentn {xs : List D} : lenD (.tun xs) = some (.fz (.int xs.length)) := rfl
theorem sk_istn {ds : List D} : isTn (.tun ds) = true := rfl
theorem sk_sitn {ds : List D} : seqI (.tun ds) = some ds := rfl
end
end L2.Tr
namespace L2
open PySem PySem.Spec PyProof.Rows
/-! ### except C as e: a suite in which e is an object like others -/
end L2
namespace L2.Tr
open PySem PySem.Spec PyProof.Rows L2 L2.Pc
end L2.Tr
namespace L2.Tr
open PySem PySem.Spec PyProof.Rows L2 L2.Pc
/-! ### texts parted and counted -/
end L2.Tr
namespace L2.Tr
open PySem PySem.Spec PyProof.Rows L2 L2.Pc
/-! ### raise X('m'): own classes without an own __init__ -/
structure XoT (G : Gi) (x : Str) : Prop where
  ex : ∃ C : Addr, G.mg x = some (.ref C) ∧ PySem.W.excIn G.K C [.type "ValueError", .type "Exception", .type "BaseException", .type "object"] "ValueError.__new__" = true ∧ PySem.W.keepIn G.K (.ref C) = true ∧
    PySem.W.subIn G.K (.ref C) (.type "BaseException") = some true ∧ PySem.W.typeIn G.K (.ref C) = some (.type "type")
end L2.Tr
namespace L2.Tr
open PySem PySem.Spec PyProof.Rows L2 L2.Pc
/-! ### xs[a::k] of lists: from a place on, each k-th -/
end L2.Tr
namespace L2.Tr
open PySem PySem.Spec PyProof.Rows L2 L2.Pc
/-! ### a, b = a list -/
/-! ### s.startswith(t) -/
end L2.Tr
namespace L2
open PySem PySem.Spec PyProof.Rows
end L2
namespace L2.Tr
open PySem PySem.Spec PyProof.Rows L2 L2.Pc
/-! ### sorted(set(xs)), xs a list of numbers -/
end L2.Tr
namespace L2.Tr
open PySem PySem.Spec PyProof.Rows L2 L2.Pc
/-! ### x.insert(k, e), and x.pop(k) as a statement -/
def sIns (i : Nat) (mk md : M D) : M Fl := fun s => match getP s i with
  | some (.lst _) => (mk s).bind fun dk s1 => (md s1).bind fun d s2 => (match getP s2 i, dk with
    | some (.lst xs), .int k => if xs.length < 16777216 ∧ 0 ≤ k ∧ k < 2 ^ 63 then .ok .nx (putP s2 i (.lst (xs.take k.toNat ++ [d] ++ xs.drop k.toNat))) else .no
    | _, _ => .no)
  | _ => .no
def sPopN (i : Nat) (md : M D) : M Fl := fun s => match getP s i with
  | some (.lst _) => (md s).bind fun dk s1 => (match getP s1 i, dk with
    | some (.lst xs), .int k => if 0 ≤ k ∧ k < (xs.length : Int) ∧ k < 2 ^ 63 then .ok .nx (putP s1 i (.lst (xs.eraseIdx k.toNat))) else .no
    | _, _ => .no)
  | _ => .no
/-! ### a slot that may hold a cell -/
def isCl (s : S) (i : Nat) : Bool := match getS s.env i with
  | some (.fz (.cel _)) => true
  | _ => false
def sAlt (i : Nat) (a b : M Fl) : M Fl := fun s => if isCl s i = true then a s else b s
def xAlt (i : Nat) (a b : M O) : M O := fun s => if isCl s i = true then a s else b s
/-! steps -/
section
variable {a b : M Fl} {ma mb : M O} {env : List (Option O)} {mu : List O} {mk md : M D} {i : Nat} {d : D} {k : Int}
def insK (i : Nat) (k d : D) : M Fl := fun s2 => match getP s2 i, k with
    | some (.lst xs), .int k => if xs.length < 16777216 ∧ 0 ≤ k ∧ k < 2 ^ 63 then .ok .nx (putP s2 i (.lst (xs.take k.toNat ++ [d] ++ xs.drop k.toNat))) else .no
    | _, _ => .no
theorem sk_ins : sIns i mk md ⟨env, mu⟩ = (match getP ⟨env, mu⟩ i with | some (.lst _) => (mk ⟨env, mu⟩).bind fun k => bnd md (insK i k) | _ => .no) := rfl
theorem sk_insi : insK i (.int k) d ⟨env, mu⟩ = (match getP ⟨env, mu⟩ i with | some (.lst xs) => if xs.length < 16777216 ∧ 0 ≤ k ∧ k < 2 ^ 63 then .ok .nx (putP ⟨env, mu⟩ i (.lst (xs.take k.toNat ++ [d] ++ xs.drop k.toNat))) else .no | _ => .no) := by
  unfold insK
  cases getP ⟨env, mu⟩ i with
  | none => rfl
  | some o => cases o <;> rfl
def popNK (i : Nat) (k : D) : M Fl := fun s2 => match getP s2 i, k with
    | some (.lst xs), .int k => if 0 ≤ k ∧ k < (xs.length : Int) ∧ k < 2 ^ 63 then .ok .nx (putP s2 i (.lst (xs.eraseIdx k.toNat))) else .no
    | _, _ => .no
theorem sk_popN : sPopN i md ⟨env, mu⟩ = (match getP ⟨env, mu⟩ i with | some (.lst _) => (md ⟨env, mu⟩).bind (popNK i) | _ => .no) := rfl
theorem sk_popNi : popNK i (.int k) ⟨env, mu⟩ = (match getP ⟨env, mu⟩ i with | some (.lst xs) => if 0 ≤ k ∧ k < (xs.length : Int) ∧ k < 2 ^ 63 then .ok .nx (putP ⟨env, mu⟩ i (.lst (xs.eraseIdx k.toNat))) else .no | _ => .no) := by
  unfold popNK
  cases getP ⟨env, mu⟩ i with
  | none => rfl
  | some o => cases o <;> rfl
theorem sk_salt : sAlt i a b ⟨env, mu⟩ = (match getS env i with | some (.fz (.cel _)) => a ⟨env, mu⟩ | _ => b ⟨env, mu⟩) := by
  unfold sAlt isCl
  dsimp only
  cases getS env i with
  | none => rfl
  | some o => cases o with
    | fz d => cases d <;> rfl
    | _ => rfl
theorem sk_xalt : xAlt i ma mb ⟨env, mu⟩ = (match getS env i with | some (.fz (.cel _)) => ma ⟨env, mu⟩ | _ => mb ⟨env, mu⟩) := by
  unfold xAlt isCl
  dsimp only
  cases getS env i with
  | none => rfl
  | some o => cases o with
    | fz d => cases d <;> rfl
    | _ => rfl
end
end L2.Tr
namespace L2.Tr
open PySem PySem.Spec PyProof.Rows L2 L2.Pc
/-! ### bool(x), x an own instance with __len__, without __bool__ -/
section
variable {X : Cx} {G : Gi} {W : WX} {gb : Bool} {k : Nat} {tbl : List (Str × MF)} {md : M D} {x : Str} {p pos : Pos} {e : Expr}
def boB : O → Option O
  | .fz (.int i) => if 0 ≤ i ∧ i < 4611686018427387904 then some (.fz (.bl (i != 0))) else none
  | _ => none
/-- the truth of an own instance by its __len__ -/
def runBo (tbl : List (Str × MF)) (d : D) : M O := fun s => match insOf d with
  | some c => (match tbl.lookup c with
    | some mf => (match noExc (runF mf [d] s) with
      | .ok o s' => ofO (boB o) s'
      | _ => .no)
    | none => .no)
  | none => .no
def xBo (tbl : List (Str × MF)) (md : M D) : M O := bnd md (runBo tbl)
end
/-! ### powers of greater numbers -/
section
variable {tbl : List (Str × MF)} {md : M D} {env : List (Option O)} {mu : List O} {d : D}
theorem sk_bo : xBo tbl md ⟨env, mu⟩ = (md ⟨env, mu⟩).bind (runBo tbl) := rfl
end
/-! ### methods and defs called with defaults -/
end L2.Tr
/-! ### own exceptions made as values, by places and by names -/
namespace PySem
namespace HandSPX
open Builtin Builtin.ObjectAttr
section
variable {M : Model} {A : Around} {E : Value → Shared → Prop} {h : Heap} {g : Array GenState} {d : Drawn} {t : Nat} {os : OsState}
variable {nm q : Str} {C N : Addr} {bs bm bmB : List Value} {hdct : Bool} {sn : List Str} {sub : List Value} {ab : Bool} {col : Option Bool} {dd : Option Addr} {k0 k1 k2 k3 k5 : Option Value} {B newId initId : String}
theorem check_new_ownK (F : ExcBaseFacts B newId initId bmB) (hT : ∀ X : String, bm.contains (.type X) = bmB.contains (.type X)) {rest : List Value} {kw : List (Str × Value)} {Q : Unit → Shared → Prop}
    (hC : h.get? C = some (excClassObj nm q C N bs bm hdct sn sub ab col dd k0 k1 k2 k3 k5 newId)) (hq : Q () ⟨h, g, d, t, os⟩) : wpAny M A (checkBuiltinCall newId ⟨.ref C :: rest, kw⟩) Q E ⟨h, g, d, t, os⟩ := by
  have hcont : (Value.ref C :: bm).contains (.type B) = true := by rw [List.contains_cons, hT, F.hasB, Bool.or_true]
  have hstar := F.noStar
  simp only [checkBuiltinCall, F.newKind, F.newSplit, F.newRow]
  repeat (first | refine wpAny_loadPart_at hC ?_ | (refine wpAny_isSubtype_exc hC ?_; rw [hcont]) | refine wpAny_staticBase_exc hC ?_ | refine wpAny_madeBy_exc hC ?_ | simp only [bne_self_eq_false, Bool.false_eq_true, if_false] | wp_step)
  exact hq
theorem check_type_call_subK {rest : List Value} {kw : List (Str × Value)} {Q : Unit → Shared → Prop} (hC : h.get? C = some (excClassObj nm q C N bs bm hdct sn sub ab col dd k0 k1 k2 k3 k5 newId))
    (hq : Q () ⟨h, g, d, t, os⟩) : wpAny M A (checkBuiltinCall "type.__call__" ⟨.ref C :: rest, kw⟩) Q E ⟨h, g, d, t, os⟩ := by
  have f3 := tc_sub
  have hT : (⟨h, g, d, t, os⟩ : Shared).TypeIs (.ref C) "type" := ⟨_, hC, rfl⟩
  simp only [checkBuiltinCall, tc_kind, tc_split]
  repeat (any_goals (first | assumption | with_reducible refine wpAny_loadPart_at hC ?_ | with_reducible refine wpAny_onRaise ?_ | with_reducible refine wpAny_map ?_ | wp_step))
end
section
variable {prog : Program} {w : World} {A : Around} {E : Value → Shared → Prop} {R : Result → Shared → Prop} {h : Heap} {g : Array GenState} {d : Drawn} {t : Nat} {os : OsState}
variable {nm q : Str} {C N : Addr} {bs bm bmB : List Value} {hdct : Bool} {sn : List Str} {sub : List Value} {ab : Bool} {col : Option Bool} {dd : Option Addr} {k0 k1 k2 k3 k5 : Option Value} {B newId initId : String}
theorem new_ownK (F : ExcBaseFacts B newId initId bmB) (hT : ∀ X : String, bm.contains (.type X) = bmB.contains (.type X)) {rest : List Value} {kw : List (Str × Value)}
    (hC : h.get? C = some (excClassObj nm q C N bs bm hdct sn sub ab col dd k0 k1 k2 k3 k5 newId))
    (hq : R (.ok (.ret (.ref (h.objs.size + 1)))) ⟨(h.push { cls := .type "tuple", data := .seq rest.toArray }).push
      { cls := .ref C, data := .fields #[.ref h.objs.size, .none, .none, .none, .bool false, .none] }, g, d, t, os⟩) (hrest : rest.length ≤ sizeLine) :
    codeAny (model prog w) A (.builtin newId ⟨.ref C :: rest, kw⟩) R ⟨h, g, d, t, os⟩ := by
  have hends := F.ends
  have hcB : (Value.ref C :: bm).contains (.type B) = true := by rw [List.contains_cons, hT, F.hasB, Bool.or_true]
  have hcA : (Value.ref C :: bm).contains (.type "AttributeError") = false := by rw [List.contains_cons, hT, F.noAttr]; rfl
  have hcN : (Value.ref C :: bm).contains (.type "NameError") = false := by rw [List.contains_cons, hT, F.noName]; rfl
  refine codeAny_builtinAt F.entry ?_
  unfold Builtin.«BaseException.__new__»
  refine wpAt_bind ?_
  show wpAt _ _ _ (stack >>= _) _ _ _
  refine wpAt_bind (wpAt_stack fun p below => wpAt_of_wpAny ?_)
  wp_walk
  refine wpAt_of_wpAny ?_
  rw [F.owner]
  repeat (first | with_reducible refine wpAny_madeHere_exc F.canon hC ?_ | with_reducible refine wpAny_loadPart_at hC ?_ | (with_reducible refine wpAny_isSubtype_exc hC ?_; first | rw [hcB] | rw [hcA] | rw [hcN]) | wp_step)
  show R _ _
  rw [Heap.size_push]
  exact hq
theorem type_call_ownK (F : ExcBaseFacts B newId initId bmB) (hT : ∀ X : String, bm.contains (.type X) = bmB.contains (.type X)) {rest : List Value} {kw : List (Str × Value)} {fI : Addr} {Q : Fin → Shared → Prop}
    (hC : h.get? C = some (excClassObj nm q C N bs bm hdct sn sub ab col dd k0 k1 k2 k3 k5 newId))
    (hi : W.Looks (model prog w) h (typeLookup (.ref C) "__init__") (some (.ref fI))) (hb : ∀ self, W.Looks (model prog w) h (bindSpecial (.ref fI) self) (.ref fI, [self])) (hrest : rest.length ≤ sizeLine)
    (hq : codeAny (model prog w) A (.call (.ref fI) ⟨.ref (h.objs.size + 1) :: rest, kw⟩)
      (fun r s' => match r with | .ok (.ret v) => v = .none ∧ Q (.done (.ret (.ref (h.objs.size + 1)))) s' | .ok _ => False | .error e => E e s')
      ⟨(h.push (W.kdv_tup rest)).push (excO C h.objs.size), g, d, t, os⟩) :
    wpAny (model prog w) A (Builtin.«type.__call__» ⟨.ref C :: rest, kw⟩) Q E ⟨h, g, d, t, os⟩ := by
  repeat (first | with_reducible refine wpAny_loadPart_at hC ?_ | with_reducible refine wpAny_madeBy_exc hC ?_ | wp_step)
  refine codeAny_call_builtin_code (Code.quiet_builtin _ F.quiet) (check_new_ownK F hT hC ?_)
  refine new_ownK F hT hC ?_ hrest
  show wpAny _ _ _ _ _ _
  have k : ∀ b o, h.get? b = some o → ((h.push (W.kdv_tup rest)).push (excO C h.objs.size)).get? b = some o := fun b o e => Heap.get?_push_of_some _ (Heap.get?_push_of_some _ e)
  have hC₁ := k _ _ hC
  have hget : ((h.push (W.kdv_tup rest)).push (excO C h.objs.size)).get? (h.objs.size + 1) = some (excO C h.objs.size) := by heap_get
  have hcC : (Value.ref C :: bm).contains (.ref C) = true := by simp
  have i1 := hi.keeps k
  have b1 := (hb (.ref (h.objs.size + 1))).keeps k
  unfold isInstance
  repeat (first | with_reducible refine wpAny_loadPart_at hget ?_ | (with_reducible refine wpAny_isSubtype_exc hC₁ ?_; rw [hcC]) | wp_step)
  show wpAny _ _ (typeLookup (.ref C) _) _ _ _
  refine i1.at ?_
  refine wpAny_holding (wpAny_bind (b1.at ?_))
  refine wpAny_bind (wpAny_call (codeAny_mono hq fun r s' z => ?_))
  rcases r with e | (v | _ | _ | _) <;> first | exact z | exact z.elim | skip
  obtain ⟨rfl, z⟩ := z
  first
    | exact wpAny_pure (wpAny_pure z)
    | (wp_walk; exact z)
theorem call_ownK (F : ExcBaseFacts B newId initId bmB) (hT : ∀ X : String, bm.contains (.type X) = bmB.contains (.type X)) {rest : List Value} {kw : List (Str × Value)} {fI : Addr}
    (hC : h.get? C = some (excClassObj nm q C N bs bm hdct sn sub ab col dd k0 k1 k2 k3 k5 newId))
    (hi : W.Looks (model prog w) h (typeLookup (.ref C) "__init__") (some (.ref fI))) (hb : ∀ self, W.Looks (model prog w) h (bindSpecial (.ref fI) self) (.ref fI, [self])) (hrest : rest.length ≤ sizeLine)
    (hq : codeAny (model prog w) (A.under (.builtin "type.__call__" ⟨.ref C :: rest, kw⟩)) (.call (.ref fI) ⟨.ref (h.objs.size + 1) :: rest, kw⟩) (W.InitBack (h.objs.size + 1) R)
      ⟨(h.push (W.kdv_tup rest)).push (excO C h.objs.size), g, d, t, os⟩) :
    codeAny (model prog w) A (.call (.ref C) ⟨rest, kw⟩) R ⟨h, g, d, t, os⟩ := by
  have f1 := tc_lookup
  have f2 := tc_bind (.ref C)
  have hTy : (⟨h, g, d, t, os⟩ : Shared).TypeIs (.ref C) "type" := ⟨_, hC, rfl⟩
  refine codeAny_of_tree ?_
  show wpAny _ _ (callAny (.ref C) _) _ _ _
  repeat (any_goals (first | assumption | with_reducible refine wpAny_loadPart_at hC ?_ | wp_step))
  refine ⟨rfl, ?_⟩
  refine codeAny_call_builtin_at (Code.quiet_builtin _ (by decide +kernel)) entry_typeCall (check_type_call_subK hC (type_call_ownK F hT hC hi hb hrest ?_))
  refine codeAny_mono hq fun r s' z => ?_
  rcases r with e | (v | _ | _ | _) <;> exact z
end
end HandSPX
end PySem
namespace L2.Tr
open PySem PySem.Spec PyProof.Rows L2 L2.Pc
/-- an own exception class with its own __init__, and how its call binds -/
structure XvT (P : Program) (w : World) (G : Gi) (base : Heap) (x : Str) (k n : Nat) (fns ks : List Str) (gD : List D → List D → List D) : Prop where
  ex : ∃ (C fI : Addr) (fd : FuncData) (p : Str) (ps : List Str), XcK G.K G.mg x C fI fns ∧ FnOk P w G.K G.mg base CX0 k fI fd (p :: ps) (SpXi C fns.length (fun ys => (fns.zip ys).reverse)) ∧ BdI G.K fd (p :: ps) n ks gD ∧ ps.length = fns.length
/-- X(..) as a value -/
def xExv (x : Str) (fns : List Str) (gD : List D → List D → List D) (n k : Nat) (ma mk : M (List D)) : M O := bnd ma fun ds => bnd mk fun es s =>
  if (ds.length = n ∧ es.length = k) ∧ ds.length ≤ 1000 ∧ (gD ds es).length = fns.length then .ok (.fz (.xok x (fns.zip (gD ds es)).reverse)) s else .no
section
variable {X : Cx} {G : Gi} {W : WX} {k n : Nat} {fns ks : List Str} {gD : List D → List D → List D} {x : Str} {p pos : Pos} {e : Expr} {es : List Expr} {kws : List Keyword} {ma mk : M (List D)}
/-- what is asked of the value -/
def XvQ (C : Addr) (fl : List V → List (Str × V)) (n : Nat) (gV : List V → List V → List V) (vs zs : List V) (H : Hp) (Q : VK) : Prop :=
  ∀ a, H a = none → ∃ wz, gV (.ref a :: vs) zs = .ref a :: wz ∧ wz.length = n ∧ ∀ dx oe vs', dx ≠ a → H dx = none → Zc (.ref C) (some dx) oe → oe.data = .fields vs' → Q (.ref a) (upd (upd H dx (.xd (fl wz))) a (xkH oe a))
theorem runXv {pins : List (Addr × Obj)} {σ : L2.St} {H : Hp} {s : Shared} {Q : VK} {us ws : List Value} {vs zs : List V} {C fI : Addr} {fd : FuncData} {p0 : Str} {ps : List Str} {g : List Value → List Value → List Value} {gV : List V → List V → List V}
    (T : XcK X.K X.mg x C fI fns) (F : FnOk X.prog X.w X.K X.mg X.base CX0 k fI fd (p0 :: ps) (SpXi C fns.length (fun ys => (fns.zip ys).reverse))) (hr : Room (k + 1) X.A) (hb : KBn X.K fd (p0 :: ps) (n + 1) ks g gV)
    (I : Inv X pins σ H s) (r : Vals vs us) (rz : Vals zs ws) (l1 : vs.length = n) (l2 : zs.length = ks.length) (hz : vs.length ≤ 1000)
    (h : XvQ C (fun ys => (fns.zip ys).reverse) fns.length gV vs zs H Q) :
    wpAny (model X.prog X.w) X.A (call (.ref C) us (ks.zip ws)) (EP X pins σ Q) X.xe s := by
  obtain ⟨nm, q, N, bs, bm, sn, sub, ab, col, dd, k0, k1, k2, k3, k5, hC, hbm⟩ := T.oe.cls
  obtain ⟨hp, g0, dr, tk, os⟩ := s
  have hsz : hp.objs.size ≤ hp.objs.size + 1 := Nat.le_succ _
  have hn : H (hp.objs.size + 1) = none := I.hok.fresh hsz
  obtain ⟨wz, eg, lz, hq⟩ := h (hp.objs.size + 1) hn
  have kk : ∀ b o, hp.get? b = some o → ((hp.push (PySem.W.kdv_tup us)).push (PySem.HandSPX.excO C hp.objs.size)).get? b = some o := fun b o e => Heap.get?_push_of_some _ (Heap.get?_push_of_some _ e)
  have hget : ((hp.push (PySem.W.kdv_tup us)).push (PySem.HandSPX.excO C hp.objs.size)).get? (hp.objs.size + 1) = some (PySem.HandSPX.excO C hp.objs.size) := by heap_get
  have I2 : Inv X pins σ (upd H (hp.objs.size + 1) (exo (hp.objs.size + 1) C none)) ⟨(hp.push (PySem.W.kdv_tup us)).push (PySem.HandSPX.excO C hp.objs.size), g0, dr, tk, os⟩ :=
    I.laid (t' := tk) (a := hp.objs.size + 1) (o := exo (hp.objs.size + 1) C none) (h' := (hp.push (PySem.W.kdv_tup us)).push (PySem.HandSPX.excO C hp.objs.size)) kk hsz (exo_ok hget)
  have r1 : Vals (V.ref (hp.objs.size + 1) :: vs) (Value.ref (hp.objs.size + 1) :: us) := .cons rfl r
  have r2 := hb.rel r1 rz
  rw [eg] at r2
  have e1 : (Value.ref (hp.objs.size + 1) :: us).length = n + 1 := r1.length.symm.trans (congrArg Nat.succ l1)
  have e2 : ws.length = ks.length := rz.length.symm.trans l2
  have hus : us.length ≤ sizeLine := by
    rw [← Paired.length r, sizeLine_eq]
    omega
  have hsp : SpXi C fns.length (fun ys => (fns.zip ys).reverse) (.ref (hp.objs.size + 1) :: wz) (upd H (hp.objs.size + 1) (exo (hp.objs.size + 1) C none))
      (fun v H2 => v = .non ∧ ∃ (d : Addr) (fs : List (Str × V)), H2 (hp.objs.size + 1) = some (exo (hp.objs.size + 1) C (some d)) ∧ H2 d = some (exd d fs) ∧ H d = none ∧
        ∀ oe vs', Zc (.ref C) (some d) oe → oe.data = .fields vs' → Q (.ref (hp.objs.size + 1)) (upd (upd (del H2 (hp.objs.size + 1)) d (.xd fs)) (hp.objs.size + 1) (xkH oe (hp.objs.size + 1)))) (fun _ _ _ => False) := by
    refine ⟨hp.objs.size + 1, wz, rfl, lz, upd_same, fun dx nd ne => ⟨rfl, dx, _, upd_same, by rw [upd_ne ne, upd_same], by rw [upd_ne ne] at nd; exact nd, fun oe vs' z1 z2 => ?_⟩⟩
    rw [upd_ne ne] at nd
    have eh : upd (del (upd (upd (upd H (hp.objs.size + 1) (exo (hp.objs.size + 1) C none)) dx (exd dx (fns.zip wz).reverse)) (hp.objs.size + 1) (exo (hp.objs.size + 1) C (some dx))) (hp.objs.size + 1)) dx (.xd (fns.zip wz).reverse) = upd H dx (.xd (fns.zip wz).reverse) := by
      funext b
      by_cases h1 : b = dx
      · subst h1; rw [upd_same, upd_same]
      · by_cases h2 : b = hp.objs.size + 1
        · rw [upd_ne h1, upd_ne h1, h2, hn]
          unfold del
          simp
        · rw [upd_ne h1, upd_ne h1, del_ne h2, upd_ne h2, upd_ne h1, upd_ne h2]
    rw [eh]
    exact hq dx oe vs' ne nd z1 z2
  refine wpAny_call (PySem.HandSPX.call_ownK PySem.F.excBase_ValueError (fun Y => PySem.HandSPX.refsVE_contains Y bm hbm) (I.kIn _ _ hC) (PySem.W.looks_findIn I.kIn T.iC) (fun self => PySem.W.bind_fn I.kIn self T.tI) hus
    (codeAny_mono (F.run _ X.stack _ _ ⟨Value.ref (hp.objs.size + 1) :: us, ks.zip ws⟩ (g (Value.ref (hp.objs.size + 1) :: us) ws) _ _ (fun _ _ _ => False) (hr.make C us (ks.zip ws)) (I2.env0.make C us (ks.zip ws)) (hb.to _ (Value.ref (hp.objs.size + 1) :: us) ws I2.kIn e1 e2) r2 hsp) fun r s' hq' => ?_))
  cases r with
  | error er => exact pass0 pins σ _ _ er s' I2 hq'
  | ok fl =>
    cases fl with
    | ret u =>
      obtain ⟨v, H2, os2, bare2, un2, hok2, rv, ev, d, fs, ea, ed, hd1, q2⟩ := hq'
      subst ev
      obtain ⟨h2, g2, d2, t2, os'⟩ := s'
      obtain ⟨t0, Gh, J, kG, ge, hoe, na⟩ := mk_end0 (d2 := d2) (t2 := t2) I hsz kk un2 hok2 os2 bare2 ea ed hd1
      refine ⟨rv, .ref (hp.objs.size + 1), _, J.laidN (h' := h2) (t' := t2) (o := xkH _ (hp.objs.size + 1)) kG ge na ⟨hoe, ⟨_, hoe⟩, fun h1 h2 q k => k _ q⟩, rfl, q2 _ _ ⟨rfl, rfl⟩ rfl⟩
    | next => exact False.elim hq'
    | brk => exact False.elim hq'
    | cont => exact False.elim hq'
/-- the value, by its tree -/
theorem xv_t {st : S} {σ : L2.St} {c : Cf} {C a dx : Addr} {wz : List V} {ds : List D} {oe : Obj} {vs' : Array Value} {Q : VK} {E : Exc → S → Prop} (r : Rel G st σ c) (rp : RpA G c.F c.al wz ds) (hm : G.mg x = some (.ref C)) (hl : ds.length = fns.length)
    (ne : dx ≠ a) (ha : c.H a = none) (hd : c.H dx = none) (hz : Zc (.ref C) (some dx) oe) (ho : oe.data = .fields vs')
    (h : wp (.ok (.fz (.xok x (fns.zip ds).reverse)) st : Tr.R O) (fun o st' => ∀ v c', Rel G st' σ c' → GoE c c' → PrO G o c c' v → Q v c'.H) E) :
    Q (.ref a) (upd (upd c.H dx (.xd (fns.zip wz).reverse)) a (xkH oe a)) := by
  have lw : wz.length = fns.length := by rw [rp.len]; exact hl
  have r2 := r.new (o := .xd (fns.zip wz).reverse) hd
  have f2 := Fresh.new (o := .xd (fns.zip wz).reverse) r hd
  have g2 := (GoE.new (o := .xd (fns.zip wz).reverse) r hd).freeze (New.new hd) r2
  have r3 := r2.freeze f2
  have na : ((c.new dx (.xd (fns.zip wz).reverse)).frz [dx]).H a = none := by
    show upd c.H dx _ a = none
    rw [upd_ne (Ne.symm ne)]; exact ha
  have r4 := r3.new (o := xkH oe a) na
  have f4 := Fresh.new (o := xkH oe a) r3 na
  have g4 := (GoE.new (o := xkH oe a) r3 na).freeze (New.new na) r4
  have r5 := r4.freeze f4
  have ka : XKp ((((c.new dx (.xd (fns.zip wz).reverse)).frz [dx]).new a (xkH oe a)).frz [a]).F a C (some dx) := ⟨oe, frzF_same, hz, vs', ho⟩
  have gg := g2.trans g4
  have tx : Rp G ((((c.new dx (.xd (fns.zip wz).reverse)).frz [dx]).new a (xkH oe a)).frz [a]).F ((((c.new dx (.xd (fns.zip wz).reverse)).frz [dx]).new a (xkH oe a)).frz [a]).al (.ref a) (.xok x (fns.zip ds).reverse) := by
    refine .xok ka hm (g4.mo.mF _ _ frzF_same rfl) ?_ ?_
    · rw [List.map_reverse, List.map_reverse, zip_map1 fns ds wz hl lw]
    · rw [List.map_reverse, List.map_reverse, zip_map2 fns wz lw, zip_map2 fns ds hl]
      exact (rp.mo gg.mo).rev
  exact h (.ref a) _ r5 gg ⟨[], .fz tx, Fresh.nil _, New.nil _⟩
theorem x_exv (hK : X.K = G.K) (hM : X.mg = G.mg) (F : XvT X.prog X.w G X.base x k n fns ks gD) (hr : Room (k + 1) X.A)
    (hg : Gl X x) (ha : PA X (e :: es) (tAs G W ma)) (hkw : PK X kws (tAs G W mk))
    (hall : (backToKw pos (keywordEach kws X.env)).all (·.1.isSome) = true := by rfl)
    (hks : (backToKw pos (keywordEach kws X.env)).filterMap (·.1) = ks := by rfl)
    (hdb : (x == ("__debug__" : Str)) = false := by decide)
    (he : starEach (e :: es) X.env = (false, eval e X.env) :: starEach es X.env := by rfl)
    (hpl : ((backTo pos (starEach (e :: es) X.env)).any (·.1) || (backToKw pos (keywordEach kws X.env)).any (·.1.isNone)) = false := by rfl) :
    PE X (.Call (.Name x p) (e :: es) kws pos) (tO G W (xExv x fns gD n ks.length ma mk)) := by
  obtain ⟨C, fI, fd, p0, ps, T, FT, ⟨g, gV, hb, hl⟩, hps⟩ := F.ex
  have T1 : XcK X.K X.mg x C fI fns := by rw [hK, hM]; exact T
  have F1 : FnOk X.prog X.w X.K X.mg X.base CX0 k fI fd (p0 :: ps) (SpXi C fns.length (fun ys => (fns.zip ys).reverse)) := by rw [hK, hM]; exact FT
  have hb1 : KBn X.K fd (p0 :: ps) (n + 1) ks g gV := by rw [hK]; exact hb
  refine ⟨fun pins s σ H Q I q => wpAny_Call_Name_kw (ld_glob I hg T1.g ?_ hdb)⟩
  apply PySem.W.callWith_KW (h₀ := X.base) I.ok.mod.kin T1.oe.kC hall ?_ hpl he
  refine thn (ha.run pos pins s σ H (fun vs H1 => tAs G W mk σ H1 fun zs H2 => vs.length = n ∧ zs.length = ks.length ∧ vs.length ≤ 1000 ∧
    XvQ C (fun ys => (fns.zip ys).reverse) fns.length gV vs zs H2 Q) I ?_) ?_
  · refine q.seq bkO _ (fun ds vs c c1 st1 r1 g1 p1 w => ?_)
    refine tG.seq1 bkO r1 w _ (fun es' zs c2 st2 r2 g2 p2 w2 => ?_)
    split at w2
    · rename_i hc
      have p1 := p1.mo g2.mo
      have h1 : vs.length = n := by rw [p1.len]; exact hc.1.1
      have h2 : zs.length = ks.length := by rw [p2.len]; exact hc.1.2
      refine ⟨h1, h2, by rw [p1.len]; exact hc.2.1, fun a na => ?_⟩
      obtain ⟨wz, q1, q2, q3⟩ := hl (.ref a) vs zs h1 h2
      have lz : wz.length = fns.length := by rw [List.length_cons, List.length_cons] at q2; omega
      exact ⟨wz, q1, lz, fun dx oe vs' ne nd z1 z2 => xv_t r2 (q3 _ _ _ _ _ p1 p2) T.g hc.2.2 ne na nd z1 z2 w2⟩
    · exact w2.elim
  · rintro us s1 ⟨vs, H1, I1, r, q⟩
    refine thn (hkw.run pos pins s1 σ H1 _ I1 q) ?_
    rintro ws s2 ⟨zs, H2, I2, rz, q1, q2, q3, q4⟩
    refine ⟨I2.kIn, ?_⟩
    rw [hks]
    exact runXv T1 F1 hr hb1 I2 r rz q1 q2 q3 q4
theorem x_exvK0 (hK : X.K = G.K) (hM : X.mg = G.mg) (F : XvT X.prog X.w G X.base x k 0 fns ks gD) (hr : Room (k + 1) X.A)
    (hg : Gl X x) (hkw : PK X kws (tAs G W mk))
    (hall : (backToKw pos (keywordEach kws X.env)).all (·.1.isSome) = true := by rfl)
    (hks : (backToKw pos (keywordEach kws X.env)).filterMap (·.1) = ks := by rfl)
    (hdb : (x == ("__debug__" : Str)) = false := by decide)
    (hpl : ((backTo pos (starEach [] X.env)).any (·.1) || (backToKw pos (keywordEach kws X.env)).any (·.1.isNone)) = false := by rfl) :
    PE X (.Call (.Name x p) [] kws pos) (tO G W (xExv x fns gD 0 ks.length aNil mk)) := by
  obtain ⟨C, fI, fd, p0, ps, T, FT, ⟨g, gV, hb, hl⟩, hps⟩ := F.ex
  have T1 : XcK X.K X.mg x C fI fns := by rw [hK, hM]; exact T
  have F1 : FnOk X.prog X.w X.K X.mg X.base CX0 k fI fd (p0 :: ps) (SpXi C fns.length (fun ys => (fns.zip ys).reverse)) := by rw [hK, hM]; exact FT
  have hb1 : KBn X.K fd (p0 :: ps) (0 + 1) ks g gV := by rw [hK]; exact hb
  refine ⟨fun pins s σ H Q I q => wpAny_Call_Name_kw (ld_glob I hg T1.g ?_ hdb)⟩
  apply PySem.W.callWith_KW0 (h₀ := X.base) I.ok.mod.kin T1.oe.kC hall ?_ hpl
  refine thn (hkw.run pos pins s σ H (fun zs H2 => zs.length = ks.length ∧ XvQ C (fun ys => (fns.zip ys).reverse) fns.length gV [] zs H2 Q) I ?_) ?_
  · obtain ⟨c0, st, rfl, r0, w⟩ := q
    have w : wp (bnd mk (fun es s => if (([] : List D).length = 0 ∧ es.length = ks.length) ∧ ([] : List D).length ≤ 1000 ∧ (gD [] es).length = fns.length then (Tr.R.ok (O.fz (D.xok x (fns.zip (gD [] es)).reverse)) s : Tr.R O) else .no) st) _ _ := w
    refine tG.seq1 bkO r0 w _ (fun es' zs c2 st2 r2 g2 p2 w2 => ?_)
    split at w2
    · rename_i hc
      have h2 : zs.length = ks.length := by rw [p2.len]; exact hc.1.2
      refine ⟨h2, fun a na => ?_⟩
      obtain ⟨wz, q1, q2, q3⟩ := hl (.ref a) [] zs rfl h2
      have lz : wz.length = fns.length := by rw [List.length_cons, List.length_cons] at q2; omega
      exact ⟨wz, q1, lz, fun dx oe vs' ne nd z1 z2 => xv_t r2 (q3 _ _ _ _ _ .nil p2) T.g hc.2.2 ne na nd z1 z2 w2⟩
    · exact w2.elim
  · rintro ws s2 ⟨zs, H2, I2, rz, q2, q4⟩
    refine ⟨I2.kIn, ?_⟩
    rw [hks]
    exact runXv (us := []) (vs := []) T1 F1 hr hb1 I2 .nil rz rfl q2 (by simp) q4
/-- X(e), X an own exception class without an own __init__, as a value -/
def xExv1 (x : Str) (ma : M (List D)) : M O := bnd ma fun ds s => if ds.length = 1 then .ok (.fz (.xok x [])) s else .no
theorem x_exv1 {e : Expr} (hK : X.K = G.K) (hM : X.mg = G.mg) (T : XoT G x) (hg : Gl X x) (ha : PA X [e] (tAs G W ma))
    (he : starEach [e] X.env = (false, eval e X.env) :: starEach [] X.env := by rfl) (hpl : (backTo pos (starEach [] X.env)).any (·.1) = false := by rfl) (hdb : (x == ("__debug__" : Str)) = false := by decide) :
    PE X (.Call (.Name x p) [e] [] pos) (tO G W (xExv1 x ma)) := by
  obtain ⟨C, gC, q, kC, bC, tC⟩ := T.ex
  refine ⟨fun pins s σ H Q I h => wpAny_Call_Name_kw (ld_glob I hg (by rw [hM]; exact gC) ?_ hdb)⟩
  refine PySem.W.callWith_K (h₀ := X.base) I.ok.mod.kin (by rw [hK]; exact kC) (thn (ha.run pos pins s σ H (fun vs H1 => vs.length = 1 ∧ ∀ a oe vs', H1 a = none → Zc (.ref C) none oe → oe.data = .fields vs' → Q (.ref a) (upd H1 a (xkH oe a))) I ?_) fun us s1 hh => ?_) he hpl
  · refine h.seq bkO _ (fun ds vs c c1 st1 r1 g1 p1 w => ?_)
    split at w
    · rename_i hl
      refine ⟨by rw [p1.len]; exact hl, fun a oe vs' na hz ho => ?_⟩
      have r2 := r1.new (o := xkH oe a) na
      have f2 := Fresh.new (o := xkH oe a) r1 na
      have g2 := (GoE.new (o := xkH oe a) r1 na).freeze (New.new na) r2
      have r3 := r2.freeze f2
      exact w (.ref a) _ r3 g2 ⟨[], .fz (.xok0 ⟨oe, frzF_same, hz, vs', ho⟩ gC), Fresh.nil _, New.nil _⟩
    · exact w.elim
  · obtain ⟨vs, H1, I1, r1, hl, q1⟩ := hh
    refine ⟨I1.kIn, ?_⟩
    show wpAny _ _ (call (.ref C) us) _ _ _
    have hq : PySem.W.excIn X.K C _ _ = true := hK ▸ q
    obtain ⟨bm, N, nm, qn, bs, hdct, sn, sub, ab, col, dd, k0, k1, k2, k3, k5, mN, hC, hN, hni, T⟩ := exc_obj I1.kIn hq
    have lu : us.length = 1 := r1.length.symm.trans hl
    refine wpAny_call_exc_subT PySem.F.excBase_ValueError T hC hN hni (fun h' a hm => ?_) (by rw [lu, sizeLine_eq]; omega)
    have hn : H1 a = none := I1.hok.gone hm.new
    obtain ⟨t, ht, _, _⟩ := hm.there
    exact ⟨.ref a, _, I1.laidN (o := xkH _ a) hm.keeps hm.new hn ⟨ht, ⟨_, ht⟩, fun h1 h2 q k => k _ q⟩, rfl, q1 a _ _ hn ⟨rfl, rfl⟩ rfl⟩
/-- by keywords, without defaults -/
theorem bi_kw {fd : FuncData} {p0 : Str} {ps : List Str} (code : List (Nat × Nat))
    (hl : ∀ (vs zs : List V), vs.length = n → zs.length = ks.length → (pick code vs [] zs).length = ps.length)
    (h : ∀ us ws : List Value, us.length = n + 1 → ws.length = ks.length → bindArgs fd ⟨us, ks.zip ws⟩ = pure ((p0 :: ps).zip (selfP code us [] ws))) : BdI G.K fd (p0 :: ps) n ks (fun ds es => pick code ds [] es) :=
  ⟨fun us ws => selfP code us [] ws, fun vs zs => selfP code vs [] zs, ⟨fun s us ws _ l1 l2 => .of_eq (h us ws l1 l2), fun r1 r2 => by
    cases r1 with
    | nil => exact .nil
    | cons h hs => exact .cons h (pick_paired hs .nil r2 code)⟩, fun a vs zs l1 l2 => ⟨pick code vs [] zs, rfl, by rw [List.length_cons, List.length_cons, hl vs zs l1 l2], fun _ _ _ _ _ r1 r2 => paired_rp (pick_paired (rp_paired r1) .nil (rp_paired r2) code)⟩⟩
end
section
variable {x : Str} {fns : List Str} {gD : List D → List D → List D} {n k : Nat} {ma mk : M (List D)} {ds es : List D} {env : List (Option O)} {mu : List O}
def exvO (x : Str) (fns : List Str) (gD : List D → List D → List D) (n k : Nat) (ds es : List D) : Option O :=
  if (ds.length = n ∧ es.length = k) ∧ ds.length ≤ 1000 ∧ (gD ds es).length = fns.length then some (.fz (.xok x (fns.zip (gD ds es)).reverse)) else none
theorem sk_exv : xExv x fns gD n k ma mk ⟨env, mu⟩ = (ma ⟨env, mu⟩).bind fun ds => bnd mk fun es => ofO (exvO x fns gD n k ds es) := by
  show (ma ⟨env, mu⟩).bind _ = (ma ⟨env, mu⟩).bind _
  congr 1
  funext ds
  show bnd mk _ = bnd mk _
  congr 1
  funext es s
  unfold exvO
  by_cases h : (ds.length = n ∧ es.length = k) ∧ ds.length ≤ 1000 ∧ (gD ds es).length = fns.length
  · rw [if_pos h, if_pos h]; rfl
  · rw [if_neg h, if_neg h]; rfl
theorem sk_exvO (h : ((ds.length = n ∧ es.length = k) ∧ ds.length ≤ 1000) ∧ (gD ds es).length = fns.length) : exvO x fns gD n k ds es = some (.fz (.xok x (fns.zip (gD ds es)).reverse)) := if_pos ⟨h.1.1, h.1.2, h.2⟩
theorem sk_exv1 : xExv1 x ma ⟨env, mu⟩ = (ma ⟨env, mu⟩).bind fun ds => ofO (if ds.length = 1 then some (.fz (.xok x [])) else none) := by
  show (ma ⟨env, mu⟩).bind _ = (ma ⟨env, mu⟩).bind _
  congr 1
  funext ds s
  by_cases h : ds.length = 1
  · rw [if_pos h, if_pos h]; rfl
  · rw [if_neg h, if_neg h]; rfl
end
end L2.Tr
/-! ### a, b, .. = a list -/
namespace PyProof.Rows
open PySem
open Sem (wp)
section
variable {prog : Program} {w : World} {A : Around} {E : Value → Shared → Prop} {s : Shared}
theorem draw_list {it t : Addr} {items : Array Value} (hne : t ≠ it) : ∀ (n i : Nat) (s : Shared) (Q : List Value → Shared → Prop), s.heap.IsListIter it t i → s.heap.IsList t items → i + n ≤ items.size →
    (∀ h' : Heap, h'.IsListIter it t (i + n) → Heap.SameBut it s.heap h' → Q ((items.toList.drop i).take n) { s with heap := h' }) → wpAny (model prog w) A (draw (.ref it) n) Q E s
  | 0, i, s, Q, hit, _, _, hQ => by
    show wpAny _ _ (pure []) Q E s
    exact wpAny_pure (by simpa using hQ s.heap hit (Heap.SameBut.refl ..))
  | n + 1, i, s, Q, hit, ht, hle, hQ => by
    have hlt : i < items.size := by omega
    show wpAny _ _ (pyNext (.ref it) >>= _) Q E s
    refine wpAny_bind (wpAny_pyNext_list_item hit ht (x := items[i]) (by simp [hlt]) fun h₁ hit₁ hs₁ => ?_)
    refine wpAny_bind (wpAny_holding (draw_list hne n (i + 1) _ _ hit₁ (ht.extBut hs₁.extBut hne) (by omega) fun h₂ hit₂ hs₂ => wpAny_pure ?_))
    have hd : items.toList.drop i = items[i] :: items.toList.drop (i + 1) := by simp [List.drop_eq_getElem_cons, hlt]
    have := hQ h₂ (by rw [show i + (n + 1) = i + 1 + n by omega]; exact hit₂) (hs₁.trans hs₂)
    rw [hd, List.take_succ_cons] at this
    exact this
theorem unpackItems_list {t : Addr} {items : Array Value} {Q : List Value → Shared → Prop} (hh : A.handled = none) (ht : s.heap.IsList t items)
    (hQ : ∀ h', Heap.ExtBut s.heap.objs.size s.heap h' → Q items.toList { s with heap := h' }) : wpAny (model prog w) A (unpackItems (.ref t) items.size none) Q E s := by
  have hlt : t ≠ s.heap.objs.size := by obtain ⟨o, ho, _⟩ := ht; exact Nat.ne_of_lt (Heap.lt_size ho)
  unfold unpackItems
  refine wpAny_bind ?_
  · unfold notIterableAtAll
    refine wpAny_bind (wpAny_specialOf ht.typeIs slot_list_iter.lookup ?_)
    refine wpAny_pure ?_
    simp only [Bool.false_eq_true, if_false]
    refine wpAny_bind (wpAny_holding (wpAny_pyIter_list ht ?_))
    refine wpAny_bind (wpAny_holding (draw_list hlt items.size 0 _ _ ⟨_, Heap.get?_push_size _ rfl, rfl, rfl⟩ (ht.push _) (by omega) fun h₁ hit₁ hs₁ => ?_))
    have hall : List.take items.size (List.drop 0 items.toList) = items.toList := by
      rw [List.drop_zero]; exact List.take_of_length_le (by simp)
    rw [hall]
    rw [if_neg (by simp)]
    have ht₁ : h₁.IsList t items := (ht.push _).extBut hs₁.extBut hlt
    refine wpAny_bind (wpAny_holding (wpAny_pyNext_list_end hh hit₁ ht₁ (by simp) fun h₂ he₂ => ?_))
    simp only [Option.isSome_none, Bool.false_eq_true, if_false]
    refine wpAny_pure (hQ h₂ fun b o hb e => he₂ b o hb (hs₁.extBut b o hb (Heap.get?_push_of_some _ e)))
theorem assign_Tuple_list {env : Env} {elts : List Expr} {x1} {pos : Pos} {t : Addr} {items : Array Value} {Q : Unit → Shared → Prop} (hh : A.handled = none) (ht : s.heap.IsList t items)
    (hn : (assignEach elts env).length = items.size) (hstar : (assignEach elts env).findIdx? (·.1) = none)
    (h : ∀ h', Heap.ExtBut s.heap.objs.size s.heap h' → wpAny (model prog w) A (assignInOrder ((assignEach elts env).map (·.2)) items.toList) Q E { s with heap := h' }) :
    wpAny (model prog w) A (assign (.Tuple elts x1 pos) env (.ref t)) Q E s := by
  rw [assign_Tuple]
  refine wpAny_bind (wpAny_standAt ?_)
  unfold unpack
  rw [hn, hstar]
  exact wpAny_bind (wpAny_holding (unpackItems_list hh ht h))
end
end PyProof.Rows
namespace L2
open PySem PySem.Spec PyProof.Rows
def gTupL (K : PySem.W.Frag) (n : Nat) (t : TGs) : TG := fun v σ H Q => ∃ a xs, v = .ref a ∧ SqL K H a xs ∧ xs.length = n ∧ t xs σ H Q
theorem pg_tupL {X : Cx} {pos : Pos} {es : List Expr} {k : Nat} {t : TGs} {n : Nat} (hc : X.calm = true) (h : PGs X es t)
    (hn : (assignEach es X.env).length = n := by rfl) (hst : (assignEach es X.env).findIdx? (·.1) = none := by rfl) : PG X (.Tuple es k pos) (gTupL X.K n t) := by
  refine ⟨fun pins s σ H v u Q I r hw => ?_⟩
  obtain ⟨a, xs, e1, hq, hl, hw⟩ := hw
  subst e1
  cases r
  obtain ⟨its, rv, ⟨o, m, e, p1, p2, p3⟩, hz⟩ := I.list hq
  refine assign_Tuple_list (items := its.toArray) (I.ok.hd hc) ⟨o, e, p1, m, p3⟩ (by simp [hn, ← hl, rv.length]) hst fun h' hx => ?_
  have I1 : Inv X pins σ H { s with heap := h' } := I.kept (t' := s.toks) fun b o e => hx b o (Nat.ne_of_lt (Heap.lt_size e)) e
  exact h.run pins _ σ H xs _ Q I1 (by simpa using rv) hw
end L2
namespace L2.Tr
open PySem PySem.Spec PyProof.Rows L2 L2.Pc
theorem pg_tupLK {X : Cx} {K : PySem.W.Frag} {es : List Expr} {k : Nat} {t : TGs} {n : Nat} {pos : Pos} (hK : X.K = K) (hc : X.calm = true) (h : PGs X es t)
    (hn : (assignEach es X.env).length = n := by rfl) (hst : (assignEach es X.env).findIdx? (·.1) = none := by rfl) : PG X (.Tuple es k pos) (gTupL K n t) := hK ▸ pg_tupL hc h hn hst
def seqOfL : D → Option (List D)
  | .lst ds => some ds
  | _ => none
def gTL (ts : List MT) : MT := fun d s => (seqOfL d).bind fun ds => gsN ts ds s
theorem tg_tupL {G : Gi} {gs : TGs} {ts : List MT} {n : Nat} (h : TgsOk G gs ts) (hn : ts.length = n) : TgOk G (gTupL G.K n gs) (gTL ts) := by
  intro st st' σ c v d Q r hv e q
  obtain ⟨ds, e1, e2⟩ := bind_some e
  have len : ∀ (ts : List MT) (ds : List D) (s s' : S), gsN ts ds s = some s' → ts.length = ds.length := by
    intro ts
    induction ts with
    | nil => intro ds s s' h; cases ds with
      | nil => rfl
      | cons _ _ => cases h
    | cons t ts ih => intro ds s s' h; cases ds with
      | nil => cases h
      | cons d ds =>
        obtain ⟨s1, _, h2⟩ := bind_some (show (t d s).bind (gsN ts ds) = some s' from h)
        rw [List.length_cons, List.length_cons, ih ds s1 s' h2]
  have hl := len _ _ _ _ e2
  have vv := rp_view r hv
  cases d with
  | lst ds' =>
    cases e1
    obtain ⟨a, xs, rfl, hx, rx⟩ := vv
    exact ⟨a, xs, rfl, .inl (.inl hx), by rw [rx.len]; omega, h st st' σ c xs _ Q r rx e2 q⟩
  | _ => cases e1
theorem tg_tupLK {G : Gi} {K : PySem.W.Frag} {gs : TGs} {ts : List MT} {n : Nat} (hK : G.K = K) (h : TgsOk G gs ts) (hn : ts.length = n := by rfl) : TgOk G (gTupL K n gs) (gTL ts) := hK ▸ tg_tupL h hn
theorem sk_gTL {ts : List MT} {ds : List D} {s : S} : gTL ts (.lst ds) s = gsN ts ds s := rfl
end L2.Tr
namespace F06
open PySem PyProof.Rows L2 L2.Pc L2.Tr
def topS (i : Nat) : Stmt := PySem.Challenge.pw_pinnedcards_k06_refusals_by_hand.main.body.getD i (.Pass ⟨0, 0, 0, 0⟩)
abbrev s_law_begin : Stmt := topS 16
theorem sc_law_begin : FnScope ["_law_script", "_law_k", "_law_one", "_law_cell", "_law_seed"] ["_law_script", "_law_k"] (defScope s_law_begin) :=
  ⟨rfl, rfl, rfl, by decide +kernel, rfl, by decide +kernel, by decide +kernel⟩
abbrev s_law_draw : Stmt := topS 17
theorem sc_law_draw : FnScope ["_law_pot", "_law_many", "_law_go", "_law_mixed", "_law_digit"] ["_law_pot", "_law_many"] (defScope s_law_draw) :=
  ⟨rfl, rfl, rfl, by decide +kernel, rfl, by decide +kernel, by decide +kernel⟩
abbrev s_law_thing : Stmt := topS 18
theorem sc_law_thing : FnScope ["_law_pot"] ["_law_pot"] (defScope s_law_thing) :=
  ⟨rfl, rfl, rfl, by decide +kernel, rfl, by decide +kernel, by decide +kernel⟩
abbrev s_law_made : Stmt := topS 19
theorem sc_law_made : FnScope ["_law_pot", "_law_found", "_law_p", "_law_q", "_law_u", "_law_turn"] ["_law_pot"] (defScope s_law_made) :=
  ⟨rfl, rfl, rfl, by decide +kernel, rfl, by decide +kernel, by decide +kernel⟩
abbrev s_law_kinds : Stmt := topS 20
theorem sc_law_kinds : FnScope ["_law_error", "_law_found"] ["_law_error"] (defScope s_law_kinds) :=
  ⟨rfl, rfl, rfl, by decide +kernel, rfl, by decide +kernel, by decide +kernel⟩
abbrev s_law_values : Stmt := topS 21
theorem sc_law_values : FnScope ["_law_error", "_law_at"] ["_law_error", "_law_at"] (defScope s_law_values) :=
  ⟨rfl, rfl, rfl, by decide +kernel, rfl, by decide +kernel, by decide +kernel⟩
abbrev s_law : Stmt := topS 22
theorem sc_law : FnScope ["_law_script", "_law_k", "_law_pot", "_law_at", "_law_error", "_law_values_here", "_law_spot"] ["_law_script"] (defScope s_law) :=
  ⟨rfl, rfl, rfl, by decide +kernel, rfl, by decide +kernel, by decide +kernel⟩
structure Ad where
  no : Unit
abbrev XT : CTab := [("NoText", ["text"]), ("BadCard", ["field"]), ("BadDeed", ["field"]), ("BadBoard", ["wide", "high"]), ("Earlier", ["day"]), ("Told", ["deed"]), ("NotTold", ["moment"]), ("NoBoard", ["line", "why"]), ("NoCard", ["name"]), ("WrongPhoto", ["number", "x", "y"]), ("Ring", ["names"]), ("NoLine", ["line"])]
abbrev IXT : XITab := [("NoText", [("BadBoard", false), ("BadCard", false), ("BadDeed", false), ("BadPhoto", false), ("CardError", true), ("Earlier", false), ("NoBoard", false), ("NoCard", false), ("NoLine", false), ("NoText", true), ("NotTold", false), ("Ring", false), ("Told", false), ("WrongPhoto", false)]), ("BadCard", [("BadBoard", false), ("BadCard", true), ("BadDeed", false), ("BadPhoto", false), ("CardError", true), ("Earlier", false), ("NoBoard", false), ("NoCard", false), ("NoLine", false), ("NoText", false), ("NotTold", false), ("Ring", false), ("Told", false), ("WrongPhoto", false)]), ("BadDeed", [("BadBoard", false), ("BadCard", false), ("BadDeed", true), ("BadPhoto", false), ("CardError", true), ("Earlier", false), ("NoBoard", false), ("NoCard", false), ("NoLine", false), ("NoText", false), ("NotTold", false), ("Ring", false), ("Told", false), ("WrongPhoto", false)]), ("BadBoard", [("BadBoard", true), ("BadCard", false), ("BadDeed", false), ("BadPhoto", false), ("CardError", true), ("Earlier", false), ("NoBoard", false), ("NoCard", false), ("NoLine", false), ("NoText", false), ("NotTold", false), ("Ring", false), ("Told", false), ("WrongPhoto", false)]), ("Earlier", [("BadBoard", false), ("BadCard", false), ("BadDeed", false), ("BadPhoto", false), ("CardError", true), ("Earlier", true), ("NoBoard", false), ("NoCard", false), ("NoLine", false), ("NoText", false), ("NotTold", false), ("Ring", false), ("Told", false), ("WrongPhoto", false)]), ("Told", [("BadBoard", false), ("BadCard", false), ("BadDeed", false), ("BadPhoto", false), ("CardError", true), ("Earlier", false), ("NoBoard", false), ("NoCard", false), ("NoLine", false), ("NoText", false), ("NotTold", false), ("Ring", false), ("Told", true), ("WrongPhoto", false)]), ("NotTold", [("BadBoard", false), ("BadCard", false), ("BadDeed", false), ("BadPhoto", false), ("CardError", true), ("Earlier", false), ("NoBoard", false), ("NoCard", false), ("NoLine", false), ("NoText", false), ("NotTold", true), ("Ring", false), ("Told", false), ("WrongPhoto", false)]), ("NoBoard", [("BadBoard", false), ("BadCard", false), ("BadDeed", false), ("BadPhoto", false), ("CardError", true), ("Earlier", false), ("NoBoard", true), ("NoCard", false), ("NoLine", false), ("NoText", false), ("NotTold", false), ("Ring", false), ("Told", false), ("WrongPhoto", false)]), ("NoCard", [("BadBoard", false), ("BadCard", false), ("BadDeed", false), ("BadPhoto", false), ("CardError", true), ("Earlier", false), ("NoBoard", false), ("NoCard", true), ("NoLine", false), ("NoText", false), ("NotTold", false), ("Ring", false), ("Told", false), ("WrongPhoto", false)]), ("WrongPhoto", [("BadBoard", false), ("BadCard", false), ("BadDeed", false), ("BadPhoto", false), ("CardError", true), ("Earlier", false), ("NoBoard", false), ("NoCard", false), ("NoLine", false), ("NoText", false), ("NotTold", false), ("Ring", false), ("Told", false), ("WrongPhoto", true)]), ("Ring", [("BadBoard", false), ("BadCard", false), ("BadDeed", false), ("BadPhoto", false), ("CardError", true), ("Earlier", false), ("NoBoard", false), ("NoCard", false), ("NoLine", false), ("NoText", false), ("NotTold", false), ("Ring", true), ("Told", false), ("WrongPhoto", false)]), ("NoLine", [("BadBoard", false), ("BadCard", false), ("BadDeed", false), ("BadPhoto", false), ("CardError", true), ("Earlier", false), ("NoBoard", false), ("NoCard", false), ("NoLine", true), ("NoText", false), ("NotTold", false), ("Ring", false), ("Told", false), ("WrongPhoto", false)]), ("BadPhoto", [("BadBoard", false), ("BadCard", false), ("BadDeed", false), ("BadPhoto", true), ("CardError", true), ("Earlier", false), ("NoBoard", false), ("NoCard", false), ("NoLine", false), ("NoText", false), ("NotTold", false), ("Ring", false), ("Told", false), ("WrongPhoto", false)])]
abbrev BXT : XBTab := [("NoText", [("ValueError", true)]), ("BadCard", [("ValueError", true)]), ("BadDeed", [("ValueError", true)]), ("BadBoard", [("ValueError", true)]), ("Earlier", [("ValueError", true)]), ("Told", [("ValueError", true)]), ("NotTold", [("ValueError", true)]), ("NoBoard", [("ValueError", true)]), ("NoCard", [("ValueError", true)]), ("WrongPhoto", [("ValueError", true)]), ("Ring", [("ValueError", true)]), ("NoLine", [("ValueError", true)]), ("BadPhoto", [("ValueError", true)])]
structure Tx (G : Gi) (w : World) : Prop where
  xo : G.xo = none
  kx : Kx G XT
  b_ValueError : G.mg "ValueError" = none
  b_abs : G.mg "abs" = none
  b_enumerate : G.mg "enumerate" = none
  b_int : G.mg "int" = none
  b_isinstance : G.mg "isinstance" = none
  b_len : G.mg "len" = none
  b_range : G.mg "range" = none
  b_repr : G.mg "repr" = none
  kxi : KxI G IXT BXT
  c_BadBoard : Gc G "BadBoard" (.fn "BadBoard")
  c_BadCard : Gc G "BadCard" (.fn "BadCard")
  c_BadDeed : Gc G "BadDeed" (.fn "BadDeed")
  c_BadPhoto : Gc G "BadPhoto" (.fn "BadPhoto")
  c_CardError : Gc G "CardError" (.fn "CardError")
  c_Earlier : Gc G "Earlier" (.fn "Earlier")
  c_NoBoard : Gc G "NoBoard" (.fn "NoBoard")
  c_NoCard : Gc G "NoCard" (.fn "NoCard")
  c_NoLine : Gc G "NoLine" (.fn "NoLine")
  c_NoText : Gc G "NoText" (.fn "NoText")
  c_NotTold : Gc G "NotTold" (.fn "NotTold")
  c_Ring : Gc G "Ring" (.fn "Ring")
  c_Told : Gc G "Told" (.fn "Told")
  c_WrongPhoto : Gc G "WrongPhoto" (.fn "WrongPhoto")
-- finding what is known: an object at an address, what a value holds
local macro_rules | `(tactic| walk_at "ca") => `(tactic| first
  | assumption
  | exact upd_same
  | (refine L2.Same.at (by assumption) ?_; walk_at "ca")
  | (refine Mx.at (by assumption) ?_ rfl; walk_at "ca")
  | (refine Eq.trans (upd_ne ?_) ?_; rotate_left; (walk_at "ca"); (walk_at "ne")))
local macro_rules | `(tactic| walk_at "ne") => `(tactic| first
  | assumption
  | (refine Ne.symm ?_; assumption)
  | (refine ne_of_none (o := ?no) ?nh (by assumption); (case nh => walk_at "ca"))
  | (refine Ne.symm (ne_of_none (o := ?no) ?nh (by assumption)); (case nh => walk_at "ca"))
  | (refine ne_of (by assumption) (by assumption) ?_; (intro z; cases z)))
local macro_rules | `(tactic| walk_at "sq") => `(tactic| first
  | assumption
  | (refine SqL.of ?_; walk_at "ca")
  | (refine SqT.of ?_; walk_at "ca")
  | exact Kt.sq (by assumption) _
  | (refine L2.SqL.mx (L2.Same.mx (by assumption)) ?_; walk_at "sq")
  | (refine L2.SqT.mx (L2.Same.mx (by assumption)) ?_; walk_at "sq")
  | (refine L2.SqL.mx (by assumption) ?_; walk_at "sq")
  | (refine L2.SqT.mx (by assumption) ?_; walk_at "sq"))
local macro_rules | `(tactic| walk_at "da") => `(tactic| first
  | assumption
  | exact Da.non
  | exact Da.bl _
  | exact Da.int _
  | exact Da.str _
  | (refine Da.mx (L2.Same.mx (by assumption)) ?_; walk_at "da")
  | (refine Da.mx (by assumption) ?_; walk_at "da"))
local macro_rules | `(tactic| walk_at "sz") => `(tactic| first
  | assumption
  | omega
  | (constructor <;> omega)
  | (refine Or.inl (Or.inl ⟨?_, ?_⟩) <;> omega)
  | (refine Or.inl (Or.inr ⟨?_, ?_⟩) <;> omega)
  | (refine Or.inr ?_; assumption)
  | (rw [szl]; first | assumption | omega | (simp only [strLen_append, one_len]; omega) | (simp only [List.length_cons, List.length_nil, List.length_append, List.length_map, List.length_take, List.length_drop, List.length_replicate, List.length_set]; omega))
  | decide
  | (rw [szl]; decide))
local macro_rules | `(tactic| walk_at "mx") => `(tactic| first
  | assumption
  | exact Mx.refl _
  | exact L2.Same.mx (by assumption)
  | (refine Mx.trans ?_ (L2.Same.mx (by assumption)); walk_at "mx")
  | (refine Mx.trans ?_ (by assumption); walk_at "mx"))
-- one step of a reading
local macro_rules | `(tactic| walk_at "sqo") => `(tactic| first
  | (refine Or.inl ?_; walk_at "sq"; done)
  | (refine Or.inr ?_; walk_at "sq"; done)
  | (walk_at "sq"; done)
  | (walk_at "ca"; done))
local macro_rules | `(tactic| walk_at "st") => `(tactic| first
  | (refine Step.imp ?_)
  | (refine g_new ?_; intro p H' hp he hv)
  | (refine g_kT ?_ ?_; assumption)
  | (refine g_kF ?_ ?_; assumption)
  | (refine g_knT ?_ ?_; assumption)
  | (refine g_knF ?_ ?_; assumption)
  | (refine g_draw (n := ?dm) ?dp ?d1 ?d2 ?dn ?dq; (case dp => walk_at "ca"); (case d1 => first | decide | omega); (case d2 => first | decide | omega); (case dn => first | omega | assumption); intro r H' r0 r1 x7 hp7)
  | (refine ⟨(by rfl : wipe _ _ = _), ?_⟩)
  | (refine ⟨(by rfl : flatV _ = true), (by first | rfl | decide +kernel : List.all _ flatV = true), ?_⟩)
  | (refine ⟨(by rfl : List.length _ = _), ?_⟩)
  | (refine StepZ.imp ?zc ?zn; case zc => ((try dsimp only); walk_at "sz"))
  | (refine StepQ.imp ?qx ?qc ?qn; case qc => ((try dsimp only); walk_at "sqo"))
  | (refine ⟨_, (by assumption : atI _ _ = some _), ?_⟩)
  | (refine ⟨_, (by assumption : PySem.intText? _ = some _), ?_⟩)
  | (refine ⟨_, (by with_unfolding_all rfl : atI _ _ = some _), ?_⟩)
  | (refine ⟨_, (by with_unfolding_all rfl : ixN _ _ = some _), ?_⟩)
  | (refine StepD.imp ?dx ?dc ?dn; case dc => ((try dsimp only); walk_at "da")))
local macro_rules | `(tactic| walk_at "go") => `(tactic| (repeat (walk_at "st"); try dsimp only))
abbrev s_NoText_init : Stmt := inClass (topS 2) 0
theorem sc_NoText_init : FnScope ["self", "text"] ["self", "text"] (defScope s_NoText_init) :=
  ⟨rfl, rfl, rfl, by decide +kernel, rfl, by decide +kernel, by decide +kernel⟩
theorem xi_NoText {P : Program} {w : World} {K : PySem.W.Frag} {mg : Str → Option Value} {base : Heap} {f : Addr} {fd : FuncData} {C CB fI : Addr} (B : XbK K mg "CardError" CB) (X : XcK K mg "NoText" C fI ["text"]) (F : Df K "__init__" "NoText.__init__" s_NoText_init f fd) :
    FnOk P w K mg base CX0 1 f fd ["self", "text"] (SpXi C 1 (fun ys => ((["text"] : List Str).zip ys).reverse)) := by
  refine Df.okF F sc_NoText_init (fun vs H Q E h => by obtain ⟨a, ys, rfl, hl, _⟩ := h; rw [List.length_cons, hl]; rfl) (fun cdv A outer s H vs Q E h => ?_)
  obtain ⟨a, ys, rfl, hl, ha, q⟩ := h
  match ys, hl, q with
  | [y0], _, q =>
  refine ⟨_, (pss_cons (ps_expr (pe_cinit (K := K) rfl B (by rfl) (pa_cons (pv 0) (pa_cons pe_str pa_nil)))) (pss_one (ps_ostK (K := K) rfl (pv 0) (pv 1)))), ?_⟩
  rw [show start ["self", "text"] [.ref a, y0] = [some (.ref a), some y0] from rfl]; try dsimp only [cxOf, Cx.nox, Cx.wish]
  walk_at "go"
  refine ⟨a, C, _, rfl, by decide, X.oe, ha, ?_⟩
  walk_at "go"
  refine ⟨a, C, rfl, X.oe, X.no _ (by simp), .inl ⟨ha, fun dx nd ne => ?_⟩⟩
  walk_at "go"
  exact q dx nd ne
abbrev s_BadCard_init : Stmt := inClass (topS 3) 0
theorem sc_BadCard_init : FnScope ["self", "field"] ["self", "field"] (defScope s_BadCard_init) :=
  ⟨rfl, rfl, rfl, by decide +kernel, rfl, by decide +kernel, by decide +kernel⟩
theorem xi_BadCard {P : Program} {w : World} {K : PySem.W.Frag} {mg : Str → Option Value} {base : Heap} {f : Addr} {fd : FuncData} {C CB fI : Addr} (B : XbK K mg "CardError" CB) (X : XcK K mg "BadCard" C fI ["field"]) (F : Df K "__init__" "BadCard.__init__" s_BadCard_init f fd) :
    FnOk P w K mg base CX0 1 f fd ["self", "field"] (SpXi C 1 (fun ys => ((["field"] : List Str).zip ys).reverse)) := by
  refine Df.okF F sc_BadCard_init (fun vs H Q E h => by obtain ⟨a, ys, rfl, hl, _⟩ := h; rw [List.length_cons, hl]; rfl) (fun cdv A outer s H vs Q E h => ?_)
  obtain ⟨a, ys, rfl, hl, ha, q⟩ := h
  match ys, hl, q with
  | [y0], _, q =>
  refine ⟨_, (pss_cons (ps_expr (pe_cinit (K := K) rfl B (by rfl) (pa_cons (pv 0) (pa_cons pe_str pa_nil)))) (pss_one (ps_ostK (K := K) rfl (pv 0) (pv 1)))), ?_⟩
  rw [show start ["self", "field"] [.ref a, y0] = [some (.ref a), some y0] from rfl]; try dsimp only [cxOf, Cx.nox, Cx.wish]
  walk_at "go"
  refine ⟨a, C, _, rfl, by decide, X.oe, ha, ?_⟩
  walk_at "go"
  refine ⟨a, C, rfl, X.oe, X.no _ (by simp), .inl ⟨ha, fun dx nd ne => ?_⟩⟩
  walk_at "go"
  exact q dx nd ne
abbrev s_BadDeed_init : Stmt := inClass (topS 4) 0
theorem sc_BadDeed_init : FnScope ["self", "field"] ["self", "field"] (defScope s_BadDeed_init) :=
  ⟨rfl, rfl, rfl, by decide +kernel, rfl, by decide +kernel, by decide +kernel⟩
theorem xi_BadDeed {P : Program} {w : World} {K : PySem.W.Frag} {mg : Str → Option Value} {base : Heap} {f : Addr} {fd : FuncData} {C CB fI : Addr} (B : XbK K mg "CardError" CB) (X : XcK K mg "BadDeed" C fI ["field"]) (F : Df K "__init__" "BadDeed.__init__" s_BadDeed_init f fd) :
    FnOk P w K mg base CX0 1 f fd ["self", "field"] (SpXi C 1 (fun ys => ((["field"] : List Str).zip ys).reverse)) := by
  refine Df.okF F sc_BadDeed_init (fun vs H Q E h => by obtain ⟨a, ys, rfl, hl, _⟩ := h; rw [List.length_cons, hl]; rfl) (fun cdv A outer s H vs Q E h => ?_)
  obtain ⟨a, ys, rfl, hl, ha, q⟩ := h
  match ys, hl, q with
  | [y0], _, q =>
  refine ⟨_, (pss_cons (ps_expr (pe_cinit (K := K) rfl B (by rfl) (pa_cons (pv 0) (pa_cons pe_str pa_nil)))) (pss_one (ps_ostK (K := K) rfl (pv 0) (pv 1)))), ?_⟩
  rw [show start ["self", "field"] [.ref a, y0] = [some (.ref a), some y0] from rfl]; try dsimp only [cxOf, Cx.nox, Cx.wish]
  walk_at "go"
  refine ⟨a, C, _, rfl, by decide, X.oe, ha, ?_⟩
  walk_at "go"
  refine ⟨a, C, rfl, X.oe, X.no _ (by simp), .inl ⟨ha, fun dx nd ne => ?_⟩⟩
  walk_at "go"
  exact q dx nd ne
abbrev s_BadBoard_init : Stmt := inClass (topS 5) 0
theorem sc_BadBoard_init : FnScope ["self", "wide", "high"] ["self", "wide", "high"] (defScope s_BadBoard_init) :=
  ⟨rfl, rfl, rfl, by decide +kernel, rfl, by decide +kernel, by decide +kernel⟩
theorem xi_BadBoard {P : Program} {w : World} {K : PySem.W.Frag} {mg : Str → Option Value} {base : Heap} {f : Addr} {fd : FuncData} {C CB fI : Addr} (B : XbK K mg "CardError" CB) (X : XcK K mg "BadBoard" C fI ["wide", "high"]) (F : Df K "__init__" "BadBoard.__init__" s_BadBoard_init f fd) :
    FnOk P w K mg base CX0 1 f fd ["self", "wide", "high"] (SpXi C 2 (fun ys => ((["wide", "high"] : List Str).zip ys).reverse)) := by
  refine Df.okF F sc_BadBoard_init (fun vs H Q E h => by obtain ⟨a, ys, rfl, hl, _⟩ := h; rw [List.length_cons, hl]; rfl) (fun cdv A outer s H vs Q E h => ?_)
  obtain ⟨a, ys, rfl, hl, ha, q⟩ := h
  match ys, hl, q with
  | [y0, y1], _, q =>
  refine ⟨_, (pss_cons (ps_expr (pe_cinit (K := K) rfl B (by rfl) (pa_cons (pv 0) (pa_cons pe_str pa_nil)))) (pss_cons (ps_ostK (K := K) rfl (pv 0) (pv 1)) (pss_one (ps_ostK (K := K) rfl (pv 0) (pv 2))))), ?_⟩
  rw [show start ["self", "wide", "high"] [.ref a, y0, y1] = [some (.ref a), some y0, some y1] from rfl]; try dsimp only [cxOf, Cx.nox, Cx.wish]
  walk_at "go"
  refine ⟨a, C, _, rfl, by decide, X.oe, ha, ?_⟩
  walk_at "go"
  refine ⟨a, C, rfl, X.oe, X.no _ (by simp), .inl ⟨ha, fun dx nd ne => ?_⟩⟩
  walk_at "go"
  refine ⟨a, C, rfl, X.oe, X.no _ (by simp), .inr ⟨dx, _, upd_same, by rw [upd_ne ne, upd_same], by simp, ?_⟩⟩
  walk_at "go"
  rw [upd_two ne]
  exact q dx nd ne
abbrev s_Earlier_init : Stmt := inClass (topS 6) 0
theorem sc_Earlier_init : FnScope ["self", "day"] ["self", "day"] (defScope s_Earlier_init) :=
  ⟨rfl, rfl, rfl, by decide +kernel, rfl, by decide +kernel, by decide +kernel⟩
theorem xi_Earlier {P : Program} {w : World} {K : PySem.W.Frag} {mg : Str → Option Value} {base : Heap} {f : Addr} {fd : FuncData} {C CB fI : Addr} (B : XbK K mg "CardError" CB) (X : XcK K mg "Earlier" C fI ["day"]) (F : Df K "__init__" "Earlier.__init__" s_Earlier_init f fd) :
    FnOk P w K mg base CX0 1 f fd ["self", "day"] (SpXi C 1 (fun ys => ((["day"] : List Str).zip ys).reverse)) := by
  refine Df.okF F sc_Earlier_init (fun vs H Q E h => by obtain ⟨a, ys, rfl, hl, _⟩ := h; rw [List.length_cons, hl]; rfl) (fun cdv A outer s H vs Q E h => ?_)
  obtain ⟨a, ys, rfl, hl, ha, q⟩ := h
  match ys, hl, q with
  | [y0], _, q =>
  refine ⟨_, (pss_cons (ps_expr (pe_cinit (K := K) rfl B (by rfl) (pa_cons (pv 0) (pa_cons pe_str pa_nil)))) (pss_one (ps_ostK (K := K) rfl (pv 0) (pv 1)))), ?_⟩
  rw [show start ["self", "day"] [.ref a, y0] = [some (.ref a), some y0] from rfl]; try dsimp only [cxOf, Cx.nox, Cx.wish]
  walk_at "go"
  refine ⟨a, C, _, rfl, by decide, X.oe, ha, ?_⟩
  walk_at "go"
  refine ⟨a, C, rfl, X.oe, X.no _ (by simp), .inl ⟨ha, fun dx nd ne => ?_⟩⟩
  walk_at "go"
  exact q dx nd ne
abbrev s_Told_init : Stmt := inClass (topS 7) 0
theorem sc_Told_init : FnScope ["self", "deed"] ["self", "deed"] (defScope s_Told_init) :=
  ⟨rfl, rfl, rfl, by decide +kernel, rfl, by decide +kernel, by decide +kernel⟩
theorem xi_Told {P : Program} {w : World} {K : PySem.W.Frag} {mg : Str → Option Value} {base : Heap} {f : Addr} {fd : FuncData} {C CB fI : Addr} (B : XbK K mg "CardError" CB) (X : XcK K mg "Told" C fI ["deed"]) (F : Df K "__init__" "Told.__init__" s_Told_init f fd) :
    FnOk P w K mg base CX0 1 f fd ["self", "deed"] (SpXi C 1 (fun ys => ((["deed"] : List Str).zip ys).reverse)) := by
  refine Df.okF F sc_Told_init (fun vs H Q E h => by obtain ⟨a, ys, rfl, hl, _⟩ := h; rw [List.length_cons, hl]; rfl) (fun cdv A outer s H vs Q E h => ?_)
  obtain ⟨a, ys, rfl, hl, ha, q⟩ := h
  match ys, hl, q with
  | [y0], _, q =>
  refine ⟨_, (pss_cons (ps_expr (pe_cinit (K := K) rfl B (by rfl) (pa_cons (pv 0) (pa_cons pe_str pa_nil)))) (pss_one (ps_ostK (K := K) rfl (pv 0) (pv 1)))), ?_⟩
  rw [show start ["self", "deed"] [.ref a, y0] = [some (.ref a), some y0] from rfl]; try dsimp only [cxOf, Cx.nox, Cx.wish]
  walk_at "go"
  refine ⟨a, C, _, rfl, by decide, X.oe, ha, ?_⟩
  walk_at "go"
  refine ⟨a, C, rfl, X.oe, X.no _ (by simp), .inl ⟨ha, fun dx nd ne => ?_⟩⟩
  walk_at "go"
  exact q dx nd ne
abbrev s_NotTold_init : Stmt := inClass (topS 8) 0
theorem sc_NotTold_init : FnScope ["self", "moment"] ["self", "moment"] (defScope s_NotTold_init) :=
  ⟨rfl, rfl, rfl, by decide +kernel, rfl, by decide +kernel, by decide +kernel⟩
theorem xi_NotTold {P : Program} {w : World} {K : PySem.W.Frag} {mg : Str → Option Value} {base : Heap} {f : Addr} {fd : FuncData} {C CB fI : Addr} (B : XbK K mg "CardError" CB) (X : XcK K mg "NotTold" C fI ["moment"]) (F : Df K "__init__" "NotTold.__init__" s_NotTold_init f fd) :
    FnOk P w K mg base CX0 1 f fd ["self", "moment"] (SpXi C 1 (fun ys => ((["moment"] : List Str).zip ys).reverse)) := by
  refine Df.okF F sc_NotTold_init (fun vs H Q E h => by obtain ⟨a, ys, rfl, hl, _⟩ := h; rw [List.length_cons, hl]; rfl) (fun cdv A outer s H vs Q E h => ?_)
  obtain ⟨a, ys, rfl, hl, ha, q⟩ := h
  match ys, hl, q with
  | [y0], _, q =>
  refine ⟨_, (pss_cons (ps_expr (pe_cinit (K := K) rfl B (by rfl) (pa_cons (pv 0) (pa_cons pe_str pa_nil)))) (pss_one (ps_ostK (K := K) rfl (pv 0) (pv 1)))), ?_⟩
  rw [show start ["self", "moment"] [.ref a, y0] = [some (.ref a), some y0] from rfl]; try dsimp only [cxOf, Cx.nox, Cx.wish]
  walk_at "go"
  refine ⟨a, C, _, rfl, by decide, X.oe, ha, ?_⟩
  walk_at "go"
  refine ⟨a, C, rfl, X.oe, X.no _ (by simp), .inl ⟨ha, fun dx nd ne => ?_⟩⟩
  walk_at "go"
  exact q dx nd ne
abbrev s_NoBoard_init : Stmt := inClass (topS 9) 0
theorem sc_NoBoard_init : FnScope ["self", "line", "why"] ["self", "line", "why"] (defScope s_NoBoard_init) :=
  ⟨rfl, rfl, rfl, by decide +kernel, rfl, by decide +kernel, by decide +kernel⟩
theorem xi_NoBoard {P : Program} {w : World} {K : PySem.W.Frag} {mg : Str → Option Value} {base : Heap} {f : Addr} {fd : FuncData} {C CB fI : Addr} (B : XbK K mg "CardError" CB) (X : XcK K mg "NoBoard" C fI ["line", "why"]) (F : Df K "__init__" "NoBoard.__init__" s_NoBoard_init f fd) :
    FnOk P w K mg base CX0 1 f fd ["self", "line", "why"] (SpXi C 2 (fun ys => ((["line", "why"] : List Str).zip ys).reverse)) := by
  refine Df.okF F sc_NoBoard_init (fun vs H Q E h => by obtain ⟨a, ys, rfl, hl, _⟩ := h; rw [List.length_cons, hl]; rfl) (fun cdv A outer s H vs Q E h => ?_)
  obtain ⟨a, ys, rfl, hl, ha, q⟩ := h
  match ys, hl, q with
  | [y0, y1], _, q =>
  refine ⟨_, (pss_cons (ps_expr (pe_cinit (K := K) rfl B (by rfl) (pa_cons (pv 0) (pa_cons pe_str pa_nil)))) (pss_cons (ps_ostK (K := K) rfl (pv 0) (pv 1)) (pss_one (ps_ostK (K := K) rfl (pv 0) (pv 2))))), ?_⟩
  rw [show start ["self", "line", "why"] [.ref a, y0, y1] = [some (.ref a), some y0, some y1] from rfl]; try dsimp only [cxOf, Cx.nox, Cx.wish]
  walk_at "go"
  refine ⟨a, C, _, rfl, by decide, X.oe, ha, ?_⟩
  walk_at "go"
  refine ⟨a, C, rfl, X.oe, X.no _ (by simp), .inl ⟨ha, fun dx nd ne => ?_⟩⟩
  walk_at "go"
  refine ⟨a, C, rfl, X.oe, X.no _ (by simp), .inr ⟨dx, _, upd_same, by rw [upd_ne ne, upd_same], by simp, ?_⟩⟩
  walk_at "go"
  rw [upd_two ne]
  exact q dx nd ne
abbrev s_NoCard_init : Stmt := inClass (topS 11) 0
theorem sc_NoCard_init : FnScope ["self", "name"] ["self", "name"] (defScope s_NoCard_init) :=
  ⟨rfl, rfl, rfl, by decide +kernel, rfl, by decide +kernel, by decide +kernel⟩
theorem xi_NoCard {P : Program} {w : World} {K : PySem.W.Frag} {mg : Str → Option Value} {base : Heap} {f : Addr} {fd : FuncData} {C CB fI : Addr} (B : XbK K mg "CardError" CB) (X : XcK K mg "NoCard" C fI ["name"]) (F : Df K "__init__" "NoCard.__init__" s_NoCard_init f fd) :
    FnOk P w K mg base CX0 1 f fd ["self", "name"] (SpXi C 1 (fun ys => ((["name"] : List Str).zip ys).reverse)) := by
  refine Df.okF F sc_NoCard_init (fun vs H Q E h => by obtain ⟨a, ys, rfl, hl, _⟩ := h; rw [List.length_cons, hl]; rfl) (fun cdv A outer s H vs Q E h => ?_)
  obtain ⟨a, ys, rfl, hl, ha, q⟩ := h
  match ys, hl, q with
  | [y0], _, q =>
  refine ⟨_, (pss_cons (ps_expr (pe_cinit (K := K) rfl B (by rfl) (pa_cons (pv 0) (pa_cons pe_str pa_nil)))) (pss_one (ps_ostK (K := K) rfl (pv 0) (pv 1)))), ?_⟩
  rw [show start ["self", "name"] [.ref a, y0] = [some (.ref a), some y0] from rfl]; try dsimp only [cxOf, Cx.nox, Cx.wish]
  walk_at "go"
  refine ⟨a, C, _, rfl, by decide, X.oe, ha, ?_⟩
  walk_at "go"
  refine ⟨a, C, rfl, X.oe, X.no _ (by simp), .inl ⟨ha, fun dx nd ne => ?_⟩⟩
  walk_at "go"
  exact q dx nd ne
abbrev s_WrongPhoto_init : Stmt := inClass (topS 12) 0
theorem sc_WrongPhoto_init : FnScope ["self", "number", "x", "y"] ["self", "number", "x", "y"] (defScope s_WrongPhoto_init) :=
  ⟨rfl, rfl, rfl, by decide +kernel, rfl, by decide +kernel, by decide +kernel⟩
theorem xi_WrongPhoto {P : Program} {w : World} {K : PySem.W.Frag} {mg : Str → Option Value} {base : Heap} {f : Addr} {fd : FuncData} {C CB fI : Addr} (B : XbK K mg "CardError" CB) (X : XcK K mg "WrongPhoto" C fI ["number", "x", "y"]) (F : Df K "__init__" "WrongPhoto.__init__" s_WrongPhoto_init f fd) :
    FnOk P w K mg base CX0 1 f fd ["self", "number", "x", "y"] (SpXi C 3 (fun ys => ((["number", "x", "y"] : List Str).zip ys).reverse)) := by
  refine Df.okF F sc_WrongPhoto_init (fun vs H Q E h => by obtain ⟨a, ys, rfl, hl, _⟩ := h; rw [List.length_cons, hl]; rfl) (fun cdv A outer s H vs Q E h => ?_)
  obtain ⟨a, ys, rfl, hl, ha, q⟩ := h
  match ys, hl, q with
  | [y0, y1, y2], _, q =>
  refine ⟨_, (pss_cons (ps_expr (pe_cinit (K := K) rfl B (by rfl) (pa_cons (pv 0) (pa_cons pe_str pa_nil)))) (pss_cons (ps_ostK (K := K) rfl (pv 0) (pv 1)) (pss_cons (ps_ostK (K := K) rfl (pv 0) (pv 2)) (pss_one (ps_ostK (K := K) rfl (pv 0) (pv 3)))))), ?_⟩
  rw [show start ["self", "number", "x", "y"] [.ref a, y0, y1, y2] = [some (.ref a), some y0, some y1, some y2] from rfl]; try dsimp only [cxOf, Cx.nox, Cx.wish]
  walk_at "go"
  refine ⟨a, C, _, rfl, by decide, X.oe, ha, ?_⟩
  walk_at "go"
  refine ⟨a, C, rfl, X.oe, X.no _ (by simp), .inl ⟨ha, fun dx nd ne => ?_⟩⟩
  walk_at "go"
  refine ⟨a, C, rfl, X.oe, X.no _ (by simp), .inr ⟨dx, _, upd_same, by rw [upd_ne ne, upd_same], by simp, ?_⟩⟩
  walk_at "go"
  rw [upd_two ne]
  refine ⟨a, C, rfl, X.oe, X.no _ (by simp), .inr ⟨dx, _, upd_same, by rw [upd_ne ne, upd_same], by simp, ?_⟩⟩
  walk_at "go"
  rw [upd_two ne]
  exact q dx nd ne
abbrev s_Ring_init : Stmt := inClass (topS 13) 0
theorem sc_Ring_init : FnScope ["self", "names"] ["self", "names"] (defScope s_Ring_init) :=
  ⟨rfl, rfl, rfl, by decide +kernel, rfl, by decide +kernel, by decide +kernel⟩
theorem xi_Ring {P : Program} {w : World} {K : PySem.W.Frag} {mg : Str → Option Value} {base : Heap} {f : Addr} {fd : FuncData} {C CB fI : Addr} (B : XbK K mg "CardError" CB) (X : XcK K mg "Ring" C fI ["names"]) (F : Df K "__init__" "Ring.__init__" s_Ring_init f fd) :
    FnOk P w K mg base CX0 1 f fd ["self", "names"] (SpXi C 1 (fun ys => ((["names"] : List Str).zip ys).reverse)) := by
  refine Df.okF F sc_Ring_init (fun vs H Q E h => by obtain ⟨a, ys, rfl, hl, _⟩ := h; rw [List.length_cons, hl]; rfl) (fun cdv A outer s H vs Q E h => ?_)
  obtain ⟨a, ys, rfl, hl, ha, q⟩ := h
  match ys, hl, q with
  | [y0], _, q =>
  refine ⟨_, (pss_cons (ps_expr (pe_cinit (K := K) rfl B (by rfl) (pa_cons (pv 0) (pa_cons pe_str pa_nil)))) (pss_one (ps_ostK (K := K) rfl (pv 0) (pv 1)))), ?_⟩
  rw [show start ["self", "names"] [.ref a, y0] = [some (.ref a), some y0] from rfl]; try dsimp only [cxOf, Cx.nox, Cx.wish]
  walk_at "go"
  refine ⟨a, C, _, rfl, by decide, X.oe, ha, ?_⟩
  walk_at "go"
  refine ⟨a, C, rfl, X.oe, X.no _ (by simp), .inl ⟨ha, fun dx nd ne => ?_⟩⟩
  walk_at "go"
  exact q dx nd ne
abbrev s_NoLine_init : Stmt := inClass (topS 14) 0
theorem sc_NoLine_init : FnScope ["self", "line"] ["self", "line"] (defScope s_NoLine_init) :=
  ⟨rfl, rfl, rfl, by decide +kernel, rfl, by decide +kernel, by decide +kernel⟩
theorem xi_NoLine {P : Program} {w : World} {K : PySem.W.Frag} {mg : Str → Option Value} {base : Heap} {f : Addr} {fd : FuncData} {C CB fI : Addr} (B : XbK K mg "CardError" CB) (X : XcK K mg "NoLine" C fI ["line"]) (F : Df K "__init__" "NoLine.__init__" s_NoLine_init f fd) :
    FnOk P w K mg base CX0 1 f fd ["self", "line"] (SpXi C 1 (fun ys => ((["line"] : List Str).zip ys).reverse)) := by
  refine Df.okF F sc_NoLine_init (fun vs H Q E h => by obtain ⟨a, ys, rfl, hl, _⟩ := h; rw [List.length_cons, hl]; rfl) (fun cdv A outer s H vs Q E h => ?_)
  obtain ⟨a, ys, rfl, hl, ha, q⟩ := h
  match ys, hl, q with
  | [y0], _, q =>
  refine ⟨_, (pss_cons (ps_expr (pe_cinit (K := K) rfl B (by rfl) (pa_cons (pv 0) (pa_cons pe_str pa_nil)))) (pss_one (ps_ostK (K := K) rfl (pv 0) (pv 1)))), ?_⟩
  rw [show start ["self", "line"] [.ref a, y0] = [some (.ref a), some y0] from rfl]; try dsimp only [cxOf, Cx.nox, Cx.wish]
  walk_at "go"
  refine ⟨a, C, _, rfl, by decide, X.oe, ha, ?_⟩
  walk_at "go"
  refine ⟨a, C, rfl, X.oe, X.no _ (by simp), .inl ⟨ha, fun dx nd ne => ?_⟩⟩
  walk_at "go"
  exact q dx nd ne
section
variable {P : Program} {w : World} {G : Gi} {base : Heap} {ad : Ad} {f : Addr} {fd : FuncData}
--! xkept _law_kinds | _law_error
--! xkept _law_values | _law_error
--! xkept law | _law_error
--! xrows NoText BadCard BadDeed BadBoard Earlier Told NotTold NoBoard NoCard WrongPhoto Ring NoLine BadPhoto
--! exco BadPhoto
noncomputable def m_law_begin : MF := fnM 5
    (sSeq (sPar 3 4 (oCons (xIf (toB (xOp ltD (xBor 1) (xUn lenD (xRd 0)))) (xOpQ ixD (xRd 0) (qVar 1)) (xC (.int 0))) (oCons (xOp addD (xOp mulD (xC (.int 104729)) (xRd 1)) (xC (.int 17))) oNil)))
    (sSeq (sFor (mSeq (frz (xOp addD (xLst (aCons (frz (xVar 3)) aNil)) (xSl (xBor 0) (ret none) (mPart (xC (.int 60))))))) (gN 2)
    (sAsg 4 (xOp modD (xOp addD (xOp addD (xOp mulD (xBor 4) (xC (.int 636413622399))) (xOp mulD (xC (.int 2)) (xUn absD (xRd 2)))) (xUn intD (xOp ltD (xBor 2) (xC (.int 0))))) (xC (.int 2305843009213693951)))))
    (sRet (xLst (aCons (frz (xIf (toB (xOp geD (xUn absD (xRd 3)) (xOp powD (xC (.int 10)) (xC (.int 18))))) (xUn absD (xRd 3)) (xC (.int 0)))) (aCons (frz (xVar 4)) (aCons (frz (xC (.int 0))) aNil)))))))
theorem fn_law_begin (T : Tx G w) (F : Df G.K "_law_begin" "_law_begin" s_law_begin f fd) :
    FnT P w G base false 1 f fd ["_law_script", "_law_k"] m_law_begin := by
  refine Df.okT (N := ["_law_script", "_law_k", "_law_one", "_law_cell", "_law_seed"]) F sc_law_begin (fun cdv A outer s H E hga hr => ?_)
  exact (ss_cons (s_par (ps_par (i := 3) (j := 4) (by rfl) sc_law_begin.nd rfl rfl (by decide) rfl rfl (xo_cons (x_if (xt_cmp op_lt d_lt (tb 1) (x_las (x_bor (x_b1 (k_len rfl) d_len (by rfl) T.b_len bt_len (tr 0)))) (nomark _)) (x_ixQ (k_ix rfl) d_ix (tr 0) (tq 1) (fun _ _ => rfl)) tc_int) (xo_cons (x_op (op_addA rfl) d_add (x_bor (x_op op_mulM d_mul (x_bor tc_int) (tr 1))) (x_las (x_bor tc_int))) xo_nil)) (by rfl)))
      (ss_cons (s_for (passes_of rfl) rfl (xi_any rfl (x_frz (x_op (op_addA rfl) d_add (x_bor (x_lst (xa_cons (x_frz (tv 3)) xa_nil))) (x_las (x_bor (x_sl rfl (tb 0) xp_none (xp_some tc_int))))))) (pg_name (i := 2) sc_law_begin.nd rfl (by first | exact Or.inl rfl | exact Or.inr rfl)) tg_name
      (ss_one (s_asg (i := 4) sc_law_begin.nd rfl (by first | exact Or.inl rfl | exact Or.inr rfl) (x_op op_mod d_mod (x_bor (x_op (op_addA rfl) d_add (x_bor (x_op (op_addA rfl) d_add (x_bor (x_op op_mulM d_mul (tb 4) (x_las (x_bor tc_int)))) (x_las (x_bor (x_op op_mulM d_mul (x_bor tc_int) (x_las (x_bor (x_b1 call_absM d_abs (by rfl) T.b_abs bt_abs (tr 2))))))))) (x_las (x_bor (x_t1 call_intM d_int (by rfl) T.b_int bt_int (x_las (x_bor (x_cmp op_lt d_lt (tb 2) (x_las (x_bor tc_int)) (nomark _))))))))) (x_las (x_bor tc_int))))))
      (ss_one (s_ret (x_lst (xa_cons (x_frz (x_if (xt_cmp op_ge d_ge (x_bor (x_b1 call_absM d_abs (by rfl) T.b_abs bt_abs (tr 3))) (x_las (x_bor (x_op op_pow d_pow (x_bor tc_int) (x_las (x_bor tc_int))))) (nomark _)) (x_b1 call_absM d_abs (by rfl) T.b_abs bt_abs (tr 3)) tc_int)) (xa_cons (x_frz (tv 4)) (xa_cons (x_frz tc_int) xa_nil))))))))
noncomputable def m_law_draw : MF := fnM 5
    (sSeq (sIf (toB (xOp gtD (xOpQ ixD (xRd 0) (fun _ => some (.int 0))) (xC (.int 0))))
    (sSeq (sAsg 4 (xOp modD (xOpQ ixD (xRd 0) (fun _ => some (.int 0))) (xRd 1)))
    (sSeq (sPutL 0 (frz (xC (.int 0))) (frz (xOp divD (xOpQ ixD (xRd 0) (fun _ => some (.int 0))) (xRd 1))))
    (sRet (xMov 4))))
    sNil)
    (sSeq (sPutL 0 (frz (xC (.int 2))) (frz (xOp addD (xOpQ ixD (xRd 0) (fun _ => some (.int 2))) (xC (.int 1)))))
    (sSeq (sAsg 2 (xOpQ ixD (xRd 0) (fun _ => some (.int 2))))
    (sSeq (sAsg 3 (xOp modD (xOp mulD (xOp addD (xOpQ ixD (xRd 0) (fun _ => some (.int 1))) (xOp mulD (xC (.int 40503)) (xRd 2))) (xOp addD (xOp mulD (xOp mulD (xBor 2) (xRd 2)) (xC (.int 65539))) (xC (.int 97)))) (xC (.int 2305843009213693921))))
    (sSeq (sAsg 3 (xOp modD (xOp mulD (xBor 3) (xOp addD (xOp modD (xBor 3) (xC (.int 1000003))) (xRd 2))) (xC (.int 2305843009213693907))))
    (sRet (xOp modD (xOp divD (xBor 3) (xC (.int 8191))) (xRd 1))))))))
theorem fn_law_draw (T : Tx G w) (F : Df G.K "_law_draw" "_law_draw" s_law_draw f fd) :
    FnT P w G base false 1 f fd ["_law_pot", "_law_many"] m_law_draw := by
  refine Df.okT (N := ["_law_pot", "_law_many", "_law_go", "_law_mixed", "_law_digit"]) F sc_law_draw (fun cdv A outer s H E hga hr => ?_)
  exact (ss_cons (s_if (xt_cmp op_gt d_gt (x_bor (x_ixQ (k_ix rfl) d_ix (tr 0) tq_int (fun _ _ => rfl))) (x_las (x_bor tc_int)) (nomark _)) (ss_cons (s_asg (i := 4) sc_law_draw.nd rfl (by first | exact Or.inl rfl | exact Or.inr rfl) (x_op op_mod d_mod (x_bor (x_ixQ (k_ix rfl) d_ix (tr 0) tq_int (fun _ _ => rfl))) (tr 1)))
      (ss_cons (s_putL (i := 0) rfl (by first | exact Or.inl rfl | exact Or.inr (Or.inl rfl) | exact Or.inr (Or.inr rfl)) (x_frz tc_int) (x_frz (x_op op_fdiv d_div (x_bor (x_ixQ (k_ix rfl) d_ix (tr 0) tq_int (fun _ _ => rfl))) (tr 1))))
      (ss_one (s_ret (tm 4))))) ss_nil)
      (ss_cons (s_putL (i := 0) rfl (by first | exact Or.inl rfl | exact Or.inr (Or.inl rfl) | exact Or.inr (Or.inr rfl)) (x_frz tc_int) (x_frz (x_op (op_addA rfl) d_add (x_bor (x_ixQ (k_ix rfl) d_ix (tr 0) tq_int (fun _ _ => rfl))) (x_las (x_bor tc_int)))))
      (ss_cons (s_asg (i := 2) sc_law_draw.nd rfl (by first | exact Or.inl rfl | exact Or.inr rfl) (x_ixQ (k_ix rfl) d_ix (tr 0) tq_int (fun _ _ => rfl)))
      (ss_cons (s_asg (i := 3) sc_law_draw.nd rfl (by first | exact Or.inl rfl | exact Or.inr rfl) (x_op op_mod d_mod (x_bor (x_op op_mulM d_mul (x_bor (x_op (op_addA rfl) d_add (x_bor (x_ixQ (k_ix rfl) d_ix (tr 0) tq_int (fun _ _ => rfl))) (x_las (x_bor (x_op op_mulM d_mul (x_bor tc_int) (tr 2)))))) (x_las (x_bor (x_op (op_addA rfl) d_add (x_bor (x_op op_mulM d_mul (x_bor (x_op op_mulM d_mul (tb 2) (tr 2))) (x_las (x_bor tc_int)))) (x_las (x_bor tc_int))))))) (x_las (x_bor tc_int))))
      (ss_cons (s_asg (i := 3) sc_law_draw.nd rfl (by first | exact Or.inl rfl | exact Or.inr rfl) (x_op op_mod d_mod (x_bor (x_op op_mulM d_mul (tb 3) (x_las (x_bor (x_op (op_addA rfl) d_add (x_bor (x_op op_mod d_mod (tb 3) (x_las (x_bor tc_int)))) (tr 2)))))) (x_las (x_bor tc_int))))
      (ss_one (s_ret (x_op op_mod d_mod (x_bor (x_op op_fdiv d_div (tb 3) (x_las (x_bor tc_int)))) (tr 1)))))))))
noncomputable def m_law_thing : MF := fnM 1
    (sRet (xOp ixD (xLst (aCons (frz (xC .non)) (aCons (frz (xC (.bl true))) (aCons (frz (xC (.int 0))) (aCons (frz (xUn negD (xC (.int 7)))) (aCons (frz (xC (.str ""))) (aCons (frz (xC (.str "a"))) (aCons (frz (xTup (aCons (frz (xC (.int 1))) (aCons (frz (xC (.int 2))) aNil)))) (aCons (frz (xLst (aCons (frz (xC (.str "x"))) aNil))) (aCons (frz (xOp powD (xC (.int 10)) (xC (.int 39)))) (aCons (frz (xC (.str "1.05 take a"))) (aCons (frz (xTup (aCons (frz (xC (.str "a"))) (aCons (frz (xC (.str "b"))) aNil)))) aNil)))))))))))) (xCall m_law_draw (fun ds _ => ds) 2 (nK []) (aCons (frz (xVar 0)) (aCons (frz (xC (.int 11))) aNil)) aNil)))
theorem fn_law_thing (T : Tx G w) (F : Df G.K "_law_thing" "_law_thing" s_law_thing f fd)
    (K_law_draw : KnT P w G base false "_law_draw" 1 2 [] (fun ds _ => ds) m_law_draw) :
    FnT P w G base false 2 f fd ["_law_pot"] m_law_thing := by
  refine Df.okT (N := ["_law_pot"]) F sc_law_thing (fun cdv A outer s H E hga hr => ?_)
  exact (ss_one (s_ret (x_ix (k_ix rfl) d_ix (x_bor (x_lst (xa_cons (x_frz tc_non) (xa_cons (x_frz tc_bl) (xa_cons (x_frz tc_int) (xa_cons (x_frz (x_un un_neg d_neg (x_las (x_bor tc_int)))) (xa_cons (x_frz tc_str) (xa_cons (x_frz tc_str) (xa_cons (x_frz (x_tup (xa_cons (x_frz tc_int) (xa_cons (x_frz tc_int) xa_nil)))) (xa_cons (x_frz (x_lst (xa_cons (x_frz tc_str) xa_nil))) (xa_cons (x_frz (x_op op_pow d_pow (x_bor tc_int) (x_las (x_bor tc_int)))) (xa_cons (x_frz tc_str) (xa_cons (x_frz (x_tup (xa_cons (x_frz tc_str) (xa_cons (x_frz tc_str) xa_nil)))) xa_nil))))))))))))) (x_las (x_bor (x_call rfl rfl K_law_draw nog (hr.mono (by decide)) (by rfl) (fun σ => passAt (takes_of rfl rfl rfl rfl) σ) (xa_cons (x_frz (tv 0)) (xa_cons (x_frz tc_int) xa_nil)) xk_nil))) (fun _ _ => rfl))))
def g_xv_BadBoard_0_high_wide : List D → List D → List D := fun ds es => pick [(2, 1), (2, 0)] ds [] es
def g_xv_BadCard_0_field : List D → List D → List D := fun ds es => pick [(2, 0)] ds [] es
def g_xv_NoBoard_1_why : List D → List D → List D := fun ds es => pick [(0, 0), (2, 0)] ds [] es
def g_xv_NotTold_0_moment : List D → List D → List D := fun ds es => pick [(2, 0)] ds [] es
def g_xv_Earlier_0_day : List D → List D → List D := fun ds es => pick [(2, 0)] ds [] es
def g_xv_Ring_0_names : List D → List D → List D := fun ds es => pick [(2, 0)] ds [] es
def g_xv_WrongPhoto_1_y_x : List D → List D → List D := fun ds es => pick [(0, 0), (2, 1), (2, 0)] ds [] es
def g_xv_NoCard_0_name : List D → List D → List D := fun ds es => pick [(2, 0)] ds [] es
def g_xv_NoLine_0_line : List D → List D → List D := fun ds es => pick [(2, 0)] ds [] es
noncomputable def m_law_made : MF := fnM 6
    (sSeq (sAsgT (gTL [(gN 2), (gN 3), (gN 4)]) (frz (xLc [5] (mRng1 (aCons (frz (xC (.int 3))) aNil)) (gN 5) (ret true) (frz (xCall m_law_thing (fun ds _ => ds) 1 (nK []) (aCons (frz (xVar 0)) aNil) aNil)))))
    (sSeq (sAsg 1 (xLst (aCons (frz (xTup (aCons (frz (xExv "NoText" ["text"] (fun ds _ => ds) 1 (nK []) (aCons (frz (xVar 2)) aNil) aNil)) (aCons (frz (xTup (aCons (frz (xVar 2)) aNil))) aNil)))) (aCons (frz (xTup (aCons (frz (xExv "BadCard" ["field"] g_xv_BadCard_0_field 0 (nK ["field"]) aNil (aCons (frz (xVar 2)) aNil))) (aCons (frz (xTup (aCons (frz (xVar 2)) aNil))) aNil)))) (aCons (frz (xTup (aCons (frz (xExv "BadDeed" ["field"] (fun ds _ => ds) 1 (nK []) (aCons (frz (xVar 2)) aNil) aNil)) (aCons (frz (xTup (aCons (frz (xVar 2)) aNil))) aNil)))) (aCons (frz (xTup (aCons (frz (xExv "BadBoard" ["wide", "high"] g_xv_BadBoard_0_high_wide 0 (nK ["high", "wide"]) aNil (aCons (frz (xVar 3)) (aCons (frz (xVar 2)) aNil)))) (aCons (frz (xTup (aCons (frz (xVar 2)) (aCons (frz (xVar 3)) aNil)))) aNil)))) aNil))))))
    (sSeq (sAsg 1 (xOp addD (xBor 1) (xLst (aCons (frz (xTup (aCons (frz (xExv "Earlier" ["day"] g_xv_Earlier_0_day 0 (nK ["day"]) aNil (aCons (frz (xVar 2)) aNil))) (aCons (frz (xTup (aCons (frz (xVar 2)) aNil))) aNil)))) (aCons (frz (xTup (aCons (frz (xExv "Told" ["deed"] (fun ds _ => ds) 1 (nK []) (aCons (frz (xVar 2)) aNil) aNil)) (aCons (frz (xTup (aCons (frz (xVar 2)) aNil))) aNil)))) (aCons (frz (xTup (aCons (frz (xExv "NotTold" ["moment"] g_xv_NotTold_0_moment 0 (nK ["moment"]) aNil (aCons (frz (xVar 2)) aNil))) (aCons (frz (xTup (aCons (frz (xVar 2)) aNil))) aNil)))) (aCons (frz (xTup (aCons (frz (xExv "NoBoard" ["line", "why"] g_xv_NoBoard_1_why 1 (nK ["why"]) (aCons (frz (xVar 2)) aNil) (aCons (frz (xVar 3)) aNil))) (aCons (frz (xTup (aCons (frz (xVar 2)) (aCons (frz (xVar 3)) aNil)))) aNil)))) aNil)))))))
    (sSeq (sAsg 1 (xOp addD (xBor 1) (xLst (aCons (frz (xTup (aCons (frz (xExv "NoCard" ["name"] g_xv_NoCard_0_name 0 (nK ["name"]) aNil (aCons (frz (xVar 2)) aNil))) (aCons (frz (xTup (aCons (frz (xVar 2)) aNil))) aNil)))) (aCons (frz (xTup (aCons (frz (xExv "WrongPhoto" ["number", "x", "y"] g_xv_WrongPhoto_1_y_x 1 (nK ["y", "x"]) (aCons (frz (xVar 2)) aNil) (aCons (frz (xVar 4)) (aCons (frz (xVar 3)) aNil)))) (aCons (frz (xTup (aCons (frz (xVar 2)) (aCons (frz (xVar 3)) (aCons (frz (xVar 4)) aNil))))) aNil)))) (aCons (frz (xTup (aCons (frz (xExv "Ring" ["names"] g_xv_Ring_0_names 0 (nK ["names"]) aNil (aCons (frz (xVar 2)) aNil))) (aCons (frz (xTup (aCons (frz (xVar 2)) aNil))) aNil)))) aNil))))))
    (sRet (xOp addD (xBor 1) (xLst (aCons (frz (xTup (aCons (frz (xExv "NoLine" ["line"] g_xv_NoLine_0_line 0 (nK ["line"]) aNil (aCons (frz (xVar 2)) aNil))) (aCons (frz (xTup (aCons (frz (xVar 2)) aNil))) aNil)))) (aCons (frz (xTup (aCons (frz (xExv1 "BadPhoto" (aCons (frz (xC (.str "no photograph"))) aNil))) (aCons (frz (xTup aNil)) aNil)))) aNil)))))))))
theorem fn_law_made (T : Tx G w) (F : Df G.K "_law_made" "_law_made" s_law_made f fd)
    (K_law_thing : KnT P w G base false "_law_thing" 2 1 [] (fun ds _ => ds) m_law_thing)
    (K_xv_BadBoard_0_high_wide : XvT P w G base "BadBoard" 1 0 ["wide", "high"] ["high", "wide"] g_xv_BadBoard_0_high_wide)
    (K_xv_BadDeed_1 : XvT P w G base "BadDeed" 1 1 ["field"] [] (fun ds _ => ds))
    (K_xv_BadCard_0_field : XvT P w G base "BadCard" 1 0 ["field"] ["field"] g_xv_BadCard_0_field)
    (K_xv_NoText_1 : XvT P w G base "NoText" 1 1 ["text"] [] (fun ds _ => ds))
    (K_xv_NoBoard_1_why : XvT P w G base "NoBoard" 1 1 ["line", "why"] ["why"] g_xv_NoBoard_1_why)
    (K_xv_NotTold_0_moment : XvT P w G base "NotTold" 1 0 ["moment"] ["moment"] g_xv_NotTold_0_moment)
    (K_xv_Told_1 : XvT P w G base "Told" 1 1 ["deed"] [] (fun ds _ => ds))
    (K_xv_Earlier_0_day : XvT P w G base "Earlier" 1 0 ["day"] ["day"] g_xv_Earlier_0_day)
    (K_xv_Ring_0_names : XvT P w G base "Ring" 1 0 ["names"] ["names"] g_xv_Ring_0_names)
    (K_xv_WrongPhoto_1_y_x : XvT P w G base "WrongPhoto" 1 1 ["number", "x", "y"] ["y", "x"] g_xv_WrongPhoto_1_y_x)
    (K_xv_NoCard_0_name : XvT P w G base "NoCard" 1 0 ["name"] ["name"] g_xv_NoCard_0_name)
    (K_exc_BadPhoto : XoT G "BadPhoto")
    (K_xv_NoLine_0_line : XvT P w G base "NoLine" 1 0 ["line"] ["line"] g_xv_NoLine_0_line) :
    FnT P w G base false 3 f fd ["_law_pot"] m_law_made := by
  refine Df.okT (N := ["_law_pot", "_law_found", "_law_p", "_law_q", "_law_u", "_law_turn"]) F sc_law_made (fun cdv A outer s H E hga hr => ?_)
  exact (ss_cons (s_asgT (x_frz (x_lc (own := [("_law_turn", 5)]) (vs := [5]) rfl (by decide) rfl sc_law_made.nd (xi_range1 (by rfl) T.b_range (xa_cons (x_frz tc_int) xa_nil)) (blkOk_by (N := ["_law_pot", "_law_found", "_law_p", "_law_q", "_law_u", "_law_turn"]) (sc := defScope s_law_made) (by decide +kernel)) (tw_name (by decide)) (fun _ _ _ _ _ => (pg_name (i := 5) sc_law_made.nd rfl (by first | exact Or.inl rfl | exact Or.inr rfl))) (fun _ _ _ _ _ => xts_nil) (fun _ _ _ _ _ => (x_frz (x_call rfl rfl K_law_thing nog (hr.mono (by decide)) (by rfl) (fun _ => noPass) (xa_cons (x_frz (tv 0)) xa_nil) xk_nil))))) (pg_tupLK (K := G.K) rfl rfl (pgs_cons (pg_name (i := 2) sc_law_made.nd rfl (by first | exact Or.inl rfl | exact Or.inr rfl)) (pgs_cons (pg_name (i := 3) sc_law_made.nd rfl (by first | exact Or.inl rfl | exact Or.inr rfl)) (pgs_cons (pg_name (i := 4) sc_law_made.nd rfl (by first | exact Or.inl rfl | exact Or.inr rfl)) pgs_nil)))) (tg_tupLK rfl (tgs_cons tg_name (tgs_cons tg_name (tgs_cons tg_name tgs_nil)))))
      (ss_cons (s_asg (i := 1) sc_law_made.nd rfl (by first | exact Or.inl rfl | exact Or.inr rfl) (x_lst (xa_cons (x_frz (x_tup (xa_cons (x_frz (x_exv rfl rfl K_xv_NoText_1 (hr.mono (by decide)) (by rfl) (xa_cons (x_frz (tv 2)) xa_nil) xk_nil)) (xa_cons (x_frz (x_tup (xa_cons (x_frz (tv 2)) xa_nil))) xa_nil)))) (xa_cons (x_frz (x_tup (xa_cons (x_frz (x_exvK0 rfl rfl K_xv_BadCard_0_field (hr.mono (by decide)) (by rfl) (xk_cons (x_frz (tv 2)) xk_nil))) (xa_cons (x_frz (x_tup (xa_cons (x_frz (tv 2)) xa_nil))) xa_nil)))) (xa_cons (x_frz (x_tup (xa_cons (x_frz (x_exv rfl rfl K_xv_BadDeed_1 (hr.mono (by decide)) (by rfl) (xa_cons (x_frz (tv 2)) xa_nil) xk_nil)) (xa_cons (x_frz (x_tup (xa_cons (x_frz (tv 2)) xa_nil))) xa_nil)))) (xa_cons (x_frz (x_tup (xa_cons (x_frz (x_exvK0 rfl rfl K_xv_BadBoard_0_high_wide (hr.mono (by decide)) (by rfl) (xk_cons (x_frz (tv 3)) (xk_cons (x_frz (tv 2)) xk_nil)))) (xa_cons (x_frz (x_tup (xa_cons (x_frz (tv 2)) (xa_cons (x_frz (tv 3)) xa_nil)))) xa_nil)))) xa_nil))))))
      (ss_cons (s_asg (i := 1) sc_law_made.nd rfl (by first | exact Or.inl rfl | exact Or.inr rfl) (x_op (op_addA rfl) d_add (tb 1) (x_las (x_bor (x_lst (xa_cons (x_frz (x_tup (xa_cons (x_frz (x_exvK0 rfl rfl K_xv_Earlier_0_day (hr.mono (by decide)) (by rfl) (xk_cons (x_frz (tv 2)) xk_nil))) (xa_cons (x_frz (x_tup (xa_cons (x_frz (tv 2)) xa_nil))) xa_nil)))) (xa_cons (x_frz (x_tup (xa_cons (x_frz (x_exv rfl rfl K_xv_Told_1 (hr.mono (by decide)) (by rfl) (xa_cons (x_frz (tv 2)) xa_nil) xk_nil)) (xa_cons (x_frz (x_tup (xa_cons (x_frz (tv 2)) xa_nil))) xa_nil)))) (xa_cons (x_frz (x_tup (xa_cons (x_frz (x_exvK0 rfl rfl K_xv_NotTold_0_moment (hr.mono (by decide)) (by rfl) (xk_cons (x_frz (tv 2)) xk_nil))) (xa_cons (x_frz (x_tup (xa_cons (x_frz (tv 2)) xa_nil))) xa_nil)))) (xa_cons (x_frz (x_tup (xa_cons (x_frz (x_exv rfl rfl K_xv_NoBoard_1_why (hr.mono (by decide)) (by rfl) (xa_cons (x_frz (tv 2)) xa_nil) (xk_cons (x_frz (tv 3)) xk_nil))) (xa_cons (x_frz (x_tup (xa_cons (x_frz (tv 2)) (xa_cons (x_frz (tv 3)) xa_nil)))) xa_nil)))) xa_nil)))))))))
      (ss_cons (s_asg (i := 1) sc_law_made.nd rfl (by first | exact Or.inl rfl | exact Or.inr rfl) (x_op (op_addA rfl) d_add (tb 1) (x_las (x_bor (x_lst (xa_cons (x_frz (x_tup (xa_cons (x_frz (x_exvK0 rfl rfl K_xv_NoCard_0_name (hr.mono (by decide)) (by rfl) (xk_cons (x_frz (tv 2)) xk_nil))) (xa_cons (x_frz (x_tup (xa_cons (x_frz (tv 2)) xa_nil))) xa_nil)))) (xa_cons (x_frz (x_tup (xa_cons (x_frz (x_exv rfl rfl K_xv_WrongPhoto_1_y_x (hr.mono (by decide)) (by rfl) (xa_cons (x_frz (tv 2)) xa_nil) (xk_cons (x_frz (tv 4)) (xk_cons (x_frz (tv 3)) xk_nil)))) (xa_cons (x_frz (x_tup (xa_cons (x_frz (tv 2)) (xa_cons (x_frz (tv 3)) (xa_cons (x_frz (tv 4)) xa_nil))))) xa_nil)))) (xa_cons (x_frz (x_tup (xa_cons (x_frz (x_exvK0 rfl rfl K_xv_Ring_0_names (hr.mono (by decide)) (by rfl) (xk_cons (x_frz (tv 2)) xk_nil))) (xa_cons (x_frz (x_tup (xa_cons (x_frz (tv 2)) xa_nil))) xa_nil)))) xa_nil))))))))
      (ss_one (s_ret (x_op (op_addA rfl) d_add (tb 1) (x_las (x_bor (x_lst (xa_cons (x_frz (x_tup (xa_cons (x_frz (x_exvK0 rfl rfl K_xv_NoLine_0_line (hr.mono (by decide)) (by rfl) (xk_cons (x_frz (tv 2)) xk_nil))) (xa_cons (x_frz (x_tup (xa_cons (x_frz (tv 2)) xa_nil))) xa_nil)))) (xa_cons (x_frz (x_tup (xa_cons (x_frz (x_exv1 rfl rfl K_exc_BadPhoto (by rfl) (xa_cons (x_frz tc_str) xa_nil))) (xa_cons (x_frz (x_tup xa_nil)) xa_nil)))) xa_nil))))))))))))
noncomputable def m_law_kinds : MF := fnM 2
    (sSeq (sAsg 1 (xLst (aCons (frz (xCn (isiXT IXT BXT) (aCons (frz (xVar 0)) (aCons (frz (xC (.fn "NoText"))) aNil)))) (aCons (frz (xCn (isiXT IXT BXT) (aCons (frz (xVar 0)) (aCons (frz (xC (.fn "BadCard"))) aNil)))) (aCons (frz (xCn (isiXT IXT BXT) (aCons (frz (xVar 0)) (aCons (frz (xC (.fn "BadDeed"))) aNil)))) aNil)))))
    (sSeq (sAsg 1 (xOp addD (xBor 1) (xLst (aCons (frz (xCn (isiXT IXT BXT) (aCons (frz (xVar 0)) (aCons (frz (xC (.fn "BadBoard"))) aNil)))) (aCons (frz (xCn (isiXT IXT BXT) (aCons (frz (xVar 0)) (aCons (frz (xC (.fn "Earlier"))) aNil)))) (aCons (frz (xCn (isiXT IXT BXT) (aCons (frz (xVar 0)) (aCons (frz (xC (.fn "Told"))) aNil)))) aNil))))))
    (sSeq (sAsg 1 (xOp addD (xBor 1) (xLst (aCons (frz (xCn (isiXT IXT BXT) (aCons (frz (xVar 0)) (aCons (frz (xC (.fn "NotTold"))) aNil)))) (aCons (frz (xCn (isiXT IXT BXT) (aCons (frz (xVar 0)) (aCons (frz (xC (.fn "NoBoard"))) aNil)))) (aCons (frz (xCn (isiXT IXT BXT) (aCons (frz (xVar 0)) (aCons (frz (xC (.fn "NoCard"))) aNil)))) aNil))))))
    (sSeq (sAsg 1 (xOp addD (xBor 1) (xLst (aCons (frz (xCn (isiXT IXT BXT) (aCons (frz (xVar 0)) (aCons (frz (xC (.fn "WrongPhoto"))) aNil)))) (aCons (frz (xCn (isiXT IXT BXT) (aCons (frz (xVar 0)) (aCons (frz (xC (.fn "Ring"))) aNil)))) (aCons (frz (xCn (isiXT IXT BXT) (aCons (frz (xVar 0)) (aCons (frz (xC (.fn "NoLine"))) aNil)))) aNil))))))
    (sRet (xOp addD (xBor 1) (xLst (aCons (frz (xCn (isiXT IXT BXT) (aCons (frz (xVar 0)) (aCons (frz (xC (.fn "BadPhoto"))) aNil)))) aNil))))))))
theorem fn_law_kinds (T : Tx G w) (F : Df G.K "_law_kinds" "_law_kinds" s_law_kinds f fd) :
    FnT P w G base false 1 f fd ["_law_error"] m_law_kinds := by
  refine Df.okT (N := ["_law_error", "_law_found"]) F sc_law_kinds (fun cdv A outer s H E hga hr => ?_)
  exact (ss_cons (s_asg (i := 1) sc_law_kinds.nd rfl (by first | exact Or.inl rfl | exact Or.inr rfl) (x_lst (xa_cons (x_frz (x_bn (k_isX rfl) (d_isiX T.kxi) (by rfl) T.b_isinstance bt_isinstance (xa_cons (x_frz (tv 0)) (xa_cons (x_frz (tg T.c_NoText rfl (by rfl))) xa_nil)))) (xa_cons (x_frz (x_bn (k_isX rfl) (d_isiX T.kxi) (by rfl) T.b_isinstance bt_isinstance (xa_cons (x_frz (tv 0)) (xa_cons (x_frz (tg T.c_BadCard rfl (by rfl))) xa_nil)))) (xa_cons (x_frz (x_bn (k_isX rfl) (d_isiX T.kxi) (by rfl) T.b_isinstance bt_isinstance (xa_cons (x_frz (tv 0)) (xa_cons (x_frz (tg T.c_BadDeed rfl (by rfl))) xa_nil)))) xa_nil)))))
      (ss_cons (s_asg (i := 1) sc_law_kinds.nd rfl (by first | exact Or.inl rfl | exact Or.inr rfl) (x_op (op_addA rfl) d_add (tb 1) (x_las (x_bor (x_lst (xa_cons (x_frz (x_bn (k_isX rfl) (d_isiX T.kxi) (by rfl) T.b_isinstance bt_isinstance (xa_cons (x_frz (tv 0)) (xa_cons (x_frz (tg T.c_BadBoard rfl (by rfl))) xa_nil)))) (xa_cons (x_frz (x_bn (k_isX rfl) (d_isiX T.kxi) (by rfl) T.b_isinstance bt_isinstance (xa_cons (x_frz (tv 0)) (xa_cons (x_frz (tg T.c_Earlier rfl (by rfl))) xa_nil)))) (xa_cons (x_frz (x_bn (k_isX rfl) (d_isiX T.kxi) (by rfl) T.b_isinstance bt_isinstance (xa_cons (x_frz (tv 0)) (xa_cons (x_frz (tg T.c_Told rfl (by rfl))) xa_nil)))) xa_nil))))))))
      (ss_cons (s_asg (i := 1) sc_law_kinds.nd rfl (by first | exact Or.inl rfl | exact Or.inr rfl) (x_op (op_addA rfl) d_add (tb 1) (x_las (x_bor (x_lst (xa_cons (x_frz (x_bn (k_isX rfl) (d_isiX T.kxi) (by rfl) T.b_isinstance bt_isinstance (xa_cons (x_frz (tv 0)) (xa_cons (x_frz (tg T.c_NotTold rfl (by rfl))) xa_nil)))) (xa_cons (x_frz (x_bn (k_isX rfl) (d_isiX T.kxi) (by rfl) T.b_isinstance bt_isinstance (xa_cons (x_frz (tv 0)) (xa_cons (x_frz (tg T.c_NoBoard rfl (by rfl))) xa_nil)))) (xa_cons (x_frz (x_bn (k_isX rfl) (d_isiX T.kxi) (by rfl) T.b_isinstance bt_isinstance (xa_cons (x_frz (tv 0)) (xa_cons (x_frz (tg T.c_NoCard rfl (by rfl))) xa_nil)))) xa_nil))))))))
      (ss_cons (s_asg (i := 1) sc_law_kinds.nd rfl (by first | exact Or.inl rfl | exact Or.inr rfl) (x_op (op_addA rfl) d_add (tb 1) (x_las (x_bor (x_lst (xa_cons (x_frz (x_bn (k_isX rfl) (d_isiX T.kxi) (by rfl) T.b_isinstance bt_isinstance (xa_cons (x_frz (tv 0)) (xa_cons (x_frz (tg T.c_WrongPhoto rfl (by rfl))) xa_nil)))) (xa_cons (x_frz (x_bn (k_isX rfl) (d_isiX T.kxi) (by rfl) T.b_isinstance bt_isinstance (xa_cons (x_frz (tv 0)) (xa_cons (x_frz (tg T.c_Ring rfl (by rfl))) xa_nil)))) (xa_cons (x_frz (x_bn (k_isX rfl) (d_isiX T.kxi) (by rfl) T.b_isinstance bt_isinstance (xa_cons (x_frz (tv 0)) (xa_cons (x_frz (tg T.c_NoLine rfl (by rfl))) xa_nil)))) xa_nil))))))))
      (ss_one (s_ret (x_op (op_addA rfl) d_add (tb 1) (x_las (x_bor (x_lst (xa_cons (x_frz (x_bn (k_isX rfl) (d_isiX T.kxi) (by rfl) T.b_isinstance bt_isinstance (xa_cons (x_frz (tv 0)) (xa_cons (x_frz (tg T.c_BadPhoto rfl (by rfl))) xa_nil)))) xa_nil)))))))))))
noncomputable def m_law_values : MF := fnM 2
    (sSeq (sIf (toB (xOp ltD (xBor 1) (xC (.int 3))))
    (sRet (xIf (toB (xOp eqD (xBor 1) (xC (.int 0)))) (xTup (aCons (frz (xXk XT "text" (frz (xVar 0)))) aNil)) (xTup (aCons (frz (xXk XT "field" (frz (xVar 0)))) aNil))))
    sNil)
    (sSeq (sIf (toB (xOp ltD (xBor 1) (xC (.int 5))))
    (sRet (xIf (toB (xOp eqD (xBor 1) (xC (.int 3)))) (xTup (aCons (frz (xXk XT "wide" (frz (xVar 0)))) (aCons (frz (xXk XT "high" (frz (xVar 0)))) aNil))) (xTup (aCons (frz (xXk XT "day" (frz (xVar 0)))) aNil))))
    sNil)
    (sSeq (sIf (toB (xOp ltD (xBor 1) (xC (.int 7))))
    (sRet (xIf (toB (xOp eqD (xBor 1) (xC (.int 5)))) (xTup (aCons (frz (xXk XT "deed" (frz (xVar 0)))) aNil)) (xTup (aCons (frz (xXk XT "moment" (frz (xVar 0)))) aNil))))
    sNil)
    (sSeq (sIf (toB (xOp ltD (xBor 1) (xC (.int 9))))
    (sRet (xIf (toB (xOp eqD (xBor 1) (xC (.int 7)))) (xTup (aCons (frz (xXk XT "line" (frz (xVar 0)))) (aCons (frz (xXk XT "why" (frz (xVar 0)))) aNil))) (xTup (aCons (frz (xXk XT "name" (frz (xVar 0)))) aNil))))
    sNil)
    (sSeq (sIf (toB (xOp ltD (xBor 1) (xC (.int 11))))
    (sRet (xIf (toB (xOp eqD (xBor 1) (xC (.int 9)))) (xTup (aCons (frz (xXk XT "number" (frz (xVar 0)))) (aCons (frz (xXk XT "x" (frz (xVar 0)))) (aCons (frz (xXk XT "y" (frz (xVar 0)))) aNil)))) (xTup (aCons (frz (xXk XT "names" (frz (xVar 0)))) aNil))))
    sNil)
    (sRet (xIf (toB (xOp eqD (xBor 1) (xC (.int 11)))) (xTup (aCons (frz (xXk XT "line" (frz (xVar 0)))) aNil)) (xTup aNil))))))))
theorem fn_law_values (T : Tx G w) (F : Df G.K "_law_values" "_law_values" s_law_values f fd) :
    FnT P w G base false 1 f fd ["_law_error", "_law_at"] m_law_values := by
  refine Df.okT (N := ["_law_error", "_law_at"]) F sc_law_values (fun cdv A outer s H E hga hr => ?_)
  exact (ss_cons (s_if (xt_cmp op_lt d_lt (tb 1) (x_las (x_bor tc_int)) (nomark _)) (ss_one (s_ret (x_if (xt_cmp (k_eq rfl (hu64 hr)) d_eq (tb 1) (x_las (x_bor tc_int)) (nomark _)) (x_tup (xa_cons (x_frz (x_xk rfl T.kx (x_frz (tv 0)))) xa_nil)) (x_tup (xa_cons (x_frz (x_xk rfl T.kx (x_frz (tv 0)))) xa_nil))))) ss_nil)
      (ss_cons (s_if (xt_cmp op_lt d_lt (tb 1) (x_las (x_bor tc_int)) (nomark _)) (ss_one (s_ret (x_if (xt_cmp (k_eq rfl (hu64 hr)) d_eq (tb 1) (x_las (x_bor tc_int)) (nomark _)) (x_tup (xa_cons (x_frz (x_xk rfl T.kx (x_frz (tv 0)))) (xa_cons (x_frz (x_xk rfl T.kx (x_frz (tv 0)))) xa_nil))) (x_tup (xa_cons (x_frz (x_xk rfl T.kx (x_frz (tv 0)))) xa_nil))))) ss_nil)
      (ss_cons (s_if (xt_cmp op_lt d_lt (tb 1) (x_las (x_bor tc_int)) (nomark _)) (ss_one (s_ret (x_if (xt_cmp (k_eq rfl (hu64 hr)) d_eq (tb 1) (x_las (x_bor tc_int)) (nomark _)) (x_tup (xa_cons (x_frz (x_xk rfl T.kx (x_frz (tv 0)))) xa_nil)) (x_tup (xa_cons (x_frz (x_xk rfl T.kx (x_frz (tv 0)))) xa_nil))))) ss_nil)
      (ss_cons (s_if (xt_cmp op_lt d_lt (tb 1) (x_las (x_bor tc_int)) (nomark _)) (ss_one (s_ret (x_if (xt_cmp (k_eq rfl (hu64 hr)) d_eq (tb 1) (x_las (x_bor tc_int)) (nomark _)) (x_tup (xa_cons (x_frz (x_xk rfl T.kx (x_frz (tv 0)))) (xa_cons (x_frz (x_xk rfl T.kx (x_frz (tv 0)))) xa_nil))) (x_tup (xa_cons (x_frz (x_xk rfl T.kx (x_frz (tv 0)))) xa_nil))))) ss_nil)
      (ss_cons (s_if (xt_cmp op_lt d_lt (tb 1) (x_las (x_bor tc_int)) (nomark _)) (ss_one (s_ret (x_if (xt_cmp (k_eq rfl (hu64 hr)) d_eq (tb 1) (x_las (x_bor tc_int)) (nomark _)) (x_tup (xa_cons (x_frz (x_xk rfl T.kx (x_frz (tv 0)))) (xa_cons (x_frz (x_xk rfl T.kx (x_frz (tv 0)))) (xa_cons (x_frz (x_xk rfl T.kx (x_frz (tv 0)))) xa_nil)))) (x_tup (xa_cons (x_frz (x_xk rfl T.kx (x_frz (tv 0)))) xa_nil))))) ss_nil)
      (ss_one (s_ret (x_if (xt_cmp (k_eq rfl (hu64 hr)) d_eq (tb 1) (x_las (x_bor tc_int)) (nomark _)) (x_tup (xa_cons (x_frz (x_xk rfl T.kx (x_frz (tv 0)))) xa_nil)) (x_tup xa_nil)))))))))
noncomputable def m_law : MF := fnM 7
    (sSeq (sFor (mRng1 (aCons (frz (xOp addD (xC (.int 1)) (xUn lenD (xSl (xBor 0) (ret none) (mPart (xC (.int 4))))))) aNil)) (gN 1)
    (sSeq (sAsgC 2 (xCall m_law_begin (fun ds _ => ds) 2 (nK []) (aCons (frz (xVar 0)) (aCons (frz (xVar 1)) aNil)) aNil))
    (sFor (mEnumA (aCons (frz (xCall m_law_made (fun ds _ => ds) 1 (nK []) (aCons (frz (xVar 2)) aNil) aNil)) aNil)) (gT [(gN 3), (gT [(gN 4), (gN 5)])])
    (sSeq (sIf (bOr (bNot (toB (xCn (isiXT IXT BXT) (aCons (frz (xVar 4)) (aCons (frz (xC (.fn "CardError"))) aNil))))) (bNot (toB (xCn (isiXT IXT BXT) (aCons (frz (xVar 4)) (aCons (ret (.ty "ValueError")) aNil))))))
    (sRet (xC (.bl false)))
    sNil)
    (sSeq (sIf (toB (xOp neD (xCall m_law_kinds (fun ds _ => ds) 1 (nK []) (aCons (frz (xVar 4)) aNil) aNil) (xLc [6] (mRng1 (aCons (frz (xC (.int 13))) aNil)) (gN 6) (ret true) (frz (xOp eqD (xBor 6) (xRd 3))))))
    (sRet (xC (.bl false)))
    sNil)
    (sIf (toB (xOp neD (xUn reprD (xCall m_law_values (fun ds _ => ds) 2 (nK []) (aCons (frz (xVar 4)) (aCons (frz (xVar 3)) aNil)) aNil)) (xUn reprD (xRd 5))))
    (sRet (xC (.bl false)))
    sNil))))))
    (sRet (xC (.bl true))))
theorem fn_law (T : Tx G w) (F : Df G.K "law" "law" s_law f fd) (SM : Sm base)
    (K_law_begin : KnT P w G base false "_law_begin" 1 2 [] (fun ds _ => ds) m_law_begin)
    (K_law_made : KnT P w G base false "_law_made" 3 1 [] (fun ds _ => ds) m_law_made)
    (K_law_kinds : KnT P w G base false "_law_kinds" 1 1 [] (fun ds _ => ds) m_law_kinds)
    (K_law_values : KnT P w G base false "_law_values" 1 2 [] (fun ds _ => ds) m_law_values) :
    FnT P w G base true 4 f fd ["_law_script"] m_law := by
  refine Df.okT (N := ["_law_script", "_law_k", "_law_pot", "_law_at", "_law_error", "_law_values_here", "_law_spot"]) F sc_law (fun cdv A outer s H E hga hr => ?_)
  exact (ss_cons (s_for (passes_of rfl) rfl (xi_range1 (by rfl) T.b_range (xa_cons (x_frz (x_op (op_addA rfl) d_add (x_bor tc_int) (x_las (x_bor (x_b1 (k_len rfl) d_len (by rfl) T.b_len bt_len (x_las (x_bor (x_sl rfl (tb 0) xp_none (xp_some tc_int))))))))) xa_nil)) (pg_name (i := 1) sc_law.nd rfl (by first | exact Or.inl rfl | exact Or.inr rfl)) tg_name
      (ss_cons (s_asgC (i := 2) sc_law.nd rfl (by first | exact Or.inl rfl | exact Or.inr rfl) (x_call rfl rfl K_law_begin nog (hr.mono (by decide)) (by rfl) (fun σ => passAt (takes_of rfl rfl rfl rfl) σ) (xa_cons (x_frz (tv 0)) (xa_cons (x_frz (tv 1)) xa_nil)) xk_nil))
      (ss_one (s_for (passes_of rfl) rfl (xi_enumA rfl (by rfl) T.b_enumerate (xa_cons (x_frz (x_call rfl rfl K_law_made nog (hr.mono (by decide)) (by rfl) (fun σ => passAt (takes_of rfl rfl rfl rfl) σ) (xa_cons (x_frz (tv 2)) xa_nil) xk_nil)) xa_nil)) (pg_tupK (K := G.K) rfl rfl (pgs_cons (pg_name (i := 3) sc_law.nd rfl (by first | exact Or.inl rfl | exact Or.inr rfl)) (pgs_cons (pg_tupK (K := G.K) rfl rfl (pgs_cons (pg_name (i := 4) sc_law.nd rfl (by first | exact Or.inl rfl | exact Or.inr rfl)) (pgs_cons (pg_name (i := 5) sc_law.nd rfl (by first | exact Or.inl rfl | exact Or.inr rfl)) pgs_nil))) pgs_nil))) (tg_tupK rfl (tgs_cons tg_name (tgs_cons (tg_tupK rfl (tgs_cons tg_name (tgs_cons tg_name tgs_nil))) tgs_nil)))
      (ss_cons (s_if (PW.pt (xw_or (xt_not (xt_val (x_bn (k_isX rfl) (d_isiX T.kxi) (by rfl) T.b_isinstance bt_isinstance (xa_cons (x_frz (tv 4)) (xa_cons (x_frz (tg T.c_CardError rfl (by rfl))) xa_nil))))) (xw_or1 (xt_not (xt_val (x_bn (k_isX rfl) (d_isiX T.kxi) (by rfl) T.b_isinstance bt_isinstance (xa_cons (x_frz (tv 4)) (xa_cons (x_ty (by rfl) T.b_ValueError bt_ValueError) xa_nil)))))))) (ss_one (s_ret tc_bl)) ss_nil)
      (ss_cons (s_if (xt_cmp (k_ne rfl (hu64 hr)) d_ne (x_bor (x_call rfl rfl K_law_kinds nog (hr.mono (by decide)) (by rfl) (fun σ => passAt (takes_of rfl rfl rfl rfl) σ) (xa_cons (x_frz (tv 4)) xa_nil) xk_nil)) (x_las (x_bor (x_lc (own := [("_law_spot", 6)]) (vs := [6]) rfl (by decide) rfl sc_law.nd (xi_range1 (by rfl) T.b_range (xa_cons (x_frz tc_int) xa_nil)) (blkOk_by (N := ["_law_script", "_law_k", "_law_pot", "_law_at", "_law_error", "_law_values_here", "_law_spot"]) (sc := defScope s_law) (by decide +kernel)) (tw_name (by decide)) (fun _ _ _ _ _ => (pg_name (i := 6) sc_law.nd rfl (by first | exact Or.inl rfl | exact Or.inr rfl))) (fun _ _ _ _ _ => xts_nil) (fun _ _ _ _ _ => (x_frz (x_cmp (k_eq rfl (hu64 hr)) d_eq (tb 6) (tr 3) (nomark _))))))) (nomark _)) (ss_one (s_ret tc_bl)) ss_nil)
      (ss_one (s_if (xt_cmp (k_ne rfl (hu64 hr)) d_ne (x_bor (x_b1 (k_repr rfl (hga rfl) (hu64 hr) SM) d_repr (by rfl) T.b_repr bt_repr (x_las (x_bor (x_call rfl rfl K_law_values nog (hr.mono (by decide)) (by rfl) (fun σ => passAt (takes_of rfl rfl rfl rfl) σ) (xa_cons (x_frz (tv 4)) (xa_cons (x_frz (tv 3)) xa_nil)) xk_nil))))) (x_las (x_bor (x_b1 (k_repr rfl (hga rfl) (hu64 hr) SM) d_repr (by rfl) T.b_repr bt_repr (tr 5)))) (nomark _)) (ss_one (s_ret tc_bl)) ss_nil))))))))
      (ss_one (s_ret tc_bl)))
end
end F06
namespace F06
open PySem L2 L2.Pc L2.Tr
-- a step through the tree functions
local macro_rules | `(tactic| walk_at "stp") => `(tactic| simp only [st_ret, st_bnd, st_ofs, st_frz, st_fzd, st_var, st_bor, st_mov, st_rd, st_qv, st_c, st_op, st_un, st_tob, st_band, st_bor2, st_bnot, st_if, st_andV, st_orV, st_notV, st_anil, st_acons, st_onil, st_ocons, st_tup, st_lst, st_cn, st_m1, st_m0, st_opq, st_sl, st_chain, st_mseq, st_rg1, st_rg2, st_snil, st_seq, st_sexpr, st_sret, st_sif, st_asg, st_asgK, st_asgT, st_asgTK, st_asgC, st_asgCK, st_putL, st_putLK, st_putAt, st_getP, st_putP, st_app, st_appK, st_ext, st_extK, st_for, st_for0, st_for1, st_gN, st_gT, st_gs0, st_gs1, st_par, st_parK, st_par3, st_parK3, st_call, st_runF, st_fld, st_fldF, st_sfld, st_fldK, st_meth, st_sp, st_eqO, st_inO, st_js0, st_js1, st_jsK, st_lc, st_lcK, st_lcB, st_lc0, st_lc1, st_lcT, st_lcY, st_mpart, getS_0, setS_0, getS_1, setS_1, getS_2, setS_2, getS_3, setS_3, getS_4, setS_4, getS_5, setS_5, getS_6, setS_6, getS_7, setS_7, getS_8, setS_8, getS_9, setS_9, getS_10, setS_10, getS_11, setS_11, getS_12, setS_12, getS_13, setS_13, getS_14, setS_14, st_fnM, st_env0, st_seqn, st_seqr, st_seqb, st_seqc, st_forn, st_forc, st_forb, st_forr, st_parti, st_opqK, st_bok, st_bex, st_isf, st_isl, st_isi, st_tdf, st_tdl, st_tdi, st_tdn, st_tdc, st_asb, st_celf, st_cell, st_fzO, st_isS, st_sqt, st_squ, st_silst, st_silsk, st_situp, st_situk, st_addi, st_adds, st_addl, st_addt, st_subi, st_lti, st_lei, st_gti, st_gei, st_divi, st_modi, st_muli, st_negi, st_ixl, st_ixk, st_ixt, st_ixu, st_at0, st_at1, st_at2, st_at3, st_at4, st_ixn0, st_ixn1, st_ixn2, st_absi, st_inti, st_intb, st_lenl, st_lenk, st_lent, st_lenu, st_lens, st_ixs, st_stri, st_strs, st_is, st_isnt, st_nonn, st_noni, st_nons, st_zf2, st_eqi, st_eqs, st_nei, st_nes, st_nenn, st_neni, st_nein, st_fmts, st_mull, st_fr0, st_fr1, st_wp0, st_wp1, st_bk0, st_bk1, st_nok, st_rng1, st_joi, st_dtup, st_dlst, st_raise, st_raise1, st_raise2, st_raise3, st_try, st_tryok, st_tryex, st_tryt, st_tryf, st_suite, st_suiok, st_chk0, st_chk1, st_nxo, st_nxl, st_nxs, st_nxb, st_nxi, st_nxn, st_nxt, st_nxL, st_nxa0, st_nxa1, st_nxf, st_nxr, st_try1, st_try1ok, st_try1ex, st_try1t, st_try1f, st_xf, st_xfo, st_mzip, st_menum, st_mrev, st_zipl, st_zipt, st_pair0, st_pair1, st_enuml, st_num0, st_num1, st_revl, st_revt, st_fnI, st_nk0, st_nk1, st_nk2, st_nk3, st_nk4, st_nk5, st_nk6, st_nk7, st_nk8, List.map_cons, List.map_nil, List.cons_append, List.nil_append, List.length_cons, List.length_nil, List.replicate, Nat.reduceSub, Nat.reduceAdd, Nat.reduceLeDiff, List.set_cons_zero, List.set_cons_succ, Nat.zero_add, if_true, if_false, ite_true, ite_false, Option.map_some, Option.bind_some, Option.map_none, Option.bind_none, decide_true, decide_false, decide_eq_true_eq, decide_eq_false_iff_not, Bool.not_true, Bool.not_false, and_self, true_and, and_true, Bool.false_eq_true, Bool.and_self, Bool.and_true, Bool.true_and, *])
local macro_rules | `(tactic| walk_at "dch") => `(tactic| first | assumption | (simp only [Int.reduceLT, Int.reduceLE, Nat.reduceLT, Nat.reduceLeDiff, and_self]; done) | omega | (simp only [strLen_append, c_ltlen, List.length_append, List.length_map, List.length_cons, List.length_nil, Nat.reduceAdd, String.reduceLength, String.length] <;> omega) | decide)
local macro_rules | `(tactic| walk_at "stq") => `(tactic| simp (config := {maxSteps := 4000000}) (disch := walk_at "dch") only [st_ret, st_bnd, st_ofs, st_frz, st_fzd, st_var, st_bor, st_mov, st_rd, st_qv, st_c, st_op, st_un, st_tob, st_band, st_bor2, st_bnot, st_if, st_andV, st_orV, st_notV, st_anil, st_acons, st_onil, st_ocons, st_tup, st_lst, st_cn, st_m1, st_m0, st_opq, st_sl, st_chain, st_mseq, st_rg1, st_rg2, st_snil, st_seq, st_sexpr, st_sret, st_sif, st_asg, st_asgK, st_asgT, st_asgTK, st_asgC, st_asgCK, st_putL, st_putLK, st_putAt, st_getP, st_putP, st_app, st_appK, st_ext, st_extK, st_for, st_for0, st_for1, st_gN, st_gT, st_gs0, st_gs1, st_par, st_parK, st_par3, st_parK3, st_call, st_runF, st_fld, st_fldF, st_sfld, st_fldK, st_meth, st_sp, st_eqO, st_inO, st_js0, st_js1, st_jsK, st_lc, st_lcK, st_lcB, st_lc0, st_lc1, st_lcT, st_lcY, st_mpart, getS_0, setS_0, getS_1, setS_1, getS_2, setS_2, getS_3, setS_3, getS_4, setS_4, getS_5, setS_5, getS_6, setS_6, getS_7, setS_7, getS_8, setS_8, getS_9, setS_9, getS_10, setS_10, getS_11, setS_11, getS_12, setS_12, getS_13, setS_13, getS_14, setS_14, st_fnM, st_env0, st_seqn, st_seqr, st_seqb, st_seqc, st_forn, st_forc, st_forb, st_forr, st_parti, st_opqK, st_bok, st_bex, st_isf, st_isl, st_isi, st_tdf, st_tdl, st_tdi, st_tdn, st_tdc, st_asb, st_celf, st_cell, st_fzO, st_isS, st_sqt, st_squ, st_silst, st_silsk, st_situp, st_situk, st_addi, st_adds, st_addl, st_addt, st_subi, st_lti, st_lei, st_gti, st_gei, st_modi, st_muli, st_negi, st_ixl, st_ixk, st_ixt, st_ixu, st_at0, st_at1, st_at2, st_at3, st_at4, st_ixn0, st_ixn1, st_ixn2, st_absi, st_inti, st_intb, st_lenl, st_lenk, st_lent, st_lenu, st_lens, st_ixs, st_stri, st_strs, st_is, st_isnt, st_nonn, st_noni, st_nons, st_zf2, st_eqi, st_eqs, st_nei, st_nes, st_nenn, st_neni, st_nein, st_fmts, st_mull, st_fr0, st_fr1, st_wp0, st_wp1, st_bk0, st_bk1, st_nok, st_rng1, st_joi, st_dtup, st_dlst, st_raise, st_raise1, st_raise2, st_raise3, st_try, st_tryok, st_tryex, st_tryt, st_tryf, st_suite, st_suiok, st_chk0, st_chk1, st_nxo, st_nxl, st_nxs, st_nxb, st_nxi, st_nxn, st_nxt, st_nxL, st_nxa0, st_nxa1, st_nxf, st_nxr, st_try1, st_try1ok, st_try1ex, st_try1t, st_try1f, st_xf, st_xfo, st_mzip, st_menum, st_mrev, st_zipl, st_zipt, st_pair0, st_pair1, st_enuml, st_num0, st_num1, st_revl, st_revt, st_fnI, st_nk0, st_nk1, st_nk2, st_nk3, st_nk4, st_nk5, st_nk6, st_nk7, st_nk8, c_if, c_ifn, c_dt, c_df, c_fld, c_fldi, c_lk0, c_lk1, c_pu0, c_pu1, c_pu2, c_chK, c_chT, c_chF, c_div, c_str, c_rs1, c_rs2, c_rs3, c_rs4, c_rs5, c_rs6, c_rs7, c_rs8, c_runI, c_strO, c_al0, c_al1, c_g0, c_s0, c_at5, List.map_cons, List.map_nil, List.cons_append, List.nil_append, List.length_cons, List.length_nil, List.replicate, Nat.reduceSub, Nat.reduceAdd, Nat.reduceLeDiff, Nat.reduceLT, Int.reduceAdd, Int.reduceMul, Int.reduceSub, Int.reduceLT, Int.reduceLE, Int.reduceEq, List.set_cons_zero, List.set_cons_succ, Nat.zero_add, if_true, if_false, ite_true, ite_false, Option.map_some, Option.bind_some, Option.map_none, Option.bind_none, decide_true, decide_false, decide_eq_true_eq, decide_eq_false_iff_not, Bool.not_true, Bool.not_false, and_self, true_and, and_true, and_false, false_and, Bool.false_eq_true, reduceCtorEq, Bool.and_self, Bool.and_true, Bool.true_and, Bool.and_false, Bool.false_and, Bool.not_eq_true, Bool.true_eq_false, *])
local macro_rules | `(tactic| walk_at "sqn") => `(tactic| simp (config := {maxSteps := 4000000}) (disch := walk_at "dch") only [st_ret, st_bnd, st_ofs, st_frz, st_fzd, st_var, st_bor, st_mov, st_rd, st_qv, st_c, st_op, st_un, st_tob, st_band, st_bor2, st_bnot, st_if, st_andV, st_orV, st_notV, st_anil, st_acons, st_onil, st_ocons, st_tup, st_lst, st_cn, st_m1, st_m0, st_opq, st_sl, st_chain, st_mseq, st_rg1, st_rg2, st_snil, st_seq, st_sexpr, st_sret, st_sif, st_asg, st_asgK, st_asgT, st_asgTK, st_asgC, st_asgCK, st_putL, st_putLK, st_putAt, st_getP, st_putP, st_app, st_appK, st_ext, st_extK, st_for, st_gN, st_gT, st_gs0, st_gs1, st_par, st_parK, st_par3, st_parK3, st_call, st_runF, st_fld, st_fldF, st_sfld, st_fldK, st_meth, st_sp, st_eqO, st_inO, st_js0, st_js1, st_jsK, st_lc, st_lcK, st_lcB, st_lcT, st_lcY, st_mpart, getS_0, setS_0, getS_1, setS_1, getS_2, setS_2, getS_3, setS_3, getS_4, setS_4, getS_5, setS_5, getS_6, setS_6, getS_7, setS_7, getS_8, setS_8, getS_9, setS_9, getS_10, setS_10, getS_11, setS_11, getS_12, setS_12, getS_13, setS_13, getS_14, setS_14, st_fnM, st_env0, st_seqn, st_seqr, st_seqb, st_seqc, st_forn, st_forc, st_forb, st_forr, st_parti, st_opqK, st_bok, st_bex, st_isf, st_isl, st_isi, st_tdf, st_tdl, st_tdi, st_tdn, st_tdc, st_asb, st_celf, st_cell, st_fzO, st_isS, st_sqt, st_squ, st_silst, st_silsk, st_situp, st_situk, st_addi, st_adds, st_addl, st_addt, st_subi, st_lti, st_lei, st_gti, st_gei, st_modi, st_muli, st_negi, st_ixl, st_ixk, st_ixt, st_ixu, st_at0, st_at1, st_at2, st_at3, st_at4, st_ixn0, st_ixn1, st_ixn2, st_absi, st_inti, st_intb, st_lenl, st_lenk, st_lent, st_lenu, st_lens, st_ixs, st_stri, st_strs, st_is, st_isnt, st_nonn, st_noni, st_nons, st_zf2, st_eqi, st_eqs, st_nei, st_nes, st_nenn, st_neni, st_nein, st_fmts, st_mull, st_fr0, st_fr1, st_wp0, st_wp1, st_bk0, st_bk1, st_nok, st_rng1, st_joi, st_dtup, st_dlst, st_raise, st_raise1, st_raise2, st_raise3, st_try, st_tryok, st_tryex, st_tryt, st_tryf, st_suite, st_suiok, st_chk0, st_chk1, st_nxo, st_nxl, st_nxs, st_nxb, st_nxi, st_nxn, st_nxt, st_nxL, st_nxa0, st_nxa1, st_nxf, st_nxr, st_try1, st_try1ok, st_try1ex, st_try1t, st_try1f, st_xf, st_xfo, st_mzip, st_menum, st_mrev, st_zipl, st_zipt, st_pair0, st_pair1, st_enuml, st_num0, st_num1, st_revl, st_revt, st_fnI, st_nk0, st_nk1, st_nk2, st_nk3, st_nk4, st_nk5, st_nk6, st_nk7, st_nk8, c_if, c_ifn, c_dt, c_df, c_fld, c_fldi, c_lk0, c_lk1, c_pu0, c_pu1, c_pu2, c_chK, c_chT, c_chF, c_div, c_str, c_rs1, c_rs2, c_rs3, c_rs4, c_rs5, c_rs6, c_rs7, c_rs8, c_runI, c_strO, c_al0, c_al1, c_g0, c_s0, c_at5, List.map_cons, List.map_nil, List.cons_append, List.nil_append, List.length_cons, List.length_nil, List.replicate, Nat.reduceSub, Nat.reduceAdd, Nat.reduceLeDiff, Nat.reduceLT, Int.reduceAdd, Int.reduceMul, Int.reduceSub, Int.reduceLT, Int.reduceLE, Int.reduceEq, List.set_cons_zero, List.set_cons_succ, Nat.zero_add, if_true, if_false, ite_true, ite_false, Option.map_some, Option.bind_some, Option.map_none, Option.bind_none, decide_true, decide_false, decide_eq_true_eq, decide_eq_false_iff_not, Bool.not_true, Bool.not_false, and_self, true_and, and_true, and_false, false_and, Bool.false_eq_true, reduceCtorEq, Bool.and_self, Bool.and_true, Bool.true_and, Bool.and_false, Bool.false_and, Bool.not_eq_true, Bool.true_eq_false, *])
local macro_rules | `(tactic| walk_at "spn") => `(tactic| simp (config := {maxSteps := 4000000}) (disch := first | assumption | (simp only [Int.reduceLT, Int.reduceLE, Nat.reduceLT, Nat.reduceLeDiff, and_self]; done) | decide) only [st_ret, st_bnd, st_ofs, st_frz, st_fzd, st_var, st_bor, st_mov, st_rd, st_qv, st_c, st_op, st_un, st_tob, st_band, st_bor2, st_bnot, st_if, st_andV, st_orV, st_notV, st_anil, st_acons, st_onil, st_ocons, st_tup, st_lst, st_cn, st_m1, st_m0, st_opq, st_sl, st_chain, st_mseq, st_rg1, st_rg2, st_snil, st_seq, st_sexpr, st_sret, st_sif, st_asg, st_asgK, st_asgT, st_asgTK, st_asgC, st_asgCK, st_putL, st_putLK, st_putAt, st_getP, st_putP, st_app, st_appK, st_ext, st_extK, st_for, st_gN, st_gT, st_gs0, st_gs1, st_par, st_parK, st_par3, st_parK3, st_call, st_runF, st_fld, st_fldF, st_sfld, st_fldK, st_meth, st_sp, st_eqO, st_inO, st_js0, st_js1, st_jsK, st_lc, st_lcK, st_lcB, st_lcT, st_lcY, st_mpart, getS_0, setS_0, getS_1, setS_1, getS_2, setS_2, getS_3, setS_3, getS_4, setS_4, getS_5, setS_5, getS_6, setS_6, getS_7, setS_7, getS_8, setS_8, getS_9, setS_9, getS_10, setS_10, getS_11, setS_11, getS_12, setS_12, getS_13, setS_13, getS_14, setS_14, st_fnM, st_env0, st_seqn, st_seqr, st_seqb, st_seqc, st_forn, st_forc, st_forb, st_forr, st_parti, st_opqK, st_bok, st_bex, st_isf, st_isl, st_isi, st_tdf, st_tdl, st_tdi, st_tdn, st_tdc, st_asb, st_celf, st_cell, st_fzO, st_isS, st_sqt, st_squ, st_silst, st_silsk, st_situp, st_situk, st_addi, st_adds, st_addl, st_addt, st_subi, st_lti, st_lei, st_gti, st_gei, st_modi, st_muli, st_negi, st_ixl, st_ixk, st_ixt, st_ixu, st_at0, st_at1, st_at2, st_at3, st_at4, st_ixn0, st_ixn1, st_ixn2, st_absi, st_inti, st_intb, st_lenl, st_lenk, st_lent, st_lenu, st_lens, st_ixs, st_stri, st_strs, st_is, st_isnt, st_nonn, st_noni, st_nons, st_zf2, st_eqi, st_eqs, st_nei, st_nes, st_nenn, st_neni, st_nein, st_fmts, st_mull, st_fr0, st_fr1, st_wp0, st_wp1, st_bk0, st_bk1, st_nok, st_rng1, st_joi, st_dtup, st_dlst, st_raise, st_raise1, st_raise2, st_raise3, st_try, st_tryok, st_tryex, st_tryt, st_tryf, st_suite, st_suiok, st_chk0, st_chk1, st_nxo, st_nxl, st_nxs, st_nxb, st_nxi, st_nxn, st_nxt, st_nxL, st_nxa0, st_nxa1, st_nxf, st_nxr, st_try1, st_try1ok, st_try1ex, st_try1t, st_try1f, st_xf, st_xfo, st_mzip, st_menum, st_mrev, st_zipl, st_zipt, st_pair0, st_pair1, st_enuml, st_num0, st_num1, st_revl, st_revt, st_fnI, st_nk0, st_nk1, st_nk2, st_nk3, st_nk4, st_nk5, st_nk6, st_nk7, st_nk8, c_fld, c_fldi, c_lk0, c_lk1, c_pu0, c_pu1, c_pu2, c_chK, c_chT, c_chF, c_div, c_str, c_rs1, c_rs2, c_rs3, c_rs4, c_rs5, c_rs6, c_rs7, c_rs8, c_runI, c_strO, c_al0, c_al1, c_g0, c_s0, c_at5, List.map_cons, List.map_nil, List.cons_append, List.nil_append, List.length_cons, List.length_nil, List.replicate, Nat.reduceSub, Nat.reduceAdd, Nat.reduceLeDiff, Nat.reduceLT, Int.reduceAdd, Int.reduceMul, Int.reduceSub, Int.reduceLT, Int.reduceLE, Int.reduceEq, List.set_cons_zero, List.set_cons_succ, Nat.zero_add, if_true, if_false, ite_true, ite_false, Option.map_some, Option.bind_some, Option.map_none, Option.bind_none, decide_true, decide_false, decide_eq_true_eq, decide_eq_false_iff_not, Bool.not_true, Bool.not_false, and_self, true_and, and_true, and_false, false_and, Bool.false_eq_true, reduceCtorEq, Bool.and_self, Bool.and_true, Bool.true_and, Bool.and_false, Bool.false_and, Bool.not_eq_true, Bool.true_eq_false, *])
-- readings by what is asked behind
local macro_rules | `(tactic| walk_at "vs") => `(tactic| ((with_reducible refine w_id ?_); conv => arg 1; simp (config := {maxSteps := 4000000, implicitDefEqProofs := false}) (disch := first | with_reducible assumption | (simp only [Int.reduceLT, Int.reduceLE, Nat.reduceLT, Nat.reduceLeDiff, and_self]; done) | decide | (simp only [List.map_cons, List.map_nil]; decide) | with_reducible omega | (simp only [List.length_map, List.length_append, List.length_cons, List.length_nil, List.length_reverse]; with_reducible omega)) only [st_ret, st_bnd, st_ofs, st_frz, st_fzd, st_var, st_bor, st_mov, st_rd, st_qv, st_c, st_op, st_un, st_tob, st_band, st_bor2, st_bnot, st_if, st_andV, st_orV, st_notV, st_anil, st_acons, st_onil, st_ocons, st_tup, st_lst, st_cn, st_m1, st_m0, st_opq, st_sl, st_chain, st_mseq, st_rg1, st_rg2, st_snil, st_seq, st_sexpr, st_sret, st_sif, st_asg, st_asgK, st_asgT, st_asgTK, st_asgC, st_asgCK, st_putL, st_putLK, st_putAt, st_getP, st_putP, st_app, st_appK, st_ext, st_extK, st_for, st_gN, st_gT, st_gs0, st_gs1, st_par, st_parK, st_par3, st_parK3, st_call, st_fld, st_fldF, st_sfld, st_fldK, st_meth, st_sp, st_eqO, st_inO, st_js0, st_js1, st_jsK, st_lc, st_lcK, st_lcB, st_lcT, st_lcY, st_mpart, getS_0, setS_0, getS_1, setS_1, getS_2, setS_2, getS_3, setS_3, getS_4, setS_4, getS_5, setS_5, getS_6, setS_6, getS_7, setS_7, getS_8, setS_8, getS_9, setS_9, getS_10, setS_10, getS_11, setS_11, getS_12, setS_12, getS_13, setS_13, getS_14, setS_14, st_fnM, st_env0, st_seqn, st_seqr, st_seqb, st_seqc, st_forn, st_forc, st_forb, st_forr, st_parti, st_opqK, st_bok, st_bex, st_isf, st_isl, st_isi, st_tdf, st_tdl, st_tdi, st_tdn, st_tdc, st_asb, st_celf, st_cell, st_fzO, st_isS, st_sqt, st_squ, st_silst, st_silsk, st_situp, st_situk, st_addi, st_adds, st_addl, st_addt, st_subi, st_lti, st_lei, st_gti, st_gei, st_modi, st_muli, st_negi, st_ixn0, st_ixn1, st_ixn2, st_absi, st_inti, st_intb, st_lenl, st_lenk, st_lent, st_lenu, st_lens, st_ixs, st_stri, st_strs, st_is, st_isnt, st_nonn, st_noni, st_nons, st_zf2, st_eqi, st_eqs, st_nei, st_nes, st_nenn, st_neni, st_nein, st_fmts, st_mull, st_fr0, st_fr1, st_wp0, st_wp1, st_bk0, st_bk1, st_nok, st_rng1, st_joi, st_dtup, st_dlst, st_raise, st_raise1, st_raise2, st_raise3, st_try, st_tryok, st_tryex, st_tryt, st_tryf, st_suite, st_suiok, st_chk0, st_chk1, st_nxo, st_nxl, st_nxs, st_nxb, st_nxi, st_nxn, st_nxt, st_nxL, st_nxa0, st_nxa1, st_nxf, st_nxr, st_try1, st_try1ok, st_try1ex, st_try1t, st_try1f, st_xf, st_xfo, st_mzip, st_menum, st_mrev, st_zipl, st_zipt, st_pair0, st_pair1, st_enuml, st_num0, st_num1, st_revl, st_revt, st_fnI, st_nk0, st_nk1, st_nk2, st_nk3, st_nk4, st_nk5, st_nk6, st_nk7, st_nk8, c_fld, c_fldi, c_lk0, c_lk1, c_pu0, c_pu1, c_pu2, c_chK, c_chT, c_chF, c_div, c_str, c_rs1, c_rs2, c_rs3, c_rs4, c_rs5, c_rs6, c_rs7, c_rs8, c_runI, c_strO, c_al0, c_al1, c_g0, c_s0, List.map_cons, List.map_nil, List.cons_append, List.nil_append, List.length_cons, List.length_nil, List.replicate, Nat.reduceSub, Nat.reduceAdd, Nat.reduceLeDiff, Nat.reduceLT, Int.reduceAdd, Int.reduceMul, Int.reduceSub, Int.reduceLT, Int.reduceLE, Int.reduceEq, List.set_cons_zero, List.set_cons_succ, Nat.zero_add, if_true, if_false, ite_true, ite_false, Option.map_some, Option.bind_some, Option.map_none, Option.bind_none, decide_true, decide_false, decide_eq_true_eq, decide_eq_false_iff_not, Bool.not_true, Bool.not_false, and_self, true_and, and_true, and_false, false_and, Bool.false_eq_true, reduceCtorEq, Bool.and_self, Bool.and_true, Bool.true_and, Bool.and_false, Bool.false_and, Bool.not_eq_true, Bool.true_eq_false, getS_15, getS_16, getS_17, getS_18, getS_19, getS_20, getS_21, getS_22, getS_23, getS_24, getS_25, getS_26, getS_27, getS_28, getS_29, getS_30, setS_15, setS_16, setS_17, setS_18, setS_19, setS_20, setS_21, setS_22, setS_23, setS_24, setS_25, setS_26, setS_27, setS_28, setS_29, setS_30, c_if, c_ifn, c_dt, c_df, c_meth, v_chB, sk_sn, sk_rvl, sk_rvt, sk_isit, sk_reprT, sk_x0, sk_x1, sk_x2, sk_x3, sk_x4, sk_t0, sk_t1, sk_t2, sk_t3, sk_t4, sk_t5, sk_inK, sk_inT, sk_inKi, sk_inKs, sk_inT2, sk_dctK, sk_dctS, sk_ixK, sk_ixT, sk_ixKi, sk_ixKs, sk_ixT2, sk_putK, sk_putT, sk_putKK, sk_putTK, sk_putKi, sk_putKs, sk_putT2, sk_lsK, sk_getT, sk_getT2, sk_oneK, sk_kyi, sk_kys, sk_isd, sk_isu, sk_tod, sk_tou, sk_menum, sk_rg3, sk_ennl, sk_ennt, sk_rev, sk_tupl, sk_tupt, sk_lstl, sk_lstt, sk_bne0, sk_bne1, v_app, v_ok, v_fz, v_int, v_bl, v_str, v_ba, v_bo, Bool.and_eq_true, Bool.or_eq_true, Bool.not_eq_true', Bool.not_not, Bool.decide_and, Bool.decide_or, Bool.decide_eq_true, Bool.decide_eq_false, sk_srtK, sk_popK, sk_popKi, sk_popKs, sk_rem, sk_remi, sk_lstRg, sk_lstRgi, sk_augT, sk_augT2, sk_augTz, sk_dr, sk_opD, sk_opDk, sk_der, sk_forC, sk_mCel, sk_mCelk, sk_mEnC, sk_mEnCk, sk_lcC, sk_lcCK, sk_cel, sk_celn, sk_celr, sk_col, sk_cod, sk_cou, sk_coi, sk_pop, sk_popi, sk_nilD, sk_nil, sk_gap, sk_sap, sk_gap2, sk_sap2, sk_nnt, sk_nnl, sk_nni, sk_nnb, sk_dispK, sk_booli, sk_sdApp, sk_sdK2, sk_sd2, sk_sdK, sk_isv, sk_tdv, sk_reprX, sk_orL, sk_orLo, sk_orLf, sk_inTs, sk_ixTs, sk_putTs, sk_getTs, sk_sdT, sk_sdTs, sk_lcTk, sk_dispG, sk_dispGs, sk_dictL, sk_daApp, sk_daKs, sk_da3, sk_sdKy, sk_sdKys, sk_isw, sk_tdw, sk_remS, sk_remSs, sk_srtKS, sk_xXk, sk_augI, sk_augKa, sk_augKb, sk_xTix, sk_isitn, sk_nntn, sk_istn, sk_lentn, sk_sitn, sk_tunl, sk_fz, sk_fzK, sk_ins, sk_insi, sk_popN, sk_popNi, sk_salt, sk_xalt, sk_bo, sk_exv, sk_exvO, sk_exv1, sk_gTL]))
local macro_rules | `(tactic| walk_at "vp") => `(tactic| repeat (first | with_reducible refine w_bd ?_ | with_reducible refine w_nox ?_))
local macro_rules | `(tactic| walk_at "vk") => `(tactic| first | with_reducible refine w_ok ?_ | with_reducible refine w_exc ?_ | with_reducible refine rtQ_rt ?_ | with_reducible refine rtQ_nx ?_ | with_reducible refine fQ_nx ?_ | with_reducible refine fQ_rt ?_ | with_reducible refine fQ_ct ?_ | with_reducible refine fQ_bk ?_)
local macro_rules | `(tactic| walk_at "vc") => `(tactic| ((try walk_at "vs"); (walk_at "vp"); repeat ((walk_at "vk"); (try walk_at "vs"); (walk_at "vp"))))
def PotAt (mu : List O) (k n : Nat) : Prop := ∃ a b c : Int, getM mu k = some (.lst [.int a, .int b, .int c]) ∧ 0 ≤ a ∧ 0 ≤ b ∧ b < 2305843009213693952 ∧ 0 ≤ c ∧ c ≤ n
theorem getM_setM {mu : List O} {k : Nat} {o o' : O} (h : getM mu k = some o) : getM (setM mu k o') k = some o' := by
  induction mu generalizing k with
  | nil => cases k <;> cases h
  | cons x mu ih => cases k with
    | zero => rfl
    | succ k => exact ih h
theorem draw_ok {mu : List O} {k n : Nat} {m : Int} (h : PotAt mu k n) (h1 : 1 ≤ m) (h2 : m < 1073741824) (hn : n ≤ 1000000000) :
    ∃ r mu', m_law_draw [.cel k, .int m] mu = .ok (.fz (.int r)) ⟨[], mu'⟩ ∧ 0 ≤ r ∧ r < m ∧ PotAt mu' k (n + 1) := by
  obtain ⟨a, b, c, e, a0, b0, b1, c0, c1⟩ := h
  have hm : 0 < m := by omega
  unfold m_law_draw
  by_cases ha : 0 < a
  · walk_at "stp"
    exact ⟨_, _, rfl, Int.emod_nonneg _ (by omega), Int.emod_lt_of_pos _ hm, a / m, b, c, getM_setM e, Int.ediv_nonneg a0 (by omega), b0, b1, c0, by omega⟩
  · have q := fun o' => getM_setM (o' := o') e
    have p1 : (0 : Int) < 2305843009213693921 := by decide
    have p2 : (0 : Int) < 2305843009213693907 := by decide
    have p3 : (0 : Int) < 1000003 := by decide
    have p4 : (0 : Int) < 8191 ∧ (8191 : Int) < 1073741824 := by decide
    have ha' : decide (0 < a) = false := by simpa using ha
    have s0 : 0 ≤ (c + 1) * (c + 1) := Int.mul_nonneg (by omega) (by omega)
    have s1 : (c + 1) * (c + 1) ≤ 1000000001 * 1000000001 := Int.mul_le_mul (by omega) (by omega) (by omega) (by decide)
    have m1 : mulOkB 40503 (c + 1) = true := mulL (by decide) (by decide)
    have m2 : mulOkB (c + 1) (c + 1) = true := mulL (by omega) (by omega)
    have m3 : mulOkB ((c + 1) * (c + 1)) 65539 = true := mulR (by decide) (by decide)
    have m4 : mulOkB (b + 40503 * (c + 1)) ((c + 1) * (c + 1) * 65539 + 97) = true := mulL (by omega) (by omega)
    generalize hx : (b + 40503 * (c + 1)) * ((c + 1) * (c + 1) * 65539 + 97) % 2305843009213693921 = x at *
    have x0 : 0 ≤ x := by rw [← hx]; exact Int.emod_nonneg _ (by decide)
    have x1 : x < 2305843009213693921 := by rw [← hx]; exact Int.emod_lt_of_pos _ (by decide)
    have m5 : mulOkB x (x % 1000003 + (c + 1)) = true := mulL (by omega) (by omega)
    walk_at "stp"
    exact ⟨_, _, rfl, Int.emod_nonneg _ (by omega), Int.emod_lt_of_pos _ hm, a, b, c + 1, getM_setM e, a0, b0, b1, by omega, by omega⟩
theorem PotAt.mono {mu : List O} {k n m : Nat} (h : PotAt mu k n) (e : n ≤ m) : PotAt mu k m := by
  obtain ⟨a, b, c, q1, q2, q3, q4, q5, q6⟩ := h
  exact ⟨a, b, c, q1, q2, q3, q4, q5, by omega⟩
theorem getM_app : ∀ (mu : List O) (o : O), getM (mu ++ [o]) mu.length = some o
  | [], o => rfl
  | x :: mu, o => getM_app mu o
theorem ints_cut {ns : List Int} {lo hi : Option Int} : ∀ d ∈ cutD (ns.map D.int) lo hi, ∃ i, d = .int i := fun d h => by
  obtain ⟨i, _, e⟩ := List.mem_map.mp (cutD_mem d h)
  exact ⟨i, e.symm⟩
theorem begin_loop {x0 x1 x3 : Option O} {mu : List O} (ds : List D) (hd : ∀ d ∈ ds, ∃ i, d = .int i) : ∀ (x2 : Option O) (b : Int), 0 ≤ b → b < 2305843009213693952 →
    ∃ x2' b', forL (gN 2) (sAsg 4 (xOp modD (xOp addD (xOp addD (xOp mulD (xBor 4) (xC (.int 636413622399))) (xOp mulD (xC (.int 2)) (xUn absD (xRd 2)))) (xUn intD (xOp ltD (xBor 2) (xC (.int 0))))) (xC (.int 2305843009213693951)))) ds
      ⟨[x0, x1, x2, x3, some (.fz (.int b))], mu⟩ = .ok .nx ⟨[x0, x1, x2', x3, some (.fz (.int b'))], mu⟩ ∧ 0 ≤ b' ∧ b' < 2305843009213693952 := by
  induction ds with
  | nil => exact fun x2 b h0 h1 => ⟨x2, b, rfl, h0, h1⟩
  | cons d ds ih =>
    intro x2 b h0 h1
    obtain ⟨i, rfl⟩ := hd d List.mem_cons_self
    have m1 : mulOkB b 636413622399 = true := mulR (by decide) (by decide)
    have m2 : mulOkB 2 (if i < 0 then -i else i) = true := mulL (by decide) (by decide)
    have p1 : (0 : Int) < 2305843009213693951 := by decide
    generalize hv : (b * 636413622399 + 2 * (if i < 0 then -i else i) + if i < 0 then 1 else 0) % 2305843009213693951 = v
    have v0 : 0 ≤ v := by rw [← hv]; exact Int.emod_nonneg _ (by decide)
    have v1 : v < 2305843009213693951 := by rw [← hv]; exact Int.emod_lt_of_pos _ (by decide)
    obtain ⟨x2', b', h2, h3, h4⟩ := ih (fun d h => hd d (List.mem_cons_of_mem _ h)) (some (.fz (.int i))) v v0 (by omega)
    refine ⟨x2', b', ?_, h3, h4⟩
    rw [st_for1, st_gN]
    simp only [setS_2]
    rw [st_asg]
    have e : xOp modD (xOp addD (xOp addD (xOp mulD (xBor 4) (xC (.int 636413622399))) (xOp mulD (xC (.int 2)) (xUn absD (xRd 2)))) (xUn intD (xOp ltD (xBor 2) (xC (.int 0))))) (xC (.int 2305843009213693951))
      ⟨[x0, x1, some (.fz (.int i)), x3, some (.fz (.int b))], mu⟩ = .ok (.fz (.int v)) ⟨[x0, x1, some (.fz (.int i)), x3, some (.fz (.int b))], mu⟩ := by
      rw [← hv]
      clear hv h2 ih hd
      have q : ∀ c : Bool, intD (.bl c) = some (.fz (.int (if c = true then 1 else 0))) := fun c => rfl
      walk_at "spn"
    rw [e, st_bok, st_asgK]
    simp only [setS_4]
    rw [st_bok, st_forn, h2]
theorem begin_ok {ns : List Int} {mu : List O} {j : Nat} (hn : ns.length ≤ 63) (hj : j < 1000) :
    ∃ a b : Int, m_law_begin [.lsk (ns.map .int), .int j] mu = .ok (.lst [.int a, .int b, .int 0]) ⟨[], mu⟩ ∧ 0 ≤ a ∧ 0 ≤ b ∧ b < 2305843009213693952 := by
  have hc : ∃ c : Int, (if decide ((j : Int) < ((ns.map D.int).length : Int)) = true then ixD (.lsk (ns.map D.int)) (.int j) else some (.fz (.int 0))) = some (.fz (.int c)) := by
    by_cases h : j < ns.length
    · refine ⟨ns[j], ?_⟩
      rw [if_pos (by rw [List.length_map]; simpa using h), st_ixk, atN, List.getElem?_map, List.getElem?_eq_getElem h]
      rfl
    · exact ⟨0, by rw [if_neg (by rw [List.length_map]; simp; omega)]⟩
  obtain ⟨c, hc⟩ := hc
  have m1 : mulOkB 104729 j = true := mulL (by decide) (by decide)
  have hcl := cutD_len (ds := ns.map D.int) (lo := none) (hi := some 60)
  rw [List.length_map] at hcl
  obtain ⟨x2', b', hl, b0, b1⟩ := begin_loop (x0 := some (.fz (.lsk (ns.map D.int)))) (x1 := some (.fz (.int j))) (x3 := some (.fz (.int c))) (mu := mu) (.int c :: cutD (ns.map D.int) none (some 60))
    (fun d h => by
      rcases List.mem_cons.mp h with rfl | h
      · exact ⟨_, rfl⟩
      · exact ints_cut d h) none (104729 * j + 17) (by omega) (by omega)
  generalize hA : (if c < 0 then -c else c) = A
  have A0 : 0 ≤ A := by rw [← hA]; split <;> omega
  have al : addD (.lst [.int c]) (.lst (cutD (ns.map D.int) none (some 60))) = some (.lst (.int c :: cutD (ns.map D.int) none (some 60))) := by
    rw [st_addl, if_pos (by simp only [List.length_cons, List.length_nil]; omega)]
    rfl
  have sl : slD (.lsk (ns.map D.int)) none (some 60) = some (.lst (cutD (ns.map D.int) none (some 60))) := rfl
  have pw : powD (.int 10) (.int 18) = some (.fz (.int 1000000000000000000)) := by simp [powD, iiD]
  have d1 : (1 : Nat) ≤ 16777216 := by decide
  have d3 : (3 : Nat) ≤ 16777216 := by decide
  have ll : lenD (.lsk (ns.map D.int)) = some (.fz (.int ((ns.map D.int).length : Int))) := rfl
  have ab : absD (.int c) = some (.fz (.int A)) := by rw [← hA]; rfl
  refine ⟨if 1000000000000000000 ≤ A then A else 0, b', ?_, by split <;> omega, b0, b1⟩
  clear hA
  have s1 : sPar 3 4 (oCons (xIf (toB (xOp ltD (xBor 1) (xUn lenD (xRd 0)))) (xOpQ ixD (xRd 0) (qVar 1)) (xC (.int 0))) (oCons (xOp addD (xOp mulD (xC (.int 104729)) (xRd 1)) (xC (.int 17))) oNil))
      ⟨[some (.fz (.lsk (ns.map D.int))), some (.fz (.int j)), none, none, none], mu⟩ = .ok .nx ⟨[some (.fz (.lsk (ns.map D.int))), some (.fz (.int j)), none, some (.fz (.int c)), some (.fz (.int (104729 * j + 17)))], mu⟩ := by
    clear hl
    generalize ns.map D.int = L at *
    by_cases hj2 : (j : Int) < (L.length : Int)
    · have hj3 := decide_eq_true hj2
      rw [if_pos hj3] at hc
      clear hj2
      walk_at "stp"
    · have hj3 := decide_eq_false hj2
      rw [if_neg (by simpa using hj2)] at hc
      cases hc
      clear hj2
      walk_at "stp"
  have s2 : (mSeq (frz (xOp addD (xLst (aCons (frz (xVar 3)) aNil)) (xSl (xBor 0) (ret none) (mPart (xC (.int 60))))))) ⟨[some (.fz (.lsk (ns.map D.int))), some (.fz (.int j)), none, some (.fz (.int c)), some (.fz (.int (104729 * j + 17)))], mu⟩ =
      .ok (.int c :: cutD (ns.map D.int) none (some 60)) ⟨[some (.fz (.lsk (ns.map D.int))), some (.fz (.int j)), none, some (.fz (.int c)), some (.fz (.int (104729 * j + 17)))], mu⟩ := by
    clear hl s1
    generalize ns.map D.int = L at *
    walk_at "stp"
  have s3 : sRet (xLst (aCons (frz (xIf (toB (xOp geD (xUn absD (xRd 3)) (xOp powD (xC (.int 10)) (xC (.int 18))))) (xUn absD (xRd 3)) (xC (.int 0)))) (aCons (frz (xVar 4)) (aCons (frz (xC (.int 0))) aNil)))) ⟨[some (.fz (.lsk (ns.map D.int))), some (.fz (.int j)), x2', some (.fz (.int c)), some (.fz (.int b'))], mu⟩ =
      .ok (.rt (.lst [.int (if 1000000000000000000 ≤ A then A else 0), .int b', .int 0])) ⟨[some (.fz (.lsk (ns.map D.int))), some (.fz (.int j)), x2', some (.fz (.int c)), some (.fz (.int b'))], mu⟩ := by
    clear hl s1 s2
    generalize (1000000000000000000 : Int) = T at *
    by_cases hA2 : T ≤ A
    · have hA3 := decide_eq_true hA2
      simp only [if_pos hA2]
      clear hA2
      walk_at "stp"
    · have hA3 := decide_eq_false hA2
      simp only [if_neg hA2]
      clear hA2
      walk_at "stp"
  unfold m_law_begin
  rw [st_fnM]
  have e0 : env0 5 [D.lsk (ns.map D.int), D.int ↑j] = [some (.fz (.lsk (ns.map D.int))), some (.fz (.int j)), none, none, none] := rfl
  rw [e0, st_seq, s1, st_bok, st_seqn, st_seq, st_for, s2, st_bok, hl, st_bok, st_seqn, s3]
/-! ### things of any kind -/
structure Ty (d : D) : Prop where
  ok : okD d = true
  dp : dpD d ≤ 3
  wt : wtD d ≤ 300
  nc : noC d = true
theorem ty_tup {l : List D} (h : ∀ d ∈ l, Ty d) (hl : l.length ≤ 3) : okD (.tup l) = true ∧ dpD (.tup l) ≤ 4 ∧ wtD (.tup l) ≤ 1000 ∧ noC (.tup l) = true := by
  match l, hl, h with
  | [], _, _ => exact ⟨rfl, by decide, by decide, rfl⟩
  | [a], _, h =>
    have ha := h a (by simp)
    exact ⟨by rw [okD, okA, okA, ha.ok]; rfl, by rw [dpD, dpA, dpA]; have := ha.dp; omega, by rw [wtD, wtA, wtA]; have := ha.wt; omega, by rw [noC, noCA, noCA, ha.nc]; rfl⟩
  | [a, b], _, h =>
    have ha := h a (by simp)
    have hb := h b (by simp)
    exact ⟨by rw [okD, okA, okA, okA, ha.ok, hb.ok]; rfl, by rw [dpD, dpA, dpA, dpA]; have := ha.dp; have := hb.dp; omega, by rw [wtD, wtA, wtA, wtA]; have := ha.wt; have := hb.wt; omega, by rw [noC, noCA, noCA, noCA, ha.nc, hb.nc]; rfl⟩
  | [a, b, c], _, h =>
    have ha := h a (by simp)
    have hb := h b (by simp)
    have hc := h c (by simp)
    exact ⟨by rw [okD, okA, okA, okA, okA, ha.ok, hb.ok, hc.ok]; rfl, by rw [dpD, dpA, dpA, dpA, dpA]; have := ha.dp; have := hb.dp; have := hc.dp; omega, by rw [wtD, wtA, wtA, wtA, wtA]; have := ha.wt; have := hb.wt; have := hc.wt; omega, by rw [noC, noCA, noCA, noCA, noCA, ha.nc, hb.nc, hc.nc]; rfl⟩
abbrev tyL : List D := [.non, .bl true, .int 0, .int (-7), .str "", .str "a", .tup [.int 1, .int 2], .lst [.str "x"], .int 1000000000000000000000000000000000000000, .str "1.05 take a", .tup [.str "a", .str "b"]]
theorem ty_all : ∀ d ∈ tyL, Ty d := by
  intro d h
  simp only [tyL, List.mem_cons, List.not_mem_nil, or_false] at h
  rcases h with rfl | rfl | rfl | rfl | rfl | rfl | rfl | rfl | rfl | rfl | rfl
  all_goals exact ⟨by decide +kernel, by decide +kernel, by decide +kernel, by decide +kernel⟩
theorem draw_w {mu : List O} {k n : Nat} {m : Int} {env : List (Option O)} {Q : O → S → Prop} {E : Exc → S → Prop} (h : PotAt mu k n) (h1 : 1 ≤ m) (h2 : m < 1073741824) (hn : n ≤ 900000000)
    (hQ : ∀ r mu', 0 ≤ r → r < m → PotAt mu' k (n + 1) → Q (.fz (.int r)) ⟨env, mu'⟩) : wv (runF m_law_draw [.cel k, .int m] ⟨env, mu⟩) Q E := by
  obtain ⟨r, mu', e, r0, r1, p⟩ := draw_ok h h1 h2 (by omega)
  exact w_runE e (hQ r mu' r0 r1 p)
noncomputable def law_thing_0 : M Fl :=
    (sRet (xOp ixD (xLst (aCons (frz (xC .non)) (aCons (frz (xC (.bl true))) (aCons (frz (xC (.int 0))) (aCons (frz (xUn negD (xC (.int 7)))) (aCons (frz (xC (.str ""))) (aCons (frz (xC (.str "a"))) (aCons (frz (xTup (aCons (frz (xC (.int 1))) (aCons (frz (xC (.int 2))) aNil)))) (aCons (frz (xLst (aCons (frz (xC (.str "x"))) aNil))) (aCons (frz (xOp powD (xC (.int 10)) (xC (.int 39)))) (aCons (frz (xC (.str "1.05 take a"))) (aCons (frz (xTup (aCons (frz (xC (.str "a"))) (aCons (frz (xC (.str "b"))) aNil)))) aNil)))))))))))) (xCall m_law_draw (fun ds _ => ds) 2 (nK []) (aCons (frz (xVar 0)) (aCons (frz (xC (.int 11))) aNil)) aNil)))
theorem law_thing_eq : m_law_thing = fnM 1
    law_thing_0 := rfl
theorem thing_w {mu : List O} {k n : Nat} {env : List (Option O)} {Q : O → S → Prop} {E : Exc → S → Prop} (h : PotAt mu k n) (hn : n ≤ 800000000)
    (hQ : ∀ d mu', Ty d → PotAt mu' k (n + 1) → Q (.fz d) ⟨env, mu'⟩) : wv (runF m_law_thing [.cel k] ⟨env, mu⟩) Q E := by
  have pw : powD (.int 10) (.int 39) = some (.fz (.int 1000000000000000000000000000000000000000)) := by simp [powD, iiD]
  have z11 : (11 : Nat) ≤ 16777216 := by decide
  refine w_run ?_
  (refine fn_wv law_thing_eq ?_; unfold law_thing_0)
  ((walk_at "vc"); repeat ((refine w_rw (by first | (simp only [pw, z11]; done) | (simp only [pw, z11]; rfl)) ?_); (walk_at "vc")))
  refine draw_w h (by omega) (by omega) (by omega) fun r mu1 r0 r1 p1 => ?_
  obtain ⟨i, rfl⟩ := Int.eq_ofNat_of_zero_le r0
  have il : i < tyL.length := by show i < 11; omega
  obtain ⟨d0, ix, t0⟩ : ∃ d0, ixD (.lst tyL) (.int (i : Int)) = some (.fz d0) ∧ Ty d0 :=
    ⟨tyL[i], by rw [st_ixl, atN, List.getElem?_eq_getElem il]; rfl, ty_all _ (List.getElem_mem il)⟩
  walk_at "vc"
  refine w_rw (r' := ofO (ixD (.lst tyL) (.int (i : Int))) ⟨_, _⟩) rfl ?_
  ((walk_at "vc"); repeat ((refine w_rw (by first | (simp only [ix]; done) | (simp only [ix]; rfl)) ?_); (walk_at "vc")))
  exact hQ _ _ t0 p1
/-! ### the thirteen refusals -/
abbrev bits (i : Nat) : List D := (List.range 13).map fun s => D.bl (decide (s = i))
structure RowOk (i : Nat) (e : D) (vs : List D) : Prop where
  l : i < 13
  k : ∀ mu, m_law_kinds [e] mu = .ok (.lst (bits i)) ⟨[], mu⟩
  v : ∀ mu, m_law_values [e, .int i] mu = .ok (.fz (.tup vs)) ⟨[], mu⟩
  c1 : isiXT IXT BXT [e, .fn "CardError"] = some (.fz (.bl true))
  c2 : isiXT IXT BXT [e, .ty "ValueError"] = some (.fz (.bl true))
  r : ∃ T, reprD (.tup vs) = some (.fz (.str T))
theorem ty_repr {l : List D} (h : ∀ d ∈ l, Ty d) (hl : l.length ≤ 3) : ∃ T : Str, reprD (.tup l) = some (.fz (.str T)) := by
  obtain ⟨a, b, c, _⟩ := ty_tup h hl
  obtain ⟨p, _, e, _⟩ := repr_okD a (by omega) (by omega)
  exact ⟨_, e⟩
noncomputable def law_kinds_0 : M Fl :=
    (sAsg 1 (xLst (aCons (frz (xCn (isiXT IXT BXT) (aCons (frz (xVar 0)) (aCons (frz (xC (.fn "NoText"))) aNil)))) (aCons (frz (xCn (isiXT IXT BXT) (aCons (frz (xVar 0)) (aCons (frz (xC (.fn "BadCard"))) aNil)))) (aCons (frz (xCn (isiXT IXT BXT) (aCons (frz (xVar 0)) (aCons (frz (xC (.fn "BadDeed"))) aNil)))) aNil)))))
noncomputable def law_kinds_1 : M Fl :=
    (sAsg 1 (xOp addD (xBor 1) (xLst (aCons (frz (xCn (isiXT IXT BXT) (aCons (frz (xVar 0)) (aCons (frz (xC (.fn "BadBoard"))) aNil)))) (aCons (frz (xCn (isiXT IXT BXT) (aCons (frz (xVar 0)) (aCons (frz (xC (.fn "Earlier"))) aNil)))) (aCons (frz (xCn (isiXT IXT BXT) (aCons (frz (xVar 0)) (aCons (frz (xC (.fn "Told"))) aNil)))) aNil))))))
noncomputable def law_kinds_2 : M Fl :=
    (sAsg 1 (xOp addD (xBor 1) (xLst (aCons (frz (xCn (isiXT IXT BXT) (aCons (frz (xVar 0)) (aCons (frz (xC (.fn "NotTold"))) aNil)))) (aCons (frz (xCn (isiXT IXT BXT) (aCons (frz (xVar 0)) (aCons (frz (xC (.fn "NoBoard"))) aNil)))) (aCons (frz (xCn (isiXT IXT BXT) (aCons (frz (xVar 0)) (aCons (frz (xC (.fn "NoCard"))) aNil)))) aNil))))))
noncomputable def law_kinds_3 : M Fl :=
    (sAsg 1 (xOp addD (xBor 1) (xLst (aCons (frz (xCn (isiXT IXT BXT) (aCons (frz (xVar 0)) (aCons (frz (xC (.fn "WrongPhoto"))) aNil)))) (aCons (frz (xCn (isiXT IXT BXT) (aCons (frz (xVar 0)) (aCons (frz (xC (.fn "Ring"))) aNil)))) (aCons (frz (xCn (isiXT IXT BXT) (aCons (frz (xVar 0)) (aCons (frz (xC (.fn "NoLine"))) aNil)))) aNil))))))
noncomputable def law_kinds_4 : M Fl :=
    (sRet (xOp addD (xBor 1) (xLst (aCons (frz (xCn (isiXT IXT BXT) (aCons (frz (xVar 0)) (aCons (frz (xC (.fn "BadPhoto"))) aNil)))) aNil))))
theorem law_kinds_eq : m_law_kinds = fnM 2
    (sSeq law_kinds_0 (sSeq law_kinds_1 (sSeq law_kinds_2 (sSeq law_kinds_3 law_kinds_4)))) := rfl
noncomputable def law_values_0T : M Bool :=
    (toB (xOp ltD (xBor 1) (xC (.int 3))))
noncomputable def law_values_0B0 : M Fl :=
    (sRet (xIf (toB (xOp eqD (xBor 1) (xC (.int 0)))) (xTup (aCons (frz (xXk XT "text" (frz (xVar 0)))) aNil)) (xTup (aCons (frz (xXk XT "field" (frz (xVar 0)))) aNil))))
noncomputable def law_values_0B : M Fl :=
    law_values_0B0
noncomputable def law_values_1T : M Bool :=
    (toB (xOp ltD (xBor 1) (xC (.int 5))))
noncomputable def law_values_1B0 : M Fl :=
    (sRet (xIf (toB (xOp eqD (xBor 1) (xC (.int 3)))) (xTup (aCons (frz (xXk XT "wide" (frz (xVar 0)))) (aCons (frz (xXk XT "high" (frz (xVar 0)))) aNil))) (xTup (aCons (frz (xXk XT "day" (frz (xVar 0)))) aNil))))
noncomputable def law_values_1B : M Fl :=
    law_values_1B0
noncomputable def law_values_2T : M Bool :=
    (toB (xOp ltD (xBor 1) (xC (.int 7))))
noncomputable def law_values_2B0 : M Fl :=
    (sRet (xIf (toB (xOp eqD (xBor 1) (xC (.int 5)))) (xTup (aCons (frz (xXk XT "deed" (frz (xVar 0)))) aNil)) (xTup (aCons (frz (xXk XT "moment" (frz (xVar 0)))) aNil))))
noncomputable def law_values_2B : M Fl :=
    law_values_2B0
noncomputable def law_values_3T : M Bool :=
    (toB (xOp ltD (xBor 1) (xC (.int 9))))
noncomputable def law_values_3B0 : M Fl :=
    (sRet (xIf (toB (xOp eqD (xBor 1) (xC (.int 7)))) (xTup (aCons (frz (xXk XT "line" (frz (xVar 0)))) (aCons (frz (xXk XT "why" (frz (xVar 0)))) aNil))) (xTup (aCons (frz (xXk XT "name" (frz (xVar 0)))) aNil))))
noncomputable def law_values_3B : M Fl :=
    law_values_3B0
noncomputable def law_values_4T : M Bool :=
    (toB (xOp ltD (xBor 1) (xC (.int 11))))
noncomputable def law_values_4B0 : M Fl :=
    (sRet (xIf (toB (xOp eqD (xBor 1) (xC (.int 9)))) (xTup (aCons (frz (xXk XT "number" (frz (xVar 0)))) (aCons (frz (xXk XT "x" (frz (xVar 0)))) (aCons (frz (xXk XT "y" (frz (xVar 0)))) aNil)))) (xTup (aCons (frz (xXk XT "names" (frz (xVar 0)))) aNil))))
noncomputable def law_values_4B : M Fl :=
    law_values_4B0
noncomputable def law_values_5 : M Fl :=
    (sRet (xIf (toB (xOp eqD (xBor 1) (xC (.int 11)))) (xTup (aCons (frz (xXk XT "line" (frz (xVar 0)))) aNil)) (xTup aNil)))
theorem law_values_eq : m_law_values = fnM 2
    (sSeq (sIf law_values_0T law_values_0B sNil) (sSeq (sIf law_values_1T law_values_1B sNil) (sSeq (sIf law_values_2T law_values_2B sNil) (sSeq (sIf law_values_3T law_values_3B sNil) (sSeq (sIf law_values_4T law_values_4B sNil) law_values_5))))) := rfl
theorem kinds_0 {fs : List (Str × D)} {mu : List O} : m_law_kinds [.xok "NoText" fs] mu = .ok (.lst (bits 0)) ⟨[], mu⟩ := by
  have i0 : isiXT IXT BXT [.xok "NoText" fs, .fn "NoText"] = some (.fz (.bl true)) := rfl
  have i1 : isiXT IXT BXT [.xok "NoText" fs, .fn "BadCard"] = some (.fz (.bl false)) := rfl
  have i2 : isiXT IXT BXT [.xok "NoText" fs, .fn "BadDeed"] = some (.fz (.bl false)) := rfl
  have i3 : isiXT IXT BXT [.xok "NoText" fs, .fn "BadBoard"] = some (.fz (.bl false)) := rfl
  have i4 : isiXT IXT BXT [.xok "NoText" fs, .fn "Earlier"] = some (.fz (.bl false)) := rfl
  have i5 : isiXT IXT BXT [.xok "NoText" fs, .fn "Told"] = some (.fz (.bl false)) := rfl
  have i6 : isiXT IXT BXT [.xok "NoText" fs, .fn "NotTold"] = some (.fz (.bl false)) := rfl
  have i7 : isiXT IXT BXT [.xok "NoText" fs, .fn "NoBoard"] = some (.fz (.bl false)) := rfl
  have i8 : isiXT IXT BXT [.xok "NoText" fs, .fn "NoCard"] = some (.fz (.bl false)) := rfl
  have i9 : isiXT IXT BXT [.xok "NoText" fs, .fn "WrongPhoto"] = some (.fz (.bl false)) := rfl
  have i10 : isiXT IXT BXT [.xok "NoText" fs, .fn "Ring"] = some (.fz (.bl false)) := rfl
  have i11 : isiXT IXT BXT [.xok "NoText" fs, .fn "NoLine"] = some (.fz (.bl false)) := rfl
  have i12 : isiXT IXT BXT [.xok "NoText" fs, .fn "BadPhoto"] = some (.fz (.bl false)) := rfl
  refine w_eq ?_
  (refine fn_wv law_kinds_eq ?_; unfold law_kinds_0 law_kinds_1 law_kinds_2 law_kinds_3 law_kinds_4)
  ((walk_at "vc"); repeat ((refine w_rw (by first | (simp only [i0, i1, i2, i3, i4, i5, i6, i7, i8, i9, i10, i11, i12]; done) | (simp only [i0, i1, i2, i3, i4, i5, i6, i7, i8, i9, i10, i11, i12]; rfl)) ?_); (walk_at "vc")))
  exact ⟨rfl, rfl⟩
theorem row_0 {p : D} (hp : Ty p) : RowOk 0 (.xok "NoText" [("text", p)]) [p] := by
  refine ⟨by decide, fun mu => kinds_0, fun mu => ?_, rfl, rfl, ty_repr (fun d hd => ?_) (by simp)⟩
  · obtain ⟨fs, hfs⟩ : ∃ fs : List (Str × D), ([("text", p)] : List (Str × D)) = fs := ⟨_, rfl⟩
    have k_p : xkO XT "text" (.xok "NoText" fs) = some (.fz p) := by rw [← hfs]; rfl
    rw [hfs]
    refine w_eq ?_
    (refine fn_wv law_values_eq ?_; unfold law_values_5 law_values_0B law_values_0T law_values_1B law_values_1T law_values_2B law_values_2T law_values_3B law_values_3T law_values_4B law_values_4T law_values_0B0 law_values_1B0 law_values_2B0 law_values_3B0 law_values_4B0)
    ((walk_at "vc"); repeat ((refine w_rw (by first | (simp only [k_p]; done) | (simp only [k_p]; rfl)) ?_); (walk_at "vc")))
    exact ⟨rfl, rfl⟩
  · simp only [List.mem_cons, List.not_mem_nil, or_false] at hd
    rcases hd with rfl
    · exact hp
theorem kinds_1 {fs : List (Str × D)} {mu : List O} : m_law_kinds [.xok "BadCard" fs] mu = .ok (.lst (bits 1)) ⟨[], mu⟩ := by
  have i0 : isiXT IXT BXT [.xok "BadCard" fs, .fn "NoText"] = some (.fz (.bl false)) := rfl
  have i1 : isiXT IXT BXT [.xok "BadCard" fs, .fn "BadCard"] = some (.fz (.bl true)) := rfl
  have i2 : isiXT IXT BXT [.xok "BadCard" fs, .fn "BadDeed"] = some (.fz (.bl false)) := rfl
  have i3 : isiXT IXT BXT [.xok "BadCard" fs, .fn "BadBoard"] = some (.fz (.bl false)) := rfl
  have i4 : isiXT IXT BXT [.xok "BadCard" fs, .fn "Earlier"] = some (.fz (.bl false)) := rfl
  have i5 : isiXT IXT BXT [.xok "BadCard" fs, .fn "Told"] = some (.fz (.bl false)) := rfl
  have i6 : isiXT IXT BXT [.xok "BadCard" fs, .fn "NotTold"] = some (.fz (.bl false)) := rfl
  have i7 : isiXT IXT BXT [.xok "BadCard" fs, .fn "NoBoard"] = some (.fz (.bl false)) := rfl
  have i8 : isiXT IXT BXT [.xok "BadCard" fs, .fn "NoCard"] = some (.fz (.bl false)) := rfl
  have i9 : isiXT IXT BXT [.xok "BadCard" fs, .fn "WrongPhoto"] = some (.fz (.bl false)) := rfl
  have i10 : isiXT IXT BXT [.xok "BadCard" fs, .fn "Ring"] = some (.fz (.bl false)) := rfl
  have i11 : isiXT IXT BXT [.xok "BadCard" fs, .fn "NoLine"] = some (.fz (.bl false)) := rfl
  have i12 : isiXT IXT BXT [.xok "BadCard" fs, .fn "BadPhoto"] = some (.fz (.bl false)) := rfl
  refine w_eq ?_
  (refine fn_wv law_kinds_eq ?_; unfold law_kinds_0 law_kinds_1 law_kinds_2 law_kinds_3 law_kinds_4)
  ((walk_at "vc"); repeat ((refine w_rw (by first | (simp only [i0, i1, i2, i3, i4, i5, i6, i7, i8, i9, i10, i11, i12]; done) | (simp only [i0, i1, i2, i3, i4, i5, i6, i7, i8, i9, i10, i11, i12]; rfl)) ?_); (walk_at "vc")))
  exact ⟨rfl, rfl⟩
theorem row_1 {p : D} (hp : Ty p) : RowOk 1 (.xok "BadCard" [("field", p)]) [p] := by
  refine ⟨by decide, fun mu => kinds_1, fun mu => ?_, rfl, rfl, ty_repr (fun d hd => ?_) (by simp)⟩
  · obtain ⟨fs, hfs⟩ : ∃ fs : List (Str × D), ([("field", p)] : List (Str × D)) = fs := ⟨_, rfl⟩
    have k_p : xkO XT "field" (.xok "BadCard" fs) = some (.fz p) := by rw [← hfs]; rfl
    rw [hfs]
    refine w_eq ?_
    (refine fn_wv law_values_eq ?_; unfold law_values_5 law_values_0B law_values_0T law_values_1B law_values_1T law_values_2B law_values_2T law_values_3B law_values_3T law_values_4B law_values_4T law_values_0B0 law_values_1B0 law_values_2B0 law_values_3B0 law_values_4B0)
    ((walk_at "vc"); repeat ((refine w_rw (by first | (simp only [k_p]; done) | (simp only [k_p]; rfl)) ?_); (walk_at "vc")))
    exact ⟨rfl, rfl⟩
  · simp only [List.mem_cons, List.not_mem_nil, or_false] at hd
    rcases hd with rfl
    · exact hp
theorem kinds_2 {fs : List (Str × D)} {mu : List O} : m_law_kinds [.xok "BadDeed" fs] mu = .ok (.lst (bits 2)) ⟨[], mu⟩ := by
  have i0 : isiXT IXT BXT [.xok "BadDeed" fs, .fn "NoText"] = some (.fz (.bl false)) := rfl
  have i1 : isiXT IXT BXT [.xok "BadDeed" fs, .fn "BadCard"] = some (.fz (.bl false)) := rfl
  have i2 : isiXT IXT BXT [.xok "BadDeed" fs, .fn "BadDeed"] = some (.fz (.bl true)) := rfl
  have i3 : isiXT IXT BXT [.xok "BadDeed" fs, .fn "BadBoard"] = some (.fz (.bl false)) := rfl
  have i4 : isiXT IXT BXT [.xok "BadDeed" fs, .fn "Earlier"] = some (.fz (.bl false)) := rfl
  have i5 : isiXT IXT BXT [.xok "BadDeed" fs, .fn "Told"] = some (.fz (.bl false)) := rfl
  have i6 : isiXT IXT BXT [.xok "BadDeed" fs, .fn "NotTold"] = some (.fz (.bl false)) := rfl
  have i7 : isiXT IXT BXT [.xok "BadDeed" fs, .fn "NoBoard"] = some (.fz (.bl false)) := rfl
  have i8 : isiXT IXT BXT [.xok "BadDeed" fs, .fn "NoCard"] = some (.fz (.bl false)) := rfl
  have i9 : isiXT IXT BXT [.xok "BadDeed" fs, .fn "WrongPhoto"] = some (.fz (.bl false)) := rfl
  have i10 : isiXT IXT BXT [.xok "BadDeed" fs, .fn "Ring"] = some (.fz (.bl false)) := rfl
  have i11 : isiXT IXT BXT [.xok "BadDeed" fs, .fn "NoLine"] = some (.fz (.bl false)) := rfl
  have i12 : isiXT IXT BXT [.xok "BadDeed" fs, .fn "BadPhoto"] = some (.fz (.bl false)) := rfl
  refine w_eq ?_
  (refine fn_wv law_kinds_eq ?_; unfold law_kinds_0 law_kinds_1 law_kinds_2 law_kinds_3 law_kinds_4)
  ((walk_at "vc"); repeat ((refine w_rw (by first | (simp only [i0, i1, i2, i3, i4, i5, i6, i7, i8, i9, i10, i11, i12]; done) | (simp only [i0, i1, i2, i3, i4, i5, i6, i7, i8, i9, i10, i11, i12]; rfl)) ?_); (walk_at "vc")))
  exact ⟨rfl, rfl⟩
theorem row_2 {p : D} (hp : Ty p) : RowOk 2 (.xok "BadDeed" [("field", p)]) [p] := by
  refine ⟨by decide, fun mu => kinds_2, fun mu => ?_, rfl, rfl, ty_repr (fun d hd => ?_) (by simp)⟩
  · obtain ⟨fs, hfs⟩ : ∃ fs : List (Str × D), ([("field", p)] : List (Str × D)) = fs := ⟨_, rfl⟩
    have k_p : xkO XT "field" (.xok "BadDeed" fs) = some (.fz p) := by rw [← hfs]; rfl
    rw [hfs]
    refine w_eq ?_
    (refine fn_wv law_values_eq ?_; unfold law_values_5 law_values_0B law_values_0T law_values_1B law_values_1T law_values_2B law_values_2T law_values_3B law_values_3T law_values_4B law_values_4T law_values_0B0 law_values_1B0 law_values_2B0 law_values_3B0 law_values_4B0)
    ((walk_at "vc"); repeat ((refine w_rw (by first | (simp only [k_p]; done) | (simp only [k_p]; rfl)) ?_); (walk_at "vc")))
    exact ⟨rfl, rfl⟩
  · simp only [List.mem_cons, List.not_mem_nil, or_false] at hd
    rcases hd with rfl
    · exact hp
theorem kinds_3 {fs : List (Str × D)} {mu : List O} : m_law_kinds [.xok "BadBoard" fs] mu = .ok (.lst (bits 3)) ⟨[], mu⟩ := by
  have i0 : isiXT IXT BXT [.xok "BadBoard" fs, .fn "NoText"] = some (.fz (.bl false)) := rfl
  have i1 : isiXT IXT BXT [.xok "BadBoard" fs, .fn "BadCard"] = some (.fz (.bl false)) := rfl
  have i2 : isiXT IXT BXT [.xok "BadBoard" fs, .fn "BadDeed"] = some (.fz (.bl false)) := rfl
  have i3 : isiXT IXT BXT [.xok "BadBoard" fs, .fn "BadBoard"] = some (.fz (.bl true)) := rfl
  have i4 : isiXT IXT BXT [.xok "BadBoard" fs, .fn "Earlier"] = some (.fz (.bl false)) := rfl
  have i5 : isiXT IXT BXT [.xok "BadBoard" fs, .fn "Told"] = some (.fz (.bl false)) := rfl
  have i6 : isiXT IXT BXT [.xok "BadBoard" fs, .fn "NotTold"] = some (.fz (.bl false)) := rfl
  have i7 : isiXT IXT BXT [.xok "BadBoard" fs, .fn "NoBoard"] = some (.fz (.bl false)) := rfl
  have i8 : isiXT IXT BXT [.xok "BadBoard" fs, .fn "NoCard"] = some (.fz (.bl false)) := rfl
  have i9 : isiXT IXT BXT [.xok "BadBoard" fs, .fn "WrongPhoto"] = some (.fz (.bl false)) := rfl
  have i10 : isiXT IXT BXT [.xok "BadBoard" fs, .fn "Ring"] = some (.fz (.bl false)) := rfl
  have i11 : isiXT IXT BXT [.xok "BadBoard" fs, .fn "NoLine"] = some (.fz (.bl false)) := rfl
  have i12 : isiXT IXT BXT [.xok "BadBoard" fs, .fn "BadPhoto"] = some (.fz (.bl false)) := rfl
  refine w_eq ?_
  (refine fn_wv law_kinds_eq ?_; unfold law_kinds_0 law_kinds_1 law_kinds_2 law_kinds_3 law_kinds_4)
  ((walk_at "vc"); repeat ((refine w_rw (by first | (simp only [i0, i1, i2, i3, i4, i5, i6, i7, i8, i9, i10, i11, i12]; done) | (simp only [i0, i1, i2, i3, i4, i5, i6, i7, i8, i9, i10, i11, i12]; rfl)) ?_); (walk_at "vc")))
  exact ⟨rfl, rfl⟩
theorem row_3 {p q : D} (hp : Ty p) (hq : Ty q) : RowOk 3 (.xok "BadBoard" [("high", q), ("wide", p)]) [p, q] := by
  refine ⟨by decide, fun mu => kinds_3, fun mu => ?_, rfl, rfl, ty_repr (fun d hd => ?_) (by simp)⟩
  · obtain ⟨fs, hfs⟩ : ∃ fs : List (Str × D), ([("high", q), ("wide", p)] : List (Str × D)) = fs := ⟨_, rfl⟩
    have k_p : xkO XT "wide" (.xok "BadBoard" fs) = some (.fz p) := by rw [← hfs]; rfl
    have k_q : xkO XT "high" (.xok "BadBoard" fs) = some (.fz q) := by rw [← hfs]; rfl
    rw [hfs]
    refine w_eq ?_
    (refine fn_wv law_values_eq ?_; unfold law_values_5 law_values_0B law_values_0T law_values_1B law_values_1T law_values_2B law_values_2T law_values_3B law_values_3T law_values_4B law_values_4T law_values_0B0 law_values_1B0 law_values_2B0 law_values_3B0 law_values_4B0)
    ((walk_at "vc"); repeat ((refine w_rw (by first | (simp only [k_p, k_q]; done) | (simp only [k_p, k_q]; rfl)) ?_); (walk_at "vc")))
    exact ⟨rfl, rfl⟩
  · simp only [List.mem_cons, List.not_mem_nil, or_false] at hd
    rcases hd with rfl | rfl
    · exact hp
    · exact hq
theorem kinds_4 {fs : List (Str × D)} {mu : List O} : m_law_kinds [.xok "Earlier" fs] mu = .ok (.lst (bits 4)) ⟨[], mu⟩ := by
  have i0 : isiXT IXT BXT [.xok "Earlier" fs, .fn "NoText"] = some (.fz (.bl false)) := rfl
  have i1 : isiXT IXT BXT [.xok "Earlier" fs, .fn "BadCard"] = some (.fz (.bl false)) := rfl
  have i2 : isiXT IXT BXT [.xok "Earlier" fs, .fn "BadDeed"] = some (.fz (.bl false)) := rfl
  have i3 : isiXT IXT BXT [.xok "Earlier" fs, .fn "BadBoard"] = some (.fz (.bl false)) := rfl
  have i4 : isiXT IXT BXT [.xok "Earlier" fs, .fn "Earlier"] = some (.fz (.bl true)) := rfl
  have i5 : isiXT IXT BXT [.xok "Earlier" fs, .fn "Told"] = some (.fz (.bl false)) := rfl
  have i6 : isiXT IXT BXT [.xok "Earlier" fs, .fn "NotTold"] = some (.fz (.bl false)) := rfl
  have i7 : isiXT IXT BXT [.xok "Earlier" fs, .fn "NoBoard"] = some (.fz (.bl false)) := rfl
  have i8 : isiXT IXT BXT [.xok "Earlier" fs, .fn "NoCard"] = some (.fz (.bl false)) := rfl
  have i9 : isiXT IXT BXT [.xok "Earlier" fs, .fn "WrongPhoto"] = some (.fz (.bl false)) := rfl
  have i10 : isiXT IXT BXT [.xok "Earlier" fs, .fn "Ring"] = some (.fz (.bl false)) := rfl
  have i11 : isiXT IXT BXT [.xok "Earlier" fs, .fn "NoLine"] = some (.fz (.bl false)) := rfl
  have i12 : isiXT IXT BXT [.xok "Earlier" fs, .fn "BadPhoto"] = some (.fz (.bl false)) := rfl
  refine w_eq ?_
  (refine fn_wv law_kinds_eq ?_; unfold law_kinds_0 law_kinds_1 law_kinds_2 law_kinds_3 law_kinds_4)
  ((walk_at "vc"); repeat ((refine w_rw (by first | (simp only [i0, i1, i2, i3, i4, i5, i6, i7, i8, i9, i10, i11, i12]; done) | (simp only [i0, i1, i2, i3, i4, i5, i6, i7, i8, i9, i10, i11, i12]; rfl)) ?_); (walk_at "vc")))
  exact ⟨rfl, rfl⟩
theorem row_4 {p : D} (hp : Ty p) : RowOk 4 (.xok "Earlier" [("day", p)]) [p] := by
  refine ⟨by decide, fun mu => kinds_4, fun mu => ?_, rfl, rfl, ty_repr (fun d hd => ?_) (by simp)⟩
  · obtain ⟨fs, hfs⟩ : ∃ fs : List (Str × D), ([("day", p)] : List (Str × D)) = fs := ⟨_, rfl⟩
    have k_p : xkO XT "day" (.xok "Earlier" fs) = some (.fz p) := by rw [← hfs]; rfl
    rw [hfs]
    refine w_eq ?_
    (refine fn_wv law_values_eq ?_; unfold law_values_5 law_values_0B law_values_0T law_values_1B law_values_1T law_values_2B law_values_2T law_values_3B law_values_3T law_values_4B law_values_4T law_values_0B0 law_values_1B0 law_values_2B0 law_values_3B0 law_values_4B0)
    ((walk_at "vc"); repeat ((refine w_rw (by first | (simp only [k_p]; done) | (simp only [k_p]; rfl)) ?_); (walk_at "vc")))
    exact ⟨rfl, rfl⟩
  · simp only [List.mem_cons, List.not_mem_nil, or_false] at hd
    rcases hd with rfl
    · exact hp
theorem kinds_5 {fs : List (Str × D)} {mu : List O} : m_law_kinds [.xok "Told" fs] mu = .ok (.lst (bits 5)) ⟨[], mu⟩ := by
  have i0 : isiXT IXT BXT [.xok "Told" fs, .fn "NoText"] = some (.fz (.bl false)) := rfl
  have i1 : isiXT IXT BXT [.xok "Told" fs, .fn "BadCard"] = some (.fz (.bl false)) := rfl
  have i2 : isiXT IXT BXT [.xok "Told" fs, .fn "BadDeed"] = some (.fz (.bl false)) := rfl
  have i3 : isiXT IXT BXT [.xok "Told" fs, .fn "BadBoard"] = some (.fz (.bl false)) := rfl
  have i4 : isiXT IXT BXT [.xok "Told" fs, .fn "Earlier"] = some (.fz (.bl false)) := rfl
  have i5 : isiXT IXT BXT [.xok "Told" fs, .fn "Told"] = some (.fz (.bl true)) := rfl
  have i6 : isiXT IXT BXT [.xok "Told" fs, .fn "NotTold"] = some (.fz (.bl false)) := rfl
  have i7 : isiXT IXT BXT [.xok "Told" fs, .fn "NoBoard"] = some (.fz (.bl false)) := rfl
  have i8 : isiXT IXT BXT [.xok "Told" fs, .fn "NoCard"] = some (.fz (.bl false)) := rfl
  have i9 : isiXT IXT BXT [.xok "Told" fs, .fn "WrongPhoto"] = some (.fz (.bl false)) := rfl
  have i10 : isiXT IXT BXT [.xok "Told" fs, .fn "Ring"] = some (.fz (.bl false)) := rfl
  have i11 : isiXT IXT BXT [.xok "Told" fs, .fn "NoLine"] = some (.fz (.bl false)) := rfl
  have i12 : isiXT IXT BXT [.xok "Told" fs, .fn "BadPhoto"] = some (.fz (.bl false)) := rfl
  refine w_eq ?_
  (refine fn_wv law_kinds_eq ?_; unfold law_kinds_0 law_kinds_1 law_kinds_2 law_kinds_3 law_kinds_4)
  ((walk_at "vc"); repeat ((refine w_rw (by first | (simp only [i0, i1, i2, i3, i4, i5, i6, i7, i8, i9, i10, i11, i12]; done) | (simp only [i0, i1, i2, i3, i4, i5, i6, i7, i8, i9, i10, i11, i12]; rfl)) ?_); (walk_at "vc")))
  exact ⟨rfl, rfl⟩
theorem row_5 {p : D} (hp : Ty p) : RowOk 5 (.xok "Told" [("deed", p)]) [p] := by
  refine ⟨by decide, fun mu => kinds_5, fun mu => ?_, rfl, rfl, ty_repr (fun d hd => ?_) (by simp)⟩
  · obtain ⟨fs, hfs⟩ : ∃ fs : List (Str × D), ([("deed", p)] : List (Str × D)) = fs := ⟨_, rfl⟩
    have k_p : xkO XT "deed" (.xok "Told" fs) = some (.fz p) := by rw [← hfs]; rfl
    rw [hfs]
    refine w_eq ?_
    (refine fn_wv law_values_eq ?_; unfold law_values_5 law_values_0B law_values_0T law_values_1B law_values_1T law_values_2B law_values_2T law_values_3B law_values_3T law_values_4B law_values_4T law_values_0B0 law_values_1B0 law_values_2B0 law_values_3B0 law_values_4B0)
    ((walk_at "vc"); repeat ((refine w_rw (by first | (simp only [k_p]; done) | (simp only [k_p]; rfl)) ?_); (walk_at "vc")))
    exact ⟨rfl, rfl⟩
  · simp only [List.mem_cons, List.not_mem_nil, or_false] at hd
    rcases hd with rfl
    · exact hp
theorem kinds_6 {fs : List (Str × D)} {mu : List O} : m_law_kinds [.xok "NotTold" fs] mu = .ok (.lst (bits 6)) ⟨[], mu⟩ := by
  have i0 : isiXT IXT BXT [.xok "NotTold" fs, .fn "NoText"] = some (.fz (.bl false)) := rfl
  have i1 : isiXT IXT BXT [.xok "NotTold" fs, .fn "BadCard"] = some (.fz (.bl false)) := rfl
  have i2 : isiXT IXT BXT [.xok "NotTold" fs, .fn "BadDeed"] = some (.fz (.bl false)) := rfl
  have i3 : isiXT IXT BXT [.xok "NotTold" fs, .fn "BadBoard"] = some (.fz (.bl false)) := rfl
  have i4 : isiXT IXT BXT [.xok "NotTold" fs, .fn "Earlier"] = some (.fz (.bl false)) := rfl
  have i5 : isiXT IXT BXT [.xok "NotTold" fs, .fn "Told"] = some (.fz (.bl false)) := rfl
  have i6 : isiXT IXT BXT [.xok "NotTold" fs, .fn "NotTold"] = some (.fz (.bl true)) := rfl
  have i7 : isiXT IXT BXT [.xok "NotTold" fs, .fn "NoBoard"] = some (.fz (.bl false)) := rfl
  have i8 : isiXT IXT BXT [.xok "NotTold" fs, .fn "NoCard"] = some (.fz (.bl false)) := rfl
  have i9 : isiXT IXT BXT [.xok "NotTold" fs, .fn "WrongPhoto"] = some (.fz (.bl false)) := rfl
  have i10 : isiXT IXT BXT [.xok "NotTold" fs, .fn "Ring"] = some (.fz (.bl false)) := rfl
  have i11 : isiXT IXT BXT [.xok "NotTold" fs, .fn "NoLine"] = some (.fz (.bl false)) := rfl
  have i12 : isiXT IXT BXT [.xok "NotTold" fs, .fn "BadPhoto"] = some (.fz (.bl false)) := rfl
  refine w_eq ?_
  (refine fn_wv law_kinds_eq ?_; unfold law_kinds_0 law_kinds_1 law_kinds_2 law_kinds_3 law_kinds_4)
  ((walk_at "vc"); repeat ((refine w_rw (by first | (simp only [i0, i1, i2, i3, i4, i5, i6, i7, i8, i9, i10, i11, i12]; done) | (simp only [i0, i1, i2, i3, i4, i5, i6, i7, i8, i9, i10, i11, i12]; rfl)) ?_); (walk_at "vc")))
  exact ⟨rfl, rfl⟩
theorem row_6 {p : D} (hp : Ty p) : RowOk 6 (.xok "NotTold" [("moment", p)]) [p] := by
  refine ⟨by decide, fun mu => kinds_6, fun mu => ?_, rfl, rfl, ty_repr (fun d hd => ?_) (by simp)⟩
  · obtain ⟨fs, hfs⟩ : ∃ fs : List (Str × D), ([("moment", p)] : List (Str × D)) = fs := ⟨_, rfl⟩
    have k_p : xkO XT "moment" (.xok "NotTold" fs) = some (.fz p) := by rw [← hfs]; rfl
    rw [hfs]
    refine w_eq ?_
    (refine fn_wv law_values_eq ?_; unfold law_values_5 law_values_0B law_values_0T law_values_1B law_values_1T law_values_2B law_values_2T law_values_3B law_values_3T law_values_4B law_values_4T law_values_0B0 law_values_1B0 law_values_2B0 law_values_3B0 law_values_4B0)
    ((walk_at "vc"); repeat ((refine w_rw (by first | (simp only [k_p]; done) | (simp only [k_p]; rfl)) ?_); (walk_at "vc")))
    exact ⟨rfl, rfl⟩
  · simp only [List.mem_cons, List.not_mem_nil, or_false] at hd
    rcases hd with rfl
    · exact hp
theorem kinds_7 {fs : List (Str × D)} {mu : List O} : m_law_kinds [.xok "NoBoard" fs] mu = .ok (.lst (bits 7)) ⟨[], mu⟩ := by
  have i0 : isiXT IXT BXT [.xok "NoBoard" fs, .fn "NoText"] = some (.fz (.bl false)) := rfl
  have i1 : isiXT IXT BXT [.xok "NoBoard" fs, .fn "BadCard"] = some (.fz (.bl false)) := rfl
  have i2 : isiXT IXT BXT [.xok "NoBoard" fs, .fn "BadDeed"] = some (.fz (.bl false)) := rfl
  have i3 : isiXT IXT BXT [.xok "NoBoard" fs, .fn "BadBoard"] = some (.fz (.bl false)) := rfl
  have i4 : isiXT IXT BXT [.xok "NoBoard" fs, .fn "Earlier"] = some (.fz (.bl false)) := rfl
  have i5 : isiXT IXT BXT [.xok "NoBoard" fs, .fn "Told"] = some (.fz (.bl false)) := rfl
  have i6 : isiXT IXT BXT [.xok "NoBoard" fs, .fn "NotTold"] = some (.fz (.bl false)) := rfl
  have i7 : isiXT IXT BXT [.xok "NoBoard" fs, .fn "NoBoard"] = some (.fz (.bl true)) := rfl
  have i8 : isiXT IXT BXT [.xok "NoBoard" fs, .fn "NoCard"] = some (.fz (.bl false)) := rfl
  have i9 : isiXT IXT BXT [.xok "NoBoard" fs, .fn "WrongPhoto"] = some (.fz (.bl false)) := rfl
  have i10 : isiXT IXT BXT [.xok "NoBoard" fs, .fn "Ring"] = some (.fz (.bl false)) := rfl
  have i11 : isiXT IXT BXT [.xok "NoBoard" fs, .fn "NoLine"] = some (.fz (.bl false)) := rfl
  have i12 : isiXT IXT BXT [.xok "NoBoard" fs, .fn "BadPhoto"] = some (.fz (.bl false)) := rfl
  refine w_eq ?_
  (refine fn_wv law_kinds_eq ?_; unfold law_kinds_0 law_kinds_1 law_kinds_2 law_kinds_3 law_kinds_4)
  ((walk_at "vc"); repeat ((refine w_rw (by first | (simp only [i0, i1, i2, i3, i4, i5, i6, i7, i8, i9, i10, i11, i12]; done) | (simp only [i0, i1, i2, i3, i4, i5, i6, i7, i8, i9, i10, i11, i12]; rfl)) ?_); (walk_at "vc")))
  exact ⟨rfl, rfl⟩
theorem row_7 {p q : D} (hp : Ty p) (hq : Ty q) : RowOk 7 (.xok "NoBoard" [("why", q), ("line", p)]) [p, q] := by
  refine ⟨by decide, fun mu => kinds_7, fun mu => ?_, rfl, rfl, ty_repr (fun d hd => ?_) (by simp)⟩
  · obtain ⟨fs, hfs⟩ : ∃ fs : List (Str × D), ([("why", q), ("line", p)] : List (Str × D)) = fs := ⟨_, rfl⟩
    have k_p : xkO XT "line" (.xok "NoBoard" fs) = some (.fz p) := by rw [← hfs]; rfl
    have k_q : xkO XT "why" (.xok "NoBoard" fs) = some (.fz q) := by rw [← hfs]; rfl
    rw [hfs]
    refine w_eq ?_
    (refine fn_wv law_values_eq ?_; unfold law_values_5 law_values_0B law_values_0T law_values_1B law_values_1T law_values_2B law_values_2T law_values_3B law_values_3T law_values_4B law_values_4T law_values_0B0 law_values_1B0 law_values_2B0 law_values_3B0 law_values_4B0)
    ((walk_at "vc"); repeat ((refine w_rw (by first | (simp only [k_p, k_q]; done) | (simp only [k_p, k_q]; rfl)) ?_); (walk_at "vc")))
    exact ⟨rfl, rfl⟩
  · simp only [List.mem_cons, List.not_mem_nil, or_false] at hd
    rcases hd with rfl | rfl
    · exact hp
    · exact hq
theorem kinds_8 {fs : List (Str × D)} {mu : List O} : m_law_kinds [.xok "NoCard" fs] mu = .ok (.lst (bits 8)) ⟨[], mu⟩ := by
  have i0 : isiXT IXT BXT [.xok "NoCard" fs, .fn "NoText"] = some (.fz (.bl false)) := rfl
  have i1 : isiXT IXT BXT [.xok "NoCard" fs, .fn "BadCard"] = some (.fz (.bl false)) := rfl
  have i2 : isiXT IXT BXT [.xok "NoCard" fs, .fn "BadDeed"] = some (.fz (.bl false)) := rfl
  have i3 : isiXT IXT BXT [.xok "NoCard" fs, .fn "BadBoard"] = some (.fz (.bl false)) := rfl
  have i4 : isiXT IXT BXT [.xok "NoCard" fs, .fn "Earlier"] = some (.fz (.bl false)) := rfl
  have i5 : isiXT IXT BXT [.xok "NoCard" fs, .fn "Told"] = some (.fz (.bl false)) := rfl
  have i6 : isiXT IXT BXT [.xok "NoCard" fs, .fn "NotTold"] = some (.fz (.bl false)) := rfl
  have i7 : isiXT IXT BXT [.xok "NoCard" fs, .fn "NoBoard"] = some (.fz (.bl false)) := rfl
  have i8 : isiXT IXT BXT [.xok "NoCard" fs, .fn "NoCard"] = some (.fz (.bl true)) := rfl
  have i9 : isiXT IXT BXT [.xok "NoCard" fs, .fn "WrongPhoto"] = some (.fz (.bl false)) := rfl
  have i10 : isiXT IXT BXT [.xok "NoCard" fs, .fn "Ring"] = some (.fz (.bl false)) := rfl
  have i11 : isiXT IXT BXT [.xok "NoCard" fs, .fn "NoLine"] = some (.fz (.bl false)) := rfl
  have i12 : isiXT IXT BXT [.xok "NoCard" fs, .fn "BadPhoto"] = some (.fz (.bl false)) := rfl
  refine w_eq ?_
  (refine fn_wv law_kinds_eq ?_; unfold law_kinds_0 law_kinds_1 law_kinds_2 law_kinds_3 law_kinds_4)
  ((walk_at "vc"); repeat ((refine w_rw (by first | (simp only [i0, i1, i2, i3, i4, i5, i6, i7, i8, i9, i10, i11, i12]; done) | (simp only [i0, i1, i2, i3, i4, i5, i6, i7, i8, i9, i10, i11, i12]; rfl)) ?_); (walk_at "vc")))
  exact ⟨rfl, rfl⟩
theorem row_8 {p : D} (hp : Ty p) : RowOk 8 (.xok "NoCard" [("name", p)]) [p] := by
  refine ⟨by decide, fun mu => kinds_8, fun mu => ?_, rfl, rfl, ty_repr (fun d hd => ?_) (by simp)⟩
  · obtain ⟨fs, hfs⟩ : ∃ fs : List (Str × D), ([("name", p)] : List (Str × D)) = fs := ⟨_, rfl⟩
    have k_p : xkO XT "name" (.xok "NoCard" fs) = some (.fz p) := by rw [← hfs]; rfl
    rw [hfs]
    refine w_eq ?_
    (refine fn_wv law_values_eq ?_; unfold law_values_5 law_values_0B law_values_0T law_values_1B law_values_1T law_values_2B law_values_2T law_values_3B law_values_3T law_values_4B law_values_4T law_values_0B0 law_values_1B0 law_values_2B0 law_values_3B0 law_values_4B0)
    ((walk_at "vc"); repeat ((refine w_rw (by first | (simp only [k_p]; done) | (simp only [k_p]; rfl)) ?_); (walk_at "vc")))
    exact ⟨rfl, rfl⟩
  · simp only [List.mem_cons, List.not_mem_nil, or_false] at hd
    rcases hd with rfl
    · exact hp
theorem kinds_9 {fs : List (Str × D)} {mu : List O} : m_law_kinds [.xok "WrongPhoto" fs] mu = .ok (.lst (bits 9)) ⟨[], mu⟩ := by
  have i0 : isiXT IXT BXT [.xok "WrongPhoto" fs, .fn "NoText"] = some (.fz (.bl false)) := rfl
  have i1 : isiXT IXT BXT [.xok "WrongPhoto" fs, .fn "BadCard"] = some (.fz (.bl false)) := rfl
  have i2 : isiXT IXT BXT [.xok "WrongPhoto" fs, .fn "BadDeed"] = some (.fz (.bl false)) := rfl
  have i3 : isiXT IXT BXT [.xok "WrongPhoto" fs, .fn "BadBoard"] = some (.fz (.bl false)) := rfl
  have i4 : isiXT IXT BXT [.xok "WrongPhoto" fs, .fn "Earlier"] = some (.fz (.bl false)) := rfl
  have i5 : isiXT IXT BXT [.xok "WrongPhoto" fs, .fn "Told"] = some (.fz (.bl false)) := rfl
  have i6 : isiXT IXT BXT [.xok "WrongPhoto" fs, .fn "NotTold"] = some (.fz (.bl false)) := rfl
  have i7 : isiXT IXT BXT [.xok "WrongPhoto" fs, .fn "NoBoard"] = some (.fz (.bl false)) := rfl
  have i8 : isiXT IXT BXT [.xok "WrongPhoto" fs, .fn "NoCard"] = some (.fz (.bl false)) := rfl
  have i9 : isiXT IXT BXT [.xok "WrongPhoto" fs, .fn "WrongPhoto"] = some (.fz (.bl true)) := rfl
  have i10 : isiXT IXT BXT [.xok "WrongPhoto" fs, .fn "Ring"] = some (.fz (.bl false)) := rfl
  have i11 : isiXT IXT BXT [.xok "WrongPhoto" fs, .fn "NoLine"] = some (.fz (.bl false)) := rfl
  have i12 : isiXT IXT BXT [.xok "WrongPhoto" fs, .fn "BadPhoto"] = some (.fz (.bl false)) := rfl
  refine w_eq ?_
  (refine fn_wv law_kinds_eq ?_; unfold law_kinds_0 law_kinds_1 law_kinds_2 law_kinds_3 law_kinds_4)
  ((walk_at "vc"); repeat ((refine w_rw (by first | (simp only [i0, i1, i2, i3, i4, i5, i6, i7, i8, i9, i10, i11, i12]; done) | (simp only [i0, i1, i2, i3, i4, i5, i6, i7, i8, i9, i10, i11, i12]; rfl)) ?_); (walk_at "vc")))
  exact ⟨rfl, rfl⟩
theorem row_9 {p q u : D} (hp : Ty p) (hq : Ty q) (hu : Ty u) : RowOk 9 (.xok "WrongPhoto" [("y", u), ("x", q), ("number", p)]) [p, q, u] := by
  refine ⟨by decide, fun mu => kinds_9, fun mu => ?_, rfl, rfl, ty_repr (fun d hd => ?_) (by simp)⟩
  · obtain ⟨fs, hfs⟩ : ∃ fs : List (Str × D), ([("y", u), ("x", q), ("number", p)] : List (Str × D)) = fs := ⟨_, rfl⟩
    have k_p : xkO XT "number" (.xok "WrongPhoto" fs) = some (.fz p) := by rw [← hfs]; rfl
    have k_q : xkO XT "x" (.xok "WrongPhoto" fs) = some (.fz q) := by rw [← hfs]; rfl
    have k_u : xkO XT "y" (.xok "WrongPhoto" fs) = some (.fz u) := by rw [← hfs]; rfl
    rw [hfs]
    refine w_eq ?_
    (refine fn_wv law_values_eq ?_; unfold law_values_5 law_values_0B law_values_0T law_values_1B law_values_1T law_values_2B law_values_2T law_values_3B law_values_3T law_values_4B law_values_4T law_values_0B0 law_values_1B0 law_values_2B0 law_values_3B0 law_values_4B0)
    ((walk_at "vc"); repeat ((refine w_rw (by first | (simp only [k_p, k_q, k_u]; done) | (simp only [k_p, k_q, k_u]; rfl)) ?_); (walk_at "vc")))
    exact ⟨rfl, rfl⟩
  · simp only [List.mem_cons, List.not_mem_nil, or_false] at hd
    rcases hd with rfl | rfl | rfl
    · exact hp
    · exact hq
    · exact hu
theorem kinds_10 {fs : List (Str × D)} {mu : List O} : m_law_kinds [.xok "Ring" fs] mu = .ok (.lst (bits 10)) ⟨[], mu⟩ := by
  have i0 : isiXT IXT BXT [.xok "Ring" fs, .fn "NoText"] = some (.fz (.bl false)) := rfl
  have i1 : isiXT IXT BXT [.xok "Ring" fs, .fn "BadCard"] = some (.fz (.bl false)) := rfl
  have i2 : isiXT IXT BXT [.xok "Ring" fs, .fn "BadDeed"] = some (.fz (.bl false)) := rfl
  have i3 : isiXT IXT BXT [.xok "Ring" fs, .fn "BadBoard"] = some (.fz (.bl false)) := rfl
  have i4 : isiXT IXT BXT [.xok "Ring" fs, .fn "Earlier"] = some (.fz (.bl false)) := rfl
  have i5 : isiXT IXT BXT [.xok "Ring" fs, .fn "Told"] = some (.fz (.bl false)) := rfl
  have i6 : isiXT IXT BXT [.xok "Ring" fs, .fn "NotTold"] = some (.fz (.bl false)) := rfl
  have i7 : isiXT IXT BXT [.xok "Ring" fs, .fn "NoBoard"] = some (.fz (.bl false)) := rfl
  have i8 : isiXT IXT BXT [.xok "Ring" fs, .fn "NoCard"] = some (.fz (.bl false)) := rfl
  have i9 : isiXT IXT BXT [.xok "Ring" fs, .fn "WrongPhoto"] = some (.fz (.bl false)) := rfl
  have i10 : isiXT IXT BXT [.xok "Ring" fs, .fn "Ring"] = some (.fz (.bl true)) := rfl
  have i11 : isiXT IXT BXT [.xok "Ring" fs, .fn "NoLine"] = some (.fz (.bl false)) := rfl
  have i12 : isiXT IXT BXT [.xok "Ring" fs, .fn "BadPhoto"] = some (.fz (.bl false)) := rfl
  refine w_eq ?_
  (refine fn_wv law_kinds_eq ?_; unfold law_kinds_0 law_kinds_1 law_kinds_2 law_kinds_3 law_kinds_4)
  ((walk_at "vc"); repeat ((refine w_rw (by first | (simp only [i0, i1, i2, i3, i4, i5, i6, i7, i8, i9, i10, i11, i12]; done) | (simp only [i0, i1, i2, i3, i4, i5, i6, i7, i8, i9, i10, i11, i12]; rfl)) ?_); (walk_at "vc")))
  exact ⟨rfl, rfl⟩
theorem row_10 {p : D} (hp : Ty p) : RowOk 10 (.xok "Ring" [("names", p)]) [p] := by
  refine ⟨by decide, fun mu => kinds_10, fun mu => ?_, rfl, rfl, ty_repr (fun d hd => ?_) (by simp)⟩
  · obtain ⟨fs, hfs⟩ : ∃ fs : List (Str × D), ([("names", p)] : List (Str × D)) = fs := ⟨_, rfl⟩
    have k_p : xkO XT "names" (.xok "Ring" fs) = some (.fz p) := by rw [← hfs]; rfl
    rw [hfs]
    refine w_eq ?_
    (refine fn_wv law_values_eq ?_; unfold law_values_5 law_values_0B law_values_0T law_values_1B law_values_1T law_values_2B law_values_2T law_values_3B law_values_3T law_values_4B law_values_4T law_values_0B0 law_values_1B0 law_values_2B0 law_values_3B0 law_values_4B0)
    ((walk_at "vc"); repeat ((refine w_rw (by first | (simp only [k_p]; done) | (simp only [k_p]; rfl)) ?_); (walk_at "vc")))
    exact ⟨rfl, rfl⟩
  · simp only [List.mem_cons, List.not_mem_nil, or_false] at hd
    rcases hd with rfl
    · exact hp
theorem kinds_11 {fs : List (Str × D)} {mu : List O} : m_law_kinds [.xok "NoLine" fs] mu = .ok (.lst (bits 11)) ⟨[], mu⟩ := by
  have i0 : isiXT IXT BXT [.xok "NoLine" fs, .fn "NoText"] = some (.fz (.bl false)) := rfl
  have i1 : isiXT IXT BXT [.xok "NoLine" fs, .fn "BadCard"] = some (.fz (.bl false)) := rfl
  have i2 : isiXT IXT BXT [.xok "NoLine" fs, .fn "BadDeed"] = some (.fz (.bl false)) := rfl
  have i3 : isiXT IXT BXT [.xok "NoLine" fs, .fn "BadBoard"] = some (.fz (.bl false)) := rfl
  have i4 : isiXT IXT BXT [.xok "NoLine" fs, .fn "Earlier"] = some (.fz (.bl false)) := rfl
  have i5 : isiXT IXT BXT [.xok "NoLine" fs, .fn "Told"] = some (.fz (.bl false)) := rfl
  have i6 : isiXT IXT BXT [.xok "NoLine" fs, .fn "NotTold"] = some (.fz (.bl false)) := rfl
  have i7 : isiXT IXT BXT [.xok "NoLine" fs, .fn "NoBoard"] = some (.fz (.bl false)) := rfl
  have i8 : isiXT IXT BXT [.xok "NoLine" fs, .fn "NoCard"] = some (.fz (.bl false)) := rfl
  have i9 : isiXT IXT BXT [.xok "NoLine" fs, .fn "WrongPhoto"] = some (.fz (.bl false)) := rfl
  have i10 : isiXT IXT BXT [.xok "NoLine" fs, .fn "Ring"] = some (.fz (.bl false)) := rfl
  have i11 : isiXT IXT BXT [.xok "NoLine" fs, .fn "NoLine"] = some (.fz (.bl true)) := rfl
  have i12 : isiXT IXT BXT [.xok "NoLine" fs, .fn "BadPhoto"] = some (.fz (.bl false)) := rfl
  refine w_eq ?_
  (refine fn_wv law_kinds_eq ?_; unfold law_kinds_0 law_kinds_1 law_kinds_2 law_kinds_3 law_kinds_4)
  ((walk_at "vc"); repeat ((refine w_rw (by first | (simp only [i0, i1, i2, i3, i4, i5, i6, i7, i8, i9, i10, i11, i12]; done) | (simp only [i0, i1, i2, i3, i4, i5, i6, i7, i8, i9, i10, i11, i12]; rfl)) ?_); (walk_at "vc")))
  exact ⟨rfl, rfl⟩
theorem row_11 {p : D} (hp : Ty p) : RowOk 11 (.xok "NoLine" [("line", p)]) [p] := by
  refine ⟨by decide, fun mu => kinds_11, fun mu => ?_, rfl, rfl, ty_repr (fun d hd => ?_) (by simp)⟩
  · obtain ⟨fs, hfs⟩ : ∃ fs : List (Str × D), ([("line", p)] : List (Str × D)) = fs := ⟨_, rfl⟩
    have k_p : xkO XT "line" (.xok "NoLine" fs) = some (.fz p) := by rw [← hfs]; rfl
    rw [hfs]
    refine w_eq ?_
    (refine fn_wv law_values_eq ?_; unfold law_values_5 law_values_0B law_values_0T law_values_1B law_values_1T law_values_2B law_values_2T law_values_3B law_values_3T law_values_4B law_values_4T law_values_0B0 law_values_1B0 law_values_2B0 law_values_3B0 law_values_4B0)
    ((walk_at "vc"); repeat ((refine w_rw (by first | (simp only [k_p]; done) | (simp only [k_p]; rfl)) ?_); (walk_at "vc")))
    exact ⟨rfl, rfl⟩
  · simp only [List.mem_cons, List.not_mem_nil, or_false] at hd
    rcases hd with rfl
    · exact hp
theorem kinds_12 {fs : List (Str × D)} {mu : List O} : m_law_kinds [.xok "BadPhoto" fs] mu = .ok (.lst (bits 12)) ⟨[], mu⟩ := by
  have i0 : isiXT IXT BXT [.xok "BadPhoto" fs, .fn "NoText"] = some (.fz (.bl false)) := rfl
  have i1 : isiXT IXT BXT [.xok "BadPhoto" fs, .fn "BadCard"] = some (.fz (.bl false)) := rfl
  have i2 : isiXT IXT BXT [.xok "BadPhoto" fs, .fn "BadDeed"] = some (.fz (.bl false)) := rfl
  have i3 : isiXT IXT BXT [.xok "BadPhoto" fs, .fn "BadBoard"] = some (.fz (.bl false)) := rfl
  have i4 : isiXT IXT BXT [.xok "BadPhoto" fs, .fn "Earlier"] = some (.fz (.bl false)) := rfl
  have i5 : isiXT IXT BXT [.xok "BadPhoto" fs, .fn "Told"] = some (.fz (.bl false)) := rfl
  have i6 : isiXT IXT BXT [.xok "BadPhoto" fs, .fn "NotTold"] = some (.fz (.bl false)) := rfl
  have i7 : isiXT IXT BXT [.xok "BadPhoto" fs, .fn "NoBoard"] = some (.fz (.bl false)) := rfl
  have i8 : isiXT IXT BXT [.xok "BadPhoto" fs, .fn "NoCard"] = some (.fz (.bl false)) := rfl
  have i9 : isiXT IXT BXT [.xok "BadPhoto" fs, .fn "WrongPhoto"] = some (.fz (.bl false)) := rfl
  have i10 : isiXT IXT BXT [.xok "BadPhoto" fs, .fn "Ring"] = some (.fz (.bl false)) := rfl
  have i11 : isiXT IXT BXT [.xok "BadPhoto" fs, .fn "NoLine"] = some (.fz (.bl false)) := rfl
  have i12 : isiXT IXT BXT [.xok "BadPhoto" fs, .fn "BadPhoto"] = some (.fz (.bl true)) := rfl
  refine w_eq ?_
  (refine fn_wv law_kinds_eq ?_; unfold law_kinds_0 law_kinds_1 law_kinds_2 law_kinds_3 law_kinds_4)
  ((walk_at "vc"); repeat ((refine w_rw (by first | (simp only [i0, i1, i2, i3, i4, i5, i6, i7, i8, i9, i10, i11, i12]; done) | (simp only [i0, i1, i2, i3, i4, i5, i6, i7, i8, i9, i10, i11, i12]; rfl)) ?_); (walk_at "vc")))
  exact ⟨rfl, rfl⟩
theorem row_12 : RowOk 12 (.xok "BadPhoto" []) [] := by
  refine ⟨by decide, fun mu => kinds_12, fun mu => ?_, rfl, rfl, ty_repr (fun d hd => ?_) (by simp)⟩
  · skip
    refine w_eq ?_
    (refine fn_wv law_values_eq ?_; unfold law_values_5 law_values_0B law_values_0T law_values_1B law_values_1T law_values_2B law_values_2T law_values_3B law_values_3T law_values_4B law_values_4T law_values_0B0 law_values_1B0 law_values_2B0 law_values_3B0 law_values_4B0)
    walk_at "vc"
    exact ⟨rfl, rfl⟩
  · cases hd
abbrev madeL (p q u : D) : List D := [
  .tup [.xok "NoText" [("text", p)], .tup [p]], .tup [.xok "BadCard" [("field", p)], .tup [p]], .tup [.xok "BadDeed" [("field", p)], .tup [p]], .tup [.xok "BadBoard" [("high", q), ("wide", p)], .tup [p, q]],
  .tup [.xok "Earlier" [("day", p)], .tup [p]], .tup [.xok "Told" [("deed", p)], .tup [p]], .tup [.xok "NotTold" [("moment", p)], .tup [p]], .tup [.xok "NoBoard" [("why", q), ("line", p)], .tup [p, q]],
  .tup [.xok "NoCard" [("name", p)], .tup [p]], .tup [.xok "WrongPhoto" [("y", u), ("x", q), ("number", p)], .tup [p, q, u]], .tup [.xok "Ring" [("names", p)], .tup [p]],
  .tup [.xok "NoLine" [("line", p)], .tup [p]], .tup [.xok "BadPhoto" [], .tup []]]
theorem made_rows {p q u : D} (hp : Ty p) (hq : Ty q) (hu : Ty u) : ∀ d ∈ numD 0 (madeL p q u), ∃ (i : Nat) (e : D) (vs : List D), d = .tup [.int (i : Int), .tup [e, .tup vs]] ∧ RowOk i e vs := by
  intro d h
  have h : d ∈ [D.tup [.int 0, (madeL p q u)[0]], .tup [.int 1, (madeL p q u)[1]], .tup [.int 2, (madeL p q u)[2]], .tup [.int 3, (madeL p q u)[3]], .tup [.int 4, (madeL p q u)[4]], .tup [.int 5, (madeL p q u)[5]],
    .tup [.int 6, (madeL p q u)[6]], .tup [.int 7, (madeL p q u)[7]], .tup [.int 8, (madeL p q u)[8]], .tup [.int 9, (madeL p q u)[9]], .tup [.int 10, (madeL p q u)[10]], .tup [.int 11, (madeL p q u)[11]], .tup [.int 12, (madeL p q u)[12]]] := h
  simp only [List.mem_cons, List.not_mem_nil, or_false] at h
  rcases h with rfl | rfl | rfl | rfl | rfl | rfl | rfl | rfl | rfl | rfl | rfl | rfl | rfl
  · exact ⟨0, _, _, rfl, row_0 hp⟩
  · exact ⟨1, _, _, rfl, row_1 hp⟩
  · exact ⟨2, _, _, rfl, row_2 hp⟩
  · exact ⟨3, _, _, rfl, row_3 hp hq⟩
  · exact ⟨4, _, _, rfl, row_4 hp⟩
  · exact ⟨5, _, _, rfl, row_5 hp⟩
  · exact ⟨6, _, _, rfl, row_6 hp⟩
  · exact ⟨7, _, _, rfl, row_7 hp hq⟩
  · exact ⟨8, _, _, rfl, row_8 hp⟩
  · exact ⟨9, _, _, rfl, row_9 hp hq hu⟩
  · exact ⟨10, _, _, rfl, row_10 hp⟩
  · exact ⟨11, _, _, rfl, row_11 hp⟩
  · exact ⟨12, _, _, rfl, row_12⟩
noncomputable def law_made_0L0 : M D :=
    (frz (xCall m_law_thing (fun ds _ => ds) 1 (nK []) (aCons (frz (xVar 0)) aNil) aNil))
noncomputable def law_made_0 : M Fl :=
    (sAsgT (gTL [(gN 2), (gN 3), (gN 4)]) (frz (xLc [5] (mRng1 (aCons (frz (xC (.int 3))) aNil)) (gN 5) (ret true) law_made_0L0)))
noncomputable def law_made_1 : M Fl :=
    (sAsg 1 (xLst (aCons (frz (xTup (aCons (frz (xExv "NoText" ["text"] (fun ds _ => ds) 1 (nK []) (aCons (frz (xVar 2)) aNil) aNil)) (aCons (frz (xTup (aCons (frz (xVar 2)) aNil))) aNil)))) (aCons (frz (xTup (aCons (frz (xExv "BadCard" ["field"] g_xv_BadCard_0_field 0 (nK ["field"]) aNil (aCons (frz (xVar 2)) aNil))) (aCons (frz (xTup (aCons (frz (xVar 2)) aNil))) aNil)))) (aCons (frz (xTup (aCons (frz (xExv "BadDeed" ["field"] (fun ds _ => ds) 1 (nK []) (aCons (frz (xVar 2)) aNil) aNil)) (aCons (frz (xTup (aCons (frz (xVar 2)) aNil))) aNil)))) (aCons (frz (xTup (aCons (frz (xExv "BadBoard" ["wide", "high"] g_xv_BadBoard_0_high_wide 0 (nK ["high", "wide"]) aNil (aCons (frz (xVar 3)) (aCons (frz (xVar 2)) aNil)))) (aCons (frz (xTup (aCons (frz (xVar 2)) (aCons (frz (xVar 3)) aNil)))) aNil)))) aNil))))))
noncomputable def law_made_2 : M Fl :=
    (sAsg 1 (xOp addD (xBor 1) (xLst (aCons (frz (xTup (aCons (frz (xExv "Earlier" ["day"] g_xv_Earlier_0_day 0 (nK ["day"]) aNil (aCons (frz (xVar 2)) aNil))) (aCons (frz (xTup (aCons (frz (xVar 2)) aNil))) aNil)))) (aCons (frz (xTup (aCons (frz (xExv "Told" ["deed"] (fun ds _ => ds) 1 (nK []) (aCons (frz (xVar 2)) aNil) aNil)) (aCons (frz (xTup (aCons (frz (xVar 2)) aNil))) aNil)))) (aCons (frz (xTup (aCons (frz (xExv "NotTold" ["moment"] g_xv_NotTold_0_moment 0 (nK ["moment"]) aNil (aCons (frz (xVar 2)) aNil))) (aCons (frz (xTup (aCons (frz (xVar 2)) aNil))) aNil)))) (aCons (frz (xTup (aCons (frz (xExv "NoBoard" ["line", "why"] g_xv_NoBoard_1_why 1 (nK ["why"]) (aCons (frz (xVar 2)) aNil) (aCons (frz (xVar 3)) aNil))) (aCons (frz (xTup (aCons (frz (xVar 2)) (aCons (frz (xVar 3)) aNil)))) aNil)))) aNil)))))))
noncomputable def law_made_3 : M Fl :=
    (sAsg 1 (xOp addD (xBor 1) (xLst (aCons (frz (xTup (aCons (frz (xExv "NoCard" ["name"] g_xv_NoCard_0_name 0 (nK ["name"]) aNil (aCons (frz (xVar 2)) aNil))) (aCons (frz (xTup (aCons (frz (xVar 2)) aNil))) aNil)))) (aCons (frz (xTup (aCons (frz (xExv "WrongPhoto" ["number", "x", "y"] g_xv_WrongPhoto_1_y_x 1 (nK ["y", "x"]) (aCons (frz (xVar 2)) aNil) (aCons (frz (xVar 4)) (aCons (frz (xVar 3)) aNil)))) (aCons (frz (xTup (aCons (frz (xVar 2)) (aCons (frz (xVar 3)) (aCons (frz (xVar 4)) aNil))))) aNil)))) (aCons (frz (xTup (aCons (frz (xExv "Ring" ["names"] g_xv_Ring_0_names 0 (nK ["names"]) aNil (aCons (frz (xVar 2)) aNil))) (aCons (frz (xTup (aCons (frz (xVar 2)) aNil))) aNil)))) aNil))))))
noncomputable def law_made_4 : M Fl :=
    (sRet (xOp addD (xBor 1) (xLst (aCons (frz (xTup (aCons (frz (xExv "NoLine" ["line"] g_xv_NoLine_0_line 0 (nK ["line"]) aNil (aCons (frz (xVar 2)) aNil))) (aCons (frz (xTup (aCons (frz (xVar 2)) aNil))) aNil)))) (aCons (frz (xTup (aCons (frz (xExv1 "BadPhoto" (aCons (frz (xC (.str "no photograph"))) aNil))) (aCons (frz (xTup aNil)) aNil)))) aNil)))))
theorem law_made_eq : m_law_made = fnM 6
    (sSeq law_made_0 (sSeq law_made_1 (sSeq law_made_2 (sSeq law_made_3 law_made_4)))) := rfl
set_option maxHeartbeats 2000000 in
theorem made_w {mu : List O} {k n : Nat} {env : List (Option O)} {Q : O → S → Prop} {E : Exc → S → Prop} (h : PotAt mu k n) (hn : n ≤ 700000000)
    (hQ : ∀ p q u mu', Ty p → Ty q → Ty u → PotAt mu' k (n + 3) → Q (.lst (madeL p q u)) ⟨env, mu'⟩) : wv (runF m_law_made [.cel k] ⟨env, mu⟩) Q E := by
  refine w_run ?_
  have r3 : rng1 [.int 3] = some (rngL 0 3) := rfl
  have rl3 : (rngL 0 3).length ≤ 16777216 := by decide
  (refine fn_wv law_made_eq ?_; unfold law_made_0 law_made_1 law_made_2 law_made_3 law_made_4)
  ((walk_at "vc"); repeat ((refine w_rw (by first | (simp only [r3, rl3]; done) | (simp only [r3, rl3]; rfl)) ?_); (walk_at "vc")))
  unfold rngL
  refine w_lcI (enc := fun j : Nat => D.int ((0 : Int) + (j : Int))) (fun done _ ys mu2 => (∀ y ∈ ys, Ty y) ∧ ys.length = done.length ∧ PotAt mu2 k (n + done.length)) ⟨(fun y h => nomatch h), rfl, h⟩ (fun done x todo ys mu2 e3 hh => lcQ_of rfl ?_) fun ys mu2 hh => ?_
  · obtain ⟨hy, yl, pw⟩ := hh
    have dl : done.length < 3 := by
      have := congrArg List.length e3
      rw [List.length_append, List.length_cons, List.length_range] at this; omega
    refine w_ok (lcC_t ?_)
    unfold law_made_0L0
    walk_at "vc"
    refine thing_w pw (by omega) fun d mu3 hd p3 => ?_
    walk_at "vc"
    refine ⟨rfl, rfl, fun y h => ?_, by simp [yl], by rw [List.length_append, List.length_singleton]; exact p3⟩
    rcases List.mem_append.mp h with h | h
    · exact hy y h
    · rw [List.mem_singleton.mp h]; exact hd
  · obtain ⟨hy, yl, pw⟩ := hh
    rw [List.length_range] at yl pw
    match ys, yl, hy with
    | [p, q, u], _, hy =>
      have hp := hy p (by simp)
      have hq := hy q (by simp)
      have hu := hy u (by simp)
      have hq' := hQ p q u mu2 hp hq hu pw
      clear hQ hy
      have f0 : exvO "NoText" ["text"] (fun ds _ => ds) 1 (nK []) [p] [] = some (.fz (.xok "NoText" [("text", p)])) := sk_exvO ⟨⟨⟨rfl, rfl⟩, by simp⟩, rfl⟩
      have f1 : exvO "BadCard" ["field"] g_xv_BadCard_0_field 0 (nK ["field"]) [] [p] = some (.fz (.xok "BadCard" [("field", p)])) := sk_exvO ⟨⟨⟨rfl, rfl⟩, by simp⟩, rfl⟩
      have f2 : exvO "BadDeed" ["field"] (fun ds _ => ds) 1 (nK []) [p] [] = some (.fz (.xok "BadDeed" [("field", p)])) := sk_exvO ⟨⟨⟨rfl, rfl⟩, by simp⟩, rfl⟩
      have f3 : exvO "BadBoard" ["wide", "high"] g_xv_BadBoard_0_high_wide 0 (nK ["high", "wide"]) [] [q, p] = some (.fz (.xok "BadBoard" [("high", q), ("wide", p)])) := sk_exvO ⟨⟨⟨rfl, rfl⟩, by simp⟩, rfl⟩
      have f4 : exvO "Earlier" ["day"] g_xv_Earlier_0_day 0 (nK ["day"]) [] [p] = some (.fz (.xok "Earlier" [("day", p)])) := sk_exvO ⟨⟨⟨rfl, rfl⟩, by simp⟩, rfl⟩
      have f5 : exvO "Told" ["deed"] (fun ds _ => ds) 1 (nK []) [p] [] = some (.fz (.xok "Told" [("deed", p)])) := sk_exvO ⟨⟨⟨rfl, rfl⟩, by simp⟩, rfl⟩
      have f6 : exvO "NotTold" ["moment"] g_xv_NotTold_0_moment 0 (nK ["moment"]) [] [p] = some (.fz (.xok "NotTold" [("moment", p)])) := sk_exvO ⟨⟨⟨rfl, rfl⟩, by simp⟩, rfl⟩
      have f7 : exvO "NoBoard" ["line", "why"] g_xv_NoBoard_1_why 1 (nK ["why"]) [p] [q] = some (.fz (.xok "NoBoard" [("why", q), ("line", p)])) := sk_exvO ⟨⟨⟨rfl, rfl⟩, by simp⟩, rfl⟩
      have f8 : exvO "NoCard" ["name"] g_xv_NoCard_0_name 0 (nK ["name"]) [] [p] = some (.fz (.xok "NoCard" [("name", p)])) := sk_exvO ⟨⟨⟨rfl, rfl⟩, by simp⟩, rfl⟩
      have f9 : exvO "WrongPhoto" ["number", "x", "y"] g_xv_WrongPhoto_1_y_x 1 (nK ["y", "x"]) [p] [u, q] = some (.fz (.xok "WrongPhoto" [("y", u), ("x", q), ("number", p)])) := sk_exvO ⟨⟨⟨rfl, rfl⟩, by simp⟩, rfl⟩
      have f10 : exvO "Ring" ["names"] g_xv_Ring_0_names 0 (nK ["names"]) [] [p] = some (.fz (.xok "Ring" [("names", p)])) := sk_exvO ⟨⟨⟨rfl, rfl⟩, by simp⟩, rfl⟩
      have f11 : exvO "NoLine" ["line"] g_xv_NoLine_0_line 0 (nK ["line"]) [] [p] = some (.fz (.xok "NoLine" [("line", p)])) := sk_exvO ⟨⟨⟨rfl, rfl⟩, by simp⟩, rfl⟩
      have z3 : (3 : Nat) ≤ 16777216 := by decide
      have z4 : (4 : Nat) ≤ 16777216 := by decide
      have z2 : (2 : Nat) ≤ 16777216 := by decide
      have gs : gTL [gN 2, gN 3, gN 4] (.lst [p, q, u]) ⟨[some (.fz (.cel k)), none, none, none, none, none], mu2⟩ = some ⟨[some (.fz (.cel k)), none, some (.fz p), some (.fz q), some (.fz u), none], mu2⟩ := rfl
      have gs2 : gsN [gN 2, gN 3, gN 4] [p, q, u] ⟨[some (.fz (.cel k)), none, none, none, none, none], mu2⟩ = some ⟨[some (.fz (.cel k)), none, some (.fz p), some (.fz q), some (.fz u), none], mu2⟩ := rfl
      ((walk_at "vc"); repeat ((refine w_rw (by first | (simp only [gs, gs2, f0, f1, f2, f3, f4, f5, f6, f7, f8, f9, f10, f11, z3, z4, z2]; done) | (simp only [gs, gs2, f0, f1, f2, f3, f4, f5, f6, f7, f8, f9, f10, f11, z3, z4, z2]; rfl)) ?_); (walk_at "vc")))
      exact hq'
theorem cut_len (L : List D) : (cutD L none (some 4)).length ≤ 4 := by
  unfold cutD
  have e0 : HT.sIx L.length 0 none = 0 := rfl
  have e8 : HT.sIx L.length L.length (some 4) ≤ 4 := by
    simp [HT.sIx]
    omega
  rw [List.length_take, e0]
  omega
theorem begin_w {ns : List Int} {mu : List O} {j : Nat} {env : List (Option O)} {Q : O → S → Prop} {E : Exc → S → Prop} (hn : ns.length ≤ 63) (hj : j < 1000) (hQ : ∀ a b : Int, 0 ≤ a → 0 ≤ b → b < 2305843009213693952 → Q (.lst [.int a, .int b, .int 0]) ⟨env, mu⟩) : wv (runF m_law_begin [.lsk (ns.map .int), .int j] ⟨env, mu⟩) Q E := by
  obtain ⟨a, b, e, a0, b0, b1⟩ := begin_ok (ns := ns) (mu := mu) hn hj
  exact w_runE e (hQ a b a0 b0 b1)
theorem pot_new {mu : List O} {a b : Int} (a0 : 0 ≤ a) (b0 : 0 ≤ b) (b1 : b < 2305843009213693952) : PotAt (mu ++ [.lst [.int a, .int b, .int 0]]) mu.length 0 :=
  ⟨a, b, 0, getM_app mu _, a0, b0, b1, Int.le_refl _, Int.le_refl _⟩
theorem ne_bits : ∀ {i : Nat}, i < 13 → neD (.lst (bits i)) (.lst (bits i)) = some (.fz (.bl false))
  | 0, _ => rfl
  | 1, _ => rfl
  | 2, _ => rfl
  | 3, _ => rfl
  | 4, _ => rfl
  | 5, _ => rfl
  | 6, _ => rfl
  | 7, _ => rfl
  | 8, _ => rfl
  | 9, _ => rfl
  | 10, _ => rfl
  | 11, _ => rfl
  | 12, _ => rfl
  | n + 13, h => absurd h (by omega)
theorem ne_selfS (T : Str) : neD (.str T) (.str T) = some (.fz (.bl false)) := by
  show some (O.fz (.bl (!decide (T = T)))) = _
  rw [decide_eq_true rfl]; rfl
noncomputable def law_0I : M (List D) :=
    (mRng1 (aCons (frz (xOp addD (xC (.int 1)) (xUn lenD (xSl (xBor 0) (ret none) (mPart (xC (.int 4))))))) aNil))
noncomputable def law_0B0 : M Fl :=
    (sAsgC 2 (xCall m_law_begin (fun ds _ => ds) 2 (nK []) (aCons (frz (xVar 0)) (aCons (frz (xVar 1)) aNil)) aNil))
noncomputable def law_0B1I : M (List D) :=
    (mEnumA (aCons (frz (xCall m_law_made (fun ds _ => ds) 1 (nK []) (aCons (frz (xVar 2)) aNil) aNil)) aNil))
noncomputable def law_0B1B0T : M Bool :=
    (bOr (bNot (toB (xCn (isiXT IXT BXT) (aCons (frz (xVar 4)) (aCons (frz (xC (.fn "CardError"))) aNil))))) (bNot (toB (xCn (isiXT IXT BXT) (aCons (frz (xVar 4)) (aCons (ret (.ty "ValueError")) aNil))))))
noncomputable def law_0B1B0B0 : M Fl :=
    (sRet (xC (.bl false)))
noncomputable def law_0B1B0B : M Fl :=
    law_0B1B0B0
noncomputable def law_0B1B1TL0 : M D :=
    (frz (xOp eqD (xBor 6) (xRd 3)))
noncomputable def law_0B1B1T : M Bool :=
    (toB (xOp neD (xCall m_law_kinds (fun ds _ => ds) 1 (nK []) (aCons (frz (xVar 4)) aNil) aNil) (xLc [6] (mRng1 (aCons (frz (xC (.int 13))) aNil)) (gN 6) (ret true) law_0B1B1TL0)))
noncomputable def law_0B1B1B0 : M Fl :=
    (sRet (xC (.bl false)))
noncomputable def law_0B1B1B : M Fl :=
    law_0B1B1B0
noncomputable def law_0B1B2T : M Bool :=
    (toB (xOp neD (xUn reprD (xCall m_law_values (fun ds _ => ds) 2 (nK []) (aCons (frz (xVar 4)) (aCons (frz (xVar 3)) aNil)) aNil)) (xUn reprD (xRd 5))))
noncomputable def law_0B1B2B0 : M Fl :=
    (sRet (xC (.bl false)))
noncomputable def law_0B1B2B : M Fl :=
    law_0B1B2B0
noncomputable def law_0B1B : M Fl :=
    (sSeq (sIf law_0B1B0T law_0B1B0B sNil) (sSeq (sIf law_0B1B1T law_0B1B1B sNil) (sIf law_0B1B2T law_0B1B2B sNil)))
noncomputable def law_0B : M Fl :=
    (sSeq law_0B0 (sFor law_0B1I (gT [(gN 3), (gT [(gN 4), (gN 5)])]) law_0B1B))
noncomputable def law_1 : M Fl :=
    (sRet (xC (.bl true)))
theorem law_eq : m_law = fnM 7
    (sSeq (sFor law_0I (gN 1) law_0B) law_1) := rfl
theorem law_true' : ∀ ns : List Int, ns.length ≤ 63 → ∃ mu, m_law [.lsk (ns.map .int)] [] = .ok (.fz (.bl true)) ⟨[], mu⟩ := by
  intro ns hn
  have h : wv (m_law [.lsk (ns.map .int)] []) (fun o s => o = .fz (.bl true) ∧ s.env = []) noQ := by
    have sl : slD (.lsk (ns.map D.int)) none (some 4) = some (.lst (cutD (ns.map D.int) none (some 4))) := rfl
    have cl := cut_len (ns.map D.int)
    have hh := fun (mu : List O) (j : Nat) (env : List (Option O)) (Q : O → S → Prop) (E : Exc → S → Prop) => begin_w (ns := ns) (mu := mu) (j := j) (env := env) (Q := Q) (E := E) hn
    generalize ns.map D.int = L at *
    obtain ⟨C, hC⟩ : ∃ C, cutD L none (some 4) = C := ⟨_, rfl⟩
    rw [hC] at sl cl
    (refine fn_wv law_eq ?_; unfold law_1 law_0I)
    ((walk_at "vc"); repeat ((refine w_rw (by first | (simp only [sl]; done) | (simp only [sl]; rfl)) ?_); (walk_at "vc")))
    refine w_rng (fun _ st => ∃ (x1 x2 x3 x4 x5 : Option O) (mu : List O), st = ⟨[some (.fz (.lsk L)), x1, x2, x3, x4, x5, none], mu⟩ ∧ (x2 = none ∨ ∃ d, x2 = some (.fz d))) ⟨_, _, _, _, _, _, rfl, .inl rfl⟩ (fun t st ht h => ?_) (fun st h => ?_)
    · obtain ⟨x1, x2, x3, x4, x5, mu, rfl, hx⟩ := h
      refine ⟨_, rfl, ?_⟩
      rw [show (0 : Int) + (t : Int) = (t : Int) by omega]
      unfold law_0B law_0B0 law_0B1I
      generalize hR : (sFor law_0B1I (gT [gN 3, gT [gN 4, gN 5]]) law_0B1B) = R
      have bg : wv (runF m_law_begin [.lsk L, .int t] ⟨[some (.fz (.lsk L)), some (.fz (.int t)), x2, x3, x4, x5, none], mu⟩) (fun o s => ∃ a b : Int, o = .lst [.int a, .int b, .int 0] ∧ 0 ≤ a ∧ 0 ≤ b ∧ b < 2305843009213693952 ∧ s = ⟨[some (.fz (.lsk L)), some (.fz (.int t)), x2, x3, x4, x5, none], mu⟩) noQ :=
        hh _ _ _ _ _ (by omega) fun a b a0 b0 b1 => ⟨a, b, rfl, a0, b0, b1, rfl⟩
      walk_at "vc"
      refine hh _ _ _ _ _ (by omega) fun a b a0 b0 b1 => ?_
      have p0 := pot_new (mu := mu) a0 b0 b1
      rcases hx with rfl | ⟨d, rfl⟩
      all_goals
        walk_at "vc"
        refine made_w p0 (by omega) fun p q u mu1 hp hq hu p1 => ?_
        have rows := made_rows hp hq hu
        have en : enumA [.lst (madeL p q u)] = some (numD 0 (madeL p q u)) := rfl
        generalize madeL p q u = ML at *
        ((walk_at "vc"); repeat ((refine w_rw (by first | (simp only [en]; done) | (simp only [en]; rfl)) ?_); (walk_at "vc")))
        generalize numD 0 ML = DS at *
        refine w_forD (fun todo st => (∀ d ∈ todo, ∃ (i : Nat) (e : D) (vs : List D), d = .tup [.int (i : Int), .tup [e, .tup vs]] ∧ RowOk i e vs) ∧ ∃ (x3 x4 x5 : Option O), st = ⟨[some (.fz (.lsk L)), some (.fz (.int (t : Int))), some (.fz (.cel mu.length)), x3, x4, x5, none], mu1⟩) ⟨rows, _, _, _, rfl⟩ (fun d todo st h => ?_) (fun st h => ?_)
        · obtain ⟨hr, y3, y4, y5, rfl⟩ := h
          obtain ⟨i, e, vs, rfl, ro⟩ := hr d List.mem_cons_self
          refine ⟨_, rfl, ?_⟩
          have hr' := fun d hd => hr d (List.mem_cons_of_mem _ hd)
          clear hr rows en
          obtain ⟨i13, hk, hv, c1, c2, T, hT⟩ := ro
          have ek := fun env => run_ok (env := env) (hk mu1)
          have ev := fun env => run_ok (env := env) (hv mu1)
          have nb := ne_bits i13
          have ns := ne_selfS T
          have r13 : rng1 [.int 13] = some (rngL 0 13) := rfl
          have rl13 : (rngL 0 13).length ≤ 16777216 := by decide
          unfold law_0B1B law_0B1B0B law_0B1B0T law_0B1B1B law_0B1B1T law_0B1B2B law_0B1B2T law_0B1B0B0 law_0B1B1B0 law_0B1B2B0
          ((walk_at "vc"); repeat ((refine w_rw (by first | (simp only [c1, c2, ek, r13, rl13]; done) | (simp only [c1, c2, ek, r13, rl13]; rfl)) ?_); (walk_at "vc")))
          refine w_lcr (fun k => D.bl (decide (k = i))) (fun k hk => ⟨_, rfl, ?_⟩) ?_
          · unfold law_0B1B1TL0
            walk_at "vc"
            exact ⟨rfl, rfl, congrArg D.bl (decide_eq_decide.mpr ⟨fun z => by omega, fun z => by omega⟩), rfl⟩
          · have nb : neD (.lst (bits i)) (.lst ((List.range (Int.toNat 13)).map fun k => D.bl (decide (k = i)))) = some (.fz (.bl false)) := nb
            generalize (List.range (Int.toNat 13)).map (fun k => D.bl (decide (k = i))) = BS at *
            generalize bits i = BI at *
            ((walk_at "vc"); repeat ((refine w_rw (by first | (simp only [nb, ev, hT, ns]; done) | (simp only [nb, ev, hT, ns]; rfl)) ?_); (walk_at "vc")))
            exact ⟨hr', _, _, _, rfl⟩
        · obtain ⟨_, y3, y4, y5, rfl⟩ := h
          exact ⟨_, _, _, _, _, _, rfl, .inr ⟨_, rfl⟩⟩
    · obtain ⟨x1, x2, x3, x4, x5, mu, rfl, hx⟩ := h
      walk_at "vc"
      exact ⟨rfl, rfl⟩
  obtain ⟨o, s, e, rfl, hs⟩ := w_ex h
  obtain ⟨env, mu⟩ := s
  cases hs
  exact ⟨mu, e⟩
end F06
namespace F06
open PySem PyProof.Rows L2 L2.Pc L2.Tr
section
theorem law_true : ∀ ns : List Int, ns.length ≤ 63 → ∃ mu, m_law [.lsk (ns.map .int)] [] = .ok (.fz (.bl true)) ⟨[], mu⟩ := law_true'
end
theorem all_mk {l : PySem.W.OpenLaw} {w : World} {K : PySem.W.Frag} {h : Heap} {mg : Str → Option Value} {fa : Addr} (X : K.In h) (G0 : h.Ns mainGlobals mg) (hfa : mg "law" = some (.ref fa))
    {f_law_begin : Addr}
    {f_law_draw : Addr}
    {f_law_thing : Addr}
    {f_law_made : Addr}
    {f_law_kinds : Addr}
    {f_law_values : Addr}
    {f_law : Addr}
    {c_CardError : Addr}
    {c_BadPhoto : Addr}
    {c_NoText : Addr}
    {i_NoText : Addr} {xN_NoText : Addr} {xn_NoText xq_NoText : Str} {xb_NoText xm_NoText : List Value} {xs_NoText : List Str} {xu_NoText : List Value} {xa_NoText : Bool} {xc_NoText : Option Bool} {xd_NoText : Option Addr} {x0_NoText x1_NoText x2_NoText x3_NoText x5_NoText : Option Value}
    {od_NoText_init an_NoText_init : Option Addr} {sl_NoText_init : Array (Option Value)} {oc_NoText_init kV_NoText_init dc_NoText_init pm_NoText_init cd_NoText_init ct_NoText_init : Value}
    {c_BadCard : Addr}
    {i_BadCard : Addr} {xN_BadCard : Addr} {xn_BadCard xq_BadCard : Str} {xb_BadCard xm_BadCard : List Value} {xs_BadCard : List Str} {xu_BadCard : List Value} {xa_BadCard : Bool} {xc_BadCard : Option Bool} {xd_BadCard : Option Addr} {x0_BadCard x1_BadCard x2_BadCard x3_BadCard x5_BadCard : Option Value}
    {od_BadCard_init an_BadCard_init : Option Addr} {sl_BadCard_init : Array (Option Value)} {oc_BadCard_init kV_BadCard_init dc_BadCard_init pm_BadCard_init cd_BadCard_init ct_BadCard_init : Value}
    {c_BadDeed : Addr}
    {i_BadDeed : Addr} {xN_BadDeed : Addr} {xn_BadDeed xq_BadDeed : Str} {xb_BadDeed xm_BadDeed : List Value} {xs_BadDeed : List Str} {xu_BadDeed : List Value} {xa_BadDeed : Bool} {xc_BadDeed : Option Bool} {xd_BadDeed : Option Addr} {x0_BadDeed x1_BadDeed x2_BadDeed x3_BadDeed x5_BadDeed : Option Value}
    {od_BadDeed_init an_BadDeed_init : Option Addr} {sl_BadDeed_init : Array (Option Value)} {oc_BadDeed_init kV_BadDeed_init dc_BadDeed_init pm_BadDeed_init cd_BadDeed_init ct_BadDeed_init : Value}
    {c_BadBoard : Addr}
    {i_BadBoard : Addr} {xN_BadBoard : Addr} {xn_BadBoard xq_BadBoard : Str} {xb_BadBoard xm_BadBoard : List Value} {xs_BadBoard : List Str} {xu_BadBoard : List Value} {xa_BadBoard : Bool} {xc_BadBoard : Option Bool} {xd_BadBoard : Option Addr} {x0_BadBoard x1_BadBoard x2_BadBoard x3_BadBoard x5_BadBoard : Option Value}
    {od_BadBoard_init an_BadBoard_init : Option Addr} {sl_BadBoard_init : Array (Option Value)} {oc_BadBoard_init kV_BadBoard_init dc_BadBoard_init pm_BadBoard_init cd_BadBoard_init ct_BadBoard_init : Value}
    {c_Earlier : Addr}
    {i_Earlier : Addr} {xN_Earlier : Addr} {xn_Earlier xq_Earlier : Str} {xb_Earlier xm_Earlier : List Value} {xs_Earlier : List Str} {xu_Earlier : List Value} {xa_Earlier : Bool} {xc_Earlier : Option Bool} {xd_Earlier : Option Addr} {x0_Earlier x1_Earlier x2_Earlier x3_Earlier x5_Earlier : Option Value}
    {od_Earlier_init an_Earlier_init : Option Addr} {sl_Earlier_init : Array (Option Value)} {oc_Earlier_init kV_Earlier_init dc_Earlier_init pm_Earlier_init cd_Earlier_init ct_Earlier_init : Value}
    {c_Told : Addr}
    {i_Told : Addr} {xN_Told : Addr} {xn_Told xq_Told : Str} {xb_Told xm_Told : List Value} {xs_Told : List Str} {xu_Told : List Value} {xa_Told : Bool} {xc_Told : Option Bool} {xd_Told : Option Addr} {x0_Told x1_Told x2_Told x3_Told x5_Told : Option Value}
    {od_Told_init an_Told_init : Option Addr} {sl_Told_init : Array (Option Value)} {oc_Told_init kV_Told_init dc_Told_init pm_Told_init cd_Told_init ct_Told_init : Value}
    {c_NotTold : Addr}
    {i_NotTold : Addr} {xN_NotTold : Addr} {xn_NotTold xq_NotTold : Str} {xb_NotTold xm_NotTold : List Value} {xs_NotTold : List Str} {xu_NotTold : List Value} {xa_NotTold : Bool} {xc_NotTold : Option Bool} {xd_NotTold : Option Addr} {x0_NotTold x1_NotTold x2_NotTold x3_NotTold x5_NotTold : Option Value}
    {od_NotTold_init an_NotTold_init : Option Addr} {sl_NotTold_init : Array (Option Value)} {oc_NotTold_init kV_NotTold_init dc_NotTold_init pm_NotTold_init cd_NotTold_init ct_NotTold_init : Value}
    {c_NoBoard : Addr}
    {i_NoBoard : Addr} {xN_NoBoard : Addr} {xn_NoBoard xq_NoBoard : Str} {xb_NoBoard xm_NoBoard : List Value} {xs_NoBoard : List Str} {xu_NoBoard : List Value} {xa_NoBoard : Bool} {xc_NoBoard : Option Bool} {xd_NoBoard : Option Addr} {x0_NoBoard x1_NoBoard x2_NoBoard x3_NoBoard x5_NoBoard : Option Value}
    {od_NoBoard_init an_NoBoard_init : Option Addr} {sl_NoBoard_init : Array (Option Value)} {oc_NoBoard_init kV_NoBoard_init dc_NoBoard_init pm_NoBoard_init cd_NoBoard_init ct_NoBoard_init : Value}
    {c_NoCard : Addr}
    {i_NoCard : Addr} {xN_NoCard : Addr} {xn_NoCard xq_NoCard : Str} {xb_NoCard xm_NoCard : List Value} {xs_NoCard : List Str} {xu_NoCard : List Value} {xa_NoCard : Bool} {xc_NoCard : Option Bool} {xd_NoCard : Option Addr} {x0_NoCard x1_NoCard x2_NoCard x3_NoCard x5_NoCard : Option Value}
    {od_NoCard_init an_NoCard_init : Option Addr} {sl_NoCard_init : Array (Option Value)} {oc_NoCard_init kV_NoCard_init dc_NoCard_init pm_NoCard_init cd_NoCard_init ct_NoCard_init : Value}
    {c_WrongPhoto : Addr}
    {i_WrongPhoto : Addr} {xN_WrongPhoto : Addr} {xn_WrongPhoto xq_WrongPhoto : Str} {xb_WrongPhoto xm_WrongPhoto : List Value} {xs_WrongPhoto : List Str} {xu_WrongPhoto : List Value} {xa_WrongPhoto : Bool} {xc_WrongPhoto : Option Bool} {xd_WrongPhoto : Option Addr} {x0_WrongPhoto x1_WrongPhoto x2_WrongPhoto x3_WrongPhoto x5_WrongPhoto : Option Value}
    {od_WrongPhoto_init an_WrongPhoto_init : Option Addr} {sl_WrongPhoto_init : Array (Option Value)} {oc_WrongPhoto_init kV_WrongPhoto_init dc_WrongPhoto_init pm_WrongPhoto_init cd_WrongPhoto_init ct_WrongPhoto_init : Value}
    {c_Ring : Addr}
    {i_Ring : Addr} {xN_Ring : Addr} {xn_Ring xq_Ring : Str} {xb_Ring xm_Ring : List Value} {xs_Ring : List Str} {xu_Ring : List Value} {xa_Ring : Bool} {xc_Ring : Option Bool} {xd_Ring : Option Addr} {x0_Ring x1_Ring x2_Ring x3_Ring x5_Ring : Option Value}
    {od_Ring_init an_Ring_init : Option Addr} {sl_Ring_init : Array (Option Value)} {oc_Ring_init kV_Ring_init dc_Ring_init pm_Ring_init cd_Ring_init ct_Ring_init : Value}
    {c_NoLine : Addr}
    {i_NoLine : Addr} {xN_NoLine : Addr} {xn_NoLine xq_NoLine : Str} {xb_NoLine xm_NoLine : List Value} {xs_NoLine : List Str} {xu_NoLine : List Value} {xa_NoLine : Bool} {xc_NoLine : Option Bool} {xd_NoLine : Option Addr} {x0_NoLine x1_NoLine x2_NoLine x3_NoLine x5_NoLine : Option Value}
    {od_NoLine_init an_NoLine_init : Option Addr} {sl_NoLine_init : Array (Option Value)} {oc_NoLine_init kV_NoLine_init dc_NoLine_init pm_NoLine_init cd_NoLine_init ct_NoLine_init : Value}
    {od_law_begin an_law_begin : Option Addr} {sl_law_begin : Array (Option Value)} {oc_law_begin kV_law_begin dc_law_begin pm_law_begin cd_law_begin ct_law_begin : Value}
    {od_law_draw an_law_draw : Option Addr} {sl_law_draw : Array (Option Value)} {oc_law_draw kV_law_draw dc_law_draw pm_law_draw cd_law_draw ct_law_draw : Value}
    {od_law_thing an_law_thing : Option Addr} {sl_law_thing : Array (Option Value)} {oc_law_thing kV_law_thing dc_law_thing pm_law_thing cd_law_thing ct_law_thing : Value}
    {od_law_made an_law_made : Option Addr} {sl_law_made : Array (Option Value)} {oc_law_made kV_law_made dc_law_made pm_law_made cd_law_made ct_law_made : Value}
    {od_law_kinds an_law_kinds : Option Addr} {sl_law_kinds : Array (Option Value)} {oc_law_kinds kV_law_kinds dc_law_kinds pm_law_kinds cd_law_kinds ct_law_kinds : Value}
    {od_law_values an_law_values : Option Addr} {sl_law_values : Array (Option Value)} {oc_law_values kV_law_values dc_law_values pm_law_values cd_law_values ct_law_values : Value}
    {od_law an_law : Option Addr} {sl_law : Array (Option Value)} {oc_law kV_law dc_law pm_law cd_law ct_law : Value}
    (a_CardError : PySem.W.nsIn K mainGlobals "CardError" = some (some (.ref c_CardError)))
    (ty_CardError : PySem.W.typeIn K (.ref c_CardError) = some (.type "type"))
    (ex_CardError : PySem.W.subIn K (.ref c_CardError) (.type "BaseException") = some true)
    (is_CardError : PySem.W.isClsIn K c_CardError = true)
    (sp_CardError : PySem.W.specialIn K (.ref c_CardError) "__getattribute__" = some (some (.builtin "type.__getattribute__")))
    (rd_CardError : PySem.W.readsIn K c_CardError (.type "type") = true)
    (fi_CardError : PySem.W.findCls K (.ref c_CardError) (.type "type") "__init__" = some (.val (.builtin "ValueError.__init__")))
    (a_BadPhoto : PySem.W.nsIn K mainGlobals "BadPhoto" = some (some (.ref c_BadPhoto)))
    (ty_BadPhoto : PySem.W.typeIn K (.ref c_BadPhoto) = some (.type "type"))
    (ex_BadPhoto : PySem.W.subIn K (.ref c_BadPhoto) (.type "BaseException") = some true)
    (is_BadPhoto : PySem.W.isClsIn K c_BadPhoto = true)
    (xw_BadPhoto : PySem.W.excIn K c_BadPhoto [.type "ValueError", .type "Exception", .type "BaseException", .type "object"] "ValueError.__new__" = true)
    (kp_BadPhoto : PySem.W.keepIn K (.ref c_BadPhoto) = true)
    (ga_BadPhoto : PySem.W.findIn K (.ref c_BadPhoto) "__getattribute__" = some (some (.builtin "BaseException.__getattribute__")))
    (gg_BadPhoto : PySem.W.findIn K (.ref c_BadPhoto) "__getattr__" = some none)
    (sp_BadPhoto : PySem.W.specialIn K (.ref c_BadPhoto) "__getattribute__" = some (some (.builtin "type.__getattribute__")))
    (rd_BadPhoto : PySem.W.readsIn K c_BadPhoto (.type "type") = true)
    (fi_BadPhoto : PySem.W.findCls K (.ref c_BadPhoto) (.type "type") "__init__" = some (.val (.builtin "ValueError.__init__")))
    (a_NoText : PySem.W.nsIn K mainGlobals "NoText" = some (some (.ref c_NoText)))
    (ty_NoText : PySem.W.typeIn K (.ref c_NoText) = some (.type "type"))
    (ex_NoText : PySem.W.subIn K (.ref c_NoText) (.type "BaseException") = some true)
    (is_NoText : PySem.W.isClsIn K c_NoText = true)
    (xl_NoText : K.lookup c_NoText = some (excClassObj xn_NoText xq_NoText c_NoText xN_NoText xb_NoText xm_NoText true xs_NoText xu_NoText xa_NoText xc_NoText xd_NoText x0_NoText x1_NoText x2_NoText x3_NoText x5_NoText "ValueError.__new__"))
    (xr_NoText : PySem.HandSPX.refsVE xm_NoText = true)
    (sa_NoText : PySem.W.findIn K (.ref c_NoText) "__setattr__" = some (some (.builtin "object.__setattr__")))
    (kp_NoText : PySem.W.keepIn K (.ref c_NoText) = true)
    (ga_NoText : PySem.W.findIn K (.ref c_NoText) "__getattribute__" = some (some (.builtin "BaseException.__getattribute__")))
    (gg_NoText : PySem.W.findIn K (.ref c_NoText) "__getattr__" = some none)
    (hd_NoText : PySem.W.hasDictIn K c_NoText = true)
    (ii_NoText : PySem.W.findIn K (.ref c_NoText) "__init__" = some (some (.ref i_NoText)))
    (it_NoText : PySem.W.typeIn K (.ref i_NoText) = some (.type "function"))
    (ss_NoText : PySem.W.subIn K (.ref c_NoText) (.ref c_NoText) = some true)
    (no_text_NoText : PySem.W.findIn K (.ref c_NoText) "text" = some none)
    (l_NoText_init : K.lookup i_NoText = some ⟨oc_NoText_init, od_NoText_init, .func (PySem.W.fnOf "__init__" "NoText.__init__" (defArgs s_NoText_init) (defBody s_NoText_init) (defScope s_NoText_init) .none kV_NoText_init dc_NoText_init pm_NoText_init an_NoText_init cd_NoText_init ct_NoText_init), sl_NoText_init⟩)
    (c_NoText_init : PySem.W.codeIn K cd_NoText_init "NoText.__init__" = true)
    (a_BadCard : PySem.W.nsIn K mainGlobals "BadCard" = some (some (.ref c_BadCard)))
    (ty_BadCard : PySem.W.typeIn K (.ref c_BadCard) = some (.type "type"))
    (ex_BadCard : PySem.W.subIn K (.ref c_BadCard) (.type "BaseException") = some true)
    (is_BadCard : PySem.W.isClsIn K c_BadCard = true)
    (xl_BadCard : K.lookup c_BadCard = some (excClassObj xn_BadCard xq_BadCard c_BadCard xN_BadCard xb_BadCard xm_BadCard true xs_BadCard xu_BadCard xa_BadCard xc_BadCard xd_BadCard x0_BadCard x1_BadCard x2_BadCard x3_BadCard x5_BadCard "ValueError.__new__"))
    (xr_BadCard : PySem.HandSPX.refsVE xm_BadCard = true)
    (sa_BadCard : PySem.W.findIn K (.ref c_BadCard) "__setattr__" = some (some (.builtin "object.__setattr__")))
    (kp_BadCard : PySem.W.keepIn K (.ref c_BadCard) = true)
    (ga_BadCard : PySem.W.findIn K (.ref c_BadCard) "__getattribute__" = some (some (.builtin "BaseException.__getattribute__")))
    (gg_BadCard : PySem.W.findIn K (.ref c_BadCard) "__getattr__" = some none)
    (hd_BadCard : PySem.W.hasDictIn K c_BadCard = true)
    (ii_BadCard : PySem.W.findIn K (.ref c_BadCard) "__init__" = some (some (.ref i_BadCard)))
    (it_BadCard : PySem.W.typeIn K (.ref i_BadCard) = some (.type "function"))
    (ss_BadCard : PySem.W.subIn K (.ref c_BadCard) (.ref c_BadCard) = some true)
    (no_field_BadCard : PySem.W.findIn K (.ref c_BadCard) "field" = some none)
    (l_BadCard_init : K.lookup i_BadCard = some ⟨oc_BadCard_init, od_BadCard_init, .func (PySem.W.fnOf "__init__" "BadCard.__init__" (defArgs s_BadCard_init) (defBody s_BadCard_init) (defScope s_BadCard_init) .none kV_BadCard_init dc_BadCard_init pm_BadCard_init an_BadCard_init cd_BadCard_init ct_BadCard_init), sl_BadCard_init⟩)
    (c_BadCard_init : PySem.W.codeIn K cd_BadCard_init "BadCard.__init__" = true)
    (a_BadDeed : PySem.W.nsIn K mainGlobals "BadDeed" = some (some (.ref c_BadDeed)))
    (ty_BadDeed : PySem.W.typeIn K (.ref c_BadDeed) = some (.type "type"))
    (ex_BadDeed : PySem.W.subIn K (.ref c_BadDeed) (.type "BaseException") = some true)
    (is_BadDeed : PySem.W.isClsIn K c_BadDeed = true)
    (xl_BadDeed : K.lookup c_BadDeed = some (excClassObj xn_BadDeed xq_BadDeed c_BadDeed xN_BadDeed xb_BadDeed xm_BadDeed true xs_BadDeed xu_BadDeed xa_BadDeed xc_BadDeed xd_BadDeed x0_BadDeed x1_BadDeed x2_BadDeed x3_BadDeed x5_BadDeed "ValueError.__new__"))
    (xr_BadDeed : PySem.HandSPX.refsVE xm_BadDeed = true)
    (sa_BadDeed : PySem.W.findIn K (.ref c_BadDeed) "__setattr__" = some (some (.builtin "object.__setattr__")))
    (kp_BadDeed : PySem.W.keepIn K (.ref c_BadDeed) = true)
    (ga_BadDeed : PySem.W.findIn K (.ref c_BadDeed) "__getattribute__" = some (some (.builtin "BaseException.__getattribute__")))
    (gg_BadDeed : PySem.W.findIn K (.ref c_BadDeed) "__getattr__" = some none)
    (hd_BadDeed : PySem.W.hasDictIn K c_BadDeed = true)
    (ii_BadDeed : PySem.W.findIn K (.ref c_BadDeed) "__init__" = some (some (.ref i_BadDeed)))
    (it_BadDeed : PySem.W.typeIn K (.ref i_BadDeed) = some (.type "function"))
    (ss_BadDeed : PySem.W.subIn K (.ref c_BadDeed) (.ref c_BadDeed) = some true)
    (no_field_BadDeed : PySem.W.findIn K (.ref c_BadDeed) "field" = some none)
    (l_BadDeed_init : K.lookup i_BadDeed = some ⟨oc_BadDeed_init, od_BadDeed_init, .func (PySem.W.fnOf "__init__" "BadDeed.__init__" (defArgs s_BadDeed_init) (defBody s_BadDeed_init) (defScope s_BadDeed_init) .none kV_BadDeed_init dc_BadDeed_init pm_BadDeed_init an_BadDeed_init cd_BadDeed_init ct_BadDeed_init), sl_BadDeed_init⟩)
    (c_BadDeed_init : PySem.W.codeIn K cd_BadDeed_init "BadDeed.__init__" = true)
    (a_BadBoard : PySem.W.nsIn K mainGlobals "BadBoard" = some (some (.ref c_BadBoard)))
    (ty_BadBoard : PySem.W.typeIn K (.ref c_BadBoard) = some (.type "type"))
    (ex_BadBoard : PySem.W.subIn K (.ref c_BadBoard) (.type "BaseException") = some true)
    (is_BadBoard : PySem.W.isClsIn K c_BadBoard = true)
    (xl_BadBoard : K.lookup c_BadBoard = some (excClassObj xn_BadBoard xq_BadBoard c_BadBoard xN_BadBoard xb_BadBoard xm_BadBoard true xs_BadBoard xu_BadBoard xa_BadBoard xc_BadBoard xd_BadBoard x0_BadBoard x1_BadBoard x2_BadBoard x3_BadBoard x5_BadBoard "ValueError.__new__"))
    (xr_BadBoard : PySem.HandSPX.refsVE xm_BadBoard = true)
    (sa_BadBoard : PySem.W.findIn K (.ref c_BadBoard) "__setattr__" = some (some (.builtin "object.__setattr__")))
    (kp_BadBoard : PySem.W.keepIn K (.ref c_BadBoard) = true)
    (ga_BadBoard : PySem.W.findIn K (.ref c_BadBoard) "__getattribute__" = some (some (.builtin "BaseException.__getattribute__")))
    (gg_BadBoard : PySem.W.findIn K (.ref c_BadBoard) "__getattr__" = some none)
    (hd_BadBoard : PySem.W.hasDictIn K c_BadBoard = true)
    (ii_BadBoard : PySem.W.findIn K (.ref c_BadBoard) "__init__" = some (some (.ref i_BadBoard)))
    (it_BadBoard : PySem.W.typeIn K (.ref i_BadBoard) = some (.type "function"))
    (ss_BadBoard : PySem.W.subIn K (.ref c_BadBoard) (.ref c_BadBoard) = some true)
    (no_wide_BadBoard : PySem.W.findIn K (.ref c_BadBoard) "wide" = some none)
    (no_high_BadBoard : PySem.W.findIn K (.ref c_BadBoard) "high" = some none)
    (l_BadBoard_init : K.lookup i_BadBoard = some ⟨oc_BadBoard_init, od_BadBoard_init, .func (PySem.W.fnOf "__init__" "BadBoard.__init__" (defArgs s_BadBoard_init) (defBody s_BadBoard_init) (defScope s_BadBoard_init) .none kV_BadBoard_init dc_BadBoard_init pm_BadBoard_init an_BadBoard_init cd_BadBoard_init ct_BadBoard_init), sl_BadBoard_init⟩)
    (c_BadBoard_init : PySem.W.codeIn K cd_BadBoard_init "BadBoard.__init__" = true)
    (a_Earlier : PySem.W.nsIn K mainGlobals "Earlier" = some (some (.ref c_Earlier)))
    (ty_Earlier : PySem.W.typeIn K (.ref c_Earlier) = some (.type "type"))
    (ex_Earlier : PySem.W.subIn K (.ref c_Earlier) (.type "BaseException") = some true)
    (is_Earlier : PySem.W.isClsIn K c_Earlier = true)
    (xl_Earlier : K.lookup c_Earlier = some (excClassObj xn_Earlier xq_Earlier c_Earlier xN_Earlier xb_Earlier xm_Earlier true xs_Earlier xu_Earlier xa_Earlier xc_Earlier xd_Earlier x0_Earlier x1_Earlier x2_Earlier x3_Earlier x5_Earlier "ValueError.__new__"))
    (xr_Earlier : PySem.HandSPX.refsVE xm_Earlier = true)
    (sa_Earlier : PySem.W.findIn K (.ref c_Earlier) "__setattr__" = some (some (.builtin "object.__setattr__")))
    (kp_Earlier : PySem.W.keepIn K (.ref c_Earlier) = true)
    (ga_Earlier : PySem.W.findIn K (.ref c_Earlier) "__getattribute__" = some (some (.builtin "BaseException.__getattribute__")))
    (gg_Earlier : PySem.W.findIn K (.ref c_Earlier) "__getattr__" = some none)
    (hd_Earlier : PySem.W.hasDictIn K c_Earlier = true)
    (ii_Earlier : PySem.W.findIn K (.ref c_Earlier) "__init__" = some (some (.ref i_Earlier)))
    (it_Earlier : PySem.W.typeIn K (.ref i_Earlier) = some (.type "function"))
    (ss_Earlier : PySem.W.subIn K (.ref c_Earlier) (.ref c_Earlier) = some true)
    (no_day_Earlier : PySem.W.findIn K (.ref c_Earlier) "day" = some none)
    (l_Earlier_init : K.lookup i_Earlier = some ⟨oc_Earlier_init, od_Earlier_init, .func (PySem.W.fnOf "__init__" "Earlier.__init__" (defArgs s_Earlier_init) (defBody s_Earlier_init) (defScope s_Earlier_init) .none kV_Earlier_init dc_Earlier_init pm_Earlier_init an_Earlier_init cd_Earlier_init ct_Earlier_init), sl_Earlier_init⟩)
    (c_Earlier_init : PySem.W.codeIn K cd_Earlier_init "Earlier.__init__" = true)
    (a_Told : PySem.W.nsIn K mainGlobals "Told" = some (some (.ref c_Told)))
    (ty_Told : PySem.W.typeIn K (.ref c_Told) = some (.type "type"))
    (ex_Told : PySem.W.subIn K (.ref c_Told) (.type "BaseException") = some true)
    (is_Told : PySem.W.isClsIn K c_Told = true)
    (xl_Told : K.lookup c_Told = some (excClassObj xn_Told xq_Told c_Told xN_Told xb_Told xm_Told true xs_Told xu_Told xa_Told xc_Told xd_Told x0_Told x1_Told x2_Told x3_Told x5_Told "ValueError.__new__"))
    (xr_Told : PySem.HandSPX.refsVE xm_Told = true)
    (sa_Told : PySem.W.findIn K (.ref c_Told) "__setattr__" = some (some (.builtin "object.__setattr__")))
    (kp_Told : PySem.W.keepIn K (.ref c_Told) = true)
    (ga_Told : PySem.W.findIn K (.ref c_Told) "__getattribute__" = some (some (.builtin "BaseException.__getattribute__")))
    (gg_Told : PySem.W.findIn K (.ref c_Told) "__getattr__" = some none)
    (hd_Told : PySem.W.hasDictIn K c_Told = true)
    (ii_Told : PySem.W.findIn K (.ref c_Told) "__init__" = some (some (.ref i_Told)))
    (it_Told : PySem.W.typeIn K (.ref i_Told) = some (.type "function"))
    (ss_Told : PySem.W.subIn K (.ref c_Told) (.ref c_Told) = some true)
    (no_deed_Told : PySem.W.findIn K (.ref c_Told) "deed" = some none)
    (l_Told_init : K.lookup i_Told = some ⟨oc_Told_init, od_Told_init, .func (PySem.W.fnOf "__init__" "Told.__init__" (defArgs s_Told_init) (defBody s_Told_init) (defScope s_Told_init) .none kV_Told_init dc_Told_init pm_Told_init an_Told_init cd_Told_init ct_Told_init), sl_Told_init⟩)
    (c_Told_init : PySem.W.codeIn K cd_Told_init "Told.__init__" = true)
    (a_NotTold : PySem.W.nsIn K mainGlobals "NotTold" = some (some (.ref c_NotTold)))
    (ty_NotTold : PySem.W.typeIn K (.ref c_NotTold) = some (.type "type"))
    (ex_NotTold : PySem.W.subIn K (.ref c_NotTold) (.type "BaseException") = some true)
    (is_NotTold : PySem.W.isClsIn K c_NotTold = true)
    (xl_NotTold : K.lookup c_NotTold = some (excClassObj xn_NotTold xq_NotTold c_NotTold xN_NotTold xb_NotTold xm_NotTold true xs_NotTold xu_NotTold xa_NotTold xc_NotTold xd_NotTold x0_NotTold x1_NotTold x2_NotTold x3_NotTold x5_NotTold "ValueError.__new__"))
    (xr_NotTold : PySem.HandSPX.refsVE xm_NotTold = true)
    (sa_NotTold : PySem.W.findIn K (.ref c_NotTold) "__setattr__" = some (some (.builtin "object.__setattr__")))
    (kp_NotTold : PySem.W.keepIn K (.ref c_NotTold) = true)
    (ga_NotTold : PySem.W.findIn K (.ref c_NotTold) "__getattribute__" = some (some (.builtin "BaseException.__getattribute__")))
    (gg_NotTold : PySem.W.findIn K (.ref c_NotTold) "__getattr__" = some none)
    (hd_NotTold : PySem.W.hasDictIn K c_NotTold = true)
    (ii_NotTold : PySem.W.findIn K (.ref c_NotTold) "__init__" = some (some (.ref i_NotTold)))
    (it_NotTold : PySem.W.typeIn K (.ref i_NotTold) = some (.type "function"))
    (ss_NotTold : PySem.W.subIn K (.ref c_NotTold) (.ref c_NotTold) = some true)
    (no_moment_NotTold : PySem.W.findIn K (.ref c_NotTold) "moment" = some none)
    (l_NotTold_init : K.lookup i_NotTold = some ⟨oc_NotTold_init, od_NotTold_init, .func (PySem.W.fnOf "__init__" "NotTold.__init__" (defArgs s_NotTold_init) (defBody s_NotTold_init) (defScope s_NotTold_init) .none kV_NotTold_init dc_NotTold_init pm_NotTold_init an_NotTold_init cd_NotTold_init ct_NotTold_init), sl_NotTold_init⟩)
    (c_NotTold_init : PySem.W.codeIn K cd_NotTold_init "NotTold.__init__" = true)
    (a_NoBoard : PySem.W.nsIn K mainGlobals "NoBoard" = some (some (.ref c_NoBoard)))
    (ty_NoBoard : PySem.W.typeIn K (.ref c_NoBoard) = some (.type "type"))
    (ex_NoBoard : PySem.W.subIn K (.ref c_NoBoard) (.type "BaseException") = some true)
    (is_NoBoard : PySem.W.isClsIn K c_NoBoard = true)
    (xl_NoBoard : K.lookup c_NoBoard = some (excClassObj xn_NoBoard xq_NoBoard c_NoBoard xN_NoBoard xb_NoBoard xm_NoBoard true xs_NoBoard xu_NoBoard xa_NoBoard xc_NoBoard xd_NoBoard x0_NoBoard x1_NoBoard x2_NoBoard x3_NoBoard x5_NoBoard "ValueError.__new__"))
    (xr_NoBoard : PySem.HandSPX.refsVE xm_NoBoard = true)
    (sa_NoBoard : PySem.W.findIn K (.ref c_NoBoard) "__setattr__" = some (some (.builtin "object.__setattr__")))
    (kp_NoBoard : PySem.W.keepIn K (.ref c_NoBoard) = true)
    (ga_NoBoard : PySem.W.findIn K (.ref c_NoBoard) "__getattribute__" = some (some (.builtin "BaseException.__getattribute__")))
    (gg_NoBoard : PySem.W.findIn K (.ref c_NoBoard) "__getattr__" = some none)
    (hd_NoBoard : PySem.W.hasDictIn K c_NoBoard = true)
    (ii_NoBoard : PySem.W.findIn K (.ref c_NoBoard) "__init__" = some (some (.ref i_NoBoard)))
    (it_NoBoard : PySem.W.typeIn K (.ref i_NoBoard) = some (.type "function"))
    (ss_NoBoard : PySem.W.subIn K (.ref c_NoBoard) (.ref c_NoBoard) = some true)
    (no_line_NoBoard : PySem.W.findIn K (.ref c_NoBoard) "line" = some none)
    (no_why_NoBoard : PySem.W.findIn K (.ref c_NoBoard) "why" = some none)
    (l_NoBoard_init : K.lookup i_NoBoard = some ⟨oc_NoBoard_init, od_NoBoard_init, .func (PySem.W.fnOf "__init__" "NoBoard.__init__" (defArgs s_NoBoard_init) (defBody s_NoBoard_init) (defScope s_NoBoard_init) .none kV_NoBoard_init dc_NoBoard_init pm_NoBoard_init an_NoBoard_init cd_NoBoard_init ct_NoBoard_init), sl_NoBoard_init⟩)
    (c_NoBoard_init : PySem.W.codeIn K cd_NoBoard_init "NoBoard.__init__" = true)
    (a_NoCard : PySem.W.nsIn K mainGlobals "NoCard" = some (some (.ref c_NoCard)))
    (ty_NoCard : PySem.W.typeIn K (.ref c_NoCard) = some (.type "type"))
    (ex_NoCard : PySem.W.subIn K (.ref c_NoCard) (.type "BaseException") = some true)
    (is_NoCard : PySem.W.isClsIn K c_NoCard = true)
    (xl_NoCard : K.lookup c_NoCard = some (excClassObj xn_NoCard xq_NoCard c_NoCard xN_NoCard xb_NoCard xm_NoCard true xs_NoCard xu_NoCard xa_NoCard xc_NoCard xd_NoCard x0_NoCard x1_NoCard x2_NoCard x3_NoCard x5_NoCard "ValueError.__new__"))
    (xr_NoCard : PySem.HandSPX.refsVE xm_NoCard = true)
    (sa_NoCard : PySem.W.findIn K (.ref c_NoCard) "__setattr__" = some (some (.builtin "object.__setattr__")))
    (kp_NoCard : PySem.W.keepIn K (.ref c_NoCard) = true)
    (ga_NoCard : PySem.W.findIn K (.ref c_NoCard) "__getattribute__" = some (some (.builtin "BaseException.__getattribute__")))
    (gg_NoCard : PySem.W.findIn K (.ref c_NoCard) "__getattr__" = some none)
    (hd_NoCard : PySem.W.hasDictIn K c_NoCard = true)
    (ii_NoCard : PySem.W.findIn K (.ref c_NoCard) "__init__" = some (some (.ref i_NoCard)))
    (it_NoCard : PySem.W.typeIn K (.ref i_NoCard) = some (.type "function"))
    (ss_NoCard : PySem.W.subIn K (.ref c_NoCard) (.ref c_NoCard) = some true)
    (no_name_NoCard : PySem.W.findIn K (.ref c_NoCard) "name" = some none)
    (l_NoCard_init : K.lookup i_NoCard = some ⟨oc_NoCard_init, od_NoCard_init, .func (PySem.W.fnOf "__init__" "NoCard.__init__" (defArgs s_NoCard_init) (defBody s_NoCard_init) (defScope s_NoCard_init) .none kV_NoCard_init dc_NoCard_init pm_NoCard_init an_NoCard_init cd_NoCard_init ct_NoCard_init), sl_NoCard_init⟩)
    (c_NoCard_init : PySem.W.codeIn K cd_NoCard_init "NoCard.__init__" = true)
    (a_WrongPhoto : PySem.W.nsIn K mainGlobals "WrongPhoto" = some (some (.ref c_WrongPhoto)))
    (ty_WrongPhoto : PySem.W.typeIn K (.ref c_WrongPhoto) = some (.type "type"))
    (ex_WrongPhoto : PySem.W.subIn K (.ref c_WrongPhoto) (.type "BaseException") = some true)
    (is_WrongPhoto : PySem.W.isClsIn K c_WrongPhoto = true)
    (xl_WrongPhoto : K.lookup c_WrongPhoto = some (excClassObj xn_WrongPhoto xq_WrongPhoto c_WrongPhoto xN_WrongPhoto xb_WrongPhoto xm_WrongPhoto true xs_WrongPhoto xu_WrongPhoto xa_WrongPhoto xc_WrongPhoto xd_WrongPhoto x0_WrongPhoto x1_WrongPhoto x2_WrongPhoto x3_WrongPhoto x5_WrongPhoto "ValueError.__new__"))
    (xr_WrongPhoto : PySem.HandSPX.refsVE xm_WrongPhoto = true)
    (sa_WrongPhoto : PySem.W.findIn K (.ref c_WrongPhoto) "__setattr__" = some (some (.builtin "object.__setattr__")))
    (kp_WrongPhoto : PySem.W.keepIn K (.ref c_WrongPhoto) = true)
    (ga_WrongPhoto : PySem.W.findIn K (.ref c_WrongPhoto) "__getattribute__" = some (some (.builtin "BaseException.__getattribute__")))
    (gg_WrongPhoto : PySem.W.findIn K (.ref c_WrongPhoto) "__getattr__" = some none)
    (hd_WrongPhoto : PySem.W.hasDictIn K c_WrongPhoto = true)
    (ii_WrongPhoto : PySem.W.findIn K (.ref c_WrongPhoto) "__init__" = some (some (.ref i_WrongPhoto)))
    (it_WrongPhoto : PySem.W.typeIn K (.ref i_WrongPhoto) = some (.type "function"))
    (ss_WrongPhoto : PySem.W.subIn K (.ref c_WrongPhoto) (.ref c_WrongPhoto) = some true)
    (no_number_WrongPhoto : PySem.W.findIn K (.ref c_WrongPhoto) "number" = some none)
    (no_x_WrongPhoto : PySem.W.findIn K (.ref c_WrongPhoto) "x" = some none)
    (no_y_WrongPhoto : PySem.W.findIn K (.ref c_WrongPhoto) "y" = some none)
    (l_WrongPhoto_init : K.lookup i_WrongPhoto = some ⟨oc_WrongPhoto_init, od_WrongPhoto_init, .func (PySem.W.fnOf "__init__" "WrongPhoto.__init__" (defArgs s_WrongPhoto_init) (defBody s_WrongPhoto_init) (defScope s_WrongPhoto_init) .none kV_WrongPhoto_init dc_WrongPhoto_init pm_WrongPhoto_init an_WrongPhoto_init cd_WrongPhoto_init ct_WrongPhoto_init), sl_WrongPhoto_init⟩)
    (c_WrongPhoto_init : PySem.W.codeIn K cd_WrongPhoto_init "WrongPhoto.__init__" = true)
    (a_Ring : PySem.W.nsIn K mainGlobals "Ring" = some (some (.ref c_Ring)))
    (ty_Ring : PySem.W.typeIn K (.ref c_Ring) = some (.type "type"))
    (ex_Ring : PySem.W.subIn K (.ref c_Ring) (.type "BaseException") = some true)
    (is_Ring : PySem.W.isClsIn K c_Ring = true)
    (xl_Ring : K.lookup c_Ring = some (excClassObj xn_Ring xq_Ring c_Ring xN_Ring xb_Ring xm_Ring true xs_Ring xu_Ring xa_Ring xc_Ring xd_Ring x0_Ring x1_Ring x2_Ring x3_Ring x5_Ring "ValueError.__new__"))
    (xr_Ring : PySem.HandSPX.refsVE xm_Ring = true)
    (sa_Ring : PySem.W.findIn K (.ref c_Ring) "__setattr__" = some (some (.builtin "object.__setattr__")))
    (kp_Ring : PySem.W.keepIn K (.ref c_Ring) = true)
    (ga_Ring : PySem.W.findIn K (.ref c_Ring) "__getattribute__" = some (some (.builtin "BaseException.__getattribute__")))
    (gg_Ring : PySem.W.findIn K (.ref c_Ring) "__getattr__" = some none)
    (hd_Ring : PySem.W.hasDictIn K c_Ring = true)
    (ii_Ring : PySem.W.findIn K (.ref c_Ring) "__init__" = some (some (.ref i_Ring)))
    (it_Ring : PySem.W.typeIn K (.ref i_Ring) = some (.type "function"))
    (ss_Ring : PySem.W.subIn K (.ref c_Ring) (.ref c_Ring) = some true)
    (no_names_Ring : PySem.W.findIn K (.ref c_Ring) "names" = some none)
    (l_Ring_init : K.lookup i_Ring = some ⟨oc_Ring_init, od_Ring_init, .func (PySem.W.fnOf "__init__" "Ring.__init__" (defArgs s_Ring_init) (defBody s_Ring_init) (defScope s_Ring_init) .none kV_Ring_init dc_Ring_init pm_Ring_init an_Ring_init cd_Ring_init ct_Ring_init), sl_Ring_init⟩)
    (c_Ring_init : PySem.W.codeIn K cd_Ring_init "Ring.__init__" = true)
    (a_NoLine : PySem.W.nsIn K mainGlobals "NoLine" = some (some (.ref c_NoLine)))
    (ty_NoLine : PySem.W.typeIn K (.ref c_NoLine) = some (.type "type"))
    (ex_NoLine : PySem.W.subIn K (.ref c_NoLine) (.type "BaseException") = some true)
    (is_NoLine : PySem.W.isClsIn K c_NoLine = true)
    (xl_NoLine : K.lookup c_NoLine = some (excClassObj xn_NoLine xq_NoLine c_NoLine xN_NoLine xb_NoLine xm_NoLine true xs_NoLine xu_NoLine xa_NoLine xc_NoLine xd_NoLine x0_NoLine x1_NoLine x2_NoLine x3_NoLine x5_NoLine "ValueError.__new__"))
    (xr_NoLine : PySem.HandSPX.refsVE xm_NoLine = true)
    (sa_NoLine : PySem.W.findIn K (.ref c_NoLine) "__setattr__" = some (some (.builtin "object.__setattr__")))
    (kp_NoLine : PySem.W.keepIn K (.ref c_NoLine) = true)
    (ga_NoLine : PySem.W.findIn K (.ref c_NoLine) "__getattribute__" = some (some (.builtin "BaseException.__getattribute__")))
    (gg_NoLine : PySem.W.findIn K (.ref c_NoLine) "__getattr__" = some none)
    (hd_NoLine : PySem.W.hasDictIn K c_NoLine = true)
    (ii_NoLine : PySem.W.findIn K (.ref c_NoLine) "__init__" = some (some (.ref i_NoLine)))
    (it_NoLine : PySem.W.typeIn K (.ref i_NoLine) = some (.type "function"))
    (ss_NoLine : PySem.W.subIn K (.ref c_NoLine) (.ref c_NoLine) = some true)
    (no_line_NoLine : PySem.W.findIn K (.ref c_NoLine) "line" = some none)
    (l_NoLine_init : K.lookup i_NoLine = some ⟨oc_NoLine_init, od_NoLine_init, .func (PySem.W.fnOf "__init__" "NoLine.__init__" (defArgs s_NoLine_init) (defBody s_NoLine_init) (defScope s_NoLine_init) .none kV_NoLine_init dc_NoLine_init pm_NoLine_init an_NoLine_init cd_NoLine_init ct_NoLine_init), sl_NoLine_init⟩)
    (c_NoLine_init : PySem.W.codeIn K cd_NoLine_init "NoLine.__init__" = true)
    (xg : PySem.W.specialIn K (.builtin "object.__class__") "__get__" = some (some (.builtin "getset_descriptor.__get__")))
    (xt : PySem.W.takesIn K (.builtin "object.__class__") = some true)
    (cl_BadBoard : PySem.W.findIn K (.ref c_BadBoard) "__class__" = some (some (.builtin "object.__class__")))
    (ob_BadBoard : PySem.W.mroIn K c_BadBoard (.type "object") = some true)
    (cl_BadCard : PySem.W.findIn K (.ref c_BadCard) "__class__" = some (some (.builtin "object.__class__")))
    (ob_BadCard : PySem.W.mroIn K c_BadCard (.type "object") = some true)
    (cl_BadDeed : PySem.W.findIn K (.ref c_BadDeed) "__class__" = some (some (.builtin "object.__class__")))
    (ob_BadDeed : PySem.W.mroIn K c_BadDeed (.type "object") = some true)
    (cl_BadPhoto : PySem.W.findIn K (.ref c_BadPhoto) "__class__" = some (some (.builtin "object.__class__")))
    (ob_BadPhoto : PySem.W.mroIn K c_BadPhoto (.type "object") = some true)
    (ss_BadPhoto : PySem.W.subIn K (.ref c_BadPhoto) (.ref c_BadPhoto) = some true)
    (cl_CardError : PySem.W.findIn K (.ref c_CardError) "__class__" = some (some (.builtin "object.__class__")))
    (ob_CardError : PySem.W.mroIn K c_CardError (.type "object") = some true)
    (ss_CardError : PySem.W.subIn K (.ref c_CardError) (.ref c_CardError) = some true)
    (cl_Earlier : PySem.W.findIn K (.ref c_Earlier) "__class__" = some (some (.builtin "object.__class__")))
    (ob_Earlier : PySem.W.mroIn K c_Earlier (.type "object") = some true)
    (cl_NoBoard : PySem.W.findIn K (.ref c_NoBoard) "__class__" = some (some (.builtin "object.__class__")))
    (ob_NoBoard : PySem.W.mroIn K c_NoBoard (.type "object") = some true)
    (cl_NoCard : PySem.W.findIn K (.ref c_NoCard) "__class__" = some (some (.builtin "object.__class__")))
    (ob_NoCard : PySem.W.mroIn K c_NoCard (.type "object") = some true)
    (cl_NoLine : PySem.W.findIn K (.ref c_NoLine) "__class__" = some (some (.builtin "object.__class__")))
    (ob_NoLine : PySem.W.mroIn K c_NoLine (.type "object") = some true)
    (cl_NoText : PySem.W.findIn K (.ref c_NoText) "__class__" = some (some (.builtin "object.__class__")))
    (ob_NoText : PySem.W.mroIn K c_NoText (.type "object") = some true)
    (cl_NotTold : PySem.W.findIn K (.ref c_NotTold) "__class__" = some (some (.builtin "object.__class__")))
    (ob_NotTold : PySem.W.mroIn K c_NotTold (.type "object") = some true)
    (cl_Ring : PySem.W.findIn K (.ref c_Ring) "__class__" = some (some (.builtin "object.__class__")))
    (ob_Ring : PySem.W.mroIn K c_Ring (.type "object") = some true)
    (cl_Told : PySem.W.findIn K (.ref c_Told) "__class__" = some (some (.builtin "object.__class__")))
    (ob_Told : PySem.W.mroIn K c_Told (.type "object") = some true)
    (cl_WrongPhoto : PySem.W.findIn K (.ref c_WrongPhoto) "__class__" = some (some (.builtin "object.__class__")))
    (ob_WrongPhoto : PySem.W.mroIn K c_WrongPhoto (.type "object") = some true)
    (su_NoText_BadBoard : PySem.W.subIn K (.ref c_NoText) (.ref c_BadBoard) = some false)
    (su_NoText_BadCard : PySem.W.subIn K (.ref c_NoText) (.ref c_BadCard) = some false)
    (su_NoText_BadDeed : PySem.W.subIn K (.ref c_NoText) (.ref c_BadDeed) = some false)
    (su_NoText_BadPhoto : PySem.W.subIn K (.ref c_NoText) (.ref c_BadPhoto) = some false)
    (su_NoText_CardError : PySem.W.subIn K (.ref c_NoText) (.ref c_CardError) = some true)
    (su_NoText_Earlier : PySem.W.subIn K (.ref c_NoText) (.ref c_Earlier) = some false)
    (su_NoText_NoBoard : PySem.W.subIn K (.ref c_NoText) (.ref c_NoBoard) = some false)
    (su_NoText_NoCard : PySem.W.subIn K (.ref c_NoText) (.ref c_NoCard) = some false)
    (su_NoText_NoLine : PySem.W.subIn K (.ref c_NoText) (.ref c_NoLine) = some false)
    (su_NoText_NotTold : PySem.W.subIn K (.ref c_NoText) (.ref c_NotTold) = some false)
    (su_NoText_Ring : PySem.W.subIn K (.ref c_NoText) (.ref c_Ring) = some false)
    (su_NoText_Told : PySem.W.subIn K (.ref c_NoText) (.ref c_Told) = some false)
    (su_NoText_WrongPhoto : PySem.W.subIn K (.ref c_NoText) (.ref c_WrongPhoto) = some false)
    (sb_NoText_ValueError : PySem.W.subIn K (.ref c_NoText) (.type "ValueError") = some true)
    (su_BadCard_BadBoard : PySem.W.subIn K (.ref c_BadCard) (.ref c_BadBoard) = some false)
    (su_BadCard_BadDeed : PySem.W.subIn K (.ref c_BadCard) (.ref c_BadDeed) = some false)
    (su_BadCard_BadPhoto : PySem.W.subIn K (.ref c_BadCard) (.ref c_BadPhoto) = some false)
    (su_BadCard_CardError : PySem.W.subIn K (.ref c_BadCard) (.ref c_CardError) = some true)
    (su_BadCard_Earlier : PySem.W.subIn K (.ref c_BadCard) (.ref c_Earlier) = some false)
    (su_BadCard_NoBoard : PySem.W.subIn K (.ref c_BadCard) (.ref c_NoBoard) = some false)
    (su_BadCard_NoCard : PySem.W.subIn K (.ref c_BadCard) (.ref c_NoCard) = some false)
    (su_BadCard_NoLine : PySem.W.subIn K (.ref c_BadCard) (.ref c_NoLine) = some false)
    (su_BadCard_NoText : PySem.W.subIn K (.ref c_BadCard) (.ref c_NoText) = some false)
    (su_BadCard_NotTold : PySem.W.subIn K (.ref c_BadCard) (.ref c_NotTold) = some false)
    (su_BadCard_Ring : PySem.W.subIn K (.ref c_BadCard) (.ref c_Ring) = some false)
    (su_BadCard_Told : PySem.W.subIn K (.ref c_BadCard) (.ref c_Told) = some false)
    (su_BadCard_WrongPhoto : PySem.W.subIn K (.ref c_BadCard) (.ref c_WrongPhoto) = some false)
    (sb_BadCard_ValueError : PySem.W.subIn K (.ref c_BadCard) (.type "ValueError") = some true)
    (su_BadDeed_BadBoard : PySem.W.subIn K (.ref c_BadDeed) (.ref c_BadBoard) = some false)
    (su_BadDeed_BadCard : PySem.W.subIn K (.ref c_BadDeed) (.ref c_BadCard) = some false)
    (su_BadDeed_BadPhoto : PySem.W.subIn K (.ref c_BadDeed) (.ref c_BadPhoto) = some false)
    (su_BadDeed_CardError : PySem.W.subIn K (.ref c_BadDeed) (.ref c_CardError) = some true)
    (su_BadDeed_Earlier : PySem.W.subIn K (.ref c_BadDeed) (.ref c_Earlier) = some false)
    (su_BadDeed_NoBoard : PySem.W.subIn K (.ref c_BadDeed) (.ref c_NoBoard) = some false)
    (su_BadDeed_NoCard : PySem.W.subIn K (.ref c_BadDeed) (.ref c_NoCard) = some false)
    (su_BadDeed_NoLine : PySem.W.subIn K (.ref c_BadDeed) (.ref c_NoLine) = some false)
    (su_BadDeed_NoText : PySem.W.subIn K (.ref c_BadDeed) (.ref c_NoText) = some false)
    (su_BadDeed_NotTold : PySem.W.subIn K (.ref c_BadDeed) (.ref c_NotTold) = some false)
    (su_BadDeed_Ring : PySem.W.subIn K (.ref c_BadDeed) (.ref c_Ring) = some false)
    (su_BadDeed_Told : PySem.W.subIn K (.ref c_BadDeed) (.ref c_Told) = some false)
    (su_BadDeed_WrongPhoto : PySem.W.subIn K (.ref c_BadDeed) (.ref c_WrongPhoto) = some false)
    (sb_BadDeed_ValueError : PySem.W.subIn K (.ref c_BadDeed) (.type "ValueError") = some true)
    (su_BadBoard_BadCard : PySem.W.subIn K (.ref c_BadBoard) (.ref c_BadCard) = some false)
    (su_BadBoard_BadDeed : PySem.W.subIn K (.ref c_BadBoard) (.ref c_BadDeed) = some false)
    (su_BadBoard_BadPhoto : PySem.W.subIn K (.ref c_BadBoard) (.ref c_BadPhoto) = some false)
    (su_BadBoard_CardError : PySem.W.subIn K (.ref c_BadBoard) (.ref c_CardError) = some true)
    (su_BadBoard_Earlier : PySem.W.subIn K (.ref c_BadBoard) (.ref c_Earlier) = some false)
    (su_BadBoard_NoBoard : PySem.W.subIn K (.ref c_BadBoard) (.ref c_NoBoard) = some false)
    (su_BadBoard_NoCard : PySem.W.subIn K (.ref c_BadBoard) (.ref c_NoCard) = some false)
    (su_BadBoard_NoLine : PySem.W.subIn K (.ref c_BadBoard) (.ref c_NoLine) = some false)
    (su_BadBoard_NoText : PySem.W.subIn K (.ref c_BadBoard) (.ref c_NoText) = some false)
    (su_BadBoard_NotTold : PySem.W.subIn K (.ref c_BadBoard) (.ref c_NotTold) = some false)
    (su_BadBoard_Ring : PySem.W.subIn K (.ref c_BadBoard) (.ref c_Ring) = some false)
    (su_BadBoard_Told : PySem.W.subIn K (.ref c_BadBoard) (.ref c_Told) = some false)
    (su_BadBoard_WrongPhoto : PySem.W.subIn K (.ref c_BadBoard) (.ref c_WrongPhoto) = some false)
    (sb_BadBoard_ValueError : PySem.W.subIn K (.ref c_BadBoard) (.type "ValueError") = some true)
    (su_Earlier_BadBoard : PySem.W.subIn K (.ref c_Earlier) (.ref c_BadBoard) = some false)
    (su_Earlier_BadCard : PySem.W.subIn K (.ref c_Earlier) (.ref c_BadCard) = some false)
    (su_Earlier_BadDeed : PySem.W.subIn K (.ref c_Earlier) (.ref c_BadDeed) = some false)
    (su_Earlier_BadPhoto : PySem.W.subIn K (.ref c_Earlier) (.ref c_BadPhoto) = some false)
    (su_Earlier_CardError : PySem.W.subIn K (.ref c_Earlier) (.ref c_CardError) = some true)
    (su_Earlier_NoBoard : PySem.W.subIn K (.ref c_Earlier) (.ref c_NoBoard) = some false)
    (su_Earlier_NoCard : PySem.W.subIn K (.ref c_Earlier) (.ref c_NoCard) = some false)
    (su_Earlier_NoLine : PySem.W.subIn K (.ref c_Earlier) (.ref c_NoLine) = some false)
    (su_Earlier_NoText : PySem.W.subIn K (.ref c_Earlier) (.ref c_NoText) = some false)
    (su_Earlier_NotTold : PySem.W.subIn K (.ref c_Earlier) (.ref c_NotTold) = some false)
    (su_Earlier_Ring : PySem.W.subIn K (.ref c_Earlier) (.ref c_Ring) = some false)
    (su_Earlier_Told : PySem.W.subIn K (.ref c_Earlier) (.ref c_Told) = some false)
    (su_Earlier_WrongPhoto : PySem.W.subIn K (.ref c_Earlier) (.ref c_WrongPhoto) = some false)
    (sb_Earlier_ValueError : PySem.W.subIn K (.ref c_Earlier) (.type "ValueError") = some true)
    (su_Told_BadBoard : PySem.W.subIn K (.ref c_Told) (.ref c_BadBoard) = some false)
    (su_Told_BadCard : PySem.W.subIn K (.ref c_Told) (.ref c_BadCard) = some false)
    (su_Told_BadDeed : PySem.W.subIn K (.ref c_Told) (.ref c_BadDeed) = some false)
    (su_Told_BadPhoto : PySem.W.subIn K (.ref c_Told) (.ref c_BadPhoto) = some false)
    (su_Told_CardError : PySem.W.subIn K (.ref c_Told) (.ref c_CardError) = some true)
    (su_Told_Earlier : PySem.W.subIn K (.ref c_Told) (.ref c_Earlier) = some false)
    (su_Told_NoBoard : PySem.W.subIn K (.ref c_Told) (.ref c_NoBoard) = some false)
    (su_Told_NoCard : PySem.W.subIn K (.ref c_Told) (.ref c_NoCard) = some false)
    (su_Told_NoLine : PySem.W.subIn K (.ref c_Told) (.ref c_NoLine) = some false)
    (su_Told_NoText : PySem.W.subIn K (.ref c_Told) (.ref c_NoText) = some false)
    (su_Told_NotTold : PySem.W.subIn K (.ref c_Told) (.ref c_NotTold) = some false)
    (su_Told_Ring : PySem.W.subIn K (.ref c_Told) (.ref c_Ring) = some false)
    (su_Told_WrongPhoto : PySem.W.subIn K (.ref c_Told) (.ref c_WrongPhoto) = some false)
    (sb_Told_ValueError : PySem.W.subIn K (.ref c_Told) (.type "ValueError") = some true)
    (su_NotTold_BadBoard : PySem.W.subIn K (.ref c_NotTold) (.ref c_BadBoard) = some false)
    (su_NotTold_BadCard : PySem.W.subIn K (.ref c_NotTold) (.ref c_BadCard) = some false)
    (su_NotTold_BadDeed : PySem.W.subIn K (.ref c_NotTold) (.ref c_BadDeed) = some false)
    (su_NotTold_BadPhoto : PySem.W.subIn K (.ref c_NotTold) (.ref c_BadPhoto) = some false)
    (su_NotTold_CardError : PySem.W.subIn K (.ref c_NotTold) (.ref c_CardError) = some true)
    (su_NotTold_Earlier : PySem.W.subIn K (.ref c_NotTold) (.ref c_Earlier) = some false)
    (su_NotTold_NoBoard : PySem.W.subIn K (.ref c_NotTold) (.ref c_NoBoard) = some false)
    (su_NotTold_NoCard : PySem.W.subIn K (.ref c_NotTold) (.ref c_NoCard) = some false)
    (su_NotTold_NoLine : PySem.W.subIn K (.ref c_NotTold) (.ref c_NoLine) = some false)
    (su_NotTold_NoText : PySem.W.subIn K (.ref c_NotTold) (.ref c_NoText) = some false)
    (su_NotTold_Ring : PySem.W.subIn K (.ref c_NotTold) (.ref c_Ring) = some false)
    (su_NotTold_Told : PySem.W.subIn K (.ref c_NotTold) (.ref c_Told) = some false)
    (su_NotTold_WrongPhoto : PySem.W.subIn K (.ref c_NotTold) (.ref c_WrongPhoto) = some false)
    (sb_NotTold_ValueError : PySem.W.subIn K (.ref c_NotTold) (.type "ValueError") = some true)
    (su_NoBoard_BadBoard : PySem.W.subIn K (.ref c_NoBoard) (.ref c_BadBoard) = some false)
    (su_NoBoard_BadCard : PySem.W.subIn K (.ref c_NoBoard) (.ref c_BadCard) = some false)
    (su_NoBoard_BadDeed : PySem.W.subIn K (.ref c_NoBoard) (.ref c_BadDeed) = some false)
    (su_NoBoard_BadPhoto : PySem.W.subIn K (.ref c_NoBoard) (.ref c_BadPhoto) = some false)
    (su_NoBoard_CardError : PySem.W.subIn K (.ref c_NoBoard) (.ref c_CardError) = some true)
    (su_NoBoard_Earlier : PySem.W.subIn K (.ref c_NoBoard) (.ref c_Earlier) = some false)
    (su_NoBoard_NoCard : PySem.W.subIn K (.ref c_NoBoard) (.ref c_NoCard) = some false)
    (su_NoBoard_NoLine : PySem.W.subIn K (.ref c_NoBoard) (.ref c_NoLine) = some false)
    (su_NoBoard_NoText : PySem.W.subIn K (.ref c_NoBoard) (.ref c_NoText) = some false)
    (su_NoBoard_NotTold : PySem.W.subIn K (.ref c_NoBoard) (.ref c_NotTold) = some false)
    (su_NoBoard_Ring : PySem.W.subIn K (.ref c_NoBoard) (.ref c_Ring) = some false)
    (su_NoBoard_Told : PySem.W.subIn K (.ref c_NoBoard) (.ref c_Told) = some false)
    (su_NoBoard_WrongPhoto : PySem.W.subIn K (.ref c_NoBoard) (.ref c_WrongPhoto) = some false)
    (sb_NoBoard_ValueError : PySem.W.subIn K (.ref c_NoBoard) (.type "ValueError") = some true)
    (su_NoCard_BadBoard : PySem.W.subIn K (.ref c_NoCard) (.ref c_BadBoard) = some false)
    (su_NoCard_BadCard : PySem.W.subIn K (.ref c_NoCard) (.ref c_BadCard) = some false)
    (su_NoCard_BadDeed : PySem.W.subIn K (.ref c_NoCard) (.ref c_BadDeed) = some false)
    (su_NoCard_BadPhoto : PySem.W.subIn K (.ref c_NoCard) (.ref c_BadPhoto) = some false)
    (su_NoCard_CardError : PySem.W.subIn K (.ref c_NoCard) (.ref c_CardError) = some true)
    (su_NoCard_Earlier : PySem.W.subIn K (.ref c_NoCard) (.ref c_Earlier) = some false)
    (su_NoCard_NoBoard : PySem.W.subIn K (.ref c_NoCard) (.ref c_NoBoard) = some false)
    (su_NoCard_NoLine : PySem.W.subIn K (.ref c_NoCard) (.ref c_NoLine) = some false)
    (su_NoCard_NoText : PySem.W.subIn K (.ref c_NoCard) (.ref c_NoText) = some false)
    (su_NoCard_NotTold : PySem.W.subIn K (.ref c_NoCard) (.ref c_NotTold) = some false)
    (su_NoCard_Ring : PySem.W.subIn K (.ref c_NoCard) (.ref c_Ring) = some false)
    (su_NoCard_Told : PySem.W.subIn K (.ref c_NoCard) (.ref c_Told) = some false)
    (su_NoCard_WrongPhoto : PySem.W.subIn K (.ref c_NoCard) (.ref c_WrongPhoto) = some false)
    (sb_NoCard_ValueError : PySem.W.subIn K (.ref c_NoCard) (.type "ValueError") = some true)
    (su_WrongPhoto_BadBoard : PySem.W.subIn K (.ref c_WrongPhoto) (.ref c_BadBoard) = some false)
    (su_WrongPhoto_BadCard : PySem.W.subIn K (.ref c_WrongPhoto) (.ref c_BadCard) = some false)
    (su_WrongPhoto_BadDeed : PySem.W.subIn K (.ref c_WrongPhoto) (.ref c_BadDeed) = some false)
    (su_WrongPhoto_BadPhoto : PySem.W.subIn K (.ref c_WrongPhoto) (.ref c_BadPhoto) = some false)
    (su_WrongPhoto_CardError : PySem.W.subIn K (.ref c_WrongPhoto) (.ref c_CardError) = some true)
    (su_WrongPhoto_Earlier : PySem.W.subIn K (.ref c_WrongPhoto) (.ref c_Earlier) = some false)
    (su_WrongPhoto_NoBoard : PySem.W.subIn K (.ref c_WrongPhoto) (.ref c_NoBoard) = some false)
    (su_WrongPhoto_NoCard : PySem.W.subIn K (.ref c_WrongPhoto) (.ref c_NoCard) = some false)
    (su_WrongPhoto_NoLine : PySem.W.subIn K (.ref c_WrongPhoto) (.ref c_NoLine) = some false)
    (su_WrongPhoto_NoText : PySem.W.subIn K (.ref c_WrongPhoto) (.ref c_NoText) = some false)
    (su_WrongPhoto_NotTold : PySem.W.subIn K (.ref c_WrongPhoto) (.ref c_NotTold) = some false)
    (su_WrongPhoto_Ring : PySem.W.subIn K (.ref c_WrongPhoto) (.ref c_Ring) = some false)
    (su_WrongPhoto_Told : PySem.W.subIn K (.ref c_WrongPhoto) (.ref c_Told) = some false)
    (sb_WrongPhoto_ValueError : PySem.W.subIn K (.ref c_WrongPhoto) (.type "ValueError") = some true)
    (su_Ring_BadBoard : PySem.W.subIn K (.ref c_Ring) (.ref c_BadBoard) = some false)
    (su_Ring_BadCard : PySem.W.subIn K (.ref c_Ring) (.ref c_BadCard) = some false)
    (su_Ring_BadDeed : PySem.W.subIn K (.ref c_Ring) (.ref c_BadDeed) = some false)
    (su_Ring_BadPhoto : PySem.W.subIn K (.ref c_Ring) (.ref c_BadPhoto) = some false)
    (su_Ring_CardError : PySem.W.subIn K (.ref c_Ring) (.ref c_CardError) = some true)
    (su_Ring_Earlier : PySem.W.subIn K (.ref c_Ring) (.ref c_Earlier) = some false)
    (su_Ring_NoBoard : PySem.W.subIn K (.ref c_Ring) (.ref c_NoBoard) = some false)
    (su_Ring_NoCard : PySem.W.subIn K (.ref c_Ring) (.ref c_NoCard) = some false)
    (su_Ring_NoLine : PySem.W.subIn K (.ref c_Ring) (.ref c_NoLine) = some false)
    (su_Ring_NoText : PySem.W.subIn K (.ref c_Ring) (.ref c_NoText) = some false)
    (su_Ring_NotTold : PySem.W.subIn K (.ref c_Ring) (.ref c_NotTold) = some false)
    (su_Ring_Told : PySem.W.subIn K (.ref c_Ring) (.ref c_Told) = some false)
    (su_Ring_WrongPhoto : PySem.W.subIn K (.ref c_Ring) (.ref c_WrongPhoto) = some false)
    (sb_Ring_ValueError : PySem.W.subIn K (.ref c_Ring) (.type "ValueError") = some true)
    (su_NoLine_BadBoard : PySem.W.subIn K (.ref c_NoLine) (.ref c_BadBoard) = some false)
    (su_NoLine_BadCard : PySem.W.subIn K (.ref c_NoLine) (.ref c_BadCard) = some false)
    (su_NoLine_BadDeed : PySem.W.subIn K (.ref c_NoLine) (.ref c_BadDeed) = some false)
    (su_NoLine_BadPhoto : PySem.W.subIn K (.ref c_NoLine) (.ref c_BadPhoto) = some false)
    (su_NoLine_CardError : PySem.W.subIn K (.ref c_NoLine) (.ref c_CardError) = some true)
    (su_NoLine_Earlier : PySem.W.subIn K (.ref c_NoLine) (.ref c_Earlier) = some false)
    (su_NoLine_NoBoard : PySem.W.subIn K (.ref c_NoLine) (.ref c_NoBoard) = some false)
    (su_NoLine_NoCard : PySem.W.subIn K (.ref c_NoLine) (.ref c_NoCard) = some false)
    (su_NoLine_NoText : PySem.W.subIn K (.ref c_NoLine) (.ref c_NoText) = some false)
    (su_NoLine_NotTold : PySem.W.subIn K (.ref c_NoLine) (.ref c_NotTold) = some false)
    (su_NoLine_Ring : PySem.W.subIn K (.ref c_NoLine) (.ref c_Ring) = some false)
    (su_NoLine_Told : PySem.W.subIn K (.ref c_NoLine) (.ref c_Told) = some false)
    (su_NoLine_WrongPhoto : PySem.W.subIn K (.ref c_NoLine) (.ref c_WrongPhoto) = some false)
    (sb_NoLine_ValueError : PySem.W.subIn K (.ref c_NoLine) (.type "ValueError") = some true)
    (su_BadPhoto_BadBoard : PySem.W.subIn K (.ref c_BadPhoto) (.ref c_BadBoard) = some false)
    (su_BadPhoto_BadCard : PySem.W.subIn K (.ref c_BadPhoto) (.ref c_BadCard) = some false)
    (su_BadPhoto_BadDeed : PySem.W.subIn K (.ref c_BadPhoto) (.ref c_BadDeed) = some false)
    (su_BadPhoto_CardError : PySem.W.subIn K (.ref c_BadPhoto) (.ref c_CardError) = some true)
    (su_BadPhoto_Earlier : PySem.W.subIn K (.ref c_BadPhoto) (.ref c_Earlier) = some false)
    (su_BadPhoto_NoBoard : PySem.W.subIn K (.ref c_BadPhoto) (.ref c_NoBoard) = some false)
    (su_BadPhoto_NoCard : PySem.W.subIn K (.ref c_BadPhoto) (.ref c_NoCard) = some false)
    (su_BadPhoto_NoLine : PySem.W.subIn K (.ref c_BadPhoto) (.ref c_NoLine) = some false)
    (su_BadPhoto_NoText : PySem.W.subIn K (.ref c_BadPhoto) (.ref c_NoText) = some false)
    (su_BadPhoto_NotTold : PySem.W.subIn K (.ref c_BadPhoto) (.ref c_NotTold) = some false)
    (su_BadPhoto_Ring : PySem.W.subIn K (.ref c_BadPhoto) (.ref c_Ring) = some false)
    (su_BadPhoto_Told : PySem.W.subIn K (.ref c_BadPhoto) (.ref c_Told) = some false)
    (su_BadPhoto_WrongPhoto : PySem.W.subIn K (.ref c_BadPhoto) (.ref c_WrongPhoto) = some false)
    (sb_BadPhoto_ValueError : PySem.W.subIn K (.ref c_BadPhoto) (.type "ValueError") = some true)
    (a_law_begin : PySem.W.nsIn K mainGlobals "_law_begin" = some (some (.ref f_law_begin)))
    (l_law_begin : K.lookup f_law_begin = some ⟨oc_law_begin, od_law_begin, .func (PySem.W.fnOf "_law_begin" "_law_begin" (defArgs s_law_begin) (defBody s_law_begin) (defScope s_law_begin) .none kV_law_begin dc_law_begin pm_law_begin an_law_begin cd_law_begin ct_law_begin), sl_law_begin⟩)
    (c_law_begin : PySem.W.codeIn K cd_law_begin "_law_begin" = true)
    (k_law_begin : PySem.W.keepIn K (.ref f_law_begin) = true)
    (a_law_draw : PySem.W.nsIn K mainGlobals "_law_draw" = some (some (.ref f_law_draw)))
    (l_law_draw : K.lookup f_law_draw = some ⟨oc_law_draw, od_law_draw, .func (PySem.W.fnOf "_law_draw" "_law_draw" (defArgs s_law_draw) (defBody s_law_draw) (defScope s_law_draw) .none kV_law_draw dc_law_draw pm_law_draw an_law_draw cd_law_draw ct_law_draw), sl_law_draw⟩)
    (c_law_draw : PySem.W.codeIn K cd_law_draw "_law_draw" = true)
    (k_law_draw : PySem.W.keepIn K (.ref f_law_draw) = true)
    (a_law_thing : PySem.W.nsIn K mainGlobals "_law_thing" = some (some (.ref f_law_thing)))
    (l_law_thing : K.lookup f_law_thing = some ⟨oc_law_thing, od_law_thing, .func (PySem.W.fnOf "_law_thing" "_law_thing" (defArgs s_law_thing) (defBody s_law_thing) (defScope s_law_thing) .none kV_law_thing dc_law_thing pm_law_thing an_law_thing cd_law_thing ct_law_thing), sl_law_thing⟩)
    (c_law_thing : PySem.W.codeIn K cd_law_thing "_law_thing" = true)
    (k_law_thing : PySem.W.keepIn K (.ref f_law_thing) = true)
    (a_law_made : PySem.W.nsIn K mainGlobals "_law_made" = some (some (.ref f_law_made)))
    (l_law_made : K.lookup f_law_made = some ⟨oc_law_made, od_law_made, .func (PySem.W.fnOf "_law_made" "_law_made" (defArgs s_law_made) (defBody s_law_made) (defScope s_law_made) .none kV_law_made dc_law_made pm_law_made an_law_made cd_law_made ct_law_made), sl_law_made⟩)
    (c_law_made : PySem.W.codeIn K cd_law_made "_law_made" = true)
    (k_law_made : PySem.W.keepIn K (.ref f_law_made) = true)
    (a_law_kinds : PySem.W.nsIn K mainGlobals "_law_kinds" = some (some (.ref f_law_kinds)))
    (l_law_kinds : K.lookup f_law_kinds = some ⟨oc_law_kinds, od_law_kinds, .func (PySem.W.fnOf "_law_kinds" "_law_kinds" (defArgs s_law_kinds) (defBody s_law_kinds) (defScope s_law_kinds) .none kV_law_kinds dc_law_kinds pm_law_kinds an_law_kinds cd_law_kinds ct_law_kinds), sl_law_kinds⟩)
    (c_law_kinds : PySem.W.codeIn K cd_law_kinds "_law_kinds" = true)
    (k_law_kinds : PySem.W.keepIn K (.ref f_law_kinds) = true)
    (a_law_values : PySem.W.nsIn K mainGlobals "_law_values" = some (some (.ref f_law_values)))
    (l_law_values : K.lookup f_law_values = some ⟨oc_law_values, od_law_values, .func (PySem.W.fnOf "_law_values" "_law_values" (defArgs s_law_values) (defBody s_law_values) (defScope s_law_values) .none kV_law_values dc_law_values pm_law_values an_law_values cd_law_values ct_law_values), sl_law_values⟩)
    (c_law_values : PySem.W.codeIn K cd_law_values "_law_values" = true)
    (k_law_values : PySem.W.keepIn K (.ref f_law_values) = true)
    (a_law : PySem.W.nsIn K mainGlobals "law" = some (some (.ref f_law)))
    (l_law : K.lookup f_law = some ⟨oc_law, od_law, .func (PySem.W.fnOf "law" "law" (defArgs s_law) (defBody s_law) (defScope s_law) .none kV_law dc_law pm_law an_law cd_law ct_law), sl_law⟩)
    (c_law : PySem.W.codeIn K cd_law "law" = true)
    (k_law : PySem.W.keepIn K (.ref f_law) = true)
    (b_ValueError : PySem.W.nsIn K mainGlobals "ValueError" = some none)
    (b_abs : PySem.W.nsIn K mainGlobals "abs" = some none)
    (b_enumerate : PySem.W.nsIn K mainGlobals "enumerate" = some none)
    (b_int : PySem.W.nsIn K mainGlobals "int" = some none)
    (b_isinstance : PySem.W.nsIn K mainGlobals "isinstance" = some none)
    (b_len : PySem.W.nsIn K mainGlobals "len" = some none)
    (b_range : PySem.W.nsIn K mainGlobals "range" = some none)
    (b_repr : PySem.W.nsIn K mainGlobals "repr" = some none) :
    ∃ fd : FuncData, (∀ (s : Shared) (u : Value), BindsTo s fd ⟨[u], []⟩ [("_law_script", u)]) ∧ ∀ base : Heap, K.In base → base.Ns mainGlobals mg → Sm base → FnT l.prog w ⟨K, mg, none⟩ base true 4 fa fd ["_law_script"] m_law := by
  have e := hfa.symm.trans (PySem.W.mg_of X G0 a_law)
  cases e
  have BB_CardError : XbK K mg "CardError" c_CardError := ⟨PySem.W.mg_of X G0 a_CardError, sp_CardError, ty_CardError, rd_CardError, fi_CardError⟩
  have BB_BadPhoto : XbK K mg "BadPhoto" c_BadPhoto := ⟨PySem.W.mg_of X G0 a_BadPhoto, sp_BadPhoto, ty_BadPhoto, rd_BadPhoto, fi_BadPhoto⟩
  have XX_NoText : XcK K mg "NoText" c_NoText i_NoText ["text"] := ⟨PySem.W.mg_of X G0 a_NoText, oexC_mk xl_NoText xr_NoText sa_NoText ex_NoText ty_NoText kp_NoText, ⟨ga_NoText, gg_NoText, ex_NoText, hd_NoText⟩, ii_NoText, it_NoText, (List.forall_mem_cons.mpr ⟨no_text_NoText, nofun⟩), exm_of ex_NoText is_NoText ty_NoText ss_NoText⟩
  have FX_NoText := df_mk (st := s_NoText_init) l_NoText_init c_NoText_init
  have XX_BadCard : XcK K mg "BadCard" c_BadCard i_BadCard ["field"] := ⟨PySem.W.mg_of X G0 a_BadCard, oexC_mk xl_BadCard xr_BadCard sa_BadCard ex_BadCard ty_BadCard kp_BadCard, ⟨ga_BadCard, gg_BadCard, ex_BadCard, hd_BadCard⟩, ii_BadCard, it_BadCard, (List.forall_mem_cons.mpr ⟨no_field_BadCard, nofun⟩), exm_of ex_BadCard is_BadCard ty_BadCard ss_BadCard⟩
  have FX_BadCard := df_mk (st := s_BadCard_init) l_BadCard_init c_BadCard_init
  have XX_BadDeed : XcK K mg "BadDeed" c_BadDeed i_BadDeed ["field"] := ⟨PySem.W.mg_of X G0 a_BadDeed, oexC_mk xl_BadDeed xr_BadDeed sa_BadDeed ex_BadDeed ty_BadDeed kp_BadDeed, ⟨ga_BadDeed, gg_BadDeed, ex_BadDeed, hd_BadDeed⟩, ii_BadDeed, it_BadDeed, (List.forall_mem_cons.mpr ⟨no_field_BadDeed, nofun⟩), exm_of ex_BadDeed is_BadDeed ty_BadDeed ss_BadDeed⟩
  have FX_BadDeed := df_mk (st := s_BadDeed_init) l_BadDeed_init c_BadDeed_init
  have XX_BadBoard : XcK K mg "BadBoard" c_BadBoard i_BadBoard ["wide", "high"] := ⟨PySem.W.mg_of X G0 a_BadBoard, oexC_mk xl_BadBoard xr_BadBoard sa_BadBoard ex_BadBoard ty_BadBoard kp_BadBoard, ⟨ga_BadBoard, gg_BadBoard, ex_BadBoard, hd_BadBoard⟩, ii_BadBoard, it_BadBoard, (List.forall_mem_cons.mpr ⟨no_wide_BadBoard, List.forall_mem_cons.mpr ⟨no_high_BadBoard, nofun⟩⟩), exm_of ex_BadBoard is_BadBoard ty_BadBoard ss_BadBoard⟩
  have FX_BadBoard := df_mk (st := s_BadBoard_init) l_BadBoard_init c_BadBoard_init
  have XX_Earlier : XcK K mg "Earlier" c_Earlier i_Earlier ["day"] := ⟨PySem.W.mg_of X G0 a_Earlier, oexC_mk xl_Earlier xr_Earlier sa_Earlier ex_Earlier ty_Earlier kp_Earlier, ⟨ga_Earlier, gg_Earlier, ex_Earlier, hd_Earlier⟩, ii_Earlier, it_Earlier, (List.forall_mem_cons.mpr ⟨no_day_Earlier, nofun⟩), exm_of ex_Earlier is_Earlier ty_Earlier ss_Earlier⟩
  have FX_Earlier := df_mk (st := s_Earlier_init) l_Earlier_init c_Earlier_init
  have XX_Told : XcK K mg "Told" c_Told i_Told ["deed"] := ⟨PySem.W.mg_of X G0 a_Told, oexC_mk xl_Told xr_Told sa_Told ex_Told ty_Told kp_Told, ⟨ga_Told, gg_Told, ex_Told, hd_Told⟩, ii_Told, it_Told, (List.forall_mem_cons.mpr ⟨no_deed_Told, nofun⟩), exm_of ex_Told is_Told ty_Told ss_Told⟩
  have FX_Told := df_mk (st := s_Told_init) l_Told_init c_Told_init
  have XX_NotTold : XcK K mg "NotTold" c_NotTold i_NotTold ["moment"] := ⟨PySem.W.mg_of X G0 a_NotTold, oexC_mk xl_NotTold xr_NotTold sa_NotTold ex_NotTold ty_NotTold kp_NotTold, ⟨ga_NotTold, gg_NotTold, ex_NotTold, hd_NotTold⟩, ii_NotTold, it_NotTold, (List.forall_mem_cons.mpr ⟨no_moment_NotTold, nofun⟩), exm_of ex_NotTold is_NotTold ty_NotTold ss_NotTold⟩
  have FX_NotTold := df_mk (st := s_NotTold_init) l_NotTold_init c_NotTold_init
  have XX_NoBoard : XcK K mg "NoBoard" c_NoBoard i_NoBoard ["line", "why"] := ⟨PySem.W.mg_of X G0 a_NoBoard, oexC_mk xl_NoBoard xr_NoBoard sa_NoBoard ex_NoBoard ty_NoBoard kp_NoBoard, ⟨ga_NoBoard, gg_NoBoard, ex_NoBoard, hd_NoBoard⟩, ii_NoBoard, it_NoBoard, (List.forall_mem_cons.mpr ⟨no_line_NoBoard, List.forall_mem_cons.mpr ⟨no_why_NoBoard, nofun⟩⟩), exm_of ex_NoBoard is_NoBoard ty_NoBoard ss_NoBoard⟩
  have FX_NoBoard := df_mk (st := s_NoBoard_init) l_NoBoard_init c_NoBoard_init
  have XX_NoCard : XcK K mg "NoCard" c_NoCard i_NoCard ["name"] := ⟨PySem.W.mg_of X G0 a_NoCard, oexC_mk xl_NoCard xr_NoCard sa_NoCard ex_NoCard ty_NoCard kp_NoCard, ⟨ga_NoCard, gg_NoCard, ex_NoCard, hd_NoCard⟩, ii_NoCard, it_NoCard, (List.forall_mem_cons.mpr ⟨no_name_NoCard, nofun⟩), exm_of ex_NoCard is_NoCard ty_NoCard ss_NoCard⟩
  have FX_NoCard := df_mk (st := s_NoCard_init) l_NoCard_init c_NoCard_init
  have XX_WrongPhoto : XcK K mg "WrongPhoto" c_WrongPhoto i_WrongPhoto ["number", "x", "y"] := ⟨PySem.W.mg_of X G0 a_WrongPhoto, oexC_mk xl_WrongPhoto xr_WrongPhoto sa_WrongPhoto ex_WrongPhoto ty_WrongPhoto kp_WrongPhoto, ⟨ga_WrongPhoto, gg_WrongPhoto, ex_WrongPhoto, hd_WrongPhoto⟩, ii_WrongPhoto, it_WrongPhoto, (List.forall_mem_cons.mpr ⟨no_number_WrongPhoto, List.forall_mem_cons.mpr ⟨no_x_WrongPhoto, List.forall_mem_cons.mpr ⟨no_y_WrongPhoto, nofun⟩⟩⟩), exm_of ex_WrongPhoto is_WrongPhoto ty_WrongPhoto ss_WrongPhoto⟩
  have FX_WrongPhoto := df_mk (st := s_WrongPhoto_init) l_WrongPhoto_init c_WrongPhoto_init
  have XX_Ring : XcK K mg "Ring" c_Ring i_Ring ["names"] := ⟨PySem.W.mg_of X G0 a_Ring, oexC_mk xl_Ring xr_Ring sa_Ring ex_Ring ty_Ring kp_Ring, ⟨ga_Ring, gg_Ring, ex_Ring, hd_Ring⟩, ii_Ring, it_Ring, (List.forall_mem_cons.mpr ⟨no_names_Ring, nofun⟩), exm_of ex_Ring is_Ring ty_Ring ss_Ring⟩
  have FX_Ring := df_mk (st := s_Ring_init) l_Ring_init c_Ring_init
  have XX_NoLine : XcK K mg "NoLine" c_NoLine i_NoLine ["line"] := ⟨PySem.W.mg_of X G0 a_NoLine, oexC_mk xl_NoLine xr_NoLine sa_NoLine ex_NoLine ty_NoLine kp_NoLine, ⟨ga_NoLine, gg_NoLine, ex_NoLine, hd_NoLine⟩, ii_NoLine, it_NoLine, (List.forall_mem_cons.mpr ⟨no_line_NoLine, nofun⟩), exm_of ex_NoLine is_NoLine ty_NoLine ss_NoLine⟩
  have FX_NoLine := df_mk (st := s_NoLine_init) l_NoLine_init c_NoLine_init
  have T : Tx ⟨K, mg, none⟩ w := ⟨rfl, kx_of (List.forall_mem_cons.mpr ⟨⟨c_NoText, PySem.W.mg_of X G0 a_NoText, ⟨ga_NoText, gg_NoText, ex_NoText, hd_NoText⟩, List.forall_mem_cons.mpr ⟨no_text_NoText, nofun⟩⟩, List.forall_mem_cons.mpr ⟨⟨c_BadCard, PySem.W.mg_of X G0 a_BadCard, ⟨ga_BadCard, gg_BadCard, ex_BadCard, hd_BadCard⟩, List.forall_mem_cons.mpr ⟨no_field_BadCard, nofun⟩⟩, List.forall_mem_cons.mpr ⟨⟨c_BadDeed, PySem.W.mg_of X G0 a_BadDeed, ⟨ga_BadDeed, gg_BadDeed, ex_BadDeed, hd_BadDeed⟩, List.forall_mem_cons.mpr ⟨no_field_BadDeed, nofun⟩⟩, List.forall_mem_cons.mpr ⟨⟨c_BadBoard, PySem.W.mg_of X G0 a_BadBoard, ⟨ga_BadBoard, gg_BadBoard, ex_BadBoard, hd_BadBoard⟩, List.forall_mem_cons.mpr ⟨no_wide_BadBoard, List.forall_mem_cons.mpr ⟨no_high_BadBoard, nofun⟩⟩⟩, List.forall_mem_cons.mpr ⟨⟨c_Earlier, PySem.W.mg_of X G0 a_Earlier, ⟨ga_Earlier, gg_Earlier, ex_Earlier, hd_Earlier⟩, List.forall_mem_cons.mpr ⟨no_day_Earlier, nofun⟩⟩, List.forall_mem_cons.mpr ⟨⟨c_Told, PySem.W.mg_of X G0 a_Told, ⟨ga_Told, gg_Told, ex_Told, hd_Told⟩, List.forall_mem_cons.mpr ⟨no_deed_Told, nofun⟩⟩, List.forall_mem_cons.mpr ⟨⟨c_NotTold, PySem.W.mg_of X G0 a_NotTold, ⟨ga_NotTold, gg_NotTold, ex_NotTold, hd_NotTold⟩, List.forall_mem_cons.mpr ⟨no_moment_NotTold, nofun⟩⟩, List.forall_mem_cons.mpr ⟨⟨c_NoBoard, PySem.W.mg_of X G0 a_NoBoard, ⟨ga_NoBoard, gg_NoBoard, ex_NoBoard, hd_NoBoard⟩, List.forall_mem_cons.mpr ⟨no_line_NoBoard, List.forall_mem_cons.mpr ⟨no_why_NoBoard, nofun⟩⟩⟩, List.forall_mem_cons.mpr ⟨⟨c_NoCard, PySem.W.mg_of X G0 a_NoCard, ⟨ga_NoCard, gg_NoCard, ex_NoCard, hd_NoCard⟩, List.forall_mem_cons.mpr ⟨no_name_NoCard, nofun⟩⟩, List.forall_mem_cons.mpr ⟨⟨c_WrongPhoto, PySem.W.mg_of X G0 a_WrongPhoto, ⟨ga_WrongPhoto, gg_WrongPhoto, ex_WrongPhoto, hd_WrongPhoto⟩, List.forall_mem_cons.mpr ⟨no_number_WrongPhoto, List.forall_mem_cons.mpr ⟨no_x_WrongPhoto, List.forall_mem_cons.mpr ⟨no_y_WrongPhoto, nofun⟩⟩⟩⟩, List.forall_mem_cons.mpr ⟨⟨c_Ring, PySem.W.mg_of X G0 a_Ring, ⟨ga_Ring, gg_Ring, ex_Ring, hd_Ring⟩, List.forall_mem_cons.mpr ⟨no_names_Ring, nofun⟩⟩, List.forall_mem_cons.mpr ⟨⟨c_NoLine, PySem.W.mg_of X G0 a_NoLine, ⟨ga_NoLine, gg_NoLine, ex_NoLine, hd_NoLine⟩, List.forall_mem_cons.mpr ⟨no_line_NoLine, nofun⟩⟩, nofun⟩⟩⟩⟩⟩⟩⟩⟩⟩⟩⟩⟩), PySem.W.mg_none_of X G0 b_ValueError, PySem.W.mg_none_of X G0 b_abs, PySem.W.mg_none_of X G0 b_enumerate, PySem.W.mg_none_of X G0 b_int, PySem.W.mg_none_of X G0 b_isinstance, PySem.W.mg_none_of X G0 b_len, PySem.W.mg_none_of X G0 b_range, PySem.W.mg_none_of X G0 b_repr, kxi_of (List.forall_mem_cons.mpr ⟨⟨c_NoText, PySem.W.mg_of X G0 a_NoText, ⟨cls_some ob_NoText, ga_NoText, gg_NoText, ex_NoText, cl_NoText, xg, xt, ob_NoText⟩, List.forall_mem_cons.mpr ⟨⟨c_BadBoard, PySem.W.mg_of X G0 a_BadBoard, kit_x ob_BadBoard ty_BadBoard ss_BadBoard su_NoText_BadBoard⟩, List.forall_mem_cons.mpr ⟨⟨c_BadCard, PySem.W.mg_of X G0 a_BadCard, kit_x ob_BadCard ty_BadCard ss_BadCard su_NoText_BadCard⟩, List.forall_mem_cons.mpr ⟨⟨c_BadDeed, PySem.W.mg_of X G0 a_BadDeed, kit_x ob_BadDeed ty_BadDeed ss_BadDeed su_NoText_BadDeed⟩, List.forall_mem_cons.mpr ⟨⟨c_BadPhoto, PySem.W.mg_of X G0 a_BadPhoto, kit_x ob_BadPhoto ty_BadPhoto ss_BadPhoto su_NoText_BadPhoto⟩, List.forall_mem_cons.mpr ⟨⟨c_CardError, PySem.W.mg_of X G0 a_CardError, kit_sub ob_CardError ty_CardError su_NoText_CardError⟩, List.forall_mem_cons.mpr ⟨⟨c_Earlier, PySem.W.mg_of X G0 a_Earlier, kit_x ob_Earlier ty_Earlier ss_Earlier su_NoText_Earlier⟩, List.forall_mem_cons.mpr ⟨⟨c_NoBoard, PySem.W.mg_of X G0 a_NoBoard, kit_x ob_NoBoard ty_NoBoard ss_NoBoard su_NoText_NoBoard⟩, List.forall_mem_cons.mpr ⟨⟨c_NoCard, PySem.W.mg_of X G0 a_NoCard, kit_x ob_NoCard ty_NoCard ss_NoCard su_NoText_NoCard⟩, List.forall_mem_cons.mpr ⟨⟨c_NoLine, PySem.W.mg_of X G0 a_NoLine, kit_x ob_NoLine ty_NoLine ss_NoLine su_NoText_NoLine⟩, List.forall_mem_cons.mpr ⟨⟨c_NoText, PySem.W.mg_of X G0 a_NoText, kit_same⟩, List.forall_mem_cons.mpr ⟨⟨c_NotTold, PySem.W.mg_of X G0 a_NotTold, kit_x ob_NotTold ty_NotTold ss_NotTold su_NoText_NotTold⟩, List.forall_mem_cons.mpr ⟨⟨c_Ring, PySem.W.mg_of X G0 a_Ring, kit_x ob_Ring ty_Ring ss_Ring su_NoText_Ring⟩, List.forall_mem_cons.mpr ⟨⟨c_Told, PySem.W.mg_of X G0 a_Told, kit_x ob_Told ty_Told ss_Told su_NoText_Told⟩, List.forall_mem_cons.mpr ⟨⟨c_WrongPhoto, PySem.W.mg_of X G0 a_WrongPhoto, kit_x ob_WrongPhoto ty_WrongPhoto ss_WrongPhoto su_NoText_WrongPhoto⟩, nofun⟩⟩⟩⟩⟩⟩⟩⟩⟩⟩⟩⟩⟩⟩⟩, List.forall_mem_cons.mpr ⟨⟨c_BadCard, PySem.W.mg_of X G0 a_BadCard, ⟨cls_some ob_BadCard, ga_BadCard, gg_BadCard, ex_BadCard, cl_BadCard, xg, xt, ob_BadCard⟩, List.forall_mem_cons.mpr ⟨⟨c_BadBoard, PySem.W.mg_of X G0 a_BadBoard, kit_x ob_BadBoard ty_BadBoard ss_BadBoard su_BadCard_BadBoard⟩, List.forall_mem_cons.mpr ⟨⟨c_BadCard, PySem.W.mg_of X G0 a_BadCard, kit_same⟩, List.forall_mem_cons.mpr ⟨⟨c_BadDeed, PySem.W.mg_of X G0 a_BadDeed, kit_x ob_BadDeed ty_BadDeed ss_BadDeed su_BadCard_BadDeed⟩, List.forall_mem_cons.mpr ⟨⟨c_BadPhoto, PySem.W.mg_of X G0 a_BadPhoto, kit_x ob_BadPhoto ty_BadPhoto ss_BadPhoto su_BadCard_BadPhoto⟩, List.forall_mem_cons.mpr ⟨⟨c_CardError, PySem.W.mg_of X G0 a_CardError, kit_sub ob_CardError ty_CardError su_BadCard_CardError⟩, List.forall_mem_cons.mpr ⟨⟨c_Earlier, PySem.W.mg_of X G0 a_Earlier, kit_x ob_Earlier ty_Earlier ss_Earlier su_BadCard_Earlier⟩, List.forall_mem_cons.mpr ⟨⟨c_NoBoard, PySem.W.mg_of X G0 a_NoBoard, kit_x ob_NoBoard ty_NoBoard ss_NoBoard su_BadCard_NoBoard⟩, List.forall_mem_cons.mpr ⟨⟨c_NoCard, PySem.W.mg_of X G0 a_NoCard, kit_x ob_NoCard ty_NoCard ss_NoCard su_BadCard_NoCard⟩, List.forall_mem_cons.mpr ⟨⟨c_NoLine, PySem.W.mg_of X G0 a_NoLine, kit_x ob_NoLine ty_NoLine ss_NoLine su_BadCard_NoLine⟩, List.forall_mem_cons.mpr ⟨⟨c_NoText, PySem.W.mg_of X G0 a_NoText, kit_x ob_NoText ty_NoText ss_NoText su_BadCard_NoText⟩, List.forall_mem_cons.mpr ⟨⟨c_NotTold, PySem.W.mg_of X G0 a_NotTold, kit_x ob_NotTold ty_NotTold ss_NotTold su_BadCard_NotTold⟩, List.forall_mem_cons.mpr ⟨⟨c_Ring, PySem.W.mg_of X G0 a_Ring, kit_x ob_Ring ty_Ring ss_Ring su_BadCard_Ring⟩, List.forall_mem_cons.mpr ⟨⟨c_Told, PySem.W.mg_of X G0 a_Told, kit_x ob_Told ty_Told ss_Told su_BadCard_Told⟩, List.forall_mem_cons.mpr ⟨⟨c_WrongPhoto, PySem.W.mg_of X G0 a_WrongPhoto, kit_x ob_WrongPhoto ty_WrongPhoto ss_WrongPhoto su_BadCard_WrongPhoto⟩, nofun⟩⟩⟩⟩⟩⟩⟩⟩⟩⟩⟩⟩⟩⟩⟩, List.forall_mem_cons.mpr ⟨⟨c_BadDeed, PySem.W.mg_of X G0 a_BadDeed, ⟨cls_some ob_BadDeed, ga_BadDeed, gg_BadDeed, ex_BadDeed, cl_BadDeed, xg, xt, ob_BadDeed⟩, List.forall_mem_cons.mpr ⟨⟨c_BadBoard, PySem.W.mg_of X G0 a_BadBoard, kit_x ob_BadBoard ty_BadBoard ss_BadBoard su_BadDeed_BadBoard⟩, List.forall_mem_cons.mpr ⟨⟨c_BadCard, PySem.W.mg_of X G0 a_BadCard, kit_x ob_BadCard ty_BadCard ss_BadCard su_BadDeed_BadCard⟩, List.forall_mem_cons.mpr ⟨⟨c_BadDeed, PySem.W.mg_of X G0 a_BadDeed, kit_same⟩, List.forall_mem_cons.mpr ⟨⟨c_BadPhoto, PySem.W.mg_of X G0 a_BadPhoto, kit_x ob_BadPhoto ty_BadPhoto ss_BadPhoto su_BadDeed_BadPhoto⟩, List.forall_mem_cons.mpr ⟨⟨c_CardError, PySem.W.mg_of X G0 a_CardError, kit_sub ob_CardError ty_CardError su_BadDeed_CardError⟩, List.forall_mem_cons.mpr ⟨⟨c_Earlier, PySem.W.mg_of X G0 a_Earlier, kit_x ob_Earlier ty_Earlier ss_Earlier su_BadDeed_Earlier⟩, List.forall_mem_cons.mpr ⟨⟨c_NoBoard, PySem.W.mg_of X G0 a_NoBoard, kit_x ob_NoBoard ty_NoBoard ss_NoBoard su_BadDeed_NoBoard⟩, List.forall_mem_cons.mpr ⟨⟨c_NoCard, PySem.W.mg_of X G0 a_NoCard, kit_x ob_NoCard ty_NoCard ss_NoCard su_BadDeed_NoCard⟩, List.forall_mem_cons.mpr ⟨⟨c_NoLine, PySem.W.mg_of X G0 a_NoLine, kit_x ob_NoLine ty_NoLine ss_NoLine su_BadDeed_NoLine⟩, List.forall_mem_cons.mpr ⟨⟨c_NoText, PySem.W.mg_of X G0 a_NoText, kit_x ob_NoText ty_NoText ss_NoText su_BadDeed_NoText⟩, List.forall_mem_cons.mpr ⟨⟨c_NotTold, PySem.W.mg_of X G0 a_NotTold, kit_x ob_NotTold ty_NotTold ss_NotTold su_BadDeed_NotTold⟩, List.forall_mem_cons.mpr ⟨⟨c_Ring, PySem.W.mg_of X G0 a_Ring, kit_x ob_Ring ty_Ring ss_Ring su_BadDeed_Ring⟩, List.forall_mem_cons.mpr ⟨⟨c_Told, PySem.W.mg_of X G0 a_Told, kit_x ob_Told ty_Told ss_Told su_BadDeed_Told⟩, List.forall_mem_cons.mpr ⟨⟨c_WrongPhoto, PySem.W.mg_of X G0 a_WrongPhoto, kit_x ob_WrongPhoto ty_WrongPhoto ss_WrongPhoto su_BadDeed_WrongPhoto⟩, nofun⟩⟩⟩⟩⟩⟩⟩⟩⟩⟩⟩⟩⟩⟩⟩, List.forall_mem_cons.mpr ⟨⟨c_BadBoard, PySem.W.mg_of X G0 a_BadBoard, ⟨cls_some ob_BadBoard, ga_BadBoard, gg_BadBoard, ex_BadBoard, cl_BadBoard, xg, xt, ob_BadBoard⟩, List.forall_mem_cons.mpr ⟨⟨c_BadBoard, PySem.W.mg_of X G0 a_BadBoard, kit_same⟩, List.forall_mem_cons.mpr ⟨⟨c_BadCard, PySem.W.mg_of X G0 a_BadCard, kit_x ob_BadCard ty_BadCard ss_BadCard su_BadBoard_BadCard⟩, List.forall_mem_cons.mpr ⟨⟨c_BadDeed, PySem.W.mg_of X G0 a_BadDeed, kit_x ob_BadDeed ty_BadDeed ss_BadDeed su_BadBoard_BadDeed⟩, List.forall_mem_cons.mpr ⟨⟨c_BadPhoto, PySem.W.mg_of X G0 a_BadPhoto, kit_x ob_BadPhoto ty_BadPhoto ss_BadPhoto su_BadBoard_BadPhoto⟩, List.forall_mem_cons.mpr ⟨⟨c_CardError, PySem.W.mg_of X G0 a_CardError, kit_sub ob_CardError ty_CardError su_BadBoard_CardError⟩, List.forall_mem_cons.mpr ⟨⟨c_Earlier, PySem.W.mg_of X G0 a_Earlier, kit_x ob_Earlier ty_Earlier ss_Earlier su_BadBoard_Earlier⟩, List.forall_mem_cons.mpr ⟨⟨c_NoBoard, PySem.W.mg_of X G0 a_NoBoard, kit_x ob_NoBoard ty_NoBoard ss_NoBoard su_BadBoard_NoBoard⟩, List.forall_mem_cons.mpr ⟨⟨c_NoCard, PySem.W.mg_of X G0 a_NoCard, kit_x ob_NoCard ty_NoCard ss_NoCard su_BadBoard_NoCard⟩, List.forall_mem_cons.mpr ⟨⟨c_NoLine, PySem.W.mg_of X G0 a_NoLine, kit_x ob_NoLine ty_NoLine ss_NoLine su_BadBoard_NoLine⟩, List.forall_mem_cons.mpr ⟨⟨c_NoText, PySem.W.mg_of X G0 a_NoText, kit_x ob_NoText ty_NoText ss_NoText su_BadBoard_NoText⟩, List.forall_mem_cons.mpr ⟨⟨c_NotTold, PySem.W.mg_of X G0 a_NotTold, kit_x ob_NotTold ty_NotTold ss_NotTold su_BadBoard_NotTold⟩, List.forall_mem_cons.mpr ⟨⟨c_Ring, PySem.W.mg_of X G0 a_Ring, kit_x ob_Ring ty_Ring ss_Ring su_BadBoard_Ring⟩, List.forall_mem_cons.mpr ⟨⟨c_Told, PySem.W.mg_of X G0 a_Told, kit_x ob_Told ty_Told ss_Told su_BadBoard_Told⟩, List.forall_mem_cons.mpr ⟨⟨c_WrongPhoto, PySem.W.mg_of X G0 a_WrongPhoto, kit_x ob_WrongPhoto ty_WrongPhoto ss_WrongPhoto su_BadBoard_WrongPhoto⟩, nofun⟩⟩⟩⟩⟩⟩⟩⟩⟩⟩⟩⟩⟩⟩⟩, List.forall_mem_cons.mpr ⟨⟨c_Earlier, PySem.W.mg_of X G0 a_Earlier, ⟨cls_some ob_Earlier, ga_Earlier, gg_Earlier, ex_Earlier, cl_Earlier, xg, xt, ob_Earlier⟩, List.forall_mem_cons.mpr ⟨⟨c_BadBoard, PySem.W.mg_of X G0 a_BadBoard, kit_x ob_BadBoard ty_BadBoard ss_BadBoard su_Earlier_BadBoard⟩, List.forall_mem_cons.mpr ⟨⟨c_BadCard, PySem.W.mg_of X G0 a_BadCard, kit_x ob_BadCard ty_BadCard ss_BadCard su_Earlier_BadCard⟩, List.forall_mem_cons.mpr ⟨⟨c_BadDeed, PySem.W.mg_of X G0 a_BadDeed, kit_x ob_BadDeed ty_BadDeed ss_BadDeed su_Earlier_BadDeed⟩, List.forall_mem_cons.mpr ⟨⟨c_BadPhoto, PySem.W.mg_of X G0 a_BadPhoto, kit_x ob_BadPhoto ty_BadPhoto ss_BadPhoto su_Earlier_BadPhoto⟩, List.forall_mem_cons.mpr ⟨⟨c_CardError, PySem.W.mg_of X G0 a_CardError, kit_sub ob_CardError ty_CardError su_Earlier_CardError⟩, List.forall_mem_cons.mpr ⟨⟨c_Earlier, PySem.W.mg_of X G0 a_Earlier, kit_same⟩, List.forall_mem_cons.mpr ⟨⟨c_NoBoard, PySem.W.mg_of X G0 a_NoBoard, kit_x ob_NoBoard ty_NoBoard ss_NoBoard su_Earlier_NoBoard⟩, List.forall_mem_cons.mpr ⟨⟨c_NoCard, PySem.W.mg_of X G0 a_NoCard, kit_x ob_NoCard ty_NoCard ss_NoCard su_Earlier_NoCard⟩, List.forall_mem_cons.mpr ⟨⟨c_NoLine, PySem.W.mg_of X G0 a_NoLine, kit_x ob_NoLine ty_NoLine ss_NoLine su_Earlier_NoLine⟩, List.forall_mem_cons.mpr ⟨⟨c_NoText, PySem.W.mg_of X G0 a_NoText, kit_x ob_NoText ty_NoText ss_NoText su_Earlier_NoText⟩, List.forall_mem_cons.mpr ⟨⟨c_NotTold, PySem.W.mg_of X G0 a_NotTold, kit_x ob_NotTold ty_NotTold ss_NotTold su_Earlier_NotTold⟩, List.forall_mem_cons.mpr ⟨⟨c_Ring, PySem.W.mg_of X G0 a_Ring, kit_x ob_Ring ty_Ring ss_Ring su_Earlier_Ring⟩, List.forall_mem_cons.mpr ⟨⟨c_Told, PySem.W.mg_of X G0 a_Told, kit_x ob_Told ty_Told ss_Told su_Earlier_Told⟩, List.forall_mem_cons.mpr ⟨⟨c_WrongPhoto, PySem.W.mg_of X G0 a_WrongPhoto, kit_x ob_WrongPhoto ty_WrongPhoto ss_WrongPhoto su_Earlier_WrongPhoto⟩, nofun⟩⟩⟩⟩⟩⟩⟩⟩⟩⟩⟩⟩⟩⟩⟩, List.forall_mem_cons.mpr ⟨⟨c_Told, PySem.W.mg_of X G0 a_Told, ⟨cls_some ob_Told, ga_Told, gg_Told, ex_Told, cl_Told, xg, xt, ob_Told⟩, List.forall_mem_cons.mpr ⟨⟨c_BadBoard, PySem.W.mg_of X G0 a_BadBoard, kit_x ob_BadBoard ty_BadBoard ss_BadBoard su_Told_BadBoard⟩, List.forall_mem_cons.mpr ⟨⟨c_BadCard, PySem.W.mg_of X G0 a_BadCard, kit_x ob_BadCard ty_BadCard ss_BadCard su_Told_BadCard⟩, List.forall_mem_cons.mpr ⟨⟨c_BadDeed, PySem.W.mg_of X G0 a_BadDeed, kit_x ob_BadDeed ty_BadDeed ss_BadDeed su_Told_BadDeed⟩, List.forall_mem_cons.mpr ⟨⟨c_BadPhoto, PySem.W.mg_of X G0 a_BadPhoto, kit_x ob_BadPhoto ty_BadPhoto ss_BadPhoto su_Told_BadPhoto⟩, List.forall_mem_cons.mpr ⟨⟨c_CardError, PySem.W.mg_of X G0 a_CardError, kit_sub ob_CardError ty_CardError su_Told_CardError⟩, List.forall_mem_cons.mpr ⟨⟨c_Earlier, PySem.W.mg_of X G0 a_Earlier, kit_x ob_Earlier ty_Earlier ss_Earlier su_Told_Earlier⟩, List.forall_mem_cons.mpr ⟨⟨c_NoBoard, PySem.W.mg_of X G0 a_NoBoard, kit_x ob_NoBoard ty_NoBoard ss_NoBoard su_Told_NoBoard⟩, List.forall_mem_cons.mpr ⟨⟨c_NoCard, PySem.W.mg_of X G0 a_NoCard, kit_x ob_NoCard ty_NoCard ss_NoCard su_Told_NoCard⟩, List.forall_mem_cons.mpr ⟨⟨c_NoLine, PySem.W.mg_of X G0 a_NoLine, kit_x ob_NoLine ty_NoLine ss_NoLine su_Told_NoLine⟩, List.forall_mem_cons.mpr ⟨⟨c_NoText, PySem.W.mg_of X G0 a_NoText, kit_x ob_NoText ty_NoText ss_NoText su_Told_NoText⟩, List.forall_mem_cons.mpr ⟨⟨c_NotTold, PySem.W.mg_of X G0 a_NotTold, kit_x ob_NotTold ty_NotTold ss_NotTold su_Told_NotTold⟩, List.forall_mem_cons.mpr ⟨⟨c_Ring, PySem.W.mg_of X G0 a_Ring, kit_x ob_Ring ty_Ring ss_Ring su_Told_Ring⟩, List.forall_mem_cons.mpr ⟨⟨c_Told, PySem.W.mg_of X G0 a_Told, kit_same⟩, List.forall_mem_cons.mpr ⟨⟨c_WrongPhoto, PySem.W.mg_of X G0 a_WrongPhoto, kit_x ob_WrongPhoto ty_WrongPhoto ss_WrongPhoto su_Told_WrongPhoto⟩, nofun⟩⟩⟩⟩⟩⟩⟩⟩⟩⟩⟩⟩⟩⟩⟩, List.forall_mem_cons.mpr ⟨⟨c_NotTold, PySem.W.mg_of X G0 a_NotTold, ⟨cls_some ob_NotTold, ga_NotTold, gg_NotTold, ex_NotTold, cl_NotTold, xg, xt, ob_NotTold⟩, List.forall_mem_cons.mpr ⟨⟨c_BadBoard, PySem.W.mg_of X G0 a_BadBoard, kit_x ob_BadBoard ty_BadBoard ss_BadBoard su_NotTold_BadBoard⟩, List.forall_mem_cons.mpr ⟨⟨c_BadCard, PySem.W.mg_of X G0 a_BadCard, kit_x ob_BadCard ty_BadCard ss_BadCard su_NotTold_BadCard⟩, List.forall_mem_cons.mpr ⟨⟨c_BadDeed, PySem.W.mg_of X G0 a_BadDeed, kit_x ob_BadDeed ty_BadDeed ss_BadDeed su_NotTold_BadDeed⟩, List.forall_mem_cons.mpr ⟨⟨c_BadPhoto, PySem.W.mg_of X G0 a_BadPhoto, kit_x ob_BadPhoto ty_BadPhoto ss_BadPhoto su_NotTold_BadPhoto⟩, List.forall_mem_cons.mpr ⟨⟨c_CardError, PySem.W.mg_of X G0 a_CardError, kit_sub ob_CardError ty_CardError su_NotTold_CardError⟩, List.forall_mem_cons.mpr ⟨⟨c_Earlier, PySem.W.mg_of X G0 a_Earlier, kit_x ob_Earlier ty_Earlier ss_Earlier su_NotTold_Earlier⟩, List.forall_mem_cons.mpr ⟨⟨c_NoBoard, PySem.W.mg_of X G0 a_NoBoard, kit_x ob_NoBoard ty_NoBoard ss_NoBoard su_NotTold_NoBoard⟩, List.forall_mem_cons.mpr ⟨⟨c_NoCard, PySem.W.mg_of X G0 a_NoCard, kit_x ob_NoCard ty_NoCard ss_NoCard su_NotTold_NoCard⟩, List.forall_mem_cons.mpr ⟨⟨c_NoLine, PySem.W.mg_of X G0 a_NoLine, kit_x ob_NoLine ty_NoLine ss_NoLine su_NotTold_NoLine⟩, List.forall_mem_cons.mpr ⟨⟨c_NoText, PySem.W.mg_of X G0 a_NoText, kit_x ob_NoText ty_NoText ss_NoText su_NotTold_NoText⟩, List.forall_mem_cons.mpr ⟨⟨c_NotTold, PySem.W.mg_of X G0 a_NotTold, kit_same⟩, List.forall_mem_cons.mpr ⟨⟨c_Ring, PySem.W.mg_of X G0 a_Ring, kit_x ob_Ring ty_Ring ss_Ring su_NotTold_Ring⟩, List.forall_mem_cons.mpr ⟨⟨c_Told, PySem.W.mg_of X G0 a_Told, kit_x ob_Told ty_Told ss_Told su_NotTold_Told⟩, List.forall_mem_cons.mpr ⟨⟨c_WrongPhoto, PySem.W.mg_of X G0 a_WrongPhoto, kit_x ob_WrongPhoto ty_WrongPhoto ss_WrongPhoto su_NotTold_WrongPhoto⟩, nofun⟩⟩⟩⟩⟩⟩⟩⟩⟩⟩⟩⟩⟩⟩⟩, List.forall_mem_cons.mpr ⟨⟨c_NoBoard, PySem.W.mg_of X G0 a_NoBoard, ⟨cls_some ob_NoBoard, ga_NoBoard, gg_NoBoard, ex_NoBoard, cl_NoBoard, xg, xt, ob_NoBoard⟩, List.forall_mem_cons.mpr ⟨⟨c_BadBoard, PySem.W.mg_of X G0 a_BadBoard, kit_x ob_BadBoard ty_BadBoard ss_BadBoard su_NoBoard_BadBoard⟩, List.forall_mem_cons.mpr ⟨⟨c_BadCard, PySem.W.mg_of X G0 a_BadCard, kit_x ob_BadCard ty_BadCard ss_BadCard su_NoBoard_BadCard⟩, List.forall_mem_cons.mpr ⟨⟨c_BadDeed, PySem.W.mg_of X G0 a_BadDeed, kit_x ob_BadDeed ty_BadDeed ss_BadDeed su_NoBoard_BadDeed⟩, List.forall_mem_cons.mpr ⟨⟨c_BadPhoto, PySem.W.mg_of X G0 a_BadPhoto, kit_x ob_BadPhoto ty_BadPhoto ss_BadPhoto su_NoBoard_BadPhoto⟩, List.forall_mem_cons.mpr ⟨⟨c_CardError, PySem.W.mg_of X G0 a_CardError, kit_sub ob_CardError ty_CardError su_NoBoard_CardError⟩, List.forall_mem_cons.mpr ⟨⟨c_Earlier, PySem.W.mg_of X G0 a_Earlier, kit_x ob_Earlier ty_Earlier ss_Earlier su_NoBoard_Earlier⟩, List.forall_mem_cons.mpr ⟨⟨c_NoBoard, PySem.W.mg_of X G0 a_NoBoard, kit_same⟩, List.forall_mem_cons.mpr ⟨⟨c_NoCard, PySem.W.mg_of X G0 a_NoCard, kit_x ob_NoCard ty_NoCard ss_NoCard su_NoBoard_NoCard⟩, List.forall_mem_cons.mpr ⟨⟨c_NoLine, PySem.W.mg_of X G0 a_NoLine, kit_x ob_NoLine ty_NoLine ss_NoLine su_NoBoard_NoLine⟩, List.forall_mem_cons.mpr ⟨⟨c_NoText, PySem.W.mg_of X G0 a_NoText, kit_x ob_NoText ty_NoText ss_NoText su_NoBoard_NoText⟩, List.forall_mem_cons.mpr ⟨⟨c_NotTold, PySem.W.mg_of X G0 a_NotTold, kit_x ob_NotTold ty_NotTold ss_NotTold su_NoBoard_NotTold⟩, List.forall_mem_cons.mpr ⟨⟨c_Ring, PySem.W.mg_of X G0 a_Ring, kit_x ob_Ring ty_Ring ss_Ring su_NoBoard_Ring⟩, List.forall_mem_cons.mpr ⟨⟨c_Told, PySem.W.mg_of X G0 a_Told, kit_x ob_Told ty_Told ss_Told su_NoBoard_Told⟩, List.forall_mem_cons.mpr ⟨⟨c_WrongPhoto, PySem.W.mg_of X G0 a_WrongPhoto, kit_x ob_WrongPhoto ty_WrongPhoto ss_WrongPhoto su_NoBoard_WrongPhoto⟩, nofun⟩⟩⟩⟩⟩⟩⟩⟩⟩⟩⟩⟩⟩⟩⟩, List.forall_mem_cons.mpr ⟨⟨c_NoCard, PySem.W.mg_of X G0 a_NoCard, ⟨cls_some ob_NoCard, ga_NoCard, gg_NoCard, ex_NoCard, cl_NoCard, xg, xt, ob_NoCard⟩, List.forall_mem_cons.mpr ⟨⟨c_BadBoard, PySem.W.mg_of X G0 a_BadBoard, kit_x ob_BadBoard ty_BadBoard ss_BadBoard su_NoCard_BadBoard⟩, List.forall_mem_cons.mpr ⟨⟨c_BadCard, PySem.W.mg_of X G0 a_BadCard, kit_x ob_BadCard ty_BadCard ss_BadCard su_NoCard_BadCard⟩, List.forall_mem_cons.mpr ⟨⟨c_BadDeed, PySem.W.mg_of X G0 a_BadDeed, kit_x ob_BadDeed ty_BadDeed ss_BadDeed su_NoCard_BadDeed⟩, List.forall_mem_cons.mpr ⟨⟨c_BadPhoto, PySem.W.mg_of X G0 a_BadPhoto, kit_x ob_BadPhoto ty_BadPhoto ss_BadPhoto su_NoCard_BadPhoto⟩, List.forall_mem_cons.mpr ⟨⟨c_CardError, PySem.W.mg_of X G0 a_CardError, kit_sub ob_CardError ty_CardError su_NoCard_CardError⟩, List.forall_mem_cons.mpr ⟨⟨c_Earlier, PySem.W.mg_of X G0 a_Earlier, kit_x ob_Earlier ty_Earlier ss_Earlier su_NoCard_Earlier⟩, List.forall_mem_cons.mpr ⟨⟨c_NoBoard, PySem.W.mg_of X G0 a_NoBoard, kit_x ob_NoBoard ty_NoBoard ss_NoBoard su_NoCard_NoBoard⟩, List.forall_mem_cons.mpr ⟨⟨c_NoCard, PySem.W.mg_of X G0 a_NoCard, kit_same⟩, List.forall_mem_cons.mpr ⟨⟨c_NoLine, PySem.W.mg_of X G0 a_NoLine, kit_x ob_NoLine ty_NoLine ss_NoLine su_NoCard_NoLine⟩, List.forall_mem_cons.mpr ⟨⟨c_NoText, PySem.W.mg_of X G0 a_NoText, kit_x ob_NoText ty_NoText ss_NoText su_NoCard_NoText⟩, List.forall_mem_cons.mpr ⟨⟨c_NotTold, PySem.W.mg_of X G0 a_NotTold, kit_x ob_NotTold ty_NotTold ss_NotTold su_NoCard_NotTold⟩, List.forall_mem_cons.mpr ⟨⟨c_Ring, PySem.W.mg_of X G0 a_Ring, kit_x ob_Ring ty_Ring ss_Ring su_NoCard_Ring⟩, List.forall_mem_cons.mpr ⟨⟨c_Told, PySem.W.mg_of X G0 a_Told, kit_x ob_Told ty_Told ss_Told su_NoCard_Told⟩, List.forall_mem_cons.mpr ⟨⟨c_WrongPhoto, PySem.W.mg_of X G0 a_WrongPhoto, kit_x ob_WrongPhoto ty_WrongPhoto ss_WrongPhoto su_NoCard_WrongPhoto⟩, nofun⟩⟩⟩⟩⟩⟩⟩⟩⟩⟩⟩⟩⟩⟩⟩, List.forall_mem_cons.mpr ⟨⟨c_WrongPhoto, PySem.W.mg_of X G0 a_WrongPhoto, ⟨cls_some ob_WrongPhoto, ga_WrongPhoto, gg_WrongPhoto, ex_WrongPhoto, cl_WrongPhoto, xg, xt, ob_WrongPhoto⟩, List.forall_mem_cons.mpr ⟨⟨c_BadBoard, PySem.W.mg_of X G0 a_BadBoard, kit_x ob_BadBoard ty_BadBoard ss_BadBoard su_WrongPhoto_BadBoard⟩, List.forall_mem_cons.mpr ⟨⟨c_BadCard, PySem.W.mg_of X G0 a_BadCard, kit_x ob_BadCard ty_BadCard ss_BadCard su_WrongPhoto_BadCard⟩, List.forall_mem_cons.mpr ⟨⟨c_BadDeed, PySem.W.mg_of X G0 a_BadDeed, kit_x ob_BadDeed ty_BadDeed ss_BadDeed su_WrongPhoto_BadDeed⟩, List.forall_mem_cons.mpr ⟨⟨c_BadPhoto, PySem.W.mg_of X G0 a_BadPhoto, kit_x ob_BadPhoto ty_BadPhoto ss_BadPhoto su_WrongPhoto_BadPhoto⟩, List.forall_mem_cons.mpr ⟨⟨c_CardError, PySem.W.mg_of X G0 a_CardError, kit_sub ob_CardError ty_CardError su_WrongPhoto_CardError⟩, List.forall_mem_cons.mpr ⟨⟨c_Earlier, PySem.W.mg_of X G0 a_Earlier, kit_x ob_Earlier ty_Earlier ss_Earlier su_WrongPhoto_Earlier⟩, List.forall_mem_cons.mpr ⟨⟨c_NoBoard, PySem.W.mg_of X G0 a_NoBoard, kit_x ob_NoBoard ty_NoBoard ss_NoBoard su_WrongPhoto_NoBoard⟩, List.forall_mem_cons.mpr ⟨⟨c_NoCard, PySem.W.mg_of X G0 a_NoCard, kit_x ob_NoCard ty_NoCard ss_NoCard su_WrongPhoto_NoCard⟩, List.forall_mem_cons.mpr ⟨⟨c_NoLine, PySem.W.mg_of X G0 a_NoLine, kit_x ob_NoLine ty_NoLine ss_NoLine su_WrongPhoto_NoLine⟩, List.forall_mem_cons.mpr ⟨⟨c_NoText, PySem.W.mg_of X G0 a_NoText, kit_x ob_NoText ty_NoText ss_NoText su_WrongPhoto_NoText⟩, List.forall_mem_cons.mpr ⟨⟨c_NotTold, PySem.W.mg_of X G0 a_NotTold, kit_x ob_NotTold ty_NotTold ss_NotTold su_WrongPhoto_NotTold⟩, List.forall_mem_cons.mpr ⟨⟨c_Ring, PySem.W.mg_of X G0 a_Ring, kit_x ob_Ring ty_Ring ss_Ring su_WrongPhoto_Ring⟩, List.forall_mem_cons.mpr ⟨⟨c_Told, PySem.W.mg_of X G0 a_Told, kit_x ob_Told ty_Told ss_Told su_WrongPhoto_Told⟩, List.forall_mem_cons.mpr ⟨⟨c_WrongPhoto, PySem.W.mg_of X G0 a_WrongPhoto, kit_same⟩, nofun⟩⟩⟩⟩⟩⟩⟩⟩⟩⟩⟩⟩⟩⟩⟩, List.forall_mem_cons.mpr ⟨⟨c_Ring, PySem.W.mg_of X G0 a_Ring, ⟨cls_some ob_Ring, ga_Ring, gg_Ring, ex_Ring, cl_Ring, xg, xt, ob_Ring⟩, List.forall_mem_cons.mpr ⟨⟨c_BadBoard, PySem.W.mg_of X G0 a_BadBoard, kit_x ob_BadBoard ty_BadBoard ss_BadBoard su_Ring_BadBoard⟩, List.forall_mem_cons.mpr ⟨⟨c_BadCard, PySem.W.mg_of X G0 a_BadCard, kit_x ob_BadCard ty_BadCard ss_BadCard su_Ring_BadCard⟩, List.forall_mem_cons.mpr ⟨⟨c_BadDeed, PySem.W.mg_of X G0 a_BadDeed, kit_x ob_BadDeed ty_BadDeed ss_BadDeed su_Ring_BadDeed⟩, List.forall_mem_cons.mpr ⟨⟨c_BadPhoto, PySem.W.mg_of X G0 a_BadPhoto, kit_x ob_BadPhoto ty_BadPhoto ss_BadPhoto su_Ring_BadPhoto⟩, List.forall_mem_cons.mpr ⟨⟨c_CardError, PySem.W.mg_of X G0 a_CardError, kit_sub ob_CardError ty_CardError su_Ring_CardError⟩, List.forall_mem_cons.mpr ⟨⟨c_Earlier, PySem.W.mg_of X G0 a_Earlier, kit_x ob_Earlier ty_Earlier ss_Earlier su_Ring_Earlier⟩, List.forall_mem_cons.mpr ⟨⟨c_NoBoard, PySem.W.mg_of X G0 a_NoBoard, kit_x ob_NoBoard ty_NoBoard ss_NoBoard su_Ring_NoBoard⟩, List.forall_mem_cons.mpr ⟨⟨c_NoCard, PySem.W.mg_of X G0 a_NoCard, kit_x ob_NoCard ty_NoCard ss_NoCard su_Ring_NoCard⟩, List.forall_mem_cons.mpr ⟨⟨c_NoLine, PySem.W.mg_of X G0 a_NoLine, kit_x ob_NoLine ty_NoLine ss_NoLine su_Ring_NoLine⟩, List.forall_mem_cons.mpr ⟨⟨c_NoText, PySem.W.mg_of X G0 a_NoText, kit_x ob_NoText ty_NoText ss_NoText su_Ring_NoText⟩, List.forall_mem_cons.mpr ⟨⟨c_NotTold, PySem.W.mg_of X G0 a_NotTold, kit_x ob_NotTold ty_NotTold ss_NotTold su_Ring_NotTold⟩, List.forall_mem_cons.mpr ⟨⟨c_Ring, PySem.W.mg_of X G0 a_Ring, kit_same⟩, List.forall_mem_cons.mpr ⟨⟨c_Told, PySem.W.mg_of X G0 a_Told, kit_x ob_Told ty_Told ss_Told su_Ring_Told⟩, List.forall_mem_cons.mpr ⟨⟨c_WrongPhoto, PySem.W.mg_of X G0 a_WrongPhoto, kit_x ob_WrongPhoto ty_WrongPhoto ss_WrongPhoto su_Ring_WrongPhoto⟩, nofun⟩⟩⟩⟩⟩⟩⟩⟩⟩⟩⟩⟩⟩⟩⟩, List.forall_mem_cons.mpr ⟨⟨c_NoLine, PySem.W.mg_of X G0 a_NoLine, ⟨cls_some ob_NoLine, ga_NoLine, gg_NoLine, ex_NoLine, cl_NoLine, xg, xt, ob_NoLine⟩, List.forall_mem_cons.mpr ⟨⟨c_BadBoard, PySem.W.mg_of X G0 a_BadBoard, kit_x ob_BadBoard ty_BadBoard ss_BadBoard su_NoLine_BadBoard⟩, List.forall_mem_cons.mpr ⟨⟨c_BadCard, PySem.W.mg_of X G0 a_BadCard, kit_x ob_BadCard ty_BadCard ss_BadCard su_NoLine_BadCard⟩, List.forall_mem_cons.mpr ⟨⟨c_BadDeed, PySem.W.mg_of X G0 a_BadDeed, kit_x ob_BadDeed ty_BadDeed ss_BadDeed su_NoLine_BadDeed⟩, List.forall_mem_cons.mpr ⟨⟨c_BadPhoto, PySem.W.mg_of X G0 a_BadPhoto, kit_x ob_BadPhoto ty_BadPhoto ss_BadPhoto su_NoLine_BadPhoto⟩, List.forall_mem_cons.mpr ⟨⟨c_CardError, PySem.W.mg_of X G0 a_CardError, kit_sub ob_CardError ty_CardError su_NoLine_CardError⟩, List.forall_mem_cons.mpr ⟨⟨c_Earlier, PySem.W.mg_of X G0 a_Earlier, kit_x ob_Earlier ty_Earlier ss_Earlier su_NoLine_Earlier⟩, List.forall_mem_cons.mpr ⟨⟨c_NoBoard, PySem.W.mg_of X G0 a_NoBoard, kit_x ob_NoBoard ty_NoBoard ss_NoBoard su_NoLine_NoBoard⟩, List.forall_mem_cons.mpr ⟨⟨c_NoCard, PySem.W.mg_of X G0 a_NoCard, kit_x ob_NoCard ty_NoCard ss_NoCard su_NoLine_NoCard⟩, List.forall_mem_cons.mpr ⟨⟨c_NoLine, PySem.W.mg_of X G0 a_NoLine, kit_same⟩, List.forall_mem_cons.mpr ⟨⟨c_NoText, PySem.W.mg_of X G0 a_NoText, kit_x ob_NoText ty_NoText ss_NoText su_NoLine_NoText⟩, List.forall_mem_cons.mpr ⟨⟨c_NotTold, PySem.W.mg_of X G0 a_NotTold, kit_x ob_NotTold ty_NotTold ss_NotTold su_NoLine_NotTold⟩, List.forall_mem_cons.mpr ⟨⟨c_Ring, PySem.W.mg_of X G0 a_Ring, kit_x ob_Ring ty_Ring ss_Ring su_NoLine_Ring⟩, List.forall_mem_cons.mpr ⟨⟨c_Told, PySem.W.mg_of X G0 a_Told, kit_x ob_Told ty_Told ss_Told su_NoLine_Told⟩, List.forall_mem_cons.mpr ⟨⟨c_WrongPhoto, PySem.W.mg_of X G0 a_WrongPhoto, kit_x ob_WrongPhoto ty_WrongPhoto ss_WrongPhoto su_NoLine_WrongPhoto⟩, nofun⟩⟩⟩⟩⟩⟩⟩⟩⟩⟩⟩⟩⟩⟩⟩, List.forall_mem_cons.mpr ⟨⟨c_BadPhoto, PySem.W.mg_of X G0 a_BadPhoto, ⟨cls_some ob_BadPhoto, ga_BadPhoto, gg_BadPhoto, ex_BadPhoto, cl_BadPhoto, xg, xt, ob_BadPhoto⟩, List.forall_mem_cons.mpr ⟨⟨c_BadBoard, PySem.W.mg_of X G0 a_BadBoard, kit_x ob_BadBoard ty_BadBoard ss_BadBoard su_BadPhoto_BadBoard⟩, List.forall_mem_cons.mpr ⟨⟨c_BadCard, PySem.W.mg_of X G0 a_BadCard, kit_x ob_BadCard ty_BadCard ss_BadCard su_BadPhoto_BadCard⟩, List.forall_mem_cons.mpr ⟨⟨c_BadDeed, PySem.W.mg_of X G0 a_BadDeed, kit_x ob_BadDeed ty_BadDeed ss_BadDeed su_BadPhoto_BadDeed⟩, List.forall_mem_cons.mpr ⟨⟨c_BadPhoto, PySem.W.mg_of X G0 a_BadPhoto, kit_same⟩, List.forall_mem_cons.mpr ⟨⟨c_CardError, PySem.W.mg_of X G0 a_CardError, kit_sub ob_CardError ty_CardError su_BadPhoto_CardError⟩, List.forall_mem_cons.mpr ⟨⟨c_Earlier, PySem.W.mg_of X G0 a_Earlier, kit_x ob_Earlier ty_Earlier ss_Earlier su_BadPhoto_Earlier⟩, List.forall_mem_cons.mpr ⟨⟨c_NoBoard, PySem.W.mg_of X G0 a_NoBoard, kit_x ob_NoBoard ty_NoBoard ss_NoBoard su_BadPhoto_NoBoard⟩, List.forall_mem_cons.mpr ⟨⟨c_NoCard, PySem.W.mg_of X G0 a_NoCard, kit_x ob_NoCard ty_NoCard ss_NoCard su_BadPhoto_NoCard⟩, List.forall_mem_cons.mpr ⟨⟨c_NoLine, PySem.W.mg_of X G0 a_NoLine, kit_x ob_NoLine ty_NoLine ss_NoLine su_BadPhoto_NoLine⟩, List.forall_mem_cons.mpr ⟨⟨c_NoText, PySem.W.mg_of X G0 a_NoText, kit_x ob_NoText ty_NoText ss_NoText su_BadPhoto_NoText⟩, List.forall_mem_cons.mpr ⟨⟨c_NotTold, PySem.W.mg_of X G0 a_NotTold, kit_x ob_NotTold ty_NotTold ss_NotTold su_BadPhoto_NotTold⟩, List.forall_mem_cons.mpr ⟨⟨c_Ring, PySem.W.mg_of X G0 a_Ring, kit_x ob_Ring ty_Ring ss_Ring su_BadPhoto_Ring⟩, List.forall_mem_cons.mpr ⟨⟨c_Told, PySem.W.mg_of X G0 a_Told, kit_x ob_Told ty_Told ss_Told su_BadPhoto_Told⟩, List.forall_mem_cons.mpr ⟨⟨c_WrongPhoto, PySem.W.mg_of X G0 a_WrongPhoto, kit_x ob_WrongPhoto ty_WrongPhoto ss_WrongPhoto su_BadPhoto_WrongPhoto⟩, nofun⟩⟩⟩⟩⟩⟩⟩⟩⟩⟩⟩⟩⟩⟩⟩, nofun⟩⟩⟩⟩⟩⟩⟩⟩⟩⟩⟩⟩⟩) (List.forall_mem_cons.mpr ⟨⟨c_NoText, PySem.W.mg_of X G0 a_NoText, ⟨cls_some ob_NoText, ga_NoText, gg_NoText, ex_NoText, cl_NoText, xg, xt, ob_NoText⟩, List.forall_mem_cons.mpr ⟨kit_dn (by decide +kernel) sb_NoText_ValueError, nofun⟩⟩, List.forall_mem_cons.mpr ⟨⟨c_BadCard, PySem.W.mg_of X G0 a_BadCard, ⟨cls_some ob_BadCard, ga_BadCard, gg_BadCard, ex_BadCard, cl_BadCard, xg, xt, ob_BadCard⟩, List.forall_mem_cons.mpr ⟨kit_dn (by decide +kernel) sb_BadCard_ValueError, nofun⟩⟩, List.forall_mem_cons.mpr ⟨⟨c_BadDeed, PySem.W.mg_of X G0 a_BadDeed, ⟨cls_some ob_BadDeed, ga_BadDeed, gg_BadDeed, ex_BadDeed, cl_BadDeed, xg, xt, ob_BadDeed⟩, List.forall_mem_cons.mpr ⟨kit_dn (by decide +kernel) sb_BadDeed_ValueError, nofun⟩⟩, List.forall_mem_cons.mpr ⟨⟨c_BadBoard, PySem.W.mg_of X G0 a_BadBoard, ⟨cls_some ob_BadBoard, ga_BadBoard, gg_BadBoard, ex_BadBoard, cl_BadBoard, xg, xt, ob_BadBoard⟩, List.forall_mem_cons.mpr ⟨kit_dn (by decide +kernel) sb_BadBoard_ValueError, nofun⟩⟩, List.forall_mem_cons.mpr ⟨⟨c_Earlier, PySem.W.mg_of X G0 a_Earlier, ⟨cls_some ob_Earlier, ga_Earlier, gg_Earlier, ex_Earlier, cl_Earlier, xg, xt, ob_Earlier⟩, List.forall_mem_cons.mpr ⟨kit_dn (by decide +kernel) sb_Earlier_ValueError, nofun⟩⟩, List.forall_mem_cons.mpr ⟨⟨c_Told, PySem.W.mg_of X G0 a_Told, ⟨cls_some ob_Told, ga_Told, gg_Told, ex_Told, cl_Told, xg, xt, ob_Told⟩, List.forall_mem_cons.mpr ⟨kit_dn (by decide +kernel) sb_Told_ValueError, nofun⟩⟩, List.forall_mem_cons.mpr ⟨⟨c_NotTold, PySem.W.mg_of X G0 a_NotTold, ⟨cls_some ob_NotTold, ga_NotTold, gg_NotTold, ex_NotTold, cl_NotTold, xg, xt, ob_NotTold⟩, List.forall_mem_cons.mpr ⟨kit_dn (by decide +kernel) sb_NotTold_ValueError, nofun⟩⟩, List.forall_mem_cons.mpr ⟨⟨c_NoBoard, PySem.W.mg_of X G0 a_NoBoard, ⟨cls_some ob_NoBoard, ga_NoBoard, gg_NoBoard, ex_NoBoard, cl_NoBoard, xg, xt, ob_NoBoard⟩, List.forall_mem_cons.mpr ⟨kit_dn (by decide +kernel) sb_NoBoard_ValueError, nofun⟩⟩, List.forall_mem_cons.mpr ⟨⟨c_NoCard, PySem.W.mg_of X G0 a_NoCard, ⟨cls_some ob_NoCard, ga_NoCard, gg_NoCard, ex_NoCard, cl_NoCard, xg, xt, ob_NoCard⟩, List.forall_mem_cons.mpr ⟨kit_dn (by decide +kernel) sb_NoCard_ValueError, nofun⟩⟩, List.forall_mem_cons.mpr ⟨⟨c_WrongPhoto, PySem.W.mg_of X G0 a_WrongPhoto, ⟨cls_some ob_WrongPhoto, ga_WrongPhoto, gg_WrongPhoto, ex_WrongPhoto, cl_WrongPhoto, xg, xt, ob_WrongPhoto⟩, List.forall_mem_cons.mpr ⟨kit_dn (by decide +kernel) sb_WrongPhoto_ValueError, nofun⟩⟩, List.forall_mem_cons.mpr ⟨⟨c_Ring, PySem.W.mg_of X G0 a_Ring, ⟨cls_some ob_Ring, ga_Ring, gg_Ring, ex_Ring, cl_Ring, xg, xt, ob_Ring⟩, List.forall_mem_cons.mpr ⟨kit_dn (by decide +kernel) sb_Ring_ValueError, nofun⟩⟩, List.forall_mem_cons.mpr ⟨⟨c_NoLine, PySem.W.mg_of X G0 a_NoLine, ⟨cls_some ob_NoLine, ga_NoLine, gg_NoLine, ex_NoLine, cl_NoLine, xg, xt, ob_NoLine⟩, List.forall_mem_cons.mpr ⟨kit_dn (by decide +kernel) sb_NoLine_ValueError, nofun⟩⟩, List.forall_mem_cons.mpr ⟨⟨c_BadPhoto, PySem.W.mg_of X G0 a_BadPhoto, ⟨cls_some ob_BadPhoto, ga_BadPhoto, gg_BadPhoto, ex_BadPhoto, cl_BadPhoto, xg, xt, ob_BadPhoto⟩, List.forall_mem_cons.mpr ⟨kit_dn (by decide +kernel) sb_BadPhoto_ValueError, nofun⟩⟩, nofun⟩⟩⟩⟩⟩⟩⟩⟩⟩⟩⟩⟩⟩), gc_cls (PySem.W.mg_of X G0 a_BadBoard), gc_cls (PySem.W.mg_of X G0 a_BadCard), gc_cls (PySem.W.mg_of X G0 a_BadDeed), gc_cls (PySem.W.mg_of X G0 a_BadPhoto), gc_cls (PySem.W.mg_of X G0 a_CardError), gc_cls (PySem.W.mg_of X G0 a_Earlier), gc_cls (PySem.W.mg_of X G0 a_NoBoard), gc_cls (PySem.W.mg_of X G0 a_NoCard), gc_cls (PySem.W.mg_of X G0 a_NoLine), gc_cls (PySem.W.mg_of X G0 a_NoText), gc_cls (PySem.W.mg_of X G0 a_NotTold), gc_cls (PySem.W.mg_of X G0 a_Ring), gc_cls (PySem.W.mg_of X G0 a_Told), gc_cls (PySem.W.mg_of X G0 a_WrongPhoto)⟩
  have F_law_begin := df_mk (st := s_law_begin) l_law_begin c_law_begin
  have F_law_draw := df_mk (st := s_law_draw) l_law_draw c_law_draw
  have F_law_thing := df_mk (st := s_law_thing) l_law_thing c_law_thing
  have F_law_made := df_mk (st := s_law_made) l_law_made c_law_made
  have F_law_kinds := df_mk (st := s_law_kinds) l_law_kinds c_law_kinds
  have F_law_values := df_mk (st := s_law_values) l_law_values c_law_values
  have F_law := df_mk (st := s_law) l_law c_law
  refine ⟨PySem.W.fnOf "law" "law" (defArgs s_law) (defBody s_law) (defScope s_law) .none kV_law dc_law pm_law an_law cd_law ct_law, fun s u => .of_eq rfl, fun base kin hns M => ?_⟩
  have P_law_begin := fn_law_begin (P := l.prog) (w := w) (base := base) T F_law_begin
  have P_law_draw := fn_law_draw (P := l.prog) (w := w) (base := base) T F_law_draw
  have K_law_draw : KnT l.prog w ⟨K, mg, none⟩ base false "_law_draw" 1 2 [] (fun ds _ => ds) m_law_draw := kn_pos P_law_draw (PySem.W.mg_of X G0 a_law_draw) k_law_draw (fun us hl => match us, hl with | [_, _], _ => rfl)
  have P_law_thing := fn_law_thing (P := l.prog) (w := w) (base := base) T F_law_thing K_law_draw
  have K_law_thing : KnT l.prog w ⟨K, mg, none⟩ base false "_law_thing" 2 1 [] (fun ds _ => ds) m_law_thing := kn_pos P_law_thing (PySem.W.mg_of X G0 a_law_thing) k_law_thing (fun us hl => match us, hl with | [_], _ => rfl)
  have K_xv_BadBoard_0_high_wide : XvT l.prog w ⟨K, mg, none⟩ base "BadBoard" 1 0 ["wide", "high"] ["high", "wide"] g_xv_BadBoard_0_high_wide := ⟨⟨c_BadBoard, i_BadBoard, _, _, _, XX_BadBoard, xi_BadBoard BB_CardError XX_BadBoard FX_BadBoard, bi_kw [(2, 1), (2, 0)] (fun vs zs h1 h2 => match vs, zs, h1, h2 with | [], [_, _], _, _ => rfl) (fun us ws h1 h2 => match us, ws, h1, h2 with | [_], [_, _], _, _ => rfl), rfl⟩⟩
  have K_xv_BadDeed_1 : XvT l.prog w ⟨K, mg, none⟩ base "BadDeed" 1 1 ["field"] [] (fun ds _ => ds) := ⟨⟨c_BadDeed, i_BadDeed, _, _, _, XX_BadDeed, xi_BadDeed BB_CardError XX_BadDeed FX_BadDeed, bi_pos (fun us hl => match us, hl with | [_, _], _ => rfl), rfl⟩⟩
  have K_xv_BadCard_0_field : XvT l.prog w ⟨K, mg, none⟩ base "BadCard" 1 0 ["field"] ["field"] g_xv_BadCard_0_field := ⟨⟨c_BadCard, i_BadCard, _, _, _, XX_BadCard, xi_BadCard BB_CardError XX_BadCard FX_BadCard, bi_kw [(2, 0)] (fun vs zs h1 h2 => match vs, zs, h1, h2 with | [], [_], _, _ => rfl) (fun us ws h1 h2 => match us, ws, h1, h2 with | [_], [_], _, _ => rfl), rfl⟩⟩
  have K_xv_NoText_1 : XvT l.prog w ⟨K, mg, none⟩ base "NoText" 1 1 ["text"] [] (fun ds _ => ds) := ⟨⟨c_NoText, i_NoText, _, _, _, XX_NoText, xi_NoText BB_CardError XX_NoText FX_NoText, bi_pos (fun us hl => match us, hl with | [_, _], _ => rfl), rfl⟩⟩
  have K_xv_NoBoard_1_why : XvT l.prog w ⟨K, mg, none⟩ base "NoBoard" 1 1 ["line", "why"] ["why"] g_xv_NoBoard_1_why := ⟨⟨c_NoBoard, i_NoBoard, _, _, _, XX_NoBoard, xi_NoBoard BB_CardError XX_NoBoard FX_NoBoard, bi_kw [(0, 0), (2, 0)] (fun vs zs h1 h2 => match vs, zs, h1, h2 with | [_], [_], _, _ => rfl) (fun us ws h1 h2 => match us, ws, h1, h2 with | [_, _], [_], _, _ => rfl), rfl⟩⟩
  have K_xv_NotTold_0_moment : XvT l.prog w ⟨K, mg, none⟩ base "NotTold" 1 0 ["moment"] ["moment"] g_xv_NotTold_0_moment := ⟨⟨c_NotTold, i_NotTold, _, _, _, XX_NotTold, xi_NotTold BB_CardError XX_NotTold FX_NotTold, bi_kw [(2, 0)] (fun vs zs h1 h2 => match vs, zs, h1, h2 with | [], [_], _, _ => rfl) (fun us ws h1 h2 => match us, ws, h1, h2 with | [_], [_], _, _ => rfl), rfl⟩⟩
  have K_xv_Told_1 : XvT l.prog w ⟨K, mg, none⟩ base "Told" 1 1 ["deed"] [] (fun ds _ => ds) := ⟨⟨c_Told, i_Told, _, _, _, XX_Told, xi_Told BB_CardError XX_Told FX_Told, bi_pos (fun us hl => match us, hl with | [_, _], _ => rfl), rfl⟩⟩
  have K_xv_Earlier_0_day : XvT l.prog w ⟨K, mg, none⟩ base "Earlier" 1 0 ["day"] ["day"] g_xv_Earlier_0_day := ⟨⟨c_Earlier, i_Earlier, _, _, _, XX_Earlier, xi_Earlier BB_CardError XX_Earlier FX_Earlier, bi_kw [(2, 0)] (fun vs zs h1 h2 => match vs, zs, h1, h2 with | [], [_], _, _ => rfl) (fun us ws h1 h2 => match us, ws, h1, h2 with | [_], [_], _, _ => rfl), rfl⟩⟩
  have K_xv_Ring_0_names : XvT l.prog w ⟨K, mg, none⟩ base "Ring" 1 0 ["names"] ["names"] g_xv_Ring_0_names := ⟨⟨c_Ring, i_Ring, _, _, _, XX_Ring, xi_Ring BB_CardError XX_Ring FX_Ring, bi_kw [(2, 0)] (fun vs zs h1 h2 => match vs, zs, h1, h2 with | [], [_], _, _ => rfl) (fun us ws h1 h2 => match us, ws, h1, h2 with | [_], [_], _, _ => rfl), rfl⟩⟩
  have K_xv_WrongPhoto_1_y_x : XvT l.prog w ⟨K, mg, none⟩ base "WrongPhoto" 1 1 ["number", "x", "y"] ["y", "x"] g_xv_WrongPhoto_1_y_x := ⟨⟨c_WrongPhoto, i_WrongPhoto, _, _, _, XX_WrongPhoto, xi_WrongPhoto BB_CardError XX_WrongPhoto FX_WrongPhoto, bi_kw [(0, 0), (2, 1), (2, 0)] (fun vs zs h1 h2 => match vs, zs, h1, h2 with | [_], [_, _], _, _ => rfl) (fun us ws h1 h2 => match us, ws, h1, h2 with | [_, _], [_, _], _, _ => rfl), rfl⟩⟩
  have K_xv_NoCard_0_name : XvT l.prog w ⟨K, mg, none⟩ base "NoCard" 1 0 ["name"] ["name"] g_xv_NoCard_0_name := ⟨⟨c_NoCard, i_NoCard, _, _, _, XX_NoCard, xi_NoCard BB_CardError XX_NoCard FX_NoCard, bi_kw [(2, 0)] (fun vs zs h1 h2 => match vs, zs, h1, h2 with | [], [_], _, _ => rfl) (fun us ws h1 h2 => match us, ws, h1, h2 with | [_], [_], _, _ => rfl), rfl⟩⟩
  have K_exc_BadPhoto : XoT ⟨K, mg, none⟩ "BadPhoto" := ⟨⟨c_BadPhoto, PySem.W.mg_of X G0 a_BadPhoto, xw_BadPhoto, kp_BadPhoto, ex_BadPhoto, ty_BadPhoto⟩⟩
  have K_xv_NoLine_0_line : XvT l.prog w ⟨K, mg, none⟩ base "NoLine" 1 0 ["line"] ["line"] g_xv_NoLine_0_line := ⟨⟨c_NoLine, i_NoLine, _, _, _, XX_NoLine, xi_NoLine BB_CardError XX_NoLine FX_NoLine, bi_kw [(2, 0)] (fun vs zs h1 h2 => match vs, zs, h1, h2 with | [], [_], _, _ => rfl) (fun us ws h1 h2 => match us, ws, h1, h2 with | [_], [_], _, _ => rfl), rfl⟩⟩
  have P_law_made := fn_law_made (P := l.prog) (w := w) (base := base) T F_law_made K_law_thing K_xv_BadBoard_0_high_wide K_xv_BadDeed_1 K_xv_BadCard_0_field K_xv_NoText_1 K_xv_NoBoard_1_why K_xv_NotTold_0_moment K_xv_Told_1 K_xv_Earlier_0_day K_xv_Ring_0_names K_xv_WrongPhoto_1_y_x K_xv_NoCard_0_name K_exc_BadPhoto K_xv_NoLine_0_line
  have P_law_kinds := fn_law_kinds (P := l.prog) (w := w) (base := base) T F_law_kinds
  have P_law_values := fn_law_values (P := l.prog) (w := w) (base := base) T F_law_values
  have K_law_begin : KnT l.prog w ⟨K, mg, none⟩ base false "_law_begin" 1 2 [] (fun ds _ => ds) m_law_begin := kn_pos P_law_begin (PySem.W.mg_of X G0 a_law_begin) k_law_begin (fun us hl => match us, hl with | [_, _], _ => rfl)
  have K_law_made : KnT l.prog w ⟨K, mg, none⟩ base false "_law_made" 3 1 [] (fun ds _ => ds) m_law_made := kn_pos P_law_made (PySem.W.mg_of X G0 a_law_made) k_law_made (fun us hl => match us, hl with | [_], _ => rfl)
  have K_law_kinds : KnT l.prog w ⟨K, mg, none⟩ base false "_law_kinds" 1 1 [] (fun ds _ => ds) m_law_kinds := kn_pos P_law_kinds (PySem.W.mg_of X G0 a_law_kinds) k_law_kinds (fun us hl => match us, hl with | [_], _ => rfl)
  have K_law_values : KnT l.prog w ⟨K, mg, none⟩ base false "_law_values" 1 2 [] (fun ds _ => ds) m_law_values := kn_pos P_law_values (PySem.W.mg_of X G0 a_law_values) k_law_values (fun us hl => match us, hl with | [_, _], _ => rfl)
  have P_law := fn_law (P := l.prog) (w := w) (base := base) T F_law M K_law_begin K_law_made K_law_kinds K_law_values
  exact P_law
end F06
open PySem PySem.W PyProof.Rows L2 L2.Pc L2.Tr in
set_option maxRecDepth 100000 in
set_option maxHeartbeats 0 in
set_option pp.maxSteps 60 in
theorem PySem.Challenge.cw_pinnedcards_k06_refusals_by_hand_holds : PySem.Challenge.rw_pinnedcards_k06_refusals_by_hand.Holds := by
  w_on; o_law; k_head; (case hw => w_witness2)
  k_fill
  refine walkT (n := 63) (k := 4) (gb := true) (x := "_law_script") (m := F06.m_law) rfl (by decide) (by decide +kernel) rfl ⟨rfl, by decide, by decide⟩ (fun w h Y => PySem.W.kIn_of Y) ?F F06.law_true
  case F =>
    intro w mg fa h KX G hmg
    refine' F06.all_mk KX G hmg ?a_CardError ?ty_CardError ?ex_CardError ?is_CardError ?sp_CardError ?rd_CardError ?fi_CardError ?a_BadPhoto ?ty_BadPhoto ?ex_BadPhoto ?is_BadPhoto ?xw_BadPhoto ?kp_BadPhoto ?ga_BadPhoto ?gg_BadPhoto ?sp_BadPhoto ?rd_BadPhoto ?fi_BadPhoto ?a_NoText ?ty_NoText ?ex_NoText ?is_NoText ?xl_NoText ?xr_NoText ?sa_NoText ?kp_NoText ?ga_NoText ?gg_NoText ?hd_NoText ?ii_NoText ?it_NoText ?ss_NoText ?no_text_NoText ?l_NoText_init ?c_NoText_init ?a_BadCard ?ty_BadCard ?ex_BadCard ?is_BadCard ?xl_BadCard ?xr_BadCard ?sa_BadCard ?kp_BadCard ?ga_BadCard ?gg_BadCard ?hd_BadCard ?ii_BadCard ?it_BadCard ?ss_BadCard ?no_field_BadCard ?l_BadCard_init ?c_BadCard_init ?a_BadDeed ?ty_BadDeed ?ex_BadDeed ?is_BadDeed ?xl_BadDeed ?xr_BadDeed ?sa_BadDeed ?kp_BadDeed ?ga_BadDeed ?gg_BadDeed ?hd_BadDeed ?ii_BadDeed ?it_BadDeed ?ss_BadDeed ?no_field_BadDeed ?l_BadDeed_init ?c_BadDeed_init ?a_BadBoard ?ty_BadBoard ?ex_BadBoard ?is_BadBoard ?xl_BadBoard ?xr_BadBoard ?sa_BadBoard ?kp_BadBoard ?ga_BadBoard ?gg_BadBoard ?hd_BadBoard ?ii_BadBoard ?it_BadBoard ?ss_BadBoard ?no_wide_BadBoard ?no_high_BadBoard ?l_BadBoard_init ?c_BadBoard_init ?a_Earlier ?ty_Earlier ?ex_Earlier ?is_Earlier ?xl_Earlier ?xr_Earlier ?sa_Earlier ?kp_Earlier ?ga_Earlier ?gg_Earlier ?hd_Earlier ?ii_Earlier ?it_Earlier ?ss_Earlier ?no_day_Earlier ?l_Earlier_init ?c_Earlier_init ?a_Told ?ty_Told ?ex_Told ?is_Told ?xl_Told ?xr_Told ?sa_Told ?kp_Told ?ga_Told ?gg_Told ?hd_Told ?ii_Told ?it_Told ?ss_Told ?no_deed_Told ?l_Told_init ?c_Told_init ?a_NotTold ?ty_NotTold ?ex_NotTold ?is_NotTold ?xl_NotTold ?xr_NotTold ?sa_NotTold ?kp_NotTold ?ga_NotTold ?gg_NotTold ?hd_NotTold ?ii_NotTold ?it_NotTold ?ss_NotTold ?no_moment_NotTold ?l_NotTold_init ?c_NotTold_init ?a_NoBoard ?ty_NoBoard ?ex_NoBoard ?is_NoBoard ?xl_NoBoard ?xr_NoBoard ?sa_NoBoard ?kp_NoBoard ?ga_NoBoard ?gg_NoBoard ?hd_NoBoard ?ii_NoBoard ?it_NoBoard ?ss_NoBoard ?no_line_NoBoard ?no_why_NoBoard ?l_NoBoard_init ?c_NoBoard_init ?a_NoCard ?ty_NoCard ?ex_NoCard ?is_NoCard ?xl_NoCard ?xr_NoCard ?sa_NoCard ?kp_NoCard ?ga_NoCard ?gg_NoCard ?hd_NoCard ?ii_NoCard ?it_NoCard ?ss_NoCard ?no_name_NoCard ?l_NoCard_init ?c_NoCard_init ?a_WrongPhoto ?ty_WrongPhoto ?ex_WrongPhoto ?is_WrongPhoto ?xl_WrongPhoto ?xr_WrongPhoto ?sa_WrongPhoto ?kp_WrongPhoto ?ga_WrongPhoto ?gg_WrongPhoto ?hd_WrongPhoto ?ii_WrongPhoto ?it_WrongPhoto ?ss_WrongPhoto ?no_number_WrongPhoto ?no_x_WrongPhoto ?no_y_WrongPhoto ?l_WrongPhoto_init ?c_WrongPhoto_init ?a_Ring ?ty_Ring ?ex_Ring ?is_Ring ?xl_Ring ?xr_Ring ?sa_Ring ?kp_Ring ?ga_Ring ?gg_Ring ?hd_Ring ?ii_Ring ?it_Ring ?ss_Ring ?no_names_Ring ?l_Ring_init ?c_Ring_init ?a_NoLine ?ty_NoLine ?ex_NoLine ?is_NoLine ?xl_NoLine ?xr_NoLine ?sa_NoLine ?kp_NoLine ?ga_NoLine ?gg_NoLine ?hd_NoLine ?ii_NoLine ?it_NoLine ?ss_NoLine ?no_line_NoLine ?l_NoLine_init ?c_NoLine_init ?xg ?xt ?cl_BadBoard ?ob_BadBoard ?cl_BadCard ?ob_BadCard ?cl_BadDeed ?ob_BadDeed ?cl_BadPhoto ?ob_BadPhoto ?ss_BadPhoto ?cl_CardError ?ob_CardError ?ss_CardError ?cl_Earlier ?ob_Earlier ?cl_NoBoard ?ob_NoBoard ?cl_NoCard ?ob_NoCard ?cl_NoLine ?ob_NoLine ?cl_NoText ?ob_NoText ?cl_NotTold ?ob_NotTold ?cl_Ring ?ob_Ring ?cl_Told ?ob_Told ?cl_WrongPhoto ?ob_WrongPhoto ?su_NoText_BadBoard ?su_NoText_BadCard ?su_NoText_BadDeed ?su_NoText_BadPhoto ?su_NoText_CardError ?su_NoText_Earlier ?su_NoText_NoBoard ?su_NoText_NoCard ?su_NoText_NoLine ?su_NoText_NotTold ?su_NoText_Ring ?su_NoText_Told ?su_NoText_WrongPhoto ?sb_NoText_ValueError ?su_BadCard_BadBoard ?su_BadCard_BadDeed ?su_BadCard_BadPhoto ?su_BadCard_CardError ?su_BadCard_Earlier ?su_BadCard_NoBoard ?su_BadCard_NoCard ?su_BadCard_NoLine ?su_BadCard_NoText ?su_BadCard_NotTold ?su_BadCard_Ring ?su_BadCard_Told ?su_BadCard_WrongPhoto ?sb_BadCard_ValueError ?su_BadDeed_BadBoard ?su_BadDeed_BadCard ?su_BadDeed_BadPhoto ?su_BadDeed_CardError ?su_BadDeed_Earlier ?su_BadDeed_NoBoard ?su_BadDeed_NoCard ?su_BadDeed_NoLine ?su_BadDeed_NoText ?su_BadDeed_NotTold ?su_BadDeed_Ring ?su_BadDeed_Told ?su_BadDeed_WrongPhoto ?sb_BadDeed_ValueError ?su_BadBoard_BadCard ?su_BadBoard_BadDeed ?su_BadBoard_BadPhoto ?su_BadBoard_CardError ?su_BadBoard_Earlier ?su_BadBoard_NoBoard ?su_BadBoard_NoCard ?su_BadBoard_NoLine ?su_BadBoard_NoText ?su_BadBoard_NotTold ?su_BadBoard_Ring ?su_BadBoard_Told ?su_BadBoard_WrongPhoto ?sb_BadBoard_ValueError ?su_Earlier_BadBoard ?su_Earlier_BadCard ?su_Earlier_BadDeed ?su_Earlier_BadPhoto ?su_Earlier_CardError ?su_Earlier_NoBoard ?su_Earlier_NoCard ?su_Earlier_NoLine ?su_Earlier_NoText ?su_Earlier_NotTold ?su_Earlier_Ring ?su_Earlier_Told ?su_Earlier_WrongPhoto ?sb_Earlier_ValueError ?su_Told_BadBoard ?su_Told_BadCard ?su_Told_BadDeed ?su_Told_BadPhoto ?su_Told_CardError ?su_Told_Earlier ?su_Told_NoBoard ?su_Told_NoCard ?su_Told_NoLine ?su_Told_NoText ?su_Told_NotTold ?su_Told_Ring ?su_Told_WrongPhoto ?sb_Told_ValueError ?su_NotTold_BadBoard ?su_NotTold_BadCard ?su_NotTold_BadDeed ?su_NotTold_BadPhoto ?su_NotTold_CardError ?su_NotTold_Earlier ?su_NotTold_NoBoard ?su_NotTold_NoCard ?su_NotTold_NoLine ?su_NotTold_NoText ?su_NotTold_Ring ?su_NotTold_Told ?su_NotTold_WrongPhoto ?sb_NotTold_ValueError ?su_NoBoard_BadBoard ?su_NoBoard_BadCard ?su_NoBoard_BadDeed ?su_NoBoard_BadPhoto ?su_NoBoard_CardError ?su_NoBoard_Earlier ?su_NoBoard_NoCard ?su_NoBoard_NoLine ?su_NoBoard_NoText ?su_NoBoard_NotTold ?su_NoBoard_Ring ?su_NoBoard_Told ?su_NoBoard_WrongPhoto ?sb_NoBoard_ValueError ?su_NoCard_BadBoard ?su_NoCard_BadCard ?su_NoCard_BadDeed ?su_NoCard_BadPhoto ?su_NoCard_CardError ?su_NoCard_Earlier ?su_NoCard_NoBoard ?su_NoCard_NoLine ?su_NoCard_NoText ?su_NoCard_NotTold ?su_NoCard_Ring ?su_NoCard_Told ?su_NoCard_WrongPhoto ?sb_NoCard_ValueError ?su_WrongPhoto_BadBoard ?su_WrongPhoto_BadCard ?su_WrongPhoto_BadDeed ?su_WrongPhoto_BadPhoto ?su_WrongPhoto_CardError ?su_WrongPhoto_Earlier ?su_WrongPhoto_NoBoard ?su_WrongPhoto_NoCard ?su_WrongPhoto_NoLine ?su_WrongPhoto_NoText ?su_WrongPhoto_NotTold ?su_WrongPhoto_Ring ?su_WrongPhoto_Told ?sb_WrongPhoto_ValueError ?su_Ring_BadBoard ?su_Ring_BadCard ?su_Ring_BadDeed ?su_Ring_BadPhoto ?su_Ring_CardError ?su_Ring_Earlier ?su_Ring_NoBoard ?su_Ring_NoCard ?su_Ring_NoLine ?su_Ring_NoText ?su_Ring_NotTold ?su_Ring_Told ?su_Ring_WrongPhoto ?sb_Ring_ValueError ?su_NoLine_BadBoard ?su_NoLine_BadCard ?su_NoLine_BadDeed ?su_NoLine_BadPhoto ?su_NoLine_CardError ?su_NoLine_Earlier ?su_NoLine_NoBoard ?su_NoLine_NoCard ?su_NoLine_NoText ?su_NoLine_NotTold ?su_NoLine_Ring ?su_NoLine_Told ?su_NoLine_WrongPhoto ?sb_NoLine_ValueError ?su_BadPhoto_BadBoard ?su_BadPhoto_BadCard ?su_BadPhoto_BadDeed ?su_BadPhoto_CardError ?su_BadPhoto_Earlier ?su_BadPhoto_NoBoard ?su_BadPhoto_NoCard ?su_BadPhoto_NoLine ?su_BadPhoto_NoText ?su_BadPhoto_NotTold ?su_BadPhoto_Ring ?su_BadPhoto_Told ?su_BadPhoto_WrongPhoto ?sb_BadPhoto_ValueError ?a_law_begin ?l_law_begin ?c_law_begin ?k_law_begin ?a_law_draw ?l_law_draw ?c_law_draw ?k_law_draw ?a_law_thing ?l_law_thing ?c_law_thing ?k_law_thing ?a_law_made ?l_law_made ?c_law_made ?k_law_made ?a_law_kinds ?l_law_kinds ?c_law_kinds ?k_law_kinds ?a_law_values ?l_law_values ?c_law_values ?k_law_values ?a_law ?l_law ?c_law ?k_law ?b_ValueError ?b_abs ?b_enumerate ?b_int ?b_isinstance ?b_len ?b_range ?b_repr
    (case a_CardError => k_is)
    (case a_BadPhoto => k_is)
    (case a_NoText => k_is)
    (case a_BadCard => k_is)
    (case a_BadDeed => k_is)
    (case a_BadBoard => k_is)
    (case a_Earlier => k_is)
    (case a_Told => k_is)
    (case a_NotTold => k_is)
    (case a_NoBoard => k_is)
    (case a_NoCard => k_is)
    (case a_WrongPhoto => k_is)
    (case a_Ring => k_is)
    (case a_NoLine => k_is)
    (case a_law_begin => k_is)
    (case a_law_draw => k_is)
    (case a_law_thing => k_is)
    (case a_law_made => k_is)
    (case a_law_kinds => k_is)
    (case a_law_values => k_is)
    (case a_law => k_is)
    (case ty_CardError => k_is)
    (case ex_CardError => k_is)
    (case is_CardError => k_is)
    (case sp_CardError => k_is)
    (case rd_CardError => k_is)
    (case fi_CardError => k_is)
    (case ty_BadPhoto => k_is)
    (case ex_BadPhoto => k_is)
    (case is_BadPhoto => k_is)
    (case xw_BadPhoto => k_exc)
    (case kp_BadPhoto => k_is)
    (case ga_BadPhoto => k_is)
    (case gg_BadPhoto => k_is)
    (case sp_BadPhoto => k_is)
    (case rd_BadPhoto => k_is)
    (case fi_BadPhoto => k_is)
    (case ty_NoText => k_is)
    (case ex_NoText => k_is)
    (case is_NoText => k_is)
    (case xl_NoText => k_is)
    (case xr_NoText => decide +kernel)
    (case sa_NoText => k_is)
    (case kp_NoText => k_is)
    (case ga_NoText => k_is)
    (case gg_NoText => k_is)
    (case hd_NoText => k_is)
    (case ii_NoText => k_is)
    (case it_NoText => k_is)
    (case ss_NoText => first | rfl | k_is)
    (case no_text_NoText => k_is)
    (case l_NoText_init => k_is)
    (case c_NoText_init => k_is)
    (case ty_BadCard => k_is)
    (case ex_BadCard => k_is)
    (case is_BadCard => k_is)
    (case xl_BadCard => k_is)
    (case xr_BadCard => decide +kernel)
    (case sa_BadCard => k_is)
    (case kp_BadCard => k_is)
    (case ga_BadCard => k_is)
    (case gg_BadCard => k_is)
    (case hd_BadCard => k_is)
    (case ii_BadCard => k_is)
    (case it_BadCard => k_is)
    (case ss_BadCard => first | rfl | k_is)
    (case no_field_BadCard => k_is)
    (case l_BadCard_init => k_is)
    (case c_BadCard_init => k_is)
    (case ty_BadDeed => k_is)
    (case ex_BadDeed => k_is)
    (case is_BadDeed => k_is)
    (case xl_BadDeed => k_is)
    (case xr_BadDeed => decide +kernel)
    (case sa_BadDeed => k_is)
    (case kp_BadDeed => k_is)
    (case ga_BadDeed => k_is)
    (case gg_BadDeed => k_is)
    (case hd_BadDeed => k_is)
    (case ii_BadDeed => k_is)
    (case it_BadDeed => k_is)
    (case ss_BadDeed => first | rfl | k_is)
    (case no_field_BadDeed => k_is)
    (case l_BadDeed_init => k_is)
    (case c_BadDeed_init => k_is)
    (case ty_BadBoard => k_is)
    (case ex_BadBoard => k_is)
    (case is_BadBoard => k_is)
    (case xl_BadBoard => k_is)
    (case xr_BadBoard => decide +kernel)
    (case sa_BadBoard => k_is)
    (case kp_BadBoard => k_is)
    (case ga_BadBoard => k_is)
    (case gg_BadBoard => k_is)
    (case hd_BadBoard => k_is)
    (case ii_BadBoard => k_is)
    (case it_BadBoard => k_is)
    (case ss_BadBoard => first | rfl | k_is)
    (case no_wide_BadBoard => k_is)
    (case no_high_BadBoard => k_is)
    (case l_BadBoard_init => k_is)
    (case c_BadBoard_init => k_is)
    (case ty_Earlier => k_is)
    (case ex_Earlier => k_is)
    (case is_Earlier => k_is)
    (case xl_Earlier => k_is)
    (case xr_Earlier => decide +kernel)
    (case sa_Earlier => k_is)
    (case kp_Earlier => k_is)
    (case ga_Earlier => k_is)
    (case gg_Earlier => k_is)
    (case hd_Earlier => k_is)
    (case ii_Earlier => k_is)
    (case it_Earlier => k_is)
    (case ss_Earlier => first | rfl | k_is)
    (case no_day_Earlier => k_is)
    (case l_Earlier_init => k_is)
    (case c_Earlier_init => k_is)
    (case ty_Told => k_is)
    (case ex_Told => k_is)
    (case is_Told => k_is)
    (case xl_Told => k_is)
    (case xr_Told => decide +kernel)
    (case sa_Told => k_is)
    (case kp_Told => k_is)
    (case ga_Told => k_is)
    (case gg_Told => k_is)
    (case hd_Told => k_is)
    (case ii_Told => k_is)
    (case it_Told => k_is)
    (case ss_Told => first | rfl | k_is)
    (case no_deed_Told => k_is)
    (case l_Told_init => k_is)
    (case c_Told_init => k_is)
    (case ty_NotTold => k_is)
    (case ex_NotTold => k_is)
    (case is_NotTold => k_is)
    (case xl_NotTold => k_is)
    (case xr_NotTold => decide +kernel)
    (case sa_NotTold => k_is)
    (case kp_NotTold => k_is)
    (case ga_NotTold => k_is)
    (case gg_NotTold => k_is)
    (case hd_NotTold => k_is)
    (case ii_NotTold => k_is)
    (case it_NotTold => k_is)
    (case ss_NotTold => first | rfl | k_is)
    (case no_moment_NotTold => k_is)
    (case l_NotTold_init => k_is)
    (case c_NotTold_init => k_is)
    (case ty_NoBoard => k_is)
    (case ex_NoBoard => k_is)
    (case is_NoBoard => k_is)
    (case xl_NoBoard => k_is)
    (case xr_NoBoard => decide +kernel)
    (case sa_NoBoard => k_is)
    (case kp_NoBoard => k_is)
    (case ga_NoBoard => k_is)
    (case gg_NoBoard => k_is)
    (case hd_NoBoard => k_is)
    (case ii_NoBoard => k_is)
    (case it_NoBoard => k_is)
    (case ss_NoBoard => first | rfl | k_is)
    (case no_line_NoBoard => k_is)
    (case no_why_NoBoard => k_is)
    (case l_NoBoard_init => k_is)
    (case c_NoBoard_init => k_is)
    (case ty_NoCard => k_is)
    (case ex_NoCard => k_is)
    (case is_NoCard => k_is)
    (case xl_NoCard => k_is)
    (case xr_NoCard => decide +kernel)
    (case sa_NoCard => k_is)
    (case kp_NoCard => k_is)
    (case ga_NoCard => k_is)
    (case gg_NoCard => k_is)
    (case hd_NoCard => k_is)
    (case ii_NoCard => k_is)
    (case it_NoCard => k_is)
    (case ss_NoCard => first | rfl | k_is)
    (case no_name_NoCard => k_is)
    (case l_NoCard_init => k_is)
    (case c_NoCard_init => k_is)
    (case ty_WrongPhoto => k_is)
    (case ex_WrongPhoto => k_is)
    (case is_WrongPhoto => k_is)
    (case xl_WrongPhoto => k_is)
    (case xr_WrongPhoto => decide +kernel)
    (case sa_WrongPhoto => k_is)
    (case kp_WrongPhoto => k_is)
    (case ga_WrongPhoto => k_is)
    (case gg_WrongPhoto => k_is)
    (case hd_WrongPhoto => k_is)
    (case ii_WrongPhoto => k_is)
    (case it_WrongPhoto => k_is)
    (case ss_WrongPhoto => first | rfl | k_is)
    (case no_number_WrongPhoto => k_is)
    (case no_x_WrongPhoto => k_is)
    (case no_y_WrongPhoto => k_is)
    (case l_WrongPhoto_init => k_is)
    (case c_WrongPhoto_init => k_is)
    (case ty_Ring => k_is)
    (case ex_Ring => k_is)
    (case is_Ring => k_is)
    (case xl_Ring => k_is)
    (case xr_Ring => decide +kernel)
    (case sa_Ring => k_is)
    (case kp_Ring => k_is)
    (case ga_Ring => k_is)
    (case gg_Ring => k_is)
    (case hd_Ring => k_is)
    (case ii_Ring => k_is)
    (case it_Ring => k_is)
    (case ss_Ring => first | rfl | k_is)
    (case no_names_Ring => k_is)
    (case l_Ring_init => k_is)
    (case c_Ring_init => k_is)
    (case ty_NoLine => k_is)
    (case ex_NoLine => k_is)
    (case is_NoLine => k_is)
    (case xl_NoLine => k_is)
    (case xr_NoLine => decide +kernel)
    (case sa_NoLine => k_is)
    (case kp_NoLine => k_is)
    (case ga_NoLine => k_is)
    (case gg_NoLine => k_is)
    (case hd_NoLine => k_is)
    (case ii_NoLine => k_is)
    (case it_NoLine => k_is)
    (case ss_NoLine => first | rfl | k_is)
    (case no_line_NoLine => k_is)
    (case l_NoLine_init => k_is)
    (case c_NoLine_init => k_is)
    (case xg => k_is)
    (case xt => k_is)
    (case cl_BadBoard => k_is)
    (case ob_BadBoard => k_is)
    (case cl_BadCard => k_is)
    (case ob_BadCard => k_is)
    (case cl_BadDeed => k_is)
    (case ob_BadDeed => k_is)
    (case cl_BadPhoto => k_is)
    (case ob_BadPhoto => k_is)
    (case ss_BadPhoto => first | rfl | k_is)
    (case cl_CardError => k_is)
    (case ob_CardError => k_is)
    (case ss_CardError => first | rfl | k_is)
    (case cl_Earlier => k_is)
    (case ob_Earlier => k_is)
    (case cl_NoBoard => k_is)
    (case ob_NoBoard => k_is)
    (case cl_NoCard => k_is)
    (case ob_NoCard => k_is)
    (case cl_NoLine => k_is)
    (case ob_NoLine => k_is)
    (case cl_NoText => k_is)
    (case ob_NoText => k_is)
    (case cl_NotTold => k_is)
    (case ob_NotTold => k_is)
    (case cl_Ring => k_is)
    (case ob_Ring => k_is)
    (case cl_Told => k_is)
    (case ob_Told => k_is)
    (case cl_WrongPhoto => k_is)
    (case ob_WrongPhoto => k_is)
    (case sb_NoText_ValueError => k_is)
    (case sb_BadCard_ValueError => k_is)
    (case sb_BadDeed_ValueError => k_is)
    (case sb_BadBoard_ValueError => k_is)
    (case sb_Earlier_ValueError => k_is)
    (case sb_Told_ValueError => k_is)
    (case sb_NotTold_ValueError => k_is)
    (case sb_NoBoard_ValueError => k_is)
    (case sb_NoCard_ValueError => k_is)
    (case sb_WrongPhoto_ValueError => k_is)
    (case sb_Ring_ValueError => k_is)
    (case sb_NoLine_ValueError => k_is)
    (case sb_BadPhoto_ValueError => k_is)
    (case l_law_begin => k_is)
    (case c_law_begin => k_is)
    (case k_law_begin => k_is)
    (case l_law_draw => k_is)
    (case c_law_draw => k_is)
    (case k_law_draw => k_is)
    (case l_law_thing => k_is)
    (case c_law_thing => k_is)
    (case k_law_thing => k_is)
    (case l_law_made => k_is)
    (case c_law_made => k_is)
    (case k_law_made => k_is)
    (case l_law_kinds => k_is)
    (case c_law_kinds => k_is)
    (case k_law_kinds => k_is)
    (case l_law_values => k_is)
    (case c_law_values => k_is)
    (case k_law_values => k_is)
    (case l_law => k_is)
    (case c_law => k_is)
    (case k_law => k_is)
    (case b_ValueError => k_is)
    (case b_abs => k_is)
    (case b_enumerate => k_is)
    (case b_int => k_is)
    (case b_isinstance => k_is)
    (case b_len => k_is)
    (case b_range => k_is)
    (case b_repr => k_is)
    (case su_NoText_BadBoard => k_is)
    (case su_NoText_BadCard => k_is)
    (case su_NoText_BadDeed => k_is)
    (case su_NoText_BadPhoto => k_is)
    (case su_NoText_CardError => k_is)
    (case su_NoText_Earlier => k_is)
    (case su_NoText_NoBoard => k_is)
    (case su_NoText_NoCard => k_is)
    (case su_NoText_NoLine => k_is)
    (case su_NoText_NotTold => k_is)
    (case su_NoText_Ring => k_is)
    (case su_NoText_Told => k_is)
    (case su_NoText_WrongPhoto => k_is)
    (case su_BadCard_BadBoard => k_is)
    (case su_BadCard_BadDeed => k_is)
    (case su_BadCard_BadPhoto => k_is)
    (case su_BadCard_CardError => k_is)
    (case su_BadCard_Earlier => k_is)
    (case su_BadCard_NoBoard => k_is)
    (case su_BadCard_NoCard => k_is)
    (case su_BadCard_NoLine => k_is)
    (case su_BadCard_NoText => k_is)
    (case su_BadCard_NotTold => k_is)
    (case su_BadCard_Ring => k_is)
    (case su_BadCard_Told => k_is)
    (case su_BadCard_WrongPhoto => k_is)
    (case su_BadDeed_BadBoard => k_is)
    (case su_BadDeed_BadCard => k_is)
    (case su_BadDeed_BadPhoto => k_is)
    (case su_BadDeed_CardError => k_is)
    (case su_BadDeed_Earlier => k_is)
    (case su_BadDeed_NoBoard => k_is)
    (case su_BadDeed_NoCard => k_is)
    (case su_BadDeed_NoLine => k_is)
    (case su_BadDeed_NoText => k_is)
    (case su_BadDeed_NotTold => k_is)
    (case su_BadDeed_Ring => k_is)
    (case su_BadDeed_Told => k_is)
    (case su_BadDeed_WrongPhoto => k_is)
    (case su_BadBoard_BadCard => k_is)
    (case su_BadBoard_BadDeed => k_is)
    (case su_BadBoard_BadPhoto => k_is)
    (case su_BadBoard_CardError => k_is)
    (case su_BadBoard_Earlier => k_is)
    (case su_BadBoard_NoBoard => k_is)
    (case su_BadBoard_NoCard => k_is)
    (case su_BadBoard_NoLine => k_is)
    (case su_BadBoard_NoText => k_is)
    (case su_BadBoard_NotTold => k_is)
    (case su_BadBoard_Ring => k_is)
    (case su_BadBoard_Told => k_is)
    (case su_BadBoard_WrongPhoto => k_is)
    (case su_Earlier_BadBoard => k_is)
    (case su_Earlier_BadCard => k_is)
    (case su_Earlier_BadDeed => k_is)
    (case su_Earlier_BadPhoto => k_is)
    (case su_Earlier_CardError => k_is)
    (case su_Earlier_NoBoard => k_is)
    (case su_Earlier_NoCard => k_is)
    (case su_Earlier_NoLine => k_is)
    (case su_Earlier_NoText => k_is)
    (case su_Earlier_NotTold => k_is)
    (case su_Earlier_Ring => k_is)
    (case su_Earlier_Told => k_is)
    (case su_Earlier_WrongPhoto => k_is)
    (case su_Told_BadBoard => k_is)
    (case su_Told_BadCard => k_is)
    (case su_Told_BadDeed => k_is)
    (case su_Told_BadPhoto => k_is)
    (case su_Told_CardError => k_is)
    (case su_Told_Earlier => k_is)
    (case su_Told_NoBoard => k_is)
    (case su_Told_NoCard => k_is)
    (case su_Told_NoLine => k_is)
    (case su_Told_NoText => k_is)
    (case su_Told_NotTold => k_is)
    (case su_Told_Ring => k_is)
    (case su_Told_WrongPhoto => k_is)
    (case su_NotTold_BadBoard => k_is)
    (case su_NotTold_BadCard => k_is)
    (case su_NotTold_BadDeed => k_is)
    (case su_NotTold_BadPhoto => k_is)
    (case su_NotTold_CardError => k_is)
    (case su_NotTold_Earlier => k_is)
    (case su_NotTold_NoBoard => k_is)
    (case su_NotTold_NoCard => k_is)
    (case su_NotTold_NoLine => k_is)
    (case su_NotTold_NoText => k_is)
    (case su_NotTold_Ring => k_is)
    (case su_NotTold_Told => k_is)
    (case su_NotTold_WrongPhoto => k_is)
    (case su_NoBoard_BadBoard => k_is)
    (case su_NoBoard_BadCard => k_is)
    (case su_NoBoard_BadDeed => k_is)
    (case su_NoBoard_BadPhoto => k_is)
    (case su_NoBoard_CardError => k_is)
    (case su_NoBoard_Earlier => k_is)
    (case su_NoBoard_NoCard => k_is)
    (case su_NoBoard_NoLine => k_is)
    (case su_NoBoard_NoText => k_is)
    (case su_NoBoard_NotTold => k_is)
    (case su_NoBoard_Ring => k_is)
    (case su_NoBoard_Told => k_is)
    (case su_NoBoard_WrongPhoto => k_is)
    (case su_NoCard_BadBoard => k_is)
    (case su_NoCard_BadCard => k_is)
    (case su_NoCard_BadDeed => k_is)
    (case su_NoCard_BadPhoto => k_is)
    (case su_NoCard_CardError => k_is)
    (case su_NoCard_Earlier => k_is)
    (case su_NoCard_NoBoard => k_is)
    (case su_NoCard_NoLine => k_is)
    (case su_NoCard_NoText => k_is)
    (case su_NoCard_NotTold => k_is)
    (case su_NoCard_Ring => k_is)
    (case su_NoCard_Told => k_is)
    (case su_NoCard_WrongPhoto => k_is)
    (case su_WrongPhoto_BadBoard => k_is)
    (case su_WrongPhoto_BadCard => k_is)
    (case su_WrongPhoto_BadDeed => k_is)
    (case su_WrongPhoto_BadPhoto => k_is)
    (case su_WrongPhoto_CardError => k_is)
    (case su_WrongPhoto_Earlier => k_is)
    (case su_WrongPhoto_NoBoard => k_is)
    (case su_WrongPhoto_NoCard => k_is)
    (case su_WrongPhoto_NoLine => k_is)
    (case su_WrongPhoto_NoText => k_is)
    (case su_WrongPhoto_NotTold => k_is)
    (case su_WrongPhoto_Ring => k_is)
    (case su_WrongPhoto_Told => k_is)
    (case su_Ring_BadBoard => k_is)
    (case su_Ring_BadCard => k_is)
    (case su_Ring_BadDeed => k_is)
    (case su_Ring_BadPhoto => k_is)
    (case su_Ring_CardError => k_is)
    (case su_Ring_Earlier => k_is)
    (case su_Ring_NoBoard => k_is)
    (case su_Ring_NoCard => k_is)
    (case su_Ring_NoLine => k_is)
    (case su_Ring_NoText => k_is)
    (case su_Ring_NotTold => k_is)
    (case su_Ring_Told => k_is)
    (case su_Ring_WrongPhoto => k_is)
    (case su_NoLine_BadBoard => k_is)
    (case su_NoLine_BadCard => k_is)
    (case su_NoLine_BadDeed => k_is)
    (case su_NoLine_BadPhoto => k_is)
    (case su_NoLine_CardError => k_is)
    (case su_NoLine_Earlier => k_is)
    (case su_NoLine_NoBoard => k_is)
    (case su_NoLine_NoCard => k_is)
    (case su_NoLine_NoText => k_is)
    (case su_NoLine_NotTold => k_is)
    (case su_NoLine_Ring => k_is)
    (case su_NoLine_Told => k_is)
    (case su_NoLine_WrongPhoto => k_is)
    (case su_BadPhoto_BadBoard => k_is)
    (case su_BadPhoto_BadCard => k_is)
    (case su_BadPhoto_BadDeed => k_is)
    (case su_BadPhoto_CardError => k_is)
    (case su_BadPhoto_Earlier => k_is)
    (case su_BadPhoto_NoBoard => k_is)
    (case su_BadPhoto_NoCard => k_is)
    (case su_BadPhoto_NoLine => k_is)
    (case su_BadPhoto_NoText => k_is)
    (case su_BadPhoto_NotTold => k_is)
    (case su_BadPhoto_Ring => k_is)
    (case su_BadPhoto_Told => k_is)
    (case su_BadPhoto_WrongPhoto => k_is)
