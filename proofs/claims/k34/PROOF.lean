import PyProof.Rows.All
import Wide.All
import OpenK.AllK
import Wide.FinOn
import HandS.ForMost
import HandS.Defaults
import HandS.IsInst
import HandS.Deep
import HandS.StrMore
import HandS.Wide
import HandS.Ends
import PyProof.ReprRoads
import HandS.ExcInit
import HandS.ExcField
import HandS.ExcOwn
import HandS.WordsExc
import HandS.TryOnly
import KE.IntTextLaws
import HandS.RaiseMore
import HandS.Style
import HandS.TupAny
import HandS.Rev
import HandS.Zip
import HandS.Small
import HandS.Flt
import HandS.MakeKw
import HandS.FStr
import KE.KCallOwn
import PyProof.InstNe
import PyProof.NeKinds
import PyProof.SeqInW
import HandS.OwnEq
import HandS.More
import HandS.TupLe
import KE.GoesMore
import HandS.TupMul
import HandS.Conv
import HandS.Iter
import HandS.SortRule
import HandS.SortInts
import KE.DataMinMax
import KE.SortData
import HandS.Strs
import KE.GoesZip
import HandS.SetFor
import HandS.TupSets
import HandS.SetKeys
import HandS.Flow
import PyProof.DictMoreH
import KE.KSortTupG
import HandS.DictTup
import HandS.ExcIs
import KE.KExcIs
import PySem.Challenge.RW_pinnedcards_k34_what_is_no_photograph
set_option Elab.async false
set_option linter.all false
set_option maxRecDepth 100000
set_option maxHeartbeats 4000000
namespace L2.Pc
open PySem PySem.Spec PyProof.Rows
/-! ### defs whose frame no builtin repr surrounds: the promise -/
structure FnG (P : Program) (w : World) (K : PySem.W.Frag) (mg : Str → Option Value) (base : Heap)
    (CX : CXT) (k : Nat) (f : Addr) (fd : FuncData) (ps : List Str) (sp : Sp) : Prop where
  len : ∀ vs H Q E, sp vs H Q E → vs.length = ps.length
  go : ∀ (A : Around) (outer : List Env) (s : Shared) (H : Hp) (args : Args) (us : List Value)
    (vs : List V) (Q : VK) (E : XK), A.guards = some [] → Room k A → Env0 P w K mg base A outer s H →
    BindsTo s fd args (ps.zip us) → Vals vs us → sp vs H Q E →
    codeAny (model P w) A (.call (.ref f) args) (CR CX outer P w H s Q E) s
section
variable {P : Program} {w : World} {K : PySem.W.Frag} {mg : Str → Option Value} {base : Heap}
  {CX : CXT} {f : Addr} {fd : FuncData} {N ps : List Str} {sp sp' : Sp} {k j : Nat}
theorem FnG.mono (F : FnG P w K mg base CX j f fd ps sp) (h : j ≤ k) : FnG P w K mg base CX k f fd ps sp :=
  ⟨F.len, fun A o s H a us vs Q E g r => F.go A o s H a us vs Q E g (r.mono h)⟩
theorem FnG.imp (F : FnG P w K mg base CX k f fd ps sp) (h : ∀ vs H Q E, sp' vs H Q E → sp vs H Q E) :
    FnG P w K mg base CX k f fd ps sp' :=
  ⟨fun vs H Q E q => F.len vs H Q E (h _ _ _ _ q),
   fun A o s H a us vs Q E g r e b v q => F.go A o s H a us vs Q E g r e b v (h _ _ _ _ q)⟩
/-- a def as it stands behind the top, its defaults of any form -/
structure Df (K : PySem.W.Frag) (x qual : Str) (st : Stmt) (f : Addr) (fd : FuncData) : Prop where
  ex : ∃ (oc : Value) (od : Option Addr) (dV kV doc pm : Value) (an : Option Addr) (cdv ct : Value)
      (osl : Array (Option Value)),
    fd = PySem.W.fnOf x qual (defArgs st) (defBody st) (defScope st) dV kV doc pm an cdv ct ∧
    K.lookup f = some ⟨oc, od, .func fd, osl⟩ ∧ PySem.W.codeIn K cdv qual = true
theorem guards_deep {A : Around} {env : Env} (h : A.guards = some []) : (A.deeper env).guards = some [] := h
/-- the def's body, as a term of rules, and its reading -/
theorem Df.ok {x qual : Str} {st : Stmt} (F : Df K x qual st f fd) (S : FnScope N ps (defScope st))
    (len : ∀ vs H Q E, sp vs H Q E → vs.length = ps.length)
    (hb : ∀ (cdv : Value) (A : Around) (outer : List Env) (s : Shared) (H : Hp) (vs : List V) (Q : VK) (E : XK),
      (A.deeper (envOfC qual (defScope st) s.heap.objs.size f cdv)).guards = some [] →
      Room k (A.deeper (envOfC qual (defScope st) s.heap.objs.size f cdv)) → sp vs H Q E →
      ∃ t, PSs (cxOf CX P w K mg base N qual (defScope st) f cdv A outer s H E) (defBody st) t ∧
        t { nx := fun _ H' => Q .non H', rt := Q } (start N vs) H) :
    FnG P w K mg base CX (k + 1) f fd ps sp := by
  obtain ⟨oc, od, dV, kV, doc, pm, an, cdv, ct, osl, rfl, lk, hc⟩ := F.ex
  refine ⟨len, fun A outer s H args us vs Q E hga hr e0 hbi r hsp => ?_⟩
  have hlen := len _ _ _ _ hsp
  have kin : K.In s.heap := e0.mod.kin.keeps (fun b o e => (e0.bs b o e).1)
  have hlm : s.heap.NoLimit := e0.mod.nolimit.keeps (fun b o e => (e0.bs b o e).1)
  have kinds : ∀ y ∈ ps.zip us, (defScope st).names.lookup y.1 = some .local ∨
      ((defScope st).names.lookup y.1 = some .cell ∧
        ((cellsFrom (s.heap.objs.size + 1) (defScope st).names []).lookup y.1).isSome = true) := by
    rintro ⟨n, v⟩ hy
    rcases S.par n (List.of_mem_zip hy).1 with h1 | h1
    · left; exact h1
    · right; exact ⟨h1, PySem.W.cellsFrom_some _ _ _ (Or.inl h1)⟩
  apply codeAny_call_function hr.depth (kin _ _ lk) rfl S.co S.gen rfl (PySem.W.codeRec_of kin hc) (hbi _ _ _ _ ?_)
  apply wpAny_newFunctionEnv_cells S.kind kinds
  intro env he s1 hx
  subst he
  refine ⟨hlm.keeps hx.toInCall.keep, codeAny_func ?_⟩
  obtain ⟨t, ht, hq⟩ := hb cdv A outer s H vs Q E (guards_deep hga) (hr.deeper _) hsp
  have I0 : Inv (cxOf CX P w K mg base N qual (defScope st) f cdv A outer s H E) [] (start N vs) H s1 :=
    inv_start S hr.hd e0 hlen r hx
  refine wpAny_mono (ht.run [] s1 (start N vs) H _ I0 hq) ?_ (fun e s' hs => hs)
  intro fl s' hs
  cases fl with
  | ret u =>
    obtain ⟨v, σ', H', J, rv, q⟩ := hs
    exact ⟨v, H', J.os, J.bare, J.base, J.hok, rv, q⟩
  | next =>
    obtain ⟨σ', H', J, q⟩ := hs
    exact ⟨V.non, H', J.os, J.bare, J.base, J.hok, rfl, q⟩
  | brk => obtain ⟨_, _, _, q⟩ := hs; exact q.elim
  | cont => obtain ⟨_, _, _, q⟩ := hs; exact q.elim
end
section
variable {X : Cx} {CX : CXT} {k n : Nat} {ks : List Str} {gV : List V → List V → List V} {sp : Sp} {E : XK} {x : Str}
  {p pos : Pos} {e : Expr} {es : List Expr} {kws : List Keyword} {t tk : TA}
def tKn (n m : Nat) (gV : List V → List V → List V) (sp : Sp) (E : XK) (t tk : TA) : TE := fun σ H Q =>
  t σ H fun vs H1 => tk σ H1 fun zs H2 => vs.length = n ∧ zs.length = m ∧ sp (gV vs zs) H2 Q E
end
theorem kb_pos {K : PySem.W.Frag} {fd : FuncData} {ps : List Str} {n : Nat}
    (h : ∀ us : List Value, us.length = n → bindArgs fd ⟨us, []⟩ = pure (ps.zip us)) :
    KBn K fd ps n [] (fun us _ => us) (fun vs _ => vs) :=
  ⟨fun s us ws _ hu _ => by
    have e : ([] : List Str).zip ws = [] := rfl
    rw [e]; exact .of_eq (h us hu), fun r _ => r⟩
end L2.Pc
namespace L2.Pc
open PySem PySem.Spec PyProof.Rows
/-- the modules' dict is the head's, untracked -/
structure Sm (base : Heap) : Prop where
  ns : ∃ m, base.Ns sysModules m
/-! ### the law's call, from such a promise -/
section
variable {P : Program} {w : World} {K : PySem.W.Frag} {mg mb : Str → Option Value} {CX : CXT} {k : Nat}
  {fa a : Addr} {fd : FuncData} {x : Str} {sp : Sp} {s1 : Shared} {vs : List Value} {ns : List Int}
def LawEnd (s1 : Shared) (r : Result) (s' : Shared) : Prop :=
  r = .ok (.ret (.bool true)) ∧ OldK s1.heap s'.heap ∧ s'.os = s1.os ∧ AllBare s'.gens
theorem law_core {H : Hp} (KX : K.In s1.heap) (hns : s1.heap.Ns mainGlobals mg) (hb : s1.heap.Ns builtinsNs mb)
    (hbb : ∀ y : Str, y ≠ "__name__" → mb y = bootBuiltins y) (hlim : s1.heap.NoLimit) (hge : s1.gens = #[])
    (ha : s1.heap.get? a = some { cls := .type "list", data := .seq vs.toArray }) (hr : Room k callerA)
    (hsm : ∃ m, s1.heap.Ns sysModules m) (F : ∀ base : Heap, K.In base → base.Ns mainGlobals mg → Sm base → FnG P w K mg base CX k fa fd [x] sp)
    (hbind : ∀ (s : Shared) (u : Value), BindsTo s fd ⟨[u], []⟩ [(x, u)])
    (hsp : sp [.ref a] H (fun v _ => v = .bl true) fun _ _ _ => False)
    (hCX : ∀ e s', CX [] H s1 (fun _ _ _ => False) e s' → False)
    (hO : Only H) (hok : HOk P w H s1.heap) (hA : ∀ b, H b ≠ none → b = a) (hK : H a ≠ none → K.lookup a = none) :
    codeAny (model P w) callerA (.call (.ref fa) ⟨[.ref a], []⟩) (LawEnd s1) s1 := by
  have keep1 : ∀ {b : Addr} {o : Obj}, s1.heap.get? b = some o → H b = none → (hidT s1.heap H).get? b = some o :=
    fun e n => hidT_get e n
  have isA : ∀ {b : Addr} {u : HO}, H b = some u → b = a := fun {b u} q => hA b (by rw [q]; exact Option.some_ne_none _)
  have nodict : ∀ {b : Addr} {o : Obj} {es : Array DictEntry} {ep : Nat},
      s1.heap.get? b = some o → o.data = .dict es ep → H b = none := by
    intro b o es ep e d
    cases q : H b with
    | none => rfl
    | some u =>
      have e2 := isA q
      subst e2
      rw [ha] at e
      cases e
      cases (show Data.seq vs.toArray _ = Data.dict es ep from d)
  have ns1 : ∀ {b : Addr} {m : Str → Option Value}, s1.heap.Ns b m → (hidT s1.heap H).Ns b m := by
    rintro b m ⟨o, es, ep, e, d, r⟩
    exact ⟨o, es, ep, keep1 e (nodict e d), d, r⟩
  have kin : K.In (hidT s1.heap H) := by
    intro b o e
    refine keep1 (KX b o e) ?_
    cases q : H b with
    | none => rfl
    | some u =>
      have e2 := isA q
      subst e2
      rw [hK (by rw [q]; exact Option.some_ne_none _)] at e
      cases e
  have md : Mod K mg (hidT s1.heap H) :=
    ⟨kin, ns1 hns, ⟨mb, ns1 hb, hbb⟩, by obtain ⟨mc, h1, h2⟩ := hlim; exact ⟨mc, ns1 h1, h2⟩⟩
  have en : Env0 P w K mg (hidT s1.heap H) callerA [] s1 H :=
    ⟨rfl, md, fun b o e => of_hidT e, Nat.le_of_eq (hidT_size _ _), trivial, fun b hb => (nomatch hb), hok, .of_eq hge⟩
  have run := (F _ kin (ns1 hns) (let ⟨m, hm⟩ := hsm; ⟨m, ns1 hm⟩)).go callerA [] s1 H ⟨[.ref a], []⟩ [.ref a] [.ref a] _ _ rfl hr en
    (hbind s1 (.ref a)) (.cons rfl .nil) hsp
  refine codeAny_mono run ?_
  intro r s' h
  cases r with
  | error e => exact (hCX e s' h).elim
  | ok fl =>
    cases fl with
    | next => exact h.elim
    | brk => exact h.elim
    | cont => exact h.elim
    | ret u =>
      obtain ⟨v, H', os, bare, un, hok2, r2, q⟩ := h
      have qv : v = .bl true := q
      subst qv
      have hu : u = Value.bool true := r2
      subst hu
      refine ⟨rfl, OldK.of_keep ?_, os, bare⟩
      intro b o e
      cases q : H b with
      | none => exact un.keep b o e q (fun z => nomatch z) (fun z => nomatch z)
      | some u =>
        rcases hO b with z | ⟨ob, xs, z⟩
        · rw [q] at z
          cases z
        · obtain ⟨e1, _⟩ := hok b _ z
          obtain ⟨e2, _⟩ := hok2 b _ (un.frzs b ob _ z)
          rw [e] at e1
          cases e1
          exact e2
theorem law_callG (KX : K.In s1.heap) (hns : s1.heap.Ns mainGlobals mg) (hb : s1.heap.Ns builtinsNs mb)
    (hbb : ∀ y : Str, y ≠ "__name__" → mb y = bootBuiltins y) (hlim : s1.heap.NoLimit) (hge : s1.gens = #[])
    (ha : s1.heap.get? a = some { cls := .type "list", data := .seq vs.toArray }) (hi : IntsAre vs ns)
    (hl : ns.length ≤ sizeLine) (hr : Room k callerA)
    (hsm : ∃ m, s1.heap.Ns sysModules m) (F : ∀ base : Heap, K.In base → base.Ns mainGlobals mg → Sm base → FnG P w K mg base CX k fa fd [x] sp)
    (hbind : ∀ (s : Shared) (u : Value), BindsTo s fd ⟨[u], []⟩ [(x, u)])
    (hsp : ∀ H : Hp, Only H → SqL K H a (ns.map V.int) → sp [.ref a] H (fun v _ => v = .bl true) fun _ _ _ => False)
    (hCX : ∀ H e s', CX [] H s1 (fun _ _ _ => False) e s' → False) :
    codeAny (model P w) callerA (.call (.ref fa) ⟨[.ref a], []⟩) (LawEnd s1) s1 := by
  have rv := vals_ints hi
  cases hk : K.lookup a with
  | some o =>
    have e := KX a o hk
    rw [ha] at e
    cases e
    have hsz : vs.toArray.size ≤ sizeLine := by rw [List.size_toArray, hi.length]; exact hl
    refine law_core (H := fun _ => none) KX hns hb hbb hlim hge ha hr hsm F hbind ?_ (fun e s' => hCX _ e s')
      (fun _ => Or.inl rfl) (fun b u z => by cases z) (fun b z => absurd rfl z) (fun z => absurd rfl z)
    exact hsp _ (fun _ => Or.inl rfl) (Or.inr ⟨_, vs.toArray, _, hk, rfl, rfl, rfl, hsz, by simpa using rv⟩)
  | none =>
    have hin : (if a = a then some (HO.frz { cls := .type "list", data := .seq vs.toArray } (.lst (ns.map V.int))) else none)
      = some (HO.frz { cls := .type "list", data := .seq vs.toArray } (.lst (ns.map V.int))) := if_pos rfl
    have only : Only (fun b => if b = a then some (.frz { cls := .type "list", data := .seq vs.toArray } (.lst (ns.map V.int))) else none) := by
      intro b
      by_cases hb : b = a
      · right; exact ⟨_, _, if_pos hb⟩
      · left; exact if_neg hb
    refine law_core KX hns hb hbb hlim hge ha hr hsm F hbind (hsp _ only (Or.inl (Or.inr ⟨_, hin⟩))) (fun e s' => hCX _ e s') only ?_ ?_ (fun _ => hk)
    · intro b u z
      by_cases hb : b = a
      · have z2 := (if_pos hb).symm.trans z
        cases z2
        subst hb
        exact ⟨ha, by rw [List.length_map]; exact hl, vs, _, rv, ha⟩
      · have z2 := (if_neg hb).symm.trans z
        cases z2
    · intro b z
      by_cases hb : b = a
      · exact hb
      · exact absurd (if_neg hb) z
end
end L2.Pc
namespace L2.Pc
open PySem PySem.Spec PyProof.Rows
/-! ### what stays: every tracked object but those that are known by a property alone -/
def isX : HO → Bool
  | .ext _ => true
  | _ => false
def Mx (H H' : Hp) : Prop := ∀ a o, H a = some o → isX o = false → H' a = some o
theorem Mx.refl (H : Hp) : Mx H H := fun _ _ h _ => h
theorem Mx.trans {H H1 H2 : Hp} (a : Mx H H1) (b : Mx H1 H2) : Mx H H2 := fun x o h n => b x o (a x o h n) n
theorem _root_.L2.Same.mx {H H' : Hp} (a : Same H H') : Mx H H' := fun x o h _ => a x o h
theorem Mx.at {H H' : Hp} {a : Addr} {o : HO} (e : Mx H H') (h : H a = some o) (n : isX o = false := by rfl) : H' a = some o := e a o h n
theorem _root_.L2.Same.at {H H' : Hp} {a : Addr} {o : HO} (e : Same H H') (h : H a = some o) : H' a = some o := e a o h
theorem _root_.L2.Same.new {H : Hp} {p : Addr} {o : HO} (h : H p = none) : Same H (upd H p o) := fun b x e => by
  rw [upd_ne (ne_of_none e h)]; exact e
theorem Mx.new {H : Hp} {p : Addr} {o : HO} (h : H p = none) : Mx H (upd H p o) := Same.mx (Same.new h)
theorem Mx.free {H H' : Hp} {p : Addr} (e : Same H H') (h : H' p = none) : H p = none := e.free h
theorem _root_.L2.Rd.mx {H H' : Hp} {a : Addr} {u : HO} (e : Mx H H') (n : isX u = false) (h : Rd H a u) : Rd H' a u := by
  rcases h with h | ⟨o, h⟩
  · exact .inl (e a _ h n)
  · exact .inr ⟨o, e a _ h rfl⟩
theorem _root_.L2.SqL.mx {K : PySem.W.Frag} {H H' : Hp} {a : Addr} {xs : List V} (e : Mx H H') (h : SqL K H a xs) : SqL K H' a xs := by
  rcases h with h | h
  · exact .inl (Rd.mx e rfl h)
  · exact .inr h
theorem _root_.L2.SqT.mx {K : PySem.W.Frag} {H H' : Hp} {a : Addr} {xs : List V} (e : Mx H H') (h : SqT K H a xs) : SqT K H' a xs := by
  rcases h with h | h
  · exact .inl (Rd.mx e rfl h)
  · exact .inr h
/-! ### data: None, truths, ints, texts, lists, tuples, dicts of these -/
def keyD : Key → PyData
  | .inl i => .int i
  | .inr x => .str x
mutual
inductive Da (K : PySem.W.Frag) (H : Hp) : V → PyData → Prop
  | non : Da K H .non .none
  | bl (b : Bool) : Da K H (.bl b) (.bool b)
  | int (i : Int) : Da K H (.int i) (.int i)
  | str (x : Str) : Da K H (.str x) (.str x)
  | lst {a : Addr} {xs : List V} {ds : List PyData} : SqL K H a xs → DaAll K H xs ds → Da K H (.ref a) (.list ds)
  | tup {a : Addr} {xs : List V} {ds : List PyData} : SqT K H a xs → DaAll K H xs ds → Da K H (.ref a) (.tuple ds)
  | dct {a : Addr} {kvs : List (Key × V)} {ds : List PyData} : Rd H a (.dK kvs) → DaAll K H (kvs.map (·.2)) ds →
      Da K H (.ref a) (.dict ((kvs.map fun p => keyD p.1).zip ds))
inductive DaAll (K : PySem.W.Frag) (H : Hp) : List V → List PyData → Prop
  | nil : DaAll K H [] []
  | cons {v : V} {vs : List V} {d : PyData} {ds : List PyData} : Da K H v d → DaAll K H vs ds → DaAll K H (v :: vs) (d :: ds)
end
mutual
theorem Da.mx {K : PySem.W.Frag} {H H' : Hp} (e : Mx H H') : ∀ {v : V} {d : PyData}, Da K H v d → Da K H' v d
  | _, _, .non => .non
  | _, _, .bl b => .bl b
  | _, _, .int i => .int i
  | _, _, .str x => .str x
  | _, _, .lst h hs => .lst (SqL.mx e h) (DaAll.mx e hs)
  | _, _, .tup h hs => .tup (SqT.mx e h) (DaAll.mx e hs)
  | _, _, .dct h hs => .dct (Rd.mx e rfl h) (DaAll.mx e hs)
theorem DaAll.mx {K : PySem.W.Frag} {H H' : Hp} (e : Mx H H') : ∀ {vs : List V} {ds : List PyData}, DaAll K H vs ds → DaAll K H' vs ds
  | _, _, .nil => .nil
  | _, _, .cons h hs => .cons (Da.mx e h) (DaAll.mx e hs)
end
theorem DaAll.len {K : PySem.W.Frag} {H : Hp} : ∀ {vs : List V} {ds : List PyData}, DaAll K H vs ds → vs.length = ds.length
  | _, _, .nil => rfl
  | _, _, .cons _ hs => congrArg (· + 1) (DaAll.len hs)
section
variable {X : Cx} {pins : List (Addr × Obj)} {σ : L2.St} {H : Hp} {s : Shared}
theorem Sm.free (M : Sm X.base) (I : Inv X pins σ H s) : H sysModules = none := by
  obtain ⟨m, o, es, ep, h, _⟩ := M.ns
  exact (I.bs _ _ h).2
theorem Sm.noList (M : Sm X.base) (I : Inv X pins σ H s) {a : Addr} {xs : List V} (h : SqL X.K H a xs) : a ≠ sysModules := by
  rintro rfl
  rcases h with (h | ⟨o, h⟩) | ⟨o, its, n, h, _, _, hd, _⟩
  · rw [M.free I] at h; cases h
  · rw [M.free I] at h; cases h
  · obtain ⟨m, o2, es, ep, h2, hd2, _⟩ := M.ns
    have e := I.mod.kin _ _ h
    rw [h2] at e
    cases e
    rw [hd2] at hd
    cases hd
theorem pairs_reads {h : Heap} {P : Program} {w : World} : ∀ {l : List DictEntry} {vs : List (Key × Value)}, Pairs (mixKind P w) l vs →
    ReadsAll h (l.map (·.key)) (vs.map fun p => keyD p.1) []
  | _, _, .nil => .nil
  | e :: l, (k, v) :: vs, .cons h1 h2 h3 => by
    have r := pairs_reads (h := h) h3
    have hk : Reads h e.key (keyD k) [] := by
      rcases keyIs_shape (show keyIs k e.key = true from h1) with ⟨i, t, rfl, e2⟩ | ⟨x, t, rfl, e2⟩
      · rw [e2]; exact .int i t
      · rw [e2]; exact .str x t
    exact ReadsAll.cons hk r
theorem pairs_vals {P : Program} {w : World} : ∀ {l : List DictEntry} {vs : List (Key × Value)}, Pairs (mixKind P w) l vs → l.map (·.val) = vs.map (·.2)
  | _, _, .nil => rfl
  | e :: l, (k, v) :: vs, .cons h1 h2 h3 => by
    rw [List.map_cons, List.map_cons, pairs_vals h3, h2]
theorem kv_vals : ∀ {kvs : List (Key × V)} {vs : List (Key × Value)}, KV kvs vs → Vals (kvs.map (·.2)) (vs.map (·.2)) ∧ kvs.map (fun p => keyD p.1) = vs.map (fun p => keyD p.1)
  | _, _, .nil => ⟨.nil, rfl⟩
  | (k, v) :: kvs, (k2, v2) :: vs, .cons ⟨h1, h2⟩ h3 => by
    obtain ⟨r, e⟩ := kv_vals h3
    refine ⟨.cons h2 r, ?_⟩
    have h1 : k = k2 := h1
    rw [List.map_cons, List.map_cons, e, h1]
mutual
theorem Da.reads (M : Sm X.base) (I : Inv X pins σ H s) : ∀ {v : V} {d : PyData} {u : Value}, Da X.K H v d → RelV v u → ∃ as, Reads s.heap u d as ∧ sysModules ∉ as
  | _, _, _, .non, r => by cases r; exact ⟨_, .none, fun h => nomatch h⟩
  | _, _, _, .bl b, r => by cases r; exact ⟨_, .bool b, fun h => nomatch h⟩
  | _, _, _, .int i, r => by obtain ⟨t, rfl⟩ := r; exact ⟨_, .int i t, fun h => nomatch h⟩
  | _, _, _, .str x, r => by obtain ⟨t, rfl⟩ := r; exact ⟨_, .str x t, fun h => nomatch h⟩
  | _, _, _, .lst h hs, r => by
    cases r
    obtain ⟨its, rv, ⟨o, n, ho, hc, _, hd⟩, _⟩ := I.list h
    obtain ⟨as, hr, hn⟩ := DaAll.reads M I hs rv
    refine ⟨_, .list ho hc hd hr, fun z => ?_⟩
    rcases List.mem_cons.mp z with z | z
    · exact M.noList I h z.symm
    · exact hn z
  | _, _, _, .tup h hs, r => by
    cases r
    obtain ⟨its, rv, ⟨o, ho, hc, n, hd⟩, _⟩ := I.tuple h
    obtain ⟨as, hr, hn⟩ := DaAll.reads M I hs rv
    exact ⟨_, .tuple ho hc hd hr, hn⟩
  | _, _, _, @Da.dct _ _ a kvs ds h hs, r => by
    cases r
    obtain ⟨_, hsm, vs, kv, o, es, ep, ho, hx, hd, _, pr, _⟩ := h.ok I.hok
    obtain ⟨rv, ek⟩ := kv_vals kv
    obtain ⟨as, hr, hn⟩ := DaAll.reads M I hs rv
    have l1 := hs.len
    rw [List.length_map] at l1
    have e1 : ((kvs.map fun p => keyD p.1).zip ds).map (·.1) = kvs.map fun p => keyD p.1 := List.map_fst_zip (by rw [List.length_map]; omega)
    have e2 : ((kvs.map fun p => keyD p.1).zip ds).map (·.2) = ds := List.map_snd_zip (by rw [List.length_map]; omega)
    refine ⟨_, .dict (as := []) (bs := as) ho hx.1 hd ?_ ?_, fun z => ?_⟩
    · rw [e1, ek]; exact pairs_reads pr
    · rw [e2, pairs_vals pr]; exact hr
    · rcases List.mem_cons.mp (show sysModules ∈ a :: ([] ++ as) from z) with z | z
      · rw [← z] at hsm; exact absurd hsm (by decide)
      · exact hn (by simpa using z)
theorem DaAll.reads (M : Sm X.base) (I : Inv X pins σ H s) : ∀ {vs : List V} {ds : List PyData} {us : List Value}, DaAll X.K H vs ds → Vals vs us → ∃ as, ReadsAll s.heap us ds as ∧ sysModules ∉ as
  | _, _, _, .nil, .nil => ⟨_, .nil, fun h => nomatch h⟩
  | _, _, _, .cons h hs, .cons r rs => by
    obtain ⟨as, q1, n1⟩ := Da.reads M I h r
    obtain ⟨bs, q2, n2⟩ := DaAll.reads M I hs rs
    refine ⟨_, .cons q1 q2, fun z => ?_⟩
    rcases List.mem_append.mp z with z | z
    · exact n1 z
    · exact n2 z
end
end
/-- repr of data -/
def rRepr (K : PySem.W.Frag) : List V → Hp → VK → Prop := fun xs H Q => ∃ (x : V) (d : PyData), xs = [x] ∧ Da K H x d ∧
  d.showable = true ∧ d.depth ≤ 60 ∧ d.shown.length ≤ sizeLine ∧ Q (.str d.shown) H
theorem call_reprD {X : Cx} (hga : X.A.guards = some []) (hu : X.A.units + 64 < cLine) (M : Sm X.base) : CallR X (.builtin "repr") (rRepr X.K) := by
  intro pins s σ H xs us Q I r h
  obtain ⟨x, d, rfl, hd, hs, hdp, hz, q⟩ := h
  obtain ⟨u, rfl, ru⟩ : ∃ u, us = [u] ∧ RelV x u := by
    cases r with
    | cons p q => cases q; exact ⟨_, rfl, p⟩
  cases hd with
  | non => cases ru; exact PySem.P.repr_of_none ⟨.str _, H, I.tok _, ⟨_, rfl⟩, q⟩
  | bl b => cases ru; exact PySem.P.repr_of_bool ⟨.str _, H, I.tok _, ⟨_, rfl⟩, q⟩
  | int i =>
    obtain ⟨t, rfl⟩ := ru
    exact PySem.P.repr_of_int (by simpa [PyData.showable] using hs) ⟨.str _, H, I.tok _, ⟨_, rfl⟩, q⟩
  | str y =>
    obtain ⟨t, rfl⟩ := ru
    exact PySem.P.repr_of_str ⟨.str _, H, I.tok _, ⟨_, rfl⟩, q⟩ hz
  | lst h1 h2 =>
    cases ru
    obtain ⟨as, rd, hn⟩ := Da.reads M I (.lst h1 h2) rfl
    exact PySem.repr_of_reads' rd hs (fun _ => hn) hga (by omega) (fun _ _ e => e) (fun h' u tk hk => ⟨.str _, H, I.kept hk, ⟨_, rfl⟩, q⟩) hz
  | tup h1 h2 =>
    cases ru
    obtain ⟨as, rd, hn⟩ := Da.reads M I (.tup h1 h2) rfl
    exact PySem.repr_of_reads' rd hs (fun _ => hn) hga (by omega) (fun _ _ e => e) (fun h' u tk hk => ⟨.str _, H, I.kept hk, ⟨_, rfl⟩, q⟩) hz
  | dct h1 h2 =>
    cases ru
    obtain ⟨as, rd, hn⟩ := Da.reads M I (.dct h1 h2) rfl
    exact PySem.repr_of_reads' rd hs (fun _ => hn) hga (by omega) (fun _ _ e => e) (fun h' u tk hk => ⟨.str _, H, I.kept hk, ⟨_, rfl⟩, q⟩) hz
end L2.Pc
namespace L2.Pc
open PySem PySem.Spec PyProof.Rows
/-! ### a list or dict known by a property of what it holds -/
def flatO : HO → Prop
  | .lst _ => True
  | .dK _ => True
  | _ => False
def AbsO (P : Program) (w : World) (R : HO → Prop) (z : Addr) : HO :=
  .ext fun h => ∃ u, flatO u ∧ R u ∧ ObjOk P w (fun _ => none) h z u
end L2.Pc
namespace L2.Pc
open PySem PySem.Spec PyProof.Rows
/-! ### rules that take values of several kinds -/
structure Gm (mg : Str → Option Value) (x : Str) (v : V) : Prop where
  ex : ∃ u, mg x = some u ∧ RelV v u
section
variable {X : Cx} {x : Str} {v : V} {pos : Pos}
theorem pe_gm (h : Gm X.mg x v) (hg : Gl X x) (hd : (x == ("__debug__" : Str)) = false := by decide) : PE X (.Name x pos) (tC v) := by
  obtain ⟨u, h1, h2⟩ := h.ex
  exact pe_glob hg h1 h2 hd
def rAddM (K : PySem.W.Frag) : R2 := fun a b H Q =>
  rI0 (fun i j => .int (i + j)) a b H Q ∨ (∃ i j, a = .str i ∧ b = .str j ∧ i.length + j.length ≤ sizeLine ∧ Q (.str (i ++ j)) H) ∨
  rCat a b H Q ∨ rCatT K a b H Q
def rMulS : R2 := fun a b H Q => ∃ i n, a = .str i ∧ b = .int n ∧ MulOk i n ∧ Q (.str (Txt.mul i n)) H
theorem op_mulS : OpR X (binaryOp .Mult) rMulS := by
  intro pins s σ H a b v u Q I ra rb h
  obtain ⟨i, n, rfl, rfl, hok, q⟩ := h
  obtain ⟨t, rfl⟩ := ra
  obtain ⟨t2, rfl⟩ := rb
  exact PySem.SB.mul hok fun t' k => ⟨.str _, H, I.tok _, ⟨_, rfl⟩, q⟩
def CMa (i j : Int) : Prop := CMul i j ∨ CMulW i j
theorem op_mulI : OpR X (binaryOp .Mult) (rI CMa fun i j => .int (i * j)) := by
  intro pins s σ H a b v u Q I ra rb h
  obtain ⟨i, j, e1, e2, hc | hc, q⟩ := h
  · exact op_mul pins s σ H a b v u Q I ra rb ⟨i, j, e1, e2, hc, q⟩
  · exact op_mulW pins s σ H a b v u Q I ra rb ⟨i, j, e1, e2, hc, q⟩
def rMulM : R2 := fun a b H Q => rI CMa (fun i j => .int (i * j)) a b H Q ∨ rMulS a b H Q ∨ rRep a b H Q
theorem op_mulM : OpR X (binaryOp .Mult) rMulM := by
  intro pins s σ H a b v u Q I ra rb h
  rcases h with h | h | h
  · exact op_mulI pins s σ H a b v u Q I ra rb h
  · exact op_mulS pins s σ H a b v u Q I ra rb h
  · exact op_rep pins s σ H a b v u Q I ra rb h
def rEqM (K : PySem.W.Frag) : R2 := fun a b H Q => rEq a b H Q ∨ rEqD K a b H Q
theorem op_eqM (hu : X.A.units + 64 < cLine) : OpR X (compareOp .Eq) (rEqM X.K) := by
  intro pins s σ H a b v u Q I ra rb h
  rcases h with h | h
  · exact op_eq pins s σ H a b v u Q I ra rb h
  · exact op_eqD hu pins s σ H a b v u Q I ra rb h
def rNeM (K : PySem.W.Frag) : R2 := fun a b H Q => rNe a b H Q ∨ rNeD K a b H Q
theorem op_neM (hu : X.A.units + 64 < cLine) : OpR X (compareOp .NotEq) (rNeM X.K) := by
  intro pins s σ H a b v u Q I ra rb h
  rcases h with h | h
  · exact op_ne pins s σ H a b v u Q I ra rb h
  · exact op_neD hu pins s σ H a b v u Q I ra rb h
def rInM (K : PySem.W.Frag) (neg : Bool) : R2 := fun a b H Q =>
  (∃ (c : Nat) (z : Str), a = .str ⟨#[c]⟩ ∧ b = .str z ∧ Q (.bl (if neg then !decide (c ∈ z.cps.toList) else decide (c ∈ z.cps.toList))) H) ∨ rIn K neg a b H Q
theorem op_inM : OpR X (compareOp .In) (rInM X.K false) := by
  intro pins s σ H a b v u Q I ra rb h
  rcases h with ⟨c, z, e1, e2, q⟩ | h
  · exact op_in_sign pins s σ H a b v u Q I ra rb ⟨c, z, e1, e2, q⟩
  · exact op_in_seq pins s σ H a b v u Q I ra rb h
theorem op_notInM : OpR X (compareOp .NotIn) (rInM X.K true) := by
  intro pins s σ H a b v u Q I ra rb h
  rcases h with ⟨c, z, e1, e2, q⟩ | h
  · exact op_notIn_sign pins s σ H a b v u Q I ra rb ⟨c, z, e1, e2, q⟩
  · exact op_notIn_seq pins s σ H a b v u Q I ra rb h
def rIxM (K : PySem.W.Frag) : R2 := fun a b H Q => rIxL K a b H Q ∨ rIxT K a b H Q ∨ rIxS a b H Q
theorem ixM : IxR X (rIxM X.K) := IxR.or ix_list (IxR.or ix_tup ix_str)
def rSlM (K : PySem.W.Frag) : V → Option Int → Option Int → Hp → VK → Prop := fun a lo hi H Q => rSlL K a lo hi H Q ∨ rSlS a lo hi H Q
def rIntM : List V → Hp → VK → Prop := fun xs H Q => (∃ i, xs = [.int i] ∧ Q (.int i) H) ∨ (∃ k, xs = [.bl k] ∧ Q (.int (if k then 1 else 0)) H) ∨
  ∃ a n, xs = [.str a] ∧ PySem.intText? a = some n ∧ a.length ≤ 640 ∧ Q (.int n) H
end
section
variable {X : Cx} {o e : Expr} {to te : TE} {apos pos : Pos}
def rLen (K : PySem.W.Frag) : List V → Hp → VK → Prop := fun xs H Q => ∃ x n, xs = [x] ∧ LenV K x H n ∧ Q (.int (n : Nat)) H
theorem call_lenM : CallR X (.builtin "len") (rLen X.K) := call_len
def rAbs : List V → Hp → VK → Prop := fun xs H Q => ∃ i, xs = [.int i] ∧ Q (.int (if i < 0 then -i else i)) H
theorem call_absM : CallR X (.builtin "abs") rAbs := call_abs
def rStrip : V → List V → Hp → VK → Prop := fun x xs H Q => ∃ a b, x = .str a ∧ xs = [.str b] ∧ a.length ≤ sizeLine ∧ Q (.str (Txt.stripChars a b)) H
theorem mt_stripM : MtR X "str.strip" rStrip := mt_stripChars
def rUpper : V → List V → Hp → VK → Prop := fun x xs H Q => ∃ a, x = .str a ∧ xs = [] ∧ a.length ≤ 5592405 ∧ Q (.str (Txt.upper a)) H
theorem mt_upperM : MtR X "str.upper" rUpper := mt_upper
def rJoin (K : PySem.W.Frag) : V → List V → Hp → VK → Prop := fun x xs H Q => ∃ a p, ∃ ys : List Str, x = .str a ∧ xs = [.ref p] ∧
  (SqL K H p (ys.map V.str) ∨ SqT K H p (ys.map V.str)) ∧ (ys.map (·.length)).sum + ys.length * a.length ≤ 16777216 ∧ Q (.str (Txt.join a ys)) H
theorem mt_joinM : MtR X "str.join" (rJoin X.K) := mt_join
end
/-! ### a word between an expression and what follows -/
/-! ### a new object -/
def NewO (H : Hp) (o : HO) (Q : VK) : Prop := ∀ p, H p = none → Q (.ref p) (upd H p o)
theorem g_new {H : Hp} {o : HO} {Q : VK} (k : ∀ p H', H p = none → Same H H' → H' p = some o → Q (.ref p) H') : NewO H o Q :=
  fun p hp => k p _ hp (Same.new hp) upd_same
/-! ### a datum's class -/
def tyName : PyData → String
  | .none => "NoneType"
  | .bool _ => "bool"
  | .int _ => "int"
  | .str _ => "str"
  | .list _ => "list"
  | .tuple _ => "tuple"
  | .dict _ => "dict"
theorem Da.ty {K : PySem.W.Frag} {H : Hp} {v : V} {d : PyData} (h : Da K H v d) : TyX K H v (.type (tyName d)) := by
  cases h with
  | non => exact .base .non
  | bl b => exact .base (.bl b)
  | int i => exact .base (.int i)
  | str x => exact .base (.str x)
  | lst h _ =>
    rcases h with (h | ⟨o, h⟩) | ⟨o, its, n, h, hc, _⟩
    · exact .base (.lst h)
    · exact .base (.frz h)
    · exact .kList h hc
  | tup h _ =>
    rcases h with (h | ⟨o, h⟩) | ⟨o, its, n, h, hc, _⟩
    · exact .base (.tup h)
    · exact .fTuple h
    · exact .kTuple h hc
  | dct h _ =>
    rcases h with h | ⟨o, h⟩
    · exact .base (.dK h)
    · exact .fDict h
@[reducible] def isStr : PyData → Bool
  | .str _ => true
  | _ => false
@[reducible] def isInt : PyData → Bool
  | .int _ => true
  | .bool _ => true
  | _ => false
@[reducible] def isBool : PyData → Bool
  | .bool _ => true
  | _ => false
@[reducible] def isTup : PyData → Bool
  | .tuple _ => true
  | _ => false
theorem kit_isStr : ∀ d : PyData, kitB (tyName d) "str" = some (isStr d)
  | .none => (show kitB "NoneType" "str" = some false by decide +kernel)
  | .bool _ => (show kitB "bool" "str" = some false by decide +kernel)
  | .int _ => (show kitB "int" "str" = some false by decide +kernel)
  | .str _ => (show kitB "str" "str" = some true by decide +kernel)
  | .list _ => (show kitB "list" "str" = some false by decide +kernel)
  | .tuple _ => (show kitB "tuple" "str" = some false by decide +kernel)
  | .dict _ => (show kitB "dict" "str" = some false by decide +kernel)
theorem kit_isInt : ∀ d : PyData, kitB (tyName d) "int" = some (isInt d)
  | .none => (show kitB "NoneType" "int" = some false by decide +kernel)
  | .bool _ => (show kitB "bool" "int" = some true by decide +kernel)
  | .int _ => (show kitB "int" "int" = some true by decide +kernel)
  | .str _ => (show kitB "str" "int" = some false by decide +kernel)
  | .list _ => (show kitB "list" "int" = some false by decide +kernel)
  | .tuple _ => (show kitB "tuple" "int" = some false by decide +kernel)
  | .dict _ => (show kitB "dict" "int" = some false by decide +kernel)
theorem kit_isBool : ∀ d : PyData, kitB (tyName d) "bool" = some (isBool d)
  | .none => (show kitB "NoneType" "bool" = some false by decide +kernel)
  | .bool _ => (show kitB "bool" "bool" = some true by decide +kernel)
  | .int _ => (show kitB "int" "bool" = some false by decide +kernel)
  | .str _ => (show kitB "str" "bool" = some false by decide +kernel)
  | .list _ => (show kitB "list" "bool" = some false by decide +kernel)
  | .tuple _ => (show kitB "tuple" "bool" = some false by decide +kernel)
  | .dict _ => (show kitB "dict" "bool" = some false by decide +kernel)
theorem kit_isTup : ∀ d : PyData, kitB (tyName d) "tuple" = some (isTup d)
  | .none => (show kitB "NoneType" "tuple" = some false by decide +kernel)
  | .bool _ => (show kitB "bool" "tuple" = some false by decide +kernel)
  | .int _ => (show kitB "int" "tuple" = some false by decide +kernel)
  | .str _ => (show kitB "str" "tuple" = some false by decide +kernel)
  | .list _ => (show kitB "list" "tuple" = some false by decide +kernel)
  | .tuple _ => (show kitB "tuple" "tuple" = some true by decide +kernel)
  | .dict _ => (show kitB "dict" "tuple" = some false by decide +kernel)
/-! ### readings, step by step -/
section
variable {σ : L2.St} {H : Hp} {Q : VK} {v x y : V} {ta tb tc te : TE} {t u c : TT} {K : PySem.W.Frag} {D : Ends} {t1 t2 : TS}
  {r r' : R2} {i j : Int} {b : Bool} {g : TG} {a q : Str}
theorem g_c (k : Q v H) : tC v σ H Q := k
theorem g_op (k : ta σ H fun x H1 => tb σ H1 fun y H2 => r x y H2 Q) : tOp r ta tb σ H Q := k
theorem g_un {r : V → Hp → VK → Prop} (k : ta σ H fun x H1 => r x H1 Q) : tUn r ta σ H Q := k
theorem g_test {R : Bool → Hp → Prop} (k : te σ H fun x H' => ∃ k, x = .bl k ∧ R k H') : tTest te σ H R := k
theorem g_tB {R : Bool → Hp → Prop} (k : te σ H fun x H' => ∃ k, x = .bl k ∧ R k H') : tB te σ H R := k
theorem g_bl {R : Bool → Prop} (k : R b) : ∃ k, V.bl b = .bl k ∧ R k := ⟨b, rfl, k⟩
theorem g_and {R : Bool → Hp → Prop} (k : t σ H fun c H1 => if c = true then u σ H1 R else R false H1) : tAnd t u σ H R := k
theorem g_or {R : Bool → Hp → Prop} (k : t σ H fun c H1 => if c = true then R true H1 else u σ H1 R) : tOr t u σ H R := k
theorem g_not {R : Bool → Hp → Prop} (k : t σ H fun c H1 => R (!c) H1) : tNot t σ H R := k
theorem g_andV (k : ta σ H fun x H1 => ∃ c, x = .bl c ∧ if c = true then tb σ H1 Q else Q (.bl false) H1) : tAndV ta tb σ H Q := k
theorem g_orV (k : ta σ H fun x H1 => ∃ c, x = .bl c ∧ if c = true then Q (.bl true) H1 else tb σ H1 Q) : tOrV ta tb σ H Q := k
theorem g_notV (k : ta σ H fun x H1 => ∃ c, x = .bl c ∧ Q (.bl (!c)) H1) : tNotV ta σ H Q := k
theorem g_if (k : t σ H fun c H1 => if c = true then ta σ H1 Q else tb σ H1 Q) : tIf t ta tb σ H Q := k
theorem g_chain (k : ta σ H fun x H1 => tb σ H1 fun y H2 => r x y H2 fun z H3 => ∃ k, z = .bl k ∧
  (if k = true then tc σ H3 fun w' H4 => r' y w' H4 Q else Q (.bl false) H3)) : tChain r r' ta tb tc σ H Q := k
theorem g_nil {R : List V → Hp → Prop} (k : R [] H) : tNil σ H R := k
theorem g_cons {tr : TA} {R : List V → Hp → Prop} (k : ta σ H fun x H1 => tr σ H1 fun xs H2 => R (x :: xs) H2) : tCons ta tr σ H R := k
theorem g_cb {f : List V → Hp → VK → Prop} {tr : TA} (k : tr σ H fun vs H1 => f vs H1 Q) : tCB f tr σ H Q := k
theorem g_kn {n m : Nat} {gV : List V → List V → List V} {sp : Sp} {E : XK} {ts tk : TA}
  (k : ts σ H fun vs H1 => tk σ H1 fun zs H2 => vs.length = n ∧ zs.length = m ∧ sp (gV vs zs) H2 Q E) : tKn n m gV sp E ts tk σ H Q := k
theorem g_tup {tr : TA} (k : tr σ H fun xs H1 => xs.length ≤ sizeLine ∧ NewO H1 (.tup xs) Q) : tTup tr σ H Q := k
theorem g_lst {tr : TA} (k : tr σ H fun xs H1 => xs.length ≤ sizeLine ∧ NewO H1 (.lst xs) Q) : tLst tr σ H Q := k
theorem g_dnew (k : NewO H (.dK []) Q) : tDNewK σ H Q := k
theorem g_sl {f : V → Option Int → Option Int → Hp → VK → Prop} {tl th : TO} (k : te σ H fun x H1 => tl σ H1 fun l H2 => th σ H2 fun u H3 => f x l u H3 Q) : tSl f te tl th σ H Q := k
theorem g_nopart {R : Option Int → Hp → Prop} (k : R none H) : tNoPart σ H R := k
theorem g_part {R : Option Int → Hp → Prop} (k : te σ H fun x H1 => ∃ i, x = .int i ∧ R (some i) H1) : tPart te σ H R := k
theorem g_int {R : Int → Prop} (k : R i) : ∃ j, V.int i = .int j ∧ R j := ⟨i, rfl, k⟩
theorem g_m1 {f : V → List V → Hp → VK → Prop} (k : ta σ H fun x H1 => (∃ a, x = .str a) ∧ te σ H1 fun y H2 => f x [y] H2 Q) : tM1 f ta te σ H Q := k
theorem g_m0 {f : V → List V → Hp → VK → Prop} (k : ta σ H fun x H1 => (∃ a, x = .str a) ∧ f x [] H1 Q) : tM0 f ta σ H Q := k
theorem g_isS {R : Prop} (k : R) : (∃ b, V.str a = .str b) ∧ R := ⟨⟨a, rfl⟩, k⟩
-- statements
theorem g_seq (k : t1 { D with nx := t2 D } σ H) : tSeq t1 t2 D σ H := k
theorem g_next (k : D.nx σ H) : tNext D σ H := k
theorem g_ifS (k : c σ H fun b H1 => if b = true then t1 D σ H1 else t2 D σ H1) : tIfS c t1 t2 D σ H := k
theorem g_ret (k : te σ H D.rt) : tRet te D σ H := k
theorem g_asg (k : te σ H fun x H1 => g x σ H1 D.nx) : tAsg te g D σ H := k
theorem g_drop (k : te σ H fun _ H1 => D.nx σ H1) : tDrop te D σ H := k
theorem g_two {R : V → V → Prop} (k : R x y) : ∃ v w, [x, y] = [v, w] ∧ R v w := ⟨x, y, rfl, k⟩
theorem g_ifT {A B : Prop} {i : Decidable (true = true)} (k : A) : @ite Prop (true = true) i A B := by rw [if_pos rfl]; exact k
theorem g_ifF {A B : Prop} {i : Decidable (false = true)} (k : B) : @ite Prop (false = true) i A B := by rw [if_neg (by simp)]; exact k
theorem g_ifnT {A B : Prop} {i : Decidable ((!true) = true)} (k : B) : @ite Prop ((!true) = true) i A B := by rw [if_neg (by simp)]; exact k
theorem g_ifnF {A B : Prop} {i : Decidable ((!false) = true)} (k : A) : @ite Prop ((!false) = true) i A B := by rw [if_pos (by simp)]; exact k
theorem g_kT {A B : Prop} {i : Decidable (b = true)} (h : b = true) (k : A) : @ite Prop (b = true) i A B := by rw [if_pos h]; exact k
theorem g_kF {A B : Prop} {i : Decidable (b = true)} (h : b = false) (k : B) : @ite Prop (b = true) i A B := by rw [if_neg (by rw [h]; simp)]; exact k
theorem g_knT {A B : Prop} {i : Decidable ((!b) = true)} (h : b = true) (k : B) : @ite Prop ((!b) = true) i A B := by rw [if_neg (by rw [h]; simp)]; exact k
theorem g_knF {A B : Prop} {i : Decidable ((!b) = true)} (h : b = false) (k : A) : @ite Prop ((!b) = true) i A B := by rw [if_pos (by rw [h]; simp)]; exact k
theorem g_brk (k : D.bk σ H) : tBreak D σ H := k
theorem g_cont (k : D.ct σ H) : tCont D σ H := k
-- operators by values
theorem g_addI (k : Q (.int (i + j)) H) : rAddM K (.int i) (.int j) H Q := .inl ⟨i, j, rfl, rfl, k⟩
theorem g_addS (hz : a.length + q.length ≤ sizeLine) (k : Q (.str (a ++ q)) H) : rAddM K (.str a) (.str q) H Q := .inr (.inl ⟨a, q, rfl, rfl, hz, k⟩)
theorem g_addL {l m : Addr} {xs ys : List V} (h1 : H l = some (.lst xs)) (h2 : H m = some (.lst ys)) (hz : xs.length + ys.length ≤ sizeLine)
    (k : NewO H (.lst (xs ++ ys)) Q) : rAddM K (.ref l) (.ref m) H Q := .inr (.inr (.inl ⟨l, m, xs, ys, rfl, rfl, h1, h2, hz, k⟩))
theorem g_mulI (hc : CMa i j) (k : Q (.int (i * j)) H) : rMulM (.int i) (.int j) H Q := .inl ⟨i, j, rfl, rfl, hc, k⟩
theorem g_mulS (hc : MulOk a j) (k : Q (.str (Txt.mul a j)) H) : rMulM (.str a) (.int j) H Q := .inr (.inl ⟨a, j, rfl, rfl, hc, k⟩)
theorem g_i0 {f : Int → Int → V} (k : Q (f i j) H) : rI0 f (.int i) (.int j) H Q := ⟨i, j, rfl, rfl, k⟩
theorem g_i {C : Int → Int → Prop} {f : Int → Int → V} (hc : C i j) (k : Q (f i j) H) : rI C f (.int i) (.int j) H Q := ⟨i, j, rfl, rfl, hc, k⟩
theorem g_u {f : Int → V} (k : Q (f i) H) : rU f (.int i) H Q := ⟨i, rfl, k⟩
theorem g_eq (h : scal x y = true) (k : Q (.bl (decide (x = y))) H) : rEqM K x y H Q := .inl ⟨h, k⟩
theorem g_ne (h : scal x y = true) (k : Q (.bl (!decide (x = y))) H) : rNeM K x y H Q := .inl ⟨h, k⟩
theorem g_inS {n : Nat} {neg : Bool} (k : Q (.bl (if neg then !decide (n ∈ a.cps.toList) else decide (n ∈ a.cps.toList))) H) : rInM K neg (.str ⟨#[n]⟩) (.str a) H Q := .inl ⟨n, a, rfl, rfl, k⟩
theorem g_inQ {p : Addr} {xs : List V} {neg : Bool} (h : SqL K H p xs ∨ SqT K H p xs) (f1 : flatV x = true) (f2 : xs.all flatV = true)
    (k : Q (.bl (if neg then !inV x xs else inV x xs)) H) : rInM K neg x (.ref p) H Q := .inr ⟨p, xs, rfl, h, f1, f2, k⟩
theorem g_ixL {p : Addr} {xs : List V} (h : SqL K H p xs) (ha : atI xs i = some v) (k : Q v H) : rIxM K (.ref p) (.int i) H Q := .inl ⟨p, xs, i, v, rfl, rfl, h, ha, k⟩
theorem g_ixT {p : Addr} {xs : List V} (h : SqT K H p xs) (ha : atI xs i = some v) (k : Q v H) : rIxM K (.ref p) (.int i) H Q := .inr (.inl ⟨p, xs, i, v, rfl, rfl, h, ha, k⟩)
theorem g_ixS {n : Nat} (hz : a.length ≤ sizeLine) (ha : atI a.cps.toList i = some n) (k : Q (.str ⟨#[n]⟩) H) : rIxM K (.str a) (.int i) H Q := .inr (.inr ⟨a, i, n, rfl, rfl, hz, ha, k⟩)
theorem g_slL {p : Addr} {xs : List V} {lo hi : Option Int} (h : SqL K H p xs) (k : NewO H (.lst (cutV xs lo hi)) Q) : rSlM K (.ref p) lo hi H Q := .inl ⟨p, xs, rfl, h, k⟩
theorem g_slS {lo hi : Option Int} (hz : a.length ≤ sizeLine) (k : Q (.str (cutS a lo hi)) H) : rSlM K (.str a) lo hi H Q := .inr ⟨a, rfl, hz, k⟩
-- calls of built-ins by values
theorem g_lenS (hz : a.length ≤ sizeLine) (k : Q (.int a.length) H) : rLen K [.str a] H Q := ⟨_, _, rfl, ⟨hz, rfl⟩, k⟩
theorem g_lenL {p : Addr} {xs : List V} (h : SqL K H p xs) (k : Q (.int xs.length) H) : rLen K [.ref p] H Q := ⟨_, _, rfl, .inl ⟨xs, h, rfl⟩, k⟩
theorem g_lenT {p : Addr} {xs : List V} (h : SqT K H p xs) (k : Q (.int xs.length) H) : rLen K [.ref p] H Q := ⟨_, _, rfl, .inr ⟨xs, h, rfl⟩, k⟩
theorem g_abs (k : Q (.int (if i < 0 then -i else i)) H) : rAbs [.int i] H Q := ⟨i, rfl, k⟩
theorem g_intI (k : Q (.int i) H) : rIntM [.int i] H Q := .inl ⟨i, rfl, k⟩
theorem g_intB (k : Q (.int (if b then 1 else 0)) H) : rIntM [.bl b] H Q := .inr (.inl ⟨b, rfl, k⟩)
theorem g_intS {n : Int} (h : PySem.intText? a = some n) (hz : a.length ≤ 640) (k : Q (.int n) H) : rIntM [.str a] H Q := .inr (.inr ⟨a, n, rfl, h, hz, k⟩)
theorem g_isiStr {d : PyData} (h : Da K H x d) (k : Q (.bl (isStr d)) H) : rIsi K [x, .ty "str"] H Q :=
  ⟨x, .ty "str", _, _, isStr d, rfl, .ty _, h.ty, kit_ty (kit_isStr d), k⟩
theorem g_isiInt {d : PyData} (h : Da K H x d) (k : Q (.bl (isInt d)) H) : rIsi K [x, .ty "int"] H Q :=
  ⟨x, .ty "int", _, _, isInt d, rfl, .ty _, h.ty, kit_ty (kit_isInt d), k⟩
theorem g_isiBool {d : PyData} (h : Da K H x d) (k : Q (.bl (isBool d)) H) : rIsi K [x, .ty "bool"] H Q :=
  ⟨x, .ty "bool", _, _, isBool d, rfl, .ty _, h.ty, kit_ty (kit_isBool d), k⟩
theorem g_isiTup {d : PyData} (h : Da K H x d) (k : Q (.bl (isTup d)) H) : rIsi K [x, .ty "tuple"] H Q :=
  ⟨x, .ty "tuple", _, _, isTup d, rfl, .ty _, h.ty, kit_ty (kit_isTup d), k⟩
theorem g_repr {d : PyData} (h : Da K H x d) (h1 : d.showable = true) (h2 : d.depth ≤ 60) (h3 : d.shown.length ≤ sizeLine) (k : Q (.str d.shown) H) : rRepr K [x] H Q :=
  ⟨x, d, rfl, h, h1, h2, h3, k⟩
theorem g_strip (hz : a.length ≤ sizeLine) (k : Q (.str (Txt.stripChars a q)) H) : rStrip (.str a) [.str q] H Q := ⟨a, q, rfl, rfl, hz, k⟩
theorem g_upper (hz : a.length ≤ 5592405) (k : Q (.str (Txt.upper a)) H) : rUpper (.str a) [] H Q := ⟨a, rfl, rfl, hz, k⟩
end
/-! ### steps found by their form -/
class Step (G : Prop) (N : outParam Prop) : Prop where
  imp : N → G
class GetSlot (σ : L2.St) (n : Nat) (v : outParam V) : Prop where
  get : σ[n]? = some (some v)
instance i_get0 {σ : L2.St} {v : V} : GetSlot (some v :: σ) 0 v := ⟨rfl⟩
instance i_getS {σ : L2.St} {n : Nat} {v : V} {x : Option V} [h : GetSlot σ n v] : GetSlot (x :: σ) (n + 1) v := ⟨by rw [List.getElem?_cons_succ]; exact h.get⟩
class SetSlot (σ : L2.St) (n : Nat) (v : V) (τ : outParam L2.St) : Prop where
  set : σ.set n (some v) = τ
instance i_set0 {σ : L2.St} {v : V} {x : Option V} : SetSlot (x :: σ) 0 v (some v :: σ) := ⟨rfl⟩
instance i_setS {σ τ : L2.St} {n : Nat} {v : V} {x : Option V} [h : SetSlot σ n v τ] : SetSlot (x :: σ) (n + 1) v (x :: τ) := ⟨by rw [List.set_cons_succ, h.set]⟩
section
variable {σ : L2.St} {H : Hp} {Q : VK} {v x y : V} {ta tb tc te : TE} {t u c : TT} {K : PySem.W.Frag} {D : Ends} {t1 t2 : TS}
  {r r' : R2} {i j : Int} {b : Bool} {g : TG} {a q : Str}
instance i_var {n : Nat} [h : GetSlot σ n v] : Step (tVar n σ H Q) (Q v H) := ⟨fun k => ⟨v, h.get, k⟩⟩
instance i_name {n : Nat} {τ : L2.St} {R : L2.St → Hp → Prop} [h : SetSlot σ n v τ] : Step (gName n v σ H R) (R τ H) := ⟨fun k => by
  have e := h.set
  show R (σ.set n (some v)) H
  rw [e]; exact k⟩
instance i_par {n m : Nat} {ts : TA} : Step (tPar n m ts D σ H) (ts σ H fun vs H1 => ∃ v w, vs = [v, w] ∧ gName n v σ H1 fun τ H2 => gName m w τ H2 D.nx) := ⟨fun k => k⟩
instance i_eqI : Step (rEqM K (.int i) (.int j) H Q) (Q (.bl (decide (i = j))) H) := ⟨fun k => g_eq rfl (by simpa using k)⟩
instance i_eqS : Step (rEqM K (.str a) (.str q) H Q) (Q (.bl (decide (a = q))) H) := ⟨fun k => g_eq rfl (by simpa using k)⟩
instance i_eqB {b c : Bool} : Step (rEqM K (.bl b) (.bl c) H Q) (Q (.bl (decide (b = c))) H) := ⟨fun k => g_eq rfl (by simpa using k)⟩
instance i_neI : Step (rNeM K (.int i) (.int j) H Q) (Q (.bl (!decide (i = j))) H) := ⟨fun k => g_ne rfl (by simpa using k)⟩
instance i_neS : Step (rNeM K (.str a) (.str q) H Q) (Q (.bl (!decide (a = q))) H) := ⟨fun k => g_ne rfl (by simpa using k)⟩
instance i_neB {b c : Bool} : Step (rNeM K (.bl b) (.bl c) H Q) (Q (.bl (!decide (b = c))) H) := ⟨fun k => g_ne rfl (by simpa using k)⟩
instance i_c  : Step (tC v σ H Q) (Q v H) := ⟨fun k => g_c k⟩
instance i_op  : Step (tOp r ta tb σ H Q) (ta σ H fun x H1 => tb σ H1 fun y H2 => r x y H2 Q) := ⟨fun k => g_op k⟩
instance i_un {r : V → Hp → VK → Prop} : Step (tUn r ta σ H Q) (ta σ H fun x H1 => r x H1 Q) := ⟨fun k => g_un k⟩
instance i_test {R : Bool → Hp → Prop} : Step (tTest te σ H R) (te σ H fun x H' => ∃ k, x = .bl k ∧ R k H') := ⟨fun k => g_test k⟩
instance i_tB {R : Bool → Hp → Prop} : Step (tB te σ H R) (te σ H fun x H' => ∃ k, x = .bl k ∧ R k H') := ⟨fun k => g_tB k⟩
instance i_bl {R : Bool → Prop} : Step (∃ k, V.bl b = .bl k ∧ R k) (R b) := ⟨fun k => g_bl k⟩
instance i_and {R : Bool → Hp → Prop} : Step (tAnd t u σ H R) (t σ H fun c H1 => if c = true then u σ H1 R else R false H1) := ⟨fun k => g_and k⟩
instance i_or {R : Bool → Hp → Prop} : Step (tOr t u σ H R) (t σ H fun c H1 => if c = true then R true H1 else u σ H1 R) := ⟨fun k => g_or k⟩
instance i_not {R : Bool → Hp → Prop} : Step (tNot t σ H R) (t σ H fun c H1 => R (!c) H1) := ⟨fun k => g_not k⟩
instance i_andV  : Step (tAndV ta tb σ H Q) (ta σ H fun x H1 => ∃ c, x = .bl c ∧ if c = true then tb σ H1 Q else Q (.bl false) H1) := ⟨fun k => g_andV k⟩
instance i_orV  : Step (tOrV ta tb σ H Q) (ta σ H fun x H1 => ∃ c, x = .bl c ∧ if c = true then Q (.bl true) H1 else tb σ H1 Q) := ⟨fun k => g_orV k⟩
instance i_notV  : Step (tNotV ta σ H Q) (ta σ H fun x H1 => ∃ c, x = .bl c ∧ Q (.bl (!c)) H1) := ⟨fun k => g_notV k⟩
instance i_if  : Step (tIf t ta tb σ H Q) (t σ H fun c H1 => if c = true then ta σ H1 Q else tb σ H1 Q) := ⟨fun k => g_if k⟩
instance i_chain  : Step (tChain r r' ta tb tc σ H Q) (ta σ H fun x H1 => tb σ H1 fun y H2 => r x y H2 fun z H3 => ∃ k, z = .bl k ∧
  (if k = true then tc σ H3 fun w' H4 => r' y w' H4 Q else Q (.bl false) H3)) := ⟨fun k => g_chain k⟩
instance i_nil {R : List V → Hp → Prop} : Step (tNil σ H R) (R [] H) := ⟨fun k => g_nil k⟩
instance i_cons {tr : TA} {R : List V → Hp → Prop} : Step (tCons ta tr σ H R) (ta σ H fun x H1 => tr σ H1 fun xs H2 => R (x :: xs) H2) := ⟨fun k => g_cons k⟩
instance i_cb {f : List V → Hp → VK → Prop} {tr : TA} : Step (tCB f tr σ H Q) (tr σ H fun vs H1 => f vs H1 Q) := ⟨fun k => g_cb k⟩
instance i_kn {n m : Nat} {gV : List V → List V → List V} {sp : Sp} {E : XK} {ts tk : TA} : Step (tKn n m gV sp E ts tk σ H Q) (ts σ H fun vs H1 => tk σ H1 fun zs H2 => vs.length = n ∧ zs.length = m ∧ sp (gV vs zs) H2 Q E) := ⟨fun k => g_kn k⟩
instance i_tup {tr : TA} : Step (tTup tr σ H Q) (tr σ H fun xs H1 => xs.length ≤ sizeLine ∧ NewO H1 (.tup xs) Q) := ⟨fun k => g_tup k⟩
instance i_lst {tr : TA} : Step (tLst tr σ H Q) (tr σ H fun xs H1 => xs.length ≤ sizeLine ∧ NewO H1 (.lst xs) Q) := ⟨fun k => g_lst k⟩
instance i_dnew  : Step (tDNewK σ H Q) (NewO H (.dK []) Q) := ⟨fun k => g_dnew k⟩
instance i_sl {f : V → Option Int → Option Int → Hp → VK → Prop} {tl th : TO} : Step (tSl f te tl th σ H Q) (te σ H fun x H1 => tl σ H1 fun l H2 => th σ H2 fun u H3 => f x l u H3 Q) := ⟨fun k => g_sl k⟩
instance i_nopart {R : Option Int → Hp → Prop} : Step (tNoPart σ H R) (R none H) := ⟨fun k => g_nopart k⟩
instance i_part {R : Option Int → Hp → Prop} : Step (tPart te σ H R) (te σ H fun x H1 => ∃ i, x = .int i ∧ R (some i) H1) := ⟨fun k => g_part k⟩
instance i_int {R : Int → Prop} : Step (∃ j, V.int i = .int j ∧ R j) (R i) := ⟨fun k => g_int k⟩
instance i_m1 {f : V → List V → Hp → VK → Prop} : Step (tM1 f ta te σ H Q) (ta σ H fun x H1 => (∃ a, x = .str a) ∧ te σ H1 fun y H2 => f x [y] H2 Q) := ⟨fun k => g_m1 k⟩
instance i_m0 {f : V → List V → Hp → VK → Prop} : Step (tM0 f ta σ H Q) (ta σ H fun x H1 => (∃ a, x = .str a) ∧ f x [] H1 Q) := ⟨fun k => g_m0 k⟩
instance i_isS {R : Prop} : Step ((∃ b, V.str a = .str b) ∧ R) (R) := ⟨fun k => g_isS k⟩
instance i_seq  : Step (tSeq t1 t2 D σ H) (t1 { D with nx := t2 D } σ H) := ⟨fun k => g_seq k⟩
instance i_next  : Step (tNext D σ H) (D.nx σ H) := ⟨fun k => g_next k⟩
instance i_ifS  : Step (tIfS c t1 t2 D σ H) (c σ H fun b H1 => if b = true then t1 D σ H1 else t2 D σ H1) := ⟨fun k => g_ifS k⟩
instance i_ret  : Step (tRet te D σ H) (te σ H D.rt) := ⟨fun k => g_ret k⟩
instance i_asg  : Step (tAsg te g D σ H) (te σ H fun x H1 => g x σ H1 D.nx) := ⟨fun k => g_asg k⟩
instance i_drop  : Step (tDrop te D σ H) (te σ H fun _ H1 => D.nx σ H1) := ⟨fun k => g_drop k⟩
instance i_two {R : V → V → Prop} : Step (∃ v w, [x, y] = [v, w] ∧ R v w) (R x y) := ⟨fun k => g_two k⟩
instance i_ifT {A B : Prop} {i : Decidable (true = true)} : Step (@ite Prop (true = true) i A B) (A) := ⟨fun k => g_ifT k⟩
instance i_ifF {A B : Prop} {i : Decidable (false = true)} : Step (@ite Prop (false = true) i A B) (B) := ⟨fun k => g_ifF k⟩
instance i_ifnT {A B : Prop} {i : Decidable ((!true) = true)} : Step (@ite Prop ((!true) = true) i A B) (B) := ⟨fun k => g_ifnT k⟩
instance i_ifnF {A B : Prop} {i : Decidable ((!false) = true)} : Step (@ite Prop ((!false) = true) i A B) (A) := ⟨fun k => g_ifnF k⟩
instance i_brk  : Step (tBreak D σ H) (D.bk σ H) := ⟨fun k => g_brk k⟩
instance i_cont  : Step (tCont D σ H) (D.ct σ H) := ⟨fun k => g_cont k⟩
instance i_addI  : Step (rAddM K (.int i) (.int j) H Q) (Q (.int (i + j)) H) := ⟨fun k => g_addI k⟩
instance i_i0 {f : Int → Int → V} : Step (rI0 f (.int i) (.int j) H Q) (Q (f i j) H) := ⟨fun k => g_i0 k⟩
instance i_u {f : Int → V} : Step (rU f (.int i) H Q) (Q (f i) H) := ⟨fun k => g_u k⟩
instance i_inS {n : Nat} {neg : Bool} : Step (rInM K neg (.str ⟨#[n]⟩) (.str a) H Q) (Q (.bl (if neg then !decide (n ∈ a.cps.toList) else decide (n ∈ a.cps.toList))) H) := ⟨fun k => g_inS k⟩
instance i_abs  : Step (rAbs [.int i] H Q) (Q (.int (if i < 0 then -i else i)) H) := ⟨fun k => g_abs k⟩
instance i_intI  : Step (rIntM [.int i] H Q) (Q (.int i) H) := ⟨fun k => g_intI k⟩
instance i_intB  : Step (rIntM [.bl b] H Q) (Q (.int (if b then 1 else 0)) H) := ⟨fun k => g_intB k⟩
/-- a step that asks for a size -/
class StepZ (G : Prop) (C N : outParam Prop) : Prop where
  imp : C → N → G
instance z_addS : StepZ (rAddM K (.str a) (.str q) H Q) (a.length + q.length ≤ sizeLine) (Q (.str (a ++ q)) H) := ⟨g_addS⟩
instance z_lenS : StepZ (rLen K [.str a] H Q) (a.length ≤ sizeLine) (Q (.int a.length) H) := ⟨g_lenS⟩
instance z_strip : StepZ (rStrip (.str a) [.str q] H Q) (a.length ≤ sizeLine) (Q (.str (Txt.stripChars a q)) H) := ⟨g_strip⟩
instance z_slS {lo hi : Option Int} : StepZ (rSlM K (.str a) lo hi H Q) (a.length ≤ sizeLine) (Q (.str (cutS a lo hi)) H) := ⟨g_slS⟩
instance z_mulI : StepZ (rMulM (.int i) (.int j) H Q) (CMa i j) (Q (.int (i * j)) H) := ⟨g_mulI⟩
instance z_mulS : StepZ (rMulM (.str a) (.int j) H Q) (MulOk a j) (Q (.str (Txt.mul a j)) H) := ⟨g_mulS⟩
instance z_upper : StepZ (rUpper (.str a) [] H Q) (a.length ≤ 5592405) (Q (.str (Txt.upper a)) H) := ⟨g_upper⟩
instance z_i {C : Int → Int → Prop} {f : Int → Int → V} : StepZ (rI C f (.int i) (.int j) H Q) (C i j) (Q (f i j) H) := ⟨g_i⟩
instance z_and {n : Nat} {R : Prop} : StepZ (n ≤ sizeLine ∧ R) (n ≤ sizeLine) R := ⟨fun a b => ⟨a, b⟩⟩
instance z_andL {n : Nat} {R : Prop} : StepZ (n < sizeLine ∧ R) (n < sizeLine) R := ⟨fun a b => ⟨a, b⟩⟩
/-- a step that asks what stands at an address -/
class StepQ (G : Prop) (C N : outParam (List V → Prop)) : Prop where
  imp : ∀ xs, C xs → N xs → G
instance q_lenL {p : Addr} : StepQ (rLen K [.ref p] H Q) (fun xs => SqL K H p xs ∨ SqT K H p xs) (fun xs => Q (.int xs.length) H) :=
  ⟨fun xs h k => h.elim (fun h => g_lenL h k) (fun h => g_lenT h k)⟩
instance q_ix {p : Addr} : StepQ (rIxM K (.ref p) (.int i) H Q) (fun xs => SqL K H p xs ∨ SqT K H p xs) (fun xs => ∃ v, atI xs i = some v ∧ Q v H) :=
  ⟨fun xs h ⟨v, e, k⟩ => h.elim (fun h => g_ixL h e k) (fun h => g_ixT h e k)⟩
instance q_slL {p : Addr} {lo hi : Option Int} : StepQ (rSlM K (.ref p) lo hi H Q) (fun xs => SqL K H p xs) (fun xs => NewO H (.lst (cutV xs lo hi)) Q) :=
  ⟨fun xs h k => g_slL h k⟩
instance q_in {p : Addr} {neg : Bool} : StepQ (rInM K neg x (.ref p) H Q) (fun xs => SqL K H p xs ∨ SqT K H p xs)
  (fun xs => flatV x = true ∧ xs.all flatV = true ∧ Q (.bl (if neg then !inV x xs else inV x xs)) H) := ⟨fun xs h ⟨k1, k2, k3⟩ => g_inQ h k1 k2 k3⟩
instance q_addL {l m : Addr} : StepQ (rAddM K (.ref l) (.ref m) H Q) (fun xs => H l = some (.lst xs))
  (fun xs => ∃ ys, H m = some (.lst ys) ∧ xs.length + ys.length ≤ sizeLine ∧ NewO H (.lst (xs ++ ys)) Q) :=
  ⟨fun xs h ⟨ys, k1, k2, k3⟩ => g_addL h k1 k2 k3⟩
instance q_exL {p : Addr} {R : List V → Prop} : StepQ (∃ ys, H p = some (.lst ys) ∧ R ys) (fun ys => H p = some (.lst ys)) R := ⟨fun ys h k => ⟨ys, h, k⟩⟩
instance q_itL {p : Addr} {R : Addr → Prop} : StepQ (∃ b, V.ref p = .ref b ∧ (∃ xs, SqL K H b xs) ∧ R b) (fun xs => SqL K H p xs) (fun _ => R p) := ⟨fun xs h k => ⟨p, rfl, ⟨xs, h⟩, k⟩⟩
instance q_itT {p : Addr} {R : Addr → Prop} : StepQ (∃ b, V.ref p = .ref b ∧ (∃ xs, SqT K H b xs) ∧ R b) (fun xs => SqT K H p xs) (fun _ => R p) := ⟨fun xs h k => ⟨p, rfl, ⟨xs, h⟩, k⟩⟩
instance q_tyL {p : Addr} {R : Prop} : StepQ (tyV K "list" (.ref p) H ∧ R) (fun xs => SqL K H p xs) (fun _ => R) := ⟨fun xs h k => ⟨.inl ⟨rfl, xs, h⟩, k⟩⟩
instance q_append {l : Addr} : StepQ (rAppend (.ref l) [v] H Q) (fun xs => H l = some (.lst xs)) (fun xs => xs.length < sizeLine ∧ Q .non (upd H l (.lst (xs ++ [v])))) :=
  ⟨fun xs h k => ⟨l, xs, v, rfl, rfl, h, k⟩⟩
instance q_extend {l m : Addr} : StepQ (rExtend (.ref l) [.ref m] H Q) (fun xs => H l = some (.lst xs))
  (fun xs => ∃ zs, H m = some (.lst zs) ∧ xs.length + zs.length ≤ sizeLine ∧ Q .non (upd H l (.lst (xs ++ zs)))) := ⟨fun xs h ⟨zs, k1, k2, k3⟩ => ⟨l, m, xs, zs, rfl, rfl, h, k1, k2, k3⟩⟩
instance q_setL {p : Addr} {R : Hp → Prop} : StepQ (rSetL (.ref p) (.int i) v H R) (fun xs => H p = some (.lst xs)) (fun xs => ∃ j, ixN xs.length i = some j ∧ R (upd H p (.lst (xs.set j v)))) :=
  ⟨fun xs h ⟨j, e, k⟩ => ⟨p, xs, i, j, rfl, rfl, h, e, k⟩⟩
instance i_gSub {t : TSet} {R : L2.St → Hp → Prop} : Step (gSub ta tb t v σ H R) (ta σ H fun o H1 => tb σ H1 fun i H2 => t o i v H2 fun H3 => R σ H3) := ⟨fun k => k⟩
instance i_bm {T : String} {f : V → List V → Hp → VK → Prop} {ts : TA} : Step (tBM K T f ta ts σ H Q) (ta σ H fun x H1 => tyV K T x H1 ∧ ts σ H1 fun xs H2 => f x xs H2 Q) := ⟨fun k => k⟩
instance i_bm0 {T : String} {f : V → List V → Hp → VK → Prop} : Step (tBM0 K T f ta σ H Q) (ta σ H fun x H1 => tyV K T x H1 ∧ f x [] H1 Q) := ⟨fun k => k⟩
/-- a step that asks for a datum -/
class StepD (G : Prop) (C N : outParam (PyData → Prop)) : Prop where
  imp : ∀ d, C d → N d → G
instance d_isStr : StepD (rIsi K [x, .ty "str"] H Q) (fun d => Da K H x d) (fun d => Q (.bl (isStr d)) H) := ⟨fun d h k => g_isiStr h k⟩
instance d_isInt : StepD (rIsi K [x, .ty "int"] H Q) (fun d => Da K H x d) (fun d => Q (.bl (isInt d)) H) := ⟨fun d h k => g_isiInt h k⟩
instance d_isBool : StepD (rIsi K [x, .ty "bool"] H Q) (fun d => Da K H x d) (fun d => Q (.bl (isBool d)) H) := ⟨fun d h k => g_isiBool h k⟩
instance d_isTup : StepD (rIsi K [x, .ty "tuple"] H Q) (fun d => Da K H x d) (fun d => Q (.bl (isTup d)) H) := ⟨fun d h k => g_isiTup h k⟩
instance d_repr : StepD (rRepr K [x] H Q) (fun d => Da K H x d) (fun d => d.showable = true ∧ d.depth ≤ 60 ∧ d.shown.length ≤ sizeLine ∧ Q (.str d.shown) H) :=
  ⟨fun d h ⟨k1, k2, k3, k4⟩ => g_repr h k1 k2 k3 k4⟩
end
end L2.Pc
namespace L2.Pc
open PySem PySem.Spec PyProof.Rows
theorem bt_len : bootBuiltins "len" = some (.builtin "len") := by decide +kernel
theorem bt_abs : bootBuiltins "abs" = some (.builtin "abs") := by decide +kernel
theorem bt_repr : bootBuiltins "repr" = some (.builtin "repr") := by decide +kernel
theorem bt_isinstance : bootBuiltins "isinstance" = some (.builtin "isinstance") := by decide +kernel
theorem bt_all : bootBuiltins "all" = some (.builtin "all") := by decide +kernel
theorem bt_str : bootBuiltins "str" = some (.type "str") := by decide +kernel
theorem bt_tuple : bootBuiltins "tuple" = some (.type "tuple") := by decide +kernel
theorem bt_list : bootBuiltins "list" = some (.type "list") := by decide +kernel
theorem hu64 {k : Nat} {A : Around} (r : Room k A) : A.units + 64 < cLine := by have := r.un; omega
theorem szl : sizeLine = 16777216 := by decide
/-! ### promises by the number of arguments -/
def Sp1 (R : V → Hp → VK → Prop) : Sp := fun vs H Q _ => ∃ x, vs = [x] ∧ R x H Q
def Sp2 (R : V → V → Hp → VK → Prop) : Sp := fun vs H Q _ => ∃ x y, vs = [x, y] ∧ R x y H Q
def Sp3 (R : V → V → V → Hp → VK → Prop) : Sp := fun vs H Q _ => ∃ x y z, vs = [x, y, z] ∧ R x y z H Q
def Sp4 (R : V → V → V → V → Hp → VK → Prop) : Sp := fun vs H Q _ => ∃ x y z u, vs = [x, y, z, u] ∧ R x y z u H Q
section
variable {vs : List V} {H : Hp} {Q : VK} {E : XK} {x y z u : V}
theorem Sp1.len {R : V → Hp → VK → Prop} (h : Sp1 R vs H Q E) : vs.length = 1 := by obtain ⟨x, rfl, _⟩ := h; rfl
theorem Sp2.len {R : V → V → Hp → VK → Prop} (h : Sp2 R vs H Q E) : vs.length = 2 := by obtain ⟨x, y, rfl, _⟩ := h; rfl
theorem Sp3.len {R : V → V → V → Hp → VK → Prop} (h : Sp3 R vs H Q E) : vs.length = 3 := by obtain ⟨x, y, z, rfl, _⟩ := h; rfl
theorem Sp4.len {R : V → V → V → V → Hp → VK → Prop} (h : Sp4 R vs H Q E) : vs.length = 4 := by obtain ⟨x, y, z, u, rfl, _⟩ := h; rfl
theorem g_call1 {R : V → Hp → VK → Prop} (k : R x H Q) : [x].length = 1 ∧ ([] : List V).length = 0 ∧ Sp1 R [x] H Q E := ⟨rfl, rfl, x, rfl, k⟩
theorem g_call2 {R : V → V → Hp → VK → Prop} (k : R x y H Q) : [x, y].length = 2 ∧ ([] : List V).length = 0 ∧ Sp2 R [x, y] H Q E := ⟨rfl, rfl, x, y, rfl, k⟩
theorem g_call3 {R : V → V → V → Hp → VK → Prop} (k : R x y z H Q) : [x, y, z].length = 3 ∧ ([] : List V).length = 0 ∧ Sp3 R [x, y, z] H Q E := ⟨rfl, rfl, x, y, z, rfl, k⟩
theorem g_call4 {R : V → V → V → V → Hp → VK → Prop} (k : R x y z u H Q) : [x, y, z, u].length = 4 ∧ ([] : List V).length = 0 ∧ Sp4 R [x, y, z, u] H Q E := ⟨rfl, rfl, x, y, z, u, rfl, k⟩
end
/-- a written tuple of the module -/
def Kt (K : PySem.W.Frag) (a : Addr) (xs : List V) : Prop :=
  ∃ (o : Obj) (its : Array Value) (n : Nat), K.lookup a = some o ∧ o.cls = .type "tuple" ∧ o.data = .seq its n ∧ its.size ≤ sizeLine ∧ Vals xs its.toList
theorem Kt.sq {K : PySem.W.Frag} {a : Addr} {xs : List V} (h : Kt K a xs) (H : Hp) : SqT K H a xs := .inr h
/-! ### loops and comprehensions -/
def ForW (J : It) (g : TG) (tb : TS) (D : Ends) : L2.St → Hp → Prop := fun σ H =>
  ∃ W : Nat → Nat → L2.St → Hp → Prop, (∃ m, W 0 m σ H) ∧ ∀ i m σ H, W i m σ H → (J.stop i H ∧ D.nx σ H) ∨
    (J.go i H ∧ ∃ N : L2.St → Hp → Prop, (∀ σ' H', N σ' H' → ∃ m', m' < m ∧ W (i + 1) m' σ' H') ∧
      ∀ x H', J.yld i H x H' → g x σ H' fun σ2 H2 => tb { D with nx := N, ct := N, bk := D.nx } σ2 H2)
def LcW (J : It) (g : TG) (tt : TT) (te : TE) (vs : List Nat) (σ : L2.St) (Q : VK) : Hp → Prop := fun H1 =>
  ∀ D, H1 D = none → ∃ W : Nat → Nat → Hp → Prop, (∃ m, W 0 m (upd H1 D (.lst []))) ∧ ∀ i m H, W i m H →
    (J.stop i H ∧ Q (.ref D) H) ∨ (J.go i H ∧ ∃ Nx : Hp → Prop, (∀ H', Nx H' → ∃ m', m' < m ∧ W (i + 1) m' H') ∧
      ∀ x H', J.yld i H x H' → g x (wipe σ vs) H' fun σ2 H2 => wipe σ2 vs = wipe σ vs ∧ tt σ2 H2 fun b H3 =>
        if b = true then te σ2 H3 fun y H4 => ∃ acc, H4 D = some (.lst acc) ∧ acc.length < sizeLine ∧ Nx (upd H4 D (.lst (acc ++ [y]))) else Nx H3)
section
variable {K : PySem.W.Frag} {σ : L2.St} {H : Hp} {Q : VK} {D : Ends} {tb : TS} {g : TG} {tt : TT} {te tl : TE} {vs : List Nat} {ta : TA}
  {J : It} {n : Nat} {it : Nat → V} {G : Hp → Prop} {wi : TI} {R : It → Hp → Prop}
theorem g_for (k : wi σ H fun J H1 => ForW J g tb D σ H1) : tFor wi g tb D σ H := k
theorem g_lc (k : wi σ H fun J H1 => LcW J g tt te vs σ Q H1) : tLc wi g tt te vs σ H Q := k
theorem g_rng1 (k : ta σ H fun vs H1 => ∃ j : Int, vs = [.int j] ∧ -(2 ^ 62) ≤ j ∧ j < 2 ^ 62 ∧ R (Itr 0 j.toNat) H1) : iRng1 ta σ H R := k
theorem g_rng2 (k : ta σ H fun vs H1 => ∃ i j : Int, vs = [.int i, .int j] ∧ (-(2 ^ 62) ≤ i ∧ i < 2 ^ 62 ∧ -(2 ^ 62) ≤ j ∧ j < 2 ^ 62) ∧ R (Itr i (j - i).toNat) H1) : iRng2 ta σ H R := k
theorem g_iList (k : tl σ H fun x H1 => ∃ a, x = .ref a ∧ (∃ xs, SqL K H1 a xs) ∧ R (Itl K a) H1) : iList K tl σ H R := k
theorem g_iTup (k : tl σ H fun x H1 => ∃ a, x = .ref a ∧ (∃ xs, SqT K H1 a xs) ∧ R (Itt K a) H1) : iTup K tl σ H R := k
theorem g_iStr (k : tl σ H fun x H1 => ∃ z, x = .str z ∧ R (Its z) H1) : iStr tl σ H R := k
theorem g_itS {z : Str} (k : R (Its z) H) : ∃ y, V.str z = .str y ∧ R (Its y) H := ⟨z, rfl, k⟩
end
/-! ### steps found by their form -/
section
variable {vs : List V} {H : Hp} {Q : VK} {E : XK} {x y z u : V}
instance i_call1 {R : V → Hp → VK → Prop} : Step ([x].length = 1 ∧ ([] : List V).length = 0 ∧ Sp1 R [x] H Q E) (R x H Q) := ⟨fun k => g_call1 k⟩
instance i_call2 {R : V → V → Hp → VK → Prop} : Step ([x, y].length = 2 ∧ ([] : List V).length = 0 ∧ Sp2 R [x, y] H Q E) (R x y H Q) := ⟨fun k => g_call2 k⟩
instance i_call3 {R : V → V → V → Hp → VK → Prop} : Step ([x, y, z].length = 3 ∧ ([] : List V).length = 0 ∧ Sp3 R [x, y, z] H Q E) (R x y z H Q) := ⟨fun k => g_call3 k⟩
instance i_call4 {R : V → V → V → V → Hp → VK → Prop} : Step ([x, y, z, u].length = 4 ∧ ([] : List V).length = 0 ∧ Sp4 R [x, y, z, u] H Q E) (R x y z u H Q) := ⟨fun k => g_call4 k⟩
end
section
variable {K : PySem.W.Frag} {σ : L2.St} {H : Hp} {Q : VK} {D : Ends} {tb : TS} {g : TG} {tt : TT} {te tl : TE} {vs : List Nat} {ta : TA}
  {J : It} {n : Nat} {it : Nat → V} {G : Hp → Prop} {wi : TI} {R : It → Hp → Prop}
instance i_for  : Step (tFor wi g tb D σ H) (wi σ H fun J H1 => ForW J g tb D σ H1) := ⟨fun k => g_for k⟩
instance i_lc  : Step (tLc wi g tt te vs σ H Q) (wi σ H fun J H1 => LcW J g tt te vs σ Q H1) := ⟨fun k => g_lc k⟩
instance i_rng1  : Step (iRng1 ta σ H R) (ta σ H fun vs H1 => ∃ j : Int, vs = [.int j] ∧ -(2 ^ 62) ≤ j ∧ j < 2 ^ 62 ∧ R (Itr 0 j.toNat) H1) := ⟨fun k => g_rng1 k⟩
instance i_rng2  : Step (iRng2 ta σ H R) (ta σ H fun vs H1 => ∃ i j : Int, vs = [.int i, .int j] ∧ (-(2 ^ 62) ≤ i ∧ i < 2 ^ 62 ∧ -(2 ^ 62) ≤ j ∧ j < 2 ^ 62) ∧ R (Itr i (j - i).toNat) H1) := ⟨fun k => g_rng2 k⟩
instance i_iList  : Step (iList K tl σ H R) (tl σ H fun x H1 => ∃ a, x = .ref a ∧ (∃ xs, SqL K H1 a xs) ∧ R (Itl K a) H1) := ⟨fun k => g_iList k⟩
instance i_iTup  : Step (iTup K tl σ H R) (tl σ H fun x H1 => ∃ a, x = .ref a ∧ (∃ xs, SqT K H1 a xs) ∧ R (Itt K a) H1) := ⟨fun k => g_iTup k⟩
instance i_iStr  : Step (iStr tl σ H R) (tl σ H fun x H1 => ∃ z, x = .str z ∧ R (Its z) H1) := ⟨fun k => g_iStr k⟩
instance i_itS {z : Str} : Step (∃ y, V.str z = .str y ∧ R (Its y) H) (R (Its z) H) := ⟨fun k => g_itS k⟩
end
end L2.Pc
namespace L2.Pc
open PySem PySem.Spec PyProof.Rows
/-! ### lists cut and read -/
end L2.Pc
namespace L2.Pc
open PySem PySem.Spec PyProof.Rows
/-! ### the same rules, of a module's K that is named -/
section
variable {X : Cx} {K : PySem.W.Frag} (h : X.K = K)
include h
theorem k_eq (hu : X.A.units + 64 < cLine) : OpR X (compareOp .Eq) (rEqM K) := h ▸ op_eqM hu
theorem k_ne (hu : X.A.units + 64 < cLine) : OpR X (compareOp .NotEq) (rNeM K) := h ▸ op_neM hu
theorem k_in : OpR X (compareOp .In) (rInM K false) := h ▸ op_inM
theorem k_notIn : OpR X (compareOp .NotIn) (rInM K true) := h ▸ op_notInM
theorem k_ix : IxR X (rIxM K) := h ▸ ixM
theorem k_len : CallR X (.builtin "len") (rLen K) := h ▸ call_lenM
theorem k_join : MtR X "str.join" (rJoin K) := h ▸ mt_joinM
theorem k_isi : CallR X (.builtin "isinstance") (rIsi K) := h ▸ call_isi
theorem k_all (hc : X.calm = true) : CallR X (.builtin "all") (rAll K) := h ▸ cr_all hc
theorem k_repr (hga : X.A.guards = some []) (hu : X.A.units + 64 < cLine) (M : Sm X.base) : CallR X (.builtin "repr") (rRepr K) := h ▸ call_reprD hga hu M
end
instance i_exS {a : Str} {R : Str → Prop} : Step (∃ z, V.str a = .str z ∧ R z) (R a) := ⟨fun k => ⟨a, rfl, k⟩⟩
instance i_yes {σ : L2.St} {H : Hp} {R : Bool → Hp → Prop} : Step (tYes σ H R) (R true H) := ⟨fun k => k⟩
section
variable {X : Cx}
theorem pe_lcM {elt tg iter : Expr} {ifs : List Expr} {scope : Scope} {own : List (Str × Nat)} {vs : List Nat} {pos : Pos} {wi : TI} {g : TG} {tt : TT} {te : TE} (hv : own.map (·.2) = vs) (hc : X.calm = true) (hN : X.N.Nodup) (hi : PI X tg iter wi) (ok : BlkOk X.N X.env.scope scope own)
    (hg : ∀ (s : Shared) (H : Hp) (C : Addr) (cl : List (Str × Addr)) (fp : List Addr), PG (X.blk s H scope (compEnvC scope cl C X.env) fp) tg g) (ht : ∀ (s : Shared) (H : Hp) (C : Addr) (cl : List (Str × Addr)) (fp : List Addr), PTs (X.blk s H scope (compEnvC scope cl C X.env) fp) ifs tt)
    (he : ∀ (s : Shared) (H : Hp) (C : Addr) (cl : List (Str × Addr)) (fp : List Addr), PE (X.blk s H scope (compEnvC scope cl C X.env) fp) elt te) (hs : ∀ x, foldedSetIterable iter X.env x = pure x := by intro _; rfl) :
    PE X (.ListComp elt [⟨tg, iter, ifs, 0⟩] scope pos) (tLc wi g tt te vs) := hv ▸ pe_lc hc hN hi ok hg ht he hs
theorem ps_setLcM {i : Nat} {y : Str} {py : Pos} {elt tg iter : Expr} {ifs : List Expr} {scope : Scope} {own : List (Str × Nat)} {vs : List Nat} {pos spos : Pos} {wi : TI} {g : TG} {tt : TT} {te : TE} (hv : own.map (·.2) = vs) (hc : X.calm = true) (hN : X.N.Nodup) (hy : X.N[i]? = some y) (hyl : X.env.scope.names.lookup y = some .local)
    (hsw : swapsWith (.ListComp elt [⟨tg, iter, ifs, 0⟩] scope pos) (some (.Name y py)) spos.line X.env = pure true) (hi : PI X tg iter wi) (ok : BlkOk X.N X.env.scope scope own)
    (hg : ∀ (s : Shared) (H : Hp) (C : Addr) (cl : List (Str × Addr)) (fp : List Addr), PG (X.blk s H scope (compEnvC scope cl C X.env) fp) tg g) (ht : ∀ (s : Shared) (H : Hp) (C : Addr) (cl : List (Str × Addr)) (fp : List Addr), PTs (X.blk s H scope (compEnvC scope cl C X.env) fp) ifs tt)
    (he : ∀ (s : Shared) (H : Hp) (C : Addr) (cl : List (Str × Addr)) (fp : List Addr), PE (X.blk s H scope (compEnvC scope cl C X.env) fp) elt te) (hs : ∀ x, foldedSetIterable iter X.env x = pure x := by intro _; rfl) :
    PS X (.Assign [.Name y py] (.ListComp elt [⟨tg, iter, ifs, 0⟩] scope pos) spos) (tAsg (tLc wi g tt te vs) (gName i)) := hv ▸ ps_setLc hc hN hy hyl hsw hi ok hg ht he hs
end
theorem strip_iff (x y : Str) : Txt.stripChars x y = "" ↔ ∀ c ∈ x.cps.toList, c ∈ y.cps.toList := by
  have hc : ∀ c, y.cps.contains c = true ↔ c ∈ y.cps.toList := fun c => by simp
  unfold Txt.stripChars
  rw [PyProof.Rows.stripBy_eq]
  obtain ⟨l1, l2, l3⟩ := lo_facts y.cps.contains x
  obtain ⟨h1, h2, h3, h4⟩ := hi_facts y.cps.contains x _ l1
  generalize stripLo y.cps.contains true x = lo at *
  generalize stripHi y.cps.contains true x lo = hi at *
  have hn : x.length = x.cps.toList.length := by simp [Str.length]
  constructor
  · intro e c hcx
    have e2 : (PySem.Builtin.Str.strSub x lo hi).length = 0 := by rw [e]; rfl
    have e3 : (PySem.Builtin.Str.strSub x lo hi).length = min hi x.length - lo := by
      show (x.cps.extract lo hi).size = _
      simp [Str.length]
    obtain ⟨k, hk, rfl⟩ := List.mem_iff_getElem.mp hcx
    rw [← hc]
    have gk : x.cps.getD k 0 = x.cps.toList[k] := by simp [Array.getD, show k < x.cps.size by simpa using hk]
    rw [← gk]
    rcases Nat.lt_or_ge k lo with q | q
    · exact l2 k q
    · exact h3 k (by omega) (by omega)
  · intro e
    have el : lo = x.length := by
      rcases l3 with q | q
      · exact q
      · rcases Nat.lt_or_ge lo x.cps.toList.length with z | z
        · have gk : x.cps.getD lo 0 = x.cps.toList[lo] := by simp [Array.getD, show lo < x.cps.size by simpa using z]
          rw [gk, (hc _).mpr (e _ (List.getElem_mem z))] at q
          cases q
        · omega
    have eh : hi = x.length := by omega
    rw [el, eh]
    show (⟨x.cps.extract x.cps.size x.cps.size⟩ : Str) = _
    rw [Array.extract_eq_empty_of_le (by simp)]
    rfl
instance z_ixS {K : PySem.W.Frag} {a : Str} {i : Int} {H : Hp} {Q : VK} : StepZ (rIxM K (.str a) (.int i) H Q) (a.length ≤ sizeLine) (∃ n, atI a.cps.toList i = some n ∧ Q (.str ⟨#[n]⟩) H) :=
  ⟨fun hz ⟨n, e, k⟩ => g_ixS hz e k⟩
theorem one_len (n : Nat) : (⟨#[n]⟩ : Str).length = 1 := rfl
theorem reprB {K : PySem.W.Frag} {b : Bool} {H : Hp} {Q : VK} (k : Q (.str (PyData.bool b).shown) H) : rRepr K [.bl b] H Q :=
  g_repr (.bl b) (by simp [PyData.showable]) (by simp [PyData.depth]) (by rw [szl]; simp only [PyData.shown]; cases b <;> decide) k
instance i_reprB {K : PySem.W.Frag} {b : Bool} {H : Hp} {Q : VK} : Step (rRepr K [.bl b] H Q) (Q (.str (PyData.bool b).shown) H) := ⟨fun k => reprB k⟩
instance (priority := 2000) i_neSame {K : PySem.W.Frag} {a : Str} {H : Hp} {Q : VK} : Step (rNeM K (.str a) (.str a) H Q) (Q (.bl false) H) := ⟨fun k => g_ne rfl (by simpa using k)⟩
/-! ### a law's draws -/
structure PotOk (n : Nat) (a b c : Int) : Prop where
  a0 : 0 ≤ a
  b0 : 0 ≤ b
  b1 : b < 2305843009213693952
  c0 : 0 ≤ c
  c1 : c ≤ n
def PotR (n : Nat) : HO → Prop := fun u => ∃ a b c : Int, u = .lst [.int a, .int b, .int c] ∧ PotOk n a b c
abbrev PotO (P : Program) (w : World) (n : Nat) (z : Addr) : HO := AbsO P w (PotR n) z
def R_draw (P : Program) (w : World) : V → V → Hp → VK → Prop := fun x y H Q => ∃ (p : Addr) (k : Int) (n : Nat), x = .ref p ∧ y = .int k ∧
  H p = some (PotO P w n p) ∧ 1 ≤ k ∧ k < 1073741824 ∧ n ≤ 1000000000 ∧
  ∀ (r : Int) (H' : Hp), 0 ≤ r → r < k → Mx H H' → H' p = some (PotO P w (n + 1) p) → Q (.int r) H'
theorem g_draw {P : Program} {w : World} {p : Addr} {k : Int} {n : Nat} {H : Hp} {Q : VK} (hp : H p = some (PotO P w n p)) (k1 : 1 ≤ k) (k2 : k < 1073741824) (hn : n ≤ 1000000000)
    (q : ∀ (r : Int) (H' : Hp), 0 ≤ r → r < k → Mx H H' → H' p = some (PotO P w (n + 1) p) → Q (.int r) H') : R_draw P w (.ref p) (.int k) H Q :=
  ⟨p, k, n, rfl, rfl, hp, k1, k2, hn, q⟩
/-- a text that is no longer than a text may be -/
def smallD : PyData → Prop
  | .str s => s.length ≤ 16777216
  | _ => True
/-! ### texts of signs that repr shows -/
def Asc (z : Str) : Prop := ∀ c ∈ z.cps.toList, c < 16 ^ 8
/-! ### things of any kind -/
structure GoodD (k : Nat) (d : PyData) : Prop where
  sh : d.showable = true
  dp : d.depth ≤ k
  ln : d.shown.length ≤ 50000 + 4 * k
  sm : smallD d
  as : Asc d.shown
theorem GoodD.mono {k j : Nat} {d : PyData} (g : GoodD k d) (h : k ≤ j) : GoodD j d := ⟨g.sh, Nat.le_trans g.dp h, by have := g.ln; omega, g.sm, g.as⟩
/-! ### what the top has left -/
theorem kt_mk {K : PySem.W.Frag} {a : Addr} {od : Option Addr} {its : Array Value} {n : Nat} {sl : Array (Option Value)} {xs : List V}
    (h : K.lookup a = some ⟨.type "tuple", od, .seq its n, sl⟩) (hz : its.size ≤ sizeLine) (hv : Vals xs its.toList) : Kt K a xs := ⟨_, its, n, h, rfl, rfl, hz, hv⟩
theorem df_mk {K : PySem.W.Frag} {x qual : Str} {st : Stmt} {f : Addr} {oc : Value} {od : Option Addr} {dV kV doc pm : Value} {an : Option Addr} {cdv ct : Value} {sl : Array (Option Value)}
    (l : K.lookup f = some ⟨oc, od, .func (PySem.W.fnOf x qual (defArgs st) (defBody st) (defScope st) dV kV doc pm an cdv ct), sl⟩) (c : PySem.W.codeIn K cdv qual = true) :
    Df K x qual st f (PySem.W.fnOf x qual (defArgs st) (defBody st) (defScope st) dV kV doc pm an cdv ct) := ⟨oc, od, dV, kV, doc, pm, an, cdv, ct, sl, rfl, l, c⟩
theorem Df.pos {K : PySem.W.Frag} {x qual : Str} {st : Stmt} {f : Addr} {fd : FuncData} {ps : List Str} {n : Nat} (F : Df K x qual st f fd)
    (h : ∀ (dV kV doc pm : Value) (an : Option Addr) (cdv ct : Value) (us : List Value), us.length = n →
      bindArgs (PySem.W.fnOf x qual (defArgs st) (defBody st) (defScope st) dV kV doc pm an cdv ct) ⟨us, []⟩ = pure (ps.zip us)) :
    ∀ us : List Value, us.length = n → bindArgs fd ⟨us, []⟩ = pure (ps.zip us) := by
  obtain ⟨oc, od, dV, kV, doc, pm, an, cdv, ct, sl, rfl, _, _⟩ := F.ex
  exact h dV kV doc pm an cdv ct
/-! ### names -/
abbrev lettersT : Str := "abcdefghijklmnopqrstuvwxyz"
def keptT : List Str := ["pin", "again", "move", "take", "tear", "at", "to", "until", "strips", "known"]
end L2.Pc
namespace L2.Pc
open PySem PySem.Spec PyProof.Rows
/-! ### promises that tell of exceptions too -/
def SpX1 (R : V → Hp → VK → XK → Prop) : Sp := fun vs H Q E => ∃ x, vs = [x] ∧ R x H Q E
def SpX2 (R : V → V → Hp → VK → XK → Prop) : Sp := fun vs H Q E => ∃ x y, vs = [x, y] ∧ R x y H Q E
def SpX3 (R : V → V → V → Hp → VK → XK → Prop) : Sp := fun vs H Q E => ∃ x y z, vs = [x, y, z] ∧ R x y z H Q E
def SpX4 (R : V → V → V → V → Hp → VK → XK → Prop) : Sp := fun vs H Q E => ∃ x y z u, vs = [x, y, z, u] ∧ R x y z u H Q E
def SpX5 (R : V → V → V → V → V → Hp → VK → XK → Prop) : Sp := fun vs H Q E => ∃ x y z u t, vs = [x, y, z, u, t] ∧ R x y z u t H Q E
def SpX6 (R : V → V → V → V → V → V → Hp → VK → XK → Prop) : Sp := fun vs H Q E => ∃ x y z u t r, vs = [x, y, z, u, t, r] ∧ R x y z u t r H Q E
section
variable {vs : List V} {H : Hp} {Q : VK} {E : XK} {x y z u t r : V}
theorem SpX1.len {R : V → Hp → VK → XK → Prop} (h : SpX1 R vs H Q E) : vs.length = 1 := by obtain ⟨x, rfl, _⟩ := h; rfl
theorem SpX2.len {R : V → V → Hp → VK → XK → Prop} (h : SpX2 R vs H Q E) : vs.length = 2 := by obtain ⟨x, y, rfl, _⟩ := h; rfl
theorem SpX3.len {R : V → V → V → Hp → VK → XK → Prop} (h : SpX3 R vs H Q E) : vs.length = 3 := by obtain ⟨x, y, z, rfl, _⟩ := h; rfl
theorem SpX4.len {R : V → V → V → V → Hp → VK → XK → Prop} (h : SpX4 R vs H Q E) : vs.length = 4 := by obtain ⟨x, y, z, u, rfl, _⟩ := h; rfl
theorem SpX5.len {R : V → V → V → V → V → Hp → VK → XK → Prop} (h : SpX5 R vs H Q E) : vs.length = 5 := by obtain ⟨x, y, z, u, t, rfl, _⟩ := h; rfl
theorem SpX6.len {R : V → V → V → V → V → V → Hp → VK → XK → Prop} (h : SpX6 R vs H Q E) : vs.length = 6 := by obtain ⟨x, y, z, u, t, r, rfl, _⟩ := h; rfl
instance i_callX1 {R : V → Hp → VK → XK → Prop} : Step ([x].length = 1 ∧ ([] : List V).length = 0 ∧ SpX1 R [x] H Q E) (R x H Q E) := ⟨fun k => ⟨rfl, rfl, x, rfl, k⟩⟩
instance i_callX2 {R : V → V → Hp → VK → XK → Prop} : Step ([x, y].length = 2 ∧ ([] : List V).length = 0 ∧ SpX2 R [x, y] H Q E) (R x y H Q E) := ⟨fun k => ⟨rfl, rfl, x, y, rfl, k⟩⟩
instance i_callX3 {R : V → V → V → Hp → VK → XK → Prop} : Step ([x, y, z].length = 3 ∧ ([] : List V).length = 0 ∧ SpX3 R [x, y, z] H Q E) (R x y z H Q E) := ⟨fun k => ⟨rfl, rfl, x, y, z, rfl, k⟩⟩
instance i_callX4 {R : V → V → V → V → Hp → VK → XK → Prop} : Step ([x, y, z, u].length = 4 ∧ ([] : List V).length = 0 ∧ SpX4 R [x, y, z, u] H Q E) (R x y z u H Q E) := ⟨fun k => ⟨rfl, rfl, x, y, z, u, rfl, k⟩⟩
end
/-! ### calls of defs that may raise -/
section
variable {X : Cx} {CX : CXT} {k n : Nat} {ks : List Str} {gV : List V → List V → List V} {sp : Sp} {E : L2.St → XK} {x : Str}
  {p pos : Pos} {e : Expr} {es : List Expr} {kws : List Keyword} {t tk : TA}
def tKnS (n m : Nat) (gV : List V → List V → List V) (sp : Sp) (E : L2.St → XK) (t tk : TA) : TE := fun σ H Q =>
  t σ H fun vs H1 => tk σ H1 fun zs H2 => vs.length = n ∧ zs.length = m ∧ sp (gV vs zs) H2 Q (E σ)
instance i_knS {σ : L2.St} {H : Hp} {Q : VK} {m : Nat} {ts tk : TA} : Step (tKnS n m gV sp E ts tk σ H Q) (ts σ H fun vs H1 => tk σ H1 fun zs H2 => vs.length = n ∧ zs.length = m ∧ sp (gV vs zs) H2 Q (E σ)) := ⟨fun k => k⟩
end
/-! ### an own exception class with its own __init__ -/
/-- the base class x, without own __init__ -/
structure XbK (K : PySem.W.Frag) (mg : Str → Option Value) (x : Str) (C : Addr) : Prop where
  g : mg x = some (.ref C)
  sp : PySem.W.specialIn K (.ref C) "__getattribute__" = some (some (.builtin "type.__getattribute__"))
  ty : PySem.W.typeIn K (.ref C) = some (.type "type")
  rd : PySem.W.readsIn K C (.type "type") = true
  fi : PySem.W.findCls K (.ref C) (.type "type") "__init__" = some (.val (.builtin "ValueError.__init__"))
/-! ### readings -/
/-- what an __init__ of one field promises -/
def R_exc1 (C : Addr) (f : Str) : V → V → Hp → VK → Prop := fun x y H Q => ∃ a, x = .ref a ∧ H a = some (exo a C none) ∧
  ∀ dx, H dx = none → dx ≠ a → Q .non (upd (upd H dx (exd dx [(f, y)])) a (exo a C (some dx)))
/-- a new exception of the class at C, its field -/
def NewX (C : Addr) (f : Str) (y : V) (H : Hp) (Q : XK) : Prop := ∀ d H2, H d = none → Same H H2 → H2 d = some (.xd [(f, y)]) → Q (.ref C) (some d) H2
/-- the leaf of C(e, ..) -/
def MkX (C : Addr) (sp : Sp) (H1 : Hp) (Q : XK) (vs : List V) : Prop := vs.length ≤ 1000 ∧ ∀ a, H1 a = none → sp (.ref a :: (vs ++ [])) (upd H1 a (exo a C none))
  (fun v H2 => v = .non ∧ ∃ (d : Addr) (fs : List (Str × V)), H2 a = some (exo a C (some d)) ∧ H2 d = some (exd d fs) ∧ H1 d = none ∧ Q (.ref C) (some d) (upd (del H2 a) d (.xd fs))) (fun _ _ _ => False)
theorem g_mkX {C : Addr} {f : Str} {H1 : Hp} {Q : XK} {y : V} (q : NewX C f y H1 Q) : MkX C (Sp2 (R_exc1 C f)) H1 Q [y] := by
  refine ⟨by simp, fun a na => ⟨_, y, rfl, a, rfl, upd_same, fun dx nd ne => ⟨rfl, dx, [(f, y)], upd_same, ?_, ?_, ?_⟩⟩⟩
  · rw [upd_ne ne, upd_same]
  · rw [upd_ne ne] at nd; exact nd
  · rw [upd_ne ne] at nd
    refine q dx _ nd (fun b o hb => ?_) upd_same
    have b1 : b ≠ dx := ne_of_none hb nd
    have b2 : b ≠ a := ne_of_none hb na
    rw [upd_ne b1, del_ne b2, upd_ne b2, upd_ne b1, upd_ne b2]
    exact hb
section
variable {σ : L2.St} {H : Hp} {K : PySem.W.Frag} {C : Addr} {f : Str} {y : V}
instance i_mkO {sp : Sp} {ta : TA} {Q : XK} : Step (tMkO C sp [] ta σ H Q) (ta σ H fun vs H1 => MkX C sp H1 Q vs) := ⟨fun k => k⟩
instance i_mkX {Q : XK} : Step (MkX C (Sp2 (R_exc1 C f)) H Q [y]) (NewX C f y H Q) := ⟨g_mkX⟩
instance i_vei {ta : TA} {Q : VK} : Step (tVeI K ta σ H Q) (ta σ H fun vs H1 => ∃ (a C : Addr) (ws : List V), vs = .ref a :: ws ∧ ws.length ≤ 1000 ∧ OexC K C ∧ H1 a = some (exo a C none) ∧ Q .non H1) := ⟨fun k => k⟩
instance i_ost {to te : TE} {D : Ends} : Step (tOst K f to te D σ H) (te σ H fun y H1 => to σ H1 fun x H2 => ∃ a C : Addr, x = .ref a ∧ OexC K C ∧ PySem.W.findIn K (.ref C) f = some none ∧
  ((H2 a = some (exo a C none) ∧ ∀ dx, H2 dx = none → dx ≠ a → D.nx σ (upd (upd H2 dx (exd dx [(f, y)])) a (exo a C (some dx)))) ∨
    ∃ (dx : Addr) (fs : List (Str × V)), H2 a = some (exo a C (some dx)) ∧ H2 dx = some (exd dx fs) ∧ fs.length ≤ 900 ∧ D.nx σ (upd H2 dx (exd dx ((f, y) :: fs))))) := ⟨fun k => k⟩
end
instance i_xf {a C : Addr} {cls : Value} {d : Option Addr} {f : Str} {te : TE} {σ : L2.St} {H : Hp} {Q : VK} : Step (tXf a cls d C f te σ H Q) (te σ H fun x H1 => x = .ref a ∧ cls = .ref C ∧ ∃ (dd : Addr) (fs : List (Str × V)) (v : V), d = some dd ∧ H1 dd = some (.xd fs) ∧ fs.lookup f = some v ∧ Q v H1) := ⟨fun k => k⟩
theorem exm_of {K : PySem.W.Frag} {C S : Addr} {b : Bool} (h1 : PySem.W.subIn K (.ref S) (.type "BaseException") = some true) (h2 : PySem.W.isClsIn K S = true) (h3 : PySem.W.typeIn K (.ref S) = some (.type "type")) (h4 : PySem.W.subIn K (.ref C) (.ref S) = some b) :
    PySem.W.exmOne K (.ref C) (.ref S) = some b := by
  have e1 : (PySem.W.subIn K (.ref S) (.type "BaseException") == some true) = true := by rw [h1] <;> rfl
  have e2 : ((PySem.W.clsIn K S).isSome && PySem.W.typeIn K (.ref S) == some (.type "type")) = true := by
    have h2' : (PySem.W.clsIn K S).isSome = true := h2
    rw [h2', h3] <;> rfl
  show (if (PySem.W.subIn K (.ref S) (.type "BaseException") == some true) = true then (if ((PySem.W.clsIn K S).isSome && PySem.W.typeIn K (.ref S) == some (.type "type")) = true then PySem.W.subIn K (.ref C) (.ref S) else none) else none) = some b
  rw [if_pos e1, if_pos e2]
  exact h4
end L2.Pc
namespace L2.Pc
open PySem PySem.Spec PyProof.Rows
/-! ### texts further -/
section
variable {X : Cx}
def rStrM : List V → Hp → VK → Prop := fun xs H Q => (∃ i, xs = [.int i] ∧ i.natAbs.log2 < 1920 ∧ Q (.str (toString i)) H) ∨ ∃ a, xs = [.str a] ∧ Q (.str a) H
def rZfill : V → List V → Hp → VK → Prop := fun x xs H Q => ∃ (a : Str) (i : Int), x = .str a ∧ xs = [.int i] ∧ PadOk i = true ∧ Q (.str (Txt.zfill a i)) H
def rPart : V → List V → Hp → VK → Prop := fun x xs H Q => ∃ a b, x = .str a ∧ xs = [.str b] ∧ (b.length == 0) = false ∧ a.length ≤ sizeLine ∧
  ∀ p, H p = none → Q (.ref p) (upd H p (.tup [.str (Txt.partition a b).1, .str (Txt.partition a b).2.1, .str (Txt.partition a b).2.2]))
end
section
variable {σ : L2.St} {H : Hp} {Q : VK} {a b : Str} {i : Int}
instance z_strI : StepZ (rStrM [.int i] H Q) (i.natAbs.log2 < 1920) (Q (.str (toString i)) H) := ⟨fun h k => .inl ⟨i, rfl, h, k⟩⟩
instance i_strS : Step (rStrM [.str a] H Q) (Q (.str a) H) := ⟨fun k => .inr ⟨a, rfl, k⟩⟩
instance z_zfill : StepZ (rZfill (.str a) [.int i] H Q) (PadOk i = true) (Q (.str (Txt.zfill a i)) H) := ⟨fun h k => ⟨a, i, rfl, rfl, h, k⟩⟩
instance z_part : StepZ (rPart (.str a) [.str b] H Q) ((b.length == 0) = false ∧ a.length ≤ sizeLine) (NewO H (.tup [.str (Txt.partition a b).1, .str (Txt.partition a b).2.1, .str (Txt.partition a b).2.2]) Q) :=
  ⟨fun h k => ⟨a, b, rfl, rfl, h.1, h.2, k⟩⟩
end
/-- a[::-1] of a text: a text of signs of it, no longer -/
def tRevS (te : TE) : TE := fun σ H Q => te σ H fun x H1 => ∃ a, x = .str a ∧ a.length ≤ sizeLine ∧ ∀ z : Str, z.length ≤ a.length → (∀ c ∈ z.cps.toList, c ∈ a.cps.toList) → Q (.str z) H1
instance i_revS {te : TE} {σ : L2.St} {H : Hp} {Q : VK} : Step (tRevS te σ H Q) (te σ H fun x H1 => ∃ a, x = .str a ∧ a.length ≤ sizeLine ∧ ∀ z : Str, z.length ≤ a.length → (∀ c ∈ z.cps.toList, c ∈ a.cps.toList) → Q (.str z) H1) := ⟨fun k => k⟩
/-! ### small numbers as texts -/
/-! ### texts of figures -/
instance z_intS {a : Str} {H : Hp} {Q : VK} : StepZ (rIntM [.str a] H Q) (a.length ≤ 640) (∃ n, PySem.intText? a = some n ∧ Q (.int n) H) := ⟨fun h ⟨n, e, k⟩ => g_intS e h k⟩
/-! ### is None; a tuple unpacked -/
def rIsNo : R2 := fun x y H Q => y = .non ∧ Q (.bl (decide (x = .non))) H
def rNotNo : R2 := fun x y H Q => y = .non ∧ Q (.bl (!decide (x = .non))) H
theorem op_isNo {X : Cx} : OpR X (compareOp .Is) rIsNo := op_isN
section
variable {H : Hp} {Q : VK} {i : Int} {a : Str} {b : Bool} {p : Addr} {m : String}
instance i_isNoN : Step (rIsNo .non .non H Q) (Q (.bl true) H) := ⟨fun k => ⟨rfl, k⟩⟩
instance i_notNoN : Step (rNotNo .non .non H Q) (Q (.bl false) H) := ⟨fun k => ⟨rfl, k⟩⟩
instance i_isNoI : Step (rIsNo (.int i) .non H Q) (Q (.bl false) H) := ⟨fun k => ⟨rfl, by rw [show decide ((.int i : V) = .non) = false from decide_eq_false (fun z => by cases z)]; exact k⟩⟩
instance i_notNoI : Step (rNotNo (.int i) .non H Q) (Q (.bl true) H) := ⟨fun k => ⟨rfl, by rw [show decide ((.int i : V) = .non) = false from decide_eq_false (fun z => by cases z)]; exact k⟩⟩
instance i_isNoS : Step (rIsNo (.str a) .non H Q) (Q (.bl false) H) := ⟨fun k => ⟨rfl, by rw [show decide ((.str a : V) = .non) = false from decide_eq_false (fun z => by cases z)]; exact k⟩⟩
instance i_notNoS : Step (rNotNo (.str a) .non H Q) (Q (.bl true) H) := ⟨fun k => ⟨rfl, by rw [show decide ((.str a : V) = .non) = false from decide_eq_false (fun z => by cases z)]; exact k⟩⟩
instance i_isNoB : Step (rIsNo (.bl b) .non H Q) (Q (.bl false) H) := ⟨fun k => ⟨rfl, by rw [show decide ((.bl b : V) = .non) = false from decide_eq_false (fun z => by cases z)]; exact k⟩⟩
instance i_notNoB : Step (rNotNo (.bl b) .non H Q) (Q (.bl true) H) := ⟨fun k => ⟨rfl, by rw [show decide ((.bl b : V) = .non) = false from decide_eq_false (fun z => by cases z)]; exact k⟩⟩
instance i_isNoR : Step (rIsNo (.ref p) .non H Q) (Q (.bl false) H) := ⟨fun k => ⟨rfl, by rw [show decide ((.ref p : V) = .non) = false from decide_eq_false (fun z => by cases z)]; exact k⟩⟩
instance i_notNoR : Step (rNotNo (.ref p) .non H Q) (Q (.bl true) H) := ⟨fun k => ⟨rfl, by rw [show decide ((.ref p : V) = .non) = false from decide_eq_false (fun z => by cases z)]; exact k⟩⟩
instance i_isNoTy : Step (rIsNo (.ty m) .non H Q) (Q (.bl false) H) := ⟨fun k => ⟨rfl, by rw [show decide ((.ty m : V) = .non) = false from decide_eq_false (fun z => by cases z)]; exact k⟩⟩
instance i_notNoTy : Step (rNotNo (.ty m) .non H Q) (Q (.bl true) H) := ⟨fun k => ⟨rfl, by rw [show decide ((.ty m : V) = .non) = false from decide_eq_false (fun z => by cases z)]; exact k⟩⟩
end
theorem pg_tupK {X : Cx} {K : PySem.W.Frag} {es : List Expr} {k : Nat} {t : TGs} {n : Nat} {pos : Pos} (hK : X.K = K) (hc : X.calm = true) (h : PGs X es t)
    (hn : (assignEach es X.env).length = n := by rfl) (hst : (assignEach es X.env).findIdx? (·.1) = none := by rfl) : PG X (.Tuple es k pos) (gTup K n t) := hK ▸ pg_tup hc h hn hst
section
variable {K : PySem.W.Frag} {σ : L2.St} {H : Hp} {t : TG} {u : TGs} {n : Nat} {v : V} {vs : List V} {a : Addr} {R : L2.St → Hp → Prop}
instance q_gTup : StepQ (gTup K n u (.ref a) σ H R) (fun xs => SqT K H a xs) (fun xs => xs.length = n ∧ u xs σ H R) := ⟨fun xs h k => ⟨a, xs, rfl, h, k.1, k.2⟩⟩
instance i_gCons : Step (gCons t u (v :: vs) σ H R) (t v σ H fun σ' H' => u vs σ' H' R) := ⟨fun k => ⟨v, vs, rfl, k⟩⟩
instance i_gNil : Step (gNil [] σ H R) (R σ H) := ⟨fun k => ⟨rfl, k⟩⟩
end
end L2.Pc
namespace L2.Pc
open PySem PySem.Spec PyProof.Rows
/-! ### a text cut at its first sign c -/
theorem str_ext {a b : Str} (h : a.cps.toList = b.cps.toList) : a = b := by
  obtain ⟨⟨a⟩⟩ := a; obtain ⟨⟨b⟩⟩ := b
  rw [show a = b from h]
theorem len_list (x : Str) : x.length = x.cps.toList.length := by simp [Str.length]
section
variable {K : PySem.W.Frag} {x : V} {p : Addr} {H : Hp} {Q : VK}
instance (priority := 2000) q_in1 : StepQ (rInM K true x (.ref p) H Q) (fun xs => SqL K H p xs ∨ SqT K H p xs)
  (fun xs => flatV x = true ∧ xs.all flatV = true ∧ Q (.bl (!inV x xs)) H) := ⟨fun xs h ⟨k1, k2, k3⟩ => g_inQ h k1 k2 k3⟩
instance (priority := 2000) q_in0 : StepQ (rInM K false x (.ref p) H Q) (fun xs => SqL K H p xs ∨ SqT K H p xs)
  (fun xs => flatV x = true ∧ xs.all flatV = true ∧ Q (.bl (inV x xs)) H) := ⟨fun xs h ⟨k1, k2, k3⟩ => g_inQ h k1 k2 k3⟩
end
/-! ### long texts of one figure, as constants -/
end L2.Pc
namespace L2.Tr
open PySem PySem.Spec PyProof.Rows L2 L2.Pc
/-! ### values as trees -/
inductive D where
  | non | bl (b : Bool) | int (i : Int) | str (s : Str)
  | tup (xs : List D) | lst (xs : List D) | lsk (xs : List D) | tuk (xs : List D) | dct (kvs : List (D × D)) | dcu (kvs : List (D × D))
  | ins (c : Str) (fs : List (Str × D)) | cel (n : Nat) | fn (f : Str) | ty (n : String) | xob (c : Str) (fs : List (Str × D)) | xok (c : Str) (fs : List (Str × D)) | tun (xs : List D)
/-- a tree whose objects are owned, down to frozen leaves -/
inductive O where
  | fz (d : D) | lst (xs : List D) | dct (kvs : List (D × D)) | dcu (kvs : List (D × D)) | ins (c : Str) (fs : List (Str × O)) | dco (kvs : List (D × O)) | dcv (kvs : List (D × O))
def kD : Key → D
  | .inl i => .int i
  | .inr x => .str x
mutual
def O.toD : O → D
  | .fz d => d
  | .lst xs => .lst xs
  | .dct kvs => .dct kvs
  | .ins c fs => .ins c (O.toDf fs)
  | .dco kvs => .dct (O.toDk kvs)
  | .dcu kvs => .dcu kvs
  | .dcv kvs => .dcu (O.toDk kvs)
def O.toDf : List (Str × O) → List (Str × D)
  | [] => []
  | (n, o) :: r => (n, O.toD o) :: O.toDf r
def O.toDk : List (D × O) → List (D × D)
  | [] => []
  | (n, o) :: r => (n, O.toD o) :: O.toDk r
end
theorem toDf_map : ∀ fs : List (Str × O), O.toDf fs = fs.map fun p => (p.1, p.2.toD)
  | [] => rfl
  | (n, o) :: r => by rw [O.toDf, toDf_map r]; rfl
theorem toDk_map : ∀ fs : List (D × O), O.toDk fs = fs.map fun p => (p.1, p.2.toD)
  | [] => rfl
  | (n, o) :: r => by rw [O.toDk, toDk_map r]; rfl
/-- the module's facts that values lean on -/
structure Gi where
  K : PySem.W.Frag
  mg : Str → Option Value
  /-- the exception that a suite has in hand: its address, its class, its dict -/
  xo : Option (Addr × Addr × Option Addr) := none
/-- an exception that is kept: its very object -/
def xkH (oe : Obj) (a : Addr) : HO := .ext fun h => h.get? a = some oe
def XKp (F : Hp) (a C : Addr) (d : Option Addr) : Prop := ∃ oe, F a = some (xkH oe a) ∧ Zc (.ref C) d oe ∧ ∃ vs, oe.data = .fields vs
mutual
inductive Rp (G : Gi) (F : Hp) (al : List Addr) : V → D → Prop
  | non : Rp G F al .non .non
  | bl (b : Bool) : Rp G F al (.bl b) (.bl b)
  | int (i : Int) : Rp G F al (.int i) (.int i)
  | str (x : Str) : Rp G F al (.str x) (.str x)
  | tup {a : Addr} {xs : List V} {ds : List D} : F a = some (.tup xs) → RpA G F al xs ds → Rp G F al (.ref a) (.tup ds)
  | tuk {a : Addr} {xs : List V} {ds : List D} : SqT G.K F a xs → RpA G F al xs ds → Rp G F al (.ref a) (.tuk ds)
  | lst {a : Addr} {xs : List V} {ds : List D} : F a = some (.lst xs) → RpA G F al xs ds → Rp G F al (.ref a) (.lst ds)
  | lsk {a : Addr} {xs : List V} {ds : List D} : SqL G.K F a xs → RpA G F al xs ds → Rp G F al (.ref a) (.lsk ds)
  | dcK {a : Addr} {kvs : List (Key × V)} {ds : List (D × D)} : Rd F a (.dK kvs) → ds.map (·.1) = kvs.map (fun p => kD p.1) →
      RpA G F al (kvs.map (·.2)) (ds.map (·.2)) → Rp G F al (.ref a) (.dct ds)
  | dcT {a : Addr} {kvs : List (List Key × V)} {ds : List (D × D)} : Rd F a (.dT kvs) → ds.map (·.1) = kvs.map (fun p => .tup (p.1.map kD)) →
      RpA G F al (kvs.map (·.2)) (ds.map (·.2)) → Rp G F al (.ref a) (.dcu ds)
  | ins {a C dx : Addr} {c : Str} {fs : List (Str × V)} {ds : List (Str × D)} : F a = some (.ins C dx fs) → G.mg c = some (.ref C) → ds.map (·.1) = fs.map (·.1) →
      RpA G F al (fs.map (·.2)) (ds.map (·.2)) → Rp G F al (.ref a) (.ins c ds)
  | cel {a : Addr} {n : Nat} : al[n]? = some a → Rp G F al (.ref a) (.cel n)
  | fn {a : Addr} {f : Str} : G.mg f = some (.ref a) → Rp G F al (.ref a) (.fn f)
  | ty (n : String) : Rp G F al (.ty n) (.ty n)
  | xob {a C dx : Addr} {c : Str} {fs : List (Str × V)} {ds : List (Str × D)} : G.xo = some (a, C, some dx) → G.mg c = some (.ref C) → F dx = some (.xd fs) → ds.map (·.1) = fs.map (·.1) →
      RpA G F al (fs.map (·.2)) (ds.map (·.2)) → Rp G F al (.ref a) (.xob c ds)
  | xob0 {a C : Addr} {c : Str} : G.xo = some (a, C, none) → G.mg c = some (.ref C) → Rp G F al (.ref a) (.xob c [])
  | xok {a C dx : Addr} {c : Str} {fs : List (Str × V)} {ds : List (Str × D)} : XKp F a C (some dx) → G.mg c = some (.ref C) → F dx = some (.xd fs) → ds.map (·.1) = fs.map (·.1) →
      RpA G F al (fs.map (·.2)) (ds.map (·.2)) → Rp G F al (.ref a) (.xok c ds)
  | xok0 {a C : Addr} {c : Str} : XKp F a C none → G.mg c = some (.ref C) → Rp G F al (.ref a) (.xok c [])
  | tun {a : Addr} {o : Obj} {xs : List V} {ds : List D} : F a = some (.frz o (.tup xs)) → o.dict = none → RpA G F al xs ds → Rp G F al (.ref a) (.tun ds)
inductive RpA (G : Gi) (F : Hp) (al : List Addr) : List V → List D → Prop
  | nil : RpA G F al [] []
  | cons {v : V} {vs : List V} {d : D} {ds : List D} : Rp G F al v d → RpA G F al vs ds → RpA G F al (v :: vs) (d :: ds)
end
theorem sqT_fz {K : PySem.W.Frag} {F : Hp} {a : Addr} {o : Obj} {xs : List V} (h : F a = some (.frz o (.tup xs))) : SqT K F a xs := .inl (.inr ⟨o, h⟩)
/-- dicts: locked while they are walked -/
def dictO : HO → Bool
  | .dK _ => true
  | .dT _ => true
  | .frz _ (.tup _) => false
  | .frz _ _ => true
  | _ => false
/-- more frozen objects, more cells -/
structure Mo (F F' : Hp) (al al' : List Addr) : Prop where
  mF : ∀ (a : Addr) (o : HO), F a = some o → dictO o = false → F' a = some o
  mR : ∀ (a : Addr) (o : HO), Rd F a o → Rd F' a o
  mA : ∀ (n : Nat) (a : Addr), al[n]? = some a → al'[n]? = some a
theorem rd_mo {F F' : Hp} (e : ∀ a o, F a = some o → F' a = some o) {a : Addr} {u : HO} (h : Rd F a u) : Rd F' a u := by
  rcases h with h | ⟨o, h⟩
  · exact .inl (e _ _ h)
  · exact .inr ⟨o, e _ _ h⟩
theorem Mo.of {F F' : Hp} {al al' : List Addr} (e : ∀ a o, F a = some o → F' a = some o) (k : ∀ (n : Nat) (a : Addr), al[n]? = some a → al'[n]? = some a) : Mo F F' al al' :=
  ⟨fun a o h _ => e a o h, fun a o h => rd_mo e h, k⟩
theorem Mo.refl (F : Hp) (al : List Addr) : Mo F F al al := .of (fun _ _ h => h) fun _ _ h => h
theorem Mo.trans {F F1 F2 : Hp} {al al1 al2 : List Addr} (a : Mo F F1 al al1) (b : Mo F1 F2 al1 al2) : Mo F F2 al al2 :=
  ⟨fun x o h k => b.mF x o (a.mF x o h k) k, fun x o h => b.mR x o (a.mR x o h), fun n x h => b.mA n x (a.mA n x h)⟩
theorem sqL_mo {K : PySem.W.Frag} {F F' : Hp} (e : ∀ a o, F a = some o → F' a = some o) {a : Addr} {xs : List V} (h : SqL K F a xs) : SqL K F' a xs := by
  rcases h with h | h
  · exact .inl (rd_mo e h)
  · exact .inr h
theorem sqT_mo {K : PySem.W.Frag} {F F' : Hp} (e : ∀ a o, F a = some o → F' a = some o) {a : Addr} {xs : List V} (h : SqT K F a xs) : SqT K F' a xs := by
  rcases h with h | h
  · exact .inl (rd_mo e h)
  · exact .inr h
theorem sqL_mr {K : PySem.W.Frag} {F F' : Hp} (e : ∀ a o, Rd F a o → Rd F' a o) {a : Addr} {xs : List V} (h : SqL K F a xs) : SqL K F' a xs := by
  rcases h with h | h
  · exact .inl (e _ _ h)
  · exact .inr h
theorem sqT_mr {K : PySem.W.Frag} {F F' : Hp} (e : ∀ a o, Rd F a o → Rd F' a o) {a : Addr} {xs : List V} (h : SqT K F a xs) : SqT K F' a xs := by
  rcases h with h | h
  · exact .inl (e _ _ h)
  · exact .inr h
theorem xk_mo {F F' : Hp} (e : ∀ (a : Addr) (o : HO), F a = some o → dictO o = false → F' a = some o) {a C : Addr} {d : Option Addr} (h : XKp F a C d) : XKp F' a C d := by
  obtain ⟨oe, h1, h2⟩ := h
  exact ⟨oe, e _ _ h1 rfl, h2⟩
mutual
theorem Rp.mo {G : Gi} {F F' : Hp} {al al' : List Addr} (e : Mo F F' al al') : ∀ {v : V} {d : D}, Rp G F al v d → Rp G F' al' v d
  | _, _, .non => .non
  | _, _, .bl b => .bl b
  | _, _, .int i => .int i
  | _, _, .str x => .str x
  | _, _, .tup h hs => .tup (e.mF _ _ h rfl) (RpA.mo e hs)
  | _, _, .tuk h hs => .tuk (sqT_mr e.mR h) (RpA.mo e hs)
  | _, _, .lst h hs => .lst (e.mF _ _ h rfl) (RpA.mo e hs)
  | _, _, .lsk h hs => .lsk (sqL_mr e.mR h) (RpA.mo e hs)
  | _, _, .dcK h k hs => .dcK (e.mR _ _ h) k (RpA.mo e hs)
  | _, _, .dcT h k hs => .dcT (e.mR _ _ h) k (RpA.mo e hs)
  | _, _, .ins h k n hs => .ins (e.mF _ _ h rfl) k n (RpA.mo e hs)
  | _, _, .cel h => .cel (e.mA _ _ h)
  | _, _, .fn h => .fn h
  | _, _, .ty n => .ty n
  | _, _, .xob h q k n hs => .xob h q (e.mF _ _ k rfl) n (RpA.mo e hs)
  | _, _, .xob0 h q => .xob0 h q
  | _, _, .xok h q k n hs => .xok (xk_mo e.mF h) q (e.mF _ _ k rfl) n (RpA.mo e hs)
  | _, _, .xok0 h q => .xok0 (xk_mo e.mF h) q
  | _, _, .tun h k hs => .tun (e.mF _ _ h rfl) k (RpA.mo e hs)
theorem RpA.mo {G : Gi} {F F' : Hp} {al al' : List Addr} (e : Mo F F' al al') : ∀ {vs : List V} {ds : List D}, RpA G F al vs ds → RpA G F' al' vs ds
  | _, _, .nil => .nil
  | _, _, .cons h hs => .cons (Rp.mo e h) (RpA.mo e hs)
end
theorem RpA.len {G : Gi} {F : Hp} {al : List Addr} : ∀ {vs : List V} {ds : List D}, RpA G F al vs ds → vs.length = ds.length
  | _, _, .nil => rfl
  | _, _, .cons _ hs => congrArg (· + 1) (RpA.len hs)
theorem RpA.get {G : Gi} {F : Hp} {al : List Addr} : ∀ {vs : List V} {ds : List D} {i : Nat} {d : D}, RpA G F al vs ds → ds[i]? = some d → ∃ v, vs[i]? = some v ∧ Rp G F al v d
  | _, _, _, _, .nil, e => by simp at e
  | _, _, 0, _, .cons h _, e => by simp at e; subst e; exact ⟨_, rfl, h⟩
  | _, _, i + 1, _, .cons _ hs, e => by
    obtain ⟨v, h1, h2⟩ := RpA.get (i := i) hs (by simpa using e)
    exact ⟨v, by simpa using h1, h2⟩
theorem RpA.app {G : Gi} {F : Hp} {al : List Addr} : ∀ {vs ws : List V} {ds es : List D}, RpA G F al vs ds → RpA G F al ws es → RpA G F al (vs ++ ws) (ds ++ es)
  | _, _, _, _, .nil, k => k
  | _, _, _, _, .cons h hs, k => .cons h (RpA.app hs k)
theorem RpA.drop {G : Gi} {F : Hp} {al : List Addr} : ∀ {vs : List V} {ds : List D} (n : Nat), RpA G F al vs ds → RpA G F al (vs.drop n) (ds.drop n)
  | _, _, 0, h => h
  | _, _, _ + 1, .nil => .nil
  | _, _, n + 1, .cons _ hs => RpA.drop n hs
theorem RpA.take {G : Gi} {F : Hp} {al : List Addr} : ∀ {vs : List V} {ds : List D} (n : Nat), RpA G F al vs ds → RpA G F al (vs.take n) (ds.take n)
  | _, _, 0, h => .nil
  | _, _, _ + 1, .nil => .nil
  | _, _, n + 1, .cons h hs => .cons h (RpA.take n hs)
theorem RpA.set {G : Gi} {F : Hp} {al : List Addr} {v : V} {d : D} (r : Rp G F al v d) : ∀ {vs : List V} {ds : List D} (n : Nat), RpA G F al vs ds → RpA G F al (vs.set n v) (ds.set n d)
  | _, _, _, .nil => .nil
  | _, _, 0, .cons _ hs => .cons r hs
  | _, _, n + 1, .cons h hs => .cons h (RpA.set r n hs)
mutual
inductive OwnT (G : Gi) (F : Hp) (al : List Addr) (H : Hp) : O → V → List Addr → Prop
  | fz {v : V} {d : D} : Rp G F al v d → OwnT G F al H (.fz d) v []
  | lst {a : Addr} {vs : List V} {ds : List D} : H a = some (.lst vs) → RpA G F al vs ds → OwnT G F al H (.lst ds) (.ref a) [a]
  | dcK {a : Addr} {kvs : List (Key × V)} {ds : List (D × D)} : H a = some (.dK kvs) → ds.map (·.1) = kvs.map (fun p => kD p.1) →
      RpA G F al (kvs.map (·.2)) (ds.map (·.2)) → OwnT G F al H (.dct ds) (.ref a) [a]
  | dcT {a : Addr} {kvs : List (List Key × V)} {ds : List (D × D)} : H a = some (.dT kvs) → ds.map (·.1) = kvs.map (fun p => .tup (p.1.map kD)) →
      RpA G F al (kvs.map (·.2)) (ds.map (·.2)) → OwnT G F al H (.dcu ds) (.ref a) [a]
  | ins {a C dx : Addr} {c : Str} {fs : List (Str × V)} {os : List (Str × O)} {fp : List Addr} : H a = some (.ins C dx fs) → G.mg c = some (.ref C) →
      os.map (·.1) = fs.map (·.1) → OwnA G F al H (os.map (·.2)) (fs.map (·.2)) fp → OwnT G F al H (.ins c os) (.ref a) (a :: fp)
  | dcoK {a : Addr} {kvs : List (Key × V)} {os : List (D × O)} {fp : List Addr} : H a = some (.dK kvs) → os.map (·.1) = kvs.map (fun p => kD p.1) →
      OwnA G F al H (os.map (·.2)) (kvs.map (·.2)) fp → OwnT G F al H (.dco os) (.ref a) (a :: fp)
  | dcoT {a : Addr} {kvs : List (List Key × V)} {os : List (D × O)} {fp : List Addr} : H a = some (.dT kvs) → os.map (·.1) = kvs.map (fun p => .tup (p.1.map kD)) →
      OwnA G F al H (os.map (·.2)) (kvs.map (·.2)) fp → OwnT G F al H (.dcv os) (.ref a) (a :: fp)
inductive OwnA (G : Gi) (F : Hp) (al : List Addr) (H : Hp) : List O → List V → List Addr → Prop
  | nil : OwnA G F al H [] [] []
  | cons {o : O} {v : V} {os : List O} {vs : List V} {fp fq : List Addr} : OwnT G F al H o v fp → OwnA G F al H os vs fq → OwnA G F al H (o :: os) (v :: vs) (fp ++ fq)
end
mutual
theorem OwnT.mo {G : Gi} {F F' : Hp} {al al' : List Addr} {H H' : Hp} (e : Mo F F' al al') : ∀ {o : O} {v : V} {fp : List Addr}, OwnT G F al H o v fp →
    (∀ a ∈ fp, H' a = H a) → OwnT G F' al' H' o v fp
  | _, _, _, .fz h, _ => .fz (h.mo e)
  | _, _, _, .lst h hs, k => .lst ((k _ (List.mem_singleton_self _)).trans h) (hs.mo e)
  | _, _, _, .dcK h q hs, k => .dcK ((k _ (List.mem_singleton_self _)).trans h) q (hs.mo e)
  | _, _, _, .dcT h q hs, k => .dcT ((k _ (List.mem_singleton_self _)).trans h) q (hs.mo e)
  | _, _, _, .ins h q n hs, k => .ins ((k _ List.mem_cons_self).trans h) q n (OwnA.mo e hs fun a ha => k a (List.mem_cons_of_mem _ ha))
  | _, _, _, .dcoK h q hs, k => .dcoK ((k _ List.mem_cons_self).trans h) q (OwnA.mo e hs fun a ha => k a (List.mem_cons_of_mem _ ha))
  | _, _, _, .dcoT h q hs, k => .dcoT ((k _ List.mem_cons_self).trans h) q (OwnA.mo e hs fun a ha => k a (List.mem_cons_of_mem _ ha))
theorem OwnA.mo {G : Gi} {F F' : Hp} {al al' : List Addr} {H H' : Hp} (e : Mo F F' al al') : ∀ {os : List O} {vs : List V} {fp : List Addr}, OwnA G F al H os vs fp →
    (∀ a ∈ fp, H' a = H a) → OwnA G F' al' H' os vs fp
  | _, _, _, .nil, _ => .nil
  | _, _, _, .cons h hs, k => .cons (OwnT.mo e h fun a ha => k a (List.mem_append_left _ ha)) (OwnA.mo e hs fun a ha => k a (List.mem_append_right _ ha))
end
mutual
theorem OwnT.there {G : Gi} {F : Hp} {al : List Addr} {H : Hp} : ∀ {o : O} {v : V} {fp : List Addr}, OwnT G F al H o v fp → ∀ a ∈ fp, H a ≠ none
  | _, _, _, .fz _, a, ha => by cases ha
  | _, _, _, .lst h _, a, ha => by rw [List.mem_singleton.mp ha, h]; exact Option.some_ne_none _
  | _, _, _, .dcK h _ _, a, ha => by rw [List.mem_singleton.mp ha, h]; exact Option.some_ne_none _
  | _, _, _, .dcT h _ _, a, ha => by rw [List.mem_singleton.mp ha, h]; exact Option.some_ne_none _
  | _, _, _, .ins h _ _ hs, a, ha => by
    rcases List.mem_cons.mp ha with e | e
    · rw [e, h]; exact Option.some_ne_none _
    · exact OwnA.there hs a e
  | _, _, _, .dcoK h _ hs, a, ha => by
    rcases List.mem_cons.mp ha with e | e
    · rw [e, h]; exact Option.some_ne_none _
    · exact OwnA.there hs a e
  | _, _, _, .dcoT h _ hs, a, ha => by
    rcases List.mem_cons.mp ha with e | e
    · rw [e, h]; exact Option.some_ne_none _
    · exact OwnA.there hs a e
theorem OwnA.there {G : Gi} {F : Hp} {al : List Addr} {H : Hp} : ∀ {os : List O} {vs : List V} {fp : List Addr}, OwnA G F al H os vs fp → ∀ a ∈ fp, H a ≠ none
  | _, _, _, .nil, a, ha => by cases ha
  | _, _, _, .cons h hs, a, ha => (List.mem_append.mp ha).elim (fun e => OwnT.there h a e) fun e => OwnA.there hs a e
end
/-! frozen, with all objects of its footprint -/
mutual
theorem OwnT.freeze {G : Gi} {F F' : Hp} {al : List Addr} {H : Hp} (e : ∀ a o, F a = some o → F' a = some o) : ∀ {o : O} {v : V} {fp : List Addr}, OwnT G F al H o v fp →
    (∀ a ∈ fp, F' a = H a) → Rp G F' al v o.toD
  | _, _, _, .fz h, _ => by rw [O.toD]; exact h.mo (.of e fun _ _ q => q)
  | _, _, _, .lst h hs, k => by rw [O.toD]; exact .lst ((k _ (List.mem_singleton_self _)).trans h) (hs.mo (.of e fun _ _ q => q))
  | _, _, _, .dcK h q hs, k => by rw [O.toD]; exact .dcK (.inl ((k _ (List.mem_singleton_self _)).trans h)) q (hs.mo (.of e fun _ _ q => q))
  | _, _, _, .dcT h q hs, k => by rw [O.toD]; exact .dcT (.inl ((k _ (List.mem_singleton_self _)).trans h)) q (hs.mo (.of e fun _ _ q => q))
  | _, _, _, @OwnT.ins _ _ _ _ a C dx c fs os fp h q n hs, k => by
    rw [O.toD, toDf_map]
    have r := OwnA.freeze e hs fun a ha => k a (List.mem_cons_of_mem _ ha)
    refine .ins ((k _ List.mem_cons_self).trans h) q (by rw [List.map_map]; exact n) ?_
    rw [List.map_map]
    rw [List.map_map] at r
    exact r
  | _, _, _, @OwnT.dcoK _ _ _ _ a kvs os fp h q hs, k => by
    rw [O.toD, toDk_map]
    have r := OwnA.freeze e hs fun a ha => k a (List.mem_cons_of_mem _ ha)
    refine .dcK (.inl ((k _ List.mem_cons_self).trans h)) (by rw [List.map_map]; exact q) ?_
    rw [List.map_map]
    rw [List.map_map] at r
    exact r
  | _, _, _, @OwnT.dcoT _ _ _ _ a kvs os fp h q hs, k => by
    rw [O.toD, toDk_map]
    have r := OwnA.freeze e hs fun a ha => k a (List.mem_cons_of_mem _ ha)
    refine .dcT (.inl ((k _ List.mem_cons_self).trans h)) (by rw [List.map_map]; exact q) ?_
    rw [List.map_map]
    rw [List.map_map] at r
    exact r
theorem OwnA.freeze {G : Gi} {F F' : Hp} {al : List Addr} {H : Hp} (e : ∀ a o, F a = some o → F' a = some o) : ∀ {os : List O} {vs : List V} {fp : List Addr}, OwnA G F al H os vs fp →
    (∀ a ∈ fp, F' a = H a) → RpA G F' al vs (os.map O.toD)
  | _, _, _, .nil, _ => .nil
  | _, _, _, .cons h hs, k => .cons (OwnT.freeze e h fun a ha => k a (List.mem_append_left _ ha)) (OwnA.freeze e hs fun a ha => k a (List.mem_append_right _ ha))
end
/-! ### states of a def's body -/
structure S where
  env : List (Option O)
  mu : List O
inductive Slots (G : Gi) (F : Hp) (al : List Addr) (H : Hp) : List (Option O) → L2.St → List Addr → Prop
  | nil : Slots G F al H [] [] []
  | un {env : List (Option O)} {x : Option V} {σ : L2.St} {fp : List Addr} : Slots G F al H env σ fp → Slots G F al H (none :: env) (x :: σ) fp
  | so {o : O} {v : V} {env : List (Option O)} {σ : L2.St} {fp fq : List Addr} : OwnT G F al H o v fp → Slots G F al H env σ fq →
      Slots G F al H (some o :: env) (some v :: σ) (fp ++ fq)
/-- a configuration: the frozen part, the heap, the cells' addresses, the objects that slots and cells own -/
structure Cf where
  F : Hp
  H : Hp
  al : List Addr
  fs : List Addr
  fc : List Addr
structure Rel (G : Gi) (st : S) (σ : L2.St) (c : Cf) : Prop where
  sub : ∀ a o, c.F a = some o → c.H a = some o
  own : ∀ a, a ∈ c.fs ∨ a ∈ c.fc → c.F a = none
  nds : c.fs.Nodup
  ndc : c.fc.Nodup
  dis : ∀ a ∈ c.fs, a ∉ c.fc
  slots : Slots G c.F c.al c.H st.env σ c.fs
  cells : OwnA G c.F c.al c.H st.mu (c.al.map V.ref) c.fc
/-- nothing there, or a tuple -/
def NT (o : Option HO) : Prop := o = none ∨ ∃ xs, o = some (.tup xs)
/-- what code may do -/
structure Go (c c' : Cf) : Prop where
  mo : Mo c.F c'.F c.al c'.al
  fr : ∀ a, c.H a ≠ none → a ∉ c.fs → a ∉ c.fc → c'.H a = c.H a
  fp : ∀ a, a ∈ c'.fs ∨ a ∈ c'.fc → a ∈ c.fs ∨ a ∈ c.fc ∨ c.H a = none
  nF : ∀ a, c'.F a ≠ none → c.F a ≠ none ∨ a ∈ c.fs ∨ a ∈ c.fc ∨ NT (c.H a)
mutual
theorem OwnT.obj {G : Gi} {F : Hp} {al : List Addr} {H : Hp} : ∀ {o : O} {v : V} {fp : List Addr}, OwnT G F al H o v fp → ∀ a ∈ fp, ¬ NT (H a)
  | _, _, _, .fz _, a, ha => by cases ha
  | _, _, _, .lst h _, a, ha => by rw [List.mem_singleton.mp ha, h]; rintro (z | ⟨_, z⟩) <;> cases z
  | _, _, _, .dcK h _ _, a, ha => by rw [List.mem_singleton.mp ha, h]; rintro (z | ⟨_, z⟩) <;> cases z
  | _, _, _, .dcT h _ _, a, ha => by rw [List.mem_singleton.mp ha, h]; rintro (z | ⟨_, z⟩) <;> cases z
  | _, _, _, .ins h _ _ hs, a, ha => by
    rcases List.mem_cons.mp ha with rfl | ha
    · rw [h]; rintro (z | ⟨_, z⟩) <;> cases z
    · exact OwnA.obj hs a ha
  | _, _, _, .dcoK h _ hs, a, ha => by
    rcases List.mem_cons.mp ha with rfl | ha
    · rw [h]; rintro (z | ⟨_, z⟩) <;> cases z
    · exact OwnA.obj hs a ha
  | _, _, _, .dcoT h _ hs, a, ha => by
    rcases List.mem_cons.mp ha with rfl | ha
    · rw [h]; rintro (z | ⟨_, z⟩) <;> cases z
    · exact OwnA.obj hs a ha
theorem OwnA.obj {G : Gi} {F : Hp} {al : List Addr} {H : Hp} : ∀ {os : List O} {vs : List V} {fp : List Addr}, OwnA G F al H os vs fp → ∀ a ∈ fp, ¬ NT (H a)
  | _, _, _, .nil, a, ha => by cases ha
  | _, _, _, .cons h hs, a, ha => (List.mem_append.mp ha).elim (fun e => OwnT.obj h a e) fun e => OwnA.obj hs a e
end
theorem OwnT.noNT {G : Gi} {F : Hp} {al : List Addr} {H : Hp} {o : O} {v : V} {fp : List Addr} (t : OwnT G F al H o v fp) : ∀ a ∈ fp, ¬ NT (H a) := OwnT.obj t
theorem Slots.noNT {G : Gi} {F : Hp} {al : List Addr} {H : Hp} : ∀ {env : List (Option O)} {σ : L2.St} {fp : List Addr}, Slots G F al H env σ fp → ∀ a ∈ fp, ¬ NT (H a)
  | _, _, _, .nil, a, ha => by cases ha
  | _, _, _, .un h, a, ha => Slots.noNT h a ha
  | _, _, _, .so h hs, a, ha => (List.mem_append.mp ha).elim (fun e => OwnT.noNT h a e) fun e => Slots.noNT hs a e
theorem Rel.noNT {G : Gi} {st : S} {σ : L2.St} {c : Cf} (r : Rel G st σ c) {a : Addr} (h : a ∈ c.fs ∨ a ∈ c.fc) : ¬ NT (c.H a) :=
  h.elim (fun h => r.slots.noNT a h) fun h => OwnA.obj r.cells a h
theorem Slots.there {G : Gi} {F : Hp} {al : List Addr} {H : Hp} : ∀ {env : List (Option O)} {σ : L2.St} {fp : List Addr}, Slots G F al H env σ fp → ∀ a ∈ fp, H a ≠ none
  | _, _, _, .nil, a, ha => by cases ha
  | _, _, _, .un h, a, ha => Slots.there h a ha
  | _, _, _, .so h hs, a, ha => (List.mem_append.mp ha).elim (fun e => OwnT.there h a e) fun e => Slots.there hs a e
theorem Slots.mo {G : Gi} {F F' : Hp} {al al' : List Addr} {H H' : Hp} (e : Mo F F' al al') : ∀ {env : List (Option O)} {σ : L2.St} {fp : List Addr}, Slots G F al H env σ fp →
    (∀ a ∈ fp, H' a = H a) → Slots G F' al' H' env σ fp
  | _, _, _, .nil, _ => .nil
  | _, _, _, .un h, k => .un (Slots.mo e h k)
  | _, _, _, .so h hs, k => .so (OwnT.mo e h fun a ha => k a (List.mem_append_left _ ha)) (Slots.mo e hs fun a ha => k a (List.mem_append_right _ ha))
theorem Rel.there {G : Gi} {st : S} {σ : L2.St} {c : Cf} (r : Rel G st σ c) {a : Addr} (h : a ∈ c.fs ∨ a ∈ c.fc) : c.H a ≠ none :=
  h.elim (fun h => r.slots.there a h) fun h => r.cells.there a h
theorem Go.rfl' {c : Cf} : Go c c := ⟨Mo.refl _ _, fun _ _ _ _ => rfl, fun a h => h.elim .inl fun h => .inr (.inl h), fun a h => .inl h⟩
theorem Go.keep {c c' : Cf} (g : Go c c') {a : Addr} (h : c.H a ≠ none) (h1 : a ∉ c.fs) (h2 : a ∉ c.fc) : c'.H a = c.H a ∧ a ∉ c'.fs ∧ a ∉ c'.fc :=
  ⟨g.fr a h h1 h2, fun z => (g.fp a (.inl z)).elim h1 fun z => z.elim h2 h, fun z => (g.fp a (.inr z)).elim h1 fun z => z.elim h2 h⟩
theorem Go.trans {c c1 c2 : Cf} (g : Go c c1) (k : Go c1 c2) : Go c c2 where
  mo := g.mo.trans k.mo
  fr := fun a h h1 h2 => by
    obtain ⟨e, n1, n2⟩ := g.keep h h1 h2
    rw [← e] at h
    exact (k.fr a h n1 n2).trans e
  fp := fun a h => by
    rcases k.fp a h with z | z | z
    · exact g.fp a (.inl z)
    · exact g.fp a (.inr z)
    · by_cases h1 : a ∈ c.fs
      · exact .inl h1
      · by_cases h2 : a ∈ c.fc
        · exact .inr (.inl h2)
        · refine .inr (.inr ?_)
          cases e : c.H a with
          | none => rfl
          | some o => rw [g.fr a (by rw [e]; exact Option.some_ne_none _) h1 h2, e] at z; cases z
  nF := fun a h => by
    rcases k.nF a h with z | z | z | z
    · exact g.nF a z
    · rcases g.fp a (.inl z) with y | y | y
      · exact .inr (.inl y)
      · exact .inr (.inr (.inl y))
      · exact .inr (.inr (.inr (.inl y)))
    · rcases g.fp a (.inr z) with y | y | y
      · exact .inr (.inl y)
      · exact .inr (.inr (.inl y))
      · exact .inr (.inr (.inr (.inl y)))
    · by_cases h1 : a ∈ c.fs
      · exact .inr (.inl h1)
      · by_cases h2 : a ∈ c.fc
        · exact .inr (.inr (.inl h2))
        · refine .inr (.inr (.inr ?_))
          cases e : c.H a with
          | none => exact .inl rfl
          | some o => rw [g.fr a (by rw [e]; exact Option.some_ne_none _) h1 h2, e] at z; exact z
/-- objects that nothing else owns -/
structure Fresh (fp : List Addr) (c : Cf) : Prop where
  nd : fp.Nodup
  nf : ∀ a ∈ fp, c.F a = none
  ns : ∀ a ∈ fp, a ∉ c.fs
  nc : ∀ a ∈ fp, a ∉ c.fc
def New (fp : List Addr) (c : Cf) : Prop := ∀ a ∈ fp, a ∈ c.fs ∨ a ∈ c.fc ∨ c.H a = none
theorem Fresh.go {fp : List Addr} {c c' : Cf} (f : Fresh fp c) (h' : ∀ a ∈ fp, ¬ NT (c.H a)) (g : Go c c') : Fresh fp c' ∧ ∀ a ∈ fp, c'.H a = c.H a := by
  have h : ∀ a ∈ fp, c.H a ≠ none := fun a ha z => h' a ha (.inl z)
  refine ⟨⟨f.nd, fun a ha => ?_, fun a ha => (g.keep (h a ha) (f.ns a ha) (f.nc a ha)).2.1, fun a ha => (g.keep (h a ha) (f.ns a ha) (f.nc a ha)).2.2⟩,
    fun a ha => g.fr a (h a ha) (f.ns a ha) (f.nc a ha)⟩
  cases e : c'.F a with
  | none => rfl
  | some o =>
    rcases g.nF a (by rw [e]; exact Option.some_ne_none _) with z | z | z | z
    · exact absurd (f.nf a ha) z
    · exact absurd z (f.ns a ha)
    · exact absurd z (f.nc a ha)
    · exact absurd z (h' a ha)
theorem OwnT.go {G : Gi} {c c' : Cf} {o : O} {v : V} {fp : List Addr} (t : OwnT G c.F c.al c.H o v fp) (f : Fresh fp c) (g : Go c c') :
    OwnT G c'.F c'.al c'.H o v fp ∧ Fresh fp c' := by
  obtain ⟨f2, e⟩ := f.go t.noNT g
  exact ⟨t.mo g.mo e, f2⟩
theorem New.go {fp : List Addr} {c c1 : Cf} (n : New fp c1) (g : Go c c1) : New fp c := fun a ha => by
  rcases n a ha with z | z | z
  · exact g.fp a (.inl z)
  · exact g.fp a (.inr z)
  · by_cases h1 : a ∈ c.fs
    · exact .inl h1
    · by_cases h2 : a ∈ c.fc
      · exact .inr (.inl h2)
      · refine .inr (.inr ?_)
        cases e : c.H a with
        | none => rfl
        | some o => rw [g.fr a (by rw [e]; exact Option.some_ne_none _) h1 h2, e] at z; cases z
theorem New.nil (c : Cf) : New [] c := fun _ h => nomatch h
theorem Fresh.nil (c : Cf) : Fresh [] c := ⟨.nil, (fun _ h => nomatch h), (fun _ h => nomatch h), (fun _ h => nomatch h)⟩
/-! ### freezing -/
def frzF (c : Cf) (fp : List Addr) : Hp := fun a => if a ∈ fp then c.H a else c.F a
def Cf.frz (c : Cf) (fp : List Addr) : Cf := { c with F := frzF c fp }
theorem frz_sub {G : Gi} {st : S} {σ : L2.St} {c : Cf} {fp : List Addr} (r : Rel G st σ c) : ∀ a o, c.F a = some o → frzF c fp a = some o := fun a o e => by
  unfold frzF
  split
  · exact r.sub a o e
  · exact e
theorem Rel.freeze {G : Gi} {st : S} {σ : L2.St} {c : Cf} {fp : List Addr} (r : Rel G st σ c) (f : Fresh fp c) : Rel G st σ (c.frz fp) := by
  have mo : Mo c.F (frzF c fp) c.al c.al := .of (frz_sub r) fun _ _ h => h
  refine ⟨fun a o e => ?_, fun a h => ?_, r.nds, r.ndc, r.dis, r.slots.mo mo fun _ _ => rfl, r.cells.mo mo fun _ _ => rfl⟩
  · have e : frzF c fp a = some o := e
    unfold frzF at e
    split at e
    · exact e
    · exact r.sub a o e
  · show frzF c fp a = none
    unfold frzF
    rw [if_neg (fun z => h.elim (f.ns a z) (f.nc a z))]
    exact r.own a h
theorem Go.freeze {c0 c : Cf} {fp : List Addr} (g : Go c0 c) (n : New fp c0) (s : ∀ a o, c.F a = some o → frzF c fp a = some o) : Go c0 (c.frz fp) where
  mo := g.mo.trans (.of s fun _ _ h => h)
  fr := g.fr
  fp := g.fp
  nF := fun a h => by
    have h : frzF c fp a ≠ none := h
    unfold frzF at h
    split at h
    · rename_i ha
      rcases n a ha with z | z | z
      · exact .inr (.inl z)
      · exact .inr (.inr (.inl z))
      · exact .inr (.inr (.inr (.inl z)))
    · exact g.nF a h
theorem OwnT.frz {G : Gi} {st : S} {σ : L2.St} {c : Cf} {o : O} {v : V} {fp : List Addr} (t : OwnT G c.F c.al c.H o v fp) (r : Rel G st σ c) :
    Rp G (c.frz fp).F (c.frz fp).al v o.toD := t.freeze (frz_sub r) fun a ha => by
  show frzF c fp a = _
  unfold frzF
  rw [if_pos ha]
/-- what an expression may do: the slots' own objects stay as they are -/
structure GoE (c c' : Cf) : Prop extends Go c c' where
  hs : ∀ a ∈ c.fs, c.H a ≠ none → c'.H a = c.H a
  sf : ∀ a ∈ c'.fs, a ∈ c.fs
  cf : ∀ a ∈ c'.fc, a ∈ c.fs → c.H a = none
theorem GoE.refl {G : Gi} {st : S} {σ : L2.St} {c : Cf} (r : Rel G st σ c) : GoE c c :=
  { Go.rfl' with hs := fun _ _ _ => rfl, sf := fun _ h => h, cf := fun a h k => absurd h (r.dis a k) }
theorem GoE.trans {c c1 c2 : Cf} (g : GoE c c1) (k : GoE c1 c2) : GoE c c2 :=
  { g.toGo.trans k.toGo with
    hs := fun a h n => by
      have e := g.hs a h n
      have n1 : c1.H a ≠ none := by rw [e]; exact n
      by_cases h1 : a ∈ c1.fs
      · exact (k.hs a h1 n1).trans e
      · exact (k.fr a n1 h1 (fun z => n (g.cf a z h))).trans e
    sf := fun a h => g.sf a (k.sf a h)
    cf := fun a h q => by
      cases e : c.H a with
      | none => rfl
      | some o =>
        have n : c.H a ≠ none := by rw [e]; exact Option.some_ne_none _
        have e1 := g.hs a q n
        rcases k.fp a (.inr h) with z | z | z
        · have := k.cf a h z; rw [e1, e] at this; cases this
        · have := g.cf a z q; rw [e] at this; cases this
        · rw [e1, e] at z; cases z }
/-- kept by every expression -/
def Keep (fp : List Addr) (c : Cf) : Prop := ∀ a ∈ fp, a ∉ c.fc
theorem Fresh.keep {fp : List Addr} {c : Cf} (f : Fresh fp c) : Keep fp c := f.nc
theorem Keep.go {G : Gi} {c c' : Cf} {o : O} {v : V} {fp : List Addr} (t : OwnT G c.F c.al c.H o v fp) (k : Keep fp c) (g : GoE c c') : OwnT G c'.F c'.al c'.H o v fp :=
  t.mo g.mo fun a ha => by
    have n := t.there a ha
    by_cases h : a ∈ c.fs
    · exact g.hs a h n
    · exact g.fr a n h (k a ha)
/-- a new object, owned by nothing yet -/
def Cf.new (c : Cf) (p : Addr) (o : HO) : Cf := { c with H := upd c.H p o }
theorem Rel.new {G : Gi} {st : S} {σ : L2.St} {c : Cf} {p : Addr} {o : HO} (r : Rel G st σ c) (h : c.H p = none) : Rel G st σ (c.new p o) := by
  have ne : ∀ a, c.H a ≠ none → upd c.H p o a = c.H a := fun a n => upd_ne (fun e => n (by rw [e]; exact h))
  refine ⟨fun a u e => ?_, r.own, r.nds, r.ndc, r.dis, r.slots.mo (Mo.refl _ _) fun a ha => ne a (r.there (.inl ha)), r.cells.mo (Mo.refl _ _) fun a ha => ne a (r.there (.inr ha))⟩
  have e2 := r.sub a u e
  rw [show (c.new p o).H a = upd c.H p o a from rfl, ne a (by rw [e2]; exact Option.some_ne_none _)]
  exact e2
theorem GoE.new {G : Gi} {st : S} {σ : L2.St} {c : Cf} {p : Addr} {o : HO} (r : Rel G st σ c) (h : c.H p = none) : GoE c (c.new p o) where
  mo := Mo.refl _ _
  fr := fun a n _ _ => upd_ne (fun e => n (by rw [e]; exact h))
  fp := fun a h => h.elim .inl fun h => .inr (.inl h)
  nF := fun a h => .inl h
  hs := fun a _ n => upd_ne (fun e => n (by rw [e]; exact h))
  sf := fun _ h => h
  cf := fun a h k => absurd h (r.dis a k)
theorem Fresh.new {G : Gi} {st : S} {σ : L2.St} {c : Cf} {p : Addr} {o : HO} (r : Rel G st σ c) (h : c.H p = none) : Fresh [p] (c.new p o) := by
  refine ⟨by simp, fun a ha => ?_, fun a ha => ?_, fun a ha => ?_⟩ <;> rw [List.mem_singleton.mp ha]
  · cases e : c.F p with
    | none => exact e
    | some u => have := r.sub p u e; rw [h] at this; cases this
  · exact fun z => r.there (.inl z) h
  · exact fun z => r.there (.inr z) h
theorem New.new {c : Cf} {p : Addr} (h : c.H p = none) : New [p] c := fun a ha => by
  rw [List.mem_singleton.mp ha]; exact .inr (.inr h)
theorem GoE.freeze {G : Gi} {st : S} {σ : L2.St} {c0 c : Cf} {fp : List Addr} (g : GoE c0 c) (n : New fp c0) (r : Rel G st σ c) : GoE c0 (c.frz fp) :=
  { g.toGo.freeze n (frz_sub r) with hs := g.hs, sf := g.sf, cf := g.cf }
/-- the lengths that the heap bears -/
theorem Rel.rdT {G : Gi} {st : S} {σ : L2.St} {c : Cf} {K : PySem.W.Frag} {a : Addr} {xs : List V} (r : Rel G st σ c) (h : SqT K c.F a xs) : SqT K c.H a xs := sqT_mo r.sub h
theorem Rel.rdL {G : Gi} {st : S} {σ : L2.St} {c : Cf} {K : PySem.W.Frag} {a : Addr} {xs : List V} (r : Rel G st σ c) (h : SqL K c.F a xs) : SqL K c.H a xs := sqL_mo r.sub h
end L2.Tr
namespace L2.Tr
open PySem PySem.Spec PyProof.Rows L2 L2.Pc
/-! ### what code gives, over trees -/
structure Exc where
  cls : Str
  fs : List (Str × D)
inductive R (α : Type) where
  | ok (a : α) (s : S) | exc (x : Exc) (s : S) | no
abbrev M (α : Type) := S → R α
section
variable {α β : Type}
def R.bind (r : R α) (f : α → M β) : R β := match r with
  | .ok a s => f a s
  | .exc x s => .exc x s
  | .no => .no
def bnd (m : M α) (f : α → M β) : M β := fun s => (m s).bind f
def ret (a : α) : M α := fun s => .ok a s
def ofO (o : Option α) : M α := fun s => match o with
  | some a => .ok a s
  | none => .no
@[simp] theorem R.bind_ok (a : α) (s : S) (f : α → M β) : (R.ok a s).bind f = f a s := rfl
@[simp] theorem R.bind_exc (x : Exc) (s : S) (f : α → M β) : (R.exc x s : R α).bind f = .exc x s := rfl
@[simp] theorem R.bind_no (f : α → M β) : (R.no : R α).bind f = .no := rfl
@[simp] theorem bnd_app (m : M α) (f : α → M β) (s : S) : bnd m f s = (m s).bind f := rfl
@[simp] theorem ret_app (a : α) (s : S) : ret a s = .ok a s := rfl
@[simp] theorem ofO_some (a : α) (s : S) : ofO (some a) s = .ok a s := rfl
@[simp] theorem ofO_none (s : S) : ofO (none : Option α) s = .no := rfl
def wp (r : R α) (Q : α → S → Prop) (E : Exc → S → Prop) : Prop := match r with
  | .ok a s => Q a s
  | .exc x s => E x s
  | .no => False
theorem wp_mono {r : R α} {Q Q' : α → S → Prop} {E E' : Exc → S → Prop} (h : wp r Q E) (q : ∀ a s, Q a s → Q' a s) (e : ∀ x s, E x s → E' x s) : wp r Q' E' := by
  cases r with
  | ok a s => exact q a s h
  | exc x s => exact e x s h
  | no => exact h
theorem wp_bind {r : R α} {f : α → M β} {Q : β → S → Prop} {E : Exc → S → Prop} : wp (r.bind f) Q E ↔ wp r (fun a s => wp (f a s) Q E) E := by
  cases r <;> exact Iff.rfl
theorem wp_ofO {o : Option α} {s : S} {Q : α → S → Prop} {E : Exc → S → Prop} : wp (ofO o s) Q E ↔ ∃ a, o = some a ∧ Q a s := by
  cases o with
  | none => exact ⟨fun h => h.elim, fun ⟨_, h, _⟩ => by cases h⟩
  | some a => exact ⟨fun h => ⟨a, rfl, h⟩, fun ⟨_, h, q⟩ => by cases h; exact q⟩
end
/-! ### what they mean for the heap -/
def XRp (G : Gi) (c : Cf) (x : Exc) (v : Value) (d : Option Addr) : Prop := ∃ C, v = .ref C ∧ G.mg x.cls = some (.ref C) ∧
  ((x.fs = [] ∧ d = none) ∨ ∃ dx vs, d = some dx ∧ c.F dx = some (.xd vs) ∧ x.fs.map (·.1) = vs.map (·.1) ∧ RpA G c.F c.al (vs.map (·.2)) (x.fs.map (·.2)))
def xw (G : Gi) (W : WX) (σ : L2.St) (c : Cf) : Exc → S → Prop := fun x st' => ∀ v d c', Rel G st' σ c' → GoE c c' → XRp G c' x v d → W v d σ c'.H
theorem xw.go {G : Gi} {W : WX} {σ : L2.St} {c c1 : Cf} (g : GoE c c1) {x : Exc} {s : S} (h : xw G W σ c x s) : xw G W σ c1 x s :=
  fun v d c' r k q => h v d c' r (g.trans k) q
section
variable (G : Gi) (W : WX)
/-- what a reading asks: the state as trees, and that the code goes well there -/
def tG {α β : Type} (Pr : α → Cf → Cf → β → Prop) (m : M α) : L2.St → Hp → (β → Hp → Prop) → Prop := fun σ H Q =>
  ∃ c st, c.H = H ∧ Rel G st σ c ∧ wp (m st) (fun a st' => ∀ v c', Rel G st' σ c' → GoE c c' → Pr a c c' v → Q v c'.H) (xw G W σ c)
/-- a value of which what is owned is its own alone -/
def PrO : O → Cf → Cf → V → Prop := fun o c c' v => ∃ fp, OwnT G c'.F c'.al c'.H o v fp ∧ Fresh fp c' ∧ New fp c
/-- a value that expressions leave as it is -/
def PrB : O → Cf → Cf → V → Prop := fun o _ c' v => ∃ fp, OwnT G c'.F c'.al c'.H o v fp ∧ Keep fp c'
/-- a value as it is just now -/
def PrL : O → Cf → Cf → V → Prop := fun o _ c' v => ∃ fp, OwnT G c'.F c'.al c'.H o v fp
def PrD : D → Cf → Cf → V → Prop := fun d _ c' v => Rp G c'.F c'.al v d
def PrA : List D → Cf → Cf → List V → Prop := fun ds _ c' vs => RpA G c'.F c'.al vs ds
def PrT : Bool → Cf → Cf → Bool → Prop := fun b _ _ v => v = b
abbrev tO (m : M O) : TE := tG G W (PrO G) m
abbrev tBr (m : M O) : TE := tG G W (PrB G) m
abbrev tLa (m : M O) : TE := tG G W (PrL G) m
abbrev tD (m : M D) : TE := tG G W (PrD G) m
abbrev tAs (m : M (List D)) : TA := tG G W (PrA G) m
abbrev tTs (m : M Bool) : TT := tG G W PrT m
end
theorem _root_.L2.PE.weak {X : Cx} {e : Expr} {t t' : TE} (h : PE X e t) (k : ∀ σ H Q, t' σ H Q → t σ H Q) : PE X e t' := ⟨fun pins s σ H Q I q => h.run pins s σ H Q I (k _ _ _ q)⟩
theorem _root_.L2.PT.weak {X : Cx} {e : Expr} {t t' : TT} (h : PT X e t) (k : ∀ σ H Q, t' σ H Q → t σ H Q) : PT X e t' := ⟨fun pins s σ H Q I q => h.run pins s σ H Q I (k _ _ _ q)⟩
theorem _root_.L2.PW.weak {X : Cx} {e : Expr} {t t' : TT} (h : PW X e t) (k : ∀ σ H Q, t' σ H Q → t σ H Q) : PW X e t' := ⟨fun wh pins s σ H Q I q => h.run wh pins s σ H Q I (k _ _ _ q)⟩
theorem _root_.L2.PA.weak {X : Cx} {e : List Expr} {t t' : TA} (h : PA X e t) (k : ∀ σ H Q, t' σ H Q → t σ H Q) : PA X e t' := ⟨fun p pins s σ H Q I q => h.run p pins s σ H Q I (k _ _ _ q)⟩
theorem _root_.L2.PK.weak {X : Cx} {e : List Keyword} {t t' : TA} (h : PK X e t) (k : ∀ σ H Q, t' σ H Q → t σ H Q) : PK X e t' := ⟨fun p pins s σ H Q I q => h.run p pins s σ H Q I (k _ _ _ q)⟩
section
variable {G : Gi} {W : WX} {α β γ δ : Type} {Pr : α → Cf → Cf → β → Prop} {Pr' : γ → Cf → Cf → δ → Prop}
/-- first m, then what follows in the state behind it -/
theorem tG.seq0 {m : M α} {f : α → M γ} {σ : L2.St} {H : Hp} {Q : δ → Hp → Prop} (h : tG G W Pr' (bnd m f) σ H Q) (R : β → Hp → Prop)
    (k : ∀ a v c c1 st1, Rel G st1 σ c1 → GoE c c1 → Pr a c c1 v →
      wp (f a st1) (fun x st' => ∀ u c', Rel G st' σ c' → GoE c c' → Pr' x c c' u → Q u c'.H) (xw G W σ c) → R v c1.H) : tG G W Pr m σ H R := by
  obtain ⟨c, st, e, r, h⟩ := h
  exact ⟨c, st, e, r, wp_mono (wp_bind.mp h) (fun a st1 q v c1 r1 g p => k a v c c1 st1 r1 g p q) (fun x s q => q)⟩
/-- what is told of a value holds from an earlier start, too -/
def Bk (Pr : α → Cf → Cf → β → Prop) : Prop := ∀ x c c1 c' u, GoE c c1 → Pr x c1 c' u → Pr x c c' u
theorem tG.seq (hb : Bk Pr') {m : M α} {f : α → M γ} {σ : L2.St} {H : Hp} {Q : δ → Hp → Prop} (h : tG G W Pr' (bnd m f) σ H Q) (R : β → Hp → Prop)
    (k : ∀ a v c c1 st1, Rel G st1 σ c1 → GoE c c1 → Pr a c c1 v →
      wp (f a st1) (fun x st' => ∀ u c', Rel G st' σ c' → GoE c1 c' → Pr' x c1 c' u → Q u c'.H) (xw G W σ c1) → R v c1.H) : tG G W Pr m σ H R :=
  h.seq0 R fun a v c c1 st1 r1 g p w => k a v c c1 st1 r1 g p
    (wp_mono w (fun x st' q u c' r' g' p' => q u c' r' (g.trans g') (hb _ _ _ _ _ g p')) (fun x s q => q.go g))
theorem tG.seq1 (hb : Bk Pr') {m : M α} {f : α → M γ} {σ : L2.St} {c1 : Cf} {st1 : S} {Q : δ → Hp → Prop} (r1 : Rel G st1 σ c1)
    (w : wp (bnd m f st1) (fun x st' => ∀ u c', Rel G st' σ c' → GoE c1 c' → Pr' x c1 c' u → Q u c'.H) (xw G W σ c1)) (R : β → Hp → Prop)
    (k : ∀ a v c2 st2, Rel G st2 σ c2 → GoE c1 c2 → Pr a c1 c2 v →
      wp (f a st2) (fun x st' => ∀ u c', Rel G st' σ c' → GoE c2 c' → Pr' x c2 c' u → Q u c'.H) (xw G W σ c2) → R v c2.H) : tG G W Pr m σ c1.H R :=
  ⟨c1, st1, rfl, r1, wp_mono (wp_bind.mp w) (fun a st2 q v c2 r2 g p => k a v c2 st2 r2 g p
    (wp_mono q (fun x st' q u c' r' g' p' => q u c' r' (g.trans g') (hb _ _ _ _ _ g p')) (fun x s q => q.go g))) (fun x s q => q)⟩
/-- a further reading from within -/
theorem tG.at {m : M α} {σ : L2.St} {c : Cf} {st : S} {Q : β → Hp → Prop} (r : Rel G st σ c)
    (h : wp (m st) (fun a st' => ∀ v c', Rel G st' σ c' → GoE c c' → Pr a c c' v → Q v c'.H) (xw G W σ c)) : tG G W Pr m σ c.H Q := ⟨c, st, rfl, r, h⟩
theorem bkO : Bk (PrO G) := fun o c c1 c' v g ⟨fp, t, f, n⟩ => ⟨fp, t, f, n.go g.toGo⟩
theorem bkA : Bk (PrA G) := fun _ _ _ _ _ _ h => h
theorem bkT : Bk PrT := fun _ _ _ _ _ _ h => h
theorem PrO.new {c c1 c' : Cf} {o : O} {v : V} (g : GoE c c1) (h : PrO G o c1 c' v) : PrO G o c c' v := by
  obtain ⟨fp, t, f, n⟩ := h
  exact ⟨fp, t, f, n.go g.toGo⟩
end
section
variable {X : Cx} {G : Gi} {W : WX} {e a b : Expr} {m ma mb : M O}
/-! ### frozen, borrowed -/
def frz (m : M O) : M D := bnd m fun o => ret o.toD
def fzd (m : M D) : M O := bnd m fun d => ret (.fz d)
@[simp] theorem frz_app (m : M O) (s : S) : frz m s = (m s).bind fun o => ret o.toD := rfl
@[simp] theorem fzd_app (m : M D) (s : S) : fzd m s = (m s).bind fun d => ret (.fz d) := rfl
theorem x_frz (h : PE X e (tO G W m)) : PE X e (tD G W (frz m)) := h.weak fun σ H Q q => by
  refine q.seq0 Q (fun o v c c1 st1 r1 g p w => ?_)
  obtain ⟨fp, t, f, n⟩ := p
  exact w v (c1.frz fp) (r1.freeze f) (g.freeze n r1) (t.frz r1)
theorem x_bor (h : PE X e (tO G W m)) : PE X e (tBr G W m) := h.weak fun σ H Q q => by
  obtain ⟨c, st, e, r, h⟩ := q
  exact ⟨c, st, e, r, wp_mono h (fun a st1 q v c1 r1 g ⟨fp, t, f, n⟩ => q v c1 r1 g ⟨fp, t, f.keep⟩) (fun x s q => q)⟩
theorem x_las (h : PE X e (tBr G W m)) : PE X e (tLa G W m) := h.weak fun σ H Q q => by
  obtain ⟨c, st, e, r, h⟩ := q
  exact ⟨c, st, e, r, wp_mono h (fun a st1 q v c1 r1 g ⟨fp, t, _⟩ => q v c1 r1 g ⟨fp, t⟩) (fun x s q => q)⟩
/-! ### names and constants -/
def getS : List (Option O) → Nat → Option O
  | [], _ => none
  | x :: _, 0 => x
  | _ :: l, n + 1 => getS l n
def setS : List (Option O) → Nat → Option O → List (Option O)
  | [], _, _ => []
  | _ :: l, 0, o => o :: l
  | x :: l, n + 1, o => x :: setS l n o
def isFz : O → Bool
  | .fz _ => true
  | _ => false
/-- a name's value; an owned one is frozen from here on -/
def xVar (i : Nat) : M O := fun s => match getS s.env i with
  | some o => .ok (.fz o.toD) ⟨if isFz o then s.env else setS s.env i (some (.fz o.toD)), s.mu⟩
  | none => .no
/-- .. read in passing -/
def xBor (i : Nat) : M O := fun s => match getS s.env i with
  | some o => .ok o s
  | none => .no
/-- .. taken out of its slot -/
def xMov (i : Nat) : M O := fun s => match getS s.env i with
  | some o => .ok o ⟨if isFz o then s.env else setS s.env i none, s.mu⟩
  | none => .no
def xC (d : D) : M O := ret (.fz d)
@[simp] theorem xC_app (d : D) (s : S) : xC d s = .ok (.fz d) s := rfl
theorem slots_get {F H : Hp} {al : List Addr} : ∀ {env : List (Option O)} {σ : L2.St} {fp : List Addr} {i : Nat} {o : O}, Slots G F al H env σ fp → getS env i = some o →
    ∃ v f1 f2 f3, σ[i]? = some (some v) ∧ OwnT G F al H o v f2 ∧ fp = f1 ++ (f2 ++ f3)
  | _, _, _, i, o, .nil, e => by cases i <;> cases e
  | _, _, _, 0, o, .un h, e => by cases e
  | _, _, _, i + 1, o, .un h, e => by
    obtain ⟨v, f1, f2, f3, q1, q2, q3⟩ := slots_get (i := i) h e
    exact ⟨v, f1, f2, f3, by simpa using q1, q2, q3⟩
  | _, _, _, 0, o, .so (fp := fp) (fq := fq) h hs, e => by cases e; exact ⟨_, [], fp, fq, rfl, h, rfl⟩
  | _, _, _, i + 1, o, .so (fp := fp) h hs, e => by
    obtain ⟨v, f1, f2, f3, q1, q2, q3⟩ := slots_get (i := i) hs e
    exact ⟨v, fp ++ f1, f2, f3, by simpa using q1, q2, by rw [q3, List.append_assoc]⟩
/-- a slot exchanged -/
theorem slots_set {F H : Hp} {al : List Addr} : ∀ {env : List (Option O)} {σ : L2.St} {fp : List Addr} {i : Nat} {o : O}, Slots G F al H env σ fp → getS env i = some o →
    ∃ v f1 f2 f3, σ[i]? = some (some v) ∧ OwnT G F al H o v f2 ∧ fp = f1 ++ (f2 ++ f3) ∧ ∀ (F' H' : Hp) (al' : List Addr), Mo F F' al al' → (∀ a ∈ f1 ++ f3, H' a = H a) →
      (∀ o' f', OwnT G F' al' H' o' v f' → Slots G F' al' H' (setS env i (some o')) σ (f1 ++ (f' ++ f3))) ∧ Slots G F' al' H' (setS env i none) σ (f1 ++ f3)
  | _, _, _, i, o, .nil, e => by cases i <;> cases e
  | _, _, _, 0, o, .un h, e => by cases e
  | _, _, _, i + 1, o, .un h, e => by
    obtain ⟨v, f1, f2, f3, q1, q2, q3, q4⟩ := slots_set (i := i) h e
    exact ⟨v, f1, f2, f3, by simpa using q1, q2, q3, fun F' H' al' m k => ⟨fun o' f' t => .un ((q4 F' H' al' m k).1 o' f' t), .un (q4 F' H' al' m k).2⟩⟩
  | _, _, _, 0, o, .so (fp := fp) (fq := fq) h hs, e => by
    cases e
    exact ⟨_, [], fp, fq, rfl, h, rfl, fun F' H' al' m k => ⟨fun o' f' t => .so (fp := f') t (hs.mo m k), .un (hs.mo m k)⟩⟩
  | _, _, _, i + 1, o, .so (fp := fp) h hs, e => by
    obtain ⟨v, f1, f2, f3, q1, q2, q3, q4⟩ := slots_set (i := i) hs e
    refine ⟨v, fp ++ f1, f2, f3, by simpa using q1, q2, by rw [q3, List.append_assoc], fun F' H' al' m k => ?_⟩
    have k1 : ∀ a ∈ fp, H' a = H a := fun a ha => k a (List.mem_append_left _ (List.mem_append_left _ ha))
    have k2 : ∀ a ∈ f1 ++ f3, H' a = H a := fun a ha => k a (by
      rw [List.append_assoc]; exact List.mem_append_right _ ha)
    refine ⟨fun o' f' t => ?_, ?_⟩
    · rw [List.append_assoc]; exact .so (h.mo m k1) ((q4 F' H' al' m k2).1 o' f' t)
    · rw [List.append_assoc]; exact .so (h.mo m k1) (q4 F' H' al' m k2).2
/-- a slot stored to -/
theorem slots_put {F H : Hp} {al : List Addr} : ∀ {env : List (Option O)} {σ : L2.St} {fp : List Addr} (i : Nat), Slots G F al H env σ fp →
    ∃ f1 f2 f3, fp = f1 ++ (f2 ++ f3) ∧ (env.length ≤ i → f2 = []) ∧ ∀ (F' H' : Hp) (al' : List Addr), Mo F F' al al' → (∀ a ∈ f1 ++ f3, H' a = H a) →
      (i < env.length → ∀ o' v' f', OwnT G F' al' H' o' v' f' → Slots G F' al' H' (setS env i (some o')) (σ.set i (some v')) (f1 ++ (f' ++ f3))) ∧
      ∀ x, Slots G F' al' H' (setS env i none) (σ.set i x) (f1 ++ f3)
  | _, _, _, i, .nil => ⟨[], [], [], rfl, fun _ => rfl, fun F' H' al' m k => ⟨fun h => absurd h (Nat.not_lt_zero _), fun x => by cases i <;> exact .nil⟩⟩
  | _, _, _, 0, .un (fp := fp) h => ⟨[], [], fp, rfl, fun _ => rfl, fun F' H' al' m k => ⟨fun _ o' v' f' t => .so (fp := f') t (h.mo m k), fun x => .un (h.mo m k)⟩⟩
  | _, _, _, i + 1, .un h => by
    obtain ⟨f1, f2, f3, q3, q5, q4⟩ := slots_put i h
    exact ⟨f1, f2, f3, q3, fun z => q5 (by simpa using z), fun F' H' al' m k => ⟨fun z o' v' f' t => .un ((q4 F' H' al' m k).1 (by simpa using z) o' v' f' t), fun x => .un ((q4 F' H' al' m k).2 x)⟩⟩
  | _, _, _, 0, .so (fp := fp) (fq := fq) h hs => ⟨[], fp, fq, rfl, fun z => absurd z (by simp), fun F' H' al' m k => ⟨fun _ o' v' f' t => .so (fp := f') t (hs.mo m k), fun x => .un (hs.mo m k)⟩⟩
  | _, _, _, i + 1, .so (fp := fp) h hs => by
    obtain ⟨f1, f2, f3, q3, q5, q4⟩ := slots_put i hs
    refine ⟨fp ++ f1, f2, f3, by rw [q3, List.append_assoc], fun z => q5 (by simpa using z), fun F' H' al' m k => ?_⟩
    have k1 : ∀ a ∈ fp, H' a = H a := fun a ha => k a (List.mem_append_left _ (List.mem_append_left _ ha))
    have k2 : ∀ a ∈ f1 ++ f3, H' a = H a := fun a ha => k a (by
      rw [List.append_assoc]; exact List.mem_append_right _ ha)
    refine ⟨fun z o' v' f' t => ?_, fun x => ?_⟩
    · rw [List.append_assoc]; exact .so (h.mo m k1) ((q4 F' H' al' m k2).1 (by simpa using z) o' v' f' t)
    · rw [List.append_assoc]; exact .so (h.mo m k1) ((q4 F' H' al' m k2).2 x)
theorem mem_ends {f1 f2 f3 : List Addr} {a : Addr} (h : a ∈ f1 ++ f3) : a ∈ f1 ++ (f2 ++ f3) := by
  rcases List.mem_append.mp h with k | k
  · exact List.mem_append_left _ k
  · exact List.mem_append_right _ (List.mem_append_right _ k)
theorem mem_mid {f1 f2 f3 : List Addr} {a : Addr} (h : a ∈ f2) : a ∈ f1 ++ (f2 ++ f3) := List.mem_append_right _ (List.mem_append_left _ h)
theorem nd_ends {f1 f2 f3 : List Addr} (h : (f1 ++ (f2 ++ f3)).Nodup) : (f1 ++ f3).Nodup ∧ f2.Nodup ∧ ∀ a ∈ f2, a ∉ f1 ++ f3 := by
  have h1 := List.nodup_append.mp h
  have h2 := List.nodup_append.mp h1.2.1
  refine ⟨h.sublist (List.Sublist.append_left (List.sublist_append_right _ _) _), h2.1, fun a ha hk => ?_⟩
  rcases List.mem_append.mp hk with k | k
  · exact h1.2.2 a k a (List.mem_append_left _ ha) rfl
  · exact h2.2.2 a ha a k rfl
/-- the slot at i given up: what it owned is owned by nothing -/
theorem rel_out {st : S} {σ : L2.St} {c : Cf} {i : Nat} {o : O} (r : Rel G st σ c) (e : getS st.env i = some o) : ∃ v f2 fs', σ[i]? = some (some v) ∧ OwnT G c.F c.al c.H o v f2 ∧
    Rel G ⟨setS st.env i none, st.mu⟩ σ { c with fs := fs' } ∧ Fresh f2 { c with fs := fs' } ∧ GoE c { c with fs := fs' } ∧ (∀ a ∈ f2, a ∈ c.fs) ∧
    ∀ F' H' al', Mo c.F F' c.al al' → (∀ a ∈ fs', H' a = c.H a) → ∀ o', OwnT G F' al' H' o' v [] → Slots G F' al' H' (setS st.env i (some o')) σ fs' := by
  obtain ⟨v, f1, f2, f3, q1, q2, q3, q4⟩ := slots_set r.slots e
  have nd := r.nds
  rw [q3] at nd
  obtain ⟨n1, n2, n3⟩ := nd_ends nd
  have sub : ∀ a, a ∈ f1 ++ f3 → a ∈ c.fs := fun a h => by rw [q3]; exact mem_ends h
  have sub2 : ∀ a, a ∈ f2 → a ∈ c.fs := fun a h => by rw [q3]; exact mem_mid h
  refine ⟨v, f2, f1 ++ f3, q1, q2, ⟨r.sub, fun a h => r.own a (h.elim (fun h => .inl (sub a h)) .inr), n1, r.ndc, fun a h => r.dis a (sub a h), (q4 c.F c.H c.al (Mo.refl _ _) fun _ _ => rfl).2, r.cells⟩,
    ⟨n2, fun a h => r.own a (.inl (sub2 a h)), n3, fun a h => r.dis a (sub2 a h)⟩,
    { mo := Mo.refl _ _, fr := fun _ _ _ _ => rfl, fp := fun a h => h.elim (fun h => .inl (sub a h)) (fun h => .inr (.inl h)), nF := fun a h => .inl h,
      hs := fun _ _ _ => rfl, sf := sub, cf := fun a h k => absurd h (r.dis a k) }, sub2, fun F' H' al' m k o' t => (q4 F' H' al' m k).1 o' [] t⟩
theorem own_fz {F H : Hp} {al : List Addr} {o : O} {v : V} {fp : List Addr} (h : OwnT G F al H o v fp) (z : isFz o = true) : fp = [] ∧ Rp G F al v o.toD := by
  cases h with
  | fz h => exact ⟨rfl, by rw [O.toD]; exact h⟩
  | _ => cases z
theorem x_var {i : Nat} {x : Str} {pos : Pos} (hN : X.N[i]? = some x) (hv : Vis X.env.scope x) (hd : (x == ("__debug__" : Str)) = false := by decide) (hcd : (x == ("__classdict__" : Str)) = false := by decide) :
    PE X (.Name x pos) (tO G W (xVar i)) := (pe_var hN hv hd hcd).weak fun σ H Q q => by
  obtain ⟨c, st, rfl, r, h⟩ := q
  unfold xVar at h
  cases e : getS st.env i with
  | none => rw [e] at h; exact h.elim
  | some o =>
    rw [e] at h
    dsimp only [wp] at h
    obtain ⟨v, f2, fs', q1, q2, r2, fr, g, sb, q4⟩ := rel_out r e
    refine ⟨v, q1, ?_⟩
    cases z : isFz o with
    | true =>
      obtain ⟨rfl, rp⟩ := own_fz q2 z
      rw [z] at h
      exact h v c r (GoE.refl r) ⟨[], .fz rp, Fresh.nil _, New.nil _⟩
    | false =>
      rw [z] at h
      have r3 := r2.freeze fr
      have t3 := OwnT.frz (c := { c with fs := fs' }) q2 r2
      have nw : New f2 c := fun a ha => .inl (sb a ha)
      refine h v (Cf.frz { c with fs := fs' } f2) ?_ (g.freeze nw r2) ⟨[], .fz t3, Fresh.nil _, New.nil _⟩
      exact ⟨r3.sub, r3.own, r3.nds, r3.ndc, r3.dis, q4 _ _ _ (.of (frz_sub (c := { c with fs := fs' }) r2) fun _ _ h => h) (fun _ _ => rfl) _ (.fz t3), r3.cells⟩
theorem x_mov {i : Nat} {x : Str} {pos : Pos} (hN : X.N[i]? = some x) (hv : Vis X.env.scope x) (hd : (x == ("__debug__" : Str)) = false := by decide) (hcd : (x == ("__classdict__" : Str)) = false := by decide) :
    PE X (.Name x pos) (tO G W (xMov i)) := (pe_var hN hv hd hcd).weak fun σ H Q q => by
  obtain ⟨c, st, rfl, r, h⟩ := q
  unfold xMov at h
  cases e : getS st.env i with
  | none => rw [e] at h; exact h.elim
  | some o =>
    rw [e] at h
    dsimp only [wp] at h
    obtain ⟨v, f2, fs', q1, q2, r2, fr, g, sb, q4⟩ := rel_out r e
    refine ⟨v, q1, ?_⟩
    cases z : isFz o with
    | true =>
      obtain ⟨rfl, rp⟩ := own_fz q2 z
      rw [z] at h
      exact h v c r (GoE.refl r) ⟨[], q2, Fresh.nil _, New.nil _⟩
    | false =>
      rw [z] at h
      exact h v { c with fs := fs' } r2 g ⟨f2, q2, fr, fun a ha => .inl (sb a ha)⟩
theorem x_bvar {i : Nat} {x : Str} {pos : Pos} (hN : X.N[i]? = some x) (hv : Vis X.env.scope x) (hd : (x == ("__debug__" : Str)) = false := by decide) (hcd : (x == ("__classdict__" : Str)) = false := by decide) :
    PE X (.Name x pos) (tBr G W (xBor i)) := (pe_var hN hv hd hcd).weak fun σ H Q q => by
  obtain ⟨c, st, rfl, r, h⟩ := q
  unfold xBor at h
  cases e : getS st.env i with
  | none => rw [e] at h; exact h.elim
  | some o =>
    rw [e] at h
    dsimp only [wp] at h
    obtain ⟨v, f2, fs', q1, q2, r2, fr, g, sb, q4⟩ := rel_out r e
    exact ⟨v, q1, h v c r (GoE.refl r) ⟨f2, q2, fun a ha => r.dis a (sb a ha)⟩⟩
theorem x_c {e : Expr} {v : V} {d : D} (h : PE X e (tC v)) (hr : ∀ F al, Rp G F al v d) : PE X e (tO G W (xC d)) := h.weak fun σ H Q q => by
  obtain ⟨c, st, rfl, r, h⟩ := q
  exact h v c r (GoE.refl r) ⟨[], .fz (hr _ _), Fresh.nil _, New.nil _⟩
/-! ### operators -/
/-- an operator by values, and what it gives of trees -/
def OpD (G : Gi) (r : R2) (g : D → D → Option O) : Prop := ∀ (st : S) (σ : L2.St) (c : Cf) (x y : V) (ox oy : O) (fx fy : List Addr) (o : O) (Q : VK), Rel G st σ c →
  OwnT G c.F c.al c.H ox x fx → OwnT G c.F c.al c.H oy y fy → g ox.toD oy.toD = some o →
  (∀ v c', Rel G st σ c' → GoE c c' → PrO G o c c' v → Q v c'.H) → r x y c.H Q
def UnD (G : Gi) (r : V → Hp → VK → Prop) (g : D → Option O) : Prop := ∀ (st : S) (σ : L2.St) (c : Cf) (x : V) (ox : O) (fx : List Addr) (o : O) (Q : VK), Rel G st σ c →
  OwnT G c.F c.al c.H ox x fx → g ox.toD = some o → (∀ v c', Rel G st σ c' → GoE c c' → PrO G o c c' v → Q v c'.H) → r x c.H Q
def xOp (g : D → D → Option O) (ma mb : M O) : M O := bnd ma fun x => bnd mb fun y => ofO (g x.toD y.toD)
def xUn (g : D → Option O) (ma : M O) : M O := bnd ma fun x => ofO (g x.toD)
@[simp] theorem xOp_app (g : D → D → Option O) (ma mb : M O) (s : S) : xOp g ma mb s = (ma s).bind fun x s1 => (mb s1).bind fun y s2 => ofO (g x.toD y.toD) s2 := rfl
@[simp] theorem xUn_app (g : D → Option O) (ma : M O) (s : S) : xUn g ma s = (ma s).bind fun x s1 => ofO (g x.toD) s1 := rfl
theorem op_t {r : R2} {g : D → D → Option O} (hr : OpD G r g) {σ : L2.St} {H : Hp} {Q : VK} (q : tO G W (xOp g ma mb) σ H Q) : tOp r (tBr G W ma) (tLa G W mb) σ H Q := by
  show tBr G W ma σ H (fun x H1 => tLa G W mb σ H1 (fun y H2 => r x y H2 Q))
  refine q.seq bkO _ (fun ox x c c1 st1 r1 g1 p1 w => ?_)
  obtain ⟨fx, tx, kx⟩ := p1
  refine tG.seq1 bkO r1 w _ (fun oy y c2 st2 r2 g2 p2 w2 => ?_)
  obtain ⟨fy, ty⟩ := p2
  obtain ⟨o, eo, q3⟩ := wp_ofO.mp w2
  exact hr st2 σ c2 x y ox oy fx fy o Q r2 (kx.go tx g2) ty eo q3
theorem un_t {r : V → Hp → VK → Prop} {g : D → Option O} (hr : UnD G r g) {σ : L2.St} {H : Hp} {Q : VK} (q : tO G W (xUn g ma) σ H Q) : tUn r (tLa G W ma) σ H Q := by
  show tLa G W ma σ H (fun x H1 => r x H1 Q)
  refine q.seq bkO _ (fun ox x c c1 st1 r1 g1 p1 w => ?_)
  obtain ⟨fx, tx⟩ := p1
  obtain ⟨o, eo, q3⟩ := wp_ofO.mp w
  exact hr st1 σ c1 x ox fx o Q r1 tx eo q3
theorem x_op {op : Operator} {r : R2} {g : D → D → Option O} {pos : Pos} (ho : OpR X (binaryOp op) r) (hr : OpD G r g) (ha : PE X a (tBr G W ma)) (hb : PE X b (tLa G W mb)) :
    PE X (.BinOp a op b pos) (tO G W (xOp g ma mb)) := (pe_op ho ha hb).weak fun σ H Q q => op_t hr q
theorem x_cmp {op : CmpOp} {r : R2} {g : D → D → Option O} {pos : Pos} (ho : OpR X (compareOp op) r) (hr : OpD G r g) (ha : PE X a (tBr G W ma)) (hb : PE X b (tLa G W mb)) (hm : behindInMarks op b = false) :
    PE X (.Compare a [op] [b] pos) (tO G W (xOp g ma mb)) := (pe_cmpR ho ha hb hm).weak fun σ H Q q => op_t hr q
theorem x_ix {r : R2} {g : D → D → Option O} {pos : Pos} (ho : IxR X r) (hr : OpD G r g) (ha : PE X a (tBr G W ma)) (hb : PE X b (tLa G W mb)) (hs : PlainIx b) :
    PE X (.Subscript a b pos) (tO G W (xOp g ma mb)) := (pe_ix ho ha hb hs).weak fun σ H Q q => op_t hr q
/-- a truth out of a tree -/
def asB : O → Option Bool
  | .fz (.bl b) => some b
  | _ => none
def toB (m : M O) : M Bool := bnd m fun o => ofO (asB o)
@[simp] theorem toB_app (m : M O) (s : S) : toB m s = (m s).bind fun o => ofO (asB o) := rfl
theorem test_t {Pr : O → Cf → Cf → V → Prop} (hp : ∀ b c c' v, Pr (.fz (.bl b)) c c' v → v = .bl b) {σ : L2.St} {H : Hp} {Q : Bool → Hp → Prop} (q : tTs G W (toB m) σ H Q) :
    tG G W Pr m σ H fun x H' => ∃ k, x = .bl k ∧ Q k H' := by
  refine q.seq bkT _ (fun o v c c1 st1 r1 g1 p w => ?_)
  obtain ⟨b, eb, q3⟩ := wp_ofO.mp w
  have eo : o = .fz (.bl b) := by
    unfold asB at eb
    split at eb
    · cases eb; rfl
    · cases eb
  subst eo
  exact ⟨b, hp b c c1 v p, q3 b c1 r1 (GoE.refl r1) rfl⟩
theorem own_bl {F H : Hp} {al : List Addr} {b : Bool} {v : V} {fp : List Addr} (h : OwnT G F al H (.fz (.bl b)) v fp) : v = .bl b := by
  cases h with
  | fz h => cases h; rfl
theorem prO_bl (b : Bool) (c c' : Cf) (v : V) (h : PrO G (.fz (.bl b)) c c' v) : v = .bl b := by obtain ⟨fp, t, _⟩ := h; exact own_bl t
theorem xt_val (h : PE X e (tO G W m)) (he : ∀ whole, isTrue e X.env whole = (do let v ← whole; standAt e.pos; holding [v] (truthy v)) := by intro _; rfl) :
    PT X e (tTs G W (toB m)) := (pt_val h he).weak fun σ H Q q => test_t (prO_bl) q
theorem xt_cmp {op : CmpOp} {r : R2} {g : D → D → Option O} {pos : Pos} (ho : OpR X (compareOp op) r) (hr : OpD G r g) (ha : PE X a (tBr G W ma)) (hb : PE X b (tLa G W mb)) (hm : behindInMarks op b = false) :
    PT X (.Compare a [op] [b] pos) (tTs G W (toB (xOp g ma mb))) := (pt_cmpR ho ha hb hm).weak fun σ H Q q => by
  have q2 := test_t (prO_bl (G := G)) q
  exact op_t hr q2
/-! ### and, or, not; a if b else c -/
def bAnd (ma mb : M Bool) : M Bool := bnd ma fun x => if x = true then mb else ret false
def bOr (ma mb : M Bool) : M Bool := bnd ma fun x => if x = true then ret true else mb
def bNot (ma : M Bool) : M Bool := bnd ma fun x => ret (!x)
def xIf (mt : M Bool) (ma mb : M O) : M O := bnd mt fun x => if x = true then ma else mb
@[simp] theorem bAnd_app (ma mb : M Bool) (s : S) : bAnd ma mb s = (ma s).bind fun x => if x = true then mb else ret false := rfl
@[simp] theorem bOr_app (ma mb : M Bool) (s : S) : bOr ma mb s = (ma s).bind fun x => if x = true then ret true else mb := rfl
@[simp] theorem bNot_app (ma : M Bool) (s : S) : bNot ma s = (ma s).bind fun x => ret (!x) := rfl
@[simp] theorem xIf_app (mt : M Bool) (ma mb : M O) (s : S) : xIf mt ma mb s = (mt s).bind fun x => if x = true then ma else mb := rfl
theorem and_t {ma mb : M Bool} {σ : L2.St} {H : Hp} {Q : Bool → Hp → Prop} (q : tTs G W (bAnd ma mb) σ H Q) : tAnd (tTs G W ma) (tTs G W mb) σ H Q := by
  show tTs G W ma σ H fun c H1 => if c = true then tTs G W mb σ H1 Q else Q false H1
  refine q.seq bkT _ (fun o v c c1 st1 r1 g1 p w => ?_)
  obtain rfl : v = o := p
  cases v with
  | true => exact tG.at r1 w
  | false => exact w false c1 r1 (GoE.refl r1) rfl
theorem or_t {ma mb : M Bool} {σ : L2.St} {H : Hp} {Q : Bool → Hp → Prop} (q : tTs G W (bOr ma mb) σ H Q) : tOr (tTs G W ma) (tTs G W mb) σ H Q := by
  show tTs G W ma σ H fun c H1 => if c = true then Q true H1 else tTs G W mb σ H1 Q
  refine q.seq bkT _ (fun o v c c1 st1 r1 g1 p w => ?_)
  obtain rfl : v = o := p
  cases v with
  | false => exact tG.at r1 w
  | true => exact w true c1 r1 (GoE.refl r1) rfl
theorem not_t {ma : M Bool} {σ : L2.St} {H : Hp} {Q : Bool → Hp → Prop} (q : tTs G W (bNot ma) σ H Q) : tNot (tTs G W ma) σ H Q := by
  show tTs G W ma σ H fun c H1 => Q (!c) H1
  refine q.seq bkT _ (fun o v c c1 st1 r1 g1 p w => ?_)
  obtain rfl : v = o := p
  exact w (!v) c1 r1 (GoE.refl r1) rfl
theorem if_t {Pr : O → Cf → Cf → V → Prop} (hb : Bk Pr) {mt : M Bool} {σ : L2.St} {H : Hp} {Q : VK} (q : tG G W Pr (xIf mt ma mb) σ H Q) : tIf (tTs G W mt) (tG G W Pr ma) (tG G W Pr mb) σ H Q := by
  show tTs G W mt σ H fun c H1 => if c = true then tG G W Pr ma σ H1 Q else tG G W Pr mb σ H1 Q
  refine q.seq hb _ (fun o v c c1 st1 r1 g1 p w => ?_)
  obtain rfl : v = o := p
  cases v with
  | true => exact tG.at r1 w
  | false => exact tG.at r1 w
section
variable {A B A2 : Expr} {rest : List Expr} {pos : Pos} {ma mb mt : M Bool}
theorem xw_and1 (ha : PT X A (tTs G W ma)) : PW X (.BoolOp .And [A] pos) (tTs G W ma) := pw_and1 ha
theorem xw_or1 (ha : PT X A (tTs G W ma)) : PW X (.BoolOp .Or [A] pos) (tTs G W ma) := pw_or1 ha
theorem xw_and (ha : PT X A (tTs G W ma)) (hb : PW X (.BoolOp .And (B :: rest) pos) (tTs G W mb)) : PW X (.BoolOp .And (A :: B :: rest) pos) (tTs G W (bAnd ma mb)) := (pw_and ha hb).weak fun _ _ _ q => and_t q
theorem xw_or (ha : PT X A (tTs G W ma)) (hb : PW X (.BoolOp .Or (B :: rest) pos) (tTs G W mb)) : PW X (.BoolOp .Or (A :: B :: rest) pos) (tTs G W (bOr ma mb)) := (pw_or ha hb).weak fun _ _ _ q => or_t q
theorem xt_not (ha : PT X A (tTs G W ma)) : PT X (.UnaryOp .Not A pos) (tTs G W (bNot ma)) := (pt_not ha).weak fun _ _ _ q => not_t q
theorem x_if {mx my : M O} (ht : PT X A (tTs G W mt)) (ha : PE X B (tO G W mx)) (hb : PE X A2 (tO G W my)) : PE X (.IfExp A B A2 pos) (tO G W (xIf mt mx my)) :=
  (pe_ifExp ht ha hb).weak fun _ _ _ q => if_t bkO q
end
/-- and, or, not as values: truths alone -/
def xAndV (ma mb : M O) : M O := bnd (toB ma) fun x => if x = true then mb else ret (.fz (.bl false))
def xOrV (ma mb : M O) : M O := bnd (toB ma) fun x => if x = true then ret (.fz (.bl true)) else mb
def xNotV (ma : M O) : M O := bnd (toB ma) fun x => ret (.fz (.bl (!x)))
@[simp] theorem xAndV_app (ma mb : M O) (s : S) : xAndV ma mb s = (toB ma s).bind fun x => if x = true then mb else ret (.fz (.bl false)) := rfl
@[simp] theorem xOrV_app (ma mb : M O) (s : S) : xOrV ma mb s = (toB ma s).bind fun x => if x = true then ret (.fz (.bl true)) else mb := rfl
@[simp] theorem xNotV_app (ma : M O) (s : S) : xNotV ma s = (toB ma s).bind fun x => ret (.fz (.bl (!x))) := rfl
theorem prO_fz {c c' : Cf} {v : V} {d : D} (h : Rp G c'.F c'.al v d) : PrO G (.fz d) c c' v := ⟨[], .fz h, Fresh.nil _, New.nil _⟩
theorem andV_t {σ : L2.St} {H : Hp} {Q : VK} (q : tO G W (xAndV ma mb) σ H Q) : tAndV (tO G W ma) (tO G W mb) σ H Q := by
  show tO G W ma σ H fun x H1 => ∃ c, x = .bl c ∧ if c = true then tO G W mb σ H1 Q else Q (.bl false) H1
  refine test_t prO_bl (q.seq bkO (fun b H1 => if b = true then tO G W mb σ H1 Q else Q (.bl false) H1) (fun o v c c1 st1 r1 g1 p w => ?_))
  obtain rfl : v = o := p
  cases v with
  | true => exact tG.at r1 w
  | false => exact w _ c1 r1 (GoE.refl r1) (prO_fz (.bl _))
theorem orV_t {σ : L2.St} {H : Hp} {Q : VK} (q : tO G W (xOrV ma mb) σ H Q) : tOrV (tO G W ma) (tO G W mb) σ H Q := by
  show tO G W ma σ H fun x H1 => ∃ c, x = .bl c ∧ if c = true then Q (.bl true) H1 else tO G W mb σ H1 Q
  refine test_t prO_bl (q.seq bkO (fun b H1 => if b = true then Q (.bl true) H1 else tO G W mb σ H1 Q) (fun o v c c1 st1 r1 g1 p w => ?_))
  obtain rfl : v = o := p
  cases v with
  | false => exact tG.at r1 w
  | true => exact w _ c1 r1 (GoE.refl r1) (prO_fz (.bl _))
theorem x_and {rest : List Expr} {pos : Pos} (ha : PE X a (tO G W ma)) (hb : PE X (.BoolOp .And (b :: rest) pos) (tO G W mb)) : PE X (.BoolOp .And (a :: b :: rest) pos) (tO G W (xAndV ma mb)) := (pe_and ha hb).weak fun _ _ _ q => andV_t q
theorem x_or {rest : List Expr} {pos : Pos} (ha : PE X a (tO G W ma)) (hb : PE X (.BoolOp .Or (b :: rest) pos) (tO G W mb)) : PE X (.BoolOp .Or (a :: b :: rest) pos) (tO G W (xOrV ma mb)) := (pe_or ha hb).weak fun _ _ _ q => orV_t q
/-! ### argument lists, tuples, lists -/
def aNil : M (List D) := ret []
def aCons (m : M D) (ms : M (List D)) : M (List D) := bnd m fun d => bnd ms fun ds => ret (d :: ds)
@[simp] theorem aNil_app (s : S) : aNil s = .ok [] s := rfl
@[simp] theorem aCons_app (m : M D) (ms : M (List D)) (s : S) : aCons m ms s = (m s).bind fun d s1 => (ms s1).bind fun ds => ret (d :: ds) := rfl
theorem xa_nil : PA X [] (tAs G W aNil) := (pa_nil (X := X)).weak fun σ H Q q => by
  obtain ⟨c, st, rfl, r, h⟩ := q
  exact h [] c r (GoE.refl r) .nil
theorem cons_t {m : M D} {ms : M (List D)} {σ : L2.St} {H : Hp} {Q : List V → Hp → Prop} (q : tAs G W (aCons m ms) σ H Q) : tCons (tD G W m) (tAs G W ms) σ H Q := by
  show tD G W m σ H fun x H1 => tAs G W ms σ H1 fun xs H2 => Q (x :: xs) H2
  refine q.seq bkA _ (fun d v c c1 st1 r1 g1 p1 w => ?_)
  refine tG.seq1 bkA r1 w _ (fun ds vs c2 st2 r2 g2 p2 w2 => ?_)
  exact w2 (v :: vs) c2 r2 (GoE.refl r2) (.cons (p1.mo g2.mo) p2)
theorem xa_cons {m : M D} {ms : M (List D)} {es : List Expr} (ha : PE X e (tD G W m)) (hr : PA X es (tAs G W ms)) (hs : starEach (e :: es) X.env = (false, eval e X.env) :: starEach es X.env := by rfl) :
    PA X (e :: es) (tAs G W (aCons m ms)) := (pa_cons ha hr hs).weak fun _ _ _ q => cons_t q
theorem xk_nil : PK X [] (tAs G W aNil) := (pk_nil (X := X)).weak fun σ H Q q => by
  obtain ⟨c, st, rfl, r, h⟩ := q
  exact h [] c r (GoE.refl r) .nil
theorem xk_cons {m : M D} {ms : M (List D)} {nm : Option Str} {kpos : Pos} {kws : List Keyword} (ha : PE X e (tD G W m)) (hr : PK X kws (tAs G W ms)) : PK X (⟨nm, e, kpos⟩ :: kws) (tAs G W (aCons m ms)) :=
  (pk_cons ha hr).weak fun _ _ _ q => cons_t q
/-- what a display of n things gives -/
def dTup (ds : List D) : Option O := if ds.length ≤ 16777216 then some (.fz (.tup ds)) else none
def dLst (ds : List D) : Option O := if ds.length ≤ 16777216 then some (.lst ds) else none
def xTup (ms : M (List D)) : M O := bnd ms fun ds => ofO (dTup ds)
def xLst (ms : M (List D)) : M O := bnd ms fun ds => ofO (dLst ds)
@[simp] theorem xTup_app (ms : M (List D)) (s : S) : xTup ms s = (ms s).bind fun ds => ofO (dTup ds) := rfl
@[simp] theorem xLst_app (ms : M (List D)) (s : S) : xLst ms s = (ms s).bind fun ds => ofO (dLst ds) := rfl
/-- a new frozen object -/
theorem new_fz {st : S} {σ : L2.St} {c : Cf} {p : Addr} {o : HO} {d : D} (r : Rel G st σ c) (h : c.H p = none)
    (hp : Rp G (frzF (c.new p o) [p]) c.al (.ref p) d) : ∃ c', c'.H = upd c.H p o ∧ Rel G st σ c' ∧ GoE c c' ∧ PrO G (.fz d) c c' (.ref p) := by
  have r1 := r.new (o := o) h
  have f := Fresh.new (o := o) r h
  exact ⟨(c.new p o).frz [p], rfl, r1.freeze f, (GoE.new r h).freeze (New.new h) r1, [], .fz hp, Fresh.nil _, New.nil _⟩
theorem new_ow {st : S} {σ : L2.St} {c : Cf} {p : Addr} {o : HO} {t : O} (r : Rel G st σ c) (h : c.H p = none)
    (hp : OwnT G c.F c.al (upd c.H p o) t (.ref p) [p]) : ∃ c', c'.H = upd c.H p o ∧ Rel G st σ c' ∧ GoE c c' ∧ PrO G t c c' (.ref p) :=
  ⟨c.new p o, rfl, r.new h, GoE.new r h, [p], hp, Fresh.new r h, New.new h⟩
theorem frzF_same {c : Cf} {p : Addr} {o : HO} : frzF (c.new p o) [p] p = some o := by
  unfold frzF
  rw [if_pos (List.mem_singleton_self _)]
  exact upd_same
theorem mo_new {st : S} {σ : L2.St} {c : Cf} {p : Addr} {o : HO} (r : Rel G st σ c) (h : c.H p = none) : Mo c.F (frzF (c.new p o) [p]) c.al c.al :=
  .of (frz_sub (r.new (o := o) h)) fun _ _ h => h
theorem x_tup {es : List Expr} {ms : M (List D)} {x1 : Nat} {pos : Pos} (h : PA X es (tAs G W ms)) : PE X (.Tuple es x1 pos) (tO G W (xTup ms)) := (pe_tup h).weak fun σ H Q q => by
  show tAs G W ms σ H fun xs H1 => xs.length ≤ sizeLine ∧ ∀ p, H1 p = none → Q (.ref p) (upd H1 p (.tup xs))
  refine q.seq bkO _ (fun ds vs c c1 st1 r1 g1 p1 w => ?_)
  obtain ⟨o, eo, q3⟩ := wp_ofO.mp w
  unfold dTup at eo
  split at eo
  · rename_i hl
    cases eo
    have hl2 := p1.len
    refine ⟨by rw [szl]; omega, fun p hp => ?_⟩
    obtain ⟨c', e, r', g', p'⟩ := new_fz (G := G) (o := .tup vs) (d := .tup ds) r1 hp (.tup frzF_same (p1.mo (mo_new r1 hp)))
    rw [← e]
    exact q3 _ c' r' g' p'
  · cases eo
theorem x_lst {es : List Expr} {ms : M (List D)} {pos : Pos} (h : PA X es (tAs G W ms)) : PE X (.List es pos) (tO G W (xLst ms)) := (pe_lst h).weak fun σ H Q q => by
  show tAs G W ms σ H fun xs H1 => xs.length ≤ sizeLine ∧ ∀ p, H1 p = none → Q (.ref p) (upd H1 p (.lst xs))
  refine q.seq bkO _ (fun ds vs c c1 st1 r1 g1 p1 w => ?_)
  obtain ⟨o, eo, q3⟩ := wp_ofO.mp w
  unfold dLst at eo
  split at eo
  · rename_i hl
    cases eo
    have hl2 := p1.len
    refine ⟨by rw [szl]; omega, fun p hp => ?_⟩
    obtain ⟨c', e, r', g', p'⟩ := new_ow (G := G) (o := .lst vs) (t := .lst ds) r1 hp (.lst upd_same p1)
    rw [← e]
    exact q3 _ c' r' g' p'
  · cases eo
end
end L2.Tr
namespace L2.Tr
open PySem PySem.Spec PyProof.Rows L2 L2.Pc
/-! ### what a value is, by its tree -/
def Vi (G : Gi) (c : Cf) (v : V) : D → Prop
  | .non => v = .non
  | .bl b => v = .bl b
  | .int i => v = .int i
  | .str s => v = .str s
  | .tup ds => ∃ a xs, v = .ref a ∧ SqT G.K c.H a xs ∧ RpA G c.F c.al xs ds ∧ Rp G c.F c.al v (.tup ds)
  | .tuk ds => ∃ a xs, v = .ref a ∧ SqT G.K c.H a xs ∧ RpA G c.F c.al xs ds
  | .lst ds => ∃ a xs, v = .ref a ∧ c.H a = some (.lst xs) ∧ RpA G c.F c.al xs ds
  | .lsk ds => ∃ a xs, v = .ref a ∧ SqL G.K c.H a xs ∧ RpA G c.F c.al xs ds
  | .dct _ => ∃ a, v = .ref a
  | .dcu _ => ∃ a, v = .ref a
  | .ins _ _ => ∃ a, v = .ref a
  | .cel n => ∃ a, v = .ref a ∧ c.al[n]? = some a
  | .fn f => ∃ a, v = .ref a ∧ G.mg f = some (.ref a)
  | .ty n => v = .ty n
  | .xob _ _ => ∃ a, v = .ref a
  | .xok _ _ => ∃ a, v = .ref a
  | .tun ds => ∃ a xs, v = .ref a ∧ SqT G.K c.H a xs ∧ RpA G c.F c.al xs ds ∧ ∃ o, c.H a = some (.frz o (.tup xs)) ∧ o.dict = none
theorem rp_view {G : Gi} {st : S} {σ : L2.St} {c : Cf} {v : V} {d : D} (r : Rel G st σ c) (t : Rp G c.F c.al v d) : Vi G c v d := by
  cases t with
  | non => rfl
  | bl b => rfl
  | int i => rfl
  | str x => rfl
  | tup h hs => exact ⟨_, _, rfl, r.rdT (.inl (.inl h)), hs, .tup h hs⟩
  | tuk h hs => exact ⟨_, _, rfl, r.rdT h, hs⟩
  | lst h hs => exact ⟨_, _, rfl, r.sub _ _ h, hs⟩
  | lsk h hs => exact ⟨_, _, rfl, r.rdL h, hs⟩
  | dcK h q hs => exact ⟨_, rfl⟩
  | dcT h q hs => exact ⟨_, rfl⟩
  | ins h q n hs => exact ⟨_, rfl⟩
  | cel h => exact ⟨_, rfl, h⟩
  | fn h => exact ⟨_, rfl, h⟩
  | ty n => rfl
  | xob h q k n hs => exact ⟨_, rfl⟩
  | xob0 h q => exact ⟨_, rfl⟩
  | xok h q k n hs => exact ⟨_, rfl⟩
  | xok0 h q => exact ⟨_, rfl⟩
  | tun h k hs => exact ⟨_, _, rfl, sqT_fz (r.sub _ _ h), hs, _, r.sub _ _ h, k⟩
theorem own_view {G : Gi} {st : S} {σ : L2.St} {c : Cf} {v : V} {o : O} {fp : List Addr} (r : Rel G st σ c) (t : OwnT G c.F c.al c.H o v fp) : Vi G c v o.toD := by
  cases t with
  | fz h => rw [O.toD]; exact rp_view r h
  | lst h hs => rw [O.toD]; exact ⟨_, _, rfl, h, hs⟩
  | dcK h q hs => rw [O.toD]; exact ⟨_, rfl⟩
  | dcT h q hs => rw [O.toD]; exact ⟨_, rfl⟩
  | ins h q n hs => rw [O.toD]; exact ⟨_, rfl⟩
  | dcoK h q hs => rw [O.toD]; exact ⟨_, rfl⟩
  | dcoT h q hs => rw [O.toD]; exact ⟨_, rfl⟩
/-! data without own classes; b: dicts too -/
mutual
def D.py (b : Bool) : D → Option PyData
  | .non => some .none
  | .bl x => some (.bool x)
  | .int i => some (.int i)
  | .str s => some (.str s)
  | .tup xs => (D.pyA b xs).map .tuple
  | .tuk xs => (D.pyA b xs).map .tuple
  | .lst xs => (D.pyA b xs).map .list
  | .lsk xs => (D.pyA b xs).map .list
  | .dct kvs => if b then (D.pyK b kvs).map .dict else none
  | .dcu _ => none
  | .ins _ _ => none
  | .cel _ => none
  | .fn _ => none
  | .ty _ => none
  | .xob _ _ => none
  | .xok _ _ => none
  | .tun xs => (D.pyA b xs).map .tuple
def D.pyA (b : Bool) : List D → Option (List PyData)
  | [] => some []
  | x :: xs => (D.py b x).bind fun y => (D.pyA b xs).map (y :: ·)
def D.pyK (b : Bool) : List (D × D) → Option (List (PyData × PyData))
  | [] => some []
  | (k, x) :: xs => (D.py b k).bind fun j => (D.py b x).bind fun y => (D.pyK b xs).map ((j, y) :: ·)
end
theorem map_some {α β : Type} {f : α → β} {o : Option α} {b : β} (h : o.map f = some b) : ∃ a, o = some a ∧ b = f a := by
  cases o with
  | none => cases h
  | some a => cases h; exact ⟨a, rfl, rfl⟩
theorem bind_some {α β : Type} {f : α → Option β} {o : Option α} {b : β} (h : o.bind f = some b) : ∃ a, o = some a ∧ f a = some b := by
  cases o with
  | none => cases h
  | some a => exact ⟨a, rfl, h⟩
theorem py_key {b : Bool} {k : Key} : D.py b (kD k) = some (keyD k) := by cases k <;> rfl
theorem pyK_zip {b : Bool} {kvs : List (Key × V)} : ∀ {ds : List (D × D)} {l : List (PyData × PyData)}, D.pyK b ds = some l → ds.map (·.1) = kvs.map (fun p => kD p.1) →
    ∃ ps, D.pyA b (ds.map (·.2)) = some ps ∧ l = (kvs.map fun p => keyD p.1).zip ps := by
  intro ds
  induction ds generalizing kvs with
  | nil =>
    intro l h e
    cases kvs with
    | nil => cases h; exact ⟨[], rfl, rfl⟩
    | cons _ _ => cases e
  | cons p ds ih =>
    obtain ⟨k, x⟩ := p
    intro l h e
    cases kvs with
    | nil => cases e
    | cons q kvs =>
      rw [List.map_cons, List.map_cons] at e
      injection e with e1 e2
      rw [D.pyK] at h
      obtain ⟨j, h1, h⟩ := bind_some h
      obtain ⟨y, h2, h⟩ := bind_some h
      obtain ⟨l', h3, rfl⟩ := map_some h
      obtain ⟨ps, h4, rfl⟩ := ih h3 e2
      have e1 : k = kD q.1 := e1
      rw [e1, py_key] at h1
      cases h1
      refine ⟨y :: ps, ?_, rfl⟩
      rw [List.map_cons, D.pyA, h2]
      show (D.pyA b (ds.map (·.2))).map _ = _
      rw [h4]; rfl
mutual
theorem Rp.da {G : Gi} {F H : Hp} {al : List Addr} (e : ∀ a o, F a = some o → H a = some o) : ∀ {v : V} {d : D} {p : PyData}, Rp G F al v d → d.py true = some p → Da G.K H v p
  | _, _, _, .non, h => by cases h; exact .non
  | _, _, _, .bl b, h => by cases h; exact .bl b
  | _, _, _, .int i, h => by cases h; exact .int i
  | _, _, _, .str x, h => by cases h; exact .str x
  | _, _, _, .tup q hs, h => by rw [D.py] at h; obtain ⟨ps, h1, rfl⟩ := map_some h; exact .tup (.inl (.inl (e _ _ q))) (RpA.da e hs h1)
  | _, _, _, .tuk q hs, h => by rw [D.py] at h; obtain ⟨ps, h1, rfl⟩ := map_some h; exact .tup (sqT_mo e q) (RpA.da e hs h1)
  | _, _, _, .lst q hs, h => by rw [D.py] at h; obtain ⟨ps, h1, rfl⟩ := map_some h; exact .lst (.inl (.inl (e _ _ q))) (RpA.da e hs h1)
  | _, _, _, .lsk q hs, h => by rw [D.py] at h; obtain ⟨ps, h1, rfl⟩ := map_some h; exact .lst (sqL_mo e q) (RpA.da e hs h1)
  | _, _, _, @Rp.dcK _ _ _ a kvs ds q k hs, h => by
    rw [D.py, if_pos rfl] at h
    obtain ⟨ps, h1, rfl⟩ := map_some h
    obtain ⟨ps2, h2, rfl⟩ := pyK_zip h1 k
    exact .dct (rd_mo e q) (RpA.da e hs h2)
  | _, _, _, .dcT _ _ _, h => by rw [D.py] at h; cases h
  | _, _, _, .ins _ _ _ _, h => by rw [D.py] at h; cases h
  | _, _, _, .cel _, h => by rw [D.py] at h; cases h
  | _, _, _, .fn _, h => by rw [D.py] at h; cases h
  | _, _, _, .ty _, h => by rw [D.py] at h; cases h
  | _, _, _, .xob _ _ _ _ _, h => by rw [D.py] at h; cases h
  | _, _, _, .xob0 _ _, h => by rw [D.py] at h; cases h
  | _, _, _, .xok _ _ _ _ _, h => by rw [D.py] at h; cases h
  | _, _, _, .xok0 _ _, h => by rw [D.py] at h; cases h
  | _, _, _, .tun q _ hs, h => by rw [D.py] at h; obtain ⟨ps, h1, rfl⟩ := map_some h; exact .tup (sqT_mo e (sqT_fz q)) (RpA.da e hs h1)
theorem RpA.da {G : Gi} {F H : Hp} {al : List Addr} (e : ∀ a o, F a = some o → H a = some o) : ∀ {vs : List V} {ds : List D} {ps : List PyData}, RpA G F al vs ds → D.pyA true ds = some ps → DaAll G.K H vs ps
  | _, _, _, .nil, h => by cases h; exact .nil
  | _, _, _, .cons q hs, h => by
    rw [D.pyA] at h
    obtain ⟨y, h1, h⟩ := bind_some h
    obtain ⟨ys, h2, rfl⟩ := map_some h
    exact .cons (Rp.da e q h1) (RpA.da e hs h2)
end
mutual
theorem Rp.dp {G : Gi} {F H : Hp} {al : List Addr} (e : ∀ a o, F a = some o → H a = some o) : ∀ {v : V} {d : D} {p : PyData}, Rp G F al v d → d.py false = some p → Dp G.K H v p
  | _, _, _, .non, h => by cases h; exact .non
  | _, _, _, .bl b, h => by cases h; exact .bl b
  | _, _, _, .int i, h => by cases h; exact .int i
  | _, _, _, .str x, h => by cases h; exact .str x
  | _, _, _, .tup q hs, h => by rw [D.py] at h; obtain ⟨ps, h1, rfl⟩ := map_some h; exact .tup (.inl (.inl (e _ _ q))) (RpA.dp e hs h1)
  | _, _, _, .tuk q hs, h => by rw [D.py] at h; obtain ⟨ps, h1, rfl⟩ := map_some h; exact .tup (sqT_mo e q) (RpA.dp e hs h1)
  | _, _, _, .lst q hs, h => by rw [D.py] at h; obtain ⟨ps, h1, rfl⟩ := map_some h; exact .lst (.inl (.inl (e _ _ q))) (RpA.dp e hs h1)
  | _, _, _, .lsk q hs, h => by rw [D.py] at h; obtain ⟨ps, h1, rfl⟩ := map_some h; exact .lst (sqL_mo e q) (RpA.dp e hs h1)
  | _, _, _, .dcK _ _ _, h => by rw [D.py, if_neg (by decide)] at h; cases h
  | _, _, _, .dcT _ _ _, h => by rw [D.py] at h; cases h
  | _, _, _, .ins _ _ _ _, h => by rw [D.py] at h; cases h
  | _, _, _, .cel _, h => by rw [D.py] at h; cases h
  | _, _, _, .fn _, h => by rw [D.py] at h; cases h
  | _, _, _, .ty _, h => by rw [D.py] at h; cases h
  | _, _, _, .xob _ _ _ _ _, h => by rw [D.py] at h; cases h
  | _, _, _, .xob0 _ _, h => by rw [D.py] at h; cases h
  | _, _, _, .xok _ _ _ _ _, h => by rw [D.py] at h; cases h
  | _, _, _, .xok0 _ _, h => by rw [D.py] at h; cases h
  | _, _, _, .tun q _ hs, h => by rw [D.py] at h; obtain ⟨ps, h1, rfl⟩ := map_some h; exact .tup (sqT_mo e (sqT_fz q)) (RpA.dp e hs h1)
theorem RpA.dp {G : Gi} {F H : Hp} {al : List Addr} (e : ∀ a o, F a = some o → H a = some o) : ∀ {vs : List V} {ds : List D} {ps : List PyData}, RpA G F al vs ds → D.pyA false ds = some ps → DpAll G.K H vs ps
  | _, _, _, .nil, h => by cases h; exact .nil
  | _, _, _, .cons q hs, h => by
    rw [D.pyA] at h
    obtain ⟨y, h1, h⟩ := bind_some h
    obtain ⟨ys, h2, rfl⟩ := map_some h
    exact .cons (Rp.dp e q h1) (RpA.dp e hs h2)
end
theorem pyK_own {b : Bool} {kvs : List (Key × V)} {os : List (D × O)} {l : List (PyData × PyData)} (h : D.pyK b (O.toDk os) = some l) (e : os.map (·.1) = kvs.map (fun p => kD p.1)) :
    ∃ ps, D.pyA b ((os.map (·.2)).map O.toD) = some ps ∧ l = (kvs.map fun p => keyD p.1).zip ps := by
  rw [toDk_map] at h
  have := pyK_zip (kvs := kvs) h (by rw [List.map_map]; exact e)
  rw [List.map_map] at this ⊢
  exact this
mutual
theorem own_da {G : Gi} {F H : Hp} {al : List Addr} (e : ∀ a o, F a = some o → H a = some o) : ∀ {o : O} {v : V} {fp : List Addr} {p : PyData}, OwnT G F al H o v fp → o.toD.py true = some p → Da G.K H v p
  | _, _, _, _, .fz t, h => by rw [O.toD] at h; exact t.da e h
  | _, _, _, _, .lst t hs, h => by rw [O.toD, D.py] at h; obtain ⟨ps, h1, rfl⟩ := map_some h; exact .lst (.inl (.inl t)) (hs.da e h1)
  | _, _, _, _, .dcK t k hs, h => by
    rw [O.toD, D.py, if_pos rfl] at h
    obtain ⟨ps, h1, rfl⟩ := map_some h
    obtain ⟨ps2, h2, rfl⟩ := pyK_zip h1 k
    exact .dct (.inl t) (hs.da e h2)
  | _, _, _, _, .dcT t k hs, h => by rw [O.toD, D.py] at h; cases h
  | _, _, _, _, .ins t q n hs, h => by rw [O.toD, D.py] at h; cases h
  | _, _, _, _, .dcoK t q hs, h => by
    rw [O.toD, D.py, if_pos rfl] at h
    obtain ⟨ps, h1, rfl⟩ := map_some h
    obtain ⟨ps2, h2, rfl⟩ := pyK_own h1 q
    exact .dct (.inl t) (ownA_da e hs h2)
  | _, _, _, _, .dcoT t q hs, h => by rw [O.toD, D.py] at h; cases h
theorem ownA_da {G : Gi} {F H : Hp} {al : List Addr} (e : ∀ a o, F a = some o → H a = some o) : ∀ {os : List O} {vs : List V} {fp : List Addr} {ps : List PyData}, OwnA G F al H os vs fp →
    D.pyA true (os.map O.toD) = some ps → DaAll G.K H vs ps
  | _, _, _, _, .nil, h => by cases h; exact .nil
  | _, _, _, _, .cons q hs, h => by
    rw [List.map_cons, D.pyA] at h
    obtain ⟨y, h1, h⟩ := bind_some h
    obtain ⟨ys, h2, rfl⟩ := map_some h
    exact .cons (own_da e q h1) (ownA_da e hs h2)
end
section
variable {G : Gi} {st : S} {σ : L2.St} {c : Cf} {v : V} {o : O} {fp : List Addr}
theorem own_dp {p : PyData} (r : Rel G st σ c) (t : OwnT G c.F c.al c.H o v fp) (h : o.toD.py false = some p) : Dp G.K c.H v p := by
  cases t with
  | fz t => rw [O.toD] at h; exact t.dp r.sub h
  | lst t hs => rw [O.toD, D.py] at h; obtain ⟨ps, h1, rfl⟩ := map_some h; exact .lst (.inl (.inl t)) (hs.dp r.sub h1)
  | dcK t k hs => rw [O.toD, D.py, if_neg (by decide)] at h; cases h
  | dcT t k hs => rw [O.toD, D.py] at h; cases h
  | ins t q n hs => rw [O.toD, D.py] at h; cases h
  | dcoK t q hs => rw [O.toD, D.py, if_neg (by decide)] at h; cases h
  | dcoT t q hs => rw [O.toD, D.py] at h; cases h
/-! ### ends of rules -/
theorem fin {d : D} {Q : VK} (r : Rel G st σ c) (h : Rp G c.F c.al v d) (q : ∀ v c', Rel G st σ c' → GoE c c' → PrO G (.fz d) c c' v → Q v c'.H) : Q v c.H :=
  q v c r (GoE.refl r) (prO_fz h)
theorem finL {vs : List V} {ds : List D} {Q : VK} (r : Rel G st σ c) (h : RpA G c.F c.al vs ds) (q : ∀ v c', Rel G st σ c' → GoE c c' → PrO G (.lst ds) c c' v → Q v c'.H) :
    ∀ p, c.H p = none → Q (.ref p) (upd c.H p (.lst vs)) := fun p hp => by
  obtain ⟨c', e, r', g', p'⟩ := new_ow (G := G) (o := .lst vs) (t := .lst ds) r hp (.lst upd_same h)
  rw [← e]; exact q _ c' r' g' p'
theorem finT {vs : List V} {ds : List D} {Q : VK} (r : Rel G st σ c) (h : RpA G c.F c.al vs ds) (q : ∀ v c', Rel G st σ c' → GoE c c' → PrO G (.fz (.tup ds)) c c' v → Q v c'.H) :
    ∀ p, c.H p = none → Q (.ref p) (upd c.H p (.tup vs)) := fun p hp => by
  obtain ⟨c', e, r', g', p'⟩ := new_fz (G := G) (o := .tup vs) (d := .tup ds) r hp (.tup frzF_same (h.mo (mo_new r hp)))
  rw [← e]; exact q _ c' r' g' p'
end
/-! ### arithmetic -/
def addD (x y : D) : Option O := match x, y with
  | .int i, .int j => some (.fz (.int (i + j)))
  | .str a, .str b => if a.length + b.length ≤ 16777216 then some (.fz (.str (a ++ b))) else none
  | .lst xs, .lst ys => if xs.length + ys.length ≤ 16777216 then some (.lst (xs ++ ys)) else none
  | .tup xs, .tup ys => if xs.length + ys.length ≤ 16777216 then some (.fz (.tup (xs ++ ys))) else none
  | _, _ => none
def rAddA (K : PySem.W.Frag) : R2 := fun a b H Q =>
  rI0 (fun i j => .int (i + j)) a b H Q ∨ (∃ i j, a = .str i ∧ b = .str j ∧ i.length + j.length ≤ sizeLine ∧ Q (.str (i ++ j)) H) ∨
  rCat a b H Q ∨ rCatA K a b H Q
theorem op_addA {X : Cx} {K : PySem.W.Frag} (hK : X.K = K) : OpR X (binaryOp .Add) (rAddA K) := by
  subst hK
  intro pins s σ H a b v u Q I ra rb h
  rcases h with h | h | h | h
  · exact op_add pins s σ H a b v u Q I ra rb h
  · exact op_add_str pins s σ H a b v u Q I ra rb h
  · exact op_cat pins s σ H a b v u Q I ra rb h
  · exact op_catA pins s σ H a b v u Q I ra rb h
theorem d_add {G : Gi} : OpD G (rAddA G.K) addD := by
  intro st σ c x y ox oy fx fy o Q r tx ty e q
  have vx := own_view r tx
  have vy := own_view r ty
  generalize ox.toD = dx at *
  generalize oy.toD = dy at *
  unfold addD at e
  split at e
  · cases e
    obtain rfl : x = _ := vx
    obtain rfl : y = _ := vy
    exact .inl ⟨_, _, rfl, rfl, fin r (.int _) q⟩
  · split at e
    · rename_i hl
      cases e
      obtain rfl : x = _ := vx
      obtain rfl : y = _ := vy
      exact .inr (.inl ⟨_, _, rfl, rfl, by rw [szl]; exact hl, fin r (.str _) q⟩)
    · cases e
  · split at e
    · rename_i hl
      cases e
      obtain ⟨a, xs, rfl, hx, rx⟩ := vx
      obtain ⟨b, ys, rfl, hy, ry⟩ := vy
      exact .inr (.inr (.inl ⟨_, _, _, _, rfl, rfl, hx, hy, by rw [rx.len, ry.len, szl]; exact hl, finL r (rx.app ry) q⟩))
    · cases e
  · split at e
    · rename_i hl
      cases e
      obtain ⟨a, xs, rfl, hx, rx, rpx⟩ := vx
      obtain ⟨b, ys, rfl, hy, ry, rpy⟩ := vy
      refine .inr (.inr (.inr ⟨_, _, _, _, rfl, rfl, hx, hy, by rw [rx.len, ry.len, szl]; exact hl, fun h => ?_, fun _ h => ?_, fun _ _ => finT r (rx.app ry) q⟩))
      · subst h
        cases rx
        exact fin r rpy (by simpa using q)
      · subst h
        cases ry
        exact fin r rpx (by simpa using q)
    · cases e
  · cases e
/-- two ints -/
def iiD (C : Int → Int → Bool) (g : Int → Int → D) (x y : D) : Option O := match x, y with
  | .int i, .int j => if C i j = true then some (.fz (g i j)) else none
  | _, _ => none
theorem d_ii {G : Gi} {C : Int → Int → Bool} {C' : Int → Int → Prop} {g : Int → Int → D} {g' : Int → Int → V} (hC : ∀ i j, C i j = true → C' i j) (hg : ∀ i j F al, Rp G F al (g' i j) (g i j)) :
    OpD G (rI C' g') (iiD C g) := by
  intro st σ c x y ox oy fx fy o Q r tx ty e q
  have vx := own_view r tx
  have vy := own_view r ty
  generalize ox.toD = dx at *
  generalize oy.toD = dy at *
  unfold iiD at e
  split at e
  · split at e
    · rename_i hc
      cases e
      obtain rfl : x = _ := vx
      obtain rfl : y = _ := vy
      exact ⟨_, _, rfl, rfl, hC _ _ hc, fin r (hg _ _ _ _) q⟩
    · cases e
  · cases e
def ii0 (g : Int → Int → D) (x y : D) : Option O := match x, y with
  | .int i, .int j => some (.fz (g i j))
  | _, _ => none
theorem d_ii0 {G : Gi} {g : Int → Int → D} {g' : Int → Int → V} (hg : ∀ i j F al, Rp G F al (g' i j) (g i j)) : OpD G (rI0 g') (ii0 g) := by
  intro st σ c x y ox oy fx fy o Q r tx ty e q
  have vx := own_view r tx
  have vy := own_view r ty
  generalize ox.toD = dx at *
  generalize oy.toD = dy at *
  unfold ii0 at e
  split at e
  · cases e
    obtain rfl : x = _ := vx
    obtain rfl : y = _ := vy
    exact ⟨_, _, rfl, rfl, fin r (hg _ _ _ _) q⟩
  · cases e
def subD : D → D → Option O := ii0 fun i j => .int (i - j)
def ltD : D → D → Option O := ii0 fun i j => .bl (decide (i < j))
def leD : D → D → Option O := ii0 fun i j => .bl (decide (i ≤ j))
def gtD : D → D → Option O := ii0 fun i j => .bl (decide (j < i))
def geD : D → D → Option O := ii0 fun i j => .bl (decide (j ≤ i))
def divD : D → D → Option O := iiD (fun _ j => decide (0 < j) && decide (j < 1073741824)) fun i j => .int (i / j)
def modD : D → D → Option O := iiD (fun _ j => decide (0 < j)) fun i j => .int (i % j)
def powD : D → D → Option O := iiD (fun i j => decide (0 ≤ j) && decide (j ≤ 1000000) && decide (i.natAbs < 2 ^ 64)) fun i j => .int (i ^ j.toNat)
section
variable {G : Gi}
theorem d_sub : OpD G (rI0 fun i j => .int (i - j)) subD := d_ii0 fun _ _ _ _ => .int _
theorem d_lt : OpD G (rI0 fun i j => .bl (decide (i < j))) ltD := d_ii0 fun _ _ _ _ => .bl _
theorem d_le : OpD G (rI0 fun i j => .bl (decide (i ≤ j))) leD := d_ii0 fun _ _ _ _ => .bl _
theorem d_gt : OpD G (rI0 fun i j => .bl (decide (j < i))) gtD := d_ii0 fun _ _ _ _ => .bl _
theorem d_ge : OpD G (rI0 fun i j => .bl (decide (j ≤ i))) geD := d_ii0 fun _ _ _ _ => .bl _
theorem d_div : OpD G (rI CDiv fun i j => .int (i / j)) divD := d_ii (fun i j h => by simp at h; exact h) fun _ _ _ _ => .int _
theorem d_mod : OpD G (rI (fun _ j => 0 < j) fun i j => .int (i % j)) modD := d_ii (fun i j h => by simpa using h) fun _ _ _ _ => .int _
theorem d_pow : OpD G (rI CPow fun i j => .int (i ^ j.toNat)) powD := d_ii (fun i j h => by simp at h; exact ⟨h.1.1, h.1.2, h.2⟩) fun _ _ _ _ => .int _
end
/-- * : ints; a text, a list so often -/
def mulOkB (i j : Int) : Bool := (decide (-(2 ^ 64) < i) && decide (i < 2 ^ 64)) || (decide (-(2 ^ 64) < j) && decide (j < 2 ^ 64)) || decide (i.natAbs.log2 + j.natAbs.log2 < 1000000)
def mulD (x y : D) : Option O := match x, y with
  | .int i, .int j => if mulOkB i j = true then some (.fz (.int (i * j))) else none
  | .str a, .int n => if 0 ≤ n ∧ n ≤ 100000 ∧ a.length ≤ 100 then some (.fz (.str (Txt.mul a n))) else none
  | .lst xs, .int n => if 0 ≤ n ∧ n ≤ 10000 ∧ xs.length ≤ 1000 then some (.lst (List.replicate n.toNat xs).flatten) else none
  | _, _ => none
theorem mulOk_small {a : Str} {n : Int} (h0 : 0 ≤ n) (h1 : n ≤ 100000) (h2 : a.length ≤ 100) : MulOk a n := by
  refine ⟨by simp; omega, fun z1 z2 => ?_, fun z1 z2 => ?_⟩
  · have : (100 : Int) ≤ (2 ^ 63 - 1) / n := Int.le_ediv_of_mul_le (by omega) (by omega)
    omega
  · have : a.length * n.toNat ≤ 100 * 100000 := Nat.mul_le_mul h2 (by omega)
    unfold PySem.Builtin.Str.tooLong
    rw [sizeLine_eq]
    simp
    omega
theorem RpA.rep {G : Gi} {F : Hp} {al : List Addr} {vs : List V} {ds : List D} (h : RpA G F al vs ds) : ∀ n : Nat, RpA G F al (List.replicate n vs).flatten (List.replicate n ds).flatten
  | 0 => .nil
  | n + 1 => by rw [List.replicate_succ, List.replicate_succ, List.flatten_cons, List.flatten_cons]; exact h.app (RpA.rep h n)
theorem d_mul {G : Gi} : OpD G rMulM mulD := by
  intro st σ c x y ox oy fx fy o Q r tx ty e q
  have vx := own_view r tx
  have vy := own_view r ty
  generalize ox.toD = dx at *
  generalize oy.toD = dy at *
  unfold mulD at e
  split at e
  · split at e
    · rename_i hc
      cases e
      obtain rfl : x = _ := vx
      obtain rfl : y = _ := vy
      refine .inl ⟨_, _, rfl, rfl, ?_, fin r (.int _) q⟩
      unfold mulOkB at hc
      simp only [Bool.or_eq_true, Bool.and_eq_true, decide_eq_true_eq] at hc
      rcases hc with (h | h) | h
      · exact .inl (.inl h)
      · exact .inl (.inr h)
      · exact .inr h
    · cases e
  · split at e
    · rename_i hc
      cases e
      obtain rfl : x = _ := vx
      obtain rfl : y = _ := vy
      exact .inr (.inl ⟨_, _, rfl, rfl, mulOk_small hc.1 hc.2.1 hc.2.2, fin r (.str _) q⟩)
    · cases e
  · split at e
    · rename_i hc
      cases e
      obtain ⟨a, xs, rfl, hx, rx⟩ := vx
      obtain rfl : y = _ := vy
      refine .inr (.inr ⟨_, _, _, rfl, rfl, hx, by omega, by omega, ?_, finL r (rx.rep _) q⟩)
      have h1 := rx.len
      refine Nat.le_trans (Nat.mul_le_mul (show xs.length ≤ 1000 by omega) (show _ ≤ 10000 by omega)) ?_
      rw [szl]; decide
    · cases e
  · cases e
def negD : D → Option O
  | .int i => some (.fz (.int (-i)))
  | _ => none
/-! ### equal or not, None or not -/
/-- plain values: compared by themselves -/
def plainEq : D → D → Option Bool
  | .int i, .int j => some (decide (i = j))
  | .str a, .str b => some (decide (a = b))
  | .bl a, .bl b => some (decide (a = b))
  | .non, .non => some true
  | .non, .int _ => some false
  | .int _, .non => some false
  | .non, .str _ => some false
  | .str _, .non => some false
  | .str _, .int _ => some false
  | .int _, .str _ => some false
  | x, y => match D.py false x, D.py false y with
    | some p, some q => if SeqAt.shaped p = true ∧ SeqAt.shaped q = true then some (PyData.eqv p q) else none
    | _, _ => none
def eqD (x y : D) : Option O := (plainEq x y).map fun b => .fz (.bl b)
def neD (x y : D) : Option O := (plainEq x y).map fun b => .fz (.bl (!b))
theorem plain_ok {G : Gi} {st : S} {σ : L2.St} {c : Cf} {x y : V} {ox oy : O} {fx fy : List Addr} {b : Bool} (r : Rel G st σ c) (tx : OwnT G c.F c.al c.H ox x fx) (ty : OwnT G c.F c.al c.H oy y fy)
    (e : plainEq ox.toD oy.toD = some b) : (scal x y = true ∧ b = decide (x = y)) ∨ ∃ d e, Dp G.K c.H x d ∧ Dp G.K c.H y e ∧ SeqAt.shaped d = true ∧ SeqAt.shaped e = true ∧ b = PyData.eqv d e := by
  have vx := own_view r tx
  have vy := own_view r ty
  have dx := fun p h => own_dp (p := p) r tx h
  have dy := fun p h => own_dp (p := p) r ty h
  generalize ox.toD = tdx at *
  generalize oy.toD = tdy at *
  unfold plainEq at e
  split at e
  · cases e; obtain rfl : x = _ := vx; obtain rfl : y = _ := vy; exact .inl ⟨rfl, by simp⟩
  · cases e; obtain rfl : x = _ := vx; obtain rfl : y = _ := vy; exact .inl ⟨rfl, by simp⟩
  · cases e; obtain rfl : x = _ := vx; obtain rfl : y = _ := vy; exact .inl ⟨rfl, by simp⟩
  · cases e; obtain rfl : x = _ := vx; obtain rfl : y = _ := vy; exact .inl ⟨rfl, by simp⟩
  · cases e; obtain rfl : x = _ := vx; obtain rfl : y = _ := vy; exact .inl ⟨rfl, by simp⟩
  · cases e; obtain rfl : x = _ := vx; obtain rfl : y = _ := vy; exact .inl ⟨rfl, by simp⟩
  · cases e; obtain rfl : x = _ := vx; obtain rfl : y = _ := vy; exact .inl ⟨rfl, by simp⟩
  · cases e; obtain rfl : x = _ := vx; obtain rfl : y = _ := vy; exact .inl ⟨rfl, by simp⟩
  · cases e; obtain rfl : x = _ := vx; obtain rfl : y = _ := vy; exact .inl ⟨rfl, by simp⟩
  · cases e; obtain rfl : x = _ := vx; obtain rfl : y = _ := vy; exact .inl ⟨rfl, by simp⟩
  · split at e
    · rename_i p q h1 h2
      split at e
      · rename_i hs
        cases e
        exact .inr ⟨p, q, dx p h1, dy q h2, hs.1, hs.2, rfl⟩
      · cases e
    · cases e
theorem d_eq {G : Gi} : OpD G (rEqM G.K) eqD := by
  intro st σ c x y ox oy fx fy o Q r tx ty e q
  obtain ⟨b, eb, rfl⟩ := map_some e
  rcases plain_ok r tx ty eb with ⟨h1, h2⟩ | ⟨d, e', h1, h2, h3, h4, h5⟩
  · exact .inl ⟨h1, by rw [← h2]; exact fin r (.bl _) q⟩
  · exact .inr ⟨d, e', h1, h2, h3, h4, by rw [← h5]; exact fin r (.bl _) q⟩
theorem d_ne {G : Gi} : OpD G (rNeM G.K) neD := by
  intro st σ c x y ox oy fx fy o Q r tx ty e q
  obtain ⟨b, eb, rfl⟩ := map_some e
  rcases plain_ok r tx ty eb with ⟨h1, h2⟩ | ⟨d, e', h1, h2, h3, h4, h5⟩
  · exact .inl ⟨h1, by rw [← h2]; exact fin r (.bl _) q⟩
  · exact .inr ⟨d, e', h1, h2, h3, h4, by rw [← h5]; exact fin r (.bl _) q⟩
def isNon : D → Bool
  | .non => true
  | _ => false
theorem view_non {G : Gi} {c : Cf} {x : V} {d : D} (h : Vi G c x d) : decide (x = .non) = isNon d := by
  cases d with
  | non => obtain rfl : x = _ := h; rfl
  | bl b => obtain rfl : x = _ := h; rfl
  | int b => obtain rfl : x = _ := h; rfl
  | str b => obtain rfl : x = _ := h; rfl
  | ty b => obtain rfl : x = _ := h; rfl
  | tup ds => obtain ⟨a, _, rfl, _⟩ := h; rfl
  | tuk ds => obtain ⟨a, _, rfl, _⟩ := h; rfl
  | lst ds => obtain ⟨a, _, rfl, _⟩ := h; rfl
  | lsk ds => obtain ⟨a, _, rfl, _⟩ := h; rfl
  | dct ds => obtain ⟨a, rfl⟩ := h; rfl
  | dcu ds => obtain ⟨a, rfl⟩ := h; rfl
  | ins c fs => obtain ⟨a, rfl⟩ := h; rfl
  | cel n => obtain ⟨a, rfl, _⟩ := h; rfl
  | fn f => obtain ⟨a, rfl, _⟩ := h; rfl
  | xob c fs => obtain ⟨a, rfl⟩ := h; rfl
  | xok c fs => obtain ⟨a, rfl⟩ := h; rfl
  | tun ds => obtain ⟨a, _, rfl, _⟩ := h; rfl
def isD (x y : D) : Option O := if isNon y = true then some (.fz (.bl (isNon x))) else none
def isntD (x y : D) : Option O := if isNon y = true then some (.fz (.bl (!isNon x))) else none
theorem d_is {G : Gi} : OpD G rIsNo isD := by
  intro st σ c x y ox oy fx fy o Q r tx ty e q
  unfold isD at e
  split at e
  · rename_i hy
    cases e
    refine ⟨?_, ?_⟩
    · have := view_non (own_view r ty); rw [hy] at this; exact of_decide_eq_true this
    · rw [view_non (own_view r tx)]; exact fin r (.bl _) q
  · cases e
end L2.Tr
namespace L2.Tr
open PySem PySem.Spec PyProof.Rows L2 L2.Pc
/-! ### statements -/
inductive Fl where
  | nx | bk | ct | rt (o : O)
section
variable (G : Gi) (W : WX)
def xs (c : Cf) : Exc → S → Prop := fun x st' => ∀ σ' v d c', Rel G st' σ' c' → Go c c' → XRp G c' x v d → W v d σ' c'.H
/-- what holds behind a statement -/
def Fw (D : Ends) (c : Cf) (f : Fl) (st' : S) : Prop := match f with
  | .nx => ∀ σ' c', Rel G st' σ' c' → Go c c' → D.nx σ' c'.H
  | .bk => ∀ σ' c', Rel G st' σ' c' → Go c c' → D.bk σ' c'.H
  | .ct => ∀ σ' c', Rel G st' σ' c' → Go c c' → D.ct σ' c'.H
  | .rt o => ∀ v c' fp, Rel G ⟨[], st'.mu⟩ [] c' → Go c c' → OwnT G c'.F c'.al c'.H o v fp → Fresh fp c' → New fp c → D.rt v c'.H
def tS (m : M Fl) : TS := fun D σ H => ∃ c st, c.H = H ∧ Rel G st σ c ∧ wp (m st) (Fw G D c) (xs G W c)
end
theorem _root_.L2.PS.weak {X : Cx} {e : Stmt} {t t' : TS} (h : PS X e t) (k : ∀ D σ H, t' D σ H → t D σ H) : PS X e t' := ⟨fun pins s σ H Q I q => h.run pins s σ H Q I (k _ _ _ q)⟩
theorem _root_.L2.PSs.weak {X : Cx} {e : List Stmt} {t t' : TS} (h : PSs X e t) (k : ∀ D σ H, t' D σ H → t D σ H) : PSs X e t' := ⟨fun pins s σ H Q I q => h.run pins s σ H Q I (k _ _ _ q)⟩
section
variable {X : Cx} {G : Gi} {W : WX} {e : Expr} {st : Stmt} {rest : List Stmt} {m m1 m2 : M Fl} {me : M O} {mt : M Bool} {pos pos' : Pos}
theorem xs.go {c c1 : Cf} (g : Go c c1) {x : Exc} {s : S} (h : xs G W c x s) : xs G W c1 x s := fun σ' v d c' r k q => h σ' v d c' r (g.trans k) q
theorem Fw.go {D : Ends} {c c1 : Cf} (g : Go c c1) {f : Fl} {s : S} (h : Fw G D c f s) : Fw G D c1 f s := by
  cases f with
  | nx => exact fun σ' c' r k => h σ' c' r (g.trans k)
  | bk => exact fun σ' c' r k => h σ' c' r (g.trans k)
  | ct => exact fun σ' c' r k => h σ' c' r (g.trans k)
  | rt o => exact fun v c' fp r k t f n => h v c' fp r (g.trans k) t f (n.go g)
/-- an expression within a statement -/
theorem tS.ex {α β : Type} {Pr : α → Cf → Cf → β → Prop} {D : Ends} {σ : L2.St} {H : Hp} {ma : M α} {f : α → M Fl} (h : tS G W (bnd ma f) D σ H) (R : β → Hp → Prop)
    (k : ∀ a v c c1 st1, Rel G st1 σ c1 → GoE c c1 → Pr a c c1 v → wp (f a st1) (Fw G D c) (xs G W c) → R v c1.H) : tG G W Pr ma σ H R := by
  obtain ⟨c, st, e, r, h⟩ := h
  exact ⟨c, st, e, r, wp_mono (wp_bind.mp h) (fun a st1 q v c1 r1 g p => k a v c c1 st1 r1 g p q) (fun x s q v d c' r' g' x' => q σ v d c' r' g'.toGo x')⟩
theorem tS.at {D : Ends} {σ : L2.St} {c : Cf} {st : S} (r : Rel G st σ c) (h : wp (m st) (Fw G D c) (xs G W c)) : tS G W m D σ c.H := ⟨c, st, rfl, r, h⟩
theorem wpS_go {D : Ends} {c c1 : Cf} (g : Go c c1) {r : R Fl} (h : wp r (Fw G D c) (xs G W c)) : wp r (Fw G D c1) (xs G W c1) := wp_mono h (fun _ _ q => q.go g) (fun _ _ q => q.go g)
def sNil : M Fl := ret .nx
def sSeq (m1 m2 : M Fl) : M Fl := bnd m1 fun f => match f with
  | .nx => m2
  | f => ret f
@[simp] theorem sNil_app (s : S) : sNil s = .ok .nx s := rfl
theorem ss_nil : PSs X [] (tS G W sNil) := (pss_nil (X := X)).weak fun D σ H q => by
  obtain ⟨c, st, rfl, r, h⟩ := q
  exact h σ c r Go.rfl'
theorem seq_t {D : Ends} {σ : L2.St} {H : Hp} (q : tS G W (sSeq m1 m2) D σ H) : tSeq (tS G W m1) (tS G W m2) D σ H := by
  obtain ⟨c, st, rfl, r, h⟩ := q
  refine ⟨c, st, rfl, r, wp_mono (wp_bind.mp h) (fun f st1 q => ?_) (fun _ _ q => q)⟩
  cases f with
  | nx => exact fun σ1 c1 r1 g1 => tS.at r1 (wpS_go g1 q)
  | bk => exact q
  | ct => exact q
  | rt o => exact q
theorem ss_cons (h1 : PS X st (tS G W m1)) (h2 : PSs X rest (tS G W m2)) : PSs X (st :: rest) (tS G W (sSeq m1 m2)) := (pss_cons h1 h2).weak fun _ _ _ q => seq_t q
theorem ss_one (h1 : PS X st (tS G W m1)) : PSs X [st] (tS G W m1) := pss_one h1
def sExpr (me : M O) : M Fl := bnd me fun _ => ret .nx
@[simp] theorem sExpr_app (me : M O) (s : S) : sExpr me s = (me s).bind fun _ => ret .nx := rfl
theorem s_expr (he : PE X e (tO G W me)) (hs : swapsWith e none pos.line X.env = pure false := by rfl) : PS X (.Expr e pos) (tS G W (sExpr me)) := (ps_expr he hs).weak fun D σ H q => by
  show tO G W me σ H fun _ H1 => D.nx σ H1
  refine tS.ex q _ (fun o v c c1 st1 r1 g1 p1 w => ?_)
  exact w σ c1 r1 g1.toGo
def sRet (me : M O) : M Fl := bnd me fun o => ret (.rt o)
@[simp] theorem sRet_app (me : M O) (s : S) : sRet me s = (me s).bind fun o => ret (.rt o) := rfl
/-- the slots dropped -/
theorem Rel.drop {st : S} {σ : L2.St} {c : Cf} (r : Rel G st σ c) : Rel G ⟨[], st.mu⟩ [] { c with fs := [] } :=
  ⟨r.sub, fun a h => r.own a (h.elim (fun h => nomatch h) .inr), List.nodup_nil, r.ndc, (fun a h => nomatch h), .nil, r.cells⟩
theorem Go.drop {c : Cf} : Go c { c with fs := [] } := ⟨Mo.refl _ _, fun _ _ _ _ => rfl, fun a h => h.elim (fun h => nomatch h) (fun h => .inr (.inl h)), fun a h => .inl h⟩
theorem Fresh.drop {c : Cf} {fp : List Addr} (f : Fresh fp c) : Fresh fp { c with fs := [] } := ⟨f.nd, f.nf, (fun a _ h => nomatch h), f.nc⟩
theorem s_ret (he : PE X e (tO G W me)) : PS X (.Return (some e) pos) (tS G W (sRet me)) := (ps_ret he).weak fun D σ H q => by
  show tO G W me σ H D.rt
  refine tS.ex q _ (fun o v c c1 st1 r1 g1 p1 w => ?_)
  obtain ⟨fp, t, f, n⟩ := p1
  exact w v { c1 with fs := [] } fp r1.drop (g1.toGo.trans Go.drop) t f.drop n
def sIf (mt : M Bool) (m1 m2 : M Fl) : M Fl := bnd mt fun b => if b = true then m1 else m2
@[simp] theorem sIf_app (mt : M Bool) (m1 m2 : M Fl) (s : S) : sIf mt m1 m2 s = (mt s).bind fun b => if b = true then m1 else m2 := rfl
theorem s_if {c : Expr} {a b : List Stmt} (hc : PT X c (tTs G W mt)) (ha : PSs X a (tS G W m1)) (hb : PSs X b (tS G W m2)) : PS X (.If c a b pos) (tS G W (sIf mt m1 m2)) := (ps_if hc ha hb).weak fun D σ H q => by
  show tTs G W mt σ H fun b H1 => if b = true then tS G W m1 D σ H1 else tS G W m2 D σ H1
  refine tS.ex q _ (fun o v c c1 st1 r1 g1 p1 w => ?_)
  obtain rfl : v = o := p1
  cases v with
  | true => exact tS.at r1 (wpS_go g1.toGo w)
  | false => exact tS.at r1 (wpS_go g1.toGo w)
/-! ### storing to names -/
theorem slots_len {F H : Hp} {al : List Addr} : ∀ {env : List (Option O)} {σ : L2.St} {fp : List Addr}, Slots G F al H env σ fp → env.length = σ.length
  | _, _, _, .nil => rfl
  | _, _, _, .un h => congrArg (· + 1) (slots_len h)
  | _, _, _, .so _ h => congrArg (· + 1) (slots_len h)
theorem setS_big : ∀ (env : List (Option O)) (i : Nat) (x : Option O), env.length ≤ i → setS env i x = env
  | [], _, _, _ => rfl
  | _ :: _, 0, _, h => absurd h (by simp)
  | a :: l, i + 1, x, h => by rw [setS, setS_big l i x (by simpa using h)]
/-- a slot stored to -/
theorem rel_put {st : S} {σ : L2.St} {c0 c : Cf} {i : Nat} {o : O} {v : V} {fp : List Addr} (r : Rel G st σ c) (t : OwnT G c.F c.al c.H o v fp) (f : Fresh fp c) (g : Go c0 c) (n : New fp c0) :
    ∃ c', c'.H = c.H ∧ Rel G ⟨setS st.env i (some o), st.mu⟩ (σ.set i (some v)) c' ∧ Go c0 c' ∧ c'.F = c.F ∧ c'.al = c.al ∧ (∀ a, a ∉ fp → a ∉ c.fs → a ∉ c'.fs) ∧ c'.fc = c.fc := by
  by_cases hi : i < st.env.length
  · obtain ⟨f1, f2, f3, e, _, q⟩ := slots_put i r.slots
    obtain ⟨n1, n2, n3⟩ := nd_ends (by rw [← e]; exact r.nds)
    have sub : ∀ a, a ∈ f1 ++ f3 → a ∈ c.fs := fun a h => by rw [e]; exact mem_ends h
    have sub' : ∀ a, a ∈ f1 ++ (fp ++ f3) → a ∈ fp ∨ a ∈ f1 ++ f3 := fun a h => by
      rcases List.mem_append.mp h with k | k
      · exact .inr (List.mem_append_left _ k)
      · rcases List.mem_append.mp k with k | k
        · exact .inl k
        · exact .inr (List.mem_append_right _ k)
    refine ⟨{ c with fs := f1 ++ (fp ++ f3) }, rfl, ⟨r.sub, fun a h => ?_, ?_, r.ndc, fun a h => ?_, (q c.F c.H c.al (Mo.refl _ _) fun _ _ => rfl).1 hi o v fp t, r.cells⟩,
      ⟨g.mo, g.fr, fun a h => ?_, g.nF⟩, rfl, rfl, fun a h1 h2 h3 => (sub' a h3).elim h1 (fun z => h2 (sub a z)), rfl⟩
    · rcases h with h | h
      · exact (sub' a h).elim (f.nf a) (fun z => r.own a (.inl (sub a z)))
      · exact r.own a (.inr h)
    · have h1 := List.nodup_append.mp n1
      refine List.nodup_append.mpr ⟨h1.1, List.nodup_append.mpr ⟨f.nd, h1.2.1, fun a ha b hb ab => ?_⟩, fun a ha b hb ab => ?_⟩
      · subst ab; exact f.ns a ha (sub a (List.mem_append_right _ hb))
      · subst ab
        rcases List.mem_append.mp hb with k | k
        · exact f.ns a k (sub a (List.mem_append_left _ ha))
        · exact h1.2.2 a ha a k rfl
    · exact (sub' a h).elim (f.nc a) (fun z => r.dis a (sub a z))
    · rcases h with h | h
      · exact (sub' a h).elim (n a) (fun z => g.fp a (.inl (sub a z)))
      · exact g.fp a (.inr h)
  · have hl := slots_len r.slots
    refine ⟨c, rfl, ?_, g, rfl, rfl, fun _ _ h => h, rfl⟩
    rw [setS_big _ _ _ (by omega), List.set_eq_of_length_le (by omega)]
    exact r
def sAsg (i : Nat) (me : M O) : M Fl := bnd me fun o s => .ok .nx ⟨setS s.env i (some o), s.mu⟩
@[simp] theorem sAsg_app (i : Nat) (me : M O) (s : S) : sAsg i me s = (me s).bind fun o s => .ok .nx ⟨setS s.env i (some o), s.mu⟩ := rfl
theorem asg_t {i : Nat} {D : Ends} {σ : L2.St} {H : Hp} (q : tS G W (sAsg i me) D σ H) : tAsg (tO G W me) (gName i) D σ H := by
  show tO G W me σ H fun v H1 => D.nx (σ.set i (some v)) H1
  refine tS.ex q _ (fun o v c c1 st1 r1 g1 p1 w => ?_)
  obtain ⟨fp, t, f, n⟩ := p1
  obtain ⟨c', e, r', g', _⟩ := rel_put (i := i) r1 t f g1.toGo n
  have w : Fw G D c .nx _ := w
  rw [← e]
  exact w _ c' r' g'
theorem s_asg {i : Nat} {x : Str} {pos' : Pos} (hN : X.N.Nodup) (hi : X.N[i]? = some x) (hx : Loc X.env.scope x) (he : PE X e (tO G W me)) (hs : swapsWith e (some (.Name x pos')) pos.line X.env = pure false := by rfl)
    (hf : X.fn x = true ∨ X.env.scope.names.lookup x = some .local := by first | exact .inl rfl | exact .inr rfl | assumption) : PS X (.Assign [.Name x pos'] e pos) (tS G W (sAsg i me)) :=
  (ps_set hN hi hx he hs hf).weak fun _ _ _ q => asg_t q
/-! ### targets: names, tuples of targets -/
/-- a target's store of a frozen value -/
abbrev MT := D → S → Option S
def gN (i : Nat) : MT := fun d s => some ⟨setS s.env i (some (.fz d)), s.mu⟩
def gsN : List MT → List D → S → Option S
  | [], [], s => some s
  | t :: ts, d :: ds, s => (t d s).bind (gsN ts ds)
  | _, _, _ => none
def seqOf : D → Option (List D)
  | .tup ds => some ds
  | .tuk ds => some ds
  | .tun ds => some ds
  | _ => none
def gT (ts : List MT) : MT := fun d s => (seqOf d).bind fun ds => gsN ts ds s
/-- the reading of a target, over trees -/
def TgOk (G : Gi) (g : TG) (t : MT) : Prop := ∀ (st st' : S) (σ : L2.St) (c : Cf) (v : V) (d : D) (Q : L2.St → Hp → Prop), Rel G st σ c → Rp G c.F c.al v d → t d st = some st' →
  (∀ σ' c', Rel G st' σ' c' → c'.H = c.H → c'.F = c.F → c'.al = c.al → c'.fc = c.fc → (∀ a ∈ c'.fs, a ∈ c.fs) → Q σ' c'.H) → g v σ c.H Q
def TgsOk (G : Gi) (g : TGs) (t : List MT) : Prop := ∀ (st st' : S) (σ : L2.St) (c : Cf) (vs : List V) (ds : List D) (Q : L2.St → Hp → Prop), Rel G st σ c → RpA G c.F c.al vs ds → gsN t ds st = some st' →
  (∀ σ' c', Rel G st' σ' c' → c'.H = c.H → c'.F = c.F → c'.al = c.al → c'.fc = c.fc → (∀ a ∈ c'.fs, a ∈ c.fs) → Q σ' c'.H) → g vs σ c.H Q
theorem tg_name {i : Nat} : TgOk G (gName i) (gN i) := by
  intro st st' σ c v d Q r h e q
  cases e
  obtain ⟨c', e, r', g', eF, eA, hs, hc⟩ := rel_put (i := i) r (.fz h) (Fresh.nil _) (Go.rfl' (c := c)) (New.nil _)
  show Q (σ.set i (some v)) c.H
  rw [← e]
  exact q _ c' r' e eF eA hc (fun a ha => Classical.byContradiction fun z => hs a (fun k => nomatch k) z ha)
theorem tgs_nil : TgsOk G gNil [] := by
  intro st st' σ c vs ds Q r h e q
  cases h with
  | nil => cases e; exact ⟨rfl, q σ c r rfl rfl rfl rfl fun _ h => h⟩
  | cons _ _ => cases e
theorem tgs_cons {g : TG} {gs : TGs} {t : MT} {ts : List MT} (h1 : TgOk G g t) (h2 : TgsOk G gs ts) : TgsOk G (gCons g gs) (t :: ts) := by
  intro st st' σ c vs ds Q r h e q
  cases h with
  | nil => cases e
  | @cons v vs d ds h hs =>
    obtain ⟨s1, e1, e2⟩ := bind_some (show (t d st).bind (gsN ts ds) = some st' from e)
    refine ⟨v, vs, rfl, h1 st s1 σ c v d _ r h e1 (fun σ1 c1 r1 k1 k2 k3 k4 k5 => ?_)⟩
    refine h2 s1 st' σ1 c1 vs ds Q r1 (by rw [k2, k3]; exact hs) e2 (fun σ' c' r' j1 j2 j3 j4 j5 => ?_)
    exact q σ' c' r' (j1.trans k1) (j2.trans k2) (j3.trans k3) (j4.trans k4) (fun a ha => k5 a (j5 a ha))
theorem tg_tup {gs : TGs} {ts : List MT} {n : Nat} (h : TgsOk G gs ts) (hn : ts.length = n) : TgOk G (gTup G.K n gs) (gT ts) := by
  intro st st' σ c v d Q r hv e q
  obtain ⟨ds, e1, e2⟩ := bind_some e
  have len : ∀ (ts : List MT) (ds : List D) (s s' : S), gsN ts ds s = some s' → ts.length = ds.length := by
    intro ts
    induction ts with
    | nil => intro ds s s' h; cases ds with
      | nil => rfl
      | cons _ _ => cases h
    | cons t ts ih => intro ds s s' h; cases ds with
      | nil => cases h
      | cons d ds =>
        obtain ⟨s1, _, h2⟩ := bind_some (show (t d s).bind (gsN ts ds) = some s' from h)
        rw [List.length_cons, List.length_cons, ih ds s1 s' h2]
  have hl := len _ _ _ _ e2
  have vv := rp_view r hv
  cases d with
  | tup ds' =>
    cases e1
    obtain ⟨a, xs, rfl, hx, rx, _⟩ := vv
    exact ⟨a, xs, rfl, hx, by rw [rx.len]; omega, h st st' σ c xs _ Q r rx e2 q⟩
  | tuk ds' =>
    cases e1
    obtain ⟨a, xs, rfl, hx, rx⟩ := vv
    exact ⟨a, xs, rfl, hx, by rw [rx.len]; omega, h st st' σ c xs _ Q r rx e2 q⟩
  | tun ds' =>
    cases e1
    obtain ⟨a, xs, rfl, hx, rx, _⟩ := vv
    exact ⟨a, xs, rfl, hx, by rw [rx.len]; omega, h st st' σ c xs _ Q r rx e2 q⟩
  | _ => cases e1
def sAsgT (t : MT) (me : M D) : M Fl := bnd me fun d s => match t d s with
  | some s' => .ok .nx s'
  | none => .no
@[simp] theorem sAsgT_app (t : MT) (me : M D) (s : S) : sAsgT t me s = (me s).bind fun d s => match t d s with
  | some s' => .ok .nx s'
  | none => .no := rfl
theorem go_tg {c c' : Cf} (k1 : c'.H = c.H) (k2 : c'.F = c.F) (k3 : c'.al = c.al) (k4 : c'.fc = c.fc) (k5 : ∀ a ∈ c'.fs, a ∈ c.fs) : Go c c' :=
  ⟨.of (fun a o h => by rw [k2]; exact h) (fun n a h => by rw [k3]; exact h), fun a _ _ _ => by rw [k1], fun a h => h.elim (fun h => .inl (k5 a h)) (fun h => .inr (.inl (by rw [← k4]; exact h))), fun a h => .inl (by rw [← k2]; exact h)⟩
theorem asgT_t {g : TG} {t : MT} {md : M D} (hg : TgOk G g t) {D : Ends} {σ : L2.St} {H : Hp} (q : tS G W (sAsgT t md) D σ H) : tAsg (tD G W md) g D σ H := by
  show tD G W md σ H fun v H1 => g v σ H1 D.nx
  refine tS.ex q _ (fun d v c c1 st1 r1 g1 p1 w => ?_)
  cases e : t d st1 with
  | none => rw [e] at w; exact w.elim
  | some s' =>
    rw [e] at w
    have w : Fw G D c .nx s' := w
    exact hg st1 s' σ c1 v d D.nx r1 p1 e (fun σ' c' r' k1 k2 k3 k4 k5 => w σ' c' r' (g1.toGo.trans (go_tg k1 k2 k3 k4 k5)))
theorem s_asgT {tg : Expr} {g : TG} {t : MT} {md : M D} (he : PE X e (tD G W md)) (hg : PG X tg g) (ht : TgOk G g t) (hs : swapsWithSole [tg] e pos.line X.env = pure false := by rfl) (hw : swappedStores [tg] e X.env = pure none := by rfl)
    (h1 : (assignEach [tg] X.env).map (·.2) = [assign tg X.env] := by rfl) : PS X (.Assign [tg] e pos) (tS G W (sAsgT t md)) := (ps_asg he hg hs hw h1).weak fun _ _ _ q => asgT_t ht q
end
end L2.Tr
namespace L2.Tr
open PySem PySem.Spec PyProof.Rows L2 L2.Pc
/-! ### defs -/
abbrev MF := List D → List O → R O
def SpM (G : Gi) (n : Nat) (m : MF) : Sp := fun vs H Q E => ∃ c ds mu, c.H = H ∧ c.fs = [] ∧ Rel G ⟨[], mu⟩ [] c ∧ RpA G c.F c.al vs ds ∧ vs.length = n ∧
  wp (m ds mu) (fun o s' => ∀ v c' fp, Rel G ⟨[], s'.mu⟩ [] c' → Go c c' → OwnT G c'.F c'.al c'.H o v fp → Fresh fp c' → New fp c → Q v c'.H)
    (fun x s' => ∀ v d c', Rel G ⟨[], s'.mu⟩ [] c' → Go c c' → XRp G c' x v d → E v d c'.H)
def env0 (N : Nat) (ds : List D) : List (Option O) := ds.map (fun d => some (.fz d)) ++ List.replicate (N - ds.length) none
/-- a def's body as a function of its arguments -/
def fnM (N : Nat) (body : M Fl) : MF := fun ds mu => match body ⟨env0 N ds, mu⟩ with
  | .ok (.rt o) s => .ok o ⟨[], s.mu⟩
  | .ok .nx s => .ok (.fz .non) ⟨[], s.mu⟩
  | .ok _ _ => .no
  | .exc x s => .exc x ⟨[], s.mu⟩
  | .no => .no
structure FnT (P : Program) (w : World) (G : Gi) (base : Heap) (gb : Bool) (k : Nat) (f : Addr) (fd : FuncData) (ps : List Str) (m : MF) : Prop where
  go : ∀ (A : Around) (outer : List Env) (s : Shared) (H : Hp) (args : Args) (us : List Value)
    (vs : List V) (Q : VK) (E : XK), (gb = true → A.guards = some []) → Room k A → Env0 P w G.K G.mg base A outer s H →
    BindsTo s fd args (ps.zip us) → Vals vs us → SpM G ps.length m vs H Q E →
    codeAny (model P w) A (.call (.ref f) args) (CR (L2.CX P w) outer P w H s Q E) s
section
variable {P : Program} {w : World} {G : Gi} {base : Heap} {gb : Bool} {k j : Nat} {f : Addr} {fd : FuncData} {N ps : List Str} {m m' : MF}
theorem FnT.mono (F : FnT P w G base gb j f fd ps m) (h : j ≤ k) : FnT P w G base gb k f fd ps m :=
  ⟨fun A o s H a us vs Q E g r => F.go A o s H a us vs Q E g (r.mono h)⟩
theorem slots_start {c : Cf} : ∀ {vs : List V} {ds : List D} (n : Nat), RpA G c.F c.al vs ds → Slots G c.F c.al c.H (ds.map (fun d => some (.fz d)) ++ List.replicate n none) (vs.map some ++ List.replicate n none) []
  | _, _, 0, .nil => .nil
  | _, _, n + 1, .nil => by rw [List.replicate_succ, List.replicate_succ]; exact .un (slots_start (vs := []) (ds := []) n .nil)
  | _, _, n, .cons h hs => .so (fp := []) (fq := []) (.fz h) (slots_start n hs)
/-- the def's body, as a term of rules -/
theorem Df.okT {x qual : Str} {st : Stmt} {body : M Fl} (F : Df G.K x qual st f fd) (S : FnScope N ps (defScope st))
    (hb : ∀ (cdv : Value) (A : Around) (outer : List Env) (s : Shared) (H : Hp) (E : XK),
      (gb = true → (A.deeper (envOfC qual (defScope st) s.heap.objs.size f cdv)).guards = some []) →
      Room k (A.deeper (envOfC qual (defScope st) s.heap.objs.size f cdv)) →
      PSs (cxOf (L2.CX P w) P w G.K G.mg base N qual (defScope st) f cdv A outer s H E) (defBody st) (tS G (fun v d _ H => E v d H) body)) :
    FnT P w G base gb (k + 1) f fd ps (fnM N.length body) := by
  obtain ⟨oc, od, dV, kV, doc, pm, an, cdv, ct, osl, rfl, lk, hc⟩ := F.ex
  refine ⟨fun A outer s H args us vs Q E hga hr e0 hbi r hsp => ?_⟩
  obtain ⟨c, ds, mu, rfl, hfs, rl, rp, hlen, h⟩ := hsp
  have kin : G.K.In s.heap := e0.mod.kin.keeps (fun b o e => (e0.bs b o e).1)
  have hlm : s.heap.NoLimit := e0.mod.nolimit.keeps (fun b o e => (e0.bs b o e).1)
  have kinds : ∀ y ∈ ps.zip us, (defScope st).names.lookup y.1 = some .local ∨
      ((defScope st).names.lookup y.1 = some .cell ∧
        ((cellsFrom (s.heap.objs.size + 1) (defScope st).names []).lookup y.1).isSome = true) := by
    rintro ⟨n, v⟩ hy
    rcases S.par n (List.of_mem_zip hy).1 with h1 | h1
    · left; exact h1
    · right; exact ⟨h1, PySem.W.cellsFrom_some _ _ _ (Or.inl h1)⟩
  apply codeAny_call_function hr.depth (kin _ _ lk) rfl S.co S.gen rfl (PySem.W.codeRec_of kin hc) (hbi _ _ _ _ ?_)
  apply wpAny_newFunctionEnv_cells S.kind kinds
  intro env he s1 hx
  subst he
  refine ⟨hlm.keeps hx.toInCall.keep, codeAny_func ?_⟩
  have ht := hb cdv A outer s c.H E (fun z => guards_deep (hga z)) (hr.deeper _)
  have I0 : Inv (cxOf (L2.CX P w) P w G.K G.mg base N qual (defScope st) f cdv A outer s c.H E) [] (start N vs) c.H s1 :=
    inv_start S hr.hd e0 hlen r hx
  have hq : tS G (fun v d _ H => E v d H) body { nx := fun _ H' => Q .non H', rt := Q } (start N vs) c.H := by
    refine ⟨c, ⟨env0 N.length ds, mu⟩, rfl, ⟨rl.sub, rl.own, rl.nds, rl.ndc, rl.dis, ?_, rl.cells⟩, ?_⟩
    · rw [hfs]
      unfold env0 start
      rw [← rp.len]
      exact slots_start _ rp
    · unfold fnM at h
      cases e : body ⟨env0 N.length ds, mu⟩ with
      | no => rw [e] at h; exact h
      | exc x s' =>
        rw [e] at h
        exact fun σ' v d c' r' g' x' => h v d { c' with fs := [] } r'.drop (g'.trans Go.drop) x'
      | ok fl s' =>
        rw [e] at h
        cases fl with
        | rt o => exact fun v c' fp r' g' t f n => h v c' fp r' g' t f n
        | nx => exact fun σ' c' r' g' => h .non { c' with fs := [] } [] r'.drop (g'.trans Go.drop) (.fz .non) (Fresh.nil _) (New.nil _)
        | bk => exact h.elim
        | ct => exact h.elim
  refine wpAny_mono (ht.run [] s1 (start N vs) c.H _ I0 hq) ?_ (fun e s' hs => hs)
  intro fl s' hs
  cases fl with
  | ret u =>
    obtain ⟨v, σ', H', J, rv, q⟩ := hs
    exact ⟨v, H', J.os, J.bare, J.base, J.hok, rv, q⟩
  | next =>
    obtain ⟨σ', H', J, q⟩ := hs
    exact ⟨V.non, H', J.os, J.bare, J.base, J.hok, rfl, q⟩
  | brk => obtain ⟨_, _, _, q⟩ := hs; exact q.elim
  | cont => obtain ⟨_, _, _, q⟩ := hs; exact q.elim
end
/-! ### calls of defs -/
/-- how the written arguments and keywords become the parameters' values -/
structure BdD (K : PySem.W.Frag) (fd : FuncData) (ps : List Str) (n : Nat) (ks : List Str) (gD : List D → List D → List D) : Prop where
  ex : ∃ (g : List Value → List Value → List Value) (gV : List V → List V → List V), KBn K fd ps n ks g gV ∧
    (∀ vs zs, vs.length = n → zs.length = ks.length → (gV vs zs).length = ps.length) ∧
    ∀ (G : Gi) (F : Hp) (al : List Addr) vs zs ds es, RpA G F al vs ds → RpA G F al zs es → vs.length = n → zs.length = ks.length → RpA G F al (gV vs zs) (gD ds es)
structure KnT (P : Program) (w : World) (G : Gi) (base : Heap) (gb : Bool) (x : Str) (k n : Nat) (ks : List Str) (gD : List D → List D → List D) (m : MF) : Prop where
  ex : ∃ (f : Addr) (fd : FuncData) (ps : List Str), FnT P w G base gb k f fd ps m ∧ G.mg x = some (.ref f) ∧ PySem.W.keepIn G.K (.ref f) = true ∧ BdD G.K fd ps n ks gD
/-- a def's function run on trees -/
def runF (m : MF) (ds : List D) : M O := fun s => match m ds s.mu with
  | .ok o s' => .ok o ⟨s.env, s'.mu⟩
  | .exc x s' => .exc x ⟨s.env, s'.mu⟩
  | .no => .no
theorem rel_lift {G : Gi} {st : S} {σ : L2.St} {c c2 : Cf} {mu' : List O} (r : Rel G st σ c) (r2 : Rel G ⟨[], mu'⟩ [] c2) (g : Go { c with fs := [] } c2) :
    Rel G ⟨st.env, mu'⟩ σ { c2 with fs := c.fs } ∧ GoE c { c2 with fs := c.fs } := by
  have there : ∀ a ∈ c.fs, c.H a ≠ none := fun a h => r.there (.inl h)
  have kp : ∀ a ∈ c.fs, c2.H a = c.H a ∧ a ∉ c2.fc := fun a h => by
    obtain ⟨e, _, n⟩ := g.keep (c := { c with fs := [] }) (there a h) (fun z => nomatch z) (r.dis a h)
    exact ⟨e, n⟩
  refine ⟨⟨r2.sub, fun a h => ?_, r.nds, r2.ndc, fun a h => (kp a h).2, r.slots.mo g.mo fun a h => (kp a h).1, r2.cells⟩, ?_⟩
  · rcases h with h | h
    · cases e : c2.F a with
      | none => rfl
      | some o =>
        rcases g.nF a (by rw [e]; exact Option.some_ne_none _) with z | z | z | z
        · exact absurd (r.own a (.inl h)) z
        · cases z
        · exact absurd z (r.dis a h)
        · exact absurd z (r.noNT (.inl h))
    · exact r2.own a (.inr h)
  · exact { mo := g.mo, fr := fun a h h1 h2 => g.fr a h (fun z => nomatch z) h2,
            fp := fun a h => h.elim .inl fun h => (g.fp a (.inr h)).elim (fun z => nomatch z) .inr,
            nF := fun a h => (g.nF a h).elim .inl fun z => z.elim (fun z => nomatch z) fun z => .inr (.inr z),
            hs := fun a h _ => (kp a h).1, sf := fun _ h => h, cf := fun a h k => absurd h (kp a k).2 }
theorem call_t {G : Gi} {W : WX} {m : MF} {st : S} {σ : L2.St} {c : Cf} {vs : List V} {ds : List D} {Q : VK} {n : Nat} (r : Rel G st σ c) (rp : RpA G c.F c.al vs ds) (hn : vs.length = n)
    (h : wp (runF m ds st) (fun o st' => ∀ v c', Rel G st' σ c' → GoE c c' → PrO G o c c' v → Q v c'.H) (xw G W σ c)) : SpM G n m vs c.H Q (WE W σ) := by
  refine ⟨{ c with fs := [] }, ds, st.mu, rfl, rfl, r.drop, rp, hn, ?_⟩
  unfold runF at h
  cases e : m ds st.mu with
  | no => rw [e] at h; exact h
  | exc x s' =>
    rw [e] at h
    intro v d c2 r2 g x2
    obtain ⟨r3, g3⟩ := rel_lift r r2 g
    exact h v d { c2 with fs := c.fs } r3 g3 x2
  | ok o s' =>
    rw [e] at h
    intro v c2 fp r2 g t f nw
    obtain ⟨r3, g3⟩ := rel_lift r r2 g
    refine h v { c2 with fs := c.fs } r3 g3 ⟨fp, t, ⟨f.nd, f.nf, fun a ha hs => ?_, f.nc⟩, fun a ha => ?_⟩
    · rcases nw a ha with z | z | z
      · cases z
      · exact r.dis a hs z
      · exact r.there (.inl hs) z
    · rcases nw a ha with z | z | z
      · cases z
      · exact .inr (.inl z)
      · exact .inr (.inr z)
section
variable {X : Cx} {G : Gi} {W : WX} {gb : Bool} {k n : Nat} {ks : List Str} {gD : List D → List D → List D} {m : MF} {x : Str} {p pos : Pos} {e : Expr} {es : List Expr} {kws : List Keyword} {ma mk : M (List D)}
def xCall (m : MF) (gD : List D → List D → List D) (n k : Nat) (ma mk : M (List D)) : M O := bnd ma fun ds => bnd mk fun es => if ds.length = n ∧ es.length = k then runF m (gD ds es) else fun _ => .no
@[simp] theorem xCall_app (m : MF) (gD : List D → List D → List D) (n k : Nat) (ma mk : M (List D)) (s : S) :
    xCall m gD n k ma mk s = (ma s).bind fun ds s1 => (mk s1).bind fun es => if ds.length = n ∧ es.length = k then runF m (gD ds es) else fun _ => .no := rfl
theorem runT {pins : List (Addr × Obj)} {σ : L2.St} {H : Hp} {s : Shared} {Q : VK} {us ws : List Value} {vs zs : List V}
    {f : Addr} {fd : FuncData} {ps : List Str} {g : List Value → List Value → List Value} {gV : List V → List V → List V} (hK : X.K = G.K) (hM : X.mg = G.mg)
    (F : FnT X.prog X.w G X.base gb k f fd ps m) (hga : gb = true → X.A.guards = some []) (hr : Room k X.A)
    (hb : KBn G.K fd ps n ks g gV) (hx : ∀ σ, PassesAt (L2.CX X.prog X.w) X σ (WE W σ)) (I : Inv X pins σ H s) (r : Vals vs us) (rz : Vals zs ws)
    (hn : vs.length = n) (hm : zs.length = ks.length) (h : SpM G ps.length m (gV vs zs) H Q (WE W σ)) :
    wpAny (model X.prog X.w) X.A (call (.ref f) us (ks.zip ws)) (EP X pins σ Q) X.xe s := by
  have hu : us.length = n := by rw [← r.length]; exact hn
  have hw : ws.length = ks.length := by rw [← rz.length]; exact hm
  apply wpAny_call
  have kin := I.kIn
  rw [hK] at kin
  have env := I.env0
  rw [hK, hM] at env
  refine codeAny_mono (F.go X.A X.stack s H _ (g us ws) (gV vs zs) Q (WE W σ) hga hr env (hb.to s us ws kin hu hw) (hb.rel r rz) h) ?_
  intro res s' hq
  cases res with
  | error er => exact hx σ pins H s er s' I hq
  | ok fl =>
    cases fl with
    | ret u => exact I.after hq
    | next => exact hq.elim
    | brk => exact hq.elim
    | cont => exact hq.elim
/-- the reading of a call -/
theorem call_rd {vs : List V} {ds es' : List D} {zs : List V} {σ : L2.St} {c : Cf} {st : S} {Q : VK} {gV : List V → List V → List V} {ps : List Str}
    (hl : ∀ vs zs, vs.length = n → zs.length = ks.length → (gV vs zs).length = ps.length)
    (hd : ∀ (G : Gi) (F : Hp) (al : List Addr) vs zs ds es, RpA G F al vs ds → RpA G F al zs es → vs.length = n → zs.length = ks.length → RpA G F al (gV vs zs) (gD ds es))
    (r : Rel G st σ c) (r1 : RpA G c.F c.al vs ds) (r2 : RpA G c.F c.al zs es')
    (h : wp ((if ds.length = n ∧ es'.length = ks.length then runF m (gD ds es') else fun _ => .no) st) (fun o st' => ∀ v c', Rel G st' σ c' → GoE c c' → PrO G o c c' v → Q v c'.H) (xw G W σ c)) :
    vs.length = n ∧ zs.length = ks.length ∧ SpM G ps.length m (gV vs zs) c.H Q (WE W σ) := by
  split at h
  · rename_i hc
    have h1 : vs.length = n := by rw [r1.len]; exact hc.1
    have h2 : zs.length = ks.length := by rw [r2.len]; exact hc.2
    exact ⟨h1, h2, call_t r (hd _ _ _ _ _ _ _ r1 r2 h1 h2) (hl _ _ h1 h2) h⟩
  · exact h.elim
theorem x_call (hK : X.K = G.K) (hM : X.mg = G.mg) (F : KnT X.prog X.w G X.base gb x k n ks gD m) (hga : gb = true → X.A.guards = some []) (hr : Room k X.A)
    (hg : Gl X x) (hx : ∀ σ, PassesAt (L2.CX X.prog X.w) X σ (WE W σ)) (ha : PA X (e :: es) (tAs G W ma)) (hkw : PK X kws (tAs G W mk))
    (hall : (backToKw pos (keywordEach kws X.env)).all (·.1.isSome) = true := by rfl)
    (hks : (backToKw pos (keywordEach kws X.env)).filterMap (·.1) = ks := by rfl)
    (hdb : (x == ("__debug__" : Str)) = false := by decide)
    (he : starEach (e :: es) X.env = (false, eval e X.env) :: starEach es X.env := by rfl)
    (hpl : ((backTo pos (starEach (e :: es) X.env)).any (·.1) || (backToKw pos (keywordEach kws X.env)).any (·.1.isNone)) = false := by rfl) :
    PE X (.Call (.Name x p) (e :: es) kws pos) (tO G W (xCall m gD n ks.length ma mk)) := by
  obtain ⟨f, fd, ps, FT, hm, hk, g, gV, hb, hl, hd⟩ := F.ex
  refine ⟨fun pins s σ H Q I q => wpAny_Call_Name_kw (ld_glob I hg (by rw [hM]; exact hm) ?_ hdb)⟩
  apply PySem.W.callWith_KW (h₀ := X.base) I.ok.mod.kin (by rw [hK]; exact hk) hall ?_ hpl he
  refine thn (ha.run pos pins s σ H (fun vs H1 => tAs G W mk σ H1 fun zs H2 => vs.length = n ∧ zs.length = ks.length ∧ SpM G ps.length m (gV vs zs) H2 Q (WE W σ)) I ?_) ?_
  · refine q.seq bkO _ (fun ds vs c c1 st1 r1 g1 p1 w => ?_)
    refine tG.seq1 bkO r1 w _ (fun es' zs c2 st2 r2 g2 p2 w2 => ?_)
    exact call_rd hl hd r2 (p1.mo g2.mo) p2 w2
  · rintro us s1 ⟨vs, H1, I1, r, q⟩
    refine thn (hkw.run pos pins s1 σ H1 _ I1 q) ?_
    rintro ws s2 ⟨zs, H2, I2, rz, q1, q2, q3⟩
    refine ⟨I2.kIn, ?_⟩
    rw [hks]
    exact runT hK hM FT hga hr hb hx I2 r rz q1 q2 q3
end
end L2.Tr
namespace L2.Tr
open PySem PySem.Spec PyProof.Rows L2 L2.Pc
/-! ### what is walked -/
/-- the iterator gives these, whatever the code between does -/
def Srcs (G : Gi) (J : It) (ds : List D) (c0 : Cf) : Prop := ∀ (st : S) (σ : L2.St) (c : Cf), Rel G st σ c → Go c0 c →
  (∀ i d, ds[i]? = some d → J.go i c.H ∧ ∀ x H', J.yld i c.H x H' → ∃ c', c'.H = H' ∧ Rel G st σ c' ∧ GoE c c' ∧ Rp G c'.F c'.al x d) ∧ J.stop ds.length c.H
def PrI (G : Gi) : List D → Cf → Cf → It → Prop := fun ds _ c' J => Srcs G J ds c'
abbrev tI (G : Gi) (W : WX) (mi : M (List D)) : TI := tG G W (PrI G) mi
theorem _root_.L2.PI.weak {X : Cx} {tg e : Expr} {t t' : TI} (h : PI X tg e t) (k : ∀ σ H Q, t' σ H Q → t σ H Q) : PI X tg e t' := ⟨fun pins s σ H Q I q => h.run pins s σ H Q I (k _ _ _ q)⟩
/-- things that may be walked by their places -/
def seqI : D → Option (List D)
  | .lst ds => some ds
  | .lsk ds => some ds
  | .tup ds => some ds
  | .tuk ds => some ds
  | .tun ds => some ds
  | .str s => some (s.cps.toList.map fun c => .str ⟨#[c]⟩)
  | _ => none
def iAny (K : PySem.W.Frag) (te : TE) : TI := fun σ H R => te σ H fun x H1 =>
  (∃ a, x = .ref a ∧ (∃ xs, SqL K H1 a xs) ∧ R (Itl K a) H1) ∨ (∃ a, x = .ref a ∧ (∃ xs, SqT K H1 a xs) ∧ R (Itt K a) H1) ∨ ∃ z, x = .str z ∧ R (Its z) H1
theorem pi_any {X : Cx} {tg l : Expr} {tl : TE} {K : PySem.W.Frag} (hK : X.K = K) (hl : PE X l tl) : PI X tg l (iAny K tl) := by
  subst hK
  refine ⟨fun pins s σ H R I h => ?_⟩
  refine thn (hl.run pins s σ H _ I h) fun v s1 ⟨x, H1, I1, r1, q1⟩ => ?_
  rcases q1 with ⟨a, e, ⟨xs, hq⟩, q⟩ | ⟨a, e, ⟨xs, hq⟩, q⟩ | ⟨z, e, q⟩
  · subst e
    cases r1
    obtain ⟨its, rv, p, hz⟩ := I1.list hq
    refine wpAny_pyIter_list p.isList ?_
    refine ⟨s1.heap.objs.size, [s1.heap.objs.size], _, _, H1, rfl, I1.kept (t' := s1.toks) fun b o e => Heap.get?_push_of_some _ e, turn_list a _, ⟨_, Heap.get?_push_size _ rfl, rfl, rfl⟩, fun b hb => ?_, q⟩
    have e : b = s1.heap.objs.size := by simpa using hb
    subst e
    exact I1.fpOk (Nat.le_refl _) (I1.hok.fresh (Nat.le_refl _))
  · subst e
    cases r1
    obtain ⟨its, rv, p, hz⟩ := I1.tuple hq
    refine wpAny_pyIter_tuple (show s1.heap.IsTuple a its.toArray from p) ?_
    refine ⟨s1.heap.objs.size, [s1.heap.objs.size], _, _, H1, rfl, I1.kept (t' := s1.toks) fun b o e => Heap.get?_push_of_some _ e, turn_tuple a _, ⟨_, Heap.get?_push_size _ rfl, rfl, rfl⟩, fun b hb => ?_, q⟩
    have e : b = s1.heap.objs.size := by simpa using hb
    subst e
    exact I1.fpOk (Nat.le_refl _) (I1.hok.fresh (Nat.le_refl _))
  · subst e
    obtain ⟨t, rfl⟩ := r1
    cases ha : z.cps.all (· < 128)
    · exact wpAny_pyIter_wide ha (pi_one (tk := s1.toks) I1 _ (turn_str _ z t "str_iterator" (.inr rfl)) ⟨_, Heap.get?_push_size _ rfl, rfl, rfl⟩ q)
    · exact wpAny_pyIter_ascii ha (pi_one (tk := s1.toks) I1 _ (turn_str _ z t "str_ascii_iterator" (.inl rfl)) ⟨_, Heap.get?_push_size _ rfl, rfl, rfl⟩ q)
theorem srcs_seq {G : Gi} {st : S} {σ : L2.St} {c : Cf} {v : V} {d : D} {ds : List D} (r : Rel G st σ c) (t : Rp G c.F c.al v d) (e : seqI d = some ds) :
    (∃ a, v = .ref a ∧ (∃ xs, SqL G.K c.H a xs) ∧ Srcs G (Itl G.K a) ds c) ∨ (∃ a, v = .ref a ∧ (∃ xs, SqT G.K c.H a xs) ∧ Srcs G (Itt G.K a) ds c) ∨ ∃ z, v = .str z ∧ Srcs G (Its z) ds c := by
  have lst : ∀ {a : Addr} {xs : List V}, SqL G.K c.F a xs → RpA G c.F c.al xs ds → Srcs G (Itl G.K a) ds c := fun {a xs} h hs st' σ' c2 r2 g2 => by
    have h2 := r2.rdL (sqL_mr g2.mo.mR h)
    refine ⟨fun i d hd => ?_, xs, h2, by rw [hs.len]; exact Nat.le_refl _⟩
    obtain ⟨x, hx, rx⟩ := (hs.mo g2.mo).get hd
    refine ⟨⟨xs, x, h2, hx⟩, fun y H' hy => ?_⟩
    obtain ⟨rfl, hy⟩ := hy
    have := hy xs h2
    rw [hx] at this
    cases this
    exact ⟨c2, rfl, r2, GoE.refl r2, rx⟩
  have tup : ∀ {a : Addr} {xs : List V}, SqT G.K c.F a xs → RpA G c.F c.al xs ds → Srcs G (Itt G.K a) ds c := fun {a xs} h hs st' σ' c2 r2 g2 => by
    have h2 := r2.rdT (sqT_mr g2.mo.mR h)
    refine ⟨fun i d hd => ?_, xs, h2, by rw [hs.len]; exact Nat.le_refl _⟩
    obtain ⟨x, hx, rx⟩ := (hs.mo g2.mo).get hd
    refine ⟨⟨xs, x, h2, hx⟩, fun y H' hy => ?_⟩
    obtain ⟨rfl, hy⟩ := hy
    have := hy xs h2
    rw [hx] at this
    cases this
    exact ⟨c2, rfl, r2, GoE.refl r2, rx⟩
  cases t with
  | lst h hs => cases e; exact .inl ⟨_, rfl, ⟨_, r.rdL (.inl (.inl h))⟩, lst (.inl (.inl h)) hs⟩
  | lsk h hs => cases e; exact .inl ⟨_, rfl, ⟨_, r.rdL h⟩, lst h hs⟩
  | tup h hs => cases e; exact .inr (.inl ⟨_, rfl, ⟨_, r.rdT (.inl (.inl h))⟩, tup (.inl (.inl h)) hs⟩)
  | tuk h hs => cases e; exact .inr (.inl ⟨_, rfl, ⟨_, r.rdT h⟩, tup h hs⟩)
  | tun h k hs => cases e; exact .inr (.inl ⟨_, rfl, ⟨_, r.rdT (sqT_fz h)⟩, tup (sqT_fz h) hs⟩)
  | str s =>
    cases e
    refine .inr (.inr ⟨s, rfl, fun st' σ' c2 r2 g2 => ⟨fun i d hd => ?_, ?_⟩⟩)
    · rw [List.getElem?_map] at hd
      obtain ⟨ch, hc, rfl⟩ := map_some hd
      have hc' : s.cps[i]? = some ch := by rw [← Array.getElem?_toList]; exact hc
      refine ⟨(Array.getElem?_eq_some_iff.mp hc').1, fun y H' hy => ?_⟩
      obtain ⟨rfl, ch', h1, rfl⟩ := hy
      rw [hc'] at h1
      cases h1
      exact ⟨c2, rfl, r2, GoE.refl r2, .str _⟩
    · show s.cps.size ≤ _
      simp
  | _ => cases e
section
variable {X : Cx} {G : Gi} {W : WX} {tg e : Expr} {md : M D} {ma : M (List D)} {p pos : Pos}
def mSeq (md : M D) : M (List D) := bnd md fun d => ofO (seqI d)
@[simp] theorem mSeq_app (md : M D) (s : S) : mSeq md s = (md s).bind fun d => ofO (seqI d) := rfl
theorem xi_any (hK : X.K = G.K) (he : PE X e (tD G W md)) : PI X tg e (tI G W (mSeq md)) := (pi_any hK he).weak fun σ H R q => by
  unfold iAny
  refine q.seq0 _ (fun d v c c1 st1 r1 g1 p1 w => ?_)
  obtain ⟨ds, e1, q⟩ := wp_ofO.mp w
  rcases srcs_seq r1 p1 e1 with ⟨a, rfl, h1, h2⟩ | ⟨a, rfl, h1, h2⟩ | ⟨z, rfl, h2⟩
  · exact .inl ⟨a, rfl, h1, q _ c1 r1 g1 h2⟩
  · exact .inr (.inl ⟨a, rfl, h1, q _ c1 r1 g1 h2⟩)
  · exact .inr (.inr ⟨z, rfl, q _ c1 r1 g1 h2⟩)
/-- range -/
def rngL (i : Int) (n : Nat) : List D := (List.range n).map fun k : Nat => .int (i + (k : Int))
def rng1 : List D → Option (List D)
  | [.int j] => if j < 2 ^ 62 ∧ -(2 ^ 62) ≤ j then some (rngL 0 j.toNat) else none
  | _ => none
def rng2 : List D → Option (List D)
  | [.int i, .int j] => if (-(2 ^ 62) ≤ i ∧ i < 2 ^ 62) ∧ -(2 ^ 62) ≤ j ∧ j < 2 ^ 62 then some (rngL i (j - i).toNat) else none
  | _ => none
theorem srcs_rng {c : Cf} {i : Int} {n : Nat} : Srcs G (Itr i n) (rngL i n) c := fun st σ c2 r2 g2 => by
  refine ⟨fun k d hd => ?_, by unfold rngL; rw [List.length_map, List.length_range]; exact Nat.le_refl _⟩
  unfold rngL at hd
  rw [List.getElem?_map] at hd
  obtain ⟨j, hj, rfl⟩ := map_some hd
  obtain ⟨hk, rfl⟩ : k < n ∧ k = j := by
    have h1 := (List.getElem?_eq_some_iff.mp hj)
    obtain ⟨h1, h2⟩ := h1
    rw [List.length_range] at h1
    rw [List.getElem_range] at h2
    exact ⟨h1, h2⟩
  refine ⟨hk, fun y H' hy => ?_⟩
  obtain ⟨rfl, rfl⟩ := hy
  exact ⟨c2, rfl, r2, GoE.refl r2, .int _⟩
theorem rp_ints1 {F : Hp} {al : List Addr} {vs : List V} {i : Int} (h : RpA G F al vs [.int i]) : vs = [.int i] := by
  cases h with
  | cons h hs => cases h; cases hs; rfl
def mRng1 (ma : M (List D)) : M (List D) := bnd ma fun ds => ofO (rng1 ds)
def mRng2 (ma : M (List D)) : M (List D) := bnd ma fun ds => ofO (rng2 ds)
@[simp] theorem mRng1_app (ma : M (List D)) (s : S) : mRng1 ma s = (ma s).bind fun ds => ofO (rng1 ds) := rfl
@[simp] theorem mRng2_app (ma : M (List D)) (s : S) : mRng2 ma s = (ma s).bind fun ds => ofO (rng2 ds) := rfl
theorem xi_range1 {a : Expr} (hg : Gl X "range") (hm : X.mg "range" = none) (ha : PA X [a] (tAs G W ma)) (hs : starEach [a] X.env = [(false, eval a X.env)] := by rfl) :
    PI X tg (.Call (.Name "range" p) [a] [] pos) (tI G W (mRng1 ma)) := (pi_range1 hg hm ha hs).weak fun σ H R q => by
  unfold iRng1
  refine q.seq0 _ (fun ds vs c c1 st1 r1 g1 p1 w => ?_)
  obtain ⟨l, e1, q⟩ := wp_ofO.mp w
  unfold rng1 at e1
  split at e1
  · split at e1
    · rename_i h
      cases e1
      exact ⟨_, rp_ints1 p1, h.2, h.1, q _ c1 r1 g1 srcs_rng⟩
    · cases e1
  · cases e1
end
/-! ### for -/
def forL (t : MT) (mb : M Fl) : List D → M Fl
  | [] => ret .nx
  | d :: ds => fun s => match t d s with
    | none => .no
    | some s1 => (mb s1).bind fun f => match f with
      | .nx => forL t mb ds
      | .ct => forL t mb ds
      | .bk => ret .nx
      | .rt o => ret (.rt o)
def sFor (mi : M (List D)) (t : MT) (mb : M Fl) : M Fl := bnd mi fun ds => forL t mb ds
@[simp] theorem sFor_app (mi : M (List D)) (t : MT) (mb : M Fl) (s : S) : sFor mi t mb s = (mi s).bind fun ds => forL t mb ds := rfl
section
variable {X : Cx} {G : Gi} {W : WX} {tg iter : Expr} {body : List Stmt} {mi : M (List D)} {t : MT} {mb : M Fl} {g : TG} {pos : Pos}
theorem for_t (ht : TgOk G g t) {D' : Ends} {σ : L2.St} {H : Hp} (q : tS G W (sFor mi t mb) D' σ H) : tFor (tI G W mi) g (tS G W mb) D' σ H := by
  show tI G W mi σ H fun J H1 => ∃ W' : Nat → Nat → L2.St → Hp → Prop, (∃ m, W' 0 m σ H1) ∧ ∀ i m σ H, W' i m σ H →
    (J.stop i H ∧ D'.nx σ H) ∨ (J.go i H ∧ ∃ N : L2.St → Hp → Prop, (∀ σ' H', N σ' H' → ∃ m', m' < m ∧ W' (i + 1) m' σ' H') ∧ ∀ x H', J.yld i H x H' → g x σ H' fun σ2 H2 => tS G W mb { D' with nx := N, ct := N, bk := D'.nx } σ2 H2)
  refine tS.ex q _ (fun ds J c c1 st1 r1 g1 src w => ?_)
  have w := wpS_go g1.toGo w
  refine ⟨fun i m σ' H' => m = ds.length - i ∧ i ≤ ds.length ∧ ∃ c2 st2, c2.H = H' ∧ Rel G st2 σ' c2 ∧ Go c1 c2 ∧ wp (forL t mb (ds.drop i) st2) (Fw G D' c1) (xs G W c1),
    ⟨ds.length, rfl, Nat.zero_le _, c1, st1, rfl, r1, Go.rfl', w⟩, ?_⟩
  rintro i m σ' H' ⟨rfl, hi, c2, st2, rfl, r2, g2, w2⟩
  obtain ⟨s1, s2⟩ := src st2 σ' c2 r2 g2
  rcases Nat.lt_or_ge i ds.length with hl | hl
  · refine .inr ?_
    have hd := List.getElem?_eq_getElem hl
    obtain ⟨go, yl⟩ := s1 i _ hd
    refine ⟨go, fun σ'' H'' => ∃ c3 st3, c3.H = H'' ∧ Rel G st3 σ'' c3 ∧ Go c1 c3 ∧ wp (forL t mb (ds.drop (i + 1)) st3) (Fw G D' c1) (xs G W c1),
      fun σ'' H'' ⟨c3, st3, e, r, g, w⟩ => ⟨ds.length - (i + 1), by omega, rfl, hl, c3, st3, e, r, g, w⟩, fun x H'' hy => ?_⟩
    obtain ⟨c3, rfl, r3, g3, rx⟩ := yl x H'' hy
    rw [List.drop_eq_getElem_cons hl] at w2
    rw [forL] at w2
    dsimp only at w2
    cases e : t ds[i] st2 with
    | none => rw [e] at w2; exact w2.elim
    | some st3 =>
      rw [e] at w2
      refine ht st2 st3 σ' c3 x ds[i] _ r3 rx e (fun σ4 c4 r4 k1 k2 k3 k4 k5 => ?_)
      have g4 : Go c1 c4 := (g2.trans g3.toGo).trans (go_tg k1 k2 k3 k4 k5)
      refine tS.at r4 (wpS_go g4 (wp_mono (wp_bind.mp w2) (fun f st5 w5 => ?_) (fun _ _ h => h)))
      cases f with
      | nx => exact fun σ5 c5 r5 g5 => ⟨c5, st5, rfl, r5, g5, w5⟩
      | ct => exact fun σ5 c5 r5 g5 => ⟨c5, st5, rfl, r5, g5, w5⟩
      | bk => exact w5
      | rt o => exact w5
  · have e : i = ds.length := by omega
    subst e
    refine .inl ⟨s2, ?_⟩
    rw [List.drop_length] at w2
    exact w2 σ' c2 r2 g2
theorem s_for (hp : PassesOwn (model X.prog X.w) X.A X.env X.xe) (hc : X.calm = true) (hi : PI X tg iter (tI G W mi)) (hg : PG X tg g) (ht : TgOk G g t) (hb : PSs X body (tS G W mb))
    (hs : ∀ x, foldedSetIterable iter X.env x = pure x := by intro _; rfl) : PS X (.For tg iter body [] pos) (tS G W (sFor mi t mb)) := (ps_for hp hc hi hg hb hs).weak fun _ _ _ q => for_t ht q
end
/-! ### while, with so many turns at most -/
def whileL (mt : M Bool) (mb : M Fl) : Nat → M Fl
  | 0 => fun _ => .no
  | n + 1 => bnd mt fun b => if b = true then (bnd mb fun f => match f with
      | .nx => whileL mt mb n
      | .ct => whileL mt mb n
      | .bk => ret .nx
      | .rt o => ret (.rt o)) else ret .nx
section
variable {X : Cx} {G : Gi} {W : WX} {cnd : Expr} {body : List Stmt} {mt : M Bool} {mb : M Fl} {pos : Pos} {n : Nat}
theorem while_t {D' : Ends} {σ : L2.St} {H : Hp} (q : tS G W (whileL mt mb n) D' σ H) : tWhile (tTs G W mt) (tS G W mb) D' σ H := by
  obtain ⟨c, st, rfl, r, w⟩ := q
  refine ⟨fun m σ' H' => ∃ c2 st2, c2.H = H' ∧ Rel G st2 σ' c2 ∧ Go c c2 ∧ wp (whileL mt mb m st2) (Fw G D' c) (xs G W c), ⟨n, c, st, rfl, r, Go.rfl', w⟩, ?_⟩
  rintro m σ' H' ⟨c2, st2, rfl, r2, g2, w2⟩
  cases m with
  | zero => exact w2.elim
  | succ m =>
    refine ⟨c2, st2, rfl, r2, wp_mono (wp_bind.mp w2) (fun b st3 w3 v c3 r3 g3 p3 => ?_) (fun x s q v d c' r' g' x' => q σ' v d c' r' (g2.trans g'.toGo) x')⟩
    obtain rfl : v = b := p3
    cases v with
    | false => exact w3 σ' c3 r3 (g2.trans g3.toGo)
    | true =>
      refine ⟨fun σ'' H'' => ∃ c4 st4, c4.H = H'' ∧ Rel G st4 σ'' c4 ∧ Go c c4 ∧ wp (whileL mt mb m st4) (Fw G D' c) (xs G W c), fun σ'' H'' h => ⟨m, Nat.lt_succ_self _, h⟩, ?_⟩
      refine tS.at r3 (wpS_go (g2.trans g3.toGo) (wp_mono (wp_bind.mp w3) (fun f st5 w5 => ?_) (fun _ _ h => h)))
      cases f with
      | nx => exact fun σ5 c5 r5 g5 => ⟨c5, st5, rfl, r5, g5, w5⟩
      | ct => exact fun σ5 c5 r5 g5 => ⟨c5, st5, rfl, r5, g5, w5⟩
      | bk => exact w5
      | rt o => exact w5
theorem s_while (n : Nat) (hp : PassesOwn (model X.prog X.w) X.A X.env X.xe) (hc : PT X cnd (tTs G W mt)) (hb : PSs X body (tS G W mb)) : PS X (.While cnd body [] pos) (tS G W (whileL mt mb n)) :=
  (ps_while hp hc hb).weak fun _ _ _ q => while_t q
end
end L2.Tr
namespace L2.Tr
open PySem PySem.Spec PyProof.Rows L2 L2.Pc
/-! ### list comprehensions -/
/-- the comprehension's own slots forgotten -/
def wipeE (env : List (Option O)) : List Nat → List (Option O)
  | [] => env
  | v :: vs => setS (wipeE env vs) v none
/-- .. put back as they were -/
def backE (old new : List (Option O)) : List Nat → List (Option O)
  | [] => new
  | v :: vs => backE old (setS new v (getS old v)) vs
/-- nothing is owned there -/
def freeE (env : List (Option O)) : List Nat → Bool
  | [] => true
  | v :: vs => (match getS env v with
    | some o => isFz o
    | none => true) && freeE env vs
/-- the turns of a comprehension -/
def lcL (vs : List Nat) (t : MT) (mt : M Bool) (me : M D) : List D → M (List D)
  | [] => ret []
  | d :: ds => fun s => match t d s with
    | none => .no
    | some s1 => (mt s1).bind fun b s2 =>
      if b = true then (me s2).bind (fun y s3 => if freeE s3.env vs = true then (lcL vs t mt me ds ⟨wipeE s3.env vs, s3.mu⟩).bind fun ys => ret (y :: ys) else .no)
      else if freeE s2.env vs = true then lcL vs t mt me ds ⟨wipeE s2.env vs, s2.mu⟩ else .no
def noExc {α : Type} (r : R α) : R α := match r with
  | .exc _ _ => .no
  | r => r
def xLc (vs : List Nat) (mi : M (List D)) (t : MT) (mt : M Bool) (me : M D) : M O := bnd mi fun ds s => if freeE s.env vs = true ∧ ds.length ≤ 16777216 then
  (noExc (lcL vs t mt me ds ⟨wipeE s.env vs, s.mu⟩)).bind fun ys s2 => .ok (.lst ys) ⟨backE s.env s2.env vs, s2.mu⟩ else .no
@[simp] theorem xLc_app (vs : List Nat) (mi : M (List D)) (t : MT) (mt : M Bool) (me : M D) (s : S) : xLc vs mi t mt me s = (mi s).bind fun ds s => if freeE s.env vs = true ∧ ds.length ≤ 16777216 then
  (noExc (lcL vs t mt me ds ⟨wipeE s.env vs, s.mu⟩)).bind fun ys s2 => .ok (.lst ys) ⟨backE s.env s2.env vs, s2.mu⟩ else .no := rfl
def noW : WX := fun _ _ _ _ => False
section
variable {G : Gi}
/-- a slot that owns nothing set to nothing -/
theorem slots_clear {F H : Hp} {al : List Addr} : ∀ {env : List (Option O)} {σ : L2.St} {fp : List Addr} (i : Nat), Slots G F al H env σ fp →
    (match getS env i with
      | some o => isFz o = true
      | none => True) → ∀ x, Slots G F al H (setS env i none) (σ.set i x) fp
  | _, _, _, i, .nil, _, x => by cases i <;> exact .nil
  | _, _, _, 0, .un h, _, x => .un h
  | _, _, _, i + 1, .un h, k, x => .un (slots_clear i h k x)
  | _, _, _, 0, .so (fp := fp) h hs, k, x => by
    obtain ⟨rfl, _⟩ := own_fz h k
    exact .un hs
  | _, _, _, i + 1, .so h hs, k, x => .so h (slots_clear i hs k x)
theorem getS_set_ne : ∀ {env : List (Option O)} {i j : Nat} {x : Option O}, i ≠ j → getS (setS env i x) j = getS env j
  | [], _, _, _, _ => rfl
  | _ :: _, 0, 0, _, h => absurd rfl h
  | _ :: _, 0, _ + 1, _, _ => rfl
  | _ :: _, _ + 1, 0, _, _ => rfl
  | _ :: l, i + 1, j + 1, x, h => getS_set_ne (env := l) (fun e => h (by rw [e]))
theorem getS_set_none : ∀ {env : List (Option O)} {i : Nat}, getS (setS env i none) i = none
  | [], i => by cases i <;> rfl
  | _ :: _, 0 => rfl
  | _ :: l, i + 1 => getS_set_none (env := l)
theorem wipe_get {env : List (Option O)} : ∀ {vs : List Nat} {i : Nat}, getS (wipeE env vs) i = none ∨ getS (wipeE env vs) i = getS env i
  | [], _ => .inr rfl
  | v :: vs, i => by
    by_cases h : v = i
    · subst h; exact .inl getS_set_none
    · show getS (setS (wipeE env vs) v none) i = none ∨ getS (setS (wipeE env vs) v none) i = _
      rw [getS_set_ne h]; exact wipe_get
theorem slots_wipe {F H : Hp} {al : List Addr} {env : List (Option O)} {σ : L2.St} {fp : List Addr} (h : Slots G F al H env σ fp) : ∀ {vs : List Nat}, freeE env vs = true → Slots G F al H (wipeE env vs) (wipe σ vs) fp
  | [], _ => h
  | v :: vs, k => by
    unfold freeE at k
    rw [Bool.and_eq_true] at k
    refine slots_clear v (slots_wipe h k.2) ?_ none
    rcases wipe_get (env := env) (vs := vs) (i := v) with e | e
    · rw [e]; trivial
    · rw [e]
      have k1 := k.1
      cases e2 : getS env v with
      | none => trivial
      | some o => rw [e2] at k1; exact k1
theorem wipe_none {env : List (Option O)} : ∀ {vs : List Nat} {i : Nat}, i ∈ vs → getS (wipeE env vs) i = none
  | v :: vs, i, h => by
    by_cases e : v = i
    · subst e; exact getS_set_none
    · show getS (setS (wipeE env vs) v none) i = none
      rw [getS_set_ne e]
      exact wipe_none ((List.mem_cons.mp h).resolve_left fun z => e z.symm)
def BackOk (G : Gi) (F : Hp) (al : List Addr) (H : Hp) (τ : L2.St) (v : Nat) : Option O → Prop
  | some o => ∃ x, τ[v]? = some (some x) ∧ OwnT G F al H o x []
  | none => True
theorem slots_back {F H : Hp} {al : List Addr} : ∀ {env : List (Option O)} {τ : L2.St} {fp : List Addr} (v : Nat) (o : Option O), Slots G F al H env (τ.set v none) fp → getS env v = none →
    BackOk G F al H τ v o → Slots G F al H (setS env v o) τ fp
  | [], τ, _, v, o, h, _, k => by
    cases τ with
    | nil => cases h; exact .nil
    | cons x τ => cases v <;> cases h
  | e :: env, τ, _, 0, o, h, e0, k => by
    cases τ with
    | nil => cases h
    | cons x τ =>
      obtain rfl : e = none := e0
      cases h with
      | un h =>
        cases o with
        | none => exact .un h
        | some o =>
          obtain ⟨y, e2, t⟩ := k
          obtain rfl : x = some y := by simpa using e2
          exact .so (fp := []) t h
  | e :: env, τ, _, v + 1, o, h, e0, k => by
    cases τ with
    | nil => cases h
    | cons x τ =>
      have k' : BackOk G F al H τ v o := by
        cases o with
        | none => trivial
        | some o => obtain ⟨y, e2, t⟩ := k; exact ⟨y, by simpa using e2, t⟩
      cases h with
      | un h => exact .un (slots_back v o h e0 k')
      | so h hs => exact .so h (slots_back v o hs e0 k')
theorem wipe_at {σ : L2.St} : ∀ {vs : List Nat} {v : Nat}, v ∉ vs → (wipe σ vs)[v]? = σ[v]?
  | [], _, _ => rfl
  | u :: vs, v, h => by
    rw [List.mem_cons, not_or] at h
    show ((wipe σ vs).set u none)[v]? = _
    rw [List.getElem?_set_ne (fun e => h.1 e.symm)]
    exact wipe_at h.2
/-- the def's slots put back behind a comprehension -/
theorem slots_home {F0 H0 F H : Hp} {al0 al : List Addr} {env : List (Option O)} {σ : L2.St} {f0 fp : List Addr} (h0 : Slots G F0 al0 H0 env σ f0) (m : Mo F0 F al0 al) :
    ∀ {vs : List Nat} {env2 : List (Option O)}, vs.Nodup → freeE env vs = true → (∀ v ∈ vs, getS env2 v = none) → Slots G F al H env2 (wipe σ vs) fp → Slots G F al H (backE env env2 vs) σ fp
  | [], _, _, _, _, h => h
  | v :: vs, env2, nd, fr, hn, h => by
    obtain ⟨n1, n2⟩ := List.nodup_cons.mp nd
    unfold freeE at fr
    rw [Bool.and_eq_true] at fr
    refine slots_home h0 m (vs := vs) n2 fr.2 (fun u hu => ?_) (slots_back v (getS env v) h (hn v List.mem_cons_self) ?_)
    · rw [getS_set_ne (fun e => n1 (by rw [e]; exact hu))]
      exact hn u (List.mem_cons_of_mem _ hu)
    · cases e : getS env v with
      | none => trivial
      | some o =>
        have f1 := fr.1
        rw [e] at f1
        obtain ⟨x, g1, g2, g3, q1, q2, q3⟩ := slots_get h0 e
        obtain ⟨rfl, rp⟩ := own_fz q2 f1
        refine ⟨x, by rw [wipe_at n1]; exact q1, ?_⟩
        cases o with
        | fz d => rw [O.toD] at rp; exact .fz (rp.mo m)
        | _ => cases f1
/-- an object of our own written -/
theorem rel_own {st : S} {σ : L2.St} {c : Cf} {p : Addr} {o : HO} (r : Rel G st σ c) (f : Fresh [p] c) : Rel G st σ (c.new p o) := by
  have m := List.mem_singleton_self p
  have ne : ∀ a, a ≠ p → upd c.H p o a = c.H a := fun a n => upd_ne n
  refine ⟨fun a u e => ?_, r.own, r.nds, r.ndc, r.dis, r.slots.mo (Mo.refl _ _) fun a ha => ne a (fun e => f.ns p m (e ▸ ha)), r.cells.mo (Mo.refl _ _) fun a ha => ne a (fun e => f.nc p m (e ▸ ha))⟩
  show upd c.H p o a = some u
  rw [ne a (fun z => by subst z; have e : c.F a = some u := e; rw [f.nf a m] at e; cases e)]
  exact r.sub a u e
theorem goE_own {c0 c : Cf} {p : Addr} {o : HO} (g : GoE c0 c) (h : c0.H p = none) : GoE c0 (c.new p o) where
  mo := g.mo
  fr := fun a n h1 h2 => (upd_ne (fun e => n (by rw [e]; exact h))).trans (g.fr a n h1 h2)
  fp := g.fp
  nF := g.nF
  hs := fun a h1 n => (upd_ne (fun e => n (by rw [e]; exact h))).trans (g.hs a h1 n)
  sf := g.sf
  cf := g.cf
theorem goE_tg {st : S} {σ : L2.St} {c c' : Cf} (r : Rel G st σ c) (k1 : c'.H = c.H) (k2 : c'.F = c.F) (k3 : c'.al = c.al) (k4 : c'.fc = c.fc) (k5 : ∀ a ∈ c'.fs, a ∈ c.fs) : GoE c c' :=
  { go_tg k1 k2 k3 k4 k5 with hs := fun a _ _ => by rw [k1], sf := k5, cf := fun a h k => absurd (by rw [← k4]; exact h) (r.dis a k) }
/-- a target that fills the comprehension's own slots alone -/
def TgW (G : Gi) (g : TG) (t : MT) (vs : List Nat) : Prop := ∀ (st st' : S) (σ : L2.St) (c : Cf) (v : V) (d : D) (Q : L2.St → Hp → Prop), Rel G st σ c → Rp G c.F c.al v d → t d st = some st' →
  (∀ σ' c', wipe σ' vs = wipe σ vs → Rel G st' σ' c' → c'.H = c.H → c'.F = c.F → c'.al = c.al → c'.fc = c.fc → (∀ a ∈ c'.fs, a ∈ c.fs) → Q σ' c'.H) → g v σ c.H Q
theorem wipe_set {σ : L2.St} {i : Nat} {x : Option V} : ∀ {vs : List Nat}, i ∈ vs → wipe (σ.set i x) vs = wipe σ vs
  | v :: vs, h => by
    show (wipe (σ.set i x) vs).set v none = (wipe σ vs).set v none
    by_cases e : i ∈ vs
    · rw [wipe_set e]
    · obtain rfl : i = v := (List.mem_cons.mp h).resolve_right e
      have : ∀ (vs : List Nat) (τ : L2.St), i ∉ vs → wipe (τ.set i x) vs = (wipe τ vs).set i x := by
        intro vs
        induction vs with
        | nil => intro _ _; rfl
        | cons u vs ih =>
          intro τ hn
          rw [List.mem_cons, not_or] at hn
          show (wipe (τ.set i x) vs).set u none = ((wipe τ vs).set u none).set i x
          rw [ih τ hn.2, List.set_comm _ _ hn.1]
      rw [this vs σ e, List.set_set]
theorem tw_name {i : Nat} {vs : List Nat} (hi : i ∈ vs) : TgW G (gName i) (gN i) vs := by
  intro st st' σ c v d Q r h e q
  cases e
  obtain ⟨c', e, r', g', eF, eA, hs, hc⟩ := rel_put (i := i) r (.fz h) (Fresh.nil _) (Go.rfl' (c := c)) (New.nil _)
  show Q (σ.set i (some v)) c.H
  rw [← e]
  exact q _ c' (wipe_set hi) r' e eF eA hc (fun a ha => Classical.byContradiction fun z => hs a (fun k => nomatch k) z ha)
theorem wp_noExc {α : Type} {r : R α} {Q : α → S → Prop} {E : Exc → S → Prop} (h : wp (noExc r) Q E) : wp r Q (fun _ _ => False) := by
  cases r with
  | ok a s => exact h
  | exc x s => exact h.elim
  | no => exact h
theorem lc_t {W : WX} {vs : List Nat} {mi : M (List D)} {t : MT} {mt : M Bool} {me : M D} {g : TG} (nd : vs.Nodup) (ht : TgW G g t vs) {σ : L2.St} {H : Hp} {Q : VK} (q : tO G W (xLc vs mi t mt me) σ H Q) :
    tLc (tI G W mi) g (tTs G noW mt) (tD G noW me) vs σ H Q := by
  show tI G W mi σ H fun J H1 => ∀ L, H1 L = none → ∃ W' : Nat → Nat → Hp → Prop, (∃ m, W' 0 m (upd H1 L (.lst []))) ∧ ∀ i m H, W' i m H →
    (J.stop i H ∧ Q (.ref L) H) ∨ (J.go i H ∧ ∃ Nx : Hp → Prop, (∀ H', Nx H' → ∃ m', m' < m ∧ W' (i + 1) m' H') ∧ ∀ x H', J.yld i H x H' → g x (wipe σ vs) H' fun σ2 H2 => wipe σ2 vs = wipe σ vs ∧ tTs G noW mt σ2 H2 fun b H3 =>
    if b = true then tD G noW me σ2 H3 fun y H4 => ∃ acc, H4 L = some (.lst acc) ∧ acc.length < sizeLine ∧ Nx (upd H4 L (.lst (acc ++ [y]))) else Nx H3)
  refine q.seq bkO _ (fun ds J c0 c1 st1 r1 g1 src w => ?_)
  split at w
  · rename_i hfr
    obtain ⟨hfr, hlen⟩ := hfr
    have w := wp_noExc (wp_bind.mp w |> fun h => h)
    intro L hL
    -- the state within
    have rw1 : Rel G ⟨wipeE st1.env vs, st1.mu⟩ (wipe σ vs) c1 := ⟨r1.sub, r1.own, r1.nds, r1.ndc, r1.dis, slots_wipe r1.slots hfr, r1.cells⟩
    have rn := rw1.new (o := .lst []) hL
    refine ⟨fun i m H' => m = ds.length - i ∧ i ≤ ds.length ∧ ∃ c2 st2 accV accD, c2.H = H' ∧ Rel G st2 (wipe σ vs) c2 ∧ (∃ e, st2.env = wipeE e vs) ∧ GoE c1 c2 ∧ Fresh [L] c2 ∧ c2.H L = some (.lst accV) ∧
        RpA G c2.F c2.al accV accD ∧ accV.length ≤ i ∧ wp (lcL vs t mt me (ds.drop i) st2) (fun ys s2 => ∀ u c', Rel G ⟨backE st1.env s2.env vs, s2.mu⟩ σ c' → GoE c1 c' → PrO G (.lst (accD ++ ys)) c1 c' u → Q u c'.H) (fun _ _ => False),
      ⟨ds.length, rfl, Nat.zero_le _, c1.new L (.lst []), _, [], [], rfl, rn, ⟨_, rfl⟩, GoE.new rw1 hL, Fresh.new rw1 hL, upd_same, .nil, Nat.le_refl _, w⟩, ?_⟩
    rintro i m H' ⟨rfl, hi, c2, st2, accV, accD, rfl, r2, ⟨env2, he2⟩, g2, f2, hL2, ra, hacc, w2⟩
    obtain ⟨s1, s2⟩ := src st2 (wipe σ vs) c2 r2 g2.toGo
    rcases Nat.lt_or_ge i ds.length with hl | hl
    · refine .inr ?_
      have hd := List.getElem?_eq_getElem hl
      obtain ⟨go, yl⟩ := s1 i _ hd
      have mL := List.mem_singleton_self L
      -- the next turn
      refine ⟨go, fun H'' => ∃ c3 st3 accV3 accD3, c3.H = H'' ∧ Rel G st3 (wipe σ vs) c3 ∧ (∃ e, st3.env = wipeE e vs) ∧ GoE c1 c3 ∧ Fresh [L] c3 ∧ c3.H L = some (.lst accV3) ∧
          RpA G c3.F c3.al accV3 accD3 ∧ accV3.length ≤ i + 1 ∧ wp (lcL vs t mt me (ds.drop (i + 1)) st3) (fun ys s2 => ∀ u c', Rel G ⟨backE st1.env s2.env vs, s2.mu⟩ σ c' → GoE c1 c' → PrO G (.lst (accD3 ++ ys)) c1 c' u → Q u c'.H) (fun _ _ => False),
        fun H'' ⟨c3, st3, a3, d3, q⟩ => ⟨ds.length - (i + 1), by omega, rfl, hl, c3, st3, a3, d3, q⟩, fun x H'' hy => ?_⟩
      obtain ⟨c3, rfl, r3, g3, rx⟩ := yl x H'' hy
      rw [List.drop_eq_getElem_cons hl, lcL] at w2
      dsimp only at w2
      cases e : t ds[i] st2 with
      | none => rw [e] at w2; exact w2.elim
      | some st4 =>
        rw [e] at w2
        refine ht st2 st4 (wipe σ vs) c3 x ds[i] _ r3 rx e (fun σ4 c4 hw r4 k1 k2 k3 k4 k5 => ?_)
        have wid : wipe (wipe σ vs) vs = wipe σ vs := by
          have : ∀ vs' : List Nat, (∀ v ∈ vs', v ∈ vs) → wipe (wipe σ vs') vs = wipe σ vs := by
            intro vs'
            induction vs' with
            | nil => intro _; rfl
            | cons u vs' ih => intro h; show wipe ((wipe σ vs').set u none) vs = _; rw [wipe_set (h u List.mem_cons_self)]; exact ih fun v hv => h v (List.mem_cons_of_mem _ hv)
          exact this vs fun _ h => h
        rw [wid] at hw
        have g4 : GoE c2 c4 := g3.trans (goE_tg r3 k1 k2 k3 k4 k5)
        have noe : ∀ {c' : Cf} (x : Exc) (s : S), False → xw G noW σ4 c' x s := fun _ _ z => z.elim
        refine ⟨hw, tG.at r4 (wp_mono (wp_bind.mp w2) (fun b st5 w5 v c5 r5 g5 p5 => ?_) (fun x s z => z.elim))⟩
        obtain rfl : v = b := p5
        -- the list is as it was
        have keepL : ∀ {c' : Cf}, GoE c2 c' → Fresh [L] c' ∧ c'.H L = some (.lst accV) := fun {c'} gg => by
          obtain ⟨fa, fb⟩ := f2.go (fun a ha => by rw [List.mem_singleton.mp ha, hL2]; rintro (z | ⟨_, z⟩) <;> cases z) gg.toGo
          exact ⟨fa, (fb L mL).trans hL2⟩
        cases v with
        | false =>
          rw [if_neg (by decide)] at w5 ⊢
          split at w5
          · rename_i hf5
            have gg := g4.trans g5
            obtain ⟨fa, fb⟩ := keepL gg
            have rw5 : Rel G ⟨wipeE st5.env vs, st5.mu⟩ (wipe σ vs) c5 := by
              rw [← hw]
              exact ⟨r5.sub, r5.own, r5.nds, r5.ndc, r5.dis, slots_wipe r5.slots hf5, r5.cells⟩
            exact ⟨c5, _, accV, accD, rfl, rw5, ⟨_, rfl⟩, g2.trans gg, fa, fb, ra.mo gg.mo, by omega, w5⟩
          · exact w5.elim
        | true =>
          rw [if_pos rfl] at w5 ⊢
          refine tG.at r5 (wp_mono (wp_bind.mp w5) (fun y st6 w6 u c6 r6 g6 p6 => ?_) (fun x s z => z.elim))
          split at w6
          · rename_i hf6
            have gg := (g4.trans g5).trans g6
            obtain ⟨fa, fb⟩ := keepL gg
            have rw6 : Rel G ⟨wipeE st6.env vs, st6.mu⟩ (wipe σ vs) c6 := by
              rw [← hw]
              exact ⟨r6.sub, r6.own, r6.nds, r6.ndc, r6.dis, slots_wipe r6.slots hf6, r6.cells⟩
            refine ⟨accV, fb, by rw [szl]; omega, c6.new L (.lst (accV ++ [u])), _, accV ++ [u], accD ++ [y], rfl, rel_own rw6 fa, ⟨_, rfl⟩, goE_own (g2.trans gg) hL, ⟨fa.nd, fa.nf, fa.ns, fa.nc⟩, upd_same,
              (ra.mo gg.mo).app (.cons p6 .nil), by rw [List.length_append, List.length_singleton]; omega, ?_⟩
            refine wp_mono (wp_bind.mp w6) (fun ys s7 w7 => ?_) (fun x s z => z.elim)
            have w7 : ∀ u c', Rel G ⟨backE st1.env s7.env vs, s7.mu⟩ σ c' → GoE c1 c' → PrO G (.lst (accD ++ (y :: ys))) c1 c' u → Q u c'.H := w7
            rw [List.append_assoc]
            exact w7
          · exact w6.elim
    · have e : i = ds.length := by omega
      subst e
      refine .inl ⟨s2, ?_⟩
      rw [List.drop_length] at w2
      have w2 : ∀ u c', Rel G ⟨backE st1.env st2.env vs, st2.mu⟩ σ c' → GoE c1 c' → PrO G (.lst (accD ++ [])) c1 c' u → Q u c'.H := w2
      rw [List.append_nil] at w2
      refine w2 _ c2 ⟨r2.sub, r2.own, r2.nds, r2.ndc, r2.dis, ?_, r2.cells⟩ g2 ⟨[L], .lst hL2 ra, f2, New.new hL⟩
      exact slots_home r1.slots g2.mo nd hfr (fun v hv => by rw [he2]; exact wipe_none hv) r2.slots
  · exact w.elim
section
variable {X : Cx} {W : WX} {elt tg iter : Expr} {ifs : List Expr} {scope : Scope} {own : List (Str × Nat)} {vs : List Nat} {pos : Pos} {mi : M (List D)} {t : MT} {mt : M Bool} {me : M D} {g : TG}
theorem xts_nil : PTs X [] (tTs G W (ret true)) := by
  refine ⟨fun pins s σ H Q I q => (pts_nil (X := X)).run pins s σ H Q I ?_⟩
  obtain ⟨c, st, rfl, r, h⟩ := q
  exact h true c r (GoE.refl r) rfl
theorem x_lc (hv : own.map (·.2) = vs) (nd : vs.Nodup) (hc : X.calm = true) (hN : X.N.Nodup) (hi : PI X tg iter (tI G W mi)) (ok : BlkOk X.N X.env.scope scope own) (htg : TgW G g t vs)
    (hg : ∀ (s : Shared) (H : Hp) (C : Addr) (cl : List (Str × Addr)) (fp : List Addr), PG (X.blk s H scope (compEnvC scope cl C X.env) fp) tg g) (ht : ∀ (s : Shared) (H : Hp) (C : Addr) (cl : List (Str × Addr)) (fp : List Addr), PTs (X.blk s H scope (compEnvC scope cl C X.env) fp) ifs (tTs G noW mt))
    (he : ∀ (s : Shared) (H : Hp) (C : Addr) (cl : List (Str × Addr)) (fp : List Addr), PE (X.blk s H scope (compEnvC scope cl C X.env) fp) elt (tD G noW me)) (hs : ∀ x, foldedSetIterable iter X.env x = pure x := by intro _; rfl) :
    PE X (.ListComp elt [⟨tg, iter, ifs, 0⟩] scope pos) (tO G W (xLc vs mi t mt me)) := (pe_lcM hv hc hN hi ok hg ht he hs).weak fun _ _ _ q => lc_t nd htg q
theorem s_setLc {i : Nat} {y : Str} {py spos : Pos} (hv : own.map (·.2) = vs) (nd : vs.Nodup) (hc : X.calm = true) (hN : X.N.Nodup) (hy : X.N[i]? = some y) (hyl : X.env.scope.names.lookup y = some .local)
    (hsw : swapsWith (.ListComp elt [⟨tg, iter, ifs, 0⟩] scope pos) (some (.Name y py)) spos.line X.env = pure true) (hi : PI X tg iter (tI G W mi)) (ok : BlkOk X.N X.env.scope scope own) (htg : TgW G g t vs)
    (hg : ∀ (s : Shared) (H : Hp) (C : Addr) (cl : List (Str × Addr)) (fp : List Addr), PG (X.blk s H scope (compEnvC scope cl C X.env) fp) tg g) (ht : ∀ (s : Shared) (H : Hp) (C : Addr) (cl : List (Str × Addr)) (fp : List Addr), PTs (X.blk s H scope (compEnvC scope cl C X.env) fp) ifs (tTs G noW mt))
    (he : ∀ (s : Shared) (H : Hp) (C : Addr) (cl : List (Str × Addr)) (fp : List Addr), PE (X.blk s H scope (compEnvC scope cl C X.env) fp) elt (tD G noW me)) (hs : ∀ x, foldedSetIterable iter X.env x = pure x := by intro _; rfl) :
    PS X (.Assign [.Name y py] (.ListComp elt [⟨tg, iter, ifs, 0⟩] scope pos) spos) (tS G W (sAsg i (xLc vs mi t mt me))) :=
  (ps_setLcM hv hc hN hy hyl hsw hi ok hg ht he hs).weak fun D' σ H q => by
    have q2 := asg_t (G := G) (W := W) q
    exact lc_t nd htg q2
end
end
end L2.Tr
namespace L2.Tr
open PySem PySem.Spec PyProof.Rows L2 L2.Pc
/-! ### what a slot owns, or the cell it names -/
def getM : List O → Nat → Option O
  | [], _ => none
  | x :: _, 0 => some x
  | _ :: l, n + 1 => getM l n
def setM : List O → Nat → O → List O
  | [], _, _ => []
  | _ :: l, 0, o => o :: l
  | x :: l, n + 1, o => x :: setM l n o
/-- the root that the slot i stands for: itself, or a cell -/
def getP (s : S) (i : Nat) : Option O := match getS s.env i with
  | some (.fz (.cel n)) => getM s.mu n
  | some (.fz _) => none
  | x => x
def putP (s : S) (i : Nat) (o : O) : S := match getS s.env i with
  | some (.fz (.cel n)) => ⟨s.env, setM s.mu n o⟩
  | some (.fz _) => s
  | some _ => ⟨setS s.env i (some o), s.mu⟩
  | none => s
section
variable {G : Gi}
theorem ownA_set {F H : Hp} {al : List Addr} : ∀ {os : List O} {vs : List V} {fp : List Addr} {i : Nat} {o : O}, OwnA G F al H os vs fp → getM os i = some o →
    ∃ v f1 f2 f3, vs[i]? = some v ∧ OwnT G F al H o v f2 ∧ fp = f1 ++ (f2 ++ f3) ∧ ∀ (F' H' : Hp) (al' : List Addr), Mo F F' al al' → (∀ a ∈ f1 ++ f3, H' a = H a) →
      ∀ o' f', OwnT G F' al' H' o' v f' → OwnA G F' al' H' (setM os i o') vs (f1 ++ (f' ++ f3))
  | _, _, _, i, o, .nil, e => by cases i <;> cases e
  | _, _, _, 0, o, .cons (fp := fp) (fq := fq) h hs, e => by
    cases e
    exact ⟨_, [], fp, fq, rfl, h, rfl, fun F' H' al' m k o' f' t => .cons (fp := f') t (hs.mo m k)⟩
  | _, _, _, i + 1, o, .cons (fp := fp) h hs, e => by
    obtain ⟨v, f1, f2, f3, q1, q2, q3, q4⟩ := ownA_set (i := i) hs e
    refine ⟨v, fp ++ f1, f2, f3, by simpa using q1, q2, by rw [q3, List.append_assoc], fun F' H' al' m k o' f' t => ?_⟩
    have k1 : ∀ a ∈ fp, H' a = H a := fun a ha => k a (List.mem_append_left _ (List.mem_append_left _ ha))
    have k2 : ∀ a ∈ f1 ++ f3, H' a = H a := fun a ha => k a (by rw [List.append_assoc]; exact List.mem_append_right _ ha)
    show OwnA G F' al' H' (_ :: setM _ i o') _ _
    rw [List.append_assoc]
    exact .cons (h.mo m k1) (q4 F' H' al' m k2 o' f' t)
/-- the root at slot i: where it stands, and how it is written -/
theorem place {st : S} {σ : L2.St} {c : Cf} {i : Nat} {o : O} (r : Rel G st σ c) (e : getP st i = some o) : ∃ v f2, σ[i]? = some (some v) ∧ OwnT G c.F c.al c.H o v f2 ∧
    ∀ (H' : Hp) (o' : O), (∀ a, a ∉ f2 → H' a = c.H a) → OwnT G c.F c.al H' o' v f2 → Rel G (putP st i o') σ { c with H := H' } ∧ Go c { c with H := H' } := by
  have go : ∀ {f2 : List Addr} {H' : Hp}, (∀ a ∈ f2, a ∈ c.fs ∨ a ∈ c.fc) → (∀ a, a ∉ f2 → H' a = c.H a) → Go c { c with H := H' } := fun {f2 H'} sub k =>
    ⟨Mo.refl _ _, fun a _ h1 h2 => k a fun z => (sub a z).elim h1 h2, fun a h => h.elim .inl fun h => .inr (.inl h), fun a h => .inl h⟩
  have sb : ∀ {f2 : List Addr} {H' : Hp}, (∀ a ∈ f2, a ∈ c.fs ∨ a ∈ c.fc) → (∀ a, a ∉ f2 → H' a = c.H a) → ∀ a u, c.F a = some u → H' a = some u := fun {f2 H'} sub k a u z => by
    rw [k a (fun y => by have := r.own a (sub a y); rw [z] at this; cases this)]
    exact r.sub a u z
  -- a cell
  have cell : ∀ n, getS st.env i = some (.fz (.cel n)) → getM st.mu n = some o → putP st i = (fun o' => ⟨st.env, setM st.mu n o'⟩) → ∃ v f2, σ[i]? = some (some v) ∧ OwnT G c.F c.al c.H o v f2 ∧
      ∀ (H' : Hp) (o' : O), (∀ a, a ∉ f2 → H' a = c.H a) → OwnT G c.F c.al H' o' v f2 → Rel G (putP st i o') σ { c with H := H' } ∧ Go c { c with H := H' } := by
    intro n e1 e2 e3
    obtain ⟨v, g1, g2, g3, q1, q2, _⟩ := slots_get r.slots e1
    obtain ⟨v', f1, f2, f3, p1, p2, p3, p4⟩ := ownA_set r.cells e2
    have ev : v = v' := by
      cases q2 with
      | fz t =>
        cases t with
        | cel h =>
          rw [List.getElem?_map, h] at p1
          exact Option.some.inj p1
    subst ev
    have nd := r.ndc
    rw [p3] at nd
    obtain ⟨n1, n2, n3⟩ := nd_ends nd
    have sub : ∀ a ∈ f2, a ∈ c.fs ∨ a ∈ c.fc := fun a h => .inr (by rw [p3]; exact mem_mid h)
    refine ⟨v, f2, q1, p2, fun H' o' k t => ⟨?_, go sub k⟩⟩
    rw [e3]
    refine ⟨sb sub k, r.own, r.nds, r.ndc, r.dis, r.slots.mo (Mo.refl _ _) fun a ha => k a fun z => r.dis a ha (by rw [p3]; exact mem_mid z), ?_⟩
    have := p4 c.F H' c.al (Mo.refl _ _) (fun a ha => k a fun z => n3 a z ha) o' f2 t
    rw [← p3] at this
    exact this
  unfold getP at e
  split at e
  · rename_i n h
    exact cell n h e (by funext o'; unfold putP; rw [h])
  · cases e
  · rename_i h1 h2
    obtain ⟨v, f1, f2, f3, q1, q2, q3, q4⟩ := slots_set r.slots e
    have nd := r.nds
    rw [q3] at nd
    obtain ⟨n1, n2, n3⟩ := nd_ends nd
    have sub : ∀ a ∈ f2, a ∈ c.fs ∨ a ∈ c.fc := fun a h => .inl (by rw [q3]; exact mem_mid h)
    refine ⟨v, f2, q1, q2, fun H' o' k t => ⟨?_, go sub k⟩⟩
    have hp : putP st i o' = ⟨setS st.env i (some o'), st.mu⟩ := by
      unfold putP
      cases o with
      | fz d =>
        cases d with
        | cel n => exact absurd e (h1 n)
        | _ => exact absurd e (h2 _)
      | _ => rw [e]
    rw [hp]
    refine ⟨sb sub k, r.own, r.nds, r.ndc, r.dis, ?_, r.cells.mo (Mo.refl _ _) fun a ha => k a fun z => r.dis a (by rw [q3]; exact mem_mid z) ha⟩
    have := (q4 c.F H' c.al (Mo.refl _ _) (fun a ha => k a fun z => n3 a z ha)).1 o' f2 t
    rw [← q3] at this
    exact this
end
section
variable {X : Cx} {G : Gi} {W : WX} {e k value : Expr} {me mk : M O} {md mkd : M D} {pos pos' apos cpos : Pos} {i : Nat}
/-! ### x.append(e), x.extend(e) -/
def sApp (i : Nat) (md : M D) : M Fl := fun s => match getP s i with
  | some (.lst _) => (md s).bind fun d s1 => match getP s1 i with
    | some (.lst xs) => if xs.length < 16777216 then .ok .nx (putP s1 i (.lst (xs ++ [d]))) else .no
    | _ => .no
  | _ => .no
theorem own_lst {F H : Hp} {al : List Addr} {ds : List D} {v : V} {fp : List Addr} (h : OwnT G F al H (.lst ds) v fp) : ∃ a vs, v = .ref a ∧ fp = [a] ∧ H a = some (.lst vs) ∧ RpA G F al vs ds := by
  cases h with
  | lst h hs => exact ⟨_, _, rfl, rfl, h, hs⟩
/-! ### x[k] = e -/
def putAt (i : Nat) (d k : D) : M Fl := fun s => match getP s i, k with
  | some (.lst xs), .int j => match ixN xs.length j with
    | some q => .ok .nx (putP s i (.lst (xs.set q d)))
    | none => .no
  | _, _ => .no
def sPutL (i : Nat) (mk md : M D) : M Fl := bnd md fun d s1 => match getP s1 i with
  | none => .no
  | some _ => (mk s1).bind fun k => putAt i d k
/-! ### a new cell -/
def cellO : O → Bool
  | .fz _ => false
  | _ => true
def sAsgC (i : Nat) (me : M O) : M Fl := bnd me fun o s => if cellO o = true then .ok .nx ⟨setS s.env i (some (.fz (.cel s.mu.length))), s.mu ++ [o]⟩ else .no
@[simp] theorem sAsgC_app (i : Nat) (me : M O) (s : S) : sAsgC i me s = (me s).bind fun o s => if cellO o = true then .ok .nx ⟨setS s.env i (some (.fz (.cel s.mu.length))), s.mu ++ [o]⟩ else .no := rfl
theorem own_ref {F H : Hp} {al : List Addr} {o : O} {v : V} {fp : List Addr} (h : OwnT G F al H o v fp) (k : cellO o = true) : ∃ a, v = .ref a := by
  cases h with
  | fz _ => cases k
  | _ => exact ⟨_, rfl⟩
theorem ownA_snoc {F H : Hp} {al : List Addr} : ∀ {os : List O} {vs : List V} {fp : List Addr} {o : O} {v : V} {fq : List Addr}, OwnA G F al H os vs fp → OwnT G F al H o v fq → OwnA G F al H (os ++ [o]) (vs ++ [v]) (fp ++ fq)
  | _, _, _, _, _, _, .nil, t => by
    have := OwnA.cons t (.nil (G := G) (F := F) (al := al) (H := H))
    rw [List.append_nil] at this
    exact this
  | _, _, _, _, _, _, .cons h hs, t => by
    rw [List.append_assoc]
    exact .cons h (ownA_snoc hs t)
theorem ownA_len {F H : Hp} {al : List Addr} : ∀ {os : List O} {vs : List V} {fp : List Addr}, OwnA G F al H os vs fp → os.length = vs.length
  | _, _, _, .nil => rfl
  | _, _, _, .cons _ hs => congrArg (· + 1) (ownA_len hs)
/-- an owned thing becomes a cell -/
theorem rel_cell {st : S} {σ : L2.St} {c0 c : Cf} {o : O} {a : Addr} {fp : List Addr} (r : Rel G st σ c) (t : OwnT G c.F c.al c.H o (.ref a) fp) (f : Fresh fp c) (g : Go c0 c) (n : New fp c0) :
    Rel G ⟨st.env, st.mu ++ [o]⟩ σ { c with al := c.al ++ [a], fc := c.fc ++ fp } ∧ Go c0 { c with al := c.al ++ [a], fc := c.fc ++ fp } ∧ (c.al ++ [a])[st.mu.length]? = some a := by
  have mo : Mo c.F c.F c.al (c.al ++ [a]) := .of (fun _ _ h => h) fun n b h => by
    have hl := (List.getElem?_eq_some_iff.mp h).1
    rw [List.getElem?_append_left hl]; exact h
  have hl : st.mu.length = c.al.length := by rw [ownA_len r.cells, List.length_map]
  refine ⟨⟨r.sub, fun b h => ?_, r.nds, ?_, fun b h k => ?_, r.slots.mo mo fun _ _ => rfl, ?_⟩, ⟨g.mo.trans mo, g.fr, fun b h => ?_, g.nF⟩, ?_⟩
  · rcases h with h | h
    · exact r.own b (.inl h)
    · exact (List.mem_append.mp h).elim (fun h => r.own b (.inr h)) (f.nf b)
  · exact List.nodup_append.mpr ⟨r.ndc, f.nd, fun x hx y hy e => by subst e; exact f.nc x hy hx⟩
  · exact (List.mem_append.mp k).elim (r.dis b h) (fun z => f.ns b z h)
  · show OwnA G c.F (c.al ++ [a]) c.H (st.mu ++ [o]) ((c.al ++ [a]).map V.ref) (c.fc ++ fp)
    rw [List.map_append]
    exact ownA_snoc (r.cells.mo mo fun _ _ => rfl) (t.mo mo fun _ _ => rfl)
  · rcases h with h | h
    · exact g.fp b (.inl h)
    · exact (List.mem_append.mp h).elim (fun h => g.fp b (.inr h)) (n b)
  · rw [hl, List.getElem?_append_right (Nat.le_refl _), Nat.sub_self]; rfl
theorem asgC_t {D' : Ends} {σ : L2.St} {H : Hp} (q : tS G W (sAsgC i me) D' σ H) : tAsg (tO G W me) (gName i) D' σ H := by
  show tO G W me σ H fun v H1 => D'.nx (σ.set i (some v)) H1
  refine tS.ex q _ (fun o v c c1 st1 r1 g1 p1 w => ?_)
  obtain ⟨fp, t, f, n⟩ := p1
  split at w
  · rename_i hc
    obtain ⟨a, rfl⟩ := own_ref t hc
    obtain ⟨r2, g2, e2⟩ := rel_cell r1 t f g1.toGo n
    obtain ⟨c', e, r', g', _⟩ := rel_put (i := i) (o := .fz (.cel st1.mu.length)) r2 (.fz (.cel e2)) (Fresh.nil _) g2 (New.nil _)
    have w : Fw G D' c .nx _ := w
    have e : c'.H = c1.H := e
    rw [← e]
    exact w _ c' r' g'
  · exact w.elim
theorem s_asgC {x : Str} (hN : X.N.Nodup) (hi : X.N[i]? = some x) (hx : Loc X.env.scope x) (he : PE X e (tO G W me)) (hs : swapsWith e (some (.Name x pos')) pos.line X.env = pure false := by rfl)
    (hf : X.fn x = true ∨ X.env.scope.names.lookup x = some .local := by first | exact .inl rfl | exact .inr rfl | assumption) : PS X (.Assign [.Name x pos'] e pos) (tS G W (sAsgC i me)) :=
  (ps_set hN hi hx he hs hf).weak fun _ _ _ q => asgC_t q
/-! ### reading that changes nothing -/
/-- a quiet expression -/
def tQ (G : Gi) (f : S → Option D) : TE := fun σ H Q => ∃ c st d, c.H = H ∧ Rel G st σ c ∧ f st = some d ∧ ∀ v, Rp G c.F c.al v d → Q v c.H
def qVar (i : Nat) : S → Option D := fun s => match getS s.env i with
  | some (.fz d) => some d
  | _ => none
theorem xq_var {x : Str} (hN : X.N[i]? = some x) (hv : Vis X.env.scope x) (hd : (x == ("__debug__" : Str)) = false := by decide) (hcd : (x == ("__classdict__" : Str)) = false := by decide) : PE X (.Name x pos) (tQ G (qVar i)) :=
  (pe_var hN hv hd hcd).weak fun σ H Q q => by
    obtain ⟨c, st, d, rfl, r, e, k⟩ := q
    unfold qVar at e
    split at e
    · rename_i d' h
      cases e
      obtain ⟨v, g1, g2, g3, q1, q2, _⟩ := slots_get r.slots h
      cases q2 with
      | fz t => exact ⟨v, q1, k v t⟩
    · cases e
theorem xq_c {v : V} {d : D} (h : PE X e (tC v)) (hr : ∀ F al, Rp G F al v d) : PE X e (tQ G (fun _ => some d)) := h.weak fun σ H Q q => by
  obtain ⟨c, st, d', rfl, r, e, k⟩ := q
  cases e
  exact k v (hr _ _)
/-- an operator whose second operand is quiet -/
def xOpQ (g : D → D → Option O) (ma : M O) (f : S → Option D) : M O := bnd ma fun x s => match f s with
  | some y => ofO (g x.toD y) s
  | none => .no
theorem opq_t {r : R2} {g : D → D → Option O} {ma : M O} {f : S → Option D} (hr : OpD G r g) {σ : L2.St} {H : Hp} {Q : VK} (q : tO G W (xOpQ g ma f) σ H Q) : tOp r (tLa G W ma) (tQ G f) σ H Q := by
  show tLa G W ma σ H fun x H1 => tQ G f σ H1 fun y H2 => r x y H2 Q
  refine q.seq bkO _ (fun ox x c c1 st1 r1 g1 p1 w => ?_)
  obtain ⟨fx, tx⟩ := p1
  split at w
  · rename_i d hd
    obtain ⟨o, eo, q3⟩ := wp_ofO.mp w
    exact ⟨c1, st1, d, rfl, r1, hd, fun v hv => hr st1 σ c1 x v ox (.fz d) fx [] o Q r1 tx (.fz hv) (by rw [O.toD]; exact eo) q3⟩
  · exact w.elim
theorem x_ixQ {a b : Expr} {r : R2} {g : D → D → Option O} {ma : M O} {f : S → Option D} (ho : IxR X r) (hr : OpD G r g) (ha : PE X a (tLa G W ma)) (hb : PE X b (tQ G f)) (hs : PlainIx b) :
    PE X (.Subscript a b pos) (tO G W (xOpQ g ma f)) := (pe_ix ho ha hb hs).weak fun σ H Q q => opq_t hr q
end
/-! ### subscripts -/
def ixD (x y : D) : Option O := match x, y with
  | .lst ds, .int i => (atI ds i).map .fz
  | .lsk ds, .int i => (atI ds i).map .fz
  | .tup ds, .int i => (atI ds i).map .fz
  | .tuk ds, .int i => (atI ds i).map .fz
  | .tun ds, .int i => (atI ds i).map .fz
  | .str s, .int i => if s.length ≤ 16777216 then (atI s.cps.toList i).map fun c => .fz (.str ⟨#[c]⟩) else none
  | _, _ => none
theorem rp_at {G : Gi} {F : Hp} {al : List Addr} {vs : List V} {ds : List D} {i : Int} {d : D} (h : RpA G F al vs ds) (e : atI ds i = some d) : ∃ v, atI vs i = some v ∧ Rp G F al v d := by
  unfold atI at e ⊢
  rw [h.len]
  obtain ⟨j, e1, e2⟩ := bind_some e
  obtain ⟨v, h1, h2⟩ := h.get e2
  exact ⟨v, by rw [e1]; exact h1, h2⟩
theorem d_ix {G : Gi} : OpD G (rIxM G.K) ixD := by
  intro st σ c x y ox oy fx fy o Q r tx ty e q
  have vx := own_view r tx
  have vy := own_view r ty
  generalize ox.toD = dx at *
  generalize oy.toD = dy at *
  unfold ixD at e
  split at e
  · obtain ⟨d, h1, rfl⟩ := map_some e
    obtain ⟨a, xs, rfl, hx, rx⟩ := vx
    obtain rfl : y = _ := vy
    obtain ⟨v, h2, h3⟩ := rp_at rx h1
    exact .inl ⟨a, xs, _, v, rfl, rfl, .inl (.inl hx), h2, fin r h3 q⟩
  · obtain ⟨d, h1, rfl⟩ := map_some e
    obtain ⟨a, xs, rfl, hx, rx⟩ := vx
    obtain rfl : y = _ := vy
    obtain ⟨v, h2, h3⟩ := rp_at rx h1
    exact .inl ⟨a, xs, _, v, rfl, rfl, hx, h2, fin r h3 q⟩
  · obtain ⟨d, h1, rfl⟩ := map_some e
    obtain ⟨a, xs, rfl, hx, rx, _⟩ := vx
    obtain rfl : y = _ := vy
    obtain ⟨v, h2, h3⟩ := rp_at rx h1
    exact .inr (.inl ⟨a, xs, _, v, rfl, rfl, hx, h2, fin r h3 q⟩)
  · obtain ⟨d, h1, rfl⟩ := map_some e
    obtain ⟨a, xs, rfl, hx, rx⟩ := vx
    obtain rfl : y = _ := vy
    obtain ⟨v, h2, h3⟩ := rp_at rx h1
    exact .inr (.inl ⟨a, xs, _, v, rfl, rfl, hx, h2, fin r h3 q⟩)
  · obtain ⟨d, h1, rfl⟩ := map_some e
    obtain ⟨a, xs, rfl, hx, rx, _⟩ := vx
    obtain rfl : y = _ := vy
    obtain ⟨v, h2, h3⟩ := rp_at rx h1
    exact .inr (.inl ⟨a, xs, _, v, rfl, rfl, hx, h2, fin r h3 q⟩)
  · split at e
    · rename_i hl
      obtain ⟨ch, h1, rfl⟩ := map_some e
      obtain rfl : x = _ := vx
      obtain rfl : y = _ := vy
      exact .inr (.inr ⟨_, _, ch, rfl, rfl, by rw [szl]; exact hl, h1, fin r (.str _) q⟩)
    · cases e
  · cases e
/-- slices -/
def cutD (ds : List D) (lo hi : Option Int) : List D := (ds.drop (HT.sIx ds.length 0 lo)).take (HT.sIx ds.length ds.length hi - HT.sIx ds.length 0 lo)
theorem rp_cut {G : Gi} {F : Hp} {al : List Addr} {vs : List V} {ds : List D} (lo hi : Option Int) (h : RpA G F al vs ds) : RpA G F al (cutV vs lo hi) (cutD ds lo hi) := by
  unfold cutV cutD
  rw [h.len]
  exact RpA.take _ (RpA.drop _ h)
def slD (x : D) (lo hi : Option Int) : Option O := match x with
  | .lst ds => some (.lst (cutD ds lo hi))
  | .lsk ds => some (.lst (cutD ds lo hi))
  | .str s => if s.length ≤ 16777216 then some (.fz (.str (cutS s lo hi))) else none
  | .tup ds => some (.fz (.tup (cutD ds lo hi)))
  | _ => none
def rSlX (K : PySem.W.Frag) : V → Option Int → Option Int → Hp → VK → Prop := fun a lo hi H Q => rSlL K a lo hi H Q ∨ rSlS a lo hi H Q ∨ rSlA K a lo hi H Q
theorem slX {X : Cx} {K : PySem.W.Frag} (hK : X.K = K) : SlR X (rSlX K) := hK ▸ SlR.or sl_list (SlR.or sl_str sl_tupA)
def mPart (md : M O) : M (Option Int) := bnd md fun o => match o with
  | .fz (.int i) => ret (some i)
  | _ => fun _ => .no
section
variable {X : Cx} {G : Gi} {W : WX} {e : Expr} {me ma : M O} {pos : Pos} {lo hi : Option Expr} {ml mh : M (Option Int)}
theorem xp_none : PO X none (tG G W (fun (i : Option Int) _ _ (v : Option Int) => v = i) (ret none)) := by
  refine ⟨fun pins s σ H Q I q => (po_none (X := X)).run pins s σ H Q I ?_⟩
  obtain ⟨c, st, rfl, r, w⟩ := q
  exact w none c r (GoE.refl r) rfl
theorem xp_some (h : PE X e (tO G W me)) : PO X (some e) (tG G W (fun (i : Option Int) _ _ (v : Option Int) => v = i) (mPart me)) := by
  refine ⟨fun pins s σ H Q I q => (po_some h).run pins s σ H Q I ?_⟩
  show tO G W me σ H fun x H1 => ∃ i, x = .int i ∧ Q (some i) H1
  refine q.seq0 _ (fun o v c c1 st1 r1 g1 p1 w => ?_)
  obtain ⟨fp, t, _⟩ := p1
  split at w
  · rename_i i
    cases t with
    | fz t => cases t; exact ⟨i, rfl, w _ c1 r1 g1 rfl⟩
  · exact w.elim
def xSl (ma : M O) (ml mh : M (Option Int)) : M O := bnd ma fun x => bnd ml fun l => bnd mh fun h => ofO (slD x.toD l h)
@[simp] theorem xSl_app (ma : M O) (ml mh : M (Option Int)) (s : S) : xSl ma ml mh s = (ma s).bind fun x s1 => (ml s1).bind fun l s2 => (mh s2).bind fun h => ofO (slD x.toD l h) := rfl
theorem finS {st : S} {σ : L2.St} {c : Cf} {x : V} {ox : O} {fx : List Addr} {o : O} {l h : Option Int} {Q : VK} (r : Rel G st σ c) (tx : OwnT G c.F c.al c.H ox x fx) (e : slD ox.toD l h = some o)
    (q : ∀ v c', Rel G st σ c' → GoE c c' → PrO G o c c' v → Q v c'.H) : rSlX G.K x l h c.H Q := by
  have vx := own_view r tx
  generalize ox.toD = dx at *
  unfold slD at e
  split at e
  · cases e
    obtain ⟨a, xs, rfl, hx, rx⟩ := vx
    exact .inl ⟨a, xs, rfl, .inl (.inl hx), finL r (rp_cut l h rx) q⟩
  · cases e
    obtain ⟨a, xs, rfl, hx, rx⟩ := vx
    exact .inl ⟨a, xs, rfl, hx, finL r (rp_cut l h rx) q⟩
  · split at e
    · rename_i hl
      cases e
      obtain rfl : x = _ := vx
      exact .inr (.inl ⟨_, rfl, by rw [szl]; exact hl, fin r (.str _) q⟩)
    · cases e
  · cases e
    obtain ⟨a, xs, rfl, hx, rx, rp⟩ := vx
    refine .inr (.inr ⟨a, xs, rfl, hx, fun hw => ?_, fun _ => finT r (rp_cut l h rx) q⟩)
    rename_i ds
    have e1 : cutD ds l h = ds := by
      unfold cutD
      rw [rx.len] at hw
      rw [hw.1, hw.2, Nat.sub_zero, List.drop_zero, List.take_length]
    rw [e1] at q
    exact fin r rp q
  · cases e
theorem x_sl {p2 : Pos} (hK : X.K = G.K) (he : PE X e (tBr G W ma)) (hl : PO X lo (tG G W (fun (i : Option Int) _ _ (v : Option Int) => v = i) ml)) (hu : PO X hi (tG G W (fun (i : Option Int) _ _ (v : Option Int) => v = i) mh)) :
    PE X (.Subscript e (.Slice lo hi none p2) pos) (tO G W (xSl ma ml mh)) := (pe_slice (slX hK) he hl hu).weak fun σ H Q q => by
  show tBr G W ma σ H fun x H1 => tG G W _ ml σ H1 fun l H2 => tG G W _ mh σ H2 fun h H3 => rSlX G.K x l h H3 Q
  refine q.seq bkO _ (fun ox x c c1 st1 r1 g1 p1 w => ?_)
  obtain ⟨fx, tx, kx⟩ := p1
  refine tG.seq1 bkO r1 w _ (fun l' l c2 st2 r2 g2 p2 w2 => ?_)
  obtain rfl : l = l' := p2
  refine tG.seq1 bkO r2 w2 _ (fun h' h c3 st3 r3 g3 p3 w3 => ?_)
  obtain rfl : h = h' := p3
  obtain ⟨o, eo, q3⟩ := wp_ofO.mp w3
  exact finS r3 (kx.go tx (g2.trans g3)) eo q3
end
end L2.Tr
namespace L2.Tr
open PySem PySem.Spec PyProof.Rows L2 L2.Pc
/-! ### calls of built-ins -/
def CnD (G : Gi) (r : List V → Hp → VK → Prop) (g : List D → Option O) : Prop := ∀ (st : S) (σ : L2.St) (c : Cf) (vs : List V) (ds : List D) (o : O) (Q : VK), Rel G st σ c →
  RpA G c.F c.al vs ds → g ds = some o → (∀ v c', Rel G st σ c' → GoE c c' → PrO G o c c' v → Q v c'.H) → r vs c.H Q
section
variable {X : Cx} {G : Gi} {W : WX} {e o : Expr} {es : List Expr} {m : M O} {ma : M (List D)} {x : Str} {p pos apos cpos : Pos} {id T : String} {r : List V → Hp → VK → Prop}
def xCn (g : List D → Option O) (ma : M (List D)) : M O := bnd ma fun ds => ofO (g ds)
@[simp] theorem xCn_app (g : List D → Option O) (ma : M (List D)) (s : S) : xCn g ma s = (ma s).bind fun ds => ofO (g ds) := rfl
theorem cn_t {g : List D → Option O} (hr : CnD G r g) {σ : L2.St} {H : Hp} {Q : VK} (q : tO G W (xCn g ma) σ H Q) : tCB r (tAs G W ma) σ H Q := by
  show tAs G W ma σ H fun vs H1 => r vs H1 Q
  refine q.seq bkO _ (fun ds vs c c1 st1 r1 g1 p1 w => ?_)
  obtain ⟨o, eo, q3⟩ := wp_ofO.mp w
  exact hr st1 σ c1 vs ds o Q r1 p1 eo q3
theorem c1_t {g : D → Option O} (hr : UnD G (fun x => r [x]) g) {σ : L2.St} {H : Hp} {Q : VK} (q : tO G W (xUn g m) σ H Q) : tCB r (tCons (tLa G W m) tNil) σ H Q := by
  show tLa G W m σ H fun x H1 => r [x] H1 Q
  exact un_t hr q
theorem x_b1 {g : D → Option O} (hc : CallR X (.builtin id) r) (hr : UnD G (fun x => r [x]) g) (hg : Gl X x) (hm : X.mg x = none) (hv : bootBuiltins x = some (.builtin id)) (ha : PE X e (tLa G W m)) (hn : x ≠ "__name__" := by decide) (hdb : (x == ("__debug__" : Str)) = false := by decide)
    (he : starEach [e] X.env = (false, eval e X.env) :: starEach [] X.env := by rfl) (hpl : (backTo pos (starEach [] X.env)).any (·.1) = false := by rfl) : PE X (.Call (.Name x p) [e] [] pos) (tO G W (xUn g m)) :=
  (pe_callB hc hg hm hv (pa_cons ha pa_nil he) hn hdb he hpl).weak fun _ _ _ q => c1_t hr q
theorem x_bn {g : List D → Option O} (hc : CallR X (.builtin id) r) (hr : CnD G r g) (hg : Gl X x) (hm : X.mg x = none) (hv : bootBuiltins x = some (.builtin id)) (ha : PA X (e :: es) (tAs G W ma)) (hn : x ≠ "__name__" := by decide) (hdb : (x == ("__debug__" : Str)) = false := by decide)
    (he : starEach (e :: es) X.env = (false, eval e X.env) :: starEach es X.env := by rfl) (hpl : (backTo pos (starEach es X.env)).any (·.1) = false := by rfl) : PE X (.Call (.Name x p) (e :: es) [] pos) (tO G W (xCn g ma)) :=
  (pe_callB hc hg hm hv ha hn hdb he hpl).weak fun _ _ _ q => cn_t hr q
theorem x_t1 {g : D → Option O} (hc : CallR X (.type T) r) (hr : UnD G (fun x => r [x]) g) (hg : Gl X x) (hm : X.mg x = none) (hv : bootBuiltins x = some (.type T)) (ha : PE X e (tLa G W m)) (hn : x ≠ "__name__" := by decide) (hdb : (x == ("__debug__" : Str)) = false := by decide)
    (he : starEach [e] X.env = (false, eval e X.env) :: starEach [] X.env := by rfl) (hpl : (backTo pos (starEach [] X.env)).any (·.1) = false := by rfl) : PE X (.Call (.Name x p) [e] [] pos) (tO G W (xUn g m)) :=
  (pe_callTy hc hg hm hv (pa_cons ha pa_nil he) hn hdb he hpl).weak fun _ _ _ q => c1_t hr q
/-- a built-in type as a value -/
theorem x_ty {n : String} (hg : Gl X x) (hm : X.mg x = none) (hv : bootBuiltins x = some (.type n)) (hn : x ≠ "__name__" := by decide) (hd : (x == ("__debug__" : Str)) = false := by decide) : PE X (.Name x pos) (tD G W (ret (.ty n))) :=
  (pe_bltn (v := .ty n) hg hm hv rfl hn hd).weak fun σ H Q q => by
    obtain ⟨c, st, rfl, r, h⟩ := q
    exact h _ c r (GoE.refl r) (.ty n)
/-! ### methods of texts -/
def MnD (G : Gi) (r : V → List V → Hp → VK → Prop) (g : D → List D → Option O) : Prop := ∀ (st : S) (σ : L2.St) (c : Cf) (x : V) (vs : List V) (ox : O) (fx : List Addr) (ds : List D) (o : O) (Q : VK), Rel G st σ c →
  OwnT G c.F c.al c.H ox x fx → RpA G c.F c.al vs ds → g ox.toD ds = some o → (∀ v c', Rel G st σ c' → GoE c c' → PrO G o c c' v → Q v c'.H) → r x vs c.H Q
def isS : D → Bool
  | .str _ => true
  | _ => false
def xM1 (g : D → List D → Option O) (m : M O) (md : M D) : M O := bnd m fun x => if isS x.toD = true then bnd md fun d => ofO (g x.toD [d]) else fun _ => .no
def xM0 (g : D → List D → Option O) (m : M O) : M O := bnd m fun x => if isS x.toD = true then ofO (g x.toD []) else fun _ => .no
@[simp] theorem xM1_app (g : D → List D → Option O) (m : M O) (md : M D) (s : S) : xM1 g m md s = (m s).bind fun x => if isS x.toD = true then bnd md fun d => ofO (g x.toD [d]) else fun _ => .no := rfl
@[simp] theorem xM0_app (g : D → List D → Option O) (m : M O) (s : S) : xM0 g m s = (m s).bind fun x => if isS x.toD = true then ofO (g x.toD []) else fun _ => .no := rfl
theorem view_str {c : Cf} {v : V} {d : D} (h : Vi G c v d) (k : isS d = true) : ∃ a, v = .str a := by
  cases d with
  | str s => exact ⟨s, h⟩
  | _ => cases k
theorem m1_t {r : V → List V → Hp → VK → Prop} {g : D → List D → Option O} {md : M D} (hr : MnD G r g) {σ : L2.St} {H : Hp} {Q : VK} (q : tO G W (xM1 g m md) σ H Q) : tM1 r (tBr G W m) (tD G W md) σ H Q := by
  show tBr G W m σ H fun x H1 => (∃ a, x = .str a) ∧ tD G W md σ H1 fun y H2 => r x [y] H2 Q
  refine q.seq bkO _ (fun ox x c c1 st1 r1 g1 p1 w => ?_)
  obtain ⟨fx, tx, kx⟩ := p1
  split at w
  · rename_i hs
    refine ⟨view_str (own_view r1 tx) hs, ?_⟩
    refine tG.seq1 bkO r1 w _ (fun d y c2 st2 r2 g2 p2 w2 => ?_)
    obtain ⟨o, eo, q3⟩ := wp_ofO.mp w2
    exact hr st2 σ c2 x [y] ox fx [d] o Q r2 (kx.go tx g2) (.cons p2 .nil) eo q3
  · exact w.elim
theorem m0_t {r : V → List V → Hp → VK → Prop} {g : D → List D → Option O} (hr : MnD G r g) {σ : L2.St} {H : Hp} {Q : VK} (q : tO G W (xM0 g m) σ H Q) : tM0 r (tBr G W m) σ H Q := by
  show tBr G W m σ H fun x H1 => (∃ a, x = .str a) ∧ r x [] H1 Q
  refine q.seq bkO _ (fun ox x c c1 st1 r1 g1 p1 w => ?_)
  obtain ⟨fx, tx, kx⟩ := p1
  split at w
  · rename_i hs
    obtain ⟨o, eo, q3⟩ := wp_ofO.mp w
    exact ⟨view_str (own_view r1 tx) hs, hr st1 σ c1 x [] ox fx [] o Q r1 tx .nil eo q3⟩
  · exact w.elim
end
/-! ### built-ins by their values -/
section
variable {G : Gi}
def lenD : D → Option O
  | .str s => if s.length ≤ 16777216 then some (.fz (.int s.length)) else none
  | .lst ds => some (.fz (.int ds.length))
  | .lsk ds => some (.fz (.int ds.length))
  | .tup ds => some (.fz (.int ds.length))
  | .tuk ds => some (.fz (.int ds.length))
  | .tun ds => some (.fz (.int ds.length))
  | _ => none
theorem d_len : UnD G (fun x => L2.Pc.rLen G.K [x]) lenD := by
  intro st σ c x ox fx o Q r tx e q
  have vx := own_view r tx
  generalize ox.toD = dx at *
  unfold lenD at e
  split at e
  · split at e
    · rename_i hl
      cases e
      obtain rfl : x = _ := vx
      exact ⟨_, _, rfl, ⟨by rw [szl]; exact hl, rfl⟩, fin r (.int _) q⟩
    · cases e
  · cases e
    obtain ⟨a, xs, rfl, hx, rx⟩ := vx
    exact ⟨_, _, rfl, .inl ⟨xs, .inl (.inl hx), rx.len.symm⟩, fin r (.int _) q⟩
  · cases e
    obtain ⟨a, xs, rfl, hx, rx⟩ := vx
    exact ⟨_, _, rfl, .inl ⟨xs, hx, rx.len.symm⟩, fin r (.int _) q⟩
  · cases e
    obtain ⟨a, xs, rfl, hx, rx, _⟩ := vx
    exact ⟨_, _, rfl, .inr ⟨xs, hx, rx.len.symm⟩, fin r (.int _) q⟩
  · cases e
    obtain ⟨a, xs, rfl, hx, rx⟩ := vx
    exact ⟨_, _, rfl, .inr ⟨xs, hx, rx.len.symm⟩, fin r (.int _) q⟩
  · cases e
    obtain ⟨a, xs, rfl, hx, rx, _⟩ := vx
    exact ⟨_, _, rfl, .inr ⟨xs, hx, rx.len.symm⟩, fin r (.int _) q⟩
  · cases e
def absD : D → Option O
  | .int i => some (.fz (.int (if i < 0 then -i else i)))
  | _ => none
theorem d_abs : UnD G (fun x => rAbs [x]) absD := by
  intro st σ c x ox fx o Q r tx e q
  have vx := own_view r tx
  generalize ox.toD = dx at *
  unfold absD at e
  split at e
  · cases e
    obtain rfl : x = _ := vx
    exact ⟨_, rfl, fin r (.int _) q⟩
  · cases e
def intD : D → Option O
  | .int i => some (.fz (.int i))
  | .bl b => some (.fz (.int (if b then 1 else 0)))
  | .str s => if s.length ≤ 640 then (PySem.intText? s).map fun n => .fz (.int n) else none
  | _ => none
def strD : D → Option O
  | .int i => if i.natAbs.log2 < 1920 then some (.fz (.str (toString i))) else none
  | .str s => some (.fz (.str s))
  | _ => none
/-- repr of data without own classes -/
def reprD (d : D) : Option O := (D.py true d).bind fun p => if p.showable = true ∧ p.depth ≤ 60 ∧ p.shown.length ≤ 16777216 then some (.fz (.str p.shown)) else none
theorem d_repr : UnD G (fun x => rRepr G.K [x]) reprD := by
  intro st σ c x ox fx o Q r tx e q
  unfold reprD at e
  obtain ⟨p, h1, h2⟩ := bind_some e
  split at h2
  · rename_i h
    cases h2
    exact ⟨x, p, rfl, own_da r.sub tx h1, h.1, h.2.1, by rw [szl]; exact h.2.2, fin r (.str _) q⟩
  · cases h2
/-- truths in a list -/
def blsD : List D → Option (List Bool)
  | [] => some []
  | .bl b :: ds => (blsD ds).map (b :: ·)
  | _ => none
theorem rp_bls {F : Hp} {al : List Addr} : ∀ {ds : List D} {vs : List V} {bs : List Bool}, RpA G F al vs ds → blsD ds = some bs → vs = bs.map V.bl
  | _, _, _, .nil, h => by cases h; rfl
  | d :: ds, _, _, .cons h hs, e => by
    unfold blsD at e
    split at e
    · rename_i h0; cases h0
    · rename_i b ds' h0
      cases h0
      obtain ⟨bs', h1, rfl⟩ := map_some e
      cases h
      rw [rp_bls hs h1]; rfl
    · cases e
def allD : D → Option O
  | .lst ds => (blsD ds).map fun bs => .fz (.bl (bs.all id))
  | _ => none
theorem d_all : UnD G (fun x => L2.rAll G.K [x]) allD := by
  intro st σ c x ox fx o Q r tx e q
  have vx := own_view r tx
  generalize ox.toD = dx at *
  unfold allD at e
  split at e
  · obtain ⟨bs, h1, rfl⟩ := map_some e
    obtain ⟨a, xs, rfl, hx, rx⟩ := vx
    rw [rp_bls rx h1] at hx
    exact ⟨a, bs, rfl, .inl (.inl hx), fin r (.bl _) q⟩
  · cases e
/-- tuple(x), list(x) of what is walked by places -/
def tupleD : D → Option O
  | .lst ds => some (.fz (.tup ds))
  | .lsk ds => some (.fz (.tup ds))
  | .tup ds => some (.fz (.tup ds))
  | _ => none
def rTupOf (K : PySem.W.Frag) : List V → Hp → VK → Prop := fun xs H Q => ∃ p ys, xs = [.ref p] ∧ ((SqL K H p ys ∧ ∀ l, H l = none → Q (.ref l) (upd H l (.tup ys))) ∨ (SqT K H p ys ∧ Q (.ref p) H))
theorem call_tupK {X : Cx} {K : PySem.W.Frag} (hK : X.K = K) : CallR X (.type "tuple") (rTupOf K) := hK ▸ call_tuple_of
theorem d_tuple : UnD G (fun x => rTupOf G.K [x]) tupleD := by
  intro st σ c x ox fx o Q r tx e q
  have vx := own_view r tx
  generalize ox.toD = dx at *
  unfold tupleD at e
  split at e
  · cases e
    obtain ⟨a, xs, rfl, hx, rx⟩ := vx
    exact ⟨a, xs, rfl, .inl ⟨.inl (.inl hx), finT r rx q⟩⟩
  · cases e
    obtain ⟨a, xs, rfl, hx, rx⟩ := vx
    exact ⟨a, xs, rfl, .inl ⟨hx, finT r rx q⟩⟩
  · cases e
    obtain ⟨a, xs, rfl, hx, rx, rp⟩ := vx
    exact ⟨a, xs, rfl, .inr ⟨hx, fin r rp q⟩⟩
  · cases e
def listD : D → Option O
  | .lst ds => some (.lst ds)
  | .lsk ds => some (.lst ds)
  | .tup ds => some (.lst ds)
  | .tuk ds => some (.lst ds)
  | .tun ds => some (.lst ds)
  | _ => none
def rLstOf (K : PySem.W.Frag) : List V → Hp → VK → Prop := fun xs H Q => ∃ p ys, xs = [.ref p] ∧ (SqL K H p ys ∨ SqT K H p ys) ∧ ∀ l, H l = none → Q (.ref l) (upd H l (.lst ys))
theorem call_lstK {X : Cx} {K : PySem.W.Frag} (hK : X.K = K) : CallR X (.type "list") (rLstOf K) := hK ▸ call_list_of
theorem d_list : UnD G (fun x => rLstOf G.K [x]) listD := by
  intro st σ c x ox fx o Q r tx e q
  have vx := own_view r tx
  generalize ox.toD = dx at *
  unfold listD at e
  split at e
  · cases e; obtain ⟨a, xs, rfl, hx, rx⟩ := vx; exact ⟨a, xs, rfl, .inl (.inl (.inl hx)), finL r rx q⟩
  · cases e; obtain ⟨a, xs, rfl, hx, rx⟩ := vx; exact ⟨a, xs, rfl, .inl hx, finL r rx q⟩
  · cases e; obtain ⟨a, xs, rfl, hx, rx, _⟩ := vx; exact ⟨a, xs, rfl, .inr hx, finL r rx q⟩
  · cases e; obtain ⟨a, xs, rfl, hx, rx⟩ := vx; exact ⟨a, xs, rfl, .inr hx, finL r rx q⟩
  · cases e; obtain ⟨a, xs, rfl, hx, rx, _⟩ := vx; exact ⟨a, xs, rfl, .inr hx, finL r rx q⟩
  · cases e
/-! ### in -/
def flatD : D → Bool
  | .non => true
  | .bl _ => true
  | .int _ => true
  | .str _ => true
  | _ => false
def eqF : D → D → Bool
  | .non, .non => true
  | .bl a, .bl b => a == b
  | .bl a, .int b => (if a then 1 else 0) == b
  | .int a, .bl b => a == (if b then 1 else 0)
  | .int a, .int b => a == b
  | .str a, .str b => a == b
  | _, _ => false
theorem flat_view {c : Cf} {v : V} {d : D} (h : Vi G c v d) (k : flatD d = true) : flatV v = true := by
  cases d with
  | non => obtain rfl : v = _ := h; rfl
  | bl _ => obtain rfl : v = _ := h; rfl
  | int _ => obtain rfl : v = _ := h; rfl
  | str _ => obtain rfl : v = _ := h; rfl
  | _ => cases k
theorem eqF_view {c : Cf} {v u : V} {d e : D} (h : Vi G c v d) (h2 : Vi G c u e) (k : flatD d = true) (k2 : flatD e = true) : eqV v u = eqF d e := by
  cases d with
  | non => cases e <;> first | (obtain rfl : v = _ := h; obtain rfl : u = _ := h2; rfl) | cases k2
  | bl _ => cases e <;> first | (obtain rfl : v = _ := h; obtain rfl : u = _ := h2; rfl) | cases k2
  | int _ => cases e <;> first | (obtain rfl : v = _ := h; obtain rfl : u = _ := h2; rfl) | cases k2
  | str _ => cases e <;> first | (obtain rfl : v = _ := h; obtain rfl : u = _ := h2; rfl) | cases k2
  | _ => cases k
theorem in_flat {st : S} {σ : L2.St} {c : Cf} {x : V} {d : D} (r : Rel G st σ c) (hx : Vi G c x d) (k : flatD d = true) : ∀ {vs : List V} {ds : List D}, RpA G c.F c.al vs ds → ds.all flatD = true →
    vs.all flatV = true ∧ inV x vs = ds.any fun y => eqF y d
  | _, _, .nil, _ => ⟨rfl, rfl⟩
  | _, _, .cons h hs, e => by
    rw [List.all_cons, Bool.and_eq_true] at e
    obtain ⟨i1, i2⟩ := in_flat r hx k hs e.2
    have vv := rp_view r h
    refine ⟨by rw [List.all_cons, flat_view vv e.1, i1]; rfl, ?_⟩
    show (eqV _ x || inV x _) = _
    rw [i2, eqF_view vv hx e.1 k, List.any_cons]
def itemsD : D → Option (List D)
  | .lst ds => some ds
  | .lsk ds => some ds
  | .tup ds => some ds
  | .tuk ds => some ds
  | .tun ds => some ds
  | _ => none
theorem items_view {c : Cf} {v : V} {d : D} {es : List D} (h : Vi G c v d) (hi : itemsD d = some es) : ∃ p xs, v = .ref p ∧ (SqL G.K c.H p xs ∨ SqT G.K c.H p xs) ∧ RpA G c.F c.al xs es := by
  cases d with
  | lst _ => cases hi; obtain ⟨a, xs, rfl, hx, rx⟩ := h; exact ⟨a, xs, rfl, .inl (.inl (.inl hx)), rx⟩
  | lsk _ => cases hi; obtain ⟨a, xs, rfl, hx, rx⟩ := h; exact ⟨a, xs, rfl, .inl hx, rx⟩
  | tup _ => cases hi; obtain ⟨a, xs, rfl, hx, rx, _⟩ := h; exact ⟨a, xs, rfl, .inr hx, rx⟩
  | tuk _ => cases hi; obtain ⟨a, xs, rfl, hx, rx⟩ := h; exact ⟨a, xs, rfl, .inr hx, rx⟩
  | tun _ => cases hi; obtain ⟨a, xs, rfl, hx, rx, _⟩ := h; exact ⟨a, xs, rfl, .inr hx, rx⟩
  | _ => cases hi
def inB (x y : D) : Option Bool := match x, y with
  | .str a, .str z => if a.length = 1 then some (decide (a.cps.toList.getD 0 0 ∈ z.cps.toList)) else none
  | x, y => match itemsD y with
    | some ds => if flatD x = true ∧ ds.all flatD = true then some (ds.any fun y => eqF y x) else none
    | none => none
def inD (x y : D) : Option O := (inB x y).map fun b => .fz (.bl b)
def ninD (x y : D) : Option O := (inB x y).map fun b => .fz (.bl (!b))
theorem in_ok {st : S} {σ : L2.St} {c : Cf} {x y : V} {ox oy : O} {fx fy : List Addr} {b : Bool} (r : Rel G st σ c) (tx : OwnT G c.F c.al c.H ox x fx) (ty : OwnT G c.F c.al c.H oy y fy) (e : inB ox.toD oy.toD = some b) :
    (∃ (n : Nat) (z : Str), x = .str ⟨#[n]⟩ ∧ y = .str z ∧ b = decide (n ∈ z.cps.toList)) ∨ ∃ p xs, y = .ref p ∧ (SqL G.K c.H p xs ∨ SqT G.K c.H p xs) ∧ flatV x = true ∧ xs.all flatV = true ∧ b = inV x xs := by
  have vx := own_view r tx
  have vy := own_view r ty
  generalize ox.toD = dx at *
  generalize oy.toD = dy at *
  unfold inB at e
  split at e
  · rename_i a z
    split at e
    · rename_i hl
      cases e
      obtain rfl : x = _ := vx
      obtain rfl : y = _ := vy
      obtain ⟨n, hn⟩ : ∃ n, a.cps.toList = [n] := by
        have : a.cps.toList.length = 1 := by rw [← L2.Pc.len_list]; exact hl
        cases h : a.cps.toList with
        | nil => rw [h] at this; cases this
        | cons n l => cases l with
          | nil => exact ⟨n, rfl⟩
          | cons _ _ => rw [h] at this; simp at this
      refine .inl ⟨n, z, ?_, rfl, by rw [hn]; rfl⟩
      rw [show a = (⟨#[n]⟩ : Str) from str_ext hn]
    · cases e
  · split at e
    · rename_i ds hi
      split at e
      · rename_i hf
        cases e
        obtain ⟨p, xs, rfl, hs, rx⟩ := items_view vy hi
        obtain ⟨i1, i2⟩ := in_flat r vx hf.1 rx hf.2
        exact .inr ⟨p, xs, rfl, hs, flat_view vx hf.1, i1, i2.symm⟩
      · cases e
    · cases e
theorem d_in : OpD G (rInM G.K false) inD := by
  intro st σ c x y ox oy fx fy o Q r tx ty e q
  obtain ⟨b, h1, rfl⟩ := map_some e
  rcases in_ok r tx ty h1 with ⟨n, z, rfl, rfl, rfl⟩ | ⟨p, xs, rfl, h2, h3, h4, rfl⟩
  · exact .inl ⟨n, z, rfl, rfl, fin r (.bl _) q⟩
  · exact .inr ⟨p, xs, rfl, h2, h3, h4, fin r (.bl _) q⟩
theorem d_nin : OpD G (rInM G.K true) ninD := by
  intro st σ c x y ox oy fx fy o Q r tx ty e q
  obtain ⟨b, h1, rfl⟩ := map_some e
  rcases in_ok r tx ty h1 with ⟨n, z, rfl, rfl, rfl⟩ | ⟨p, xs, rfl, h2, h3, h4, rfl⟩
  · exact .inl ⟨n, z, rfl, rfl, fin r (.bl _) q⟩
  · exact .inr ⟨p, xs, rfl, h2, h3, h4, fin r (.bl _) q⟩
/-! ### methods of texts, by their values -/
def strsD : List D → Option (List Str)
  | [] => some []
  | .str b :: ds => (strsD ds).map (b :: ·)
  | _ => none
theorem rp_strs {F : Hp} {al : List Addr} : ∀ {ds : List D} {vs : List V} {bs : List Str}, RpA G F al vs ds → strsD ds = some bs → vs = bs.map V.str
  | _, _, _, .nil, h => by cases h; rfl
  | d :: ds, _, _, .cons h hs, e => by
    unfold strsD at e
    split at e
    · rename_i h0; cases h0
    · rename_i b ds' h0
      cases h0
      obtain ⟨bs', h1, rfl⟩ := map_some e
      cases h
      rw [rp_strs hs h1]; rfl
    · cases e
def joinD (x : D) (ds : List D) : Option O := match x, ds with
  | .str a, [d] => match itemsD d with
    | some es => (strsD es).bind fun ys => if (ys.map (·.length)).sum + ys.length * a.length ≤ 16777216 then some (.fz (.str (Txt.join a ys))) else none
    | none => none
  | _, _ => none
theorem d_join : MnD G (L2.Pc.rJoin G.K) joinD := by
  intro st σ c x vs ox fx ds o Q r tx rv e q
  have vx := own_view r tx
  generalize ox.toD = dx at *
  unfold joinD at e
  split at e
  · rename_i a d
    split at e
    · rename_i es hi
      obtain ⟨ys, h1, h2⟩ := bind_some e
      split at h2
      · rename_i hl
        cases h2
        obtain rfl : x = _ := vx
        cases rv with
        | cons h hs =>
          cases hs
          have vd := rp_view r h
          obtain ⟨p, xs, rfl, hsq, rx⟩ := items_view vd hi
          rw [rp_strs rx h1] at hsq
          exact ⟨a, p, ys, rfl, rfl, hsq, hl, fin r (.str _) q⟩
      · cases h2
    · cases e
  · cases e
def stripD (x : D) (ds : List D) : Option O := match x, ds with
  | .str a, [.str b] => if a.length ≤ 16777216 then some (.fz (.str (Txt.stripChars a b))) else none
  | _, _ => none
theorem d_strip : MnD G rStrip stripD := by
  intro st σ c x vs ox fx ds o Q r tx rv e q
  have vx := own_view r tx
  generalize ox.toD = dx at *
  unfold stripD at e
  split at e
  · split at e
    · rename_i hl
      cases e
      obtain rfl : x = _ := vx
      cases rv with
      | cons h hs => cases h; cases hs; exact ⟨_, _, rfl, rfl, by rw [szl]; exact hl, fin r (.str _) q⟩
    · cases e
  · cases e
def zfillD (x : D) (ds : List D) : Option O := match x, ds with
  | .str a, [.int i] => if PadOk i = true then some (.fz (.str (Txt.zfill a i))) else none
  | _, _ => none
def upperD (x : D) (ds : List D) : Option O := match x, ds with
  | .str a, [] => if a.length ≤ 5592405 then some (.fz (.str (Txt.upper a))) else none
  | _, _ => none
theorem d_upper : MnD G rUpper upperD := by
  intro st σ c x vs ox fx ds o Q r tx rv e q
  have vx := own_view r tx
  generalize ox.toD = dx at *
  unfold upperD at e
  split at e
  · split at e
    · rename_i hl
      cases e
      obtain rfl : x = _ := vx
      cases rv
      exact ⟨_, rfl, rfl, hl, fin r (.str _) q⟩
    · cases e
  · cases e
/-! ### isinstance of data -/
def clsName : D → Option String
  | .non => some "NoneType"
  | .bl _ => some "bool"
  | .int _ => some "int"
  | .str _ => some "str"
  | .tup _ => some "tuple"
  | .tuk _ => some "tuple"
  | .tun _ => some "tuple"
  | .lst _ => some "list"
  | .lsk _ => some "list"
  | .dct _ => some "dict"
  | _ => none
theorem rd_ty {K : PySem.W.Frag} {H : Hp} {a : Addr} {kvs : List (Key × V)} (h : Rd H a (.dK kvs)) : TyX K H (.ref a) (.type "dict") := by
  rcases h with h | ⟨o, h⟩
  · exact .base (.dK h)
  · exact .fDict h
theorem sqL_ty {K : PySem.W.Frag} {H : Hp} {a : Addr} {xs : List V} (h : SqL K H a xs) : TyX K H (.ref a) (.type "list") := by
  rcases h with (h | ⟨o, h⟩) | ⟨o, its, n, h, hc, _⟩
  · exact .base (.lst h)
  · exact .base (.frz h)
  · exact .kList h hc
theorem sqT_ty {K : PySem.W.Frag} {H : Hp} {a : Addr} {xs : List V} (h : SqT K H a xs) : TyX K H (.ref a) (.type "tuple") := by
  rcases h with (h | ⟨o, h⟩) | ⟨o, its, n, h, hc, _⟩
  · exact .base (.tup h)
  · exact .fTuple h
  · exact .kTuple h hc
theorem rp_ty {st : S} {σ : L2.St} {c : Cf} {v : V} {d : D} {k : String} (r : Rel G st σ c) (t : Rp G c.F c.al v d) (e : clsName d = some k) : TyX G.K c.H v (.type k) := by
  cases t with
  | non => cases e; exact .base .non
  | bl b => cases e; exact .base (.bl b)
  | int i => cases e; exact .base (.int i)
  | str x => cases e; exact .base (.str x)
  | tup h hs => cases e; exact sqT_ty (.inl (.inl (r.sub _ _ h)))
  | tuk h hs => cases e; exact sqT_ty (r.rdT h)
  | tun h k hs => cases e; exact sqT_ty (sqT_fz (r.sub _ _ h))
  | lst h hs => cases e; exact sqL_ty (.inl (.inl (r.sub _ _ h)))
  | lsk h hs => cases e; exact sqL_ty (r.rdL h)
  | dcK h q hs => cases e; exact rd_ty (rd_mo r.sub h)
  | _ => cases e
/-- what isinstance tells of a kind and a built-in type -/
def kindIs : String → String → Option Bool
  | k, "str" => some (k == "str")
  | k, "int" => some (k == "int" || k == "bool")
  | k, "bool" => some (k == "bool")
  | k, "tuple" => some (k == "tuple")
  | k, "list" => some (k == "list")
  | k, "dict" => some (k == "dict")
  | _, _ => none
theorem kind_kit {d : D} {k n : String} {b : Bool} (e : clsName d = some k) (h : kindIs k n = some b) : kitB k n = some b := by
  have all : ∀ k ∈ ["NoneType", "bool", "int", "str", "tuple", "list", "dict"], ∀ n ∈ ["str", "int", "bool", "tuple", "list", "dict"], kitB k n = kindIs k n := by decide +kernel
  have hk : k ∈ ["NoneType", "bool", "int", "str", "tuple", "list", "dict"] := by
    cases d <;> cases e <;> decide
  have hn : n ∈ ["str", "int", "bool", "tuple", "list", "dict"] := by
    unfold kindIs at h
    split at h <;> first | decide | cases h
  rw [all k hk n hn, h]
def isiD : List D → Option O
  | [x, .ty n] => (clsName x).bind fun k => (kindIs k n).map fun b => .fz (.bl b)
  | _ => none
theorem d_isi : CnD G (rIsi G.K) isiD := by
  intro st σ c vs ds o Q r rv e q
  unfold isiD at e
  split at e
  · rename_i x n
    obtain ⟨k, h1, h2⟩ := bind_some e
    obtain ⟨b, h3, rfl⟩ := map_some h2
    cases rv with
    | cons h hs =>
      cases hs with
      | cons h' hs' =>
        cases h'
        cases hs'
        exact ⟨_, .ty n, _, _, b, rfl, .ty _, rp_ty r h h1, kit_ty (kind_kit h1 h3), fin r (.bl _) q⟩
  · cases e
end
end L2.Tr
namespace L2.Tr
open PySem PySem.Spec PyProof.Rows L2 L2.Pc
/-! ### short words for derivations -/
section
variable {X : Cx} {G : Gi} {W : WX} {e : Expr} {m : M O} {pos : Pos}
theorem noPass {σ : L2.St} : PassesAt (L2.CX X.prog X.w) X σ (WE noW σ) := fun _ _ _ _ _ _ c => by
  obtain ⟨_, _, _, _, _, _, _, _, _, _, _, _, h⟩ := c
  exact h.elim
theorem nog {p : Prop} : false = true → p := fun z => by cases z
theorem tv (i : Nat) {x : Str} (hN : X.N[i]? = some x := by rfl) (hv : Vis X.env.scope x := by first | exact Or.inl rfl | exact Or.inr (Or.inl rfl) | exact Or.inr (Or.inr rfl)) (hd : (x == ("__debug__" : Str)) = false := by decide)
    (hcd : (x == ("__classdict__" : Str)) = false := by decide) : PE X (.Name x pos) (tO G W (xVar i)) := x_var hN hv hd hcd
theorem tm (i : Nat) {x : Str} (hN : X.N[i]? = some x := by rfl) (hv : Vis X.env.scope x := by first | exact Or.inl rfl | exact Or.inr (Or.inl rfl) | exact Or.inr (Or.inr rfl)) (hd : (x == ("__debug__" : Str)) = false := by decide)
    (hcd : (x == ("__classdict__" : Str)) = false := by decide) : PE X (.Name x pos) (tO G W (xMov i)) := x_mov hN hv hd hcd
theorem tb (i : Nat) {x : Str} (hN : X.N[i]? = some x := by rfl) (hv : Vis X.env.scope x := by first | exact Or.inl rfl | exact Or.inr (Or.inl rfl) | exact Or.inr (Or.inr rfl)) (hd : (x == ("__debug__" : Str)) = false := by decide)
    (hcd : (x == ("__classdict__" : Str)) = false := by decide) : PE X (.Name x pos) (tBr G W (xBor i)) := x_bvar hN hv hd hcd
theorem tq (i : Nat) {x : Str} (hN : X.N[i]? = some x := by rfl) (hv : Vis X.env.scope x := by first | exact Or.inl rfl | exact Or.inr (Or.inl rfl) | exact Or.inr (Or.inr rfl)) (hd : (x == ("__debug__" : Str)) = false := by decide)
    (hcd : (x == ("__classdict__" : Str)) = false := by decide) : PE X (.Name x pos) (tQ G (qVar i)) := xq_var hN hv hd hcd
/-- a slot's thing, or what its cell holds -/
def xRd (i : Nat) : M O := fun s => match getS s.env i with
  | some (.fz (.cel n)) => (match getM s.mu n with
    | some o => .ok o s
    | none => .no)
  | some o => .ok o s
  | none => .no
theorem x_rd {i : Nat} {x : Str} (hN : X.N[i]? = some x) (hv : Vis X.env.scope x) (hd : (x == ("__debug__" : Str)) = false := by decide) (hcd : (x == ("__classdict__" : Str)) = false := by decide) : PE X (.Name x pos) (tLa G W (xRd i)) :=
  (pe_var hN hv hd hcd).weak fun σ H Q q => by
    obtain ⟨c, st, rfl, r, w⟩ := q
    unfold xRd at w
    split at w
    · rename_i n h
      split at w
      · rename_i o h2
        obtain ⟨v, f2, q1, q2, _⟩ := place (i := i) r (show getP st i = some o by unfold getP; rw [h]; exact h2)
        exact ⟨v, q1, w v c r (GoE.refl r) ⟨f2, q2⟩⟩
      · exact w.elim
    · rename_i o h1 h
      obtain ⟨v, g1, g2, g3, q1, q2, _⟩ := slots_get r.slots h
      exact ⟨v, q1, w v c r (GoE.refl r) ⟨g2, q2⟩⟩
    · exact w.elim
theorem tr (i : Nat) {x : Str} (hN : X.N[i]? = some x := by rfl) (hv : Vis X.env.scope x := by first | exact Or.inl rfl | exact Or.inr (Or.inl rfl) | exact Or.inr (Or.inr rfl)) (hd : (x == ("__debug__" : Str)) = false := by decide)
    (hcd : (x == ("__classdict__" : Str)) = false := by decide) : PE X (.Name x pos) (tLa G W (xRd i)) := x_rd hN hv hd hcd
theorem tc_int {i : Int} {j : Nat} : PE X (.Constant (.int i) j pos) (tO G W (xC (.int i))) := x_c pe_int fun _ _ => .int i
theorem tc_bl {b : Bool} {j : Nat} : PE X (.Constant (.bool b) j pos) (tO G W (xC (.bl b))) := x_c pe_bl fun _ _ => .bl b
theorem tc_non {j : Nat} : PE X (.Constant .none j pos) (tO G W (xC .non)) := x_c pe_non fun _ _ => .non
theorem tc_str {s : Str} {j : Nat} : PE X (.Constant (.str s) j pos) (tO G W (xC (.str s))) := x_c pe_str fun _ _ => .str s
theorem tq_int {i : Int} {j : Nat} : PE X (.Constant (.int i) j pos) (tQ G fun _ => some (.int i)) := xq_c pe_int fun _ _ => .int i
theorem tq_str {s : Str} {j : Nat} : PE X (.Constant (.str s) j pos) (tQ G fun _ => some (.str s)) := xq_c pe_str fun _ _ => .str s
/-- a module's constant -/
structure Gc (G : Gi) (x : Str) (d : D) : Prop where
  ex : ∃ v, Gm G.mg x v ∧ ∀ F al, Rp G F al v d
theorem tg {x : Str} {d : D} (h : Gc G x d) (hM : X.mg = G.mg) (hg : Gl X x) (hd : (x == ("__debug__" : Str)) = false := by decide) : PE X (.Name x pos) (tO G W (xC d)) := by
  obtain ⟨v, h1, h2⟩ := h.ex
  exact x_c (pe_gm (by rw [hM]; exact h1) hg hd) h2
end
/-! ### several values, owned -/
section
variable {G : Gi} {W : WX}
def PrAO (G : Gi) : List O → Cf → Cf → List V → Prop := fun os c c' vs => ∃ fp, OwnA G c'.F c'.al c'.H os vs fp ∧ Fresh fp c' ∧ New fp c
abbrev tAo (G : Gi) (W : WX) (m : M (List O)) : TA := tG G W (PrAO G) m
def oNil : M (List O) := ret []
def oCons (m : M O) (ms : M (List O)) : M (List O) := bnd m fun d => bnd ms fun ds => ret (d :: ds)
@[simp] theorem oNil_app (s : S) : oNil s = .ok [] s := rfl
@[simp] theorem oCons_app (m : M O) (ms : M (List O)) (s : S) : oCons m ms s = (m s).bind fun d s1 => (ms s1).bind fun ds => ret (d :: ds) := rfl
variable {X : Cx} {e : Expr} {es : List Expr} {m : M O} {ms : M (List O)}
theorem xo_nil : PA X [] (tAo G W oNil) := (pa_nil (X := X)).weak fun σ H Q q => by
  obtain ⟨c, st, rfl, r, h⟩ := q
  exact h [] c r (GoE.refl r) ⟨[], .nil, Fresh.nil _, New.nil _⟩
theorem ocons_t {σ : L2.St} {H : Hp} {Q : List V → Hp → Prop} (q : tAo G W (oCons m ms) σ H Q) : tCons (tO G W m) (tAo G W ms) σ H Q := by
  show tO G W m σ H fun x H1 => tAo G W ms σ H1 fun xs H2 => Q (x :: xs) H2
  obtain ⟨c0, st0, e0, r0, h0⟩ := q
  refine ⟨c0, st0, e0, r0, wp_mono (wp_bind.mp h0) (fun o st1 w v c1 r1 g1 p1 => ?_) (fun _ _ h => h)⟩
  obtain ⟨f1, t1, fr1, n1⟩ := p1
  refine ⟨c1, st1, rfl, r1, wp_mono (wp_bind.mp w) (fun os st2 w2 vs c2 r2 g2 p2 => ?_) (fun x s h => h.go g1)⟩
  obtain ⟨f2, t2, fr2, n2⟩ := p2
  obtain ⟨t1', fr1'⟩ := OwnT.go t1 fr1 g2.toGo
  refine w2 (v :: vs) c2 r2 (g1.trans g2) ⟨f1 ++ f2, .cons t1' t2, ?_, fun a ha => (List.mem_append.mp ha).elim (n1 a) (n2.go g1.toGo a)⟩
  refine ⟨List.nodup_append.mpr ⟨fr1'.nd, fr2.nd, fun a ha b hb e => ?_⟩, fun a ha => (List.mem_append.mp ha).elim (fr1'.nf a) (fr2.nf a), fun a ha => (List.mem_append.mp ha).elim (fr1'.ns a) (fr2.ns a),
    fun a ha => (List.mem_append.mp ha).elim (fr1'.nc a) (fr2.nc a)⟩
  subst e
  rcases n2 a hb with z | z | z
  · exact fr1.ns a ha z
  · exact fr1.nc a ha z
  · exact t1.there a ha z
theorem xo_cons (ha : PE X e (tO G W m)) (hr : PA X es (tAo G W ms)) (hs : starEach (e :: es) X.env = (false, eval e X.env) :: starEach es X.env := by rfl) : PA X (e :: es) (tAo G W (oCons m ms)) :=
  (pa_cons ha hr hs).weak fun _ _ _ q => ocons_t q
/-- a, b = x, y -/
def sPar (i j : Nat) (ms : M (List O)) : M Fl := bnd ms fun os s => match os with
  | [o, p] => .ok .nx ⟨setS (setS s.env i (some o)) j (some p), s.mu⟩
  | _ => .no
def sPar3 (i j l : Nat) (ms : M (List O)) : M Fl := bnd ms fun os s => match os with
  | [o, p, r] => .ok .nx ⟨setS (setS (setS s.env i (some o)) j (some p)) l (some r), s.mu⟩
  | _ => .no
/-- a slot stored to, the rest of what is at hand stays at hand -/
theorem rel_put2 {st : S} {σ : L2.St} {c0 c : Cf} {i : Nat} {o : O} {v : V} {fp fq : List Addr} (r : Rel G st σ c) (t : OwnT G c.F c.al c.H o v fp) (f : Fresh (fp ++ fq) c) (g : Go c0 c) (n : New fp c0) :
    ∃ c', c'.H = c.H ∧ Rel G ⟨setS st.env i (some o), st.mu⟩ (σ.set i (some v)) c' ∧ Go c0 c' ∧ c'.F = c.F ∧ c'.al = c.al ∧ Fresh fq c' := by
  have nd := List.nodup_append.mp f.nd
  have f1 : Fresh fp c := ⟨nd.1, fun a h => f.nf a (List.mem_append_left _ h), fun a h => f.ns a (List.mem_append_left _ h), fun a h => f.nc a (List.mem_append_left _ h)⟩
  obtain ⟨c', e, r', g', eF, eA, hs, hc⟩ := rel_put (i := i) r t f1 g n
  refine ⟨c', e, r', g', eF, eA, nd.2.1, fun a h => by rw [eF]; exact f.nf a (List.mem_append_right _ h), fun a h => hs a (fun z => nd.2.2 a z a h rfl) (f.ns a (List.mem_append_right _ h)), fun a h => by rw [hc]; exact f.nc a (List.mem_append_right _ h)⟩
theorem par_t {i j : Nat} {D' : Ends} {σ : L2.St} {H : Hp} (q : tS G W (sPar i j ms) D' σ H) : tPar i j (tAo G W ms) D' σ H := by
  show tAo G W ms σ H fun vs H1 => ∃ v w, vs = [v, w] ∧ D'.nx ((σ.set i (some v)).set j (some w)) H1
  refine tS.ex q _ (fun os vs c c1 st1 r1 g1 p1 w => ?_)
  obtain ⟨fp, t, f, n⟩ := p1
  split at w
  · rename_i o p
    cases t with
    | @cons _ v _ _ fa fb t1 ts =>
      cases ts with
      | @cons _ u _ _ fc fd t2 ts =>
        cases ts
        rw [List.append_nil] at f n
        refine ⟨v, u, rfl, ?_⟩
        obtain ⟨c2, e2, r2, g2, eF, eA, f2⟩ := rel_put2 (i := i) r1 t1 f g1.toGo (fun a h => n a (List.mem_append_left _ h))
        obtain ⟨c3, e3, r3, g3, _⟩ := rel_put (i := j) r2 (t2.mo (by rw [eF, eA]; exact Mo.refl _ _) fun a _ => by rw [e2]) f2 g2 (fun a h => n a (List.mem_append_right _ h))
        have w : Fw G D' c .nx _ := w
        rw [← e2, ← e3]
        exact w _ c3 r3 g3
  · exact w.elim
end
/-! ### chains of two comparisons -/
section
variable {X : Cx} {G : Gi} {W : WX} {a b c : Expr} {ma mb mc : M O} {pos : Pos}
/-- a < b < c -/
def xChain (g g' : D → D → Option O) (ma mb mc : M O) : M O := bnd ma fun x => bnd mb fun y => match (g x.toD y.toD).bind asB with
  | some true => bnd mc fun z => ofO (g' y.toD z.toD)
  | some false => ret (.fz (.bl false))
  | none => fun _ => .no
theorem asB_some {o : O} {b : Bool} (h : asB o = some b) : o = .fz (.bl b) := by
  unfold asB at h
  split at h
  · cases h; rfl
  · cases h
theorem chain_t {r r' : R2} {g g' : D → D → Option O} (hr : OpD G r g) (hr' : OpD G r' g') {σ : L2.St} {H : Hp} {Q : VK} (q : tO G W (xChain g g' ma mb mc) σ H Q) :
    tChain r r' (tBr G W ma) (tBr G W mb) (tLa G W mc) σ H Q := by
  show tBr G W ma σ H fun x H1 => tBr G W mb σ H1 fun y H2 => r x y H2 fun z H3 => ∃ k, z = .bl k ∧ (if k = true then tLa G W mc σ H3 fun w' H4 => r' y w' H4 Q else Q (.bl false) H3)
  refine q.seq bkO _ (fun ox x c c1 st1 r1 g1 p1 w => ?_)
  obtain ⟨fx, tx, kx⟩ := p1
  refine tG.seq1 bkO r1 w _ (fun oy y c2 st2 r2 g2 p2 w2 => ?_)
  obtain ⟨fy, ty, ky⟩ := p2
  cases e : (g ox.toD oy.toD).bind asB with
  | none => rw [e] at w2; exact w2.elim
  | some b =>
    rw [e] at w2
    obtain ⟨o, e1, e2⟩ := bind_some e
    obtain rfl := asB_some e2
    refine hr st2 σ c2 x y ox oy fx fy _ _ r2 (kx.go tx g2) ty e1 (fun v c3 r3 g3 p3 => ⟨b, prO_bl b _ _ _ p3, ?_⟩)
    have w2 := wp_mono w2 (fun (o : O) st' (q : ∀ u c', Rel G st' σ c' → GoE c2 c' → PrO G o c2 c' u → Q u c'.H) => (fun u c' r' g' p' => q u c' r' (g3.trans g') (bkO _ _ _ _ _ g3 p') : ∀ u c', Rel G st' σ c' → GoE c3 c' → PrO G o c3 c' u → Q u c'.H)) (fun x s q => q.go g3)
    cases b with
    | false => exact w2 _ c3 r3 (GoE.refl r3) (prO_fz (.bl _))
    | true =>
      rw [if_pos rfl]
      refine tG.seq1 bkO r3 w2 _ (fun oz z c4 st4 r4 g4 p4 w4 => ?_)
      obtain ⟨fz, tz⟩ := p4
      obtain ⟨o, eo, q3⟩ := wp_ofO.mp w4
      exact hr' st4 σ c4 y z oy oz fy fz o Q r4 (ky.go ty (g3.trans g4)) tz eo q3
theorem x_chain {op op' : CmpOp} {r r' : R2} {g g' : D → D → Option O} (ho : OpR X (compareOp op) r) (ho' : OpR X (compareOp op') r') (hr : OpD G r g) (hr' : OpD G r' g') (ha : PE X a (tBr G W ma)) (hb : PE X b (tBr G W mb)) (hc : PE X c (tLa G W mc))
    (hm : lastMarks [op, op'] [b, c] = false := by with_unfolding_all rfl) : PE X (.Compare a [op, op'] [b, c] pos) (tO G W (xChain g g' ma mb mc)) := (pe_chain ho ho' ha hb hc hm).weak fun _ _ _ q => chain_t hr hr' q
theorem xt_chain {op op' : CmpOp} {r r' : R2} {g g' : D → D → Option O} (ho : OpR X (compareOp op) r) (ho' : OpR X (compareOp op') r') (hr : OpD G r g) (hr' : OpD G r' g') (ha : PE X a (tBr G W ma)) (hb : PE X b (tBr G W mb)) (hc : PE X c (tLa G W mc))
    (hm : lastMarks [op, op'] [b, c] = false := by with_unfolding_all rfl) : PT X (.Compare a [op, op'] [b, c] pos) (tTs G W (toB (xChain g g' ma mb mc))) := (pt_chain ho ho' ha hb hc hm).weak fun _ _ _ q => by
  have q2 := test_t (prO_bl (G := G)) q
  exact chain_t hr hr' q2
/-- the last of and, or as a value -/
theorem x_one {op : BoolOp} (ha : PE X a (tO G W ma)) : PE X (.BoolOp op [a] pos) (tO G W ma) := pe_one ha
end
section
variable {X : Cx} {G : Gi} {W : WX} {ms : M (List O)} {pos : Pos}
theorem s_par {i j : Nat} {x y : Str} {a b : Expr} {px py pt : Pos} {kt k2 : Nat} {pt2 : Pos} (h : PS X (.Assign [.Tuple [.Name x px, .Name y py] kt pt] (.Tuple [a, b] k2 pt2) pos) (tPar i j (tAo G W ms))) :
    PS X (.Assign [.Tuple [.Name x px, .Name y py] kt pt] (.Tuple [a, b] k2 pt2) pos) (tS G W (sPar i j ms)) := h.weak fun _ _ _ q => par_t q
theorem tg_tupK {K : PySem.W.Frag} {gs : TGs} {ts : List MT} {n : Nat} (hK : G.K = K) (h : TgsOk G gs ts) (hn : ts.length = n := by rfl) : TgOk G (gTup K n gs) (gT ts) := hK ▸ tg_tup h hn
end
/-! ### max, min of some ints -/
end L2.Tr
namespace L2.Tr
open PySem PySem.Spec PyProof.Rows L2 L2.Pc
section
variable {X : Cx} {G : Gi} {W : WX} {e o : Expr} {m : M O} {md : M D} {pos apos cpos : Pos} {r : V → List V → Hp → VK → Prop} {g : D → List D → Option O} {id : String} {name : Str}
theorem x_m1 (slot : Slot "str" name id) (ty : typeOf (.builtin id) = pure (.type "method_descriptor")) (rule : MtR X id r) (hr : MnD G r g) (ho : PE X o (tBr G W m)) (he : PE X e (tD G W md))
    (hs : starEach [e] X.env = [(false, eval e X.env)] := by rfl) (hbase : attributeBase o name X.env (eval o X.env) = eval o X.env := by rfl) (hline : (apos.endLine == pos.line) = true := by rfl) :
    PE X (.Call (.Attribute o name apos) [e] [] pos) (tO G W (xM1 g m md)) := (pe_m1 slot ty rule ho he hs hbase hline).weak fun _ _ _ q => m1_t hr q
theorem x_m0 (slot : Slot "str" name id) (ty : typeOf (.builtin id) = pure (.type "method_descriptor")) (rule : MtR X id r) (hr : MnD G r g) (ho : PE X o (tBr G W m))
    (hbase : attributeBase o name X.env (eval o X.env) = eval o X.env := by rfl) (hline : (apos.endLine == pos.line) = true := by rfl) :
    PE X (.Call (.Attribute o name apos) [] [] pos) (tO G W (xM0 g m)) := (pe_m0 slot ty rule ho hbase hline).weak fun _ _ _ q => m0_t hr q
end
end L2.Tr
namespace L2.Tr
open PySem PySem.Spec PyProof.Rows L2 L2.Pc
/-! ### trees without cells -/
mutual
def noC : D → Bool
  | .cel _ => false
  | .tup xs => noCA xs
  | .lst xs => noCA xs
  | .lsk xs => noCA xs
  | .tuk xs => noCA xs
  | .tun xs => noCA xs
  | .dct kvs => noCK kvs
  | .dcu kvs => noCK kvs
  | .ins _ fs => noCF fs
  | .xob _ fs => noCF fs
  | .xok _ fs => noCF fs
  | .non => true
  | .bl _ => true
  | .int _ => true
  | .str _ => true
  | .fn _ => true
  | .ty _ => true
def noCA : List D → Bool
  | [] => true
  | d :: ds => noC d && noCA ds
def noCK : List (D × D) → Bool
  | [] => true
  | (_, d) :: ds => noC d && noCK ds
def noCF : List (Str × D) → Bool
  | [] => true
  | (_, d) :: ds => noC d && noCF ds
end
theorem noCF_map : ∀ fs : List (Str × D), noCF fs = noCA (fs.map (·.2))
  | [] => by rw [noCF]; rfl
  | (_, d) :: r => by rw [noCF, List.map_cons, noCA, noCF_map r]
theorem noCK_map : ∀ fs : List (D × D), noCK fs = noCA (fs.map (·.2))
  | [] => by rw [noCK]; rfl
  | (_, d) :: r => by rw [noCK, List.map_cons, noCA, noCK_map r]
mutual
theorem Rp.al {G : Gi} {F : Hp} {al al' : List Addr} : ∀ {v : V} {d : D}, Rp G F al v d → noC d = true → Rp G F al' v d
  | _, _, .non, _ => .non
  | _, _, .bl b, _ => .bl b
  | _, _, .int i, _ => .int i
  | _, _, .str x, _ => .str x
  | _, _, .tup h hs, n => by rw [noC] at n; exact .tup h (RpA.al hs n)
  | _, _, .tuk h hs, n => by rw [noC] at n; exact .tuk h (RpA.al hs n)
  | _, _, .tun h k hs, n => by rw [noC] at n; exact .tun h k (RpA.al hs n)
  | _, _, .lst h hs, n => by rw [noC] at n; exact .lst h (RpA.al hs n)
  | _, _, .lsk h hs, n => by rw [noC] at n; exact .lsk h (RpA.al hs n)
  | _, _, .dcK h k hs, n => by rw [noC, noCK_map] at n; exact .dcK h k (RpA.al hs n)
  | _, _, .dcT h k hs, n => by rw [noC, noCK_map] at n; exact .dcT h k (RpA.al hs n)
  | _, _, .ins h k m hs, n => by rw [noC, noCF_map] at n; exact .ins h k m (RpA.al hs n)
  | _, _, .cel h, n => by rw [noC] at n; cases n
  | _, _, .fn h, _ => .fn h
  | _, _, .ty n, _ => .ty n
  | _, _, .xob h q k m hs, n => by rw [noC, noCF_map] at n; exact .xob h q k m (RpA.al hs n)
  | _, _, .xob0 h q, _ => .xob0 h q
  | _, _, .xok h q k m hs, n => by rw [noC, noCF_map] at n; exact .xok h q k m (RpA.al hs n)
  | _, _, .xok0 h q, _ => .xok0 h q
theorem RpA.al {G : Gi} {F : Hp} {al al' : List Addr} : ∀ {vs : List V} {ds : List D}, RpA G F al vs ds → noCA ds = true → RpA G F al' vs ds
  | _, _, .nil, _ => .nil
  | _, _, .cons h hs, n => by rw [noCA, Bool.and_eq_true] at n; exact .cons (Rp.al h n.1) (RpA.al hs n.2)
end
mutual
def noCO : O → Bool
  | .fz d => noC d
  | .lst xs => noCA xs
  | .dct kvs => noCK kvs
  | .dcu kvs => noCK kvs
  | .ins _ fs => noCOF fs
  | .dco kvs => noCOK kvs
  | .dcv kvs => noCOK kvs
def noCOF : List (Str × O) → Bool
  | [] => true
  | (_, d) :: ds => noCO d && noCOF ds
def noCOK : List (D × O) → Bool
  | [] => true
  | (_, d) :: ds => noCO d && noCOK ds
end
def noCOA : List O → Bool
  | [] => true
  | d :: ds => noCO d && noCOA ds
theorem noCOF_map : ∀ fs : List (Str × O), noCOF fs = noCOA (fs.map (·.2))
  | [] => by rw [noCOF]; rfl
  | (_, d) :: r => by rw [noCOF, List.map_cons, noCOA, noCOF_map r]
theorem noCOK_map : ∀ fs : List (D × O), noCOK fs = noCOA (fs.map (·.2))
  | [] => by rw [noCOK]; rfl
  | (_, d) :: r => by rw [noCOK, List.map_cons, noCOA, noCOK_map r]
mutual
theorem OwnT.al {G : Gi} {F H : Hp} {al al' : List Addr} : ∀ {o : O} {v : V} {fp : List Addr}, OwnT G F al H o v fp → noCO o = true → OwnT G F al' H o v fp
  | _, _, _, .fz h, n => by rw [noCO] at n; exact .fz (h.al n)
  | _, _, _, .lst h hs, n => by rw [noCO] at n; exact .lst h (hs.al n)
  | _, _, _, .dcK h q hs, n => by rw [noCO, noCK_map] at n; exact .dcK h q (hs.al n)
  | _, _, _, .dcT h q hs, n => by rw [noCO, noCK_map] at n; exact .dcT h q (hs.al n)
  | _, _, _, .ins h q m hs, n => by rw [noCO, noCOF_map] at n; exact .ins h q m (OwnA.al hs n)
  | _, _, _, .dcoK h q hs, n => by rw [noCO, noCOK_map] at n; exact .dcoK h q (OwnA.al hs n)
  | _, _, _, .dcoT h q hs, n => by rw [noCO, noCOK_map] at n; exact .dcoT h q (OwnA.al hs n)
theorem OwnA.al {G : Gi} {F H : Hp} {al al' : List Addr} : ∀ {os : List O} {vs : List V} {fp : List Addr}, OwnA G F al H os vs fp → noCOA os = true → OwnA G F al' H os vs fp
  | _, _, _, .nil, _ => .nil
  | _, _, _, .cons h hs, n => by rw [noCOA, Bool.and_eq_true] at n; exact .cons (OwnT.al h n.1) (OwnA.al hs n.2)
end
/-! ### attributes -/
abbrev CTab := List (Str × List Str)
def okF (CT : CTab) (c f : Str) : Bool := match CT.lookup c with
  | some fl => fl.contains f
  | none => false
structure Kc (G : Gi) (CT : CTab) : Prop where
  ex : ∀ c f, okF CT c f = true → ∃ C, G.mg c = some (.ref C) ∧ Cls G.K C ∧ NoAttr G.K C f
def fldD (CT : CTab) (f : Str) : D → Option D
  | .ins c fs => if okF CT c f = true then fs.lookup f else none
  | _ => none
def fldO (CT : CTab) (f : Str) : O → Option O
  | .fz d => (fldD CT f d).map .fz
  | .ins c fs => if okF CT c f = true then fs.lookup f else none
  | _ => none
theorem lk_rp {G : Gi} {F : Hp} {al : List Addr} {f : Str} {d : D} : ∀ {fs : List (Str × V)} {ds : List (Str × D)}, ds.map (·.1) = fs.map (·.1) → RpA G F al (fs.map (·.2)) (ds.map (·.2)) → ds.lookup f = some d →
    ∃ v, fs.lookup f = some v ∧ Rp G F al v d
  | [], [], _, _, h => by cases h
  | [], _ :: _, e, _, _ => by cases e
  | _ :: _, [], e, _, _ => by cases e
  | (n, v) :: fs, (m, x) :: ds, e, .cons r rs, h => by
    rw [List.map_cons, List.map_cons] at e
    injection e with e1 e2
    have e1 : m = n := e1
    subst e1
    unfold List.lookup at h ⊢
    cases q : f == m with
    | true => rw [q] at h; cases h; exact ⟨v, rfl, r⟩
    | false => rw [q] at h; exact lk_rp e2 rs h
theorem lk_own {G : Gi} {F H : Hp} {al : List Addr} {f : Str} {d : O} : ∀ {fs : List (Str × V)} {ds : List (Str × O)} {fp : List Addr}, ds.map (·.1) = fs.map (·.1) → OwnA G F al H (ds.map (·.2)) (fs.map (·.2)) fp → ds.lookup f = some d →
    ∃ v fq, fs.lookup f = some v ∧ OwnT G F al H d v fq
  | [], [], _, _, _, h => by cases h
  | [], _ :: _, _, e, _, _ => by cases e
  | _ :: _, [], _, e, _, _ => by cases e
  | (n, v) :: fs, (m, x) :: ds, _, e, .cons r rs, h => by
    rw [List.map_cons, List.map_cons] at e
    injection e with e1 e2
    have e1 : m = n := e1
    subst e1
    unfold List.lookup at h ⊢
    cases q : f == m with
    | true => rw [q] at h; cases h; exact ⟨v, _, rfl, r⟩
    | false => rw [q] at h; exact lk_own e2 rs h
theorem own_ins {G : Gi} {F H : Hp} {al : List Addr} {c : Str} {os : List (Str × O)} {v : V} {fp : List Addr} (t : OwnT G F al H (.ins c os) v fp) : ∃ a C dx fs fq, v = .ref a ∧ fp = a :: fq ∧
    H a = some (.ins C dx fs) ∧ G.mg c = some (.ref C) ∧ os.map (·.1) = fs.map (·.1) ∧ OwnA G F al H (os.map (·.2)) (fs.map (·.2)) fq := by
  cases t with
  | ins h k n hs => exact ⟨_, _, _, _, _, rfl, rfl, h, k, n, hs⟩
theorem fld_own {G : Gi} {CT : CTab} {f : Str} {st : S} {σ : L2.St} {c : Cf} {o o' : O} {v : V} {fp : List Addr} (T : Kc G CT) (r : Rel G st σ c) (t : OwnT G c.F c.al c.H o v fp) (e : fldO CT f o = some o') :
    ∃ a C dx fs u fq, v = .ref a ∧ c.H a = some (.ins C dx fs) ∧ Cls G.K C ∧ NoAttr G.K C f ∧ fs.lookup f = some u ∧ OwnT G c.F c.al c.H o' u fq := by
  unfold fldO at e
  split at e
  · rename_i d
    obtain ⟨d', e1, rfl⟩ := map_some e
    unfold fldD at e1
    split at e1
    · rename_i cn ds
      split at e1
      · rename_i ho
        obtain ⟨C, q1, q2, q3⟩ := T.ex _ _ ho
        cases t with
        | fz t =>
          cases t with
          | ins h k n hs =>
            rw [q1] at k
            cases k
            obtain ⟨u, l1, l2⟩ := lk_rp n hs e1
            exact ⟨_, _, _, _, u, [], rfl, r.sub _ _ h, q2, q3, l1, .fz l2⟩
      · cases e1
    · cases e1
  · rename_i cn os
    split at e
    · rename_i ho
      obtain ⟨C, q1, q2, q3⟩ := T.ex _ _ ho
      obtain ⟨a, C', dx, fs, fq, rfl, rfl, h, k, n, hs⟩ := own_ins t
      rw [q1] at k
      cases k
      obtain ⟨u, f2, l1, l2⟩ := lk_own n hs e
      exact ⟨_, _, _, _, u, f2, rfl, h, q2, q3, l1, l2⟩
    · cases e
  · cases e
section
variable {X : Cx} {G : Gi} {W : WX} {e value : Expr} {m : M O} {md : M D} {pos pos' : Pos} {CT : CTab} {f : Str} {i : Nat}
/-- e.f, as it is now -/
def xFld (CT : CTab) (f : Str) (m : M O) : M O := bnd m fun o => ofO (fldO CT f o)
def fzO : O → Option O
  | .fz d => some (.fz d)
  | _ => none
/-- e.f, frozen -/
def xFldF (CT : CTab) (f : Str) (m : M O) : M O := bnd m fun o => ofO ((fldO CT f o).bind fzO)
@[simp] theorem xFld_app (m : M O) (s : S) : xFld CT f m s = (m s).bind fun o => ofO (fldO CT f o) := rfl
@[simp] theorem xFldF_app (m : M O) (s : S) : xFldF CT f m s = (m s).bind fun o => ofO ((fldO CT f o).bind fzO) := rfl
theorem x_fldF (T : Kc G CT) (hK : X.K = G.K) (he : PE X e (tLa G W m)) (hb : attributeBase e f X.env (eval e X.env) = eval e X.env := by rfl) : PE X (.Attribute e f pos) (tO G W (xFldF CT f m)) :=
  (pe_fld he hb).weak fun σ H Q q => by
    show tLa G W m σ H fun x H1 => ∃ a C dx fs v, x = .ref a ∧ H1 a = some (.ins C dx fs) ∧ Cls X.K C ∧ NoAttr X.K C f ∧ fs.lookup f = some v ∧ Q v H1
    refine q.seq bkO _ (fun o v c c1 st1 r1 g1 p1 w => ?_)
    obtain ⟨fp, t⟩ := p1
    obtain ⟨o', e1, q3⟩ := wp_ofO.mp w
    obtain ⟨o2, e2, e3⟩ := bind_some e1
    obtain ⟨a, C, dx, fs, u, fq, rfl, h, k1, k2, k3, k4⟩ := fld_own T r1 t e2
    rw [hK]
    refine ⟨a, C, dx, fs, u, rfl, h, k1, k2, k3, ?_⟩
    unfold fzO at e3
    split at e3
    · cases e3
      cases k4 with
      | fz k4 => exact q3 u c1 r1 (GoE.refl r1) (prO_fz k4)
    · cases e3
def putO (f : Str) (o : O) : List (Str × O) → List (Str × O)
  | [] => [(f, o)]
  | (g, x) :: r => if g = f then (g, o) :: r else (g, x) :: putO f o r
theorem put_nm {f : Str} {o : O} {v : V} : ∀ {fs : List (Str × V)} {os : List (Str × O)}, os.map (·.1) = fs.map (·.1) → (putO f o os).map (·.1) = (putF f v fs).map (·.1)
  | [], [], _ => rfl
  | [], _ :: _, e => by cases e
  | _ :: _, [], e => by cases e
  | (n, u) :: fs, (m, x) :: os, e => by
    rw [List.map_cons, List.map_cons] at e
    injection e with e1 e2
    have e1 : m = n := e1
    subst e1
    unfold putO putF
    by_cases h : m = f
    · rw [if_pos h, if_pos h, List.map_cons, List.map_cons, e2]
    · rw [if_neg h, if_neg h, List.map_cons, List.map_cons, put_nm e2]
theorem allfz {F H H' : Hp} {al : List Addr} : ∀ {os : List O} {vs : List V} {fp : List Addr}, OwnA G F al H os vs fp → os.all isFz = true → fp = [] ∧ OwnA G F al H' os vs []
  | _, _, _, .nil, _ => ⟨rfl, .nil⟩
  | _, _, _, .cons (o := o) h hs, k => by
    rw [List.all_cons, Bool.and_eq_true] at k
    obtain ⟨e, t⟩ := allfz (H' := H') hs k.2
    subst e
    cases o with
    | fz d =>
      cases h with
      | fz h => exact ⟨rfl, .cons (fp := []) (fq := []) (.fz h) t⟩
    | _ => cases k.1
theorem put_own {F H : Hp} {al : List Addr} {f : Str} {d : D} {v : V} (rv : Rp G F al v d) : ∀ {fs : List (Str × V)} {os : List (Str × O)}, os.map (·.1) = fs.map (·.1) → OwnA G F al H (os.map (·.2)) (fs.map (·.2)) [] →
    (os.map (·.2)).all isFz = true → OwnA G F al H ((putO f (.fz d) os).map (·.2)) ((putF f v fs).map (·.2)) []
  | [], [], _, _, _ => .cons (fp := []) (fq := []) (.fz rv) .nil
  | [], _ :: _, e, _, _ => by cases e
  | _ :: _, [], e, _, _ => by cases e
  | (n, u) :: fs, (m, x) :: os, e, t, k => by
    rw [List.map_cons, List.map_cons] at e
    injection e with e1 e2
    have e1 : m = n := e1
    subst e1
    rw [List.map_cons, List.all_cons, Bool.and_eq_true] at k
    rw [List.map_cons, List.map_cons] at t
    have t2 := allfz (H' := H) t (by rw [List.all_cons, k.1, k.2]; rfl)
    unfold putO putF
    generalize hfp : ([] : List Addr) = fp0 at t
    cases t with
    | @cons _ _ _ _ f1 f2 h hs =>
      obtain ⟨h1, h2⟩ := List.append_eq_nil_iff.mp hfp.symm
      subst h1
      subst h2
      by_cases hm : m = f
      · rw [if_pos hm, if_pos hm]; exact .cons (fp := []) (fq := []) (.fz rv) hs
      · rw [if_neg hm, if_neg hm]; exact .cons (fp := []) (fq := []) h (put_own rv e2 hs k.2)
/-- self.f = e, self a name: all attributes frozen -/
def sFldD (CT : CTab) (f : Str) (i : Nat) (md : M D) : M Fl := bnd md fun d s => match getP s i with
  | some (.ins c os) => if okF CT c f = true ∧ (os.map (·.2)).all isFz = true ∧ os.length < 1000 then .ok .nx (putP s i (.ins c (putO f (.fz d) os))) else .no
  | _ => .no
theorem fldS_t (T : Kc G CT) {D' : Ends} {σ : L2.St} {H : Hp} (q : tS G W (sFldD CT f i md) D' σ H) : sFld G.K (tVar i) (tD G W md) f D' σ H := by
  show tD G W md σ H fun y H1 => tVar i σ H1 fun x H2 => ∃ a C dx fs, x = .ref a ∧ H2 a = some (.ins C dx fs) ∧ Cls G.K C ∧ NoAttr G.K C f ∧ fs.length < 1000 ∧ D'.nx σ (upd H2 a (.ins C dx (putF f y fs)))
  refine tS.ex q _ (fun d y c c1 st1 r1 g1 p1 w => ?_)
  split at w
  · rename_i cn os e1
    split at w
    · rename_i hh
      obtain ⟨h1, h2, h3⟩ := hh
      obtain ⟨C, q1, q2, q3⟩ := T.ex _ _ h1
      obtain ⟨v, f2, k1, k2, hp⟩ := place r1 e1
      obtain ⟨a, C', dx, fs, fq, rfl, rfl, ha, k, n, hs⟩ := own_ins k2
      rw [q1] at k
      cases k
      have hfs : fs.length = os.length := by have := congrArg List.length n; simpa using this.symm
      refine ⟨.ref a, k1, a, C, dx, fs, rfl, ha, q2, q3, by omega, ?_⟩
      obtain ⟨e0, t0⟩ := allfz (H' := upd c1.H a (.ins C dx (putF f y fs))) hs h2
      subst e0
      obtain ⟨r2, g2⟩ := hp (upd c1.H a (.ins C dx (putF f y fs))) (.ins cn (putO f (.fz d) os)) (fun b hb => upd_ne (by simpa using hb))
        (.ins (fp := []) upd_same q1 (put_nm n) (put_own p1 n t0 h2))
      have w : Fw G D' c .nx _ := w
      exact w σ _ r2 (g1.toGo.trans g2)
    · exact w.elim
  · exact w.elim
theorem s_fld {x : Str} {px : Pos} (T : Kc G CT) (hK : X.K = G.K) (hN : X.N[i]? = some x) (hv : Vis X.env.scope x) (he : PE X value (tD G W md)) (hd : (x == ("__debug__" : Str)) = false := by decide) (hcd : (x == ("__classdict__" : Str)) = false := by decide)
    (hs : swapsWith value (some (.Attribute (.Name x px) f pos')) pos.line X.env = pure false := by rfl) :
    PS X (.Assign [.Attribute (.Name x px) f pos'] value pos) (tS G W (sFldD CT f i md)) := (ps_fld (pe_var hN hv hd hcd) he hs).weak fun D' σ H q => by
  rw [hK]; exact fldS_t T q
end
/-! ### a new instance -/
/-- what an __init__ promises: self is new -/
def SpI (G : Gi) (x : Str) (n : Nat) (m : MF) : Sp := fun vs H Q E => ∃ c0 ds mu a C dx ws, c0.fs = [] ∧ Rel G ⟨[], mu⟩ [] c0 ∧ c0.H a = none ∧ c0.H dx = none ∧ dx ≠ a ∧
  H = upd (upd c0.H dx (.own a)) a (.ins C dx []) ∧ G.mg x = some (.ref C) ∧ vs = .ref a :: ws ∧ RpA G c0.F c0.al ws ds ∧ vs.length = n ∧
  wp (m ds mu) (fun o s' => ∀ c' fp, Rel G ⟨[], s'.mu⟩ [] c' → Go c0 c' → OwnT G c'.F c'.al c'.H o (.ref a) fp → Fresh fp c' → New fp c0 → Q .non c'.H)
    (fun e s' => ∀ v d c', Rel G ⟨[], s'.mu⟩ [] c' → Go c0 c' → XRp G c' e v d → E v d c'.H)
/-- an __init__'s body as a function: self is the only cell -/
def fnI (N : Nat) (x : Str) (body : M Fl) : MF := fun ds mu => if noCA ds = true then (match body ⟨some (.fz (.cel 0)) :: env0 (N - 1) ds, [.ins x []]⟩ with
  | .ok .nx ⟨_, [o]⟩ => if noCO o = true then .ok o ⟨[], mu⟩ else .no
  | .exc e _ => if noCF e.fs = true then .exc e ⟨[], mu⟩ else .no
  | _ => .no) else .no
structure FnI (P : Program) (w : World) (G : Gi) (base : Heap) (k : Nat) (f : Addr) (fd : FuncData) (ps : List Str) (x : Str) (m : MF) : Prop where
  go : ∀ (A : Around) (outer : List Env) (s : Shared) (H : Hp) (args : Args) (us : List Value)
    (vs : List V) (Q : VK) (E : XK), Room k A → Env0 P w G.K G.mg base A outer s H →
    BindsTo s fd args (ps.zip us) → Vals vs us → SpI G x ps.length m vs H Q E →
    codeAny (model P w) A (.call (.ref f) args) (CR (L2.CX P w) outer P w H s Q E) s
/-- the new instance as the only cell -/
theorem rel_self {G : Gi} {mu : List O} {c0 : Cf} {a C dx : Addr} {x : Str} {ws : List V} {ds : List D} {N : Nat} (hfs : c0.fs = []) (r : Rel G ⟨[], mu⟩ [] c0) (ha : c0.H a = none) (hd : c0.H dx = none) (hm : G.mg x = some (.ref C))
    (rp : RpA G c0.F c0.al ws ds) (nc : noCA ds = true) : Rel G ⟨some (.fz (.cel 0)) :: env0 N ds, [.ins x []]⟩ (some (.ref a) :: (ws.map some ++ List.replicate (N - ds.length) none))
      { F := c0.F, H := upd (upd c0.H dx (.own a)) a (.ins C dx []), al := [a], fs := [], fc := [a] } := by
  have old : ∀ b, c0.H b ≠ none → upd (upd c0.H dx (.own a)) a (.ins C dx []) b = c0.H b := fun b n => by
    rw [upd_ne (fun e => n (by rw [e]; exact ha)), upd_ne (fun e => n (by rw [e]; exact hd))]
  refine ⟨fun b o e => ?_, fun b h => ?_, .nil, by simp, (fun b h => nomatch h), ?_, ?_⟩
  · have e2 := r.sub b o e
    show upd (upd c0.H dx (.own a)) a (.ins C dx []) b = some o
    rw [old b (by rw [e2]; exact Option.some_ne_none _)]
    exact e2
  · rcases h with h | h
    · cases h
    · rw [List.mem_singleton.mp h]
      show c0.F a = none
      cases e : c0.F a with
      | none => rfl
      | some o => have := r.sub a o e; rw [ha] at this; cases this
  · refine .so (fp := []) (fq := []) (.fz (.cel rfl)) ?_
    unfold env0
    exact slots_start (c := ⟨c0.F, upd (upd c0.H dx (.own a)) a (.ins C dx []), [a], [], [a]⟩) _ (rp.al nc)
  · exact .cons (fp := [a]) (fq := []) (.ins (fp := []) (fs := []) upd_same hm rfl .nil) .nil
/-- back to the caller's cells -/
theorem rel_back {G : Gi} {mu : List O} {c0 c' : Cf} {a C dx : Addr} (hfs : c0.fs = []) (r : Rel G ⟨[], mu⟩ [] c0) (ha : c0.H a = none) (hd : c0.H dx = none)
    (g : Go { F := c0.F, H := upd (upd c0.H dx (.own a)) a (.ins C dx []), al := [a], fs := [], fc := [a] } c') (sub : ∀ b o, c'.F b = some o → c'.H b = some o) :
    Rel G ⟨[], mu⟩ [] { F := c'.F, H := c'.H, al := c0.al, fs := [], fc := c0.fc } ∧ Go c0 { F := c'.F, H := c'.H, al := c0.al, fs := [], fc := c0.fc } := by
  have old : ∀ b, c0.H b ≠ none → upd (upd c0.H dx (.own a)) a (.ins C dx []) b = c0.H b := fun b n => by
    rw [upd_ne (fun e => n (by rw [e]; exact ha)), upd_ne (fun e => n (by rw [e]; exact hd))]
  have none1 : ∀ b, upd (upd c0.H dx (.own a)) a (.ins C dx []) b = none → c0.H b = none := fun b e => by
    cases q : c0.H b with
    | none => rfl
    | some o => rw [old b (by rw [q]; exact Option.some_ne_none _), q] at e; cases e
  have kp : ∀ b, c0.H b ≠ none → c'.H b = c0.H b := fun b n => by
    rw [← old b n]
    exact g.fr b (by show upd (upd c0.H dx (.own a)) a (.ins C dx []) b ≠ none; rw [old b n]; exact n) (fun z => nomatch z) (fun z => n (by rw [List.mem_singleton.mp z]; exact ha))
  have none2 : ∀ b, NT (upd (upd c0.H dx (.own a)) a (.ins C dx []) b) → NT (c0.H b) := fun b e => by
    cases q : c0.H b with
    | none => exact .inl rfl
    | some o => rw [old b (by rw [q]; exact Option.some_ne_none _), q] at e; exact e
  have nF : ∀ b, c'.F b ≠ none → c0.F b ≠ none ∨ NT (c0.H b) := fun b h => by
    rcases g.nF b h with z | z | z | z
    · exact .inl z
    · cases z
    · rw [List.mem_singleton.mp z]; exact .inr (.inl ha)
    · exact .inr (none2 b z)
  have mo : Mo c0.F c'.F c0.al c0.al := ⟨g.mo.mF, g.mo.mR, fun _ _ h => h⟩
  refine ⟨⟨sub, fun b h => ?_, .nil, r.ndc, (fun b h => nomatch h), .nil, r.cells.mo mo fun b hb => kp b (r.there (.inr hb))⟩, ⟨mo, fun b n _ _ => kp b n, fun b h => ?_, fun b h => (nF b h).elim .inl fun z => .inr (.inr (.inr z))⟩⟩
  · rcases h with h | h
    · cases h
    · show c'.F b = none
      cases e : c'.F b with
      | none => rfl
      | some o =>
        rcases nF b (by rw [e]; exact Option.some_ne_none _) with z | z
        · exact absurd (r.own b (.inr h)) z
        · exact absurd z (r.noNT (.inr h))
  · rcases h with h | h
    · cases h
    · exact .inr (.inl h)
section
variable {P : Program} {w : World} {G : Gi} {base : Heap} {k j : Nat} {f : Addr} {fd : FuncData} {N ps : List Str} {m m' : MF} {cn : Str}
theorem FnI.mono (F : FnI P w G base j f fd ps cn m) (h : j ≤ k) : FnI P w G base k f fd ps cn m :=
  ⟨fun A o s H a us vs Q E r => F.go A o s H a us vs Q E (r.mono h)⟩
theorem Df.okI {x qual : Str} {st : Stmt} {body : M Fl} (F : Df G.K x qual st f fd) (S : FnScope N ps (defScope st)) (hN : ∃ n, N.length = n + 1)
    (hb : ∀ (cdv : Value) (A : Around) (outer : List Env) (s : Shared) (H : Hp) (E : XK),
      Room k (A.deeper (envOfC qual (defScope st) s.heap.objs.size f cdv)) →
      PSs (cxOf (L2.CX P w) P w G.K G.mg base N qual (defScope st) f cdv A outer s H E) (defBody st) (tS G (fun v d _ H => E v d H) body)) :
    FnI P w G base (k + 1) f fd ps cn (fnI N.length cn body) := by
  obtain ⟨oc, od, dV, kV, doc, pm, an, cdv, ct, osl, rfl, lk, hc⟩ := F.ex
  refine ⟨fun A outer s H args us vs Q E hr e0 hbi r hsp => ?_⟩
  obtain ⟨c, ds, mu, a, C, dx, ws, hfs, rl, ha, hdx, hne, rfl, hm, rfl, rp, hlen, h⟩ := hsp
  have kin : G.K.In s.heap := e0.mod.kin.keeps (fun b o e => (e0.bs b o e).1)
  have hlm : s.heap.NoLimit := e0.mod.nolimit.keeps (fun b o e => (e0.bs b o e).1)
  have kinds : ∀ y ∈ ps.zip us, (defScope st).names.lookup y.1 = some .local ∨
      ((defScope st).names.lookup y.1 = some .cell ∧
        ((cellsFrom (s.heap.objs.size + 1) (defScope st).names []).lookup y.1).isSome = true) := by
    rintro ⟨n, v⟩ hy
    rcases S.par n (List.of_mem_zip hy).1 with h1 | h1
    · left; exact h1
    · right; exact ⟨h1, PySem.W.cellsFrom_some _ _ _ (Or.inl h1)⟩
  apply codeAny_call_function hr.depth (kin _ _ lk) rfl S.co S.gen rfl (PySem.W.codeRec_of kin hc) (hbi _ _ _ _ ?_)
  apply wpAny_newFunctionEnv_cells S.kind kinds
  intro env he s1 hx
  subst he
  refine ⟨hlm.keeps hx.toInCall.keep, codeAny_func ?_⟩
  have ht := hb cdv A outer s (upd (upd c.H dx (.own a)) a (.ins C dx [])) E (hr.deeper _)
  have I0 : Inv (cxOf (L2.CX P w) P w G.K G.mg base N qual (defScope st) f cdv A outer s (upd (upd c.H dx (.own a)) a (.ins C dx [])) E) [] (start N (.ref a :: ws)) (upd (upd c.H dx (.own a)) a (.ins C dx [])) s1 :=
    inv_start S hr.hd e0 hlen r hx
  have hq : tS G (fun v d _ H => E v d H) body { nx := fun _ H' => Q .non H', rt := Q } (start N (.ref a :: ws)) (upd (upd c.H dx (.own a)) a (.ins C dx [])) := by
    unfold fnI at h
    split at h
    · rename_i nc
      obtain ⟨n, hn⟩ := hN
      have r0 := rel_self (N := n) hfs rl ha hdx hm rp nc
      rw [hn, show n + 1 - 1 = n from rfl] at h
      refine ⟨{ F := c.F, H := upd (upd c.H dx (.own a)) a (.ins C dx []), al := [a], fs := [], fc := [a] }, ⟨some (.fz (.cel 0)) :: env0 n ds, [.ins cn []]⟩, rfl, ?_, ?_⟩
      · unfold start
        rw [hn, show n + 1 - (V.ref a :: ws).length = n - ds.length by rw [List.length_cons, rp.len]; omega]
        exact r0
      · cases e : body ⟨some (.fz (.cel 0)) :: env0 n ds, [.ins cn []]⟩ with
        | no => rw [e] at h; exact h
        | exc y s' =>
          rw [e] at h
          dsimp only at h
          split at h
          · rename_i nx
            intro σ' v d c' r' g' x'
            obtain ⟨r2, g2⟩ := rel_back hfs rl ha hdx g' r'.sub
            refine h v d { F := c'.F, H := c'.H, al := c.al, fs := [], fc := c.fc } r2 g2 ?_
            obtain ⟨D', q1, q2, q3⟩ := x'
            refine ⟨D', q1, q2, q3.imp id ?_⟩
            rintro ⟨dx', vs', p1, p2, p3, p4⟩
            exact ⟨dx', vs', p1, p2, p3, p4.al (by rw [← noCF_map]; exact nx)⟩
          · exact h.elim
        | ok fl s' =>
          rw [e] at h
          obtain ⟨env', mu'⟩ := s'
          cases fl with
          | rt o => exact h.elim
          | bk => exact h.elim
          | ct => exact h.elim
          | nx =>
            cases mu' with
            | nil => exact h.elim
            | cons o l =>
              cases l with
              | cons _ _ => exact h.elim
              | nil =>
                dsimp only at h
                split at h
                · rename_i nco
                  intro σ' c' r' g'
                  obtain ⟨r2, g2⟩ := rel_back hfs rl ha hdx g' r'.sub
                  have cl := r'.cells
                  have ha' := g'.mo.mA 0 a rfl
                  have nd := r'.ndc
                  have ow := r'.own
                  have fpc := g'.fp
                  generalize hfc : c'.fc = fc' at cl nd ow fpc
                  generalize hv : c'.al.map V.ref = vs' at cl
                  cases cl with
                  | @cons _ v _ ws' f1 f2 t ts =>
                    cases ts
                    rw [List.append_nil] at nd ow fpc
                    have ev : v = .ref a := by
                      have := congrArg (fun l => l[0]?) hv
                      simp only [List.getElem?_map, ha'] at this
                      exact (Option.some.inj this).symm
                    subst ev
                    have isn : ∀ b ∈ f1, c.H b = none := fun b hb => by
                      rcases fpc b (.inr hb) with z | z | z
                      · cases z
                      · rw [List.mem_singleton.mp z]; exact ha
                      · cases q : c.H b with
                        | none => rfl
                        | some u =>
                          have z : upd (upd c.H dx (.own a)) a (.ins C dx []) b = none := z
                          rw [upd_ne (fun e => by rw [e, ha] at q; cases q), upd_ne (fun e => by rw [e, hdx] at q; cases q), q] at z
                          cases z
                    refine h { F := c'.F, H := c'.H, al := c.al, fs := [], fc := c.fc } f1 r2 g2 (t.al nco) ⟨nd, fun b hb => ow b (.inr hb), (fun b _ z => nomatch z), fun b hb z => rl.there (.inr z) (isn b hb)⟩ fun b hb => .inr (.inr (isn b hb))
                · exact h.elim
    · exact h.elim
  refine wpAny_mono (ht.run [] s1 (start N (.ref a :: ws)) _ _ I0 hq) ?_ (fun e s' hs => hs)
  intro fl s' hs
  cases fl with
  | ret u =>
    obtain ⟨v, σ', H', J, rv, q⟩ := hs
    exact ⟨v, H', J.os, J.bare, J.base, J.hok, rv, q⟩
  | next =>
    obtain ⟨σ', H', J, q⟩ := hs
    exact ⟨V.non, H', J.os, J.bare, J.base, J.hok, rfl, q⟩
  | brk => obtain ⟨_, _, _, q⟩ := hs; exact q.elim
  | cont => obtain ⟨_, _, _, q⟩ := hs; exact q.elim
end
structure BdI (K : PySem.W.Frag) (fd : FuncData) (ps : List Str) (n : Nat) (ks : List Str) (gD : List D → List D → List D) : Prop where
  ex : ∃ (g : List Value → List Value → List Value) (gV : List V → List V → List V), KBn K fd ps (n + 1) ks g gV ∧
    ∀ x vs zs, vs.length = n → zs.length = ks.length → ∃ ws, gV (x :: vs) zs = x :: ws ∧ (x :: ws).length = ps.length ∧
      ∀ (G : Gi) (F : Hp) (al : List Addr) ds es, RpA G F al vs ds → RpA G F al zs es → RpA G F al ws (gD ds es)
structure MkT (P : Program) (w : World) (G : Gi) (base : Heap) (x : Str) (k n : Nat) (ks : List Str) (gD : List D → List D → List D) (m : MF) : Prop where
  ex : ∃ (C f : Addr) (fd : FuncData) (ps : List Str), Mk G.K C f ∧ G.mg x = some (.ref C) ∧ FnI P w G base k f fd ps x m ∧ BdI G.K fd ps n ks gD
theorem make_t {G : Gi} {W : WX} {m : MF} {st : S} {σ : L2.St} {c : Cf} {ws : List V} {ds : List D} {Q : VK} {n : Nat} {a C dx : Addr} {x : Str} (r : Rel G st σ c) (rp : RpA G c.F c.al ws ds) (hn : (V.ref a :: ws).length = n)
    (ha : c.H a = none) (hd : c.H dx = none) (hne : dx ≠ a) (hm : G.mg x = some (.ref C))
    (h : wp (runF m ds st) (fun o st' => ∀ v c', Rel G st' σ c' → GoE c c' → PrO G o c c' v → Q v c'.H) (xw G W σ c)) :
    SpI G x n m (.ref a :: ws) (upd (upd c.H dx (.own a)) a (.ins C dx [])) (fun v H3 => v = .non ∧ Q (.ref a) H3) (WE W σ) := by
  refine ⟨{ c with fs := [] }, ds, st.mu, a, C, dx, ws, rfl, r.drop, ha, hd, hne, rfl, hm, rfl, rp, hn, ?_⟩
  unfold runF at h
  cases e : m ds st.mu with
  | no => rw [e] at h; exact h
  | exc x s' =>
    rw [e] at h
    intro v d c2 r2 g x2
    obtain ⟨r3, g3⟩ := rel_lift r r2 g
    exact h v d { c2 with fs := c.fs } r3 g3 x2
  | ok o s' =>
    rw [e] at h
    intro c2 fp r2 g t f nw
    obtain ⟨r3, g3⟩ := rel_lift r r2 g
    refine ⟨rfl, h (.ref a) { c2 with fs := c.fs } r3 g3 ⟨fp, t, ⟨f.nd, f.nf, fun b hb hs => ?_, f.nc⟩, fun b hb => ?_⟩⟩
    · rcases nw b hb with z | z | z
      · cases z
      · exact r.dis b hs z
      · exact r.there (.inl hs) z
    · rcases nw b hb with z | z | z
      · cases z
      · exact .inr (.inl z)
      · exact .inr (.inr z)
section
variable {X : Cx} {G : Gi} {W : WX} {k n : Nat} {ks : List Str} {gD : List D → List D → List D} {m : MF} {x : Str} {p pos : Pos} {e : Expr} {es : List Expr} {kws : List Keyword} {ma mk : M (List D)}
theorem runI {pins : List (Addr × Obj)} {σ : L2.St} {H : Hp} {s : Shared} {Q : VK} {us ws : List Value} {vs zs : List V} {C f : Addr} {fd : FuncData} {ps : List Str} {g : List Value → List Value → List Value} {gV : List V → List V → List V}
    (hK : X.K = G.K) (hM : X.mg = G.mg) (M : Mk G.K C f) (F : FnI X.prog X.w G X.base k f fd ps x m) (hr : Room (k + 1) X.A) (hb : KBn G.K fd ps (n + 1) ks g gV)
    (hx : ∀ σ, PassesAt (L2.CX X.prog X.w) X σ (WE W σ)) (I : Inv X pins σ H s) (r : Vals vs us) (rz : Vals zs ws) (l1 : vs.length = n) (l2 : zs.length = ks.length)
    (h : ∀ a dx, H a = none → H dx = none → dx ≠ a → SpI G x ps.length m (gV (.ref a :: vs) zs) (upd (upd H dx (.own a)) a (.ins C dx [])) (fun v H2 => v = .non ∧ Q (.ref a) H2) (WE W σ)) :
    wpAny (model X.prog X.w) X.A (call (.ref C) us (ks.zip ws)) (EP X pins σ Q) X.xe s := by
  have hq := h (s.heap.objs.size + 1) s.heap.objs.size (I.hok.fresh (Nat.le_succ _)) (I.hok.fresh (Nat.le_refl _)) (Nat.ne_of_lt (Nat.lt_succ_self _))
  have I2 := Inv.made (C := C) I
  have r1 : Vals (V.ref (s.heap.objs.size + 1) :: vs) (Value.ref (s.heap.objs.size + 1) :: us) := .cons rfl r
  have r2 := hb.rel r1 rz
  have e1 : (Value.ref (s.heap.objs.size + 1) :: us).length = n + 1 := r1.length.symm.trans (congrArg Nat.succ l1)
  have e2 : ws.length = ks.length := rz.length.symm.trans l2
  have kin := I.kIn
  have kin2 := I2.kIn
  have env := I2.env0
  rw [hK] at kin kin2
  rw [hK, hM] at env
  refine wpAny_call (make_map (f := f) kin M.makes M.init (beq_iff_eq.mp M.fn) (codeAny_mono (F.go _ X.stack _ _ ⟨Value.ref (s.heap.objs.size + 1) :: us, ks.zip ws⟩ (g (Value.ref (s.heap.objs.size + 1) :: us) ws) _ _ (WE W σ) (hr.make C us (ks.zip ws))
    (env.make C us (ks.zip ws)) (hb.to _ (Value.ref (s.heap.objs.size + 1) :: us) ws kin2 e1 e2) r2 hq) fun r s' hq' => ?_))
  cases r with
  | error e => exact hx σ pins _ _ e s' I2 hq'
  | ok fl =>
    cases fl with
    | ret u =>
      obtain ⟨v, H', I3, rv, ev, q3⟩ := I2.after hq'
      subst ev
      exact ⟨rv, ⟨V.ref (s.heap.objs.size + 1), H', I3, rfl, q3⟩⟩
    | next => exact False.elim hq'
    | brk => exact False.elim hq'
    | cont => exact False.elim hq'
theorem x_make (hK : X.K = G.K) (hM : X.mg = G.mg) (F : MkT X.prog X.w G X.base x k n ks gD m) (hr : Room (k + 1) X.A)
    (hg : Gl X x) (hx : ∀ σ, PassesAt (L2.CX X.prog X.w) X σ (WE W σ)) (ha : PA X (e :: es) (tAs G W ma)) (hkw : PK X kws (tAs G W mk))
    (hall : (backToKw pos (keywordEach kws X.env)).all (·.1.isSome) = true := by rfl)
    (hks : (backToKw pos (keywordEach kws X.env)).filterMap (·.1) = ks := by rfl)
    (hdb : (x == ("__debug__" : Str)) = false := by decide)
    (he : starEach (e :: es) X.env = (false, eval e X.env) :: starEach es X.env := by rfl)
    (hpl : ((backTo pos (starEach (e :: es) X.env)).any (·.1) || (backToKw pos (keywordEach kws X.env)).any (·.1.isNone)) = false := by rfl) :
    PE X (.Call (.Name x p) (e :: es) kws pos) (tO G W (xCall m gD n ks.length ma mk)) := by
  obtain ⟨C, f, fd, ps, M, hm, FT, g, gV, hb, hl⟩ := F.ex
  refine ⟨fun pins s σ H Q I q => wpAny_Call_Name_kw (ld_glob I hg (by rw [hM]; exact hm) ?_ hdb)⟩
  apply PySem.W.callWith_KW (h₀ := X.base) I.ok.mod.kin (by rw [hK]; exact M.kp) hall ?_ hpl he
  refine thn (ha.run pos pins s σ H (fun vs H1 => tAs G W mk σ H1 fun zs H2 => vs.length = n ∧ zs.length = ks.length ∧
    ∀ a dx, H2 a = none → H2 dx = none → dx ≠ a → SpI G x ps.length m (gV (.ref a :: vs) zs) (upd (upd H2 dx (.own a)) a (.ins C dx [])) (fun v H3 => v = .non ∧ Q (.ref a) H3) (WE W σ)) I ?_) ?_
  · refine q.seq bkO _ (fun ds vs c c1 st1 r1 g1 p1 w => ?_)
    refine tG.seq1 bkO r1 w _ (fun es' zs c2 st2 r2 g2 p2 w2 => ?_)
    split at w2
    · rename_i hc
      have p1 := p1.mo g2.mo
      have h1 : vs.length = n := by rw [p1.len]; exact hc.1
      have h2 : zs.length = ks.length := by rw [p2.len]; exact hc.2
      refine ⟨h1, h2, fun a dx ha hd hne => ?_⟩
      obtain ⟨wz, q1, q2, q3⟩ := hl (.ref a) vs zs h1 h2
      rw [q1]
      exact make_t r2 (q3 _ _ _ _ _ p1 p2) q2 ha hd hne hm w2
    · exact w2.elim
  · rintro us s1 ⟨vs, H1, I1, r, q⟩
    refine thn (hkw.run pos pins s1 σ H1 _ I1 q) ?_
    rintro ws s2 ⟨zs, H2, I2, rz, q1, q2, q3⟩
    refine ⟨I2.kIn, ?_⟩
    rw [hks]
    exact runI hK hM M FT hr hb hx I2 r rz q1 q2 q3
end
end L2.Tr
namespace L2.Tr
open PySem PySem.Spec PyProof.Rows L2 L2.Pc
/-! ### methods -/
section
variable {X : Cx} {G : Gi} {W : WX} {gb : Bool} {k n : Nat} {ks ps : List Str} {gD : List D → List D → List D} {m : MF} {x : Str} {p pos apos : Pos} {e o : Expr} {es : List Expr} {kws : List Keyword} {ma mk : M (List D)} {md : M D} {c mn : Str}
/-- o.m(.., k = ..) of a frozen instance of the class c -/
def xMeth (c mn : Str) (m : MF) (gD : List D → List D → List D) (n k : Nat) (md : M D) (ma mk : M (List D)) : M O := bnd md fun d => match d with
  | .ins c' fs => if c' = c ∧ (fs.map (·.1)).contains mn = false then bnd ma fun ds => bnd mk fun es => if ds.length + 1 = n ∧ es.length = k then runF m (gD (.ins c' fs :: ds) es) else fun _ => .no
    else fun _ => .no
  | _ => fun _ => .no
end
/-! ### str, repr, len by an own method -/
def strO : O → Option O
  | .fz (.str y) => some (.fz (.str y))
  | _ => none
/-- the own method run on d alone -/
def insOf : D → Option Str
  | .ins c _ => some c
  | _ => none
def runS (tbl : List (Str × MF)) (g : D → Option O) (d : D) : M O := fun s => match insOf d with
  | some c => (match tbl.lookup c with
    | some mf => (match noExc (runF mf [d] s) with
      | .ok o s' => ofO (strO o) s'
      | _ => .no)
    | none => .no)
  | none => ofO (g d) s
theorem insOf_some {d : D} {c : Str} (h : insOf d = some c) : ∃ fs, d = .ins c fs := by
  cases d <;> first | cases h; exact ⟨_, rfl⟩ | cases h
def xSp (tbl : List (Str × MF)) (g : D → Option O) (md : M D) : M O := bnd md (runS tbl g)
@[simp] theorem xSp_app (tbl : List (Str × MF)) (g : D → Option O) (md : M D) (s : S) : xSp tbl g md s = (md s).bind (runS tbl g) := rfl
end L2.Tr
namespace PySem.SeqAt
open AutoSeq1 (wpAny_loadPart')
open MeetsSeq
/-! data decline an instance -/
end PySem.SeqAt
namespace L2.Tr
open PySem PySem.Spec PyProof.Rows L2 L2.Pc
section
variable {prog : Program} {w : World} {A : Around} {E : Value → Shared → Prop} {s : Shared} {K : PySem.W.Frag} {x C f : Addr} {ox : Obj} {od : Option Obj}
/-- what K holds of a class with an own == -/
def kindsE : List String := ["NoneType", "bool", "int", "str", "tuple", "list"]
end
end L2.Tr
namespace L2.Tr
open PySem PySem.Spec PyProof.Rows L2 L2.Pc
/-! ### x == y, x != y with instances of classes that have their own == -/
abbrev ETab := List (Str × (MF × (D → D → Option Bool)))
def okL (d : D) : Bool := match clsName d with
  | some k => kindsE.contains k
  | none => false
def okR (tbl : ETab) (d : D) : Bool := match insOf d with
  | some c => (tbl.lookup c).isSome
  | none => okL d
/-- == of trees -/
def eqP (tbl : ETab) (x y : D) : Option Bool := match insOf x with
  | some c => (tbl.lookup c).bind fun mp => if okR tbl y = true then mp.2 x y else none
  | none => (match insOf y with
    | some c => (tbl.lookup c).bind fun mp => if okL x = true then mp.2 y x else none
    | none => plainEq x y)
def xEqO (tbl : ETab) (neg : Bool) (ma mb : M D) : M O := bnd ma fun x => bnd mb fun y => ofO ((eqP tbl x y).map fun b => .fz (.bl (b != neg)))
@[simp] theorem xEqO_app (tbl : ETab) (neg : Bool) (ma mb : M D) (s : S) : xEqO tbl neg ma mb s = (ma s).bind fun x s1 => (mb s1).bind fun y => ofO ((eqP tbl x y).map fun b => .fz (.bl (b != neg))) := rfl
def cmpOpB (neg : Bool) : CmpOp := if neg = true then .NotEq else .Eq
end L2.Tr
namespace L2.Tr
open PySem PySem.Spec PyProof.Rows L2 L2.Pc
section
variable {X : Cx} {G : Gi} {gb : Bool} {k : Nat} {tbl : ETab}
/-- an item y against x, as `in` compares them -/
def itP (tbl : ETab) (y x : D) : Option Bool := if (insOf y).isSome = true ∨ (insOf x).isSome = true then eqP tbl y x else if flatD y = true ∧ flatD x = true then some (eqF y x) else none
def inPL (tbl : ETab) (x : D) : List D → Option Bool
  | [] => some false
  | y :: ys => (itP tbl y x).bind fun b => if b = true then some true else inPL tbl x ys
def inPT (tbl : ETab) (x y : D) : Option Bool := (itemsD y).bind (inPL tbl x)
variable {W : WX} {a b : Expr} {ma mb : M D} {pos : Pos}
def xInO (tbl : ETab) (neg : Bool) (ma mb : M D) : M O := bnd ma fun x => bnd mb fun y => ofO ((inPT tbl x y).map fun b => .fz (.bl (b != neg)))
@[simp] theorem xInO_app (tbl : ETab) (neg : Bool) (ma mb : M D) (s : S) : xInO tbl neg ma mb s = (ma s).bind fun x s1 => (mb s1).bind fun y => ofO ((inPT tbl x y).map fun b => .fz (.bl (b != neg))) := rfl
end
end L2.Tr
namespace L2.Tr
open PySem PySem.Spec PyProof.Rows L2 L2.Pc
/-! ### f-strings -/
section
variable {X : Cx} {G : Gi} {W : WX} {e : Expr} {es : List Expr} {m : M O} {ms : List (M O)} {pos : Pos}
def fmtD : D → Option O
  | .str y => if y.length ≤ 16777216 then some (.fz (.str y)) else none
  | .int i => if i.natAbs.log2 < 1920 then some (.fz (.str (toString i))) else none
  | _ => none
def jsM : List (M O) → Str → M O
  | [], acc => ret (.fz (.str acc))
  | m :: ms, acc => bnd m fun o => match o with
    | .fz (.str y) => if (acc ++ y).length ≤ 16777216 then jsM ms (acc ++ y) else fun _ => .no
    | _ => fun _ => .no
end
/-! ### isinstance with own classes -/
def kindsI : List String := ["NoneType", "bool", "int", "str", "tuple", "list", "dict"]
def kindsJ : List String := ["str", "int", "bool", "tuple", "list", "dict"]
structure IsT (G : Gi) (cls : List Str) : Prop where
  ex : ∀ c, cls.contains c = true → ∃ C, G.mg c = some (.ref C) ∧ Cls G.K C ∧ PySem.W.findIn G.K (.ref C) "__class__" = some (some (.builtin "object.__class__")) ∧
    PySem.W.specialIn G.K (.builtin "object.__class__") "__get__" = some (some (.builtin "getset_descriptor.__get__")) ∧ PySem.W.takesIn G.K (.builtin "object.__class__") = some true ∧ PySem.W.mroIn G.K C (.type "object") = some true ∧
    (∀ k ∈ kindsI, PySem.W.kitOne G.K (.type k) (.ref C) = some false) ∧ ∀ n ∈ kindsJ, PySem.W.kitOne G.K (.ref C) (.type n) = some false
  cross : ∀ c c' C C', cls.contains c = true → cls.contains c' = true → G.mg c = some (.ref C) → G.mg c' = some (.ref C') → PySem.W.kitOne G.K (.ref C) (.ref C') = some (decide (c = c'))
def isiP (cls : List Str) (x y : D) : Option Bool := match insOf x, y with
  | some c, .fn c' => if cls.contains c = true ∧ cls.contains c' = true then some (decide (c = c')) else none
  | some c, .ty n => if cls.contains c = true ∧ kindsJ.contains n = true then some false else none
  | none, .fn c' => if cls.contains c' = true ∧ (clsName x).isSome = true then some false else none
  | none, .ty n => (clsName x).bind fun k => kindIs k n
  | _, _ => none
def isiO (cls : List Str) : List D → Option O
  | [x, y] => (isiP cls x y).map fun b => .fz (.bl b)
  | _ => none
theorem kinds_mem {d : D} {k : String} (e : clsName d = some k) : k ∈ kindsI := by
  cases d <;> cases e <;> simp [kindsI]
theorem d_isiO {G : Gi} {cls : List Str} (T : IsT G cls) : CnD G (rIsi G.K) (isiO cls) := by
  intro st σ c vs ds o Q r rv e q
  unfold isiO at e
  split at e
  · rename_i x y
    obtain ⟨b, h1, rfl⟩ := map_some e
    cases rv with
    | cons h hs =>
      cases hs with
      | cons h' hs' =>
        cases hs'
        unfold isiP at h1
        split at h1
        · rename_i cn c' hi
          split at h1
          · rename_i hc
            cases h1
            obtain ⟨fs, rfl⟩ := insOf_some hi
            obtain ⟨C, k1, k2, k3, k4, k5, k6, _, _⟩ := T.ex _ hc.1
            cases h with
            | ins h kk nn hs =>
              rw [k1] at kk
              cases kk
              cases h' with
              | fn h' => exact ⟨_, _, _, _, _, rfl, .own _, .base (.ins (r.sub _ _ h) k2 k3 k4 k5 k6), T.cross _ _ _ _ hc.1 hc.2 k1 h', fin r (.bl _) q⟩
          · cases h1
        · rename_i cn n hi
          split at h1
          · rename_i hc
            cases h1
            obtain ⟨fs, rfl⟩ := insOf_some hi
            obtain ⟨C, k1, k2, k3, k4, k5, k6, _, k8⟩ := T.ex _ hc.1
            cases h with
            | ins h kk nn hs =>
              rw [k1] at kk
              cases kk
              cases h'
              exact ⟨_, .ty n, _, _, _, rfl, .ty _, .base (.ins (r.sub _ _ h) k2 k3 k4 k5 k6), k8 n (by simpa using hc.2), fin r (.bl _) q⟩
          · cases h1
        · rename_i c' hi
          split at h1
          · rename_i hc
            cases h1
            obtain ⟨k, hk⟩ := Option.isSome_iff_exists.mp hc.2
            obtain ⟨C, k1, _, _, _, _, _, k7, _⟩ := T.ex _ hc.1
            cases h' with
            | fn h' =>
              rw [k1] at h'
              cases h'
              exact ⟨_, _, _, _, _, rfl, .own _, rp_ty r h hk, k7 k (kinds_mem hk), fin r (.bl _) q⟩
          · cases h1
        · rename_i n hi
          obtain ⟨k, h2, h3⟩ := bind_some h1
          cases h'
          exact ⟨_, .ty n, _, _, b, rfl, .ty _, rp_ty r h h2, kit_ty (kind_kit h2 h3), fin r (.bl _) q⟩
        · cases h1
  · cases e
/-! ### x.extend(e) -/
section
variable {X : Cx} {G : Gi} {W : WX} {e : Expr} {me : M O} {pos apos cpos : Pos} {i : Nat}
def sExt (i : Nat) (me : M O) : M Fl := fun s => match getP s i with
  | some (.lst _) => (me s).bind fun o s1 => match getP s1 i, o.toD with
    | some (.lst xs), .lst ds => if xs.length + ds.length ≤ 16777216 then .ok .nx (putP s1 i (.lst (xs ++ ds))) else .no
    | _, _ => .no
  | _ => .no
end
/-! ### keywords alone -/
section
variable {X : Cx} {G : Gi} {W : WX} {gb : Bool} {k n : Nat} {ks : List Str} {gD : List D → List D → List D} {m : MF} {x c mn : Str} {p pos apos : Pos} {o : Expr} {kws : List Keyword} {mk : M (List D)} {md : M D}
theorem x_makeK0 (hK : X.K = G.K) (hM : X.mg = G.mg) (F : MkT X.prog X.w G X.base x k 0 ks gD m) (hr : Room (k + 1) X.A)
    (hg : Gl X x) (hx : ∀ σ, PassesAt (L2.CX X.prog X.w) X σ (WE W σ)) (hkw : PK X kws (tAs G W mk))
    (hall : (backToKw pos (keywordEach kws X.env)).all (·.1.isSome) = true := by rfl)
    (hks : (backToKw pos (keywordEach kws X.env)).filterMap (·.1) = ks := by rfl)
    (hdb : (x == ("__debug__" : Str)) = false := by decide)
    (hpl : ((backTo pos (starEach [] X.env)).any (·.1) || (backToKw pos (keywordEach kws X.env)).any (·.1.isNone)) = false := by rfl) :
    PE X (.Call (.Name x p) [] kws pos) (tO G W (xCall m gD 0 ks.length aNil mk)) := by
  obtain ⟨C, f, fd, ps, M, hm, FT, g, gV, hb, hl⟩ := F.ex
  refine ⟨fun pins s σ H Q I q => wpAny_Call_Name_kw (ld_glob I hg (by rw [hM]; exact hm) ?_ hdb)⟩
  apply PySem.W.callWith_KW0 (h₀ := X.base) I.ok.mod.kin (by rw [hK]; exact M.kp) hall ?_ hpl
  refine thn (hkw.run pos pins s σ H (fun zs H2 => zs.length = ks.length ∧
    ∀ a dx, H2 a = none → H2 dx = none → dx ≠ a → SpI G x ps.length m (gV (.ref a :: []) zs) (upd (upd H2 dx (.own a)) a (.ins C dx [])) (fun v H3 => v = .non ∧ Q (.ref a) H3) (WE W σ)) I ?_) ?_
  · obtain ⟨c0, st, rfl, r0, w⟩ := q
    have w : wp (bnd mk (fun es => if ([] : List D).length = 0 ∧ es.length = ks.length then runF m (gD [] es) else fun _ => .no) st) _ _ := w
    refine tG.seq1 bkO r0 w _ (fun es' zs c2 st2 r2 g2 p2 w2 => ?_)
    split at w2
    · rename_i hc
      have h2 : zs.length = ks.length := by rw [p2.len]; exact hc.2
      refine ⟨h2, fun a dx ha hd hne => ?_⟩
      obtain ⟨wz, q1, q2, q3⟩ := hl (.ref a) [] zs rfl h2
      rw [q1]
      exact make_t r2 (q3 _ _ _ _ _ .nil p2) q2 ha hd hne hm w2
    · exact w2.elim
  · rintro ws s2 ⟨zs, H2, I2, rz, q2, q3⟩
    refine ⟨I2.kIn, ?_⟩
    rw [hks]
    exact runI (us := []) (vs := []) hK hM M FT hr hb hx I2 .nil rz rfl q2 q3
end
end L2.Tr
namespace L2.Tr
open PySem L2 L2.Pc
/-! ### what follows a step -/
def opqK (g : D → D → Option O) (f : S → Option D) (x : O) : M O := fun s => match f s with
  | some d => ofO (g x.toD d) s
  | none => .no
def chainK (g g' : D → D → Option O) (mc : M O) (x y : O) : M O := match (g x.toD y.toD).bind asB with
  | some true => bnd mc fun z => ofO (g' y.toD z.toD)
  | some false => ret (.fz (.bl false))
  | none => fun _ => .no
def seqK (m2 : M Fl) (f : Fl) : M Fl := match f with
  | .nx => m2
  | f => ret f
def asgK (i : Nat) (o : O) : M Fl := fun s => .ok .nx ⟨setS s.env i (some o), s.mu⟩
def asgTK (t : MT) (d : D) : M Fl := fun s => match t d s with
  | some s' => .ok .nx s'
  | none => .no
def asgCK (i : Nat) (o : O) : M Fl := fun s => if cellO o = true then .ok .nx ⟨setS s.env i (some (.fz (.cel s.mu.length))), s.mu ++ [o]⟩ else .no
def putLK (i : Nat) (mk : M D) (d : D) : M Fl := fun s1 => match getP s1 i with
  | none => .no
  | some _ => (mk s1).bind fun k => putAt i d k
def appK (i : Nat) (d : D) : M Fl := fun s1 => match getP s1 i with
  | some (.lst xs) => if xs.length < 16777216 then .ok .nx (putP s1 i (.lst (xs ++ [d]))) else .no
  | _ => .no
def extK (i : Nat) (o : O) : M Fl := fun s1 => match getP s1 i, o.toD with
  | some (.lst xs), .lst ds => if xs.length + ds.length ≤ 16777216 then .ok .nx (putP s1 i (.lst (xs ++ ds))) else .no
  | _, _ => .no
def forK (t : MT) (mb : M Fl) (ds : List D) (f : Fl) : M Fl := match f with
  | .nx => forL t mb ds
  | .ct => forL t mb ds
  | .bk => ret .nx
  | .rt o => ret (.rt o)
def parK (i j : Nat) (os : List O) : M Fl := fun s => match os with
  | [o, p] => .ok .nx ⟨setS (setS s.env i (some o)) j (some p), s.mu⟩
  | _ => .no
def parK3 (i j l : Nat) (os : List O) : M Fl := fun s => match os with
  | [o, p, r] => .ok .nx ⟨setS (setS (setS s.env i (some o)) j (some p)) l (some r), s.mu⟩
  | _ => .no
def fldK (CT : CTab) (f : Str) (i : Nat) (d : D) : M Fl := fun s => match getP s i with
  | some (.ins c os) => if okF CT c f = true ∧ (os.map (·.2)).all isFz = true ∧ os.length < 1000 then .ok .nx (putP s i (.ins c (putO f (.fz d) os))) else .no
  | _ => .no
def methK (c mn : Str) (m : MF) (gD : List D → List D → List D) (n k : Nat) (ma mk : M (List D)) (d : D) : M O := match d with
  | .ins c' fs => if c' = c ∧ (fs.map (·.1)).contains mn = false then bnd ma fun ds => bnd mk fun es => if ds.length + 1 = n ∧ es.length = k then runF m (gD (.ins c' fs :: ds) es) else fun _ => .no
    else fun _ => .no
  | _ => fun _ => .no
def jsK (ms : List (M O)) (acc : Str) (o : O) : M O := match o with
  | .fz (.str y) => if (acc ++ y).length ≤ 16777216 then jsM ms (acc ++ y) else fun _ => .no
  | _ => fun _ => .no
def lcB (env0 : List (Option O)) (vs : List Nat) (ys : List D) : M O := fun s2 => .ok (.lst ys) ⟨backE env0 s2.env vs, s2.mu⟩
def lcK (vs : List Nat) (t : MT) (mt : M Bool) (me : M D) (ds : List D) : M O := fun s => if freeE s.env vs = true ∧ ds.length ≤ 16777216 then
  (noExc (lcL vs t mt me ds ⟨wipeE s.env vs, s.mu⟩)).bind (lcB s.env vs) else .no
def lcY (vs : List Nat) (t : MT) (mt : M Bool) (me : M D) (ds : List D) (y : D) : M (List D) := fun s3 => if freeE s3.env vs = true then (lcL vs t mt me ds ⟨wipeE s3.env vs, s3.mu⟩).bind fun ys => ret (y :: ys) else .no
def lcT (vs : List Nat) (t : MT) (mt : M Bool) (me : M D) (ds : List D) (b : Bool) : M (List D) := fun s2 =>
  if b = true then (me s2).bind (lcY vs t mt me ds) else if freeE s2.env vs = true then lcL vs t mt me ds ⟨wipeE s2.env vs, s2.mu⟩ else .no
def partK (o : O) : M (Option Int) := match o with
  | .fz (.int i) => ret (some i)
  | _ => fun _ => .no
section
variable (env : List (Option O)) (mu : List O)
theorem st_ret {α : Type} (a : α) : ret a ⟨env, mu⟩ = .ok a ⟨env, mu⟩ := rfl
theorem st_bnd {α β : Type} (m : M α) (f : α → M β) : bnd m f ⟨env, mu⟩ = (m ⟨env, mu⟩).bind f := rfl
theorem st_ofs {α : Type} (a : α) : ofO (some a) ⟨env, mu⟩ = .ok a ⟨env, mu⟩ := rfl
theorem st_frz (m : M O) : frz m ⟨env, mu⟩ = (m ⟨env, mu⟩).bind fun o => ret o.toD := rfl
theorem st_fzd (m : M D) : fzd m ⟨env, mu⟩ = (m ⟨env, mu⟩).bind fun d => ret (.fz d) := rfl
theorem st_var (i : Nat) : xVar i ⟨env, mu⟩ = (match getS env i with | some o => .ok (.fz o.toD) ⟨if isFz o then env else setS env i (some (.fz o.toD)), mu⟩ | none => .no) := rfl
theorem st_bor (i : Nat) : xBor i ⟨env, mu⟩ = (match getS env i with | some o => .ok o ⟨env, mu⟩ | none => .no) := rfl
theorem st_mov (i : Nat) : xMov i ⟨env, mu⟩ = (match getS env i with | some o => .ok o ⟨if isFz o then env else setS env i none, mu⟩ | none => .no) := rfl
theorem st_rd (i : Nat) : xRd i ⟨env, mu⟩ = (match getS env i with | some (.fz (.cel n)) => (match getM mu n with | some o => .ok o ⟨env, mu⟩ | none => .no) | some o => .ok o ⟨env, mu⟩ | none => .no) := rfl
theorem st_qv (i : Nat) : qVar i ⟨env, mu⟩ = (match getS env i with | some (.fz d) => some d | _ => none) := rfl
theorem st_c (d : D) : xC d ⟨env, mu⟩ = .ok (.fz d) ⟨env, mu⟩ := rfl
theorem st_op (g : D → D → Option O) (ma mb : M O) : xOp g ma mb ⟨env, mu⟩ = (ma ⟨env, mu⟩).bind fun x => bnd mb fun y => ofO (g x.toD y.toD) := rfl
theorem st_un (g : D → Option O) (m : M O) : xUn g m ⟨env, mu⟩ = (m ⟨env, mu⟩).bind fun x => ofO (g x.toD) := rfl
theorem st_tob (m : M O) : toB m ⟨env, mu⟩ = (m ⟨env, mu⟩).bind fun o => ofO (asB o) := rfl
theorem st_band (ma mb : M Bool) : bAnd ma mb ⟨env, mu⟩ = (ma ⟨env, mu⟩).bind fun x => if x = true then mb else ret false := rfl
theorem st_bor2 (ma mb : M Bool) : bOr ma mb ⟨env, mu⟩ = (ma ⟨env, mu⟩).bind fun x => if x = true then ret true else mb := rfl
theorem st_bnot (ma : M Bool) : bNot ma ⟨env, mu⟩ = (ma ⟨env, mu⟩).bind fun x => ret (!x) := rfl
theorem st_if (mt : M Bool) (ma mb : M O) : xIf mt ma mb ⟨env, mu⟩ = (mt ⟨env, mu⟩).bind fun x => if x = true then ma else mb := rfl
theorem st_andV (ma mb : M O) : xAndV ma mb ⟨env, mu⟩ = (toB ma ⟨env, mu⟩).bind fun x => if x = true then mb else ret (.fz (.bl false)) := rfl
theorem st_orV (ma mb : M O) : xOrV ma mb ⟨env, mu⟩ = (toB ma ⟨env, mu⟩).bind fun x => if x = true then ret (.fz (.bl true)) else mb := rfl
theorem st_notV (ma : M O) : xNotV ma ⟨env, mu⟩ = (toB ma ⟨env, mu⟩).bind fun x => ret (.fz (.bl (!x))) := rfl
theorem st_anil  : aNil ⟨env, mu⟩ = .ok [] ⟨env, mu⟩ := rfl
theorem st_acons (m : M D) (ms : M (List D)) : aCons m ms ⟨env, mu⟩ = (m ⟨env, mu⟩).bind fun d => bnd ms fun ds => ret (d :: ds) := rfl
theorem st_onil  : oNil ⟨env, mu⟩ = .ok [] ⟨env, mu⟩ := rfl
theorem st_ocons (m : M O) (ms : M (List O)) : oCons m ms ⟨env, mu⟩ = (m ⟨env, mu⟩).bind fun d => bnd ms fun ds => ret (d :: ds) := rfl
theorem st_tup (ms : M (List D)) : xTup ms ⟨env, mu⟩ = (ms ⟨env, mu⟩).bind fun ds => ofO (dTup ds) := rfl
theorem st_lst (ms : M (List D)) : xLst ms ⟨env, mu⟩ = (ms ⟨env, mu⟩).bind fun ds => ofO (dLst ds) := rfl
theorem st_cn (g : List D → Option O) (ma : M (List D)) : xCn g ma ⟨env, mu⟩ = (ma ⟨env, mu⟩).bind fun ds => ofO (g ds) := rfl
theorem st_m1 (g : D → List D → Option O) (m : M O) (md : M D) : xM1 g m md ⟨env, mu⟩ = (m ⟨env, mu⟩).bind fun x => if isS x.toD = true then bnd md fun d => ofO (g x.toD [d]) else fun _ => .no := rfl
theorem st_m0 (g : D → List D → Option O) (m : M O) : xM0 g m ⟨env, mu⟩ = (m ⟨env, mu⟩).bind fun x => if isS x.toD = true then ofO (g x.toD []) else fun _ => .no := rfl
theorem st_opq (g : D → D → Option O) (ma : M O) (f : S → Option D) : xOpQ g ma f ⟨env, mu⟩ = (ma ⟨env, mu⟩).bind fun x => opqK g f x := rfl
theorem st_sl (ma : M O) (ml mh : M (Option Int)) : xSl ma ml mh ⟨env, mu⟩ = (ma ⟨env, mu⟩).bind fun x => bnd ml fun l => bnd mh fun h => ofO (slD x.toD l h) := rfl
theorem st_chain (g g' : D → D → Option O) (ma mb mc : M O) : xChain g g' ma mb mc ⟨env, mu⟩ = (ma ⟨env, mu⟩).bind fun x => bnd mb fun y => chainK g g' mc x y := rfl
theorem st_mseq (md : M D) : mSeq md ⟨env, mu⟩ = (md ⟨env, mu⟩).bind fun d => ofO (seqI d) := rfl
theorem st_rg1 (ma : M (List D)) : mRng1 ma ⟨env, mu⟩ = (ma ⟨env, mu⟩).bind fun ds => ofO (rng1 ds) := rfl
theorem st_rg2 (ma : M (List D)) : mRng2 ma ⟨env, mu⟩ = (ma ⟨env, mu⟩).bind fun ds => ofO (rng2 ds) := rfl
theorem st_snil  : sNil ⟨env, mu⟩ = .ok .nx ⟨env, mu⟩ := rfl
theorem st_seq (m1 m2 : M Fl) : sSeq m1 m2 ⟨env, mu⟩ = (m1 ⟨env, mu⟩).bind fun f => seqK m2 f := rfl
theorem st_sexpr (me : M O) : sExpr me ⟨env, mu⟩ = (me ⟨env, mu⟩).bind fun _ => ret .nx := rfl
theorem st_sret (me : M O) : sRet me ⟨env, mu⟩ = (me ⟨env, mu⟩).bind fun o => ret (.rt o) := rfl
theorem st_sif (mt : M Bool) (m1 m2 : M Fl) : sIf mt m1 m2 ⟨env, mu⟩ = (mt ⟨env, mu⟩).bind fun b => if b = true then m1 else m2 := rfl
theorem st_asg (i : Nat) (me : M O) : sAsg i me ⟨env, mu⟩ = (me ⟨env, mu⟩).bind (asgK i) := rfl
theorem st_asgK (i : Nat) (o : O) : asgK i o ⟨env, mu⟩ = .ok .nx ⟨setS env i (some o), mu⟩ := rfl
theorem st_asgT (t : MT) (me : M D) : sAsgT t me ⟨env, mu⟩ = (me ⟨env, mu⟩).bind (asgTK t) := rfl
theorem st_asgTK (t : MT) (d : D) : asgTK t d ⟨env, mu⟩ = (match t d ⟨env, mu⟩ with | some s' => .ok .nx s' | none => .no) := rfl
theorem st_asgC (i : Nat) (me : M O) : sAsgC i me ⟨env, mu⟩ = (me ⟨env, mu⟩).bind (asgCK i) := rfl
theorem st_asgCK (i : Nat) (o : O) : asgCK i o ⟨env, mu⟩ = if cellO o = true then .ok .nx ⟨setS env i (some (.fz (.cel mu.length))), mu ++ [o]⟩ else .no := rfl
theorem st_putL (i : Nat) (mk md : M D) : sPutL i mk md ⟨env, mu⟩ = (md ⟨env, mu⟩).bind (putLK i mk) := rfl
theorem st_putLK (i : Nat) (mk : M D) (d : D) : putLK i mk d ⟨env, mu⟩ = (match getP ⟨env, mu⟩ i with | none => .no | some _ => (mk ⟨env, mu⟩).bind fun k => putAt i d k) := rfl
theorem st_putAt (i : Nat) (d : D) (j : Int) : putAt i d (.int j) ⟨env, mu⟩ = (match getP ⟨env, mu⟩ i with | some (.lst xs) => (match ixN xs.length j with | some q => .ok .nx (putP ⟨env, mu⟩ i (.lst (xs.set q d))) | none => .no) | _ => .no) := by unfold putAt; cases getP ⟨env, mu⟩ i with | none => rfl | some o => cases o <;> rfl
theorem st_getP (i : Nat) : getP ⟨env, mu⟩ i = (match getS env i with | some (.fz (.cel n)) => getM mu n | some (.fz _) => none | o => o) := rfl
theorem st_putP (i : Nat) (o : O) : putP ⟨env, mu⟩ i o = (match getS env i with | some (.fz (.cel n)) => ⟨env, setM mu n o⟩ | some (.fz _) => ⟨env, mu⟩ | some _ => ⟨setS env i (some o), mu⟩ | none => ⟨env, mu⟩) := rfl
theorem st_app (i : Nat) (md : M D) : sApp i md ⟨env, mu⟩ = (match getP ⟨env, mu⟩ i with | some (.lst _) => (md ⟨env, mu⟩).bind (appK i) | _ => .no) := rfl
theorem st_appK (i : Nat) (d : D) : appK i d ⟨env, mu⟩ = (match getP ⟨env, mu⟩ i with | some (.lst xs) => if xs.length < 16777216 then .ok .nx (putP ⟨env, mu⟩ i (.lst (xs ++ [d]))) else .no | _ => .no) := rfl
theorem st_ext (i : Nat) (me : M O) : sExt i me ⟨env, mu⟩ = (match getP ⟨env, mu⟩ i with | some (.lst _) => (me ⟨env, mu⟩).bind (extK i) | _ => .no) := rfl
theorem st_extK (i : Nat) (o : O) : extK i o ⟨env, mu⟩ = (match getP ⟨env, mu⟩ i, o.toD with | some (.lst xs), .lst ds => if xs.length + ds.length ≤ 16777216 then .ok .nx (putP ⟨env, mu⟩ i (.lst (xs ++ ds))) else .no | _, _ => .no) := rfl
theorem st_for (mi : M (List D)) (t : MT) (mb : M Fl) : sFor mi t mb ⟨env, mu⟩ = (mi ⟨env, mu⟩).bind fun ds => forL t mb ds := rfl
theorem st_for0 (t : MT) (mb : M Fl) : forL t mb [] ⟨env, mu⟩ = .ok .nx ⟨env, mu⟩ := rfl
theorem st_for1 (t : MT) (mb : M Fl) (d : D) (ds : List D) : forL t mb (d :: ds) ⟨env, mu⟩ = (match t d ⟨env, mu⟩ with | none => .no | some s1 => (mb s1).bind (forK t mb ds)) := rfl
theorem st_gN (i : Nat) (d : D) : gN i d ⟨env, mu⟩ = some ⟨setS env i (some (.fz d)), mu⟩ := rfl
theorem st_gT (ts : List MT) (d : D) : gT ts d ⟨env, mu⟩ = (seqOf d).bind fun ds => gsN ts ds ⟨env, mu⟩ := rfl
theorem st_gs0  : gsN [] [] ⟨env, mu⟩ = some ⟨env, mu⟩ := rfl
theorem st_gs1 (t : MT) (ts : List MT) (d : D) (ds : List D) : gsN (t :: ts) (d :: ds) ⟨env, mu⟩ = (t d ⟨env, mu⟩).bind (gsN ts ds) := rfl
theorem st_par (i j : Nat) (ms : M (List O)) : sPar i j ms ⟨env, mu⟩ = (ms ⟨env, mu⟩).bind (parK i j) := rfl
theorem st_parK (i j : Nat) (o p : O) : parK i j [o, p] ⟨env, mu⟩ = .ok .nx ⟨setS (setS env i (some o)) j (some p), mu⟩ := rfl
theorem st_par3 (i j l : Nat) (ms : M (List O)) : sPar3 i j l ms ⟨env, mu⟩ = (ms ⟨env, mu⟩).bind (parK3 i j l) := rfl
theorem st_parK3 (i j l : Nat) (o p r : O) : parK3 i j l [o, p, r] ⟨env, mu⟩ = .ok .nx ⟨setS (setS (setS env i (some o)) j (some p)) l (some r), mu⟩ := rfl
theorem st_call (m : MF) (gD : List D → List D → List D) (n k : Nat) (ma mk : M (List D)) : xCall m gD n k ma mk ⟨env, mu⟩ = (ma ⟨env, mu⟩).bind fun ds => bnd mk fun es => if ds.length = n ∧ es.length = k then runF m (gD ds es) else fun _ => .no := rfl
theorem st_runF (m : MF) (ds : List D) : runF m ds ⟨env, mu⟩ = (match m ds mu with | .ok o s' => .ok o ⟨env, s'.mu⟩ | .exc x s' => .exc x ⟨env, s'.mu⟩ | .no => .no) := rfl
theorem st_fld (CT : CTab) (f : Str) (m : M O) : xFld CT f m ⟨env, mu⟩ = (m ⟨env, mu⟩).bind fun o => ofO (fldO CT f o) := rfl
theorem st_fldF (CT : CTab) (f : Str) (m : M O) : xFldF CT f m ⟨env, mu⟩ = (m ⟨env, mu⟩).bind fun o => ofO ((fldO CT f o).bind fzO) := rfl
theorem st_sfld (CT : CTab) (f : Str) (i : Nat) (md : M D) : sFldD CT f i md ⟨env, mu⟩ = (md ⟨env, mu⟩).bind (fldK CT f i) := rfl
theorem st_fldK (CT : CTab) (f : Str) (i : Nat) (d : D) : fldK CT f i d ⟨env, mu⟩ = (match getP ⟨env, mu⟩ i with | some (.ins c os) => if okF CT c f = true ∧ (os.map (·.2)).all isFz = true ∧ os.length < 1000 then .ok .nx (putP ⟨env, mu⟩ i (.ins c (putO f (.fz d) os))) else .no | _ => .no) := rfl
theorem st_meth (c mn : Str) (m : MF) (gD : List D → List D → List D) (n k : Nat) (md : M D) (ma mk : M (List D)) : xMeth c mn m gD n k md ma mk ⟨env, mu⟩ = (md ⟨env, mu⟩).bind fun d => methK c mn m gD n k ma mk d := rfl
theorem st_sp (tbl : List (Str × MF)) (g : D → Option O) (md : M D) : xSp tbl g md ⟨env, mu⟩ = (md ⟨env, mu⟩).bind (runS tbl g) := rfl
theorem st_eqO (tbl : ETab) (neg : Bool) (ma mb : M D) : xEqO tbl neg ma mb ⟨env, mu⟩ = (ma ⟨env, mu⟩).bind fun x => bnd mb fun y => ofO ((eqP tbl x y).map fun b => .fz (.bl (b != neg))) := rfl
theorem st_inO (tbl : ETab) (neg : Bool) (ma mb : M D) : xInO tbl neg ma mb ⟨env, mu⟩ = (ma ⟨env, mu⟩).bind fun x => bnd mb fun y => ofO ((inPT tbl x y).map fun b => .fz (.bl (b != neg))) := rfl
theorem st_js0 (acc : Str) : jsM [] acc ⟨env, mu⟩ = .ok (.fz (.str acc)) ⟨env, mu⟩ := rfl
theorem st_js1 (m : M O) (ms : List (M O)) (acc : Str) : jsM (m :: ms) acc ⟨env, mu⟩ = (m ⟨env, mu⟩).bind (jsK ms acc) := rfl
theorem st_jsK (ms : List (M O)) (acc y : Str) : jsK ms acc (.fz (.str y)) ⟨env, mu⟩ = (if (acc ++ y).length ≤ 16777216 then jsM ms (acc ++ y) ⟨env, mu⟩ else .no) := by unfold jsK; dsimp only; by_cases h : (acc ++ y).length ≤ 16777216 <;> simp only [h, if_true, if_false]
theorem st_lc (vs : List Nat) (mi : M (List D)) (t : MT) (mt : M Bool) (me : M D) : xLc vs mi t mt me ⟨env, mu⟩ = (mi ⟨env, mu⟩).bind fun ds => lcK vs t mt me ds := rfl
theorem st_lcK (vs : List Nat) (t : MT) (mt : M Bool) (me : M D) (ds : List D) : lcK vs t mt me ds ⟨env, mu⟩ = if freeE env vs = true ∧ ds.length ≤ 16777216 then (noExc (lcL vs t mt me ds ⟨wipeE env vs, mu⟩)).bind (lcB env vs) else .no := rfl
theorem st_lcB (env0 : List (Option O)) (vs : List Nat) (ys : List D) : lcB env0 vs ys ⟨env, mu⟩ = .ok (.lst ys) ⟨backE env0 env vs, mu⟩ := rfl
theorem st_lc0 (vs : List Nat) (t : MT) (mt : M Bool) (me : M D) : lcL vs t mt me [] ⟨env, mu⟩ = .ok [] ⟨env, mu⟩ := rfl
theorem st_lc1 (vs : List Nat) (t : MT) (mt : M Bool) (me : M D) (d : D) (ds : List D) : lcL vs t mt me (d :: ds) ⟨env, mu⟩ = (match t d ⟨env, mu⟩ with | none => .no | some s1 => (mt s1).bind (lcT vs t mt me ds)) := rfl
theorem st_lcT (vs : List Nat) (t : MT) (mt : M Bool) (me : M D) (ds : List D) (b : Bool) : lcT vs t mt me ds b ⟨env, mu⟩ = if b = true then (me ⟨env, mu⟩).bind (lcY vs t mt me ds) else if freeE env vs = true then lcL vs t mt me ds ⟨wipeE env vs, mu⟩ else .no := rfl
theorem st_lcY (vs : List Nat) (t : MT) (mt : M Bool) (me : M D) (ds : List D) (y : D) : lcY vs t mt me ds y ⟨env, mu⟩ = if freeE env vs = true then (lcL vs t mt me ds ⟨wipeE env vs, mu⟩).bind fun ys => ret (y :: ys) else .no := rfl
theorem st_mpart (md : M O) : mPart md ⟨env, mu⟩ = (md ⟨env, mu⟩).bind partK := rfl
end
section
variable {a0 a1 a2 a3 a4 a5 a6 a7 a8 a9 a10 a11 a12 a13 a14 x : Option O} {env : List (Option O)}
theorem getS_0 : getS (x :: env) 0 = x := rfl
theorem setS_0 : setS (a0 :: env) 0 x = x :: env := rfl
theorem getS_1 : getS (a0 :: x :: env) 1 = x := rfl
theorem setS_1 : setS (a0 :: a1 :: env) 1 x = a0 :: x :: env := rfl
theorem getS_2 : getS (a0 :: a1 :: x :: env) 2 = x := rfl
theorem setS_2 : setS (a0 :: a1 :: a2 :: env) 2 x = a0 :: a1 :: x :: env := rfl
theorem getS_3 : getS (a0 :: a1 :: a2 :: x :: env) 3 = x := rfl
theorem setS_3 : setS (a0 :: a1 :: a2 :: a3 :: env) 3 x = a0 :: a1 :: a2 :: x :: env := rfl
theorem getS_4 : getS (a0 :: a1 :: a2 :: a3 :: x :: env) 4 = x := rfl
theorem setS_4 : setS (a0 :: a1 :: a2 :: a3 :: a4 :: env) 4 x = a0 :: a1 :: a2 :: a3 :: x :: env := rfl
theorem getS_5 : getS (a0 :: a1 :: a2 :: a3 :: a4 :: x :: env) 5 = x := rfl
theorem setS_5 : setS (a0 :: a1 :: a2 :: a3 :: a4 :: a5 :: env) 5 x = a0 :: a1 :: a2 :: a3 :: a4 :: x :: env := rfl
theorem getS_6 : getS (a0 :: a1 :: a2 :: a3 :: a4 :: a5 :: x :: env) 6 = x := rfl
theorem setS_6 : setS (a0 :: a1 :: a2 :: a3 :: a4 :: a5 :: a6 :: env) 6 x = a0 :: a1 :: a2 :: a3 :: a4 :: a5 :: x :: env := rfl
theorem getS_7 : getS (a0 :: a1 :: a2 :: a3 :: a4 :: a5 :: a6 :: x :: env) 7 = x := rfl
theorem setS_7 : setS (a0 :: a1 :: a2 :: a3 :: a4 :: a5 :: a6 :: a7 :: env) 7 x = a0 :: a1 :: a2 :: a3 :: a4 :: a5 :: a6 :: x :: env := rfl
theorem getS_8 : getS (a0 :: a1 :: a2 :: a3 :: a4 :: a5 :: a6 :: a7 :: x :: env) 8 = x := rfl
theorem setS_8 : setS (a0 :: a1 :: a2 :: a3 :: a4 :: a5 :: a6 :: a7 :: a8 :: env) 8 x = a0 :: a1 :: a2 :: a3 :: a4 :: a5 :: a6 :: a7 :: x :: env := rfl
theorem getS_9 : getS (a0 :: a1 :: a2 :: a3 :: a4 :: a5 :: a6 :: a7 :: a8 :: x :: env) 9 = x := rfl
theorem setS_9 : setS (a0 :: a1 :: a2 :: a3 :: a4 :: a5 :: a6 :: a7 :: a8 :: a9 :: env) 9 x = a0 :: a1 :: a2 :: a3 :: a4 :: a5 :: a6 :: a7 :: a8 :: x :: env := rfl
theorem getS_10 : getS (a0 :: a1 :: a2 :: a3 :: a4 :: a5 :: a6 :: a7 :: a8 :: a9 :: x :: env) 10 = x := rfl
theorem setS_10 : setS (a0 :: a1 :: a2 :: a3 :: a4 :: a5 :: a6 :: a7 :: a8 :: a9 :: a10 :: env) 10 x = a0 :: a1 :: a2 :: a3 :: a4 :: a5 :: a6 :: a7 :: a8 :: a9 :: x :: env := rfl
theorem getS_11 : getS (a0 :: a1 :: a2 :: a3 :: a4 :: a5 :: a6 :: a7 :: a8 :: a9 :: a10 :: x :: env) 11 = x := rfl
theorem setS_11 : setS (a0 :: a1 :: a2 :: a3 :: a4 :: a5 :: a6 :: a7 :: a8 :: a9 :: a10 :: a11 :: env) 11 x = a0 :: a1 :: a2 :: a3 :: a4 :: a5 :: a6 :: a7 :: a8 :: a9 :: a10 :: x :: env := rfl
theorem getS_12 : getS (a0 :: a1 :: a2 :: a3 :: a4 :: a5 :: a6 :: a7 :: a8 :: a9 :: a10 :: a11 :: x :: env) 12 = x := rfl
theorem setS_12 : setS (a0 :: a1 :: a2 :: a3 :: a4 :: a5 :: a6 :: a7 :: a8 :: a9 :: a10 :: a11 :: a12 :: env) 12 x = a0 :: a1 :: a2 :: a3 :: a4 :: a5 :: a6 :: a7 :: a8 :: a9 :: a10 :: a11 :: x :: env := rfl
theorem getS_13 : getS (a0 :: a1 :: a2 :: a3 :: a4 :: a5 :: a6 :: a7 :: a8 :: a9 :: a10 :: a11 :: a12 :: x :: env) 13 = x := rfl
theorem setS_13 : setS (a0 :: a1 :: a2 :: a3 :: a4 :: a5 :: a6 :: a7 :: a8 :: a9 :: a10 :: a11 :: a12 :: a13 :: env) 13 x = a0 :: a1 :: a2 :: a3 :: a4 :: a5 :: a6 :: a7 :: a8 :: a9 :: a10 :: a11 :: a12 :: x :: env := rfl
theorem getS_14 : getS (a0 :: a1 :: a2 :: a3 :: a4 :: a5 :: a6 :: a7 :: a8 :: a9 :: a10 :: a11 :: a12 :: a13 :: x :: env) 14 = x := rfl
theorem setS_14 : setS (a0 :: a1 :: a2 :: a3 :: a4 :: a5 :: a6 :: a7 :: a8 :: a9 :: a10 :: a11 :: a12 :: a13 :: a14 :: env) 14 x = a0 :: a1 :: a2 :: a3 :: a4 :: a5 :: a6 :: a7 :: a8 :: a9 :: a10 :: a11 :: a12 :: a13 :: x :: env := rfl
end
section
variable {N : Nat} {body : M Fl} {ds xs ys : List D} {mu : List O} {d : D} {o : O} {i j : Int} {a b : Str} {k : Bool} {n m : Nat} {os : List O}
theorem st_fnM : fnM N body ds mu = match body ⟨env0 N ds, mu⟩ with
  | .ok (.rt o) s => .ok o ⟨[], s.mu⟩
  | .ok .nx s => .ok (.fz .non) ⟨[], s.mu⟩
  | .ok _ _ => .no
  | .exc x s => .exc x ⟨[], s.mu⟩
  | .no => .no := rfl
theorem st_env0 : env0 N ds = ds.map (fun d => some (.fz d)) ++ List.replicate (N - ds.length) none := rfl
theorem st_seqn {m2 : M Fl} : seqK m2 .nx = m2 := rfl
theorem st_seqr {m2 : M Fl} : seqK m2 (.rt o) = ret (.rt o) := rfl
theorem st_seqb {m2 : M Fl} : seqK m2 .bk = ret .bk := rfl
theorem st_seqc {m2 : M Fl} : seqK m2 .ct = ret .ct := rfl
theorem st_forn {t : MT} {mb : M Fl} : forK t mb ds .nx = forL t mb ds := rfl
theorem st_forc {t : MT} {mb : M Fl} : forK t mb ds .ct = forL t mb ds := rfl
theorem st_forb {t : MT} {mb : M Fl} : forK t mb ds .bk = ret .nx := rfl
theorem st_forr {t : MT} {mb : M Fl} : forK t mb ds (.rt o) = ret (.rt o) := rfl
theorem st_parti : partK (.fz (.int i)) = ret (some i) := rfl
theorem st_opqK {g : D → D → Option O} {f : S → Option D} {env : List (Option O)} : opqK g f o ⟨env, mu⟩ = match f ⟨env, mu⟩ with
  | some d => ofO (g o.toD d) ⟨env, mu⟩
  | none => .no := rfl
theorem st_bok {α β : Type} {a : α} {s : S} {f : α → M β} : (R.ok a s).bind f = f a s := rfl
theorem st_bex {α β : Type} {x : Exc} {s : S} {f : α → M β} : (R.exc x s : R α).bind f = .exc x s := rfl
theorem st_isf : isFz (.fz d) = true := rfl
theorem st_isl : isFz (.lst ds) = false := rfl
theorem st_isi {c : Str} {fs : List (Str × O)} : isFz (.ins c fs) = false := rfl
theorem st_tdf : O.toD (.fz d) = d := by rw [O.toD]
theorem st_tdl : O.toD (.lst ds) = .lst ds := by rw [O.toD]
theorem st_tdi {c : Str} {fs : List (Str × O)} : O.toD (.ins c fs) = .ins c (O.toDf fs) := by rw [O.toD]
theorem st_tdn : O.toDf [] = [] := by rw [O.toDf]
theorem st_tdc {c : Str} {fs : List (Str × O)} : O.toDf ((c, o) :: fs) = (c, o.toD) :: O.toDf fs := by rw [O.toDf]
theorem st_asb : asB (.fz (.bl k)) = some k := rfl
theorem st_celf : cellO (.fz d) = false := rfl
theorem st_cell : cellO (.lst ds) = true := rfl
theorem st_fzO : fzO (.fz d) = some (.fz d) := rfl
theorem st_isS : isS (.str a) = true := rfl
theorem st_sqt : seqOf (.tup ds) = some ds := rfl
theorem st_squ : seqOf (.tuk ds) = some ds := rfl
theorem st_silst : seqI (.lst ds) = some ds := rfl
theorem st_silsk : seqI (.lsk ds) = some ds := rfl
theorem st_situp : seqI (.tup ds) = some ds := rfl
theorem st_situk : seqI (.tuk ds) = some ds := rfl
theorem st_addi : addD (.int i) (.int j) = some (.fz (.int (i + j))) := rfl
theorem st_adds : addD (.str a) (.str b) = if a.length + b.length ≤ 16777216 then some (.fz (.str (a ++ b))) else none := rfl
theorem st_addl : addD (.lst xs) (.lst ys) = if xs.length + ys.length ≤ 16777216 then some (.lst (xs ++ ys)) else none := rfl
theorem st_addt : addD (.tup xs) (.tup ys) = if xs.length + ys.length ≤ 16777216 then some (.fz (.tup (xs ++ ys))) else none := rfl
theorem st_subi : subD (.int i) (.int j) = some (.fz (.int (i - j))) := rfl
theorem st_lti : ltD (.int i) (.int j) = some (.fz (.bl (decide (i < j)))) := rfl
theorem st_lei : leD (.int i) (.int j) = some (.fz (.bl (decide (i ≤ j)))) := rfl
theorem st_gti : gtD (.int i) (.int j) = some (.fz (.bl (decide (j < i)))) := rfl
theorem st_gei : geD (.int i) (.int j) = some (.fz (.bl (decide (j ≤ i)))) := rfl
theorem st_divi (h : 0 < j) (h2 : j < 1073741824) : divD (.int i) (.int j) = some (.fz (.int (i / j))) := by simp [divD, iiD, h, h2]
theorem st_modi (h : 0 < j) : modD (.int i) (.int j) = some (.fz (.int (i % j))) := by simp [modD, iiD, h]
theorem st_muli (h : mulOkB i j = true) : mulD (.int i) (.int j) = some (.fz (.int (i * j))) := by simp [mulD, h]
theorem mulL (h : -18446744073709551616 < i) (h2 : i < 18446744073709551616) : mulOkB i j = true := by unfold mulOkB; simp; exact .inl (.inl ⟨h, h2⟩)
theorem mulR (h : -18446744073709551616 < j) (h2 : j < 18446744073709551616) : mulOkB i j = true := by unfold mulOkB; simp; exact .inl (.inr ⟨h, h2⟩)
theorem st_negi : negD (.int i) = some (.fz (.int (-i))) := rfl
theorem st_ixl : ixD (.lst ds) (.int i) = (atI ds i).map .fz := rfl
theorem st_ixk : ixD (.lsk ds) (.int i) = (atI ds i).map .fz := rfl
theorem st_ixt : ixD (.tup ds) (.int i) = (atI ds i).map .fz := rfl
theorem st_ixu : ixD (.tuk ds) (.int i) = (atI ds i).map .fz := rfl
theorem atN {α : Type} {xs : List α} {n : Nat} : atI xs ((n : Nat) : Int) = xs[n]? := by
  unfold atI ixN
  have h0 : (0 : Int) ≤ (n : Int) := Int.natCast_nonneg n
  rw [if_pos h0]
  by_cases h : n < xs.length
  · rw [if_pos (by exact_mod_cast h)]; rfl
  · rw [if_neg (by omega)]; rw [List.getElem?_eq_none (by omega)]; rfl
theorem st_at0 {α : Type} {x : α} {xs : List α} : atI (x :: xs) 0 = some x := by show atI _ ((0 : Nat) : Int) = _; rw [atN]; rfl
theorem st_at1 {α : Type} {x y : α} {xs : List α} : atI (x :: y :: xs) 1 = some y := by show atI _ ((1 : Nat) : Int) = _; rw [atN]; rfl
theorem st_at2 {α : Type} {x y z : α} {xs : List α} : atI (x :: y :: z :: xs) 2 = some z := by show atI _ ((2 : Nat) : Int) = _; rw [atN]; rfl
theorem st_at3 {α : Type} {x y z w : α} {xs : List α} : atI (x :: y :: z :: w :: xs) 3 = some w := by show atI _ ((3 : Nat) : Int) = _; rw [atN]; rfl
theorem st_at4 {α : Type} {x y z w v : α} {xs : List α} : atI (x :: y :: z :: w :: v :: xs) 4 = some v := by show atI _ ((4 : Nat) : Int) = _; rw [atN]; rfl
theorem st_ixn0 : ixN (n + 1) 0 = some 0 := by unfold ixN; rw [if_pos (by omega), if_pos (by omega)]; rfl
theorem st_ixn1 : ixN (n + 2) 1 = some 1 := by unfold ixN; rw [if_pos (by omega), if_pos (by omega)]; rfl
theorem st_ixn2 : ixN (n + 3) 2 = some 2 := by unfold ixN; rw [if_pos (by omega), if_pos (by omega)]; rfl
theorem st_absi : absD (.int i) = some (.fz (.int (if i < 0 then -i else i))) := rfl
theorem st_inti : intD (.int i) = some (.fz (.int i)) := rfl
theorem st_intb : intD (.bl k) = some (.fz (.int (if k then 1 else 0))) := rfl
theorem st_lenl : lenD (.lst ds) = some (.fz (.int ds.length)) := rfl
theorem st_lenk : lenD (.lsk ds) = some (.fz (.int ds.length)) := rfl
theorem st_lent : lenD (.tup ds) = some (.fz (.int ds.length)) := rfl
theorem st_lenu : lenD (.tuk ds) = some (.fz (.int ds.length)) := rfl
theorem st_lens : lenD (.str a) = if a.length ≤ 16777216 then some (.fz (.int a.length)) else none := rfl
theorem st_ixs : ixD (.str a) (.int i) = if a.length ≤ 16777216 then (atI a.cps.toList i).map (fun c => .fz (.str ⟨#[c]⟩)) else none := rfl
theorem st_stri (h : i.natAbs.log2 < 1920) : strD (.int i) = some (.fz (.str (toString i))) := by simp [strD, h]
theorem st_strs : strD (.str a) = some (.fz (.str a)) := rfl
theorem st_is : isD d .non = some (.fz (.bl (isNon d))) := rfl
theorem st_isnt : isntD d .non = some (.fz (.bl (!isNon d))) := rfl
theorem st_nonn : isNon .non = true := rfl
theorem st_noni : isNon (.int i) = false := rfl
theorem st_nons : isNon (.str a) = false := rfl
theorem st_zf2 : zfillD (.str a) [.int 2] = some (.fz (.str (Txt.zfill a 2))) := rfl
theorem st_eqi : eqD (.int i) (.int j) = some (.fz (.bl (decide (i = j)))) := rfl
theorem st_eqs : eqD (.str a) (.str b) = some (.fz (.bl (decide (a = b)))) := rfl
theorem st_nei : neD (.int i) (.int j) = some (.fz (.bl (!decide (i = j)))) := rfl
theorem st_nes : neD (.str a) (.str b) = some (.fz (.bl (!decide (a = b)))) := rfl
theorem st_nenn : neD .non .non = some (.fz (.bl false)) := rfl
theorem st_neni : neD .non (.int i) = some (.fz (.bl true)) := rfl
theorem st_nein : neD (.int i) .non = some (.fz (.bl true)) := rfl
theorem st_fmts : fmtD (.str a) = if a.length ≤ 16777216 then some (.fz (.str a)) else none := rfl
theorem st_mull : mulD (.lst xs) (.int i) = if 0 ≤ i ∧ i ≤ 10000 ∧ xs.length ≤ 1000 then some (.lst (List.replicate i.toNat xs).flatten) else none := rfl
theorem st_fr0 {env : List (Option O)} : freeE env [] = true := rfl
theorem st_fr1 {env : List (Option O)} {v : Nat} {vs : List Nat} : freeE env (v :: vs) = ((match getS env v with | some o => isFz o | none => true) && freeE env vs) := rfl
theorem st_wp0 {env : List (Option O)} : wipeE env [] = env := rfl
theorem st_wp1 {env : List (Option O)} {v : Nat} {vs : List Nat} : wipeE env (v :: vs) = setS (wipeE env vs) v none := rfl
theorem st_bk0 {env e2 : List (Option O)} : backE env e2 [] = e2 := rfl
theorem st_bk1 {env e2 : List (Option O)} {v : Nat} {vs : List Nat} : backE env e2 (v :: vs) = backE env (setS e2 v (getS env v)) vs := rfl
theorem st_nok {α : Type} {a : α} {s : S} : noExc (R.ok a s) = .ok a s := rfl
theorem st_rng1 (h : 0 ≤ i) (h2 : i < 4611686018427387904) : rng1 [.int i] = some (rngL 0 i.toNat) := by unfold rng1; dsimp only; rw [if_pos ⟨by omega, by omega⟩]
theorem st_joi {es : List D} {bs : List Str} (h : strsD es = some bs) (h2 : (bs.map (·.length)).sum + bs.length * a.length ≤ 16777216) : joinD (.str a) [.lst es] = some (.fz (.str (Txt.join a bs))) := by
  unfold joinD itemsD; dsimp only; rw [h]; dsimp only [Option.bind_some]; rw [if_pos h2]
theorem st_dtup : dTup ds = if ds.length ≤ 16777216 then some (.fz (.tup ds)) else none := rfl
theorem st_dlst : dLst ds = if ds.length ≤ 16777216 then some (.lst ds) else none := rfl
end
end L2.Tr
namespace L2.Tr
open PySem PySem.Spec PyProof.Rows L2 L2.Pc
/-! ### texts -/
theorem join_two (y a b : Str) (r : List Str) : Txt.join y (a :: b :: r) = a ++ (y ++ Txt.join y (b :: r)) := by
  apply TL.ext_tl
  rw [TL.tl_append, TL.tl_append, TL.join_eq, TL.join_eq, TL.tl_join, TL.tl_join]
  rfl
theorem join_one (y a : Str) : Txt.join y [a] = a := by
  apply TL.ext_tl
  rw [TL.join_eq, TL.tl_join]
  rfl
theorem joinL_len (S : List Nat) : ∀ ps : List (List Nat), (TL.joinL S ps).length ≤ (ps.map (·.length)).sum + ps.length * S.length
  | [] => by simp [TL.joinL]
  | [p] => by simp [TL.joinL]
  | p :: q :: r => by
    have := joinL_len S (q :: r)
    show (p ++ (S ++ TL.joinL S (q :: r))).length ≤ _
    rw [List.length_append, List.length_append, List.map_cons, List.sum_cons, List.length_cons (a := p), Nat.succ_mul]
    omega
theorem join_le (y : Str) (ws : List Str) : (Txt.join y ws).length ≤ (ws.map (·.length)).sum + ws.length * y.length := by
  have h := TL.tl_join y ws
  have h2 := joinL_len (TL.tl y) (ws.map TL.tl)
  rw [← h, ← TL.join_eq, List.length_map, List.map_map] at h2
  exact h2
/-! ### repr of data: what it asks -/
mutual
def okD : D → Bool
  | .non => true
  | .bl _ => true
  | .int i => decide (i.natAbs.log2 < 1920)
  | .str s => s.cps.toList.all fun c => decide (c < 16 ^ 8)
  | .tup xs => okA xs
  | .tuk xs => okA xs
  | .tun xs => okA xs
  | .lst xs => okA xs
  | .lsk xs => okA xs
  | .dct kvs => okK kvs
  | _ => false
def okA : List D → Bool
  | [] => true
  | x :: xs => okD x && okA xs
def okK : List (D × D) → Bool
  | [] => true
  | (k, x) :: xs => okD k && okD x && okK xs
end
mutual
def dpD : D → Nat
  | .tup xs => dpA xs + 1
  | .tuk xs => dpA xs + 1
  | .tun xs => dpA xs + 1
  | .lst xs => dpA xs + 1
  | .lsk xs => dpA xs + 1
  | .dct kvs => dpK kvs + 1
  | _ => 0
def dpA : List D → Nat
  | [] => 0
  | x :: xs => max (dpD x) (dpA xs)
def dpK : List (D × D) → Nat
  | [] => 0
  | (k, x) :: xs => max (max (dpD k) (dpD x)) (dpK xs)
end
mutual
def wtD : D → Nat
  | .non => 4
  | .bl _ => 5
  | .int i => i.natAbs.log2 + 2
  | .str s => 10 * s.length + 2
  | .tup xs => wtA xs + 3
  | .tuk xs => wtA xs + 3
  | .tun xs => wtA xs + 3
  | .lst xs => wtA xs + 3
  | .lsk xs => wtA xs + 3
  | .dct kvs => wtK kvs + 3
  | _ => 0
def wtA : List D → Nat
  | [] => 0
  | x :: xs => wtD x + 2 + wtA xs
def wtK : List (D × D) → Nat
  | [] => 0
  | (k, x) :: xs => wtD k + wtD x + 4 + wtK xs
end
def lensS (ts : List Str) : Nat := (ts.map fun t => t.length + 2).sum
theorem textFrom_le : ∀ (ts : List Str) (k : Nat) (acc : Str), (textFrom k acc ts).length ≤ acc.length + lensS ts
  | [], k, acc => Nat.le_add_right _ _
  | t :: r, k, acc => by
    have h := textFrom_le r (k + 1) (acc ++ (if k > 0 then ", " else "" : String) ++ t)
    have e : textFrom k acc (t :: r) = textFrom (k + 1) (acc ++ (if k > 0 then ", " else "" : String) ++ t) r := rfl
    rw [e]
    refine Nat.le_trans h ?_
    rw [strLen_append, strLen_append]
    have : (Str.ofString (if k > 0 then ", " else "" : String)).length ≤ 2 := by split <;> decide
    have e2 : lensS (t :: r) = t.length + 2 + lensS r := by unfold lensS; rw [List.map_cons, List.sum_cons]
    rw [e2]
    omega
theorem lens_sum (ts : List Str) : (ts.map (·.length)).sum + ts.length * 2 = lensS ts := by
  unfold lensS
  induction ts with
  | nil => rfl
  | cons t r ih => rw [List.map_cons, List.map_cons, List.sum_cons, List.sum_cons, List.length_cons]; omega
theorem joinS_le (ts : List Str) : (Str.join ", " ts).length ≤ lensS ts := by
  have h := join_le ", " ts
  rw [TL.join_eq, show (", " : Str).length = 2 from rfl, lens_sum] at h
  exact h
theorem py_tup {ps : List PyData} {n : Nat} (h : lensS (PyData.shownAll ps) ≤ n) : (PyData.tuple ps).shown.length ≤ n + 3 := by
  rw [PyData.shown]
  unfold tupleText
  have := joinS_le (PyData.shownAll ps)
  rw [strLen_append, strLen_append]
  have e1 : ("(" : Str).length = 1 := rfl
  have : (Str.ofString (if (PyData.shownAll ps).length == 1 then ",)" else ")" : String)).length ≤ 2 := by split <;> decide
  omega
theorem py_lst {ps : List PyData} {n : Nat} (h : lensS (PyData.shownAll ps) ≤ n) : (PyData.list ps).shown.length ≤ n + 3 := by
  rw [PyData.shown]
  unfold listText
  have := textFrom_le (PyData.shownAll ps) 0 "["
  rw [strLen_append]
  have e1 : ("[" : Str).length = 1 := rfl
  have e2 : ("]" : Str).length = 1 := rfl
  have e3 : (Str.ofString "]").length = 1 := rfl
  omega
mutual
theorem py_ok : ∀ d : D, okD d = true → ∃ p, D.py true d = some p ∧ p.showable = true ∧ p.depth = dpD d ∧ p.shown.length ≤ wtD d
  | .non, _ => ⟨.none, rfl, by simp [PyData.showable], by simp [PyData.depth, dpD], by simp only [PyData.shown, wtD]; decide⟩
  | .bl b, _ => ⟨.bool b, rfl, by simp [PyData.showable], by simp [PyData.depth, dpD], by simp only [PyData.shown, wtD]; cases b <;> decide⟩
  | .int i, h => by
    rw [okD] at h
    refine ⟨.int i, rfl, by rw [PyData.showable]; exact h, by simp [PyData.depth, dpD], ?_⟩
    simp only [PyData.shown, wtD]
    have := int_text_length_le (a := i) (k := i.natAbs.log2 + 1) (by omega) (by omega)
    rw [PySem.ofString_length]
    omega
  | .str s, h => by
    rw [okD] at h
    have h : ∀ c ∈ s.cps.toList, c < 16 ^ 8 := fun c hc => of_decide_eq_true (List.all_eq_true.mp h c hc)
    refine ⟨.str s, rfl, by simp [PyData.showable], by simp [PyData.depth, dpD], ?_⟩
    simp only [PyData.shown, wtD]
    exact StrLaws.reprText_len s h
  | .tup xs, h => by rw [okD] at h; obtain ⟨ps, h1, h2, h3, h4⟩ := py_okA xs h; exact ⟨.tuple ps, by rw [D.py, h1]; rfl, by rw [PyData.showable]; exact h2, by rw [PyData.depth, dpD, h3], py_tup h4⟩
  | .tuk xs, h => by rw [okD] at h; obtain ⟨ps, h1, h2, h3, h4⟩ := py_okA xs h; exact ⟨.tuple ps, by rw [D.py, h1]; rfl, by rw [PyData.showable]; exact h2, by rw [PyData.depth, dpD, h3], py_tup h4⟩
  | .tun xs, h => by rw [okD] at h; obtain ⟨ps, h1, h2, h3, h4⟩ := py_okA xs h; exact ⟨.tuple ps, by rw [D.py, h1]; rfl, by rw [PyData.showable]; exact h2, by rw [PyData.depth, dpD, h3], py_tup h4⟩
  | .lst xs, h => by rw [okD] at h; obtain ⟨ps, h1, h2, h3, h4⟩ := py_okA xs h; exact ⟨.list ps, by rw [D.py, h1]; rfl, by rw [PyData.showable]; exact h2, by rw [PyData.depth, dpD, h3], py_lst h4⟩
  | .lsk xs, h => by rw [okD] at h; obtain ⟨ps, h1, h2, h3, h4⟩ := py_okA xs h; exact ⟨.list ps, by rw [D.py, h1]; rfl, by rw [PyData.showable]; exact h2, by rw [PyData.depth, dpD, h3], py_lst h4⟩
  | .dct kvs, h => by
    rw [okD] at h
    obtain ⟨ps, h1, h2, h3, h4⟩ := py_okK kvs h
    refine ⟨.dict ps, by rw [D.py, h1]; rfl, by rw [PyData.showable]; exact h2, by rw [PyData.depth, dpD, h3], ?_⟩
    rw [PyData.shown, wtD]
    unfold dictText
    have := joinS_le (PyData.shownKv ps)
    rw [strLen_append, strLen_append]
    have e1 : ("{" : Str).length = 1 := rfl
    have e2 : ("}" : Str).length = 1 := rfl
    have e3 : (Str.ofString "}").length = 1 := rfl
    omega
  | .dcu _, h => by simp [okD] at h
  | .ins _ _, h => by simp [okD] at h
  | .cel _, h => by simp [okD] at h
  | .fn _, h => by simp [okD] at h
  | .ty _, h => by simp [okD] at h
  | .xob _ _, h => by simp [okD] at h
  | .xok _ _, h => by simp [okD] at h
theorem py_okA : ∀ ds : List D, okA ds = true → ∃ ps, D.pyA true ds = some ps ∧ PyData.showableAll ps = true ∧ PyData.depthAll ps = dpA ds ∧ lensS (PyData.shownAll ps) ≤ wtA ds
  | [], _ => ⟨[], by rw [D.pyA], by rw [PyData.showableAll], by rw [PyData.depthAll, dpA], by rw [PyData.shownAll, wtA]; exact Nat.le_refl _⟩
  | d :: ds, h => by
    rw [okA, Bool.and_eq_true] at h
    obtain ⟨p, a1, a2, a3, a4⟩ := py_ok d h.1
    obtain ⟨ps, b1, b2, b3, b4⟩ := py_okA ds h.2
    refine ⟨p :: ps, by rw [D.pyA, a1, b1]; rfl, by rw [PyData.showableAll, a2, b2]; rfl, by rw [PyData.depthAll, dpA, a3, b3], ?_⟩
    rw [PyData.shownAll, wtA]
    have e2 : lensS (p.shown :: PyData.shownAll ps) = p.shown.length + 2 + lensS (PyData.shownAll ps) := by unfold lensS; rw [List.map_cons, List.sum_cons]
    omega
theorem py_okK : ∀ ds : List (D × D), okK ds = true → ∃ ps, D.pyK true ds = some ps ∧ PyData.showableKv ps = true ∧ PyData.depthKv ps = dpK ds ∧ lensS (PyData.shownKv ps) ≤ wtK ds
  | [], _ => ⟨[], by rw [D.pyK], by rw [PyData.showableKv], by rw [PyData.depthKv, dpK], by rw [PyData.shownKv, wtK]; exact Nat.le_refl _⟩
  | (k, d) :: ds, h => by
    rw [okK, Bool.and_eq_true, Bool.and_eq_true] at h
    obtain ⟨q, c1, c2, c3, c4⟩ := py_ok k h.1.1
    obtain ⟨p, a1, a2, a3, a4⟩ := py_ok d h.1.2
    obtain ⟨ps, b1, b2, b3, b4⟩ := py_okK ds h.2
    refine ⟨(q, p) :: ps, by rw [D.pyK, c1, a1, b1]; rfl, by rw [PyData.showableKv, c2, a2, b2]; rfl, by rw [PyData.depthKv, dpK, a3, b3, c3], ?_⟩
    rw [PyData.shownKv, wtK]
    have e2 : lensS ((q.shown ++ ": " ++ p.shown) :: PyData.shownKv ps) = (q.shown ++ ": " ++ p.shown).length + 2 + lensS (PyData.shownKv ps) := by unfold lensS; rw [List.map_cons, List.sum_cons]
    rw [e2, strLen_append, strLen_append]
    have e1 : (": " : Str).length = 2 := rfl
    have e3 : (Str.ofString ": ").length = 2 := rfl
    omega
end
theorem repr_okD {d : D} (h : okD d = true) (h1 : dpD d ≤ 60) (h2 : wtD d ≤ 16777216) : ∃ p, D.py true d = some p ∧ reprD d = some (.fz (.str p.shown)) ∧ p.shown.length ≤ wtD d := by
  obtain ⟨p, a1, a2, a3, a4⟩ := py_ok d h
  refine ⟨p, a1, ?_, a4⟩
  unfold reprD
  rw [a1]
  show (if p.showable = true ∧ p.depth ≤ 60 ∧ p.shown.length ≤ 16777216 then _ else _) = _
  rw [if_pos ⟨a2, by omega, by omega⟩]
/-! ### turns that go through -/
theorem bls_map {α : Type} (f : α → Bool) (l : List α) : blsD (l.map fun x => .bl (f x)) = some (l.map f) := by
  induction l with
  | nil => rfl
  | cons x l ih => rw [List.map_cons, blsD, ih]; rfl
end L2.Tr
namespace L2.Tr
open PySem PySem.Spec PyProof.Rows L2 L2.Pc
/-! ### steps with conditions, which a discharger shows -/
section
variable {α : Type} {p : Prop} [Decidable p] {a b : α}
theorem c_if (h : p) : (if p then a else b) = a := if_pos h
theorem c_ifn (h : ¬ p) : (if p then a else b) = b := if_neg h
theorem c_dt (h : p) : decide p = true := decide_eq_true h
theorem c_df (h : ¬ p) : decide p = false := decide_eq_false h
end
section
variable {CT : CTab} {c f g : Str} {d e : D} {o x : O} {fs : List (Str × D)} {os : List (Str × O)}
theorem c_fld (h : okF CT c f = true) : fldO CT f (.fz (.ins c fs)) = (fs.lookup f).map .fz := by
  unfold fldO fldD
  dsimp only
  rw [if_pos h]
theorem c_fldi (h : okF CT c f = true) : fldO CT f (.ins c os) = os.lookup f := by
  unfold fldO
  dsimp only
  rw [if_pos h]
theorem c_lk0 {β : Type} {d : β} {r : List (Str × β)} : List.lookup f ((f, d) :: r) = some d := by simp [List.lookup]
theorem c_lk1 {β : Type} {d : β} {r : List (Str × β)} (h : (f == g) = false) : List.lookup f ((g, d) :: r) = List.lookup f r := by simp [List.lookup, h]
theorem c_pu0 : putO f o [] = [(f, o)] := rfl
theorem c_pu1 : putO f o ((f, x) :: os) = (f, o) :: os := by unfold putO; rw [if_pos rfl]
theorem c_pu2 (h : (f == g) = false) : putO f o ((g, x) :: os) = (g, x) :: putO f o os := by
  conv => lhs; unfold putO
  rw [if_neg]
  intro e
  rw [e] at h
  simp at h
def chB (o : Option Bool) (m : M O) : M O := match o with
  | some true => m
  | some false => ret (.fz (.bl false))
  | none => fun _ => .no
theorem c_chK {g g' : D → D → Option O} {mc : M O} {x y : O} : chainK g g' mc x y = chB ((g x.toD y.toD).bind asB) (bnd mc fun z => ofO (g' y.toD z.toD)) := by
  unfold chainK chB
  rfl
theorem c_chT {m : M O} : chB (some true) m = m := rfl
theorem c_chF {m : M O} : chB (some false) m = ret (.fz (.bl false)) := rfl
theorem c_div {i j : Int} (h : 0 < j ∧ j < 1073741824) : divD (.int i) (.int j) = some (.fz (.int (i / j))) := st_divi h.1 h.2
theorem c_str {i : Int} (h : -18446744073709551616 < i ∧ i < 18446744073709551616) : strD (.int i) = some (.fz (.str (toString i))) := by
  refine st_stri ?_
  by_cases h0 : i.natAbs = 0
  · rw [h0]; decide
  · have : i.natAbs.log2 < 64 := (Nat.log2_lt h0).mpr (by omega)
    omega
section
variable {tbl : List (Str × MF)} {g : D → Option O} {env : List (Option O)} {mu : List O} {ds : List D}
theorem c_rs1 {b : Bool} : runS tbl g (.bl b) ⟨env, mu⟩ = ofO (g (.bl b)) ⟨env, mu⟩ := rfl
theorem c_rs2 {i : Int} : runS tbl g (.int i) ⟨env, mu⟩ = ofO (g (.int i)) ⟨env, mu⟩ := rfl
theorem c_rs3 {a : Str} : runS tbl g (.str a) ⟨env, mu⟩ = ofO (g (.str a)) ⟨env, mu⟩ := rfl
theorem c_rs4 : runS tbl g (.tup ds) ⟨env, mu⟩ = ofO (g (.tup ds)) ⟨env, mu⟩ := rfl
theorem c_rs5 : runS tbl g (.lst ds) ⟨env, mu⟩ = ofO (g (.lst ds)) ⟨env, mu⟩ := rfl
theorem c_rs6 : runS tbl g .non ⟨env, mu⟩ = ofO (g .non) ⟨env, mu⟩ := rfl
theorem c_rs7 : runS tbl g (.tuk ds) ⟨env, mu⟩ = ofO (g (.tuk ds)) ⟨env, mu⟩ := rfl
theorem c_rs8 {kvs : List (D × D)} : runS tbl g (.dct kvs) ⟨env, mu⟩ = ofO (g (.dct kvs)) ⟨env, mu⟩ := rfl
end
theorem c_runI {tbl : List (Str × MF)} {g : D → Option O} {c : Str} {fs : List (Str × D)} {env : List (Option O)} {mu : List O} : runS tbl g (.ins c fs) ⟨env, mu⟩ = (match tbl.lookup c with
  | some mf => (match noExc (runF mf [.ins c fs] ⟨env, mu⟩) with | .ok o s' => ofO (strO o) s' | _ => R.no)
  | none => R.no) := rfl
theorem c_strO {a : Str} : strO (.fz (.str a)) = some (.fz (.str a)) := rfl
theorem c_al0 : List.all ([] : List O) isFz = true := rfl
theorem c_al1 {os : List O} : List.all (.fz d :: os) isFz = List.all os isFz := rfl
theorem c_g0 {mu : List O} : getM (o :: mu) 0 = some o := rfl
theorem c_s0 {mu : List O} {o' : O} : setM (o :: mu) 0 o' = o' :: mu := rfl
theorem c_at5 {β : Type} {x y z w v u : β} {r : List β} : atI (x :: y :: z :: w :: v :: u :: r) 5 = some u := by show atI _ ((5 : Nat) : Int) = _; rw [atN]; rfl
end
theorem c_ltlen (s : String) : (Str.ofString s).length = s.length := PySem.ofString_length s
end L2.Tr
namespace L2.Tr
open PySem PySem.Spec PyProof.Rows L2 L2.Pc
section
variable {P : Program} {w : World} {G : Gi} {base : Heap} {gb : Bool} {k j n : Nat} {f : Addr} {fd : FuncData} {ps ks : List Str} {m : MF} {x c mn : Str} {gD : List D → List D → List D}
theorem FnT.toG (F : FnT P w G base gb k f fd ps m) : FnG P w G.K G.mg base (L2.CX P w) k f fd ps (SpM G ps.length m) :=
  ⟨fun _ _ _ _ ⟨_, _, _, _, _, _, _, h, _⟩ => h, fun A o s H args us vs Q E hg hr e b v h => F.go A o s H args us vs Q E (fun _ => hg) hr e b v h⟩
/-! ### forms of calls -/
/-- values picked: 0 the written ones, 1 the defaults, 2 the keywords' -/
def pick {α : Type} : List (Nat × Nat) → List α → List α → List α → List α
  | [], _, _, _ => []
  | (0, i) :: r, us, ds, ws => us[i]?.toList ++ pick r us ds ws
  | (1, i) :: r, us, ds, ws => ds[i]?.toList ++ pick r us ds ws
  | (_, i) :: r, us, ds, ws => ws[i]?.toList ++ pick r us ds ws
theorem paired_opt {α β : Type} {R : α → β → Prop} : ∀ {us : List α} {vs : List β} (i : Nat), Paired R us vs → Paired R us[i]?.toList vs[i]?.toList
  | _, _, _, .nil => by simpa using Paired.nil
  | _, _, 0, .cons h _ => by simpa using Paired.cons h .nil
  | _, _, i + 1, .cons _ hs => by simpa using paired_opt i hs
theorem paired_app {α β : Type} {R : α → β → Prop} : ∀ {us us' : List α} {vs vs' : List β}, Paired R us vs → Paired R us' vs' → Paired R (us ++ us') (vs ++ vs')
  | _, _, _, _, .nil, k => k
  | _, _, _, _, .cons h hs, k => .cons h (paired_app hs k)
theorem pick_paired {α β : Type} {R : α → β → Prop} {us ds ws : List α} {us' ds' ws' : List β} (h1 : Paired R us us') (h2 : Paired R ds ds') (h3 : Paired R ws ws') : ∀ code : List (Nat × Nat), Paired R (pick code us ds ws) (pick code us' ds' ws')
  | [] => .nil
  | (0, i) :: r => paired_app (paired_opt i h1) (pick_paired h1 h2 h3 r)
  | (1, i) :: r => paired_app (paired_opt i h2) (pick_paired h1 h2 h3 r)
  | (_ + 2, i) :: r => paired_app (paired_opt i h3) (pick_paired h1 h2 h3 r)
theorem rp_paired {F : Hp} {al : List Addr} : ∀ {vs : List V} {ds : List D}, RpA G F al vs ds → Paired (Rp G F al) vs ds
  | _, _, .nil => .nil
  | _, _, .cons h hs => .cons h (rp_paired hs)
theorem paired_rp {F : Hp} {al : List Addr} : ∀ {vs : List V} {ds : List D}, Paired (Rp G F al) vs ds → RpA G F al vs ds
  | _, _, .nil => .nil
  | _, _, .cons h hs => .cons h (paired_rp hs)
theorem bd_pos (hb : ∀ us : List Value, us.length = ps.length → bindArgs fd ⟨us, []⟩ = pure (ps.zip us)) : BdD G.K fd ps ps.length [] (fun ds _ => ds) :=
  ⟨_, _, kb_pos hb, fun vs _ h _ => h, fun _ _ _ _ _ _ _ r _ _ _ => r⟩
theorem kn_pos (F : FnT P w G base gb k f fd ps m) (hm : G.mg x = some (.ref f)) (hk : PySem.W.keepIn G.K (.ref f) = true) (hb : ∀ us : List Value, us.length = ps.length → bindArgs fd ⟨us, []⟩ = pure (ps.zip us)) :
    KnT P w G base gb x k ps.length [] (fun ds _ => ds) m := ⟨f, fd, ps, F, hm, hk, bd_pos hb⟩
theorem bi_pos {p : Str} (hb : ∀ us : List Value, us.length = (p :: ps).length → bindArgs fd ⟨us, []⟩ = pure ((p :: ps).zip us)) : BdI G.K fd (p :: ps) ps.length [] (fun ds _ => ds) :=
  ⟨_, _, kb_pos hb, fun x vs zs h _ => ⟨vs, rfl, by rw [List.length_cons, List.length_cons, h], fun _ _ _ _ _ r _ => r⟩⟩
theorem mk_pos {C : Addr} {p : Str} (M : Mk G.K C f) (hm : G.mg x = some (.ref C)) (F : FnI P w G base k f fd (p :: ps) x m) (hb : ∀ us : List Value, us.length = (p :: ps).length → bindArgs fd ⟨us, []⟩ = pure ((p :: ps).zip us)) :
    MkT P w G base x k ps.length [] (fun ds _ => ds) m := ⟨C, f, fd, p :: ps, M, hm, F, bi_pos hb⟩
def selfP {α : Type} (code : List (Nat × Nat)) (us ds ws : List α) : List α := match us with
  | a :: vs => a :: pick code vs ds ws
  | [] => []
theorem mk_kwn {C : Addr} {p : Str} (code : List (Nat × Nat)) (M : Mk G.K C f) (hm : G.mg x = some (.ref C)) (F : FnI P w G base k f fd (p :: ps) x m)
    (hl : ∀ (vs zs : List V), vs.length = n → zs.length = ks.length → (pick code vs [] zs).length = ps.length)
    (h : ∀ us ws : List Value, us.length = n + 1 → ws.length = ks.length → bindArgs fd ⟨us, ks.zip ws⟩ = pure ((p :: ps).zip (selfP code us [] ws))) : MkT P w G base x k n ks (fun ds es => pick code ds [] es) m :=
  ⟨C, f, fd, p :: ps, M, hm, F, fun us ws => selfP code us [] ws, fun vs zs => selfP code vs [] zs, ⟨fun s us ws _ l1 l2 => .of_eq (h us ws l1 l2), fun r1 r2 => by
    cases r1 with
    | nil => exact .nil
    | cons h hs => exact .cons h (pick_paired hs .nil r2 code)⟩, fun a vs zs l1 l2 => ⟨pick code vs [] zs, rfl, by rw [List.length_cons, List.length_cons, hl vs zs l1 l2], fun _ _ _ _ _ r1 r2 => paired_rp (pick_paired (rp_paired r1) .nil (rp_paired r2) code)⟩⟩
/-- the script, as the tree function reads it -/
theorem law_sp {H : Hp} {a : Addr} {ns : List Int} (hO : Only H) (hS : SqL G.K H a (ns.map V.int)) (hm : ∃ mu, m [.lsk (ns.map .int)] [] = .ok (.fz (.bl true)) ⟨[], mu⟩) :
    SpM G 1 m [.ref a] H (fun v _ => v = .bl true) fun _ _ _ => False := by
  obtain ⟨mu, e⟩ := hm
  have hints : ∀ ns : List Int, RpA G H [] (ns.map V.int) (ns.map D.int) := fun ns => by
    induction ns with
    | nil => exact .nil
    | cons i ns ih => exact .cons (.int i) ih
  refine ⟨⟨H, H, [], [], []⟩, [.lsk (ns.map .int)], [], rfl, rfl, ⟨fun _ _ h => h, fun b h => by simp at h, .nil, .nil, fun b h => (nomatch h), .nil, .nil⟩, .cons (.lsk hS (hints ns)) .nil, rfl, ?_⟩
  rw [e]
  intro v c' fp r g t f nw
  exact own_bl t
end
/-! ### tables -/
theorem lk_mem {α : Type} {c : Str} {v : α} : ∀ {l : List (Str × α)}, l.lookup c = some v → (c, v) ∈ l
  | [], h => by cases h
  | (n, x) :: l, h => by
    unfold List.lookup at h
    cases q : c == n with
    | true => rw [q] at h; cases h; rw [beq_iff_eq.mp q]; exact List.mem_cons_self
    | false => rw [q] at h; exact List.mem_cons_of_mem _ (lk_mem h)
section
variable {P : Program} {w : World} {G : Gi} {base : Heap} {gb : Bool} {k j n : Nat} {f C : Addr} {fd : FuncData} {ps ks : List Str} {m : MF} {x c mn : Str}
theorem kc_of {CT : CTab} (h : ∀ p ∈ CT, ∃ C, G.mg p.1 = some (.ref C) ∧ Cls G.K C ∧ ∀ f ∈ p.2, NoAttr G.K C f) : Kc G CT := ⟨fun c f e => by
  unfold okF at e
  split at e
  · rename_i fl q
    obtain ⟨C, h1, h2, h3⟩ := h (c, fl) (lk_mem q)
    exact ⟨C, h1, h2, h3 f (by simpa using e)⟩
  · cases e⟩
def IsRow (G : Gi) (c : Str) : Prop := ∃ C, G.mg c = some (.ref C) ∧ Cls G.K C ∧ PySem.W.findIn G.K (.ref C) "__class__" = some (some (.builtin "object.__class__")) ∧
    PySem.W.specialIn G.K (.builtin "object.__class__") "__get__" = some (some (.builtin "getset_descriptor.__get__")) ∧ PySem.W.takesIn G.K (.builtin "object.__class__") = some true ∧ PySem.W.mroIn G.K C (.type "object") = some true ∧
    (∀ k ∈ kindsI, PySem.W.kitOne G.K (.type k) (.ref C) = some false) ∧ ∀ n ∈ kindsJ, PySem.W.kitOne G.K (.ref C) (.type n) = some false
theorem is_of {cls : List Str} (h : ∀ c ∈ cls, IsRow G c) (hc : ∀ c ∈ cls, ∀ c' ∈ cls, ∀ C C', G.mg c = some (.ref C) → G.mg c' = some (.ref C') → PySem.W.kitOne G.K (.ref C) (.ref C') = some (decide (c = c'))) : IsT G cls :=
  ⟨fun c e => h c (by simpa using e), fun c c' C C' h1 h2 => hc c (by simpa using h1) c' (by simpa using h2) C C'⟩
theorem gc_int {t : Tok} {i : Int} (h : G.mg x = some (.int i t)) : Gc G x (.int i) := ⟨.int i, ⟨_, h, ⟨_, rfl⟩⟩, fun _ _ => .int i⟩
theorem gc_str {t : Tok} {i : Str} (h : G.mg x = some (.str i t)) : Gc G x (.str i) := ⟨.str i, ⟨_, h, ⟨_, rfl⟩⟩, fun _ _ => .str i⟩
theorem gc_cls (h : G.mg x = some (.ref C)) : Gc G x (.fn x) := ⟨.ref C, ⟨_, h, rfl⟩, fun _ _ => .fn h⟩
theorem gc_tup {A : Addr} {xs : List V} {ds : List D} (h : G.mg x = some (.ref A)) (kt : Kt G.K A xs) (hr : ∀ F al, RpA G F al xs ds) : Gc G x (.tuk ds) := ⟨.ref A, ⟨_, h, rfl⟩, fun F al => .tuk (kt.sq F) (hr F al)⟩
theorem kit_same {K : PySem.W.Frag} {v : Value} : PySem.W.kitOne K v v = some true := by unfold PySem.W.kitOne; simp
theorem cls_some {K : PySem.W.Frag} {C : Addr} (h : PySem.W.mroIn K C (.type "object") = some true) : (PySem.W.clsIn K C).isSome = true := by
  unfold PySem.W.mroIn at h
  cases e : PySem.W.clsIn K C with
  | none => rw [e] at h; cases h
  | some _ => rfl
theorem kit_up {K : PySem.W.Frag} {C : Addr} {t : Value} {b : Bool} (h : PySem.W.mroIn K C (.type "object") = some true) (ty : PySem.W.typeIn K (.ref C) = some (.type "type")) (su : PySem.W.subIn K t (.ref C) = some b) (ne : (t == Value.ref C) = false) : PySem.W.kitOne K t (.ref C) = some b := by
  unfold PySem.W.kitOne PySem.W.kitCls
  rw [if_neg (by rw [ne]; decide)]
  dsimp only
  rw [if_pos (by rw [cls_some h, ty]; simp)]
  exact su
theorem kit_dn {K : PySem.W.Frag} {C : Addr} {T : String} {b : Bool} (hm : PySem.W.kitMeta T = true) (su : PySem.W.subIn K (.ref C) (.type T) = some b) : PySem.W.kitOne K (.ref C) (.type T) = some b := by
  unfold PySem.W.kitOne PySem.W.kitCls
  rw [if_neg (by simp)]
  dsimp only
  rw [if_pos hm]
  exact su
theorem kit_x {K : PySem.W.Frag} {C C2 : Addr} (h : PySem.W.mroIn K C (.type "object") = some true) (ty : PySem.W.typeIn K (.ref C) = some (.type "type")) (ss : PySem.W.subIn K (.ref C) (.ref C) = some true) (su : PySem.W.subIn K (.ref C2) (.ref C) = some false) : PySem.W.kitOne K (.ref C2) (.ref C) = some false :=
  kit_up h ty su (by
    cases e : (Value.ref C2 == Value.ref C) with
    | false => rfl
    | true => have := eq_of_beq e; injection this with this; rw [this, ss] at su; cases su)
end
/-- the goal behind k_head, k_fill -/
theorem walkT {l : PySem.W.OpenLaw} {n k : Nat} {q : Program} {loose : List Str} {XP : (Str → Option Value) → Heap → Prop}
    {YP : World → Heap → Prop} {d : DefRec} {K : Params → PySem.W.Frag} {m : MF} {gb : Bool} {x : Str}
    (hn : l.most = some n) (hn2 : n ≤ sizeLine) (hi : importsNone q = true) (hdf : d.params.defaults = []) (hr : Room k callerA)
    (hY : ∀ (w : World) (h : Heap), YP w h → (K w.params).In h)
    (F : ∀ (w : World) (mg : Str → Option Value) (fa : Addr) (h : Heap), (K w.params).In h → h.Ns mainGlobals mg →
      mg d.name = some (.ref fa) →
      ∃ fd : FuncData, (∀ (s : Shared) (u : Value), BindsTo s fd ⟨[u], []⟩ [(x, u)]) ∧
        ∀ base : Heap, (K w.params).In base → base.Ns mainGlobals mg → Sm base →
          FnT l.prog w ⟨K w.params, mg, none⟩ base gb k fa fd [x] m)
    (hm : ∀ ns : List Int, ns.length ≤ n → ∃ mu, m [.lsk (ns.map .int)] [] = .ok (.fz (.bl true)) ⟨[], mu⟩) :
    PySem.W.WalkO q loose XP YP l.row.toRowW d [] (fun f vs => PySem.call f vs) := by
  refine Att.attach_call hn hdf ?_
  intro w s0 s1 mg mb fa o pm cd doc a vs ns G Y ho hd hcd hmg hobj hints hlen hge
  have KX := hY w _ Y
  obtain ⟨fd, hbi, hF⟩ := F w mg fa _ KX G.T.g hmg
  exact law_callG (CX := L2.CX l.prog w) (sp := SpM ⟨K w.params, mg, none⟩ 1 m) KX G.T.g G.T.b G.T.builtins G.T.nolimit hge hobj hints (Nat.le_trans hlen hn2) hr ((G.T.seer hi).mods.imp fun _ h => h.1) (fun base a b c => (hF base a b c).toG) hbi
    (fun H hO hS => law_sp hO hS (hm ns hlen)) (fun H e s' c => by
      obtain ⟨_, _, _, _, _, _, _, _, _, _, _, _, h⟩ := c
      exact h.elim)
end L2.Tr
namespace L2.Tr
open PySem PySem.Spec PyProof.Rows L2 L2.Pc
/-! ### an exception's __init__ -/
/-! ### raise -/
def sRaise (x : Str) (fns : List Str) (ma : M (List D)) : M Fl := bnd ma fun ds s => if ds.length = fns.length ∧ ds.length ≤ 1000 then .exc ⟨x, (fns.zip ds).reverse⟩ s else .no
/-! ### trees without a caught exception -/
mutual
def noX : D → Bool
  | .xob _ _ => false
  | .xok _ fs => noXF fs
  | .tup xs => noXA xs
  | .lst xs => noXA xs
  | .lsk xs => noXA xs
  | .tuk xs => noXA xs
  | .tun xs => noXA xs
  | .dct kvs => noXK kvs
  | .dcu kvs => noXK kvs
  | .ins _ fs => noXF fs
  | .cel _ => true
  | .non => true
  | .bl _ => true
  | .int _ => true
  | .str _ => true
  | .fn _ => true
  | .ty _ => true
def noXA : List D → Bool
  | [] => true
  | d :: ds => noX d && noXA ds
def noXK : List (D × D) → Bool
  | [] => true
  | (_, d) :: ds => noX d && noXK ds
def noXF : List (Str × D) → Bool
  | [] => true
  | (_, d) :: ds => noX d && noXF ds
end
theorem noXF_map : ∀ fs : List (Str × D), noXF fs = noXA (fs.map (·.2))
  | [] => by rw [noXF]; rfl
  | (_, d) :: r => by rw [noXF, List.map_cons, noXA, noXF_map r]
theorem noXK_map : ∀ fs : List (D × D), noXK fs = noXA (fs.map (·.2))
  | [] => by rw [noXK]; rfl
  | (_, d) :: r => by rw [noXK, List.map_cons, noXA, noXK_map r]
mutual
def noXO : O → Bool
  | .fz d => noX d
  | .lst xs => noXA xs
  | .dct kvs => noXK kvs
  | .dcu kvs => noXK kvs
  | .ins _ fs => noXOF fs
  | .dco kvs => noXOK kvs
  | .dcv kvs => noXOK kvs
def noXOF : List (Str × O) → Bool
  | [] => true
  | (_, d) :: ds => noXO d && noXOF ds
def noXOK : List (D × O) → Bool
  | [] => true
  | (_, d) :: ds => noXO d && noXOK ds
end
def noXOA : List O → Bool
  | [] => true
  | d :: ds => noXO d && noXOA ds
theorem noXOF_map : ∀ fs : List (Str × O), noXOF fs = noXOA (fs.map (·.2))
  | [] => by rw [noXOF]; rfl
  | (_, d) :: r => by rw [noXOF, List.map_cons, noXOA, noXOF_map r]
theorem noXOK_map : ∀ fs : List (D × O), noXOK fs = noXOA (fs.map (·.2))
  | [] => by rw [noXOK]; rfl
  | (_, d) :: r => by rw [noXOK, List.map_cons, noXOA, noXOK_map r]
section
variable {G G' : Gi} {F H : Hp} {al : List Addr}
mutual
theorem Rp.nx (h0 : G.xo = none) : ∀ {v : V} {d : D}, Rp G F al v d → noX d = true
  | _, _, .non => by rw [noX]
  | _, _, .bl b => by rw [noX]
  | _, _, .int i => by rw [noX]
  | _, _, .str x => by rw [noX]
  | _, _, .tup h hs => by rw [noX]; exact RpA.nx h0 hs
  | _, _, .tuk h hs => by rw [noX]; exact RpA.nx h0 hs
  | _, _, .tun h k hs => by rw [noX]; exact RpA.nx h0 hs
  | _, _, .lst h hs => by rw [noX]; exact RpA.nx h0 hs
  | _, _, .lsk h hs => by rw [noX]; exact RpA.nx h0 hs
  | _, _, .dcK h k hs => by rw [noX, noXK_map]; exact RpA.nx h0 hs
  | _, _, .dcT h k hs => by rw [noX, noXK_map]; exact RpA.nx h0 hs
  | _, _, .ins h k m hs => by rw [noX, noXF_map]; exact RpA.nx h0 hs
  | _, _, .cel h => by rw [noX]
  | _, _, .fn h => by rw [noX]
  | _, _, .ty n => by rw [noX]
  | _, _, .xob h _ _ _ _ => by rw [h0] at h; cases h
  | _, _, .xob0 h _ => by rw [h0] at h; cases h
  | _, _, .xok h q k n hs => by rw [noX, noXF_map]; exact RpA.nx h0 hs
  | _, _, .xok0 h q => by rw [noX, noXF]
theorem RpA.nx (h0 : G.xo = none) : ∀ {vs : List V} {ds : List D}, RpA G F al vs ds → noXA ds = true
  | _, _, .nil => by rw [noXA]
  | _, _, .cons h hs => by rw [noXA, Rp.nx h0 h, RpA.nx h0 hs]; rfl
end
mutual
theorem OwnT.nx (h0 : G.xo = none) : ∀ {o : O} {v : V} {fp : List Addr}, OwnT G F al H o v fp → noXO o = true
  | _, _, _, .fz h => by rw [noXO]; exact h.nx h0
  | _, _, _, .lst h hs => by rw [noXO]; exact hs.nx h0
  | _, _, _, .dcK h q hs => by rw [noXO, noXK_map]; exact hs.nx h0
  | _, _, _, .dcT h q hs => by rw [noXO, noXK_map]; exact hs.nx h0
  | _, _, _, .ins h q m hs => by rw [noXO, noXOF_map]; exact OwnA.nx h0 hs
  | _, _, _, .dcoK h q hs => by rw [noXO, noXOK_map]; exact OwnA.nx h0 hs
  | _, _, _, .dcoT h q hs => by rw [noXO, noXOK_map]; exact OwnA.nx h0 hs
theorem OwnA.nx (h0 : G.xo = none) : ∀ {os : List O} {vs : List V} {fp : List Addr}, OwnA G F al H os vs fp → noXOA os = true
  | _, _, _, .nil => rfl
  | _, _, _, .cons h hs => by rw [noXOA, OwnT.nx h0 h, OwnA.nx h0 hs]; rfl
end
def noXE : List (Option O) → Bool
  | [] => true
  | none :: env => noXE env
  | some o :: env => noXO o && noXE env
theorem Slots.nx (h0 : G.xo = none) : ∀ {env : List (Option O)} {σ : L2.St} {fp : List Addr}, Slots G F al H env σ fp → noXE env = true
  | _, _, _, .nil => rfl
  | _, _, _, .un h => by rw [noXE]; exact Slots.nx h0 h
  | _, _, _, .so h hs => by rw [noXE, h.nx h0, Slots.nx h0 hs]; rfl
end
def chkV (env : List (Option O)) (vs : List Nat) : Bool := vs.all fun v => match getS env v with
  | some o => noXO o
  | none => true
/-! ### try .. except C as e -/
structure HdT (G : Gi) (c : Value) (tbl : List (Str × Bool)) : Prop where
  ex : ∀ x b, tbl.lookup x = some b → ∃ C, G.mg x = some (.ref C) ∧ PySem.W.exmOne G.K (.ref C) c = some b
def noXFl : Fl → Bool
  | .rt o => noXO o
  | _ => true
open Classical in
/-- the suite of a clause with a name: slot i bears the exception, the slots vs may be stored to -/
noncomputable def sSuite (i : Nat) (vs : List Nat) (ms : M Fl) (x : Exc) : M Fl := fun s => match ms ⟨setS s.env i (some (.fz (.xob x.cls x.fs))), s.mu⟩ with
  | .ok f s2 => if s2.mu = s.mu ∧ wipeE (setS s2.env i none) vs = wipeE (setS s.env i none) vs ∧ chkV (setS s2.env i none) vs = true ∧ noXFl f = true then .ok f ⟨setS s2.env i none, s2.mu⟩ else .no
  | _ => .no
noncomputable def sTryAs (i : Nat) (vs : List Nat) (tbl : List (Str × Bool)) (mb ms : M Fl) : M Fl := fun s => match mb s with
  | .exc x s' => (match tbl.lookup x.cls with
    | some true => sSuite i vs ms x s'
    | some false => .exc x s'
    | none => .no)
  | r => r
/-- .. without a name -/
def sTry1 (tbl : List (Str × Bool)) (mb ms : M Fl) : M Fl := fun s => match mb s with
  | .exc x s' => (match tbl.lookup x.cls with
    | some true => (match ms s' with
      | .exc _ _ => .no
      | r => r)
    | some false => .exc x s'
    | none => .no)
  | r => r
theorem _root_.L2.PSs.ex {α : Type} {X : Cx} {e : List Stmt} {t : α → TS} (h : ∀ x, PSs X e (t x)) : PSs X e (fun D σ H => ∃ x, t x D σ H) :=
  ⟨fun pins s σ H Q I ⟨x, q⟩ => (h x).run pins s σ H Q I q⟩
theorem rel_unset {G : Gi} {st : S} {σ : L2.St} {c0 c : Cf} {i : Nat} (r : Rel G st σ c) (g : Go c0 c) : ∃ c', c'.H = c.H ∧ Rel G ⟨setS st.env i none, st.mu⟩ (σ.set i none) c' ∧ Go c0 c' := by
  obtain ⟨f1, f2, f3, e, _, q⟩ := slots_put i r.slots
  have sub : ∀ a, a ∈ f1 ++ f3 → a ∈ c.fs := fun a h => by rw [e]; exact mem_ends h
  refine ⟨{ c with fs := f1 ++ f3 }, rfl, ⟨r.sub, fun a h => ?_, ?_, r.ndc, fun a h => r.dis a (sub a h), (q c.F c.H c.al (Mo.refl _ _) fun _ _ => rfl).2 none, r.cells⟩,
    ⟨g.mo, g.fr, fun a h => ?_, g.nF⟩⟩
  · rcases h with h | h
    · exact r.own a (.inl (sub a h))
    · exact r.own a (.inr h)
  · exact (nd_ends (by rw [← e]; exact r.nds)).1
  · rcases h with h | h
    · exact g.fp a (.inl (sub a h))
    · exact g.fp a (.inr h)
/-! ### e.f in a suite -/
def xfO (XT : CTab) (f : Str) (o : O) : Option O := match o with
  | .fz (.xob c fs) => if okF XT c f = true then (fs.lookup f).map .fz else none
  | _ => none
def xXf (XT : CTab) (f : Str) (m : M O) : M O := bnd m fun o => ofO (xfO XT f o)
/-! ### tables -/
structure HdN (G : Gi) (x : Str) (tbl : List (Str × Bool)) : Prop where
  ex : ∃ c, G.mg x = some c ∧ HdT G c tbl
theorem lookup_mem {α : Type} {k : Str} {v : α} : ∀ {l : List (Str × α)}, l.lookup k = some v → (k, v) ∈ l
  | [], h => by cases h
  | (a, b) :: l, h => by
    rw [List.lookup] at h
    split at h
    · rename_i e
      cases h
      have e := eq_of_beq e
      subst e
      exact List.mem_cons_self
    · exact List.mem_cons_of_mem _ (lookup_mem h)
theorem hd_of {G : Gi} {x : Str} {c : Value} {tbl : List (Str × Bool)} (hc : G.mg x = some c) (h : ∀ p ∈ tbl, ∃ C, G.mg p.1 = some (.ref C) ∧ PySem.W.exmOne G.K (.ref C) c = some p.2) : HdN G x tbl :=
  ⟨c, hc, ⟨fun y b e => h (y, b) (lookup_mem e)⟩⟩
end L2.Tr
namespace L2.Tr
open PySem PySem.Spec PyProof.Rows L2 L2.Pc
/-- how many keywords (a name of its own, so that simp leaves it) -/
def nK (l : List Str) : Nat := l.length
/-! ### zip, enumerate, reversed -/
def lstD : D → Option (List D)
  | .lst ds => some ds
  | .lsk ds => some ds
  | _ => none
def tupD : D → Option (List D)
  | .tup ds => some ds
  | .tuk ds => some ds
  | .tun ds => some ds
  | _ => none
def pairD (xs ys : List D) : List D := (xs.zip ys).map fun p => .tup [p.1, p.2]
def zipD : List D → Option (List D)
  | [a, b] => match lstD a, lstD b with
    | some xs, some ys => some (pairD xs ys)
    | _, _ => (match tupD a, tupD b with
      | some xs, some ys => some (pairD xs ys)
      | _, _ => none)
  | _ => none
def numD (i : Nat) : List D → List D
  | [] => []
  | d :: ds => .tup [.int (i : Nat), d] :: numD (i + 1) ds
def enumD : List D → Option (List D)
  | [a] => (lstD a).map (numD 0)
  | _ => none
def revI (d : D) : Option (List D) := match lstD d with
  | some xs => some xs.reverse
  | none => (tupD d).map List.reverse
def mZip (ma : M (List D)) : M (List D) := bnd ma fun ds => ofO (zipD ds)
def mEnum (ma : M (List D)) : M (List D) := bnd ma fun ds => ofO (enumD ds)
def mRev (md : M D) : M (List D) := bnd md fun d => ofO (revI d)
section
variable {X : Cx} {G : Gi} {W : WX} {tg e e2 : Expr} {md : M D} {ma : M (List D)} {p pos tpos : Pos} {elts : List Expr} {kk : Nat}
/-- {} -/
theorem x_dict0 {pos : Pos} : PE X (.Dict [] [] pos) (tO G W (ret (.dct []))) := (pe_dnewK (X := X)).weak fun σ H Q q => by
  obtain ⟨c, st, rfl, r, w⟩ := q
  intro p hp
  obtain ⟨c', e, r', g', p'⟩ := new_ow (G := G) (o := .dK []) (t := .dct []) r hp (.dcK upd_same rfl .nil)
  rw [← e]
  exact w _ c' r' g' p'
end
end L2.Tr
namespace L2.Tr
open PySem PySem.Spec PyProof.Rows L2 L2.Pc
/-! ### steps of raise, try, zip -/
def raiseK (x : Str) (fns : List Str) (ds : List D) : M Fl := fun s => if ds.length = fns.length ∧ ds.length ≤ 1000 then .exc ⟨x, (fns.zip ds).reverse⟩ s else .no
noncomputable def tryB (i : Nat) (vs : List Nat) (ms : M Fl) (x : Exc) (s : S) : Option Bool → R Fl
  | some true => sSuite i vs ms x s
  | some false => .exc x s
  | none => .no
noncomputable def tryK (i : Nat) (vs : List Nat) (tbl : List (Str × Bool)) (ms : M Fl) : R Fl → R Fl
  | .exc x s => tryB i vs ms x s (tbl.lookup x.cls)
  | r => r
def try1B (ms : M Fl) (x : Exc) (s : S) : Option Bool → R Fl
  | some true => noExc (ms s)
  | some false => .exc x s
  | none => .no
def try1K (tbl : List (Str × Bool)) (ms : M Fl) : R Fl → R Fl
  | .exc x s => try1B ms x s (tbl.lookup x.cls)
  | r => r
open Classical in
noncomputable def suiK (i : Nat) (vs : List Nat) (s : S) : R Fl → R Fl
  | .ok f s2 => if s2.mu = s.mu ∧ wipeE (setS s2.env i none) vs = wipeE (setS s.env i none) vs ∧ chkV (setS s2.env i none) vs = true ∧ noXFl f = true then .ok f ⟨setS s2.env i none, s2.mu⟩ else .no
  | _ => .no
section
variable {x f g c : Str} {fns : List Str} {ma : M (List D)} {mb ms : M Fl} {env e2 : List (Option O)} {mu : List O} {d d2 d3 : D} {i v : Nat} {vs : List Nat} {tbl : List (Str × Bool)} {fs : List (Str × D)} {fl : Fl} {s : S} {XT : CTab} {ex : Exc} {m : M O} {md : M D} {xs ys ds : List D} {o : O}
theorem st_raise : sRaise x fns ma ⟨env, mu⟩ = (ma ⟨env, mu⟩).bind (raiseK x fns) := rfl
theorem st_raise1 : raiseK x [f] [d] s = .exc ⟨x, [(f, d)]⟩ s := rfl
theorem st_raise2 : raiseK x [f, g] [d, d2] s = .exc ⟨x, [(g, d2), (f, d)]⟩ s := rfl
theorem st_raise3 : raiseK x [f, g, c] [d, d2, d3] s = .exc ⟨x, [(c, d3), (g, d2), (f, d)]⟩ s := rfl
theorem st_try : sTryAs i vs tbl mb ms ⟨env, mu⟩ = tryK i vs tbl ms (mb ⟨env, mu⟩) := by
  unfold sTryAs tryK
  cases mb ⟨env, mu⟩ with
  | exc x s => dsimp only; cases tbl.lookup x.cls with
    | none => rfl
    | some b => cases b <;> rfl
  | _ => rfl
theorem st_tryok : tryK i vs tbl ms (.ok fl s) = .ok fl s := rfl
theorem st_tryex : tryK i vs tbl ms (.exc ⟨c, fs⟩ s) = tryB i vs ms ⟨c, fs⟩ s (tbl.lookup c) := rfl
theorem st_tryt : tryB i vs ms ex s (some true) = sSuite i vs ms ex s := rfl
theorem st_tryf : tryB i vs ms ex s (some false) = .exc ex s := rfl
theorem st_suite : sSuite i vs ms ⟨c, fs⟩ ⟨env, mu⟩ = suiK i vs ⟨env, mu⟩ (ms ⟨setS env i (some (.fz (.xob c fs))), mu⟩) := by
  unfold sSuite suiK
  rfl
open Classical in
theorem st_suiok : suiK i vs ⟨env, mu⟩ (.ok fl ⟨e2, mu⟩) = if wipeE (setS e2 i none) vs = wipeE (setS env i none) vs ∧ chkV (setS e2 i none) vs = true ∧ noXFl fl = true then .ok fl ⟨setS e2 i none, mu⟩ else .no := by
  unfold suiK
  dsimp only
  by_cases h : wipeE (setS e2 i none) vs = wipeE (setS env i none) vs ∧ chkV (setS e2 i none) vs = true ∧ noXFl fl = true
  · rw [if_pos h, if_pos ⟨rfl, h⟩]
  · rw [if_neg h, if_neg (fun z => h z.2)]
theorem st_chk0 : chkV env [] = true := rfl
theorem st_chk1 : chkV env (v :: vs) = ((match getS env v with | some o => noXO o | none => true) && chkV env vs) := rfl
theorem st_nxo : noXO (.fz d) = noX d := by rw [noXO]
theorem st_nxl : noXO (.lst ds) = noXA ds := by rw [noXO]
theorem st_nxs : noX (.str x) = true := by rw [noX]
theorem st_nxb {b : Bool} : noX (.bl b) = true := by rw [noX]
theorem st_nxi {i : Int} : noX (.int i) = true := by rw [noX]
theorem st_nxn : noX .non = true := by rw [noX]
theorem st_nxt : noX (.tup ds) = noXA ds := by rw [noX]
theorem st_nxL : noX (.lst ds) = noXA ds := by rw [noX]
theorem st_nxa0 : noXA [] = true := by rw [noXA]
theorem st_nxa1 : noXA (d :: ds) = (noX d && noXA ds) := by rw [noXA]
theorem st_nxf : noXFl .nx = true := rfl
theorem st_nxr : noXFl (.rt o) = noXO o := rfl
theorem st_try1 : sTry1 tbl mb ms ⟨env, mu⟩ = try1K tbl ms (mb ⟨env, mu⟩) := by
  unfold sTry1 try1K
  cases mb ⟨env, mu⟩ with
  | exc x s => dsimp only; cases tbl.lookup x.cls with
    | none => rfl
    | some b =>
      cases b
      · rfl
      · show _ = noExc (ms s)
        cases ms s <;> rfl
  | _ => rfl
theorem st_try1ok : try1K tbl ms (.ok fl s) = .ok fl s := rfl
theorem st_try1ex : try1K tbl ms (.exc ⟨c, fs⟩ s) = try1B ms ⟨c, fs⟩ s (tbl.lookup c) := rfl
theorem st_try1t : try1B ms ex s (some true) = noExc (ms s) := rfl
theorem st_try1f : try1B ms ex s (some false) = .exc ex s := rfl
theorem st_xf : xXf XT f m ⟨env, mu⟩ = (m ⟨env, mu⟩).bind fun o => ofO (xfO XT f o) := rfl
theorem st_xfo (h : okF XT c f = true) : xfO XT f (.fz (.xob c fs)) = (fs.lookup f).map .fz := by unfold xfO; dsimp only; rw [if_pos h]
theorem st_mzip : mZip ma ⟨env, mu⟩ = (ma ⟨env, mu⟩).bind fun ds => ofO (zipD ds) := rfl
theorem st_menum : mEnum ma ⟨env, mu⟩ = (ma ⟨env, mu⟩).bind fun ds => ofO (enumD ds) := rfl
theorem st_mrev : mRev md ⟨env, mu⟩ = (md ⟨env, mu⟩).bind fun ds => ofO (revI ds) := rfl
theorem st_zipl : zipD [.lst xs, .lst ys] = some (pairD xs ys) := rfl
theorem st_zipt : zipD [.tup xs, .tup ys] = some (pairD xs ys) := rfl
theorem st_pair0 : pairD [] ys = [] := rfl
theorem st_pair1 : pairD (d :: xs) (d2 :: ys) = .tup [d, d2] :: pairD xs ys := rfl
theorem st_enuml : enumD [.lst xs] = some (numD 0 xs) := rfl
theorem st_num0 {k : Nat} : numD k [] = [] := rfl
theorem st_num1 {k : Nat} : numD k (d :: xs) = .tup [.int (k : Nat), d] :: numD (k + 1) xs := rfl
theorem st_revl : revI (.lst xs) = some xs.reverse := rfl
theorem st_revt : revI (.tup xs) = some xs.reverse := rfl
theorem st_fnI {N : Nat} {body : M Fl} : fnI N x body ds mu = if noCA ds = true then (match body ⟨some (.fz (.cel 0)) :: env0 (N - 1) ds, [.ins x []]⟩ with
  | .ok .nx ⟨_, [o]⟩ => if noCO o = true then .ok o ⟨[], mu⟩ else .no
  | .exc e _ => if noCF e.fs = true then .exc e ⟨[], mu⟩ else .no
  | _ => .no) else .no := rfl
theorem st_nk0 : ((0 : Nat) = nK []) = True := eq_true rfl
theorem st_nk1 {k0 : Str} : ((1 : Nat) = nK [k0]) = True := eq_true rfl
theorem st_nk2 {k0 k1 : Str} : ((2 : Nat) = nK [k0, k1]) = True := eq_true rfl
theorem st_nk3 {k0 k1 k2 : Str} : ((3 : Nat) = nK [k0, k1, k2]) = True := eq_true rfl
theorem st_nk4 {k0 k1 k2 k3 : Str} : ((4 : Nat) = nK [k0, k1, k2, k3]) = True := eq_true rfl
theorem st_nk5 {k0 k1 k2 k3 k4 : Str} : ((5 : Nat) = nK [k0, k1, k2, k3, k4]) = True := eq_true rfl
theorem st_nk6 {k0 k1 k2 k3 k4 k5 : Str} : ((6 : Nat) = nK [k0, k1, k2, k3, k4, k5]) = True := eq_true rfl
theorem st_nk7 {k0 k1 k2 k3 k4 k5 k6 : Str} : ((7 : Nat) = nK [k0, k1, k2, k3, k4, k5, k6]) = True := eq_true rfl
theorem st_nk8 {k0 k1 k2 k3 k4 k5 k6 k7 : Str} : ((8 : Nat) = nK [k0, k1, k2, k3, k4, k5, k6, k7]) = True := eq_true rfl
end
end L2.Tr
namespace L2.Tr
open PySem PySem.Spec PyProof.Rows L2 L2.Pc
/-! ### a dict of the module with text keys -/
inductive VTab (G : Gi) : List (Str × Value) → List (Str × D) → Prop
  | nil : VTab G [] []
  | cons {k : Str} {u : Value} {us : List (Str × Value)} {d : D} {ds : List (Str × D)} : (∃ v, RelV v u ∧ ∀ F al, Rp G F al v d) → VTab G us ds → VTab G ((k, u) :: us) ((k, d) :: ds)
theorem VTab.get {G : Gi} {us : List (Str × Value)} {ds : List (Str × D)} (h : VTab G us ds) (z : Str) : (∀ d, ds.lookup z = some d → ∃ u v, us.lookup z = some u ∧ RelV v u ∧ ∀ F al, Rp G F al v d) ∧ (us.lookup z).isSome = (ds.lookup z).isSome := by
  induction h with
  | nil => exact ⟨fun d h => (by cases h), rfl⟩
  | @cons k u us d ds hv _ ih =>
    obtain ⟨v, r, hr⟩ := hv
    by_cases hz : z = k
    · subst hz
      rw [List.lookup_cons_self, List.lookup_cons_self]
      exact ⟨fun d' h => by cases h; exact ⟨u, v, rfl, r, hr⟩, rfl⟩
    · have n2 : (z == k) = false := beq_eq_false_iff_ne.mpr hz
      rw [List.lookup, n2, List.lookup, n2]
      exact ih
/-! ### a call by a name that holds a def -/
theorem KnT.mono {P : Program} {w : World} {G : Gi} {base : Heap} {gb : Bool} {x : Str} {j k n : Nat} {ks : List Str} {gD : List D → List D → List D} {m : MF} (F : KnT P w G base gb x j n ks gD m) (h : j ≤ k) : KnT P w G base gb x k n ks gD m := by
  obtain ⟨f, fd, ps, F, r⟩ := F.ex
  exact ⟨f, fd, ps, F.mono h, r⟩
end L2.Tr
namespace L2.Tr
open PySem PySem.Spec PyProof.Rows L2 L2.Pc
/-! ### a slot's own thing made a cell; pop of a cell -/
section
variable {X : Cx} {G : Gi} {W : WX} {e : Expr} {st : Stmt} {m : M Fl} {me : M O} {pos apos cpos : Pos} {i : Nat}
def celS (i : Nat) : M Fl := fun s => match getS s.env i with
  | some o => if cellO o = true then .ok .nx ⟨setS s.env i (some (.fz (.cel s.mu.length))), s.mu ++ [o]⟩ else .no
  | none => .no
def celK (i : Nat) : Fl → M Fl
  | .nx => celS i
  | f => ret f
def sCel (i : Nat) (m : M Fl) : M Fl := bnd m (celK i)
theorem rpA_erase {F : Hp} {al : List Addr} : ∀ {vs : List V} {ds : List D} {j : Nat}, RpA G F al vs ds → RpA G F al (vs.eraseIdx j) (ds.eraseIdx j)
  | _, _, j, .nil => .nil
  | _, _, 0, .cons _ hs => hs
  | _, _, j + 1, .cons h hs => .cons h (rpA_erase hs)
def xPop (i : Nat) (me : M O) : M O := fun s => match getS s.env i with
  | some (.fz (.cel n)) => (match getM s.mu n with
    | some (.lst _) => (me s).bind fun o s1 => (match getS s1.env i, getM s1.mu n, o.toD with
      | some (.fz (.cel n')), some (.lst xs), .int k => if n' = n ∧ -(2 ^ 63) ≤ k ∧ k < 2 ^ 63 then (match seqIndex? k xs.length with
        | some j => (match xs[j]? with
          | some y => .ok (.fz y) ⟨s1.env, setM s1.mu n (.lst (xs.eraseIdx j))⟩
          | none => .no)
        | none => .no) else .no
      | _, _, _ => .no)
    | _ => .no)
  | _ => .no
end
/-! ### a list compared with [] -/
section
variable {X : Cx} {G : Gi} {W : WX} {a b : Expr} {ma mb : M O}
def rNil (K : PySem.W.Frag) (neg : Bool) : R2 := fun x y H Q => ∃ a b xs, x = .ref a ∧ y = .ref b ∧ SqL K H a xs ∧ SqL K H b [] ∧ Q (.bl (xs.isEmpty != neg)) H
theorem op_nil (neg : Bool) (hu : X.A.units + 64 < cLine) : OpR X (compareOp (cmpOpB neg)) (rNil X.K neg) := by
  intro pins s σ H x y v u Q I rx ry h
  obtain ⟨a, b, xs, rfl, rfl, ha, hb, q⟩ := h
  cases xs with
  | nil =>
    cases neg
    · exact op_eqD hu _ _ _ _ _ _ _ _ _ I rx ry ⟨.list [], .list [], .lst ha .nil, .lst hb .nil, rfl, rfl, q⟩
    · exact op_neD hu _ _ _ _ _ _ _ _ _ I rx ry ⟨.list [], .list [], .lst ha .nil, .lst hb .nil, rfl, rfl, q⟩
  | cons z zs =>
    cases rx
    cases ry
    obtain ⟨its, rv, ⟨o, n, ho, hc, _, hd⟩, _⟩ := I.list ha
    obtain ⟨its2, rv2, ⟨o2, n2, ho2, hc2, _, hd2⟩, _⟩ := I.list hb
    cases rv with
    | cons r1 r2 =>
      cases rv2
      have sz : ∀ u : Value, ∀ us : List Value, ((u :: us).toArray.size != (([] : List Value).toArray).size) = true := fun _ _ => rfl
      cases neg
      · exact SeqAt.RcAt.lists_lengths ⟨o, ho, hc, n, hd⟩ ⟨o2, ho2, hc2, n2, hd2⟩ (sz _ _) (by omega) _ _ _ _ ⟨.bl false, H, I, rfl, q⟩
      · exact SeqAt.RcNeAt.lists_lengths ⟨o, ho, hc, n, hd⟩ ⟨o2, ho2, hc2, n2, hd2⟩ (sz _ _) (by omega) _ _ _ _ ⟨.bl true, H, I, rfl, q⟩
def nilD (neg : Bool) : D → D → Option O
  | .lst xs, .lst [] => some (.fz (.bl (xs.isEmpty != neg)))
  | _, _ => none
theorem k_neN {K : PySem.W.Frag} (h : X.K = K) (hu : X.A.units + 64 < cLine) : OpR X (compareOp .NotEq) (rNil K true) := h ▸ op_nil true hu
end
/-! ### a function called by keywords alone -/
/-! ### a cell compared with [] -/
section
variable {X : Cx} {G : Gi} {W : WX} {b : Expr} {pos : Pos} {i : Nat}
def xNil (neg : Bool) (i : Nat) : M O := fun s => match getS s.env i with
  | some (.fz (.cel n)) => (match getM s.mu n with
    | some (.lst xs) => .ok (.fz (.bl (xs.isEmpty != neg))) s
    | _ => .no)
  | _ => .no
end
/-! ### `is` of two truths -/
end L2.Tr
namespace L2.Tr
open PySem PySem.Spec PyProof.Rows L2 L2.Pc
/-! ### cells that are dicts with text keys, their entries owned -/
def isK (k : Str) : D → Bool
  | .str s => decide (s = k)
  | _ => false
def getK (k : Str) : List (D × O) → Option O
  | [] => none
  | (d, o) :: r => if isK k d = true then some o else getK k r
/-- the first entry of a key exchanged -/
def setK (k : Str) (o' : O) : List (D × O) → List (D × O)
  | [] => []
  | (d, o) :: r => if isK k d = true then (d, o') :: r else (d, o) :: setK k o' r
/-- an entry that is no owned thing, exchanged everywhere -/
def putW (k : Str) (d' : D) : List (D × O) → List (D × O)
  | [] => []
  | (d, o) :: r => (d, if isK k d = true then .fz d' else o) :: putW k d' r
def okW (k : Str) : List (D × O) → Bool
  | [] => true
  | (d, o) :: r => (!isK k d || isFz o) && okW k r
theorem isK_iff {k : Str} {q : Key} : isK k (kD q) = decide (q = .inr k) := by
  cases q with
  | inl i => rfl
  | inr s =>
    show decide (s = k) = _
    by_cases h : s = k
    · subst h; simp
    · rw [decide_eq_false h, decide_eq_false fun e => h (Sum.inr.inj e)]
section
variable {G : Gi}
theorem own_getK {F H : Hp} {al : List Addr} {k : Str} : ∀ {os : List (D × O)} {kv : List (Key × V)} {fp : List Addr} {o : O}, os.map (·.1) = kv.map (fun p => kD p.1) → OwnA G F al H (os.map (·.2)) (kv.map (·.2)) fp → getK k os = some o →
    ∃ v f1 f2 f3, valV kv (.inr k) = some v ∧ OwnT G F al H o v f2 ∧ fp = f1 ++ (f2 ++ f3) ∧ ∀ H' o', (∀ b ∈ f1 ++ f3, H' b = H b) → OwnT G F al H' o' v f2 →
      OwnA G F al H' ((setK k o' os).map (·.2)) (kv.map (·.2)) fp ∧ (setK k o' os).map (·.1) = os.map (·.1)
  | [], _, _, o, _, _, e => by cases e
  | (d, o1) :: os, [], _, o, h, _, _ => by cases h
  | (d, o1) :: os, (q, v1) :: kv, _, o, h, .cons (fp := fp) (fq := fq) t ts, e => by
    have h1 : d = kD q := (List.cons.inj h).1
    have h2 : os.map (·.1) = kv.map (fun p => kD p.1) := (List.cons.inj h).2
    subst h1
    unfold getK at e
    by_cases z : q = .inr k
    · have zk : isK k (kD q) = true := by rw [isK_iff]; exact decide_eq_true z
      rw [if_pos zk] at e
      cases e
      refine ⟨v1, [], fp, fq, valV_pos z, t, rfl, fun H' o' k1 t' => ?_⟩
      unfold setK
      rw [if_pos zk]
      exact ⟨.cons t' (ts.mo (Mo.refl _ _) k1), rfl⟩
    · have zk : ¬ isK k (kD q) = true := by rw [isK_iff]; exact fun x => z (of_decide_eq_true x)
      rw [if_neg zk] at e
      obtain ⟨v, f1, f2, f3, p1, p2, p3, p4⟩ := own_getK h2 ts e
      subst p3
      refine ⟨v, fp ++ f1, f2, f3, by rw [valV_neg z]; exact p1, p2, by rw [List.append_assoc], fun H' o' k1 t' => ?_⟩
      obtain ⟨r1, r2⟩ := p4 H' o' (fun b hb => k1 b (by rw [List.append_assoc]; exact List.mem_append_right _ hb)) t'
      unfold setK
      rw [if_neg zk]
      refine ⟨.cons (t.mo (Mo.refl _ _) fun b hb => k1 b (List.mem_append_left _ (List.mem_append_left _ hb))) r1, ?_⟩
      show kD q :: _ = kD q :: _
      rw [r2]
theorem own_putW {F H : Hp} {al : List Addr} {k : Str} {d' : D} {v' : V} (hv : Rp G F al v' d') : ∀ {os : List (D × O)} {kv : List (Key × V)} {fp : List Addr}, os.map (·.1) = kv.map (fun p => kD p.1) → OwnA G F al H (os.map (·.2)) (kv.map (·.2)) fp → okW k os = true →
    OwnA G F al H ((putW k d' os).map (·.2)) ((kv.map fun p => if p.1 = .inr k then (p.1, v') else p).map (·.2)) fp ∧ (putW k d' os).map (·.1) = (kv.map fun p => if p.1 = .inr k then (p.1, v') else p).map (fun p => kD p.1)
  | [], [], _, _, .nil, _ => ⟨.nil, rfl⟩
  | [], _ :: _, _, h, _, _ => by cases h
  | (d, o1) :: os, [], _, h, _, _ => by cases h
  | (d, o1) :: os, (q, v1) :: kv, _, h, .cons (fp := fp) (fq := fq) t ts, e => by
    have h1 : d = kD q := (List.cons.inj h).1
    have h2 : os.map (·.1) = kv.map (fun p => kD p.1) := (List.cons.inj h).2
    subst h1
    unfold okW at e
    rw [Bool.and_eq_true] at e
    obtain ⟨r1, r2⟩ := own_putW (k := k) hv h2 ts e.2
    by_cases z : q = .inr k
    · have zk : isK k (kD q) = true := by rw [isK_iff]; exact decide_eq_true z
      have fo : isFz o1 = true := by have := e.1; rw [zk] at this; exact this
      obtain ⟨rfl, _⟩ := own_fz t fo
      unfold putW
      refine ⟨?_, ?_⟩
      · rw [List.map_cons, List.map_cons, List.map_cons, if_pos zk, if_pos z]
        exact .cons (.fz hv) r1
      · rw [List.map_cons, List.map_cons, List.map_cons, if_pos z, r2]
    · have zk : ¬ isK k (kD q) = true := by rw [isK_iff]; exact fun x => z (of_decide_eq_true x)
      unfold putW
      refine ⟨?_, ?_⟩
      · rw [List.map_cons, List.map_cons, List.map_cons, if_neg zk, if_neg z]
        exact .cons t r1
      · rw [List.map_cons, List.map_cons, List.map_cons, if_neg z, r2]
theorem own_dco {F H : Hp} {al : List Addr} {os : List (D × O)} {v : V} {fp : List Addr} (h : OwnT G F al H (.dco os) v fp) : ∃ a kv fq, v = .ref a ∧ fp = a :: fq ∧ H a = some (.dK kv) ∧ os.map (·.1) = kv.map (fun p => kD p.1) ∧ OwnA G F al H (os.map (·.2)) (kv.map (·.2)) fq := by
  cases h with
  | dcoK h1 h2 h3 => exact ⟨_, _, _, rfl, rfl, h1, h2, h3⟩
theorem placeM {st : S} {σ : L2.St} {c : Cf} {i n : Nat} {o : O} (r : Rel G st σ c) (e1 : getS st.env i = some (.fz (.cel n))) (e2 : getM st.mu n = some o) : ∃ v f2, σ[i]? = some (some v) ∧ OwnT G c.F c.al c.H o v f2 ∧ f2.Nodup ∧
    ∀ (H' : Hp) (o' : O), (∀ a, a ∉ f2 → H' a = c.H a) → OwnT G c.F c.al H' o' v f2 → Rel G ⟨st.env, setM st.mu n o'⟩ σ { c with H := H' } ∧ GoE c { c with H := H' } := by
  obtain ⟨v, g1, g2, g3, q1, q2, _⟩ := slots_get r.slots e1
  obtain ⟨v', f1, f2, f3, p1, p2, p3, p4⟩ := ownA_set r.cells e2
  have ev : v = v' := by
    cases q2 with
    | fz t =>
      cases t with
      | cel h =>
        rw [List.getElem?_map, h] at p1
        exact Option.some.inj p1
  subst ev
  have nd := r.ndc
  rw [p3] at nd
  obtain ⟨n1, n2, n3⟩ := nd_ends nd
  have sub : ∀ a ∈ f2, a ∈ c.fc := fun a h => by rw [p3]; exact mem_mid h
  refine ⟨v, f2, q1, p2, n2, fun H' o' k t => ⟨?_, ?_⟩⟩
  · refine ⟨fun a u z => ?_, r.own, r.nds, r.ndc, r.dis, r.slots.mo (Mo.refl _ _) fun a ha => k a fun z => r.dis a ha (sub a z), ?_⟩
    · show H' a = some u
      rw [k a (fun y => by have := r.own a (.inr (sub a y)); rw [z] at this; cases this)]
      exact r.sub a u z
    · have := p4 c.F H' c.al (Mo.refl _ _) (fun a ha => k a fun z => n3 a z ha) o' f2 t
      rw [← p3] at this
      exact this
  · exact { mo := Mo.refl _ _, fr := fun a _ h1 h2 => k a fun z => h2 (sub a z), fp := fun a h => h.elim .inl fun h => .inr (.inl h), nF := fun a h => .inl h,
            hs := fun a h _ => k a fun z => r.dis a h (sub a z), sf := fun a h => h, cf := fun a h h2 => absurd h (r.dis a h2) }
/-- an entry of a cell's dict -/
theorem placeD {st : S} {σ : L2.St} {c : Cf} {i n : Nat} {k : Str} {os : List (D × O)} {o : O} (r : Rel G st σ c) (e1 : getS st.env i = some (.fz (.cel n))) (e2 : getM st.mu n = some (.dco os)) (e3 : getK k os = some o) :
    ∃ a kv v f2, σ[i]? = some (some (.ref a)) ∧ c.H a = some (.dK kv) ∧ valV kv (.inr k) = some v ∧ OwnT G c.F c.al c.H o v f2 ∧
    ∀ (H' : Hp) (o' : O), (∀ b, b ∉ f2 → H' b = c.H b) → OwnT G c.F c.al H' o' v f2 → Rel G ⟨st.env, setM st.mu n (.dco (setK k o' os))⟩ σ { c with H := H' } ∧ GoE c { c with H := H' } := by
  obtain ⟨v0, ff, q1, q2, nd, hp⟩ := placeM r e1 e2
  obtain ⟨a, kv, fq, rfl, rfl, h1, h2, h3⟩ := own_dco q2
  obtain ⟨v, f1, f2, f3, p1, p2, p3, p4⟩ := own_getK h2 h3 e3
  subst p3
  have nd2 := (List.nodup_cons.mp nd).2
  have na := (List.nodup_cons.mp nd).1
  obtain ⟨_, _, n3⟩ := nd_ends nd2
  refine ⟨a, kv, v, f2, q1, h1, p1, p2, fun H' o' k t => ?_⟩
  have naf : a ∉ f2 := fun z => na (List.mem_append_right _ (List.mem_append_left _ z))
  obtain ⟨r1, r2⟩ := p4 H' o' (fun b hb => k b fun z => n3 b z hb) t
  exact hp H' _ (fun b hb => k b fun z => hb (List.mem_cons_of_mem _ (List.mem_append_right _ (List.mem_append_left _ z)))) (.dcoK (by rw [k a naf]; exact h1) (by rw [r2]; exact h2) r1)
variable {X : Cx} {W : WX} {e b : Expr} {i jj j2 : Nat} {k x : Str} {px pos cp cp2 pos' apos cpos : Pos} {md : M D} {j : Int}
/-- an entry, as it is just now -/
def xDg (i : Nat) (k : Str) : M O := fun s => match getS s.env i with
  | some (.fz (.cel n)) => (match getM s.mu n with
    | some (.dco os) => (match getK k os with
      | some o => .ok o s
      | none => .no)
    | _ => .no)
  | _ => .no
/-- an entry that is no owned thing -/
def xDgF (i : Nat) (k : Str) : M O := fun s => match getS s.env i with
  | some (.fz (.cel n)) => (match getM s.mu n with
    | some (.dco os) => (match getK k os with
      | some (.fz d) => .ok (.fz d) s
      | _ => .no)
    | _ => .no)
  | _ => .no
theorem x_dgL (hu : X.A.units + 64 < cLine) (hN : X.N[i]? = some x) (hv : Vis X.env.scope x) (hd : (x == ("__debug__" : Str)) = false := by decide) (hcd : (x == ("__classdict__" : Str)) = false := by decide)
    (hs : NoSl (.Constant (.str k) jj cp) := by exact fun _ _ => rfl) : PE X (.Subscript (.Name x px) (.Constant (.str k) jj cp) pos) (tLa G W (xDg i k)) :=
  (pe_dget (by omega) (pe_var hN hv hd hcd) pe_str hs).weak fun σ H Q q => by
    obtain ⟨c, st, rfl, r, w⟩ := q
    unfold xDg at w
    split at w
    · rename_i n e0
      split at w
      · rename_i os e1
        split at w
        · rename_i o e2
          obtain ⟨a, kv, v, f2, q1, q2, q3, q4, _⟩ := placeD r e0 e1 e2
          refine ⟨.ref a, q1, ?_⟩
          show ∃ a' v', V.ref a = .ref a' ∧ DGet c.H a' (.str k) (some v') ∧ Q v' c.H
          exact ⟨a, v, rfl, by rw [← q3]; exact .k (k := .inr k) q2, w v c r (GoE.refl r) ⟨f2, q4⟩⟩
        · exact w.elim
      · exact w.elim
    · exact w.elim
theorem x_dgF (hu : X.A.units + 64 < cLine) (hN : X.N[i]? = some x) (hv : Vis X.env.scope x) (hd : (x == ("__debug__" : Str)) = false := by decide) (hcd : (x == ("__classdict__" : Str)) = false := by decide)
    (hs : NoSl (.Constant (.str k) jj cp) := by exact fun _ _ => rfl) : PE X (.Subscript (.Name x px) (.Constant (.str k) jj cp) pos) (tO G W (xDgF i k)) :=
  (pe_dget (by omega) (pe_var hN hv hd hcd) pe_str hs).weak fun σ H Q q => by
    obtain ⟨c, st, rfl, r, w⟩ := q
    unfold xDgF at w
    split at w
    · rename_i n e0
      split at w
      · rename_i os e1
        split at w
        · rename_i d e2
          obtain ⟨a, kv, v, f2, q1, q2, q3, q4, _⟩ := placeD r e0 e1 e2
          refine ⟨.ref a, q1, ?_⟩
          show ∃ a' v', V.ref a = .ref a' ∧ DGet c.H a' (.str k) (some v') ∧ Q v' c.H
          have q4 : OwnT G c.F c.al c.H (.fz d) v [] := by cases q4 with | fz t => exact .fz t
          exact ⟨a, v, rfl, by rw [← q3]; exact .k (k := .inr k) q2, w v c r (GoE.refl r) ⟨[], q4, Fresh.nil _, New.nil _⟩⟩
        · exact w.elim
      · exact w.elim
    · exact w.elim
/-- an entry that is a list, compared with [] -/
def xNilD (neg : Bool) (i : Nat) (k : Str) : M O := fun s => match getS s.env i with
  | some (.fz (.cel n)) => (match getM s.mu n with
    | some (.dco os) => (match getK k os with
      | some (.lst xs) => .ok (.fz (.bl (xs.isEmpty != neg))) s
      | some (.fz (.lst xs)) => .ok (.fz (.bl (xs.isEmpty != neg))) s
      | _ => .no)
    | _ => .no)
  | _ => .no
theorem nilD_t (neg : Bool) {σ : L2.St} {H : Hp} {Q : VK} (q : tO G W (xNilD neg i k) σ H Q) : tOp (rNil G.K neg) (tDGet (tVar i) (tC (.str k))) (tLst tNil) σ H Q := by
  obtain ⟨c, st, rfl, r, w⟩ := q
  unfold xNilD at w
  split at w
  · rename_i n e0
    split at w
    · rename_i os e1
      split at w
      · rename_i xs e2
        obtain ⟨a, kv, v, f2, q1, q2, q3, q4, _⟩ := placeD r e0 e1 e2
        obtain ⟨l, vs, rfl, rfl, hv, rv⟩ := own_lst q4
        refine ⟨.ref a, q1, a, .ref l, rfl, by rw [← q3]; exact .k (k := .inr k) q2, ?_⟩
        show 0 ≤ sizeLine ∧ ∀ p, c.H p = none → rNil G.K neg (.ref l) (.ref p) (upd c.H p (.lst [])) Q
        refine ⟨Nat.zero_le _, fun p hp => ?_⟩
        have ne : l ≠ p := fun e => by rw [e, hp] at hv; cases hv
        have em : xs.isEmpty = vs.isEmpty := by cases rv <;> rfl
        rw [em] at w
        exact ⟨l, p, vs, rfl, rfl, .inl (.inl (by rw [upd_ne ne]; exact hv)), .inl (.inl upd_same), w _ _ (r.new hp) (GoE.new r hp) ⟨[], .fz (.bl _), Fresh.nil _, New.nil _⟩⟩
      · rename_i xs e2
        obtain ⟨a, kv, v, f2, q1, q2, q3, q4, _⟩ := placeD r e0 e1 e2
        obtain ⟨l, vs, rfl, hv, rv⟩ : ∃ l vs, v = .ref l ∧ c.H l = some (.lst vs) ∧ RpA G c.F c.al vs xs := by
          cases q4 with
          | fz t => cases t with
            | lst h hs => exact ⟨_, _, rfl, r.sub _ _ h, hs⟩
        refine ⟨.ref a, q1, a, .ref l, rfl, by rw [← q3]; exact .k (k := .inr k) q2, ?_⟩
        show 0 ≤ sizeLine ∧ ∀ p, c.H p = none → rNil G.K neg (.ref l) (.ref p) (upd c.H p (.lst [])) Q
        refine ⟨Nat.zero_le _, fun p hp => ?_⟩
        have ne : l ≠ p := fun e => by rw [e, hp] at hv; cases hv
        have em : xs.isEmpty = vs.isEmpty := by cases rv <;> rfl
        rw [em] at w
        exact ⟨l, p, vs, rfl, rfl, .inl (.inl (by rw [upd_ne ne]; exact hv)), .inl (.inl upd_same), w _ _ (r.new hp) (GoE.new r hp) ⟨[], .fz (.bl _), Fresh.nil _, New.nil _⟩⟩
      · exact w.elim
    · exact w.elim
  · exact w.elim
theorem xt_nilD (neg : Bool) {op : CmpOp} (ho : OpR X (compareOp op) (rNil G.K neg)) (hu : X.A.units + 64 < cLine) (hN : X.N[i]? = some x) (hv : Vis X.env.scope x) (hm : behindInMarks op (.List [] cp2) = false)
    (hd : (x == ("__debug__" : Str)) = false := by decide) (hcd : (x == ("__classdict__" : Str)) = false := by decide)
    (hs : NoSl (.Constant (.str k) jj cp) := by exact fun _ _ => rfl) :
    PT X (.Compare (.Subscript (.Name x px) (.Constant (.str k) jj cp) pos') [op] [.List [] cp2] pos) (tTs G W (toB (xNilD neg i k))) := (pt_cmpR ho (pe_dget (by omega) (pe_var hN hv hd hcd) pe_str hs) (pe_lst pa_nil) hm).weak fun σ H Q q => by
  have q2 := test_t (prO_bl (G := G)) q
  exact nilD_t neg q2
/-- one taken out of an entry that is a list -/
def xPopD (i : Nat) (k : Str) (j : Int) : M O := fun s => match getS s.env i with
  | some (.fz (.cel n)) => (match getM s.mu n with
    | some (.dco os) => (match getK k os with
      | some (.lst xs) => if -(2 ^ 63) ≤ j ∧ j < 2 ^ 63 then (match seqIndex? j xs.length with
        | some p => (match xs[p]? with
          | some y => .ok (.fz y) ⟨s.env, setM s.mu n (.dco (setK k (.lst (xs.eraseIdx p)) os))⟩
          | none => .no)
        | none => .no) else .no
      | _ => .no)
    | _ => .no)
  | _ => .no
theorem popD_t {σ : L2.St} {H : Hp} {Q : VK} (q : tO G W (xPopD i k j) σ H Q) : tBM G.K "list" rPopAt (tDGet (tVar i) (tC (.str k))) (tCons (tC (.int j)) tNil) σ H Q := by
  obtain ⟨c, st, rfl, r, w⟩ := q
  unfold xPopD at w
  split at w
  · rename_i n e0
    split at w
    · rename_i os e1
      split at w
      · rename_i xs e2
        split at w
        · rename_i hc
          obtain ⟨k1, k2⟩ := hc
          split at w
          · rename_i p ej
            split at w
            · rename_i y ey
              obtain ⟨a, kv, v, f2, q1, q2, q3, q4, hp⟩ := placeD r e0 e1 e2
              obtain ⟨l, vs, rfl, rfl, hv, rv⟩ := own_lst q4
              obtain ⟨u, hu, ru⟩ := rv.get ey
              obtain ⟨r2, g2⟩ := hp (upd c.H l (.lst (vs.eraseIdx p))) (.lst (xs.eraseIdx p)) (fun b hb => upd_ne fun e => hb (by rw [e]; exact List.mem_singleton_self _)) (.lst upd_same (rpA_erase rv))
              refine ⟨.ref a, q1, a, .ref l, rfl, by rw [← q3]; exact .k (k := .inr k) q2, .inl ⟨rfl, _, .inl (.inl hv)⟩, ?_⟩
              show rPopAt (.ref l) [.int j] c.H Q
              exact ⟨l, vs, j, p, u, rfl, rfl, hv, k1, k2, by rw [rv.len]; exact ej, hu, w u _ r2 g2 ⟨[], .fz ru, Fresh.nil _, New.nil _⟩⟩
            · exact w.elim
          · exact w.elim
        · exact w.elim
      · exact w.elim
    · exact w.elim
  · exact w.elim
theorem x_popD (hK : X.K = G.K) (hu : X.A.units + 64 < cLine) (hN : X.N[i]? = some x) (hv : Vis X.env.scope x) (hd : (x == ("__debug__" : Str)) = false := by decide) (hcd : (x == ("__classdict__" : Str)) = false := by decide)
    (hs : NoSl (.Constant (.str k) jj cp) := by exact fun _ _ => rfl)
    (hbase : attributeBase (.Subscript (.Name x px) (.Constant (.str k) jj cp) pos') "pop" X.env (eval (.Subscript (.Name x px) (.Constant (.str k) jj cp) pos') X.env) = eval (.Subscript (.Name x px) (.Constant (.str k) jj cp) pos') X.env := by rfl)
    (hfew : ((backTo cpos (starEach [.Constant (.int j) j2 cp2] X.env)).all (fun x => !x.1) && (backToKw cpos (keywordEach [] X.env)).all (fun x => x.1.isSome)
      && decide (([.Constant (.int j) j2 cp2] : List Expr).length + ([] : List Keyword).length + (if ([] : List Keyword).isEmpty then 0 else 1) < 30)) = true := by rfl)
    (hline : (apos.endLine == cpos.line) = true := by rfl) (hst : starEach [.Constant (.int j) j2 cp2] X.env = (false, eval (.Constant (.int j) j2 cp2) X.env) :: starEach [] X.env := by rfl) (hplain : (backTo cpos (starEach [] X.env)).any (·.1) = false := by rfl) :
    PE X (.Call (.Attribute (.Subscript (.Name x px) (.Constant (.str k) jj cp) pos') "pop" apos) [.Constant (.int j) j2 cp2] [] cpos) (tO G W (xPopD i k j)) :=
  (pe_bm PySem.F.plainAttrs_list PySem.F.slot_list_pop PySem.F.type_list_pop mt_popAt (pe_dget (by omega) (pe_var hN hv hd hcd) pe_str hs) (pa_cons pe_int pa_nil hst) hbase hfew hline hst hplain).weak fun σ H Q q => by
    rw [hK]; exact popD_t q
/-- d[k][j] = e -/
def sPutLD (i : Nat) (k : Str) (j : Int) (md : M D) : M Fl := bnd md fun d s => match getS s.env i with
  | some (.fz (.cel n)) => (match getM s.mu n with
    | some (.dco os) => (match getK k os with
      | some (.lst xs) => (match ixN xs.length j with
        | some q => .ok .nx ⟨s.env, setM s.mu n (.dco (setK k (.lst (xs.set q d)) os))⟩
        | none => .no)
      | _ => .no)
    | _ => .no)
  | _ => .no
theorem putLD_t {D' : Ends} {σ : L2.St} {H : Hp} (q : tS G W (sPutLD i k j md) D' σ H) : tAsg (tD G W md) (gSub (tDGet (tVar i) (tC (.str k))) (tC (.int j)) rSetL) D' σ H := by
  show tD G W md σ H fun v H1 => tDGet (tVar i) (tC (.str k)) σ H1 fun o H2 => rSetL o (.int j) v H2 fun H3 => D'.nx σ H3
  refine tS.ex q _ (fun d v c c1 st1 r1 g1 p1 w => ?_)
  split at w
  · rename_i n e0
    split at w
    · rename_i os e1
      split at w
      · rename_i xs e2
        split at w
        · rename_i q' eq'
          obtain ⟨a, kv, v', f2, q1, q2, q3, q4, hp⟩ := placeD r1 e0 e1 e2
          obtain ⟨l, vs, rfl, rfl, hv, rv⟩ := own_lst q4
          obtain ⟨r2, g2⟩ := hp (upd c1.H l (.lst (vs.set q' v))) (.lst (xs.set q' d)) (fun b hb => upd_ne fun e => hb (by rw [e]; exact List.mem_singleton_self _)) (.lst upd_same (RpA.set p1 q' rv))
          refine ⟨.ref a, q1, a, .ref l, rfl, by rw [← q3]; exact .k (k := .inr k) q2, ?_⟩
          exact ⟨l, vs, j, q', rfl, rfl, hv, by rw [rv.len]; exact eq', w σ _ r2 (g1.toGo.trans g2.toGo)⟩
        · exact w.elim
      · exact w.elim
    · exact w.elim
  · exact w.elim
theorem s_putLD (hu : X.A.units + 64 < cLine) (hN : X.N[i]? = some x) (hv : Vis X.env.scope x) (he : PE X e (tD G W md)) (hd : (x == ("__debug__" : Str)) = false := by decide) (hcd : (x == ("__classdict__" : Str)) = false := by decide)
    (hsl : NoSl (.Constant (.str k) jj cp) := by exact fun _ _ => rfl)
    (hs : swapsWithSole [.Subscript (.Subscript (.Name x px) (.Constant (.str k) jj cp) apos) (.Constant (.int j) j2 cp2) pos'] e pos.line X.env = pure false := by rfl) (hw : swappedStores [.Subscript (.Subscript (.Name x px) (.Constant (.str k) jj cp) apos) (.Constant (.int j) j2 cp2) pos'] e X.env = pure none := by rfl)
    (h1 : (assignEach [.Subscript (.Subscript (.Name x px) (.Constant (.str k) jj cp) apos) (.Constant (.int j) j2 cp2) pos'] X.env).map (·.2) = [assign (.Subscript (.Subscript (.Name x px) (.Constant (.str k) jj cp) apos) (.Constant (.int j) j2 cp2) pos') X.env] := by rfl)
    (ha : ∀ v, assign (.Subscript (.Subscript (.Name x px) (.Constant (.str k) jj cp) apos) (.Constant (.int j) j2 cp2) pos') X.env v = (do
      let ov ← holding [v] (eval (.Subscript (.Name x px) (.Constant (.str k) jj cp) apos) X.env)
      let iv ← holding [v, ov] (eval (.Constant (.int j) j2 cp2) X.env)
      standAt pos'
      holding [v, ov, iv] (setItem ov iv v)
      release [v, ov, iv] []) := by intro _; rfl) :
    PS X (.Assign [.Subscript (.Subscript (.Name x px) (.Constant (.str k) jj cp) apos) (.Constant (.int j) j2 cp2) pos'] e pos) (tS G W (sPutLD i k j md)) :=
  (ps_asg he (pg_sub (pe_dget (by omega) (pe_var hN hv hd hcd) pe_str hsl) pe_int set_list ha) hs hw h1).weak fun _ _ _ q => putLD_t q
/-- d[k] = e, of an entry that is there and no owned thing -/
def sPutW (i : Nat) (k : Str) (md : M D) : M Fl := bnd md fun d s => match getS s.env i with
  | some (.fz (.cel n)) => (match getM s.mu n with
    | some (.dco os) => (match getK k os with
      | some _ => if okW k os = true ∧ os.length < 16777216 then .ok .nx ⟨s.env, setM s.mu n (.dco (putW k d os))⟩ else .no
      | none => .no)
    | _ => .no)
  | _ => .no
theorem putW_t {D' : Ends} {σ : L2.St} {H : Hp} (q : tS G W (sPutW i k md) D' σ H) : sDPut (tVar i) (tC (.str k)) (tD G W md) D' σ H := by
  show tD G W md σ H fun v H1 => tVar i σ H1 fun x H2 => ∃ a H4, x = .ref a ∧ DPut H2 a (.str k) v H4 ∧ D'.nx σ H4
  refine tS.ex q _ (fun d v c c1 st1 r1 g1 p1 w => ?_)
  split at w
  · rename_i n e0
    split at w
    · rename_i os e1
      split at w
      · rename_i o e2
        split at w
        · rename_i hc
          obtain ⟨v0, ff, q1, q2, nd, hp⟩ := placeM r1 e0 e1
          obtain ⟨a, kv, fq, rfl, rfl, h1, h2, h3⟩ := own_dco q2
          obtain ⟨v', f1, f2, f3, p1', _, _, _⟩ := own_getK h2 h3 e2
          have na := (List.nodup_cons.mp nd).1
          obtain ⟨r2, r3⟩ := own_putW (k := k) p1 h2 h3 hc.1
          have hk : putK kv (.inr k) v = kv.map fun p => if p.1 = .inr k then (p.1, v) else p := by
            unfold putK
            rw [if_pos (by rw [valV_any, p1']; rfl)]
          have hl : kv.length = os.length := by
            have := congrArg List.length h2
            rw [List.length_map, List.length_map] at this
            exact this.symm
          obtain ⟨r4, g4⟩ := hp (upd c1.H a (.dK (putK kv (.inr k) v))) (.dco (putW k d os)) (fun b hb => upd_ne fun e => hb (by rw [e]; exact List.mem_cons_self)) (.dcoK (kvs := putK kv (.inr k) v) upd_same (by rw [hk]; exact r3) (by
            rw [hk]
            exact r2.mo (Mo.refl _ _) fun b hb => upd_ne fun e => na (by rw [← e]; exact hb)))
          exact ⟨.ref a, q1, a, _, rfl, .k (k := .inr k) h1 (by rw [szl, hl]; exact hc.2), w σ _ r4 (g1.toGo.trans g4.toGo)⟩
        · exact w.elim
      · exact w.elim
    · exact w.elim
  · exact w.elim
theorem s_putW (hu : X.A.units + 64 < cLine) (hN : X.N[i]? = some x) (hv : Vis X.env.scope x) (he : PE X e (tD G W md)) (hd : (x == ("__debug__" : Str)) = false := by decide) (hcd : (x == ("__classdict__" : Str)) = false := by decide)
    (hs : swapsWith e (some (.Subscript (.Name x px) (.Constant (.str k) jj cp) pos')) pos.line X.env = pure false := by rfl) :
    PS X (.Assign [.Subscript (.Name x px) (.Constant (.str k) jj cp) pos'] e pos) (tS G W (sPutW i k md)) :=
  (ps_dput (by omega) (pe_var hN hv hd hcd) pe_str he hs).weak fun _ _ _ q => putW_t q
/-- {k1: (what slot i owns), k2: (slot j's), k3: z} -/
def xWell (k1 k2 k3 : Str) (i i2 : Nat) (z : Int) : M O := fun s => match getS s.env i, getS s.env i2 with
  | some (.lst xs), some (.fz d) => .ok (.dco [(.str k1, .lst xs), (.str k2, .fz d), (.str k3, .fz (.int z))]) ⟨setS s.env i none, s.mu⟩
  | some (.fz (.lst xs)), some (.fz d) => .ok (.dco [(.str k1, .fz (.lst xs)), (.str k2, .fz d), (.str k3, .fz (.int z))]) s
  | _, _ => .no
theorem well_t {k1 k2 k3 : Str} {i2 : Nat} {z : Int} (n1 : k1 ≠ k2) (n2 : k1 ≠ k3) (n3 : k2 ≠ k3) {σ : L2.St} {H : Hp} {Q : VK} (q : tO G W (xWell k1 k2 k3 i i2 z) σ H Q) :
    tDisp [(tC (.str k1), tVar i), (tC (.str k2), tVar i2), (tC (.str k3), tC (.int z))] σ H Q := by
  obtain ⟨c, st, rfl, r, w⟩ := q
  unfold xWell at w
  split at w
  · rename_i xs d e0 e1
    intro p hp
    obtain ⟨v, f2, fs', q1, q2, r2, fr, g, sb, _⟩ := rel_out r e0
    obtain ⟨v2, g1, g2, g3, u1, u2, _⟩ := slots_get r.slots e1
    have u2 : Rp G c.F c.al v2 d := by cases u2 with | fz t => exact t
    have np : p ∉ f2 := fun h => OwnT.there q2 p h hp
    show ∃ v, σ[i]? = some (some v) ∧ ∃ v2, σ[i2]? = some (some v2) ∧ (upd c.H p (.dK [])) p = some (.dK []) ∧ ∃ kvs : List (Key × V), [(V.str k1, v), (V.str k2, v2), (V.str k3, V.int z)] = kvs.map (fun kv => (kV kv.1, kv.2)) ∧ kvs.length ≤ 15 ∧ Q (.ref p) (upd (upd c.H p (.dK [])) p (.dK (mergeK [] kvs)))
    refine ⟨v, q1, v2, u1, upd_same, [(.inr k1, v), (.inr k2, v2), (.inr k3, .int z)], rfl, by show 3 ≤ 15; omega, ?_⟩
    have hm : mergeK [] [((.inr k1 : Key), v), (.inr k2, v2), (.inr k3, .int z)] = [(.inr k1, v), (.inr k2, v2), (.inr k3, .int z)] := by
      simp [mergeK, putK, n1, n2, n3, Ne.symm n1, Ne.symm n2, Ne.symm n3]
    rw [hm]
    have hu : upd (upd c.H p (.dK [])) p (.dK [((.inr k1 : Key), v), (.inr k2, v2), (.inr k3, .int z)]) = upd c.H p (.dK [(.inr k1, v), (.inr k2, v2), (.inr k3, .int z)]) := by
      funext a
      unfold upd
      split <;> rfl
    rw [hu]
    have hp' : ({ c with fs := fs' } : Cf).H p = none := hp
    have r3 := r2.new (o := .dK [((.inr k1 : Key), v), (.inr k2, v2), (.inr k3, .int z)]) hp'
    have g3 := GoE.new (o := .dK [((.inr k1 : Key), v), (.inr k2, v2), (.inr k3, .int z)]) r2 hp'
    have fp := Fresh.new (o := .dK [((.inr k1 : Key), v), (.inr k2, v2), (.inr k3, .int z)]) r2 hp'
    refine w (.ref p) _ r3 (g.trans g3) ⟨p :: (f2 ++ ([] ++ ([] ++ []))), ?_, ?_, ?_⟩
    · exact .dcoK (kvs := [(.inr k1, v), (.inr k2, v2), (.inr k3, .int z)]) upd_same rfl (.cons (q2.mo (Mo.refl _ _) fun a ha => upd_ne fun e => np (by rw [← e]; exact ha)) (.cons (.fz u2) (.cons (.fz (.int z)) .nil)))
    · simp only [List.append_nil]
      exact ⟨List.nodup_cons.mpr ⟨np, fr.nd⟩, fun a ha => by
          rcases List.mem_cons.mp ha with rfl | ha
          · exact fp.nf _ List.mem_cons_self
          · exact fr.nf a ha, fun a ha => by
          rcases List.mem_cons.mp ha with rfl | ha
          · exact fp.ns _ List.mem_cons_self
          · exact fr.ns a ha, fun a ha => by
          rcases List.mem_cons.mp ha with rfl | ha
          · exact fp.nc _ List.mem_cons_self
          · exact fr.nc a ha⟩
    · simp only [List.append_nil]
      intro a ha
      rcases List.mem_cons.mp ha with rfl | ha
      · exact .inr (.inr hp)
      · exact .inl (sb a ha)
  · rename_i xs d e0 e1
    intro p hp
    obtain ⟨v, _, _, _, q1, q2, _⟩ := slots_get r.slots e0
    obtain ⟨v2, _, _, _, u1, u2, _⟩ := slots_get r.slots e1
    have q2 : Rp G c.F c.al v (.lst xs) := by cases q2 with | fz t => exact t
    have u2 : Rp G c.F c.al v2 d := by cases u2 with | fz t => exact t
    show ∃ v, σ[i]? = some (some v) ∧ ∃ v2, σ[i2]? = some (some v2) ∧ (upd c.H p (.dK [])) p = some (.dK []) ∧ ∃ kvs : List (Key × V), [(V.str k1, v), (V.str k2, v2), (V.str k3, V.int z)] = kvs.map (fun kv => (kV kv.1, kv.2)) ∧ kvs.length ≤ 15 ∧ Q (.ref p) (upd (upd c.H p (.dK [])) p (.dK (mergeK [] kvs)))
    refine ⟨v, q1, v2, u1, upd_same, [(.inr k1, v), (.inr k2, v2), (.inr k3, .int z)], rfl, by show 3 ≤ 15; omega, ?_⟩
    have hm : mergeK [] [((.inr k1 : Key), v), (.inr k2, v2), (.inr k3, .int z)] = [(.inr k1, v), (.inr k2, v2), (.inr k3, .int z)] := by
      simp [mergeK, putK, n1, n2, n3, Ne.symm n1, Ne.symm n2, Ne.symm n3]
    rw [hm]
    have hu : upd (upd c.H p (.dK [])) p (.dK [((.inr k1 : Key), v), (.inr k2, v2), (.inr k3, .int z)]) = upd c.H p (.dK [(.inr k1, v), (.inr k2, v2), (.inr k3, .int z)]) := by
      funext a
      unfold upd
      split <;> rfl
    rw [hu]
    refine w (.ref p) _ (r.new hp) (GoE.new r hp) ⟨p :: ([] ++ ([] ++ ([] ++ []))), .dcoK (kvs := [(.inr k1, v), (.inr k2, v2), (.inr k3, .int z)]) upd_same rfl (.cons (.fz q2) (.cons (.fz u2) (.cons (.fz (.int z)) .nil))), ?_, ?_⟩
    · exact Fresh.new r hp
    · exact New.new hp
  · exact w.elim
theorem x_well {k1 k2 k3 x2 : Str} {i2 a1 a2 a3 a4 : Nat} {z : Int} {p1 p2 p3 p4 p5 p6 : Pos} (hN : X.N[i]? = some x) (hv : Vis X.env.scope x) (hN2 : X.N[i2]? = some x2) (hv2 : Vis X.env.scope x2)
    (hd : (x == ("__debug__" : Str)) = false := by decide) (hcd : (x == ("__classdict__" : Str)) = false := by decide) (hd2 : (x2 == ("__debug__" : Str)) = false := by decide) (hcd2 : (x2 == ("__classdict__" : Str)) = false := by decide)
    (n1 : k1 ≠ k2 := by decide) (n2 : k1 ≠ k3 := by decide) (n3 : k2 ≠ k3 := by decide) :
    PE X (.Dict [some (.Constant (.str k1) a1 p1), some (.Constant (.str k2) a2 p2), some (.Constant (.str k3) a3 p3)] [.Name x p4, .Name x2 p5, .Constant (.int z) a4 p6] pos) (tO G W (xWell k1 k2 k3 i i2 z)) :=
  (pe_disp (pps_cons pe_str (pe_var hN hv hd hcd) (pps_cons pe_str (pe_var hN2 hv2 hd2 hcd2) (pps_cons pe_str pe_int pps_nil))) rfl rfl (by simp) (by show 3 ≤ 15; omega)).weak fun σ H Q q => well_t n1 n2 n3 q
end
end L2.Tr
namespace L2.Tr
open PySem PySem.Spec PyProof.Rows L2 L2.Pc
open Sem (wp)
open AutoSeq1 (wpAny_loadPart')
/-! ### enumerate(tuple) -/
section
variable {X : Cx} {G : Gi} {W : WX} {c : Cf} {e : Expr} {ma : M (List D)} {p pos tpos : Pos} {elts : List Expr} {kk : Nat}
def enumA (ds : List D) : Option (List D) := match ds with
  | [.lst xs] => some (numD 0 xs)
  | [.lsk xs] => some (numD 0 xs)
  | [.tup xs] => some (numD 0 xs)
  | [.tuk xs] => some (numD 0 xs)
  | _ => none
def mEnumA (ma : M (List D)) : M (List D) := bnd ma fun ds => ofO (enumA ds)
end
/-! ### {x!r} of data -/
/-! ### len by an own __len__ -/
def intB : O → Option O
  | .fz (.int i) => if 0 ≤ i ∧ i < 4611686018427387904 then some (.fz (.int i)) else none
  | _ => none
def runN (tbl : List (Str × MF)) (g : D → Option O) (d : D) : M O := fun s => match insOf d with
  | some c => (match tbl.lookup c with
    | some mf => (match noExc (runF mf [d] s) with
      | .ok o s' => ofO (intB o) s'
      | _ => .no)
    | none => .no)
  | none => ofO (g d) s
def xSn (tbl : List (Str × MF)) (g : D → Option O) (md : M D) : M O := bnd md (runN tbl g)
end L2.Tr
namespace L2.Tr
open PySem PySem.Spec PyProof.Rows L2 L2.Pc
/-! ### repr of a tuple of own instances -/
section
variable {X : Cx} {G : Gi} {W : WX} {gb : Bool} {k : Nat} {tbl : List (Str × MF)} {md : M D} {x : Str} {p pos : Pos} {e : Expr}
/-- the texts of instances by their own methods -/
def reprsM (tbl : List (Str × MF)) : List D → Nat → M (List Str)
  | [], _ => ret []
  | d :: ds, n => fun s => match insOf d with
    | some c => (match tbl.lookup c with
      | some mf => (match noExc (runF mf [d] s) with
        | .ok (.fz (.str y)) s' => if n + (y.length + 2) ≤ 16777000 then (reprsM tbl ds (n + (y.length + 2)) s').bind fun ts => ret (y :: ts) else .no
        | _ => .no)
      | none => .no)
    | none => .no
def xReprT (tbl : List (Str × MF)) (md : M D) : M O := bnd md fun d => match d with
  | .tup ds => bnd (reprsM tbl ds 0) fun ts => ret (.fz (.str (tupleText ts)))
  | _ => fun _ => .no
end
end L2.Tr
namespace L2.Tr
open PySem PySem.Spec PyProof.Rows L2 L2.Pc
/-! ### dicts with tuples as keys -/
def keyOfD : D → Option Key
  | .int i => some (.inl i)
  | .str s => some (.inr s)
  | _ => none
def keysL : List D → Option (List Key)
  | [] => some []
  | d :: ds => match keyOfD d, keysL ds with
    | some k, some ks => some (k :: ks)
    | _, _ => none
def tkeyD : D → Option (List Key)
  | .tup ds => keysL ds
  | _ => none
def getTD (ks : List Key) : List (D × D) → Option D
  | [] => none
  | (d, x) :: r => if tkeyD d = some ks then some x else getTD ks r
def putTD (ks : List Key) (x : D) (kvs : List (D × D)) : List (D × D) :=
  if (kvs.any fun p => decide (tkeyD p.1 = some ks)) = true then kvs.map (fun p => if tkeyD p.1 = some ks then (p.1, x) else p) else kvs ++ [(.tup (ks.map kD), x)]
theorem keyOfD_some {d : D} {k : Key} (h : keyOfD d = some k) : d = kD k := by
  unfold keyOfD at h
  split at h <;> cases h <;> rfl
section
variable {G : Gi} {F : Hp} {al : List Addr}
theorem rp_key {v : V} {k : Key} (h : Rp G F al v (kD k)) : v = kV k := by
  cases k with
  | inl i => cases h; rfl
  | inr s => cases h; rfl
end
section
variable {X : Cx} {G : Gi} {W : WX} {e e2 : Expr} {i : Nat} {x : Str} {px pos pos' apos cpos : Pos} {mk md : M D}
def putTAt (i : Nat) (d k : D) : M Fl := fun s => match getP s i, tkeyD k with
  | some (.dcu kvs), some ks => if kvs.length < 16777216 then .ok .nx (putP s i (.dcu (putTD ks d kvs))) else .no
  | _, _ => .no
/-- d[k] = e, k a tuple -/
def sPutT (i : Nat) (mk md : M D) : M Fl := bnd md fun d s1 => match getP s1 i with
  | none => .no
  | some _ => (mk s1).bind fun k => putTAt i d k
/-- what a slot's dict holds -/
def dctS (s : S) (i : Nat) : Option (List (D × D)) := match getS s.env i with
  | some (.dcu kvs) => some kvs
  | some (.fz (.dcu kvs)) => some kvs
  | some (.fz (.cel n)) => (match getM s.mu n with
    | some (.dcu kvs) => some kvs
    | _ => none)
  | _ => none
/-- d.get(k, z), k a tuple -/
def xGetT (i : Nat) (mk md : M D) : M O := fun s => match dctS s i with
  | none => .no
  | some _ => (mk s).bind fun k => bnd md fun z s2 => match dctS s2 i, tkeyD k with
    | some kvs, some ks => .ok (.fz ((getTD ks kvs).getD z)) s2
    | _, _ => .no
end
end L2.Tr
namespace L2.Tr
open PySem PySem.Spec PyProof.Rows L2 L2.Pc
open Sem (wp)
open AutoSeq1 (wpAny_loadPart')
theorem tuple_mul1 (l : Addr) (items : Array Value) (n : Nat) (dd : Option Addr) (sl : Array (Option Value)) (u : Tok) : Meets (Builtin.«tuple.__mul__» ⟨[.ref l, .int 1 u], []⟩)
    (fun _ R s => s.heap.get? l = some { cls := .type "tuple", dict := dd, data := .seq items n, slots := sl } ∧ R (.ok (.ret (.ref l))) s) :=
  .of_wp fun prog w A R s q => by
    obtain ⟨hp, g, d, tk, os⟩ := s
    obtain ⟨hl, q⟩ := q
    have f1 := AutoSeq1.idx_int
    wp_walk using wpAny_loadPart' hl
    exact ⟨_, rfl, q⟩
def rRep1 (K : PySem.W.Frag) : R2 := fun x y H Q => ∃ l xs, x = .ref l ∧ y = .int 1 ∧ SqT K H l xs ∧ Q (.ref l) H
theorem op_rep1 {X : Cx} : OpR X (binaryOp .Mult) (rRep1 X.K) := by
  intro pins s σ H x y v u Q I rx ry h
  obtain ⟨l, xs, rfl, rfl, hT, q⟩ := h
  cases rx
  obtain ⟨t, rfl⟩ := ry
  obtain ⟨its, r, ⟨⟨cls, dd, data, sl⟩, ho, hc, n, hd⟩, hs⟩ := I.tuple hT
  obtain rfl : cls = .type "tuple" := hc
  obtain rfl : data = .seq its.toArray n := hd
  exact wpAny_binaryOp_repeat_ref (T := "tuple") (U := "int") (by decide) ⟨_, ho, rfl⟩ (fun s' => typeIs_int s' 1 t) noFill_tuple_mul PySem.F.fills_int_mul PySem.F.slot_int_rmul repeat_tuple PySem.F.slot_int_index.lookup
    (call_meets PySem.F.slot_int_rmul (typeIs_int s 1 t) PySem.F.entry_int_rmul (PySem.F.args_int_rmul_2 _ _) (int_rmul_tuple 1 t l its.toArray n dd sl)
      ⟨ho, rfl, ⟨_, ho, rfl⟩, call_meets PySem.F.slot_tuple_mul ⟨_, ho, rfl⟩ PySem.F.entry_tuple_mul (PySem.F.args_tuple_mul_2 _ _) (tuple_mul1 l its.toArray n dd sl t) ⟨ho, ⟨.ref l, H, I, rfl, q⟩⟩⟩)
def rMulT (K : PySem.W.Frag) : R2 := fun x y H Q => rRepT K x y H Q ∨ rRep1 K x y H Q
theorem op_mulT {X : Cx} {K : PySem.W.Frag} (h : X.K = K) : OpR X (binaryOp .Mult) (rMulT K) := by
  subst h
  intro pins s σ H x y v u Q I rx ry h
  rcases h with h | h
  · exact op_repT pins s σ H x y v u Q I rx ry h
  · exact op_rep1 pins s σ H x y v u Q I rx ry h
def mulTD (x y : D) : Option O := match x, y with
  | .tup xs, .int n => if 1 ≤ n ∧ n ≤ 1000 ∧ 1 ≤ xs.length ∧ xs.length ≤ 1000 then some (.fz (.tup (List.replicate n.toNat xs).flatten)) else none
  | _, _ => none
theorem rpA_rep {G : Gi} {F : Hp} {al : List Addr} {vs : List V} {ds : List D} (h : RpA G F al vs ds) : ∀ n : Nat, RpA G F al (List.replicate n vs).flatten (List.replicate n ds).flatten
  | 0 => .nil
  | n + 1 => by
    rw [List.replicate_succ, List.replicate_succ, List.flatten_cons, List.flatten_cons]
    exact h.app (rpA_rep h n)
theorem d_mulT {G : Gi} : OpD G (rMulT G.K) mulTD := by
  intro st σ c x y ox oy fx fy o Q r tx ty e q
  have vx := own_view r tx
  have vy := own_view r ty
  generalize ox.toD = dx at *
  generalize oy.toD = dy at *
  unfold mulTD at e
  split at e
  · rename_i ds n
    split at e
    · rename_i hc
      cases e
      obtain rfl : y = _ := vy
      obtain ⟨a, xs, rfl, hx, rx, rpx⟩ := vx
      by_cases h1 : n = 1
      · subst h1
        refine .inr ⟨a, xs, rfl, rfl, hx, ?_⟩
        refine fin r rpx ?_
        have e1 : (List.replicate (1 : Int).toNat ds).flatten = ds := by show (List.replicate 1 ds).flatten = ds; simp
        rw [← e1]
        exact q
      · refine .inl ⟨a, n, xs, rfl, rfl, hx, fun z => ?_, by omega, hc.2.1, by rw [rx.len]; exact hc.2.2.2, finT r (rpA_rep rx n.toNat) q⟩
        have := rx.len
        rw [z, List.length_nil] at this
        omega
    · cases e
  · cases e
/-! ### a, b = (.., ..) by a tuple in between, what is owned kept -/
end L2.Tr
namespace L2.Tr
open PySem PySem.Spec PyProof.Rows L2 L2.Pc
/-! ### dicts with numbers and texts as keys -/
def getKD (k : Key) : List (D × D) → Option D
  | [] => none
  | (d, x) :: r => if keyOfD d = some k then some x else getKD k r
def putKD (k : Key) (x : D) (kvs : List (D × D)) : List (D × D) :=
  if (kvs.any fun p => decide (keyOfD p.1 = some k)) = true then kvs.map (fun p => if keyOfD p.1 = some k then (p.1, x) else p) else kvs ++ [(kD k, x)]
section
variable {X : Cx} {G : Gi} {W : WX} {e e2 : Expr} {i : Nat} {x : Str} {px pos pos' apos cpos : Pos} {mk md : M D}
def putKAt (i : Nat) (d k : D) : M Fl := fun s => match getP s i, keyOfD k with
  | some (.dct kvs), some ks => if kvs.length < 16777216 then .ok .nx (putP s i (.dct (putKD ks d kvs))) else .no
  | _, _ => .no
/-- d[k] = e, k a number or a text -/
def sPutK (i : Nat) (mk md : M D) : M Fl := bnd md fun d s1 => match getP s1 i with
  | none => .no
  | some _ => (mk s1).bind fun k => putKAt i d k
/-- what a slot's dict holds -/
def dctK (s : S) (i : Nat) : Option (List (D × D)) := match getS s.env i with
  | some (.dct kvs) => some kvs
  | some (.fz (.dct kvs)) => some kvs
  | some (.fz (.cel n)) => (match getM s.mu n with
    | some (.dct kvs) => some kvs
    | _ => none)
  | _ => none
/-- d[k], k a number or a text -/
def xIxK (i : Nat) (mk : M D) : M O := fun s => match dctK s i with
  | none => .no
  | some _ => (mk s).bind fun k s2 => match dctK s2 i, keyOfD k with
    | some kvs, some ks => ofO ((getKD ks kvs).map .fz) s2
    | _, _ => .no
/-- d[k], k a tuple -/
def xIxT (i : Nat) (mk : M D) : M O := fun s => match dctS s i with
  | none => .no
  | some _ => (mk s).bind fun k s2 => match dctS s2 i, tkeyD k with
    | some kvs, some ks => ofO ((getTD ks kvs).map .fz) s2
    | _, _ => .no
/-- k in d, k not in d -/
def xInK (neg : Bool) (i : Nat) (mk : M D) : M O := bnd mk fun k s => match dctK s i, keyOfD k with
  | some kvs, some ks => .ok (.fz (.bl ((getKD ks kvs).isSome != neg))) s
  | _, _ => .no
def xInT (neg : Bool) (i : Nat) (mk : M D) : M O := bnd mk fun k s => match dctS s i, tkeyD k with
  | some kvs, some ks => .ok (.fz (.bl ((getTD ks kvs).isSome != neg))) s
  | _, _ => .no
/-- list(d), d a dict that stands in a slot -/
def xLsK (i : Nat) : M O := fun s => match getP s i with
  | some (.dct kvs) => .ok (.lst (kvs.map (·.1))) s
  | _ => .no
end
end L2.Tr
namespace L2.Tr
open PySem PySem.Spec PyProof.Rows L2 L2.Pc
/-! ### sorted lists -/
section
variable {α : Type}
def insB (lt : α → α → Bool) (x : α) : List α → List α
  | [] => [x]
  | y :: l => if lt y x = true then y :: insB lt x l else x :: y :: l
def isortB (lt : α → α → Bool) : List α → List α
  | [] => []
  | x :: l => insB lt x (isortB lt l)
end
def ltI (a b : Int) : Bool := decide (a < b)
def intD' : D → Option Int
  | .int a => some a
  | _ => none
def allM {α : Type} (f : D → Option α) : List D → Option (List α)
  | [] => some []
  | d :: ds => match f d, allM f ds with
    | some x, some xs => some (x :: xs)
    | _, _ => none
theorem intD_some {d : D} {i : Int} (h : intD' d = some i) : d = .int i := by
  unfold intD' at h
  split at h <;> cases h
  rfl
theorem allM_map {α : Type} {f : D → Option α} {g : α → D} (hf : ∀ d x, f d = some x → d = g x) : ∀ {ds : List D} {xs : List α}, allM f ds = some xs → ds = xs.map g
  | [], xs, h => by cases h; rfl
  | d :: ds, xs, h => by
    unfold allM at h
    split at h
    · rename_i x xs' h1 h2
      cases h
      rw [List.map_cons, ← hf _ _ h1, ← allM_map hf h2]
    · cases h
theorem rpA_intsY {G : Gi} {F : Hp} {al : List Addr} : ∀ {vs : List V} {ns : List Int}, RpA G F al vs (ns.map .int) → vs = ns.map V.int
  | [], [], _ => rfl
  | v :: vs, n :: ns, .cons h hs => by cases h; rw [List.map_cons, rpA_intsY hs]
section
variable {G : Gi}
/-- xs[::-1] -/
def revD : D → Option O
  | .lst ds => some (.lst ds.reverse)
  | .lsk ds => some (.lst ds.reverse)
  | _ => none
end
section
variable {X : Cx} {G : Gi} {W : WX} {e : Expr} {m : M O} {k : Nat} {p1 p2 p3 pos : Pos}
/-- range(i, j, -1) -/
def rngC (i : Int) (n : Nat) : List D := (List.range n).map fun k : Nat => .int (i + (k : Int) * (-1))
def rng3 : List D → Option (List D)
  | [.int i, .int j, .int c] => if (-(2 ^ 62) ≤ i ∧ i < 2 ^ 62) ∧ (-(2 ^ 62) ≤ j ∧ j < 2 ^ 62) ∧ c = -1 then some (rngC i (i - j).toNat) else none
  | _ => none
end
end L2.Tr
namespace L2.Tr
open PySem PySem.Spec PyProof.Rows L2 L2.Pc
/-! ### a dict that is walked: locked for so long -/
def nf : HO → Bool
  | .frz _ _ => false
  | _ => true
/-- the keys of a dict that stands frozen in a slot -/
def mKeysT (i : Nat) : M (List D) := fun s => match getS s.env i with
  | some (.fz (.dcu kvs)) => .ok (kvs.map (·.1)) s
  | _ => .no
def frzS (s : S) (i : Nat) : S := match getS s.env i with
  | some (.dcu kvs) => ⟨setS s.env i (some (.fz (.dcu kvs))), s.mu⟩
  | _ => s
/-- [e for t in d if c], d a dict with tuples as keys that stands in a slot -/
def xLcT (i : Nat) (vs : List Nat) (t : MT) (mt : M Bool) (me : M D) : M O := fun s => xLc vs (mKeysT i) t mt me (frzS s i)
/-! ### range(i, j, -1) -/
section
variable {X : Cx} {G : Gi} {W : WX} {ma : M (List D)} {tg a b e3 : Expr} {p pos : Pos}
def mRng3 (ma : M (List D)) : M (List D) := bnd ma fun ds => ofO (rng3 ds)
end
end L2.Tr
namespace L2.Tr
open PySem L2 L2.Pc
/-! ### plain data compared -/
mutual
/-- nothing, numbers, texts, tuples and lists of these -/
def simD : D → Bool
  | .non => true
  | .int _ => true
  | .str s => PyData.strOk s
  | .tup xs => simA xs
  | .lst xs => simA xs
  | .bl _ => false | .lsk _ => false | .tuk _ => false | .dct _ => false | .dcu _ => false | .ins _ _ => false | .cel _ => false | .fn _ => false | .ty _ => false | .xob _ _ => false | .xok _ _ => false | .tun _ => false
def simA : List D → Bool
  | [] => true
  | x :: xs => simD x && simA xs
end
mutual
theorem sim_py : ∀ d : D, simD d = true → ∃ p, D.py false d = some p ∧ p.canLay0 = true ∧ p.depth = dpD d
  | .non, _ => ⟨_, rfl, rfl, rfl⟩
  | .int _, _ => ⟨_, rfl, rfl, rfl⟩
  | .str s, h => ⟨_, rfl, by rw [simD] at h; rw [PyData.canLay0, h], rfl⟩
  | .tup xs, h => by
    rw [simD] at h
    obtain ⟨ps, e, c, q⟩ := sim_pyA xs h
    exact ⟨.tuple ps, by rw [D.py, e]; rfl, by rw [PyData.canLay0, c], by rw [PyData.depth, q, dpD]⟩
  | .lst xs, h => by
    rw [simD] at h
    obtain ⟨ps, e, c, q⟩ := sim_pyA xs h
    exact ⟨.list ps, by rw [D.py, e]; rfl, by rw [PyData.canLay0, c], by rw [PyData.depth, q, dpD]⟩
  | .bl _, h => by rw [simD] at h; cases h
  | .lsk _, h => by rw [simD] at h; cases h
  | .tuk _, h => by rw [simD] at h; cases h
  | .dct _, h => by rw [simD] at h; cases h
  | .dcu _, h => by rw [simD] at h; cases h
  | .ins _ _, h => by rw [simD] at h; cases h
  | .cel _, h => by rw [simD] at h; cases h
  | .fn _, h => by rw [simD] at h; cases h
  | .ty _, h => by rw [simD] at h; cases h
  | .xob _ _, h => by rw [simD] at h; cases h
  | .xok _ _, h => by rw [simD] at h; cases h
  | .tun _, h => by rw [simD] at h; cases h
theorem sim_pyA : ∀ ds : List D, simA ds = true → ∃ ps, D.pyA false ds = some ps ∧ PyData.canLayAll0 ps = true ∧ PyData.depthAll ps = dpA ds
  | [], _ => ⟨[], rfl, rfl, rfl⟩
  | d :: ds, h => by
    rw [simA, Bool.and_eq_true] at h
    obtain ⟨p, e, c, q⟩ := sim_py d h.1
    obtain ⟨ps, e2, c2, q2⟩ := sim_pyA ds h.2
    exact ⟨p :: ps, by rw [D.pyA, e, e2]; rfl, by rw [PyData.canLayAll0, c, c2]; rfl, by rw [PyData.depthAll, q, q2, dpA]⟩
end
theorem beq_strN (a b : Str) : (a == b) = decide (a = b) := by
  by_cases h : a = b
  · subst h; simp
  · rw [decide_eq_false h]; exact beq_eq_false_iff_ne.mpr h
open Classical in
mutual
theorem sim_eqv : ∀ (x y : D) (p q : PyData), simD x = true → simD y = true → D.py false x = some p → D.py false y = some q → PyData.eqv p q = decide (x = y)
  | .non, y, p, q, _, hy, e1, e2 => by
    cases e1
    cases y <;> try (rw [simD] at hy; cases hy; done)
    · cases e2; simp [PyData.eqv]
    · cases e2; simp [PyData.eqv]
    · cases e2; simp [PyData.eqv]
    · obtain ⟨a, _, rfl⟩ := map_some e2; simp [PyData.eqv]
    · obtain ⟨a, _, rfl⟩ := map_some e2; simp [PyData.eqv]
  | .int i, y, p, q, _, hy, e1, e2 => by
    cases e1
    cases y <;> try (rw [simD] at hy; cases hy; done)
    · cases e2; simp [PyData.eqv]
    · rename_i j
      cases e2
      rw [PyData.eqv]
      by_cases z : i = j
      · subst z; simp
      · rw [decide_eq_false (fun w => z (by injection w))]; exact beq_eq_false_iff_ne.mpr z
    · cases e2; simp [PyData.eqv]
    · obtain ⟨a, _, rfl⟩ := map_some e2; simp [PyData.eqv]
    · obtain ⟨a, _, rfl⟩ := map_some e2; simp [PyData.eqv]
  | .str s, y, p, q, _, hy, e1, e2 => by
    cases e1
    cases y <;> try (rw [simD] at hy; cases hy; done)
    · cases e2; simp [PyData.eqv]
    · cases e2; simp [PyData.eqv]
    · cases e2; rw [PyData.eqv, beq_strN]; simp
    · obtain ⟨a, _, rfl⟩ := map_some e2; simp [PyData.eqv]
    · obtain ⟨a, _, rfl⟩ := map_some e2; simp [PyData.eqv]
  | .tup xs, y, p, q, hx, hy, e1', e2 => by
    obtain ⟨ps, e1, rfl⟩ := map_some e1'
    rw [simD] at hx
    cases y <;> try (rw [simD] at hy; cases hy; done)
    · cases e2; simp [PyData.eqv]
    · cases e2; simp [PyData.eqv]
    · cases e2; simp [PyData.eqv]
    · obtain ⟨qs, e3, rfl⟩ := map_some e2
      rw [simD] at hy
      rw [PyData.eqv, sim_eqvA xs _ ps qs hx hy e1 e3]; simp
    · obtain ⟨a, _, rfl⟩ := map_some e2; simp [PyData.eqv]
  | .lst xs, y, p, q, hx, hy, e1', e2 => by
    obtain ⟨ps, e1, rfl⟩ := map_some e1'
    rw [simD] at hx
    cases y <;> try (rw [simD] at hy; cases hy; done)
    · cases e2; simp [PyData.eqv]
    · cases e2; simp [PyData.eqv]
    · cases e2; simp [PyData.eqv]
    · obtain ⟨a, _, rfl⟩ := map_some e2; simp [PyData.eqv]
    · obtain ⟨qs, e3, rfl⟩ := map_some e2
      rw [simD] at hy
      rw [PyData.eqv, sim_eqvA xs _ ps qs hx hy e1 e3]; simp
  | .bl _, _, _, _, h, _, _, _ => by rw [simD] at h; cases h
  | .lsk _, _, _, _, h, _, _, _ => by rw [simD] at h; cases h
  | .tuk _, _, _, _, h, _, _, _ => by rw [simD] at h; cases h
  | .dct _, _, _, _, h, _, _, _ => by rw [simD] at h; cases h
  | .dcu _, _, _, _, h, _, _, _ => by rw [simD] at h; cases h
  | .ins _ _, _, _, _, h, _, _, _ => by rw [simD] at h; cases h
  | .cel _, _, _, _, h, _, _, _ => by rw [simD] at h; cases h
  | .fn _, _, _, _, h, _, _, _ => by rw [simD] at h; cases h
  | .ty _, _, _, _, h, _, _, _ => by rw [simD] at h; cases h
  | .xob _ _, _, _, _, h, _, _, _ => by rw [simD] at h; cases h
  | .xok _ _, _, _, _, h, _, _, _ => by rw [simD] at h; cases h
  | .tun _, _, _, _, h, _, _, _ => by rw [simD] at h; cases h
theorem sim_eqvA : ∀ (xs ys : List D) (ps qs : List PyData), simA xs = true → simA ys = true → D.pyA false xs = some ps → D.pyA false ys = some qs → PyData.eqvAll ps qs = decide (xs = ys)
  | [], ys, ps, qs, _, _, e1, e2 => by
    cases e1
    cases ys with
    | nil => cases e2; rw [PyData.eqvAll]; simp
    | cons y ys =>
      rw [D.pyA] at e2
      obtain ⟨q, _, e2⟩ := bind_some e2
      obtain ⟨qs, _, rfl⟩ := map_some e2
      rw [PyData.eqvAll] <;> simp
  | x :: xs, ys, ps, qs, hx, hy, e1, e2 => by
    rw [D.pyA] at e1
    obtain ⟨p, e3, e1⟩ := bind_some e1
    obtain ⟨ps, e4, rfl⟩ := map_some e1
    rw [simA, Bool.and_eq_true] at hx
    cases ys with
    | nil => cases e2; rw [PyData.eqvAll] <;> simp
    | cons y ys =>
      rw [D.pyA] at e2
      obtain ⟨q, e5, e2⟩ := bind_some e2
      obtain ⟨qs, e6, rfl⟩ := map_some e2
      rw [simA, Bool.and_eq_true] at hy
      rw [PyData.eqvAll, sim_eqv x y p q hx.1 hy.1 e3 e5, sim_eqvA xs ys ps qs hx.2 hy.2 e4 e6]
      simp
end
open Classical in
theorem plain_sim {x y : D} (hx : simD x = true) (hy : simD y = true) (dx : dpD x ≤ 60) (dy : dpD y ≤ 60) : plainEq x y = some (decide (x = y)) := by
  unfold plainEq
  split <;> try (simp; done)
  · obtain ⟨p, e1, c1, d1⟩ := sim_py x hx
    obtain ⟨q, e2, c2, d2⟩ := sim_py y hy
    rw [e1, e2]
    dsimp only
    rw [if_pos ⟨by unfold SeqAt.shaped; rw [c1, d1, Bool.true_and]; exact decide_eq_true (by omega), by unfold SeqAt.shaped; rw [c2, d2, Bool.true_and]; exact decide_eq_true (by omega)⟩, sim_eqv x y p q hx hy e1 e2]
open Classical in
theorem ne_sim {x y : D} (hx : simD x = true) (hy : simD y = true) (dx : dpD x ≤ 60) (dy : dpD y ≤ 60) : neD x y = some (.fz (.bl (!decide (x = y)))) := by
  unfold neD; rw [plain_sim hx hy dx dy]; rfl
theorem ne_self {x : D} (hx : simD x = true) (dx : dpD x ≤ 60) : neD x x = some (.fz (.bl false)) := by
  rw [ne_sim hx hx dx dx]; simp
theorem simA_map {α : Type} {f : α → D} : ∀ {l : List α}, (∀ x ∈ l, simD (f x) = true) → simA (l.map f) = true
  | [], _ => rfl
  | x :: l, h => by rw [List.map_cons, simA, h x List.mem_cons_self, simA_map fun z hz => h z (List.mem_cons_of_mem _ hz)]; rfl
/-! ### sorted pairs -/
/-! ### loops and comprehensions -/
theorem lc_img {α : Type} {vs : List Nat} {t : MT} {mt : M Bool} {me : M D} {env : List (Option O)} {mu : List O} (g f : α → D) : ∀ (l : List α),
    (∀ a ∈ l, ∃ e1 e2 e3, t (g a) ⟨env, mu⟩ = some ⟨e1, mu⟩ ∧ mt ⟨e1, mu⟩ = .ok true ⟨e2, mu⟩ ∧ me ⟨e2, mu⟩ = .ok (f a) ⟨e3, mu⟩ ∧ freeE e3 vs = true ∧ wipeE e3 vs = env) →
    lcL vs t mt me (l.map g) ⟨env, mu⟩ = .ok (l.map f) ⟨env, mu⟩
  | [], _ => rfl
  | a :: l, h => by
    obtain ⟨e1, e2, e3, h1, h2, h3, h4, h5⟩ := h a List.mem_cons_self
    rw [List.map_cons, List.map_cons, st_lc1, h1]
    dsimp only
    rw [h2, st_bok, st_lcT, if_pos rfl, h3, st_bok, st_lcY, if_pos h4, h5, lc_img g f l fun b hb => h b (List.mem_cons_of_mem _ hb)]
    rfl
theorem all_mapD {α : Type} (l : List α) (f : α → Bool) : allD (.lst (l.map fun q => .bl (f q))) = some (.fz (.bl (l.all f))) := by
  show (blsD _).map _ = _
  rw [bls_map f l]
  show some (O.fz (D.bl ((l.map f).all id))) = _
  rw [List.all_map]; rfl
end L2.Tr
namespace L2.Tr
open PySem PySem.Spec PyProof.Rows L2 L2.Pc
variable {G : Gi} {F : Hp} {al : List Addr}
/-- {k: e}, both read quietly -/
def xOneK (fk fv : S → Option D) : M O := fun s => match fk s, fv s with
  | some k, some d => (match keyOfD k with
    | some _ => .ok (.dct [(k, d)]) s
    | none => .no)
  | _, _ => .no
theorem oneK_t {fk fv : S → Option D} {σ : L2.St} {H : Hp} {Q : VK} (q : tO G W (xOneK fk fv) σ H Q) : tDisp [(tQ G fk, tQ G fv)] σ H Q := by
  obtain ⟨c, st, rfl, r, w⟩ := q
  unfold xOneK at w
  split at w
  · rename_i kd d e1 e2
    split at w
    · rename_i k e3
      intro p hp
      have r1 := r.new (o := .dK []) hp
      refine ⟨c.new p (.dK []), st, kd, rfl, r1, e1, fun v hv => ?_⟩
      refine ⟨c.new p (.dK []), st, d, rfl, r1, e2, fun v2 hv2 => ?_⟩
      have ek := keyOfD_some e3
      rw [ek] at hv
      have ev := rp_key hv
      subst ev
      refine ⟨upd_same, [(k, v2)], rfl, by show 1 ≤ 15; omega, ?_⟩
      have hm : mergeK [] [(k, v2)] = [(k, v2)] := rfl
      rw [hm]
      have hu : upd (upd c.H p (.dK [])) p (.dK [(k, v2)]) = upd c.H p (.dK [(k, v2)]) := by
        funext a
        unfold upd
        split <;> rfl
      show Q (.ref p) (upd (upd c.H p (.dK [])) p (.dK [(k, v2)]))
      rw [hu]
      have hv3 : Rp G c.F c.al v2 d := hv2
      obtain ⟨c', e, r', g', p'⟩ := new_ow (G := G) (o := .dK [(k, v2)]) (t := .dct [(kd, d)]) r hp (by
        rw [ek]
        exact .dcK (kvs := [(k, v2)]) upd_same rfl (.cons hv3 .nil))
      rw [← e]
      exact w _ c' r' g' p'
    · exact w.elim
  · exact w.elim
theorem x_oneK {e1 e2 : Expr} {fk fv : S → Option D} (hk : PE X e1 (tQ G fk)) (hv : PE X e2 (tQ G fv)) : PE X (.Dict [some e1] [e2] pos) (tO G W (xOneK fk fv)) :=
  (pe_disp (pps_cons hk hv pps_nil) rfl rfl (by simp) (by show 1 ≤ 15; omega)).weak fun σ H Q q => oneK_t q
/-! ### texts by their codes -/
abbrev tl (s : Str) : List Nat := s.cps.toList
theorem ix_str {a : Str} {i : Nat} {c : Nat} (hl : a.length ≤ 16777216) (h : (tl a)[i]? = some c) : ixD (.str a) (.int (i : Int)) = some (.fz (.str ⟨#[c]⟩)) := by
  rw [st_ixs, if_pos hl, atN, h]; rfl
/-! ### dicts with numbers as keys -/
end L2.Tr
namespace L2.Tr
open PySem PySem.Spec PyProof.Rows L2 L2.Pc
/-! ### readings by what is asked behind -/
/-- what code gives, not to be unfolded -/
@[irreducible] def wv {α : Type} (r : Tr.R α) (Q : α → S → Prop) (E : Exc → S → Prop) : Prop := wp r Q E
theorem wv_eq {α : Type} {r : Tr.R α} {Q : α → S → Prop} {E : Exc → S → Prop} : wv r Q E = wp r Q E := by unfold wv; rfl
theorem wv_mono {α : Type} {r : Tr.R α} {Q Q' : α → S → Prop} {E E' : Exc → S → Prop} (h : wv r Q E) (q : ∀ a s, Q a s → Q' a s) (e : ∀ x s, E x s → E' x s) : wv r Q' E' := by
  rw [wv_eq] at *; exact wp_mono h q e
abbrev noQ : Exc → S → Prop := fun _ _ => False
section
variable {α β : Type} {Q : α → S → Prop} {E : Exc → S → Prop} {env : List (Option O)} {mu : List O}
theorem w_ok {a : α} {s : S} (h : Q a s) : wv (.ok a s) Q E := by
  simp only [wv_eq] at *
  exact h
theorem w_id {r : Tr.R α} (h : wv r Q E) : wv r Q E := by
  simp only [wv_eq] at *
  exact h
theorem w_rw {r r' : Tr.R α} (e : r = r') (h : wv r' Q E) : wv r Q E := by simp only [wv_eq] at *; rw [e]; exact h
theorem w_exc {x : Exc} {s : S} (h : E x s) : wv (.exc x s) Q E := by
  simp only [wv_eq] at *
  exact h
theorem w_bd {r : Tr.R β} {f : β → M α} (h : wv r (fun a s => wv (f a s) Q E) E) : wv (r.bind f) Q E := by
  simp only [wv_eq] at *
  exact wp_bind.mpr h
theorem w_nox {r : Tr.R α} (h : wv r Q noQ) : wv (noExc r) Q E := by
  simp only [wv_eq] at *
  cases r with
  | ok a s => exact h
  | exc x s => exact h.elim
  | no => exact h
theorem w_to {r : Tr.R α} {a : α} {s : S} (e : r = .ok a s) (h : Q a s) : wv r Q E := by simp only [wv_eq] at *; rw [e]; exact h
theorem w_ex {r : Tr.R α} (h : wv r Q noQ) : ∃ a s, r = .ok a s ∧ Q a s := by
  simp only [wv_eq] at *
  cases r with
  | ok a s => exact ⟨a, s, rfl, h⟩
  | exc x s => exact h.elim
  | no => exact h.elim
theorem w_eq {r : Tr.R α} {a : α} {s : S} (h : wv r (fun b s' => b = a ∧ s' = s) noQ) : r = .ok a s := by
  obtain ⟨b, s', e, rfl, rfl⟩ := w_ex h
  exact e
theorem w_imp0 {r : Tr.R α} {Q' : α → S → Prop} (h : wv r Q' noQ) (q : ∀ a s, Q' a s → Q a s) : wv r Q E := by
  exact wv_mono h q fun _ _ z => z.elim
end
section
variable {Q : O → S → Prop} {E : Exc → S → Prop} {env : List (Option O)} {mu : List O}
theorem w_run {m : MF} {ds : List D} (h : wv (m ds mu) (fun o s => Q o ⟨env, s.mu⟩) (fun x s => E x ⟨env, s.mu⟩)) : wv (runF m ds ⟨env, mu⟩) Q E := by
  simp only [wv_eq] at *
  rw [st_runF]
  cases e : m ds mu with
  | ok o s => rw [e] at h; exact h
  | exc x s => rw [e] at h; exact h
  | no => rw [e] at h; exact h
theorem w_runE {m : MF} {ds : List D} {o : O} {s : S} (e : m ds mu = .ok o s) (h : Q o ⟨env, s.mu⟩) : wv (runF m ds ⟨env, mu⟩) Q E := by
  exact w_run (w_to e h)
theorem run_ok {m : MF} {ds : List D} {o : O} {s : S} (e : m ds mu = .ok o s) : runF m ds ⟨env, mu⟩ = .ok o ⟨env, s.mu⟩ := by rw [st_runF, e]
theorem run_ex {m : MF} {ds : List D} {x : Exc} {s : S} (e : m ds mu = .exc x s) : runF m ds ⟨env, mu⟩ = .exc x ⟨env, s.mu⟩ := by rw [st_runF, e]
/-- what is asked behind a def's body -/
def rtQ (Q : O → S → Prop) : Fl → S → Prop
  | .rt o, s => Q o ⟨[], s.mu⟩
  | .nx, s => Q (.fz .non) ⟨[], s.mu⟩
  | _, _ => False
theorem rtQ_rt {o : O} {s : S} (h : Q o ⟨[], s.mu⟩) : rtQ Q (.rt o) s := h
theorem rtQ_nx {s : S} (h : Q (.fz .non) ⟨[], s.mu⟩) : rtQ Q .nx s := h
theorem w_fnM {N : Nat} {body : M Fl} {ds : List D} (h : wv (body ⟨env0 N ds, mu⟩) (rtQ Q) (fun x s => E x ⟨[], s.mu⟩)) : wv (fnM N body ds mu) Q E := by
  simp only [wv_eq] at *
  rw [st_fnM]
  cases e : body ⟨env0 N ds, mu⟩ with
  | ok f s =>
    rw [e] at h
    cases f with
    | rt o => exact h
    | nx => exact h
    | bk => exact h.elim
    | ct => exact h.elim
  | exc x s => rw [e] at h; exact h
  | no => rw [e] at h; exact h
theorem fn_wv {N : Nat} {body : M Fl} {m : MF} (hm : m = fnM N body) {ds : List D} (h : wv (body ⟨env0 N ds, mu⟩) (rtQ Q) (fun x s => E x ⟨[], s.mu⟩)) : wv (m ds mu) Q E := by rw [hm]; exact w_fnM h
end
/-! ### loops -/
section
variable {E : Exc → S → Prop} {env : List (Option O)} {mu : List O}
/-- what is asked behind a turn -/
def fQ (I : S → Prop) (Q : Fl → S → Prop) : Fl → S → Prop
  | .nx, s => I s
  | .ct, s => I s
  | .bk, s => Q .nx s
  | .rt o, s => Q (.rt o) s
theorem fQ_nx {I : S → Prop} {Q : Fl → S → Prop} {s : S} (h : I s) : fQ I Q .nx s := h
theorem fQ_ct {I : S → Prop} {Q : Fl → S → Prop} {s : S} (h : I s) : fQ I Q .ct s := h
theorem fQ_bk {I : S → Prop} {Q : Fl → S → Prop} {s : S} (h : Q .nx s) : fQ I Q .bk s := h
theorem fQ_rt {I : S → Prop} {Q : Fl → S → Prop} {s : S} {o : O} (h : Q (.rt o) s) : fQ I Q (.rt o) s := h
theorem w_for {α : Type} {Q : Fl → S → Prop} {t : MT} {mb : M Fl} {enc : α → D} {l : List α} {s : S} (I : List α → List α → S → Prop) (h0 : I [] l s)
    (hs : ∀ done a todo s, l = done ++ a :: todo → I done (a :: todo) s → ∃ s1, t (enc a) s = some s1 ∧ wv (mb s1) (fQ (I (done ++ [a]) todo) Q) E) (hQ : ∀ s, I l [] s → Q .nx s) : wv (forL t mb (l.map enc) s) Q E := by
  suffices g : ∀ (todo done : List α) (s : S), l = done ++ todo → I done todo s → wv (forL t mb (todo.map enc) s) Q E from g l [] s rfl h0
  intro todo
  induction todo with
  | nil => intro done s e h; rw [List.append_nil] at e; subst e; exact w_ok (hQ s h)
  | cons a todo ih =>
    intro done s e h
    obtain ⟨s1, e1, w1⟩ := hs done a todo s e h
    obtain ⟨env, mu⟩ := s
    rw [List.map_cons, st_for1, e1]
    refine w_bd (wv_mono w1 (fun f s2 w2 => ?_) fun _ _ z => z)
    cases f with
    | nx => exact ih (done ++ [a]) s2 (by rw [e, List.append_assoc]; rfl) w2
    | ct => exact ih (done ++ [a]) s2 (by rw [e, List.append_assoc]; rfl) w2
    | bk => exact w_ok w2
    | rt o => exact w_ok w2
/-! ### comprehensions -/
/-- what is asked behind a comprehension's element -/
def lcE (vs : List Nat) (env : List (Option O)) (P : D → List O → Prop) (y : D) (s : S) : Prop := freeE s.env vs = true ∧ wipeE s.env vs = env ∧ P y s.mu
/-- .. behind its condition -/
def lcC (vs : List Nat) (env : List (Option O)) (me : M D) (P : Option D → List O → Prop) (b : Bool) (s : S) : Prop :=
  if b = true then wv (me s) (lcE vs env fun y mu => P (some y) mu) noQ else freeE s.env vs = true ∧ wipeE s.env vs = env ∧ P none s.mu
theorem lcC_t {vs : List Nat} {env : List (Option O)} {me : M D} {P : Option D → List O → Prop} {s : S} (h : wv (me s) (lcE vs env fun y mu => P (some y) mu) noQ) : lcC vs env me P true s := by
  exact h
/-- a turn of a comprehension -/
def lcQ (vs : List Nat) (t : MT) (mt : M Bool) (me : M D) (env : List (Option O)) (mu : List O) (d : D) (P : Option D → List O → Prop) : Prop :=
  ∃ s1, t d ⟨env, mu⟩ = some s1 ∧ wv (mt s1) (lcC vs env me P) noQ
theorem lcQ_of {vs : List Nat} {t : MT} {mt : M Bool} {me : M D} {env : List (Option O)} {mu : List O} {d : D} {P : Option D → List O → Prop} {s1 : S} (e : t d ⟨env, mu⟩ = some s1) (h : wv (mt s1) (lcC vs env me P) noQ) : lcQ vs t mt me env mu d P := by
  exact ⟨s1, e, h⟩
theorem w_lcI {α : Type} {Q : List D → S → Prop} {vs : List Nat} {t : MT} {mt : M Bool} {me : M D} {enc : α → D} {l : List α} (I : List α → List α → List D → List O → Prop) (h0 : I [] l [] mu)
    (hs : ∀ done a todo ys mu, l = done ++ a :: todo → I done (a :: todo) ys mu → lcQ vs t mt me env mu (enc a) (fun oy mu' => I (done ++ [a]) todo (ys ++ oy.toList) mu')) (hQ : ∀ ys mu', I l [] ys mu' → Q ys ⟨env, mu'⟩) :
    wv (lcL vs t mt me (l.map enc) ⟨env, mu⟩) Q E := by
  suffices g : ∀ (todo done : List α) (ys : List D) (mu : List O), l = done ++ todo → I done todo ys mu → wv (lcL vs t mt me (todo.map enc) ⟨env, mu⟩) (fun zs s => ∃ mu', s = ⟨env, mu'⟩ ∧ I l [] (ys ++ zs) mu') noQ from
    w_imp0 (g l [] [] mu rfl h0) fun zs s h => by obtain ⟨mu', rfl, h⟩ := h; exact hQ _ _ h
  intro todo
  induction todo with
  | nil => intro done ys mu e h; rw [List.append_nil] at e; subst e; exact w_ok ⟨mu, rfl, by rw [List.append_nil]; exact h⟩
  | cons a todo ih =>
    intro done ys mu e h
    have w := hs done a todo ys mu e h
    obtain ⟨s1, e1, w⟩ := w
    rw [List.map_cons, st_lc1]
    rw [e1]
    · refine w_bd (wv_mono w (fun b s2 w2 => ?_) fun _ _ z => z)
      obtain ⟨env2, mu2⟩ := s2
      rw [st_lcT]
      cases b with
      | false =>
        unfold lcC at w2
        rw [if_neg (by decide)] at w2
        obtain ⟨f1, f2, f3⟩ := w2
        rw [if_neg (by decide), if_pos f1, f2]
        have := ih (done ++ [a]) (ys ++ []) mu2 (by rw [e, List.append_assoc]; rfl) f3
        rw [List.append_nil] at this
        exact this
      | true =>
        rw [if_pos rfl]
        refine w_bd (wv_mono w2 (fun y s3 w3 => ?_) fun _ _ z => z)
        obtain ⟨env3, mu3⟩ := s3
        obtain ⟨f1, f2, f3⟩ := w3
        rw [st_lcY, if_pos f1]
        dsimp only at f2
        rw [f2]
        refine w_bd (wv_mono (ih (done ++ [a]) (ys ++ [y]) mu3 (by rw [e, List.append_assoc]; rfl) f3) (fun zs s4 w4 => ?_) fun _ _ z => z)
        obtain ⟨mu', rfl, w4⟩ := w4
        rw [List.append_assoc] at w4
        exact w_ok ⟨mu', rfl, w4⟩
/-- each thing gives one, nothing is changed -/
theorem w_lcm {α : Type} {Q : List D → S → Prop} {vs : List Nat} {t : MT} {mt : M Bool} {me : M D} {enc : α → D} {l : List α} (f : α → D)
    (hs : ∀ a ∈ l, lcQ vs t mt me env mu (enc a) (fun oy mu' => oy = some (f a) ∧ mu' = mu)) (hQ : Q (l.map f) ⟨env, mu⟩) : wv (lcL vs t mt me (l.map enc) ⟨env, mu⟩) Q E := by
  refine w_lcI (fun done _ ys mu' => ys = done.map f ∧ mu' = mu) ⟨rfl, rfl⟩ (fun done a todo ys mu' e h => ?_) fun ys mu' h => by obtain ⟨rfl, rfl⟩ := h; exact hQ
  obtain ⟨rfl, rfl⟩ := h
  have ma : a ∈ l := by rw [e]; exact List.mem_append_right _ List.mem_cons_self
  obtain ⟨s1, e1, w⟩ := hs a ma
  · refine ⟨s1, e1, wv_mono w (fun b s2 w2 => ?_) fun _ _ z => z⟩
    cases b with
    | false => obtain ⟨_, _, h, _⟩ := w2; cases h
    | true => exact wv_mono w2 (fun y s3 ⟨f1, f2, f3, f4⟩ => ⟨f1, f2, by cases f3; rw [List.map_append]; rfl, f4⟩) fun _ _ z => z
/-- no condition -/
theorem w_lcx {α : Type} {Q : List D → S → Prop} {vs : List Nat} {t : MT} {me : M D} {enc : α → D} {l : List α} (f : α → D)
    (hs : ∀ a ∈ l, ∃ s1, t (enc a) ⟨env, mu⟩ = some s1 ∧ wv (me s1) (lcE vs env fun y mu' => y = f a ∧ mu' = mu) noQ) (hQ : Q (l.map f) ⟨env, mu⟩) : wv (lcL vs t (Tr.ret true) me (l.map enc) ⟨env, mu⟩) Q E :=
  w_lcm f (fun a ha => by
    obtain ⟨s1, e1, w⟩ := hs a ha
    exact lcQ_of e1 (w_ok (lcC_t (wv_mono w (fun y s h => ⟨h.1, h.2.1, by rw [h.2.2.1], h.2.2.2⟩) fun _ _ z => z)))) hQ
end
/-! ### loops by their number -/
section
variable {E : Exc → S → Prop} {env : List (Option O)} {mu : List O}
theorem w_forI {α : Type} {Q : Fl → S → Prop} {t : MT} {mb : M Fl} {enc : α → D} {l : List α} {s : S} (I : Nat → S → Prop) (h0 : I 0 s)
    (hs : ∀ k a s, l[k]? = some a → I k s → ∃ s1, t (enc a) s = some s1 ∧ wv (mb s1) (fQ (I (k + 1)) Q) E) (hQ : ∀ s, I l.length s → Q .nx s) : wv (forL t mb (l.map enc) s) Q E :=
  w_for (fun done _ s => I done.length s) h0 (fun done a todo s e h => by
    obtain ⟨s1, e1, w⟩ := hs done.length a s (by rw [e, List.getElem?_append_right (Nat.le_refl _), Nat.sub_self]; rfl) h
    exact ⟨s1, e1, by rw [List.length_append]; exact w⟩) hQ
theorem w_rng {Q : Fl → S → Prop} {t : MT} {mb : M Fl} {i : Int} {n : Nat} {s : S} (I : Nat → S → Prop) (h0 : I 0 s)
    (hs : ∀ k s, k < n → I k s → ∃ s1, t (.int (i + (k : Int))) s = some s1 ∧ wv (mb s1) (fQ (I (k + 1)) Q) E) (hQ : ∀ s, I n s → Q .nx s) : wv (forL t mb (rngL i n) s) Q E :=
  w_forI I h0 (fun k a s e h => by
    have hk : k < n := by
      rcases Nat.lt_or_ge k n with z | z
      · exact z
      · rw [List.getElem?_eq_none (by rw [List.length_range]; exact z)] at e; cases e
    rw [List.getElem?_range hk] at e
    cases e
    exact hs k s hk h) (by rw [List.length_range]; exact hQ)
end
/-! ### steps of dicts -/
section
variable {env : List (Option O)} {mu : List O} {neg : Bool} {i : Nat} {mk md : M D} {kvs : List (D × D)} {j a b : Int} {x : Str} {d : D}
def inKK (neg : Bool) (i : Nat) (k : D) : M O := fun s => match dctK s i, keyOfD k with
  | some kvs, some ks => .ok (.fz (.bl ((getKD ks kvs).isSome != neg))) s
  | _, _ => .no
def inTK (neg : Bool) (i : Nat) (k : D) : M O := fun s => match dctS s i, tkeyD k with
  | some kvs, some ks => .ok (.fz (.bl ((getTD ks kvs).isSome != neg))) s
  | _, _ => .no
def ixKK (i : Nat) (k : D) : M O := fun s => match dctK s i, keyOfD k with
  | some kvs, some ks => ofO ((getKD ks kvs).map .fz) s
  | _, _ => .no
def ixTK (i : Nat) (k : D) : M O := fun s => match dctS s i, tkeyD k with
  | some kvs, some ks => ofO ((getTD ks kvs).map .fz) s
  | _, _ => .no
def putKK (i : Nat) (mk : M D) (d : D) : M Fl := fun s1 => match getP s1 i with
  | none => .no
  | some _ => (mk s1).bind fun k => putKAt i d k
def putTK (i : Nat) (mk : M D) (d : D) : M Fl := fun s1 => match getP s1 i with
  | none => .no
  | some _ => (mk s1).bind fun k => putTAt i d k
def getTK (i : Nat) (k z : D) : M O := fun s => match dctS s i, tkeyD k with
  | some kvs, some ks => .ok (.fz ((getTD ks kvs).getD z)) s
  | _, _ => .no
theorem sk_inK : xInK neg i mk ⟨env, mu⟩ = (mk ⟨env, mu⟩).bind (inKK neg i) := rfl
theorem sk_inT : xInT neg i mk ⟨env, mu⟩ = (mk ⟨env, mu⟩).bind (inTK neg i) := rfl
theorem sk_inKi : inKK neg i (.int j) ⟨env, mu⟩ = (match dctK ⟨env, mu⟩ i with | some kvs => .ok (.fz (.bl ((getKD (.inl j) kvs).isSome != neg))) ⟨env, mu⟩ | none => .no) := by unfold inKK; cases dctK ⟨env, mu⟩ i <;> rfl
theorem sk_inKs : inKK neg i (.str x) ⟨env, mu⟩ = (match dctK ⟨env, mu⟩ i with | some kvs => .ok (.fz (.bl ((getKD (.inr x) kvs).isSome != neg))) ⟨env, mu⟩ | none => .no) := by unfold inKK; cases dctK ⟨env, mu⟩ i <;> rfl
theorem sk_inT2 : inTK neg i (.tup [.int a, .int b]) ⟨env, mu⟩ = (match dctS ⟨env, mu⟩ i with | some kvs => .ok (.fz (.bl ((getTD [.inl a, .inl b] kvs).isSome != neg))) ⟨env, mu⟩ | none => .no) := by unfold inTK; cases dctS ⟨env, mu⟩ i <;> rfl
theorem sk_dctK : dctK ⟨env, mu⟩ i = (match getS env i with | some (.dct kvs) => some kvs | some (.fz (.dct kvs)) => some kvs | some (.fz (.cel n)) => (match getM mu n with | some (.dct kvs) => some kvs | _ => none) | _ => none) := rfl
theorem sk_dctS : dctS ⟨env, mu⟩ i = (match getS env i with | some (.dcu kvs) => some kvs | some (.fz (.dcu kvs)) => some kvs | some (.fz (.cel n)) => (match getM mu n with | some (.dcu kvs) => some kvs | _ => none) | _ => none) := rfl
theorem sk_ixK : xIxK i mk ⟨env, mu⟩ = (match dctK ⟨env, mu⟩ i with | some _ => (mk ⟨env, mu⟩).bind (ixKK i) | none => .no) := by unfold xIxK; cases dctK ⟨env, mu⟩ i <;> rfl
theorem sk_ixT : xIxT i mk ⟨env, mu⟩ = (match dctS ⟨env, mu⟩ i with | some _ => (mk ⟨env, mu⟩).bind (ixTK i) | none => .no) := by unfold xIxT; cases dctS ⟨env, mu⟩ i <;> rfl
theorem sk_ixKi : ixKK i (.int j) ⟨env, mu⟩ = (match dctK ⟨env, mu⟩ i with | some kvs => ofO ((getKD (.inl j) kvs).map .fz) ⟨env, mu⟩ | none => .no) := by unfold ixKK; cases dctK ⟨env, mu⟩ i <;> rfl
theorem sk_ixKs : ixKK i (.str x) ⟨env, mu⟩ = (match dctK ⟨env, mu⟩ i with | some kvs => ofO ((getKD (.inr x) kvs).map .fz) ⟨env, mu⟩ | none => .no) := by unfold ixKK; cases dctK ⟨env, mu⟩ i <;> rfl
theorem sk_ixT2 : ixTK i (.tup [.int a, .int b]) ⟨env, mu⟩ = (match dctS ⟨env, mu⟩ i with | some kvs => ofO ((getTD [.inl a, .inl b] kvs).map .fz) ⟨env, mu⟩ | none => .no) := by unfold ixTK; cases dctS ⟨env, mu⟩ i <;> rfl
theorem sk_putK : sPutK i mk md ⟨env, mu⟩ = (md ⟨env, mu⟩).bind (putKK i mk) := rfl
theorem sk_putT : sPutT i mk md ⟨env, mu⟩ = (md ⟨env, mu⟩).bind (putTK i mk) := rfl
theorem sk_putKK : putKK i mk d ⟨env, mu⟩ = (match getP ⟨env, mu⟩ i with | none => .no | some _ => (mk ⟨env, mu⟩).bind fun k => putKAt i d k) := rfl
theorem sk_putTK : putTK i mk d ⟨env, mu⟩ = (match getP ⟨env, mu⟩ i with | none => .no | some _ => (mk ⟨env, mu⟩).bind fun k => putTAt i d k) := rfl
theorem sk_putKi : putKAt i d (.int j) ⟨env, mu⟩ = (match getP ⟨env, mu⟩ i with | some (.dct kvs) => if kvs.length < 16777216 then .ok .nx (putP ⟨env, mu⟩ i (.dct (putKD (.inl j) d kvs))) else .no | _ => .no) := by unfold putKAt; cases getP ⟨env, mu⟩ i with | none => rfl | some o => cases o <;> rfl
theorem sk_putKs : putKAt i d (.str x) ⟨env, mu⟩ = (match getP ⟨env, mu⟩ i with | some (.dct kvs) => if kvs.length < 16777216 then .ok .nx (putP ⟨env, mu⟩ i (.dct (putKD (.inr x) d kvs))) else .no | _ => .no) := by unfold putKAt; cases getP ⟨env, mu⟩ i with | none => rfl | some o => cases o <;> rfl
theorem sk_putT2 : putTAt i d (.tup [.int a, .int b]) ⟨env, mu⟩ = (match getP ⟨env, mu⟩ i with | some (.dcu kvs) => if kvs.length < 16777216 then .ok .nx (putP ⟨env, mu⟩ i (.dcu (putTD [.inl a, .inl b] d kvs))) else .no | _ => .no) := by unfold putTAt; cases getP ⟨env, mu⟩ i with | none => rfl | some o => cases o <;> rfl
theorem sk_lsK : xLsK i ⟨env, mu⟩ = (match getP ⟨env, mu⟩ i with | some (.dct kvs) => .ok (.lst (kvs.map (·.1))) ⟨env, mu⟩ | _ => .no) := rfl
theorem sk_getT : xGetT i mk md ⟨env, mu⟩ = (match dctS ⟨env, mu⟩ i with | some _ => (mk ⟨env, mu⟩).bind fun k => bnd md fun z => getTK i k z | none => .no) := by unfold xGetT; cases dctS ⟨env, mu⟩ i <;> rfl
theorem sk_getT2 : getTK i (.tup [.int a, .int b]) d ⟨env, mu⟩ = (match dctS ⟨env, mu⟩ i with | some kvs => .ok (.fz ((getTD [.inl a, .inl b] kvs).getD d)) ⟨env, mu⟩ | none => .no) := by unfold getTK; cases dctS ⟨env, mu⟩ i <;> rfl
theorem sk_oneK {fk fv : S → Option D} : xOneK fk fv ⟨env, mu⟩ = (match fk ⟨env, mu⟩, fv ⟨env, mu⟩ with | some k, some d => (match keyOfD k with | some _ => .ok (.dct [(k, d)]) ⟨env, mu⟩ | none => .no) | _, _ => .no) := rfl
theorem sk_kyi : keyOfD (.int j) = some (.inl j) := rfl
theorem sk_kys : keyOfD (.str x) = some (.inr x) := rfl
theorem sk_isd : isFz (.dct kvs) = false := rfl
theorem sk_isu : isFz (.dcu kvs) = false := rfl
theorem sk_tod : O.toD (.dct kvs) = .dct kvs := by rw [O.toD]
theorem sk_tou : O.toD (.dcu kvs) = .dcu kvs := by rw [O.toD]
theorem sk_menum {ma : M (List D)} : mEnumA ma ⟨env, mu⟩ = (ma ⟨env, mu⟩).bind fun ds => ofO (enumA ds) := rfl
theorem sk_rg3 {ma : M (List D)} : mRng3 ma ⟨env, mu⟩ = (ma ⟨env, mu⟩).bind fun ds => ofO (rng3 ds) := rfl
theorem sk_ennl {ds : List D} : enumA [.lst ds] = some (numD 0 ds) := rfl
theorem sk_ennt {ds : List D} : enumA [.tup ds] = some (numD 0 ds) := rfl
theorem sk_rev {ds : List D} : revD (.lst ds) = some (.lst ds.reverse) := rfl
theorem sk_tupl {ds : List D} : tupleD (.lst ds) = some (.fz (.tup ds)) := rfl
theorem sk_tupt {ds : List D} : tupleD (.tup ds) = some (.fz (.tup ds)) := rfl
theorem sk_lstl {ds : List D} : listD (.lst ds) = some (.lst ds) := rfl
theorem sk_lstt {ds : List D} : listD (.tup ds) = some (.lst ds) := rfl
theorem sk_bne0 {b : Bool} : (b != false) = b := by cases b <;> rfl
theorem sk_bne1 {b : Bool} : (b != true) = !b := by cases b <;> rfl
end
section
variable {x y z w v u : D} {xs : List D}
theorem sk_x0 : ixD (.lst (x :: xs)) (.int 0) = some (.fz x) := by rw [st_ixl, st_at0]; rfl
theorem sk_x1 : ixD (.lst (x :: y :: xs)) (.int 1) = some (.fz y) := by rw [st_ixl, st_at1]; rfl
theorem sk_x2 : ixD (.lst (x :: y :: z :: xs)) (.int 2) = some (.fz z) := by rw [st_ixl, st_at2]; rfl
theorem sk_x3 : ixD (.lst (x :: y :: z :: w :: xs)) (.int 3) = some (.fz w) := by rw [st_ixl, st_at3]; rfl
theorem sk_x4 : ixD (.lst (x :: y :: z :: w :: v :: xs)) (.int 4) = some (.fz v) := by rw [st_ixl, st_at4]; rfl
theorem sk_t0 : ixD (.tup (x :: xs)) (.int 0) = some (.fz x) := by rw [st_ixt, st_at0]; rfl
theorem sk_t1 : ixD (.tup (x :: y :: xs)) (.int 1) = some (.fz y) := by rw [st_ixt, st_at1]; rfl
theorem sk_t2 : ixD (.tup (x :: y :: z :: xs)) (.int 2) = some (.fz z) := by rw [st_ixt, st_at2]; rfl
theorem sk_t3 : ixD (.tup (x :: y :: z :: w :: xs)) (.int 3) = some (.fz w) := by rw [st_ixt, st_at3]; rfl
theorem sk_t4 : ixD (.tup (x :: y :: z :: w :: v :: xs)) (.int 4) = some (.fz v) := by rw [st_ixt, st_at4]; rfl
theorem sk_t5 : ixD (.tup (x :: y :: z :: w :: v :: u :: xs)) (.int 5) = some (.fz u) := by rw [st_ixt, c_at5]; rfl
end
/-! ### things drawn -/
theorem sk_isit {xs : List D} : isiD [.tup xs, .ty "tuple"] = some (.fz (.bl true)) := rfl
/-! ### ifs of values -/
section
variable {p : Prop} [Decidable p] {α : Type} {a b : α} {s : S} {env : List (Option O)} {mu : List O}
theorem v_app {m1 m2 : M α} : (if p then m1 else m2) ⟨env, mu⟩ = if p then m1 ⟨env, mu⟩ else m2 ⟨env, mu⟩ := by split <;> rfl
theorem v_ok : (if p then Tr.R.ok a s else .ok b s) = Tr.R.ok (if p then a else b) s := by split <;> rfl
theorem v_fz {d e : D} : (if p then O.fz d else .fz e) = .fz (if p then d else e) := by split <;> rfl
theorem v_int {i j : Int} : (if p then D.int i else .int j) = .int (if p then i else j) := by split <;> rfl
theorem v_bl {i j : Bool} : (if p then D.bl i else .bl j) = .bl (if p then i else j) := by split <;> rfl
theorem v_str {i j : Str} : (if p then D.str i else .str j) = .str (if p then i else j) := by split <;> rfl
theorem v_ba {y : Bool} : (if p then y else false) = (decide p && y) := by by_cases h : p <;> simp [h]
theorem v_bo {y : Bool} : (if p then true else y) = (decide p || y) := by by_cases h : p <;> simp [h]
end
section
variable {a0 a1 a2 a3 a4 a5 a6 a7 a8 a9 a10 a11 a12 a13 a14 a15 a16 a17 a18 a19 a20 a21 a22 a23 a24 a25 a26 a27 a28 a29 a30 x : Option O} {env : List (Option O)}
theorem getS_15 : getS (a0 :: a1 :: a2 :: a3 :: a4 :: a5 :: a6 :: a7 :: a8 :: a9 :: a10 :: a11 :: a12 :: a13 :: a14 :: x :: env) 15 = x := rfl
theorem setS_15 : setS (a0 :: a1 :: a2 :: a3 :: a4 :: a5 :: a6 :: a7 :: a8 :: a9 :: a10 :: a11 :: a12 :: a13 :: a14 :: a15 :: env) 15 x = a0 :: a1 :: a2 :: a3 :: a4 :: a5 :: a6 :: a7 :: a8 :: a9 :: a10 :: a11 :: a12 :: a13 :: a14 :: x :: env := rfl
theorem getS_16 : getS (a0 :: a1 :: a2 :: a3 :: a4 :: a5 :: a6 :: a7 :: a8 :: a9 :: a10 :: a11 :: a12 :: a13 :: a14 :: a15 :: x :: env) 16 = x := rfl
theorem setS_16 : setS (a0 :: a1 :: a2 :: a3 :: a4 :: a5 :: a6 :: a7 :: a8 :: a9 :: a10 :: a11 :: a12 :: a13 :: a14 :: a15 :: a16 :: env) 16 x = a0 :: a1 :: a2 :: a3 :: a4 :: a5 :: a6 :: a7 :: a8 :: a9 :: a10 :: a11 :: a12 :: a13 :: a14 :: a15 :: x :: env := rfl
theorem getS_17 : getS (a0 :: a1 :: a2 :: a3 :: a4 :: a5 :: a6 :: a7 :: a8 :: a9 :: a10 :: a11 :: a12 :: a13 :: a14 :: a15 :: a16 :: x :: env) 17 = x := rfl
theorem setS_17 : setS (a0 :: a1 :: a2 :: a3 :: a4 :: a5 :: a6 :: a7 :: a8 :: a9 :: a10 :: a11 :: a12 :: a13 :: a14 :: a15 :: a16 :: a17 :: env) 17 x = a0 :: a1 :: a2 :: a3 :: a4 :: a5 :: a6 :: a7 :: a8 :: a9 :: a10 :: a11 :: a12 :: a13 :: a14 :: a15 :: a16 :: x :: env := rfl
theorem getS_18 : getS (a0 :: a1 :: a2 :: a3 :: a4 :: a5 :: a6 :: a7 :: a8 :: a9 :: a10 :: a11 :: a12 :: a13 :: a14 :: a15 :: a16 :: a17 :: x :: env) 18 = x := rfl
theorem setS_18 : setS (a0 :: a1 :: a2 :: a3 :: a4 :: a5 :: a6 :: a7 :: a8 :: a9 :: a10 :: a11 :: a12 :: a13 :: a14 :: a15 :: a16 :: a17 :: a18 :: env) 18 x = a0 :: a1 :: a2 :: a3 :: a4 :: a5 :: a6 :: a7 :: a8 :: a9 :: a10 :: a11 :: a12 :: a13 :: a14 :: a15 :: a16 :: a17 :: x :: env := rfl
theorem getS_19 : getS (a0 :: a1 :: a2 :: a3 :: a4 :: a5 :: a6 :: a7 :: a8 :: a9 :: a10 :: a11 :: a12 :: a13 :: a14 :: a15 :: a16 :: a17 :: a18 :: x :: env) 19 = x := rfl
theorem setS_19 : setS (a0 :: a1 :: a2 :: a3 :: a4 :: a5 :: a6 :: a7 :: a8 :: a9 :: a10 :: a11 :: a12 :: a13 :: a14 :: a15 :: a16 :: a17 :: a18 :: a19 :: env) 19 x = a0 :: a1 :: a2 :: a3 :: a4 :: a5 :: a6 :: a7 :: a8 :: a9 :: a10 :: a11 :: a12 :: a13 :: a14 :: a15 :: a16 :: a17 :: a18 :: x :: env := rfl
theorem getS_20 : getS (a0 :: a1 :: a2 :: a3 :: a4 :: a5 :: a6 :: a7 :: a8 :: a9 :: a10 :: a11 :: a12 :: a13 :: a14 :: a15 :: a16 :: a17 :: a18 :: a19 :: x :: env) 20 = x := rfl
theorem setS_20 : setS (a0 :: a1 :: a2 :: a3 :: a4 :: a5 :: a6 :: a7 :: a8 :: a9 :: a10 :: a11 :: a12 :: a13 :: a14 :: a15 :: a16 :: a17 :: a18 :: a19 :: a20 :: env) 20 x = a0 :: a1 :: a2 :: a3 :: a4 :: a5 :: a6 :: a7 :: a8 :: a9 :: a10 :: a11 :: a12 :: a13 :: a14 :: a15 :: a16 :: a17 :: a18 :: a19 :: x :: env := rfl
theorem getS_21 : getS (a0 :: a1 :: a2 :: a3 :: a4 :: a5 :: a6 :: a7 :: a8 :: a9 :: a10 :: a11 :: a12 :: a13 :: a14 :: a15 :: a16 :: a17 :: a18 :: a19 :: a20 :: x :: env) 21 = x := rfl
theorem setS_21 : setS (a0 :: a1 :: a2 :: a3 :: a4 :: a5 :: a6 :: a7 :: a8 :: a9 :: a10 :: a11 :: a12 :: a13 :: a14 :: a15 :: a16 :: a17 :: a18 :: a19 :: a20 :: a21 :: env) 21 x = a0 :: a1 :: a2 :: a3 :: a4 :: a5 :: a6 :: a7 :: a8 :: a9 :: a10 :: a11 :: a12 :: a13 :: a14 :: a15 :: a16 :: a17 :: a18 :: a19 :: a20 :: x :: env := rfl
theorem getS_22 : getS (a0 :: a1 :: a2 :: a3 :: a4 :: a5 :: a6 :: a7 :: a8 :: a9 :: a10 :: a11 :: a12 :: a13 :: a14 :: a15 :: a16 :: a17 :: a18 :: a19 :: a20 :: a21 :: x :: env) 22 = x := rfl
theorem setS_22 : setS (a0 :: a1 :: a2 :: a3 :: a4 :: a5 :: a6 :: a7 :: a8 :: a9 :: a10 :: a11 :: a12 :: a13 :: a14 :: a15 :: a16 :: a17 :: a18 :: a19 :: a20 :: a21 :: a22 :: env) 22 x = a0 :: a1 :: a2 :: a3 :: a4 :: a5 :: a6 :: a7 :: a8 :: a9 :: a10 :: a11 :: a12 :: a13 :: a14 :: a15 :: a16 :: a17 :: a18 :: a19 :: a20 :: a21 :: x :: env := rfl
theorem getS_23 : getS (a0 :: a1 :: a2 :: a3 :: a4 :: a5 :: a6 :: a7 :: a8 :: a9 :: a10 :: a11 :: a12 :: a13 :: a14 :: a15 :: a16 :: a17 :: a18 :: a19 :: a20 :: a21 :: a22 :: x :: env) 23 = x := rfl
theorem setS_23 : setS (a0 :: a1 :: a2 :: a3 :: a4 :: a5 :: a6 :: a7 :: a8 :: a9 :: a10 :: a11 :: a12 :: a13 :: a14 :: a15 :: a16 :: a17 :: a18 :: a19 :: a20 :: a21 :: a22 :: a23 :: env) 23 x = a0 :: a1 :: a2 :: a3 :: a4 :: a5 :: a6 :: a7 :: a8 :: a9 :: a10 :: a11 :: a12 :: a13 :: a14 :: a15 :: a16 :: a17 :: a18 :: a19 :: a20 :: a21 :: a22 :: x :: env := rfl
theorem getS_24 : getS (a0 :: a1 :: a2 :: a3 :: a4 :: a5 :: a6 :: a7 :: a8 :: a9 :: a10 :: a11 :: a12 :: a13 :: a14 :: a15 :: a16 :: a17 :: a18 :: a19 :: a20 :: a21 :: a22 :: a23 :: x :: env) 24 = x := rfl
theorem setS_24 : setS (a0 :: a1 :: a2 :: a3 :: a4 :: a5 :: a6 :: a7 :: a8 :: a9 :: a10 :: a11 :: a12 :: a13 :: a14 :: a15 :: a16 :: a17 :: a18 :: a19 :: a20 :: a21 :: a22 :: a23 :: a24 :: env) 24 x = a0 :: a1 :: a2 :: a3 :: a4 :: a5 :: a6 :: a7 :: a8 :: a9 :: a10 :: a11 :: a12 :: a13 :: a14 :: a15 :: a16 :: a17 :: a18 :: a19 :: a20 :: a21 :: a22 :: a23 :: x :: env := rfl
theorem getS_25 : getS (a0 :: a1 :: a2 :: a3 :: a4 :: a5 :: a6 :: a7 :: a8 :: a9 :: a10 :: a11 :: a12 :: a13 :: a14 :: a15 :: a16 :: a17 :: a18 :: a19 :: a20 :: a21 :: a22 :: a23 :: a24 :: x :: env) 25 = x := rfl
theorem setS_25 : setS (a0 :: a1 :: a2 :: a3 :: a4 :: a5 :: a6 :: a7 :: a8 :: a9 :: a10 :: a11 :: a12 :: a13 :: a14 :: a15 :: a16 :: a17 :: a18 :: a19 :: a20 :: a21 :: a22 :: a23 :: a24 :: a25 :: env) 25 x = a0 :: a1 :: a2 :: a3 :: a4 :: a5 :: a6 :: a7 :: a8 :: a9 :: a10 :: a11 :: a12 :: a13 :: a14 :: a15 :: a16 :: a17 :: a18 :: a19 :: a20 :: a21 :: a22 :: a23 :: a24 :: x :: env := rfl
theorem getS_26 : getS (a0 :: a1 :: a2 :: a3 :: a4 :: a5 :: a6 :: a7 :: a8 :: a9 :: a10 :: a11 :: a12 :: a13 :: a14 :: a15 :: a16 :: a17 :: a18 :: a19 :: a20 :: a21 :: a22 :: a23 :: a24 :: a25 :: x :: env) 26 = x := rfl
theorem setS_26 : setS (a0 :: a1 :: a2 :: a3 :: a4 :: a5 :: a6 :: a7 :: a8 :: a9 :: a10 :: a11 :: a12 :: a13 :: a14 :: a15 :: a16 :: a17 :: a18 :: a19 :: a20 :: a21 :: a22 :: a23 :: a24 :: a25 :: a26 :: env) 26 x = a0 :: a1 :: a2 :: a3 :: a4 :: a5 :: a6 :: a7 :: a8 :: a9 :: a10 :: a11 :: a12 :: a13 :: a14 :: a15 :: a16 :: a17 :: a18 :: a19 :: a20 :: a21 :: a22 :: a23 :: a24 :: a25 :: x :: env := rfl
theorem getS_27 : getS (a0 :: a1 :: a2 :: a3 :: a4 :: a5 :: a6 :: a7 :: a8 :: a9 :: a10 :: a11 :: a12 :: a13 :: a14 :: a15 :: a16 :: a17 :: a18 :: a19 :: a20 :: a21 :: a22 :: a23 :: a24 :: a25 :: a26 :: x :: env) 27 = x := rfl
theorem setS_27 : setS (a0 :: a1 :: a2 :: a3 :: a4 :: a5 :: a6 :: a7 :: a8 :: a9 :: a10 :: a11 :: a12 :: a13 :: a14 :: a15 :: a16 :: a17 :: a18 :: a19 :: a20 :: a21 :: a22 :: a23 :: a24 :: a25 :: a26 :: a27 :: env) 27 x = a0 :: a1 :: a2 :: a3 :: a4 :: a5 :: a6 :: a7 :: a8 :: a9 :: a10 :: a11 :: a12 :: a13 :: a14 :: a15 :: a16 :: a17 :: a18 :: a19 :: a20 :: a21 :: a22 :: a23 :: a24 :: a25 :: a26 :: x :: env := rfl
theorem getS_28 : getS (a0 :: a1 :: a2 :: a3 :: a4 :: a5 :: a6 :: a7 :: a8 :: a9 :: a10 :: a11 :: a12 :: a13 :: a14 :: a15 :: a16 :: a17 :: a18 :: a19 :: a20 :: a21 :: a22 :: a23 :: a24 :: a25 :: a26 :: a27 :: x :: env) 28 = x := rfl
theorem setS_28 : setS (a0 :: a1 :: a2 :: a3 :: a4 :: a5 :: a6 :: a7 :: a8 :: a9 :: a10 :: a11 :: a12 :: a13 :: a14 :: a15 :: a16 :: a17 :: a18 :: a19 :: a20 :: a21 :: a22 :: a23 :: a24 :: a25 :: a26 :: a27 :: a28 :: env) 28 x = a0 :: a1 :: a2 :: a3 :: a4 :: a5 :: a6 :: a7 :: a8 :: a9 :: a10 :: a11 :: a12 :: a13 :: a14 :: a15 :: a16 :: a17 :: a18 :: a19 :: a20 :: a21 :: a22 :: a23 :: a24 :: a25 :: a26 :: a27 :: x :: env := rfl
theorem getS_29 : getS (a0 :: a1 :: a2 :: a3 :: a4 :: a5 :: a6 :: a7 :: a8 :: a9 :: a10 :: a11 :: a12 :: a13 :: a14 :: a15 :: a16 :: a17 :: a18 :: a19 :: a20 :: a21 :: a22 :: a23 :: a24 :: a25 :: a26 :: a27 :: a28 :: x :: env) 29 = x := rfl
theorem setS_29 : setS (a0 :: a1 :: a2 :: a3 :: a4 :: a5 :: a6 :: a7 :: a8 :: a9 :: a10 :: a11 :: a12 :: a13 :: a14 :: a15 :: a16 :: a17 :: a18 :: a19 :: a20 :: a21 :: a22 :: a23 :: a24 :: a25 :: a26 :: a27 :: a28 :: a29 :: env) 29 x = a0 :: a1 :: a2 :: a3 :: a4 :: a5 :: a6 :: a7 :: a8 :: a9 :: a10 :: a11 :: a12 :: a13 :: a14 :: a15 :: a16 :: a17 :: a18 :: a19 :: a20 :: a21 :: a22 :: a23 :: a24 :: a25 :: a26 :: a27 :: a28 :: x :: env := rfl
theorem getS_30 : getS (a0 :: a1 :: a2 :: a3 :: a4 :: a5 :: a6 :: a7 :: a8 :: a9 :: a10 :: a11 :: a12 :: a13 :: a14 :: a15 :: a16 :: a17 :: a18 :: a19 :: a20 :: a21 :: a22 :: a23 :: a24 :: a25 :: a26 :: a27 :: a28 :: a29 :: x :: env) 30 = x := rfl
theorem setS_30 : setS (a0 :: a1 :: a2 :: a3 :: a4 :: a5 :: a6 :: a7 :: a8 :: a9 :: a10 :: a11 :: a12 :: a13 :: a14 :: a15 :: a16 :: a17 :: a18 :: a19 :: a20 :: a21 :: a22 :: a23 :: a24 :: a25 :: a26 :: a27 :: a28 :: a29 :: a30 :: env) 30 x = a0 :: a1 :: a2 :: a3 :: a4 :: a5 :: a6 :: a7 :: a8 :: a9 :: a10 :: a11 :: a12 :: a13 :: a14 :: a15 :: a16 :: a17 :: a18 :: a19 :: a20 :: a21 :: a22 :: a23 :: a24 :: a25 :: a26 :: a27 :: a28 :: a29 :: x :: env := rfl
end
/-! ### methods -/
def reprTK (tbl : List (Str × MF)) (d : D) : M O := match d with
  | .tup ds => bnd (reprsM tbl ds 0) fun ts => ret (.fz (.str (tupleText ts)))
  | _ => fun _ => .no
theorem v_chB {b : Bool} {m : M O} {env : List (Option O)} {mu : List O} : chB (some b) m ⟨env, mu⟩ = if b = true then m ⟨env, mu⟩ else .ok (.fz (.bl false)) ⟨env, mu⟩ := by cases b <;> rfl
theorem c_meth {c mn : Str} {m : MF} {gD : List D → List D → List D} {n k : Nat} {ma mk : M (List D)} {fs : List (Str × D)} (h : (fs.map (·.1)).contains mn = false) :
    methK c mn m gD n k ma mk (.ins c fs) = bnd ma fun ds => bnd mk fun es => if ds.length + 1 = n ∧ es.length = k then runF m (gD (.ins c fs :: ds) es) else fun _ => .no := by
  unfold methK
  dsimp only
  rw [if_pos ⟨rfl, h⟩]
theorem sk_sn {tbl : List (Str × MF)} {g : D → Option O} {md : M D} {env : List (Option O)} {mu : List O} : xSn tbl g md ⟨env, mu⟩ = (md ⟨env, mu⟩).bind (runN tbl g) := rfl
theorem sk_reprT {tbl : List (Str × MF)} {md : M D} {env : List (Option O)} {mu : List O} : xReprT tbl md ⟨env, mu⟩ = (md ⟨env, mu⟩).bind (reprTK tbl) := rfl
end L2.Tr
/-! tuples turned about: t[::-1] -/
namespace L2.Tr
open PySem PySem.Spec PyProof.Rows L2 L2.Pc
section
variable {X : Cx} {G : Gi} {W : WX} {e : Expr} {te : TE} {m : M O} {k : Nat} {p1 p2 p3 pos : Pos}
/-- xs[::-1] of lists and tuples -/
def rvD : D → Option O
  | .lst ds => some (.lst ds.reverse)
  | .lsk ds => some (.lst ds.reverse)
  | .tup ds => some (.fz (.tup ds.reverse))
  | .tuk ds => some (.fz (.tup ds.reverse))
  | _ => none
end
theorem sk_rvl {ds : List D} : rvD (.lst ds) = some (.lst ds.reverse) := rfl
theorem sk_rvt {ds : List D} : rvD (.tup ds) = some (.fz (.tup ds.reverse)) := rfl
end L2.Tr
/-! x in xs, where the members are data of any depth -/
namespace L2.Tr
open PySem PySem.Spec PyProof.Rows L2 L2.Pc
end L2.Tr
/-! max of a list of data that are alike (pairs) -/
namespace L2.Tr
open PySem PySem.Spec PyProof.Rows L2 L2.Pc
end L2.Tr
/-! a, b, c = (.., .., ..) by a tuple in between, what is owned kept -/
namespace L2.Tr
open PySem PySem.Spec PyProof.Rows L2 L2.Pc
section
variable {X : Cx} {G : Gi} {W : WX} {ms : M (List O)} {i j l : Nat} {es : List Expr} {tgt : Expr} {kk : Nat} {p2 pos : Pos} {g : TG}
theorem parH3_t {D' : Ends} {σ : L2.St} {H : Hp} (q : tS G W (sPar3 i j l ms) D' σ H) : tAsg (tTup (tAo G W ms)) (gTup G.K 3 (gCons (gName i) (gCons (gName j) (gCons (gName l) gNil)))) D' σ H := by
  show tAo G W ms σ H fun vs H1 => vs.length ≤ sizeLine ∧ ∀ p, H1 p = none → gTup G.K 3 (gCons (gName i) (gCons (gName j) (gCons (gName l) gNil))) (.ref p) σ (upd H1 p (.tup vs)) fun σ' H2 => D'.nx σ' H2
  refine tS.ex q _ (fun os vs c c1 st1 r1 g1 p1 w => ?_)
  obtain ⟨fp, t, f, n⟩ := p1
  split at w
  · rename_i o p s
    cases t with
    | @cons _ v _ _ fa fb t1 ts =>
      cases ts with
      | @cons _ u _ _ fc fd t2 ts =>
        cases ts with
        | @cons _ x _ _ fe ff t3 ts =>
          cases ts
          rw [List.append_nil] at f n
          refine ⟨by rw [szl]; show 3 ≤ _; omega, fun p hp => ⟨p, [v, u, x], rfl, .inl (.inl upd_same), rfl, v, [u, x], rfl, u, [x], rfl, x, [], rfl, rfl, ?_⟩⟩
          have r0 := r1.new (o := .tup [v, u, x]) hp
          have g0 := g1.trans (GoE.new (o := .tup [v, u, x]) r1 hp)
          have ne : ∀ a, c1.H a ≠ none → upd c1.H p (.tup [v, u, x]) a = c1.H a := fun a h => upd_ne fun e => h (by rw [e]; exact hp)
          have f0 : Fresh (fa ++ (fc ++ fe)) (c1.new p (.tup [v, u, x])) := ⟨f.nd, f.nf, f.ns, f.nc⟩
          have t1 : OwnT G (c1.new p (.tup [v, u, x])).F (c1.new p (.tup [v, u, x])).al (c1.new p (.tup [v, u, x])).H _ v fa := t1.mo (Mo.refl _ _) fun a ha => ne a (OwnT.there t1 a ha)
          have t2 : OwnT G (c1.new p (.tup [v, u, x])).F (c1.new p (.tup [v, u, x])).al (c1.new p (.tup [v, u, x])).H _ u fc := t2.mo (Mo.refl _ _) fun a ha => ne a (OwnT.there t2 a ha)
          have t3 : OwnT G (c1.new p (.tup [v, u, x])).F (c1.new p (.tup [v, u, x])).al (c1.new p (.tup [v, u, x])).H _ x fe := t3.mo (Mo.refl _ _) fun a ha => ne a (OwnT.there t3 a ha)
          obtain ⟨c2, e2, r2, g2, eF, eA, f2⟩ := rel_put2 (i := i) r0 t1 f0 g0.toGo (fun a h => n a (List.mem_append_left _ h))
          obtain ⟨c3, e3, r3, g3, eF3, eA3, f3⟩ := rel_put2 (i := j) r2 (t2.mo (by rw [eF, eA]; exact Mo.refl _ _) fun a _ => by rw [e2]) f2 g2 (fun a h => n a (List.mem_append_right _ (List.mem_append_left _ h)))
          obtain ⟨c4, e4, r4, g4, _⟩ := rel_put (i := l) r3 (t3.mo (by rw [eF3, eA3, eF, eA]; exact Mo.refl _ _) fun a _ => by rw [e3, e2]) f3 g3 (fun a h => n a (List.mem_append_right _ (List.mem_append_right _ h)))
          have w : Fw G D' c .nx _ := w
          have z := w _ c4 r4 g4
          rw [e4, e3, e2] at z
          exact z
  · exact w.elim
theorem s_parH3 (he : PA X es (tAo G W ms)) (hg : PG X tgt (gTup G.K 3 (gCons (gName i) (gCons (gName j) (gCons (gName l) gNil)))))
    (hs : swapsWithSole [tgt] (.Tuple es kk p2) pos.line X.env = pure false := by rfl) (hw : swappedStores [tgt] (.Tuple es kk p2) X.env = pure none := by rfl)
    (h1 : (assignEach [tgt] X.env).map (·.2) = [assign tgt X.env] := by rfl) : PS X (.Assign [tgt] (.Tuple es kk p2) pos) (tS G W (sPar3 i j l ms)) :=
  (ps_asg (pe_tup he) hg hs hw h1).weak fun _ _ _ q => parH3_t q
end
end L2.Tr
/-! dict(xs), xs a list of pairs whose keys are numbers or texts, all different -/
namespace L2.Tr
open PySem PySem.Spec PyProof.Rows L2 L2.Pc
end L2.Tr
/-! what stands in a slot is frozen once the things to walk are at hand -/
namespace L2.Tr
open PySem PySem.Spec PyProof.Rows L2 L2.Pc
def frzO (s : S) (i : Nat) : S := match getS s.env i with
  | some o => ⟨setS s.env i (some (.fz o.toD)), s.mu⟩
  | none => s
def fzK (i : Nat) (ds : List D) : M (List D) := fun s => .ok ds (frzO s i)
def mFz (i : Nat) (it : M (List D)) : M (List D) := bnd it (fzK i)
theorem sk_fz {i : Nat} {it : M (List D)} {env : List (Option O)} {mu : List O} : mFz i it ⟨env, mu⟩ = (it ⟨env, mu⟩).bind (fzK i) := rfl
theorem sk_fzK {i : Nat} {ds : List D} {env : List (Option O)} {mu : List O} : fzK i ds ⟨env, mu⟩ = (match getS env i with | some o => .ok ds ⟨setS env i (some (.fz o.toD)), mu⟩ | none => .ok ds ⟨env, mu⟩) := by
  show Tr.R.ok ds (frzO ⟨env, mu⟩ i) = _
  unfold frzO
  cases getS env i <;> rfl
end L2.Tr
/-! len(set(xs)), xs a list or tuple of texts that all differ -/
namespace L2.Tr
open PySem PySem.Spec PyProof.Rows L2 L2.Pc
end L2.Tr
/-! zip(t, l), t a tuple and l a list: what the call makes and its turns -/
namespace L2.Tr
open PySem PySem.Spec PyProof.Rows L2 L2.Pc
end L2.Tr
namespace L2.Tr
open PySem PySem.Spec PyProof.Rows L2 L2.Pc
/-! ### cells by their numbers -/
section
variable {G : Gi}
/-- what a value stands for: itself, or what its cell holds -/
def derO (mu : List O) : O → Option O
  | .fz (.cel n) => getM mu n
  | o => some o
variable {X : Cx} {W : WX} {e e2 a b : Expr} {m : M O} {ma mb md mk : M D} {pos pos' apos cpos : Pos}
/-- read through a cell -/
def xDr (m : M O) : M O := bnd m fun o s => match derO s.mu o with
  | some o' => .ok o' s
  | none => .no
/-- an operator whose left operand is a cell, perhaps, read when both stand -/
def xOpD (g : D → D → Option O) (ma : M D) (mb : M O) : M O := bnd ma fun x => bnd mb fun y s => match derO s.mu (.fz x) with
  | some ox => ofO (g ox.toD y.toD) s
  | none => .no
end
/-! ### walks over what a cell holds, as long as it stays -/
section
variable {G : Gi}
abbrev Cw := Nat × O × List D
open Classical in
noncomputable def forCL (n : Nat) (o : O) (t : MT) (mb : M Fl) : List D → M Fl
  | [] => fun s => if getM s.mu n = some o then .ok .nx s else .no
  | d :: ds => fun s => if getM s.mu n = some o then (match t d s with
    | none => .no
    | some s1 => (mb s1).bind fun f => match f with
      | .nx => forCL n o t mb ds
      | .ct => forCL n o t mb ds
      | .bk => ret .nx
      | .rt o => ret (.rt o)) else .no
noncomputable def sForC (mi : M Cw) (t : MT) (mb : M Fl) : M Fl := bnd mi fun p => forCL p.1 p.2.1 t mb p.2.2
variable {X : Cx} {W : WX} {tg iter e : Expr} {body : List Stmt} {mi : M Cw} {t : MT} {mb : M Fl} {g : TG} {p pos : Pos} {md : M D} {ma : M (List D)}
/-- a cell's list walked -/
def mCel (md : M D) : M Cw := bnd md fun d s => match d with
  | .cel n => (match getM s.mu n with
    | some (.lst ds) => .ok (n, .lst ds, ds) s
    | _ => .no)
  | _ => .no
/-- enumerate of a cell's list -/
def mEnC (ma : M (List D)) : M Cw := bnd ma fun l s => match l with
  | [.cel n] => (match getM s.mu n with
    | some (.lst ds) => .ok (n, .lst ds, numD 0 ds) s
    | _ => .no)
  | _ => .no
/-! comprehensions -/
open Classical in
noncomputable def lcCL (n : Nat) (o : O) (vs : List Nat) (t : MT) (mt : M Bool) (me : M D) : List D → M (List D)
  | [] => fun s => if getM s.mu n = some o then .ok [] s else .no
  | d :: ds => fun s => if getM s.mu n = some o then (match t d s with
    | none => .no
    | some s1 => (mt s1).bind fun b s2 =>
      if b = true then (me s2).bind (fun y s3 => if freeE s3.env vs = true then (lcCL n o vs t mt me ds ⟨wipeE s3.env vs, s3.mu⟩).bind fun ys => ret (y :: ys) else .no)
      else if freeE s2.env vs = true then lcCL n o vs t mt me ds ⟨wipeE s2.env vs, s2.mu⟩ else .no) else .no
noncomputable def xLcC (vs : List Nat) (mi : M Cw) (t : MT) (mt : M Bool) (me : M D) : M O := bnd mi fun p s => if freeE s.env vs = true ∧ p.2.2.length ≤ 16777216 then
  (noExc (lcCL p.1 p.2.1 vs t mt me p.2.2 ⟨wipeE s.env vs, s.mu⟩)).bind fun ys s2 => .ok (.lst ys) ⟨backE s.env s2.env vs, s2.mu⟩ else .no
end
end L2.Tr
namespace L2.Tr
open PySem PySem.Spec PyProof.Rows L2 L2.Pc
/-! ### dicts: pop, d[k] -= e, sorted(d) -/
section
variable {X : Cx} {G : Gi} {W : WX} {e e2 : Expr} {i : Nat} {x : Str} {px pos pos' apos cpos : Pos} {mk : M D} {mb : M O}
def dropKD (k : Key) : List (D × D) → List (D × D)
  | [] => []
  | (d, x) :: r => if keyOfD d = some k then dropKD k r else (d, x) :: dropKD k r
/-- x.pop(k) of a dict -/
def xPopK (i : Nat) (mk : M D) : M O := fun s => match getS s.env i with
  | some (.fz (.cel n)) => (match getM s.mu n with
    | some (.dct _) => (mk s).bind fun k s1 => (match getS s1.env i, keyOfD k with
      | some (.fz (.cel n')), some ks => if n' = n then (match getM s1.mu n with
        | some (.dct kvs) => (match getKD ks kvs with
          | some y => .ok (.fz y) ⟨s1.env, setM s1.mu n (.dct (dropKD ks kvs))⟩
          | none => .no)
        | _ => .no) else .no
      | _, _ => .no)
    | _ => .no)
  | _ => .no
/-- d[k] -= e and its like, k a tuple -/
def augTAt (g : D → D → Option O) (i : Nat) (mk : M D) (mb : M O) : M Fl := fun s => match dctS s i with
  | none => .no
  | some _ => (mk s).bind fun k s2 => match dctS s2 i, tkeyD k with
    | some kvs, some ks => (match getTD ks kvs with
      | some v => (mb s2).bind fun oy s3 => (match g v oy.toD, getP s3 i with
        | some (.fz z), some (.dcu kvs3) => if kvs3.length < 16777216 then .ok .nx (putP s3 i (.dcu (putTD ks z kvs3))) else .no
        | _, _ => .no)
      | none => .no)
    | _, _ => .no
/-! comparisons whose left operand is a cell, perhaps -/
variable {a b : Expr} {ma md : M D}
/-! list(range(n)) -/
def xLstRg (md : M D) : M O := bnd md fun d s => match d with
  | .int n => if n < 16777216 ∧ -(2 ^ 62) ≤ n then .ok (.lst (rngL 0 n.toNat)) s else .no
  | _ => .no
/-! x.remove(e), numbers -/
def sRem (i : Nat) (md : M D) : M Fl := fun s => match getP s i with
  | some (.lst _) => (md s).bind fun d s1 => match getP s1 i, d with
    | some (.lst xs), .int k => (match allM intD' xs with
      | some ns => if k ∈ ns then .ok .nx (putP s1 i (.lst ((ns.erase k).map .int))) else .no
      | none => .no)
    | _, _ => .no
  | _ => .no
/-! sorted(d), d a dict with numbers as keys -/
def xSrtK (i : Nat) : M O := fun s => match getP s i with
  | some (.dct kvs) => (match allM intD' (kvs.map (·.1)) with
    | some ns => if ns.length < 64 then .ok (.lst ((isortB ltI ns).map .int)) s else .no
    | none => .no)
  | _ => .no
end
/-! sorted(xs), texts -/
def ltS (a b : Str) : Bool := decide (a.cps.toList < b.cps.toList)
def strD' : D → Option Str
  | .str a => some a
  | _ => none
theorem rpA_ofStrs {G : Gi} {F : Hp} {al : List Addr} : ∀ ns : List Str, RpA G F al (ns.map V.str) (ns.map .str)
  | [] => .nil
  | n :: ns => .cons (.str n) (rpA_ofStrs ns)
end L2.Tr
namespace L2.Tr
open PySem PySem.Spec PyProof.Rows L2 L2.Pc
/-! ### steps: cells walked, dicts -/
section
variable {env : List (Option O)} {mu : List O} {i n : Nat} {mk md ma : M D} {mb m : M O} {kvs : List (D × D)} {j : Int} {x : Str} {d : D} {g : D → D → Option O} {mi : M Cw} {t : MT} {mbd : M Fl} {mal : M (List D)}
def srtO (kvs : List (D × D)) : Option O := match allM intD' (kvs.map (·.1)) with
  | some ns => if ns.length < 64 then some (.lst ((isortB ltI ns).map .int)) else none
  | none => none
theorem sk_srtK : xSrtK i ⟨env, mu⟩ = (match getP ⟨env, mu⟩ i with | some (.dct kvs) => ofO (srtO kvs) ⟨env, mu⟩ | _ => .no) := by
  unfold xSrtK
  cases getP ⟨env, mu⟩ i with
  | none => rfl
  | some o =>
    cases o with
    | dct kvs =>
      dsimp only
      unfold srtO
      cases allM intD' (kvs.map (·.1)) with
      | none => rfl
      | some ns =>
        dsimp only
        by_cases h : ns.length < 64
        · rw [if_pos h, if_pos h]; rfl
        · rw [if_neg h, if_neg h]; rfl
    | _ => rfl
def popKK (i n : Nat) (k : D) : M O := fun s1 => (match getS s1.env i, keyOfD k with
      | some (.fz (.cel n')), some ks => if n' = n then (match getM s1.mu n with
        | some (.dct kvs) => (match getKD ks kvs with
          | some y => .ok (.fz y) ⟨s1.env, setM s1.mu n (.dct (dropKD ks kvs))⟩
          | none => .no)
        | _ => .no) else .no
      | _, _ => .no)
theorem sk_popK : xPopK i mk ⟨env, mu⟩ = (match getS env i with | some (.fz (.cel n)) => (match getM mu n with | some (.dct _) => (mk ⟨env, mu⟩).bind (popKK i n) | _ => .no) | _ => .no) := rfl
theorem sk_popKi : popKK i n (.int j) ⟨env, mu⟩ = (match getS env i with | some (.fz (.cel n')) => (if n' = n then (match getM mu n with | some (.dct kvs) => (match getKD (.inl j) kvs with | some y => .ok (.fz y) ⟨env, setM mu n (.dct (dropKD (.inl j) kvs))⟩ | none => .no) | _ => .no) else .no) | _ => .no) := by
  unfold popKK
  show (match getS env i, keyOfD (.int j) with | some (.fz (.cel n')), some ks => _ | _, _ => _) = _
  cases getS env i with
  | none => rfl
  | some o => cases o with
    | fz d => cases d <;> rfl
    | _ => rfl
theorem sk_popKs : popKK i n (.str x) ⟨env, mu⟩ = (match getS env i with | some (.fz (.cel n')) => (if n' = n then (match getM mu n with | some (.dct kvs) => (match getKD (.inr x) kvs with | some y => .ok (.fz y) ⟨env, setM mu n (.dct (dropKD (.inr x) kvs))⟩ | none => .no) | _ => .no) else .no) | _ => .no) := by
  unfold popKK
  show (match getS env i, keyOfD (.str x) with | some (.fz (.cel n')), some ks => _ | _, _ => _) = _
  cases getS env i with
  | none => rfl
  | some o => cases o with
    | fz d => cases d <;> rfl
    | _ => rfl
def remK (i : Nat) (d : D) : M Fl := fun s1 => match getP s1 i, d with
    | some (.lst xs), .int k => (match allM intD' xs with
      | some ns => if k ∈ ns then .ok .nx (putP s1 i (.lst ((ns.erase k).map .int))) else .no
      | none => .no)
    | _, _ => .no
theorem sk_rem : sRem i md ⟨env, mu⟩ = (match getP ⟨env, mu⟩ i with | some (.lst _) => (md ⟨env, mu⟩).bind (remK i) | _ => .no) := rfl
theorem sk_remi : remK i (.int j) ⟨env, mu⟩ = (match getP ⟨env, mu⟩ i with | some (.lst xs) => (match allM intD' xs with | some ns => if j ∈ ns then .ok .nx (putP ⟨env, mu⟩ i (.lst ((ns.erase j).map .int))) else .no | none => .no) | _ => .no) := by
  unfold remK
  cases getP ⟨env, mu⟩ i with
  | none => rfl
  | some o => cases o <;> rfl
def lstRgK (d : D) : M O := fun s => match d with
  | .int n => if n < 16777216 ∧ -(2 ^ 62) ≤ n then .ok (.lst (rngL 0 n.toNat)) s else .no
  | _ => .no
theorem sk_lstRg : xLstRg md ⟨env, mu⟩ = (md ⟨env, mu⟩).bind lstRgK := rfl
theorem sk_lstRgi : lstRgK (.int j) ⟨env, mu⟩ = if j < 16777216 ∧ -4611686018427387904 ≤ j then .ok (.lst (rngL 0 j.toNat)) ⟨env, mu⟩ else .no := rfl
def augTKk (g : D → D → Option O) (i : Nat) (mb : M O) (k : D) : M Fl := fun s2 => match dctS s2 i, tkeyD k with
    | some kvs, some ks => (match getTD ks kvs with
      | some v => (mb s2).bind fun oy s3 => (match g v oy.toD, getP s3 i with
        | some (.fz z), some (.dcu kvs3) => if kvs3.length < 16777216 then .ok .nx (putP s3 i (.dcu (putTD ks z kvs3))) else .no
        | _, _ => .no)
      | none => .no)
    | _, _ => .no
def augTKz (g : D → D → Option O) (i : Nat) (ks : List Key) (v : D) (oy : O) : M Fl := fun s3 => match g v oy.toD, getP s3 i with
        | some (.fz z), some (.dcu kvs3) => if kvs3.length < 16777216 then .ok .nx (putP s3 i (.dcu (putTD ks z kvs3))) else .no
        | _, _ => .no
theorem sk_augT : augTAt g i mk mb ⟨env, mu⟩ = (match dctS ⟨env, mu⟩ i with | some _ => (mk ⟨env, mu⟩).bind (augTKk g i mb) | none => .no) := by
  unfold augTAt
  cases dctS ⟨env, mu⟩ i <;> rfl
theorem sk_augT2 {a b : Int} : augTKk g i mb (.tup [.int a, .int b]) ⟨env, mu⟩ = (match dctS ⟨env, mu⟩ i with | some kvs => (match getTD [.inl a, .inl b] kvs with | some v => (mb ⟨env, mu⟩).bind (augTKz g i [.inl a, .inl b] v) | none => .no) | none => .no) := by
  unfold augTKk
  cases dctS ⟨env, mu⟩ i <;> rfl
theorem sk_augTz {ks : List Key} {v : D} {oy : O} : augTKz g i ks v oy ⟨env, mu⟩ = (match g v oy.toD with | some (.fz z) => (match getP ⟨env, mu⟩ i with | some (.dcu kvs3) => if kvs3.length < 16777216 then .ok .nx (putP ⟨env, mu⟩ i (.dcu (putTD ks z kvs3))) else .no | _ => .no) | _ => .no) := by
  unfold augTKz
  cases g v oy.toD with
  | none => rfl
  | some o =>
    cases o with
    | fz z =>
      dsimp only
      cases getP ⟨env, mu⟩ i with
      | none => rfl
      | some o => cases o <;> rfl
    | _ => rfl
def drK (o : O) : M O := fun s => match derO s.mu o with
  | some o' => .ok o' s
  | none => .no
theorem sk_dr : xDr m ⟨env, mu⟩ = (m ⟨env, mu⟩).bind drK := rfl
def opDk (g : D → D → Option O) (x : D) (y : O) : M O := fun s => match derO s.mu (.fz x) with
  | some ox => ofO (g ox.toD y.toD) s
  | none => .no
theorem sk_opD : xOpD g ma mb ⟨env, mu⟩ = (ma ⟨env, mu⟩).bind fun x => bnd mb (opDk g x) := rfl
theorem sk_opDk {y : O} : opDk g d y ⟨env, mu⟩ = (match derO mu (.fz d) with | some ox => ofO (g ox.toD y.toD) ⟨env, mu⟩ | none => .no) := rfl
theorem sk_der : derO mu (.fz (.cel n)) = getM mu n := rfl
theorem sk_forC : sForC mi t mbd ⟨env, mu⟩ = (mi ⟨env, mu⟩).bind fun p => forCL p.1 p.2.1 t mbd p.2.2 := rfl
def celK' (d : D) : M Cw := fun s => match d with
  | .cel n => (match getM s.mu n with
    | some (.lst ds) => .ok (n, .lst ds, ds) s
    | _ => .no)
  | _ => .no
theorem sk_mCel : mCel md ⟨env, mu⟩ = (md ⟨env, mu⟩).bind celK' := rfl
theorem sk_mCelk : celK' (.cel n) ⟨env, mu⟩ = (match getM mu n with | some (.lst ds) => .ok (n, .lst ds, ds) ⟨env, mu⟩ | _ => .no) := rfl
def enCk (l : List D) : M Cw := fun s => match l with
  | [.cel n] => (match getM s.mu n with
    | some (.lst ds) => .ok (n, .lst ds, numD 0 ds) s
    | _ => .no)
  | _ => .no
theorem sk_mEnC : mEnC mal ⟨env, mu⟩ = (mal ⟨env, mu⟩).bind enCk := rfl
theorem sk_mEnCk : enCk [.cel n] ⟨env, mu⟩ = (match getM mu n with | some (.lst ds) => .ok (n, .lst ds, numD 0 ds) ⟨env, mu⟩ | _ => .no) := rfl
end
/-! a slot's thing made a cell; pop; lists compared with [] -/
section
variable {env : List (Option O)} {mu : List O} {i n : Nat} {m : M Fl} {me : M O} {neg : Bool} {k : Int} {o o' o2 : O} {d : D} {xs : List D} {kvs : List (D × D)} {c : Str} {fs : List (Str × O)}
theorem sk_cel : sCel i m ⟨env, mu⟩ = (m ⟨env, mu⟩).bind (celK i) := rfl
theorem sk_celn : celK i .nx ⟨env, mu⟩ = (match getS env i with | some o => if cellO o = true then .ok .nx ⟨setS env i (some (.fz (.cel mu.length))), mu ++ [o]⟩ else .no | none => .no) := rfl
theorem sk_celr : celK i (.rt o) ⟨env, mu⟩ = .ok (.rt o) ⟨env, mu⟩ := rfl
theorem sk_col : cellO (.lst xs) = true := rfl
theorem sk_cod : cellO (.dct kvs) = true := rfl
theorem sk_cou : cellO (.dcu kvs) = true := rfl
theorem sk_coi : cellO (.ins c fs) = true := rfl
def popLK (i n : Nat) (o : O) : M O := fun s1 => (match getS s1.env i, getM s1.mu n, o.toD with
      | some (.fz (.cel n')), some (.lst xs), .int k => if n' = n ∧ -(2 ^ 63) ≤ k ∧ k < 2 ^ 63 then (match seqIndex? k xs.length with
        | some j => (match xs[j]? with
          | some y => .ok (.fz y) ⟨s1.env, setM s1.mu n (.lst (xs.eraseIdx j))⟩
          | none => .no)
        | none => .no) else .no
      | _, _, _ => .no)
theorem sk_pop : xPop i me ⟨env, mu⟩ = (match getS env i with | some (.fz (.cel n)) => (match getM mu n with | some (.lst _) => (me ⟨env, mu⟩).bind (popLK i n) | _ => .no) | _ => .no) := rfl
theorem sk_popi : popLK i n (.fz (.int k)) ⟨env, mu⟩ = (match getS env i with | some (.fz (.cel n')) => (match getM mu n with | some (.lst xs) => (if n' = n ∧ -9223372036854775808 ≤ k ∧ k < 9223372036854775808 then (match seqIndex? k xs.length with | some j => (match xs[j]? with | some y => .ok (.fz y) ⟨env, setM mu n (.lst (xs.eraseIdx j))⟩ | none => .no) | none => .no) else .no) | _ => .no) | _ => .no):= by
  unfold popLK
  rw [st_tdf]
  cases getS env i with
  | none => rfl
  | some a => cases a with
    | fz d => cases d with
      | cel n' => cases getM mu n with
        | none => rfl
        | some b => cases b <;> rfl
      | _ => rfl
    | _ => rfl
theorem sk_nilD : nilD neg (.lst xs) (.lst []) = some (.fz (.bl (xs.isEmpty != neg))) := rfl
theorem sk_nil : xNil neg i ⟨env, mu⟩ = (match getS env i with | some (.fz (.cel n)) => (match getM mu n with | some (.lst xs) => .ok (.fz (.bl (xs.isEmpty != neg))) ⟨env, mu⟩ | _ => .no) | _ => .no) := rfl
theorem gap1 : ∀ (mu : List O) (o : O), getM (mu ++ [o]) mu.length = some o
  | [], _ => rfl
  | _ :: mu, o => gap1 mu o
theorem sk_gap : getM (mu ++ [o]) mu.length = some o := gap1 mu o
theorem sap1 : ∀ (mu : List O) (o o' : O), setM (mu ++ [o]) mu.length o' = mu ++ [o']
  | [], _, _ => rfl
  | x :: mu, o, o' => by show x :: setM (mu ++ [o]) mu.length o' = _; rw [sap1 mu o o']; rfl
theorem sk_sap : setM (mu ++ [o]) mu.length o' = mu ++ [o'] := sap1 mu o o'
theorem gap2 : ∀ (mu : List O) (o o2 : O), getM (mu ++ [o] ++ [o2]) mu.length = some o
  | [], _, _ => rfl
  | _ :: mu, o, o2 => gap2 mu o o2
theorem sk_gap2 : getM (mu ++ [o] ++ [o2]) mu.length = some o := gap2 mu o o2
theorem sap2 : ∀ (mu : List O) (o o2 o' : O), setM (mu ++ [o] ++ [o2]) mu.length o' = mu ++ [o'] ++ [o2]
  | [], _, _, _ => rfl
  | x :: mu, o, o2, o' => by show x :: setM (mu ++ [o] ++ [o2]) mu.length o' = _; rw [sap2 mu o o2 o']; rfl
theorem sk_sap2 : setM (mu ++ [o] ++ [o2]) mu.length o' = mu ++ [o'] ++ [o2] := sap2 mu o o2 o'
end
/-! ### rules -/
section
variable {env : List (Option O)} {mu : List O} {vs : List Nat} {t : MT} {mt : M Bool} {me : M D} {mi : M Cw} {n : Nat} {o : O} {ds : List D}
noncomputable def lcCK (vs : List Nat) (t : MT) (mt : M Bool) (me : M D) (p : Cw) : M O := fun s => if freeE s.env vs = true ∧ p.2.2.length ≤ 16777216 then
  (noExc (lcCL p.1 p.2.1 vs t mt me p.2.2 ⟨wipeE s.env vs, s.mu⟩)).bind (lcB s.env vs) else .no
theorem sk_lcC : xLcC vs mi t mt me ⟨env, mu⟩ = (mi ⟨env, mu⟩).bind (lcCK vs t mt me) := rfl
theorem sk_lcCK : lcCK vs t mt me (n, o, ds) ⟨env, mu⟩ = if freeE env vs = true ∧ ds.length ≤ 16777216 then (noExc (lcCL n o vs t mt me ds ⟨wipeE env vs, mu⟩)).bind (lcB env vs) else .no := rfl
end
end L2.Tr
namespace L2.Tr
open PySem PySem.Spec PyProof.Rows L2 L2.Pc
/-! ### sorted(t), t a tuple of texts -/
/-! ### len(set(xs)), xs a list of numbers -/
def dedI (ns : List Int) : List Int := firstMet (fun i => ns.getD i 0) ns.length
theorem ded_len (ns : List Int) : (dedI ns).length ≤ ns.length := firstMet_length_le _ _
def lenSetID : D → Option O
  | .lst ds => match allM intD' ds with
    | some ns => if ns.length ≤ 1000 then some (.fz (.int ((dedI ns).length : Int))) else none
    | none => none
  | _ => none
def tLenSetJ (K : PySem.W.Frag) (ta : TE) : TE := fun σ H Q => ta σ H fun x H1 => ∃ (l : Addr) (ns : List Int), x = V.ref l ∧ SqL K H1 l (ns.map V.int) ∧ ns.length ≤ 1000 ∧ Q (.int (dedI ns).length) H1
section
variable {X : Cx} {G : Gi} {W : WX} {a : Expr} {m : M O} {p p2 q pos : Pos} {ta : TE}
theorem pe_lenSetJ (hc : X.calm = true) (hg : Gl X "len") (hm : X.mg "len" = none) (hg2 : Gl X "set") (hm2 : X.mg "set" = none) (ha : PE X a ta)
    (na : starEach [a] X.env = (false, eval a X.env) :: starEach [] X.env := by rfl) : PE X (.Call (.Name "len" p) [.Call (.Name "set" p2) [a] [] q] [] pos) (tLenSetJ X.K ta) := by
  refine ⟨fun pins s σ H Q I h => ?_⟩
  refine Call_ (ld_blt I hg hm PySem.boot_len ?_)
  refine PyProof.Rows.callWith_builtin1 (PyProof.Rows.args_cons ?_ rfl) rfl rfl
  refine Call_ (ld_blt I hg2 hm2 PyProof.Rows.boot_set ?_)
  refine PyProof.Rows.callWith_type1 (PyProof.Rows.args_cons (thn (ha.run pins s σ H _ I h) fun v s1 ⟨x, H1, I1, r1, q1⟩ => PyProof.Rows.args_nil ?_) na) na rfl
  obtain ⟨l, ns, rfl, hq, h1, q1⟩ := q1
  cases r1
  obtain ⟨its, r, pl, hz⟩ := I1.list hq
  have hl : its.toArray.size = ns.length := by rw [List.size_toArray, ← r.length, List.length_map]
  refine call_set_list (I1.ok.hd hc) pl.isList (ns := ns) (by simpa using r.ints) (by unfold scanBound; omega) fun h' tk hS hk => ?_
  rw [hl] at hS
  refine PyProof.Rows.args_nil ?_
  obtain ⟨o, es, ep, t, ho, hex, hd, _, _, _, hf, hn⟩ := hS
  have I2 : Inv X pins σ H1 { s1 with heap := h', toks := tk } := I1.kept fun b o e => hk b o (Heap.lt_size e) e
  have hd2 := ded_len ns
  unfold dedI at hd2
  refine call_len_set ho hex hd hf (by rw [hn] <;> omega) ⟨.int (dedI ns).length, H1, I2.tok _, ⟨_, by rw [hn]; rfl⟩, q1⟩
theorem x_lenSetI (hK : X.K = G.K) (hc : X.calm = true) (hg : Gl X "len") (hm : X.mg "len" = none) (hg2 : Gl X "set") (hm2 : X.mg "set" = none) (ha : PE X a (tLa G W m))
    (na : starEach [a] X.env = (false, eval a X.env) :: starEach [] X.env := by rfl) : PE X (.Call (.Name "len" p) [.Call (.Name "set" p2) [a] [] q] [] pos) (tO G W (xUn lenSetID m)) :=
  (pe_lenSetJ hc hg hm hg2 hm2 ha na).weak fun σ H Q z => by
    have d : UnD G (fun x H Q => ∃ (l : Addr) (ns : List Int), x = V.ref l ∧ SqL G.K H l (ns.map V.int) ∧ ns.length ≤ 1000 ∧ Q (.int (dedI ns).length) H) lenSetID := by
      intro st σ c x ox fx o Q r tx e q
      have vx := own_view r tx
      generalize ox.toD = dx at *
      unfold lenSetID at e
      split at e
      · obtain ⟨a, xs, rfl, hx, rx⟩ := vx
        split at e
        · rename_i ns hs
          split at e
          · rename_i hl
            cases e
            have ed := allM_map (g := .int) (fun d x h => intD_some h) hs
            subst ed
            have ex := rpA_intsY rx
            subst ex
            exact ⟨a, ns, rfl, .inl (.inl hx), hl, fin r (.int _) q⟩
          · cases e
        · cases e
      · cases e
    unfold tLenSetJ
    rw [hK]
    exact un_t d z
end
theorem sk_nnt {ds : List D} : isNon (.tup ds) = false := rfl
theorem sk_nnl {ds : List D} : isNon (.lst ds) = false := rfl
theorem sk_nni {c : Str} {fs : List (Str × D)} : isNon (.ins c fs) = false := rfl
theorem sk_nnb {b : Bool} : isNon (.bl b) = false := rfl
end L2.Tr
namespace L2.Tr
open PySem PySem.Spec PyProof.Rows L2 L2.Pc
/-! {k: e}, e any expression -/
def xDispK (fk : S → Option D) (md : M D) : M O := fun s => match fk s with
  | some kd => (match keyOfD kd with
    | some _ => (md s).bind fun d => ret (.dct [(kd, d)])
    | none => .no)
  | none => .no
/-! bool(x) -/
def boolD : D → Option O
  | .int i => some (.fz (.bl (i != 0)))
  | .bl b => some (.fz (.bl b))
  | _ => none
section
variable {env : List (Option O)} {mu : List O} {x : Str} {md : M D} {i : Int}
theorem sk_booli : boolD (.int i) = some (.fz (.bl (i != 0))) := rfl
theorem sk_dispK : xDispK (fun _ => some (.str x)) md ⟨env, mu⟩ = (md ⟨env, mu⟩).bind fun d => ret (.dct [(.str x, d)]) := rfl
end
end L2.Tr
namespace L2
open PySem PySem.Spec PyProof.Rows
/-! ### setdefault, tuple keys -/
end L2
namespace L2.Tr
open PySem PySem.Spec PyProof.Rows L2 L2.Pc
/-! ### dicts with tuple keys whose entries are owned -/
def getV (ks : List Key) : List (D × O) → Option O
  | [] => none
  | (d, o) :: r => if tkeyD d = some ks then some o else getV ks r
/-- the first entry of a key exchanged -/
def setV (ks : List Key) (o' : O) : List (D × O) → List (D × O)
  | [] => []
  | (d, o) :: r => if tkeyD d = some ks then (d, o') :: r else (d, o) :: setV ks o' r
section
variable {X : Cx} {G : Gi} {W : WX} {e e2 : Expr} {i : Nat} {x : Str} {px pos pos' apos apos2 cpos cpos2 lpos : Pos} {mk md : M D}
def sSd2 (i : Nat) (ks : List Key) (md : M D) : M Fl := fun s => match getS s.env i with
  | some (.dcv kvs) => (match getV ks kvs with
    | some (.lst _) => (md s).bind fun d s2 => (match getS s2.env i with
      | some (.dcv kvs2) => (match getV ks kvs2 with
        | some (.lst xs) => if xs.length < 16777216 then .ok .nx ⟨setS s2.env i (some (.dcv (setV ks (.lst (xs ++ [d])) kvs2))), s2.mu⟩ else .no
        | _ => .no)
      | _ => .no)
    | _ => .no)
  | _ => .no
/-- d.setdefault(k, []).append(e), k a tuple -/
def sSdApp (i : Nat) (mk md : M D) : M Fl := fun s => match getS s.env i with
  | some (.dcv _) => (mk s).bind fun k s1 => (match getS s1.env i, tkeyD k with
    | some (.dcv kvs), some ks => if kvs.length < 16777216 then (match getV ks kvs with
        | some _ => sSd2 i ks md s1
        | none => sSd2 i ks md ⟨setS s1.env i (some (.dcv (kvs ++ [(.tup (ks.map kD), .lst [])]))), s1.mu⟩) else .no
    | _, _ => .no)
  | _ => .no
theorem getS_setS : ∀ {env : List (Option O)} {i : Nat} {o x : O}, getS env i = some o → getS (setS env i (some x)) i = some x
  | [], i, _, _, h => by cases i <;> cases h
  | _ :: _, 0, _, _, _ => rfl
  | _ :: env, i + 1, _, _, h => getS_setS (env := env) (i := i) h
/-! steps -/
def sdK (i : Nat) (ks : List Key) (d : D) : M Fl := fun s2 => match getS s2.env i with
  | some (.dcv kvs2) => (match getV ks kvs2 with
    | some (.lst xs) => if xs.length < 16777216 then .ok .nx ⟨setS s2.env i (some (.dcv (setV ks (.lst (xs ++ [d])) kvs2))), s2.mu⟩ else .no
    | _ => .no)
  | _ => .no
def sdK2 (i : Nat) (md : M D) (k : D) : M Fl := fun s1 => match getS s1.env i, tkeyD k with
  | some (.dcv kvs), some ks => if kvs.length < 16777216 then (match getV ks kvs with
      | some _ => sSd2 i ks md s1
      | none => sSd2 i ks md ⟨setS s1.env i (some (.dcv (kvs ++ [(.tup (ks.map kD), .lst [])]))), s1.mu⟩) else .no
  | _, _ => .no
theorem sk_sdApp {env : List (Option O)} {mu : List O} : sSdApp i mk md ⟨env, mu⟩ = (match getS env i with | some (.dcv _) => (mk ⟨env, mu⟩).bind (sdK2 i md) | _ => .no) := rfl
theorem sk_sdK2 {env : List (Option O)} {mu : List O} {a b : Int} : sdK2 i md (.tup [.int a, .int b]) ⟨env, mu⟩ = (match getS env i with
    | some (.dcv kvs) => if kvs.length < 16777216 then (match getV [.inl a, .inl b] kvs with
      | some _ => sSd2 i [.inl a, .inl b] md ⟨env, mu⟩
      | none => sSd2 i [.inl a, .inl b] md ⟨setS env i (some (.dcv (kvs ++ [(.tup [.int a, .int b], .lst [])]))), mu⟩) else .no
    | _ => .no) := by
  unfold sdK2
  cases getS env i with
  | none => rfl
  | some o => cases o <;> rfl
theorem sk_sd2 {env : List (Option O)} {mu : List O} {ks : List Key} : sSd2 i ks md ⟨env, mu⟩ = (match getS env i with | some (.dcv kvs) => (match getV ks kvs with | some (.lst _) => (md ⟨env, mu⟩).bind (sdK i ks) | _ => .no) | _ => .no) := rfl
theorem sk_sdK {env : List (Option O)} {mu : List O} {ks : List Key} {d : D} : sdK i ks d ⟨env, mu⟩ = (match getS env i with
  | some (.dcv kvs2) => (match getV ks kvs2 with
    | some (.lst xs) => if xs.length < 16777216 then .ok .nx ⟨setS env i (some (.dcv (setV ks (.lst (xs ++ [d])) kvs2))), mu⟩ else .no
    | _ => .no)
  | _ => .no) := rfl
theorem sk_isv {kvs : List (D × O)} : isFz (.dcv kvs) = false := rfl
theorem sk_tdv {kvs : List (D × O)} : O.toD (.dcv kvs) = .dcu (O.toDk kvs) := by rw [O.toD]
end
/-! a list, or another one where it is empty -/
section
variable {X : Cx} {G : Gi} {W : WX} {a b : Expr} {ma mb : M O} {pos : Pos}
def orLK (mb : M O) (o : O) : M O := fun s => match o with
  | .lst xs => if xs.isEmpty = true then mb s else .ok (.lst xs) s
  | .fz (.lst xs) => if xs.isEmpty = true then mb s else .ok (.fz (.lst xs)) s
  | _ => .no
def xOrL (ma mb : M O) : M O := bnd ma (orLK mb)
theorem sk_orL {env : List (Option O)} {mu : List O} : xOrL ma mb ⟨env, mu⟩ = (ma ⟨env, mu⟩).bind (orLK mb) := rfl
theorem sk_orLo {env : List (Option O)} {mu : List O} {xs : List D} : orLK mb (.lst xs) ⟨env, mu⟩ = if xs.isEmpty = true then mb ⟨env, mu⟩ else .ok (.lst xs) ⟨env, mu⟩ := rfl
theorem sk_orLf {env : List (Option O)} {mu : List O} {xs : List D} : orLK mb (.fz (.lst xs)) ⟨env, mu⟩ = if xs.isEmpty = true then mb ⟨env, mu⟩ else .ok (.fz (.lst xs)) ⟨env, mu⟩ := rfl
end
end L2.Tr
namespace L2.Tr
open PySem PySem.Spec PyProof.Rows L2 L2.Pc
/-! ### repr of a tuple of tuples of own instances and of data -/
/-- an own instance lies in it -/
inductive UnH (H : Hp) : Addr → Prop
  | ins {a C dx : Addr} {fs : List (Str × V)} : H a = some (.ins C dx fs) → UnH H a
  | tup {a b : Addr} {vs : List V} : H a = some (.tup vs) → V.ref b ∈ vs → UnH H b → UnH H a
theorem readsAll_mem {h : Heap} : ∀ {vs : List Value} {ds : List PyData} {as : List Addr}, ReadsAll h vs ds as → ∀ v ∈ vs, ∃ d as', Reads h v d as'
  | _, _, _, .nil, v, hv => by cases hv
  | _, _, _, .cons r rs, v, hv => by
    rcases List.mem_cons.mp hv with e | hv
    · subst e; exact ⟨_, _, r⟩
    · exact readsAll_mem rs v hv
theorem vals_mem : ∀ {vs : List V} {us : List Value} {b : Addr}, Vals vs us → V.ref b ∈ vs → Value.ref b ∈ us
  | _, _, _, .nil, h => by cases h
  | _, _, _, .cons r rs, h => by
    rcases List.mem_cons.mp h with e | h
    · subst e; cases r; exact List.mem_cons_self
    · exact List.mem_cons_of_mem _ (vals_mem rs h)
section
variable {X : Cx} {pins : List (Addr × Obj)} {σ : L2.St} {H : Hp} {s : Shared} {G : Gi}
theorem UnH.no (I : Inv X pins σ H s) {a : Addr} (u : UnH H a) : ∀ d as, ¬ Reads s.heap (.ref a) d as := by
  induction u with
  | ins h =>
    intro d as r
    obtain ⟨mA, J, _⟩ := ins_get I.hok h
    obtain ⟨od, J, _⟩ := J.look
    have ho := J.at_
    have hc := J.cls
    cases r with
    | list h1 h2 h3 h4 => rw [ho] at h1; cases h1; rw [hc] at h2; cases h2
    | tuple h1 h2 h3 h4 => rw [ho] at h1; cases h1; rw [hc] at h2; cases h2
    | dict h1 h2 h3 h4 h5 => rw [ho] at h1; cases h1; rw [hc] at h2; cases h2
  | tup h m u ih =>
    intro d as r
    obtain ⟨its, rv, ⟨o, ho, hc, n, hd⟩, _⟩ := I.tuple (.inl (.inl h))
    cases r with
    | list h1 h2 h3 h4 => rw [ho] at h1; cases h1; rw [hc] at h2; exact absurd h2 (by decide)
    | tuple h1 h2 h3 h4 =>
      rw [ho] at h1; cases h1
      rw [hd] at h3; cases h3
      obtain ⟨d', as', r'⟩ := readsAll_mem h4 _ (by simpa using vals_mem rv m)
      exact ih d' as' r'
    | dict h1 h2 h3 h4 h5 => rw [ho] at h1; cases h1; rw [hc] at h2; exact absurd h2 (by decide)
end
/-! ### a method whose text is that of a field's data, within builtin reprs -/
section
variable {X : Cx} {G : Gi} {W : WX} {k : Nat} {tbl : List (Str × MF)} {tp : List (Str × (Str × Str × Str))} {md : M D} {x : Str} {p pos : Pos} {e : Expr}
abbrev phTx (p : Str × Str × Str) (y : Str) : Str := Str.empty ++ p.1 ++ y ++ p.2.2
/-- instances' texts by their own methods, or by a field's data -/
def jM (tbl : List (Str × MF)) (tp : List (Str × (Str × Str × Str))) : List D → Nat → M (List Str)
  | [], _ => ret []
  | d :: ds, n => fun s => match insOf d with
    | some c => (match tbl.lookup c with
      | some mf => (match noExc (runF mf [d] s) with
        | .ok (.fz (.str y)) s' => if n + (y.length + 2) ≤ 16777000 then (jM tbl tp ds (n + (y.length + 2)) s').bind fun ts => ret (y :: ts) else .no
        | _ => .no)
      | none => (match tp.lookup c with
        | some p => (match d with
          | .ins _ fs => (match fs.lookup p.2.1 with
            | some (.tup rs) => (match reprD (.tup rs) with
              | some (.fz (.str y)) => if n + ((phTx p y).length + 2) ≤ 16777000 then (jM tbl tp ds (n + ((phTx p y).length + 2)) s).bind fun ts => ret (phTx p y :: ts) else .no
              | _ => .no)
            | _ => .no)
          | _ => .no)
        | none => .no))
    | none => .no
def hasIns : D → Bool
  | .tup (.ins _ _ :: _) => true
  | _ => false
def tlD : D → Bool
  | .tup _ => true
  | .lst _ => true
  | _ => false
def oM (tbl : List (Str × MF)) (tp : List (Str × (Str × Str × Str))) : List D → Nat → M (List Str)
  | [], _ => ret []
  | d :: ds, n => if hasIns d = true then (match d with
      | .tup es => if n + 1 ≤ 16777000 then bnd (jM tbl tp es (n + 1)) fun ts => if n + ((tupleText ts).length + 2) ≤ 16777000 then bnd (oM tbl tp ds (n + ((tupleText ts).length + 2))) fun us => ret (tupleText ts :: us) else fun _ => .no
        else fun _ => .no
      | _ => fun _ => .no)
    else match reprD d with
      | some (.fz (.str y)) => if n + (y.length + 2) ≤ 16777000 then bnd (oM tbl tp ds (n + (y.length + 2))) fun us => ret (y :: us) else fun _ => .no
      | _ => fun _ => .no
def reprXK (tbl : List (Str × MF)) (tp : List (Str × (Str × Str × Str))) : D → M O
  | .tup ds => if ds.any hasIns = true ∧ ds.all tlD = true then bnd (oM tbl tp ds 0) fun ts => ret (.fz (.str (tupleText ts))) else fun s => ofO (reprD (.tup ds)) s
  | d => fun s => ofO (reprD d) s
/-- repr of things, of tuples of instances among them -/
def xReprX (tbl : List (Str × MF)) (tp : List (Str × (Str × Str × Str))) (md : M D) : M O := bnd md (reprXK tbl tp)
theorem UnH.mo {F F' : Hp} (e : ∀ a o, F a = some o → dictO o = false → F' a = some o) {a : Addr} (u : UnH F a) : UnH F' a := by
  induction u with
  | ins h => exact .ins (e _ _ h rfl)
  | tup h m u ih => exact .tup (e _ _ h rfl) m ih
end
theorem sk_reprX {tbl : List (Str × MF)} {tp : List (Str × (Str × Str × Str))} {md : M D} {env : List (Option O)} {mu : List O} : xReprX tbl tp md ⟨env, mu⟩ = (md ⟨env, mu⟩).bind (reprXK tbl tp) := rfl
end L2.Tr
namespace L2
open PySem PySem.Spec PyProof.Rows
/-! ### sorted(xs), xs a list of tuples of numbers and texts -/
def isT : Key → Bool
  | .inl _ => false
  | .inr _ => true
end L2
namespace L2.Tr
open PySem PySem.Spec PyProof.Rows L2 L2.Pc
/-! ### d.setdefault(k, e), k a tuple -/
section
variable {X : Cx} {G : Gi} {W : WX} {e e2 : Expr} {i : Nat} {x : Str} {px pos apos cpos : Pos} {mk md : M D}
/-- d.setdefault(k, e) as a statement -/
def sSdT (i : Nat) (mk md : M D) : M Fl := fun s => match getS s.env i with
  | some (.dcu _) => (mk s).bind fun k s1 => (md s1).bind fun d s2 => (match getS s2.env i, tkeyD k with
    | some (.dcu kvs), some ks => if kvs.length < 16777216 then (match getTD ks kvs with
        | some _ => .ok .nx s2
        | none => .ok .nx ⟨setS s2.env i (some (.dcu (putTD ks d kvs))), s2.mu⟩) else .no
    | _, _ => .no)
  | _ => .no
end
/-! steps -/
section
variable {env : List (Option O)} {mu : List O} {mk md : M D} {i : Nat} {neg : Bool} {a b : Str} {d : D}
theorem sk_inTs : inTK neg i (.tup [.str a, .str b]) ⟨env, mu⟩ = (match dctS ⟨env, mu⟩ i with | some kvs => .ok (.fz (.bl ((getTD [.inr a, .inr b] kvs).isSome != neg))) ⟨env, mu⟩ | none => .no) := by unfold inTK; cases dctS ⟨env, mu⟩ i <;> rfl
theorem sk_ixTs : ixTK i (.tup [.str a, .str b]) ⟨env, mu⟩ = (match dctS ⟨env, mu⟩ i with | some kvs => ofO ((getTD [.inr a, .inr b] kvs).map .fz) ⟨env, mu⟩ | none => .no) := by unfold ixTK; cases dctS ⟨env, mu⟩ i <;> rfl
theorem sk_putTs : putTAt i d (.tup [.str a, .str b]) ⟨env, mu⟩ = (match getP ⟨env, mu⟩ i with | some (.dcu kvs) => if kvs.length < 16777216 then .ok .nx (putP ⟨env, mu⟩ i (.dcu (putTD [.inr a, .inr b] d kvs))) else .no | _ => .no) := by unfold putTAt; cases getP ⟨env, mu⟩ i with | none => rfl | some o => cases o <;> rfl
theorem sk_getTs : getTK i (.tup [.str a, .str b]) d ⟨env, mu⟩ = (match dctS ⟨env, mu⟩ i with | some kvs => .ok (.fz ((getTD [.inr a, .inr b] kvs).getD d)) ⟨env, mu⟩ | none => .no) := by unfold getTK; cases dctS ⟨env, mu⟩ i <;> rfl
def sdTK (i : Nat) (k d : D) : M Fl := fun s2 => match getS s2.env i, tkeyD k with
    | some (.dcu kvs), some ks => if kvs.length < 16777216 then (match getTD ks kvs with
        | some _ => .ok .nx s2
        | none => .ok .nx ⟨setS s2.env i (some (.dcu (putTD ks d kvs))), s2.mu⟩) else .no
    | _, _ => .no
theorem sk_sdT : sSdT i mk md ⟨env, mu⟩ = (match getS env i with | some (.dcu _) => (mk ⟨env, mu⟩).bind fun k => bnd md (sdTK i k) | _ => .no) := rfl
theorem sk_sdTs : sdTK i (.tup [.str a, .str b]) d ⟨env, mu⟩ = (match getS env i with
    | some (.dcu kvs) => if kvs.length < 16777216 then (match getTD [.inr a, .inr b] kvs with
        | some _ => .ok .nx ⟨env, mu⟩
        | none => .ok .nx ⟨setS env i (some (.dcu (putTD [.inr a, .inr b] d kvs))), mu⟩) else .no
    | _ => .no) := by
  unfold sdTK
  cases getS env i with
  | none => rfl
  | some o => cases o <;> rfl
theorem sk_lcTk {vs : List Nat} {t : MT} {mt : M Bool} {me : M D} : xLcT i vs t mt me ⟨env, mu⟩ = (match getS env i with
    | some (.dcu kvs) => lcK vs t mt me (kvs.map (·.1)) ⟨setS env i (some (.fz (.dcu kvs))), mu⟩
    | some (.fz (.dcu kvs)) => lcK vs t mt me (kvs.map (·.1)) ⟨env, mu⟩
    | _ => .no) := by
  unfold xLcT frzS
  cases h : getS env i with
  | none =>
    show (mKeysT i ⟨env, mu⟩).bind _ = _
    unfold mKeysT
    dsimp only
    rw [h]; rfl
  | some o =>
    cases o with
    | dcu kvs =>
      show (mKeysT i ⟨setS env i (some (.fz (.dcu kvs))), mu⟩).bind _ = _
      unfold mKeysT
      dsimp only
      rw [getS_setS h]; rfl
    | fz d =>
      cases d with
      | dcu kvs =>
        show (mKeysT i ⟨env, mu⟩).bind _ = _
        unfold mKeysT
        dsimp only
        rw [h]; rfl
      | _ =>
        show (mKeysT i ⟨env, mu⟩).bind _ = _
        unfold mKeysT
        dsimp only
        rw [h]; rfl
    | _ =>
      show (mKeysT i ⟨env, mu⟩).bind _ = _
      unfold mKeysT
      dsimp only
      rw [h]; rfl
end
end L2.Tr
namespace L2.Tr
open PySem PySem.Spec PyProof.Rows L2 L2.Pc
/-! ### dict([(t, []) for t in xs]): a dict of new lists -/
structure Mk (H1 H' : Hp) (L : Addr) (ks : List Key) (ps qs : List Addr) (kvs : List (Key × V)) : Prop where
  eL : H' L = some (.lst (qs.map V.ref))
  eq : Paired (fun q kv => H' q = some (.tup [kV kv.1, kv.2])) qs kvs
  e1 : kvs.map (·.1) = ks
  e2 : kvs.map (·.2) = ps.map V.ref
  ep : ∀ p ∈ ps, H' p = some (.lst [])
  nd : ps.Nodup
  nL : L ∉ ps
  nq : L ∉ qs
  no : ∀ p ∈ ps, H1 p = none
  nl : H1 L = none
  fr : ∀ a, H1 a ≠ none → H' a = H1 a
/-- dict([(t, []) for t in xs]), xs a list of texts that stands in a slot -/
def xDictL (j v : Nat) : M O := fun s => match getS s.env j with
  | some o => (match o.toD with
    | .lst ds => (match allM strD' ds with
      | some ss => if ss.Nodup ∧ ss.length ≤ 16777215 ∧ v < s.env.length then .ok (.dco (ss.map fun s => (.str s, .lst []))) s else .no
      | none => .no)
    | _ => .no)
  | none => .no
/-! ### d[k].append(e), the entries of d its own lists -/
section
variable {X : Cx} {G : Gi} {W : WX} {e e2 : Expr} {i : Nat} {x : Str} {px pos pos2 apos cpos : Pos} {mk md : M D}
def sDa2 (i : Nat) (k : Str) (md : M D) : M Fl := fun s => match getS s.env i with
  | some (.dco kvs) => (match getK k kvs with
    | some (.lst _) => (md s).bind fun d s2 => (match getS s2.env i with
      | some (.dco kvs2) => (match getK k kvs2 with
        | some (.lst xs) => if xs.length < 16777216 then .ok .nx ⟨setS s2.env i (some (.dco (setK k (.lst (xs ++ [d])) kvs2))), s2.mu⟩ else .no
        | _ => .no)
      | _ => .no)
    | _ => .no)
  | _ => .no
def daK (i : Nat) (md : M D) (k : D) : M Fl := fun s1 => match k with
  | .str x => sDa2 i x md s1
  | _ => .no
/-- d[k].append(e), k a text -/
def sDaApp (i : Nat) (mk md : M D) : M Fl := fun s => match getS s.env i with
  | some (.dco _) => (mk s).bind (daK i md)
  | _ => .no
/-! ### d.setdefault(k, e), k a text or a number -/
def sSdKy (i : Nat) (mk md : M D) : M Fl := fun s => match getS s.env i with
  | some (.dct _) => (mk s).bind fun k s1 => (md s1).bind fun d s2 => (match getS s2.env i, keyOfD k with
    | some (.dct kvs), some ks => if kvs.length < 16777216 then (match getKD ks kvs with
        | some _ => .ok .nx s2
        | none => .ok .nx ⟨setS s2.env i (some (.dct (putKD ks d kvs))), s2.mu⟩) else .no
    | _, _ => .no)
  | _ => .no
end
/-! {k: e}, both any expressions -/
def dispGK (md : M D) (k : D) : M O := match keyOfD k with
  | some _ => bnd md fun d => ret (.dct [(k, d)])
  | none => fun _ => .no
def xDispG (mk md : M D) : M O := bnd mk (dispGK md)
/-! steps -/
section
variable {env : List (Option O)} {mu : List O} {mk md : M D} {i j v : Nat} {x : Str} {d : D}
theorem sk_dispG : xDispG mk md ⟨env, mu⟩ = (mk ⟨env, mu⟩).bind (dispGK md) := rfl
theorem sk_dispGs : dispGK md (.str x) ⟨env, mu⟩ = (md ⟨env, mu⟩).bind fun d => ret (.dct [(.str x, d)]) := rfl
theorem sk_dictL : xDictL j v ⟨env, mu⟩ = (match getS env j with
  | some o => (match o.toD with
    | .lst ds => (match allM strD' ds with
      | some ss => if ss.Nodup ∧ ss.length ≤ 16777215 ∧ v < env.length then .ok (.dco (ss.map fun s => (.str s, .lst []))) ⟨env, mu⟩ else .no
      | none => .no)
    | _ => .no)
  | none => .no) := rfl
theorem sk_daApp : sDaApp i mk md ⟨env, mu⟩ = (match getS env i with | some (.dco _) => (mk ⟨env, mu⟩).bind (daK i md) | _ => .no) := rfl
def da3 (i : Nat) (x : Str) (d : D) : M Fl := fun s2 => match getS s2.env i with
      | some (.dco kvs2) => (match getK x kvs2 with
        | some (.lst xs) => if xs.length < 16777216 then .ok .nx ⟨setS s2.env i (some (.dco (setK x (.lst (xs ++ [d])) kvs2))), s2.mu⟩ else .no
        | _ => .no)
      | _ => .no
theorem sk_daKs : daK i md (.str x) ⟨env, mu⟩ = (match getS env i with
  | some (.dco kvs) => (match getK x kvs with
    | some (.lst _) => (md ⟨env, mu⟩).bind (da3 i x)
    | _ => .no)
  | _ => .no) := rfl
theorem sk_da3 : da3 i x d ⟨env, mu⟩ = (match getS env i with
      | some (.dco kvs2) => (match getK x kvs2 with
        | some (.lst xs) => if xs.length < 16777216 then .ok .nx ⟨setS env i (some (.dco (setK x (.lst (xs ++ [d])) kvs2))), mu⟩ else .no
        | _ => .no)
      | _ => .no) := rfl
def sdKyK (i : Nat) (k d : D) : M Fl := fun s2 => match getS s2.env i, keyOfD k with
    | some (.dct kvs), some ks => if kvs.length < 16777216 then (match getKD ks kvs with
        | some _ => .ok .nx s2
        | none => .ok .nx ⟨setS s2.env i (some (.dct (putKD ks d kvs))), s2.mu⟩) else .no
    | _, _ => .no
theorem sk_sdKy : sSdKy i mk md ⟨env, mu⟩ = (match getS env i with | some (.dct _) => (mk ⟨env, mu⟩).bind fun k => bnd md (sdKyK i k) | _ => .no) := rfl
theorem sk_sdKys : sdKyK i (.str x) d ⟨env, mu⟩ = (match getS env i with
    | some (.dct kvs) => if kvs.length < 16777216 then (match getKD (.inr x) kvs with
        | some _ => .ok .nx ⟨env, mu⟩
        | none => .ok .nx ⟨setS env i (some (.dct (putKD (.inr x) d kvs))), mu⟩) else .no
    | _ => .no) := by
  unfold sdKyK
  cases getS env i with
  | none => rfl
  | some o => cases o <;> rfl
theorem sk_isw {kvs : List (D × O)} : isFz (.dco kvs) = false := rfl
theorem sk_tdw {kvs : List (D × O)} : O.toD (.dco kvs) = .dct (O.toDk kvs) := by rw [O.toD]
end
end L2.Tr
namespace L2
open PySem PySem.Spec PyProof.Rows
/-! ### xs.remove(t), texts -/
end L2
namespace L2.Tr
open PySem PySem.Spec PyProof.Rows L2 L2.Pc
section
variable {X : Cx} {G : Gi} {W : WX} {e : Expr} {i : Nat} {x : Str} {px pos apos cpos : Pos} {md : M D}
def remSK (i : Nat) (d : D) : M Fl := fun s1 => match getP s1 i, d with
    | some (.lst xs), .str k => (match allM strD' xs with
      | some ns => if k ∈ ns then .ok .nx (putP s1 i (.lst ((ns.erase k).map .str))) else .no
      | none => .no)
    | _, _ => .no
/-- x.remove(t), x a list of texts -/
def sRemS (i : Nat) (md : M D) : M Fl := fun s => match getP s i with
  | some (.lst _) => (md s).bind (remSK i)
  | _ => .no
/-! sorted(d), d a dict with texts as keys -/
def xSrtKS (i : Nat) : M O := fun s => match getP s i with
  | some (.dct kvs) => (match allM strD' (kvs.map (·.1)) with
    | some ns => if ns.length < 64 then .ok (.lst ((isortB ltS ns).map .str)) s else .no
    | none => .no)
  | _ => .no
end
section
variable {env : List (Option O)} {mu : List O} {md : M D} {i : Nat} {x : Str}
theorem sk_remS : sRemS i md ⟨env, mu⟩ = (match getP ⟨env, mu⟩ i with | some (.lst _) => (md ⟨env, mu⟩).bind (remSK i) | _ => .no) := rfl
theorem sk_remSs : remSK i (.str x) ⟨env, mu⟩ = (match getP ⟨env, mu⟩ i with | some (.lst xs) => (match allM strD' xs with | some ns => if x ∈ ns then .ok .nx (putP ⟨env, mu⟩ i (.lst ((ns.erase x).map .str))) else .no | none => .no) | _ => .no) := by
  unfold remSK
  cases getP ⟨env, mu⟩ i with
  | none => rfl
  | some o => cases o <;> rfl
theorem sk_srtKS : xSrtKS i ⟨env, mu⟩ = (match getP ⟨env, mu⟩ i with | some (.dct kvs) => (match allM strD' (kvs.map (·.1)) with | some ns => if ns.length < 64 then .ok (.lst ((isortB ltS ns).map .str)) ⟨env, mu⟩ else .no | none => .no) | _ => .no) := rfl
end
end L2.Tr
namespace L2
open PySem PySem.Spec PyProof.Rows
/-! ### sorted(d), d a dict with tuples as keys -/
/-! ### d == {}, d != {} -/
end L2
namespace L2.Tr
open PySem PySem.Spec PyProof.Rows L2 L2.Pc
end L2.Tr
namespace L2
open PySem PySem.Spec PyProof.Rows
/-! ### an exception kept behind its suite -/
section
variable {X : Cx} {pins : List (Addr × Obj)} {σ : St} {H : Hp} {s : Shared}
theorem Inv.track {a : Addr} {oe : Obj} {vs : Array Value} (I : Inv X pins σ H s) (he : s.heap.get? a = some oe) (hd : oe.data = .fields vs) (hn : H a = none) (h0 : X.s_0.heap.get? a = none) (nL : a ≠ X.env.locals) (np : ∀ p ∈ X.pn ++ pins, p.1 ≠ a) :
    Inv X pins σ (upd H a (L2.Tr.xkH oe a)) s := by
  refine ⟨I.ok, I.os, I.bare, ⟨I.base.keep, I.base.slot, fun b u e n hx => ?_, I.base.there, fun b xs e => ?_, fun b o u e => ?_, fun b ps e => ?_⟩, I.loc, I.cell, ?_, fun x c e => ?_, fun p hp => ?_, fun b u e => ?_, I.len⟩
  · rw [upd_ne (fun z => by rw [z, h0] at e; cases e)]; exact I.base.free b u e n hx
  · have q := I.base.tups b xs e
    rw [upd_ne (ne_of_none q hn)]; exact q
  · have q := I.base.frzs b o u e
    rw [upd_ne (ne_of_none q hn)]; exact q
  · obtain ⟨m, q⟩ := I.base.tbls b ps e
    exact ⟨m, by rw [upd_ne (ne_of_none q hn)]; exact q⟩
  · rw [upd_ne (Ne.symm nL)]; exact I.free
  · obtain ⟨v, o, ho, hv⟩ := I.cell x c e
    rw [upd_ne (fun z => by rw [z, he] at ho; cases ho; rw [hd] at hv; cases hv)]
    exact I.freeC x c e
  · obtain ⟨q1, q2, q3⟩ := I.pin p hp
    exact ⟨q1, by rw [upd_ne (np p hp)]; exact q2, q3⟩
  · by_cases hb : b = a
    · subst hb
      rw [upd_same] at e
      cases e
      exact ⟨he, ⟨oe, he⟩, fun h1 h2 q k => k _ q⟩
    · rw [upd_ne hb] at e
      exact (I.hok b u e).stay (fun _ _ _ q => q) (fun c q => by rw [upd_ne (ne_of_none q hn)]; exact q) fun c ys q => by rw [upd_ne (ne_of_none q hn)]; exact q
/-- what is asked where the exception at a is kept -/
def keptD (D : Ends) (i : Nat) (a : Addr) (cls : Value) (d : Option Addr) : Ends where
  nx := fun σ' H' => ∀ oe vs, Zc cls d oe → oe.data = .fields vs → D.nx (σ'.set i none) (upd H' a (L2.Tr.xkH oe a))
  rt := fun v H' => ∀ oe vs, Zc cls d oe → oe.data = .fields vs → D.rt v (upd H' a (L2.Tr.xkH oe a))
  bk := fun σ' H' => ∀ oe vs, Zc cls d oe → oe.data = .fields vs → D.bk (σ'.set i none) (upd H' a (L2.Tr.xkH oe a))
  ct := fun σ' H' => ∀ oe vs, Zc cls d oe → oe.data = .fields vs → D.ct (σ'.set i none) (upd H' a (L2.Tr.xkH oe a))
def wKeep (K : PySem.W.Frag) (c : Value) (i : Nat) (ts : Addr → Value → Option Addr → TS) (Wout : WX) (D : Ends) : WX := fun cls d σ H =>
  ∃ b, PySem.W.exmOne K cls c = some b ∧ (b = true → ∀ a, H a = none → ts a cls d (keptD D i a cls d) (σ.set i (some (.ref a))) H) ∧ (b = false → Wout cls d σ H)
variable {x n : Str} {c : Value} {i : Nat} {body suite : List Stmt} {b₀ : Stmt} {np pos pos' : Pos} {tb : WX → TS} {ts : Addr → Value → Option Addr → TS} {Wout : WX}
theorem ps_tryKeep (hs : X.stack = X.env :: X.outer) (hf : X.env.frame = some X.env.locals) (hex : X.ex = []) (hN : X.N.Nodup) (hi : X.N[i]? = some n) (hln : X.env.kindOf n = some .local) (hc : Names X x c) (tk : Takes X Wout)
    (hb : ∀ (W : WX) (pn : List (Addr × Obj)) (xe : Value → Shared → Prop), Takes (X.tr pn xe) W → PassesOwn (model X.prog X.w) X.A X.env xe → PSs (X.tr pn xe) body (tb W))
    (hsu : ∀ (a : Addr) (oe : Obj) (cls : Value) (d : Option Addr) (pn : List (Addr × Obj)), Zc cls d oe → (∃ vs, oe.data = .fields vs) → PSs (X.suite a ((a, oe) :: pn)) (b₀ :: suite) (ts a cls d)) :
    PS X (.Try body [.ExceptHandler (some (.Name x np)) (some n) (b₀ :: suite) pos'] [] [] pos) (fun D σ H => tb (wKeep X.K c i ts Wout D) D σ H) := by
  refine ⟨fun pins s σ H D I0 h => ?_⟩
  have k0 := I0.ok
  have kfr : X.A.frames = some (X.env :: X.outer) := by rw [k0.frames, hs]
  have kloc : Loc X.env.scope n := .inl hln
  refine wpAny_Try_except (wpAny_mono ((hb (wKeep X.K c i ts Wout D) (X.pn ++ pins) (fun e t1 => wpAny (model X.prog X.w) X.A (noteFrame e X.env) (fun _ t2 => wpAny (model X.prog X.w) X.A (setFlight e none) (fun _ t3 =>
    wpAny (model X.prog X.w) X.A (handleBy e X.env [.ExceptHandler (some (.Name x np)) (some n) (b₀ :: suite) pos']) (SP X pins D) X.xe t3) X.xe t2) X.xe t1) (fun u t wx => ?_) PassesOwn.looking).run [] s σ H D (I0.toTry _) h) (fun fl t1 sp => ?_) (fun
    _ _ wx => wx))
  · obtain ⟨a, B, t0, pins', σ2, H2, cls, d, rfl, Jx, nb, up, sky, na, os, ag, b, w1, wy, wn⟩ := wx
    have J : Inv X pins σ2 H2 t0 := Jx.ofTry k0
    have sky2 : Sky B (X.env :: X.outer) a (Zc cls d) X.env.locals t.heap := by rw [← hs]; exact sky
    show wpAny _ X.A (noteFrame (.ref a) X.env) _ _ _
    refine Sky.land Zc.steady kfr hf sky2 fun g3 f3 up3 => ?_
    have J3 : Inv X pins σ2 H2 { t with heap := g3 } := J.landed nb f3.1 (up.trans up3) os ag
    obtain ⟨o3, v3, e3, z3, d3⟩ := f3.there
    have nofr : ∀ {g : Heap} {o : Obj} {vs : Array Value}, g.FunFrames B (X.env :: X.outer) → g.get? a = some o → o.data = .fields vs → a ∉ frs (X.env :: X.outer) := fun {g o vs} ff e dd m => by
      obtain ⟨_, o', e', hnf⟩ := ff.mem m
      rw [e] at e'
      cases e'
      exact hnf _ dd
    have nfr := nofr f3.2.2.1 e3 d3
    have aL : a ≠ X.env.locals := fun z => nfr (List.mem_filterMap.mpr ⟨X.env, List.mem_cons_self, by rw [hf, z]⟩)
    have aF : a ∉ X.fs := fun m => by
      obtain ⟨e, m2, q⟩ := List.mem_filterMap.mp m
      exact nfr (List.mem_filterMap.mpr ⟨e, List.mem_cons_of_mem _ m2, q⟩)
    have noB : ∀ o, t0.heap.get? a ≠ some o := fun o e => by
      have := nb a o e (by rw [hs]; exact nfr)
      rw [f3.2.1] at this
      cases this
    have n0 : X.s_0.heap.get? a = none := by
      cases e : X.s_0.heap.get? a with
      | none => rfl
      | some o =>
        obtain ⟨o', e'⟩ := J.base.there a o e (by rw [hex]; exact fun z => nomatch z)
        exact absurd e' (noB o')
    have npin : ∀ p ∈ X.pn ++ pins, p.1 ≠ a := fun p hp z => by
      have := (J.pin p hp).1
      rw [z] at this
      exact noB _ this
    have S3 := J3.suite e3 d3 na aL aF
    refine wpAny_handleBy_cons (codeAny_handlers_test ?_) (by intro q; cases q)
    have lty : PySem.W.Looks (model X.prog X.w) g3 (typeOf (.ref a)) cls := fun A Q E s k q => wpAny_typeOf_ref (k _ _ e3) (by rw [z3.1]; exact q)
    have lme := PySem.W.exm_one (M := model X.prog X.w) (J3.kIn) lty w1
    have tst : ∀ {Q : Value → Shared → Prop} {E : Value → Shared → Prop}, Q c { t with heap := g3 } → wpAny (model X.prog X.w) (X.A.mark (some (.ref a))) (eval (.Name x np) X.env) Q E { t with heap := g3 } := fun {Q E} q => by
      obtain ⟨hg, hdbg, hm | ⟨hm, hv, hnn⟩⟩ := hc
      · exact ld_glob (X := X.suite a ((a, o3) :: (X.pn ++ pins))) S3 hg hm q hdbg
      · exact ld_blt (X := X.suite a ((a, o3) :: (X.pn ++ pins))) S3 hg hm hv q hnn hdbg
    refine tst (lme.here ?_)
    cases b with
    | true =>
      refine codeAny_handlers_suite_as ?_
      refine HandSPX.lands_againZ f3 fun g4 f4 up4 => ?_
      have J4 : Inv X pins σ2 H2 { t with heap := g4 } := J.landed nb f4.1 ((up.trans up3).trans up4) os ag
      obtain ⟨o4, v4, e4, z4, d4⟩ := f4.there
      have S4 := J4.suite e4 d4 na aL aF
      refine store_ok (X := X.suite a ((a, o4) :: (X.pn ++ pins))) (v := .ref a) S4 hN hi kloc rfl (fun t5 S5 => ?_) (.inr hln)
      refine wpAny_mono ((hsu a o4 cls d (X.pn ++ pins) z4 ⟨_, d4⟩).run [] t5 _ H2 _ S5 (wy rfl a na)) (fun fl t6 sp => ?_) (fun _ _ z => False.elim z)
      have fin : ∀ {σ6 : St} {H6 : Hp} {Q : Shared → Prop}, Inv (X.suite a ((a, o4) :: (X.pn ++ pins))) [] σ6 H6 t6 → (∀ t7, Inv X pins (σ6.set i none) (upd H6 a (L2.Tr.xkH o4 a)) t7 → Q t7) →
          wpAny (model X.prog X.w) X.A (do bindName X.env n .none; unbindBehindTheSuite X.env n pos') (fun _ t7 => Q t7) X.xe t6 := fun {σ6 H6 Q} S6 hq => by
        obtain ⟨p1, p2, _⟩ := S6.pin (a, o4) (List.mem_append.mpr (.inl List.mem_cons_self))
        exact gone_ok ((S6.unsuite k0).track p1 d4 p2 n0 aL npin) hN hi hln hq
      cases fl with
      | next =>
        obtain ⟨σ6, H6, S6, q⟩ := sp
        exact fin S6 fun t7 J7 => ⟨_, _, J7, q o4 v4 z4 d4⟩
      | brk =>
        obtain ⟨σ6, H6, S6, q⟩ := sp
        exact fin S6 fun t7 J7 => ⟨_, _, J7, q o4 v4 z4 d4⟩
      | cont =>
        obtain ⟨σ6, H6, S6, q⟩ := sp
        exact fin S6 fun t7 J7 => ⟨_, _, J7, q o4 v4 z4 d4⟩
      | ret u =>
        obtain ⟨y, σ6, H6, S6, r6, q⟩ := sp
        exact fin S6 fun t7 J7 => ⟨_, _, _, J7, r6, q o4 v4 z4 d4⟩
    | false =>
      show wpAny _ X.A (handleBy (.ref a) X.env []) _ _ _
      refine wpAny_handleBy_nil ?_
      obtain ⟨k1, k2, k3, o5, v5, T, oT, ts', e5, z5, d5, h5, r5⟩ := id f3
      unfold PySem.passOn
      refine wpAny_bind (wpAny_field e5 d5 h5 ?_)
      rw [if_neg (show ¬ ((Value.ref T == Value.none) = true) from by simp)]
      have go : wpAny (model X.prog X.w) X.A (setFlight (.ref a) X.env.frame) (fun _ t4 => wpAny (model X.prog X.w) X.A (throw (.ref a) : Sem Flow) (SP X pins D) X.xe t4) X.xe { t with heap := g3 } := by
        rw [hf]
        refine HandSPX.setFlight_upZ f3 fun g4 f4 up4 => wpAny_throw (tk _ _ ?_)
        exact ⟨a, B, t0, pins, σ2, H2, cls, d, rfl, J, nb, (up.trans up3).trans up4, .inr (.inr (by rw [hs]; exact f4)), na, os, ag, wn rfl⟩
      first
        | exact wpAny_bind (wpAny_pure (wpAny_bind go))
        | exact wpAny_bind go
  · cases fl with
    | next =>
      obtain ⟨σ2, H2, J2, q⟩ := sp
      exact wpAny_execs_nil ⟨σ2, H2, J2.ofTry k0, q⟩
    | brk =>
      obtain ⟨σ2, H2, J2, q⟩ := sp
      exact ⟨σ2, H2, J2.ofTry k0, q⟩
    | cont =>
      obtain ⟨σ2, H2, J2, q⟩ := sp
      exact ⟨σ2, H2, J2.ofTry k0, q⟩
    | ret u =>
      obtain ⟨y, σ2, H2, J2, r, q⟩ := sp
      exact ⟨y, σ2, H2, J2.ofTry k0, r, q⟩
end
end L2
namespace L2
open PySem PySem.Spec PyProof.Rows
/-! ### isinstance of a kept exception, its fields -/
structure ExK (K : PySem.W.Frag) (C : Addr) : Prop where
  cl : (PySem.W.clsIn K C).isSome = true
  ga : PySem.W.findIn K (.ref C) "__getattribute__" = some (some (.builtin "BaseException.__getattribute__"))
  gg : PySem.W.findIn K (.ref C) "__getattr__" = some none
  sb : PySem.W.subIn K (.ref C) (.type "BaseException") = some true
  ca : PySem.W.findIn K (.ref C) "__class__" = some (some (.builtin "object.__class__"))
  gn : PySem.W.specialIn K (.builtin "object.__class__") "__get__" = some (some (.builtin "getset_descriptor.__get__"))
  tk : PySem.W.takesIn K (.builtin "object.__class__") = some true
  mr : PySem.W.mroIn K C (.type "object") = some true
/-- a kept exception of class C -/
def KeptX (H : Hp) (a C : Addr) : Prop := ∃ d, L2.Tr.XKp H a C d ∧ (d = none ∨ ∃ dx fs, d = some dx ∧ H dx = some (.xd fs))
section
variable {X : Cx} {pins : List (Addr × Obj)} {σ : St} {H : Hp} {s : Shared}
theorem kept_at {a C : Addr} (I : Inv X pins σ H s) (h : KeptX H a C) : ∃ oe od, PySem.W.InstAt s.heap a oe C od := by
  obtain ⟨d, ⟨oe, h1, ⟨z1, z2⟩, vs, hv⟩, hd⟩ := h
  have e : s.heap.get? a = some oe := (I.hok a _ h1).1
  have nc : PySem.W.notCls oe = true := by unfold PySem.W.notCls; rw [hv]
  rcases hd with rfl | ⟨dx, fs, rfl, hx⟩
  · exact ⟨oe, none, ⟨e, z1, nc, by rw [z2]; trivial⟩⟩
  · obtain ⟨mA, hns, _⟩ := (show ObjOk X.prog X.w H s.heap dx (.xd fs) from I.hok dx _ hx)
    obtain ⟨o, es, ep, ho, _⟩ := hns
    exact ⟨oe, some o, ⟨e, z1, nc, by rw [z2]; exact ho⟩⟩
end
def rIsX (K : PySem.W.Frag) : List V → Hp → VK → Prop := fun xs H Q => ∃ (a C : Addr) (c : V) (b : Bool), xs = [.ref a, c] ∧ KeptX H a C ∧ ExK K C ∧
  ((∃ u, ClsV c u ∧ PySem.W.kitOne K (.ref C) u = some b) ∨ (∃ tp cs us, c = .ref tp ∧ H tp = some (.tup cs) ∧ Paired ClsV cs us ∧ PySem.W.kitAny K (.ref C) us = some b)) ∧ Q (.bl b) H
section
variable {X : Cx}
theorem call_isX : CallR X (.builtin "isinstance") (rIsX X.K) := by
  intro pins s σ H xs us Q I r h
  obtain ⟨a, C, c, b, rfl, hk, T, hc, q⟩ := h
  obtain ⟨u1, u2, rfl, r1, r2⟩ := vals2 r
  cases r1
  obtain ⟨oe, od, J⟩ := kept_at I hk
  have Z := PySem.W.kitx_exc (x := a) (ox := oe) (od := od) T.cl T.ga T.gg T.sb T.ca T.gn T.tk T.mr
  rcases hc with ⟨u, hu, e⟩ | ⟨tp, cs, ws, rfl, hT, k, e⟩
  · have e2 := hu.eq r2
    subst e2
    exact PySem.W.kia_one Z I.kIn J e (fun z => nomatch z) fun tk => ⟨.bl b, H, I.tok tk, rfl, q⟩
  · cases (show u2 = Value.ref tp from r2)
    obtain ⟨_, its, rv, o, h1, h2, n, h3⟩ := (show ObjOk X.prog X.w H s.heap tp (.tup cs) from I.hok tp _ hT)
    have e3 := ClsV.all k rv
    subst e3
    obtain ⟨oc, od2, dt, sl⟩ := o
    simp only at h2 h3
    subst h2 h3
    exact PySem.W.kia_tup Z I.kIn J h1 e (fun z => nomatch z) fun tk => ⟨.bl b, H, I.tok tk, rfl, q⟩
end
end L2
namespace L2.Tr
open PySem PySem.Spec PyProof.Rows L2 L2.Pc
/-! ### try: .. except C as e: v = e -/
def sTryKeep (i j : Nat) (tbl : List (Str × Bool)) (mb : M Fl) : M Fl := fun s => match mb s with
  | .exc x s' => (match tbl.lookup x.cls with
    | some true => if i < s'.env.length then .ok .nx ⟨setS (setS s'.env j (some (.fz (.xok x.cls x.fs)))) i none, s'.mu⟩ else .no
    | some false => .exc x s'
    | none => .no)
  | r => r
theorem set_swap2 {α : Type} {i j : Nat} (h : i ≠ j) (a b c : α) : ∀ (l : List α), (((l.set i a).set j b).set i c) = ((l.set j b).set i c) := fun l => by
  apply List.ext_getElem?
  intro k
  simp only [List.getElem?_set, List.length_set]
  by_cases h1 : i = k
  · subst h1; simp
  · by_cases h2 : j = k
    · subst h2; simp [h1, h]
    · simp [h1, h2]
def tKeep (i j : Nat) (a : Addr) (_ : Value) (_ : Option Addr) : TS := fun D σ H => tVar i σ H fun x H1 => D.nx (σ.set j (some x)) H1
theorem tryKeep_t {G : Gi} {Wout : WX} {c : Value} {tbl : List (Str × Bool)} {i j : Nat} {mb : M Fl} {D : Ends} {σ : L2.St} {H : Hp} (hij : i ≠ j) (T : HdT G c tbl) (q : tS G Wout (sTryKeep i j tbl mb) D σ H) :
    tS G (wKeep G.K c i (tKeep i j) Wout D) mb D σ H := by
  obtain ⟨c0, st, e0, r0, w⟩ := q
  refine ⟨c0, st, e0, r0, ?_⟩
  unfold sTryKeep at w
  cases e : mb st with
  | no => rw [e] at w; exact w
  | ok f s' => rw [e] at w; exact w
  | exc x s' =>
    rw [e] at w
    dsimp only at w
    intro σ' v d c' r' g' x'
    obtain ⟨C, rfl, hC, hf⟩ := x'
    cases hlk : tbl.lookup x.cls with
    | none => rw [hlk] at w; exact w.elim
    | some b =>
      rw [hlk] at w
      obtain ⟨C2, hC2, hb⟩ := T.ex _ _ hlk
      rw [hC] at hC2
      cases hC2
      cases b with
      | false => exact ⟨false, hb, (fun z => by cases z), fun _ => w σ' (.ref C) d c' r' g' ⟨C, rfl, hC, hf⟩⟩
      | true =>
        refine ⟨true, hb, fun _ a na => ?_, fun z => by cases z⟩
        dsimp only at w
        by_cases hl : i < s'.env.length
        case neg => rw [if_neg hl] at w; exact w.elim
        rw [if_pos hl] at w
        refine ⟨.ref a, List.getElem?_set_self (by rw [← slots_len r'.slots]; exact hl), fun oe vs hz hd => ?_⟩
        have w : ∀ σ4 c4, Rel G ⟨setS (setS s'.env j (some (.fz (.xok x.cls x.fs)))) i none, s'.mu⟩ σ4 c4 → Go c0 c4 → D.nx σ4 c4.H := w
        have r2 := r'.new (o := xkH oe a) na
        have f2 := Fresh.new (o := xkH oe a) r' na
        have g2 := (GoE.new (o := xkH oe a) r' na).freeze (New.new na) r2
        have r3 := r2.freeze f2
        have ka : XKp ((c'.new a (xkH oe a)).frz [a]).F a C d := ⟨oe, frzF_same, hz, vs, hd⟩
        have tx : Rp G ((c'.new a (xkH oe a)).frz [a]).F ((c'.new a (xkH oe a)).frz [a]).al (.ref a) (.xok x.cls x.fs) := by
          rcases hf with ⟨e1, rfl⟩ | ⟨dx, ws, rfl, e2, e3, e4⟩
          · rw [e1]; exact .xok0 ka hC
          · exact .xok ka hC (g2.mo.mF _ _ e2 rfl) e3 (e4.mo g2.mo)
        obtain ⟨c4, eH, r4, g4, _⟩ := rel_put (i := j) r3 (.fz tx) (Fresh.nil _) (g'.trans g2.toGo) (New.nil _)
        obtain ⟨c5, e6, r5, g5⟩ := rel_unset (i := i) r4 g4
        have fin := w _ c5 r5 g5
        have eh : c5.H = upd c'.H a (xkH oe a) := by rw [e6, eH]; rfl
        rw [eh] at fin
        show D.nx ((((σ'.set i (some (.ref a))).set j (some (.ref a))).set i none)) _
        rw [set_swap2 hij]
        exact fin
section
variable {X : Cx} {G : Gi} {Wout : WX} {x n y : Str} {tbl : List (Str × Bool)} {i j : Nat} {body : List Stmt} {np pos pos' pv pe pa : Pos} {mb : M Fl}
theorem s_tryKeep (hK : X.K = G.K) (hM : X.mg = G.mg) (T : HdN G x tbl) (hg : Gl X x) (hex : X.ex = []) (hs : X.stack = X.env :: X.outer) (hf : X.env.frame = some X.env.locals) (hN : X.N.Nodup) (hi : X.N[i]? = some n) (hj : X.N[j]? = some y) (hij : i ≠ j) (hln : X.env.kindOf n = some .local) (hlj : X.env.kindOf y = some .local) (tk : Takes X Wout)
    (hb : ∀ (W : WX) (pn : List (Addr × Obj)) (xe : Value → Shared → Prop), Takes (X.tr pn xe) W → PassesOwn (model X.prog X.w) X.A X.env xe → PSs (X.tr pn xe) body (tS G W mb))
    (hdb : (x == ("__debug__" : Str)) = false := by decide) (hd : (n == ("__debug__" : Str)) = false := by decide) (hcd : (n == ("__classdict__" : Str)) = false := by decide)
    (hsw : ∀ a pn, swapsWith (.Name n pe) (some (.Name y pv)) pa.line (X.suite a pn).env = pure false := by intro _ _; rfl) :
    PS X (.Try body [.ExceptHandler (some (.Name x np)) (some n) [.Assign [.Name y pv] (.Name n pe) pa] pos'] [] [] pos) (tS G Wout (sTryKeep i j tbl mb)) := by
  obtain ⟨c, hm, T⟩ := T.ex
  refine (ps_tryKeep (ts := tKeep i j) hs hf hex hN hi hln ⟨hg, hdb, .inl (by rw [hM]; exact hm)⟩ tk hb (fun a oe cls d pn hz hfd => ?_)).weak fun D σ H q => ?_
  · exact pss_one (ps_set (X := X.suite a ((a, oe) :: pn)) hN hj (.inl hlj) (pe_var hi (Or.inl hln) hd hcd) (hsw _ _) (.inr hlj))
  · rw [hK]
    exact tryKeep_t hij T q
end
/-! ### isinstance(e, C), isinstance(e, (C, ..)), e.f of a kept exception -/
abbrev XITab := List (Str × List (Str × Bool))
abbrev XBTab := List (Str × List (String × Bool))
def isiXc (IX : XITab) (BX : XBTab) (c : Str) : D → Option Bool
  | .fn c' => (IX.lookup c).bind fun r => r.lookup c'
  | .ty n => (BX.lookup c).bind fun r => r.lookup n
  | _ => none
def isiXa (IX : XITab) (BX : XBTab) (c : Str) : List D → Option Bool
  | [] => some false
  | y :: ys => match isiXc IX BX c y with
    | some true => some true
    | some false => isiXa IX BX c ys
    | none => none
def isiX (IX : XITab) (BX : XBTab) : List D → Option O
  | [.xok c _, .tup ys] => (isiXa IX BX c ys).map fun b => .fz (.bl b)
  | [.xok c _, y] => (isiXc IX BX c y).map fun b => .fz (.bl b)
  | _ => none
structure KxI (G : Gi) (IX : XITab) (BX : XBTab) : Prop where
  cl : ∀ c r, IX.lookup c = some r → ∃ C, G.mg c = some (.ref C) ∧ ExK G.K C
  bl : ∀ c r, BX.lookup c = some r → ∃ C, G.mg c = some (.ref C) ∧ ExK G.K C
  ix : ∀ c r c' b, IX.lookup c = some r → r.lookup c' = some b → ∃ C C', G.mg c = some (.ref C) ∧ G.mg c' = some (.ref C') ∧ PySem.W.kitOne G.K (.ref C) (.ref C') = some b
  bx : ∀ c r n b, BX.lookup c = some r → r.lookup n = some b → ∃ C, G.mg c = some (.ref C) ∧ PySem.W.kitOne G.K (.ref C) (.type n) = some b
theorem isiX_one {G : Gi} {IX : XITab} {BX : XBTab} (T : KxI G IX BX) {c : Str} {y : D} {b : Bool} {C : Addr} {F : Hp} {al : List Addr} {v : V} (hC : G.mg c = some (.ref C)) (h : Rp G F al v y) (e : isiXc IX BX c y = some b) :
    ∃ u, ClsV v u ∧ PySem.W.kitOne G.K (.ref C) u = some b := by
  unfold isiXc at e
  split at e
  · obtain ⟨r, h1, h2⟩ := bind_some e
    obtain ⟨C1, C2, k1, k2, k3⟩ := T.ix _ _ _ _ h1 h2
    rw [hC] at k1
    cases k1
    cases h with
    | fn h => rw [k2] at h; cases h; exact ⟨_, .own _, k3⟩
  · obtain ⟨r, h1, h2⟩ := bind_some e
    obtain ⟨C1, k1, k3⟩ := T.bx _ _ _ _ h1 h2
    rw [hC] at k1
    cases k1
    cases h
    exact ⟨_, .ty _, k3⟩
  · cases e
theorem isiX_clsV {G : Gi} {IX : XITab} {BX : XBTab} (T : KxI G IX BX) {c : Str} {C : Addr} {F : Hp} {al : List Addr} (hC : G.mg c = some (.ref C)) : ∀ {vs : List V} {ys : List D} {b : Bool}, RpA G F al vs ys → isiXa IX BX c ys = some b → (∀ y ∈ ys, ∃ b, isiXc IX BX c y = some b) →
    ∃ us, Paired ClsV vs us ∧ PySem.W.kitAny G.K (.ref C) us = some b
  | _, _, b, .nil, e, _ => by cases e; exact ⟨[], .nil, rfl⟩
  | _, y :: ys, b, .cons h hs, e, ha => by
    obtain ⟨b1, e1⟩ := ha y List.mem_cons_self
    obtain ⟨u, h1, h2⟩ := isiX_one T hC h e1
    rw [isiXa, e1] at e
    have hx : ∃ bx, isiXa IX BX c ys = some bx := by
      have : ∀ ys : List D, (∀ y ∈ ys, ∃ b, isiXc IX BX c y = some b) → ∃ bx, isiXa IX BX c ys = some bx := fun ys => by
        induction ys with
        | nil => exact fun _ => ⟨false, rfl⟩
        | cons z zs ih =>
          intro h
          obtain ⟨bz, ez⟩ := h z List.mem_cons_self
          rw [isiXa, ez]
          cases bz with
          | true => exact ⟨true, rfl⟩
          | false => exact ih fun y hy => h y (List.mem_cons_of_mem _ hy)
      exact this ys fun y hy => ha y (List.mem_cons_of_mem _ hy)
    obtain ⟨bx, ex⟩ := hx
    obtain ⟨us, p, k⟩ := isiX_clsV T hC hs ex fun y hy => ha y (List.mem_cons_of_mem _ hy)
    refine ⟨u :: us, .cons h1 p, ?_⟩
    unfold PySem.W.kitAny
    rw [h2]
    cases b1 with
    | true => exact e
    | false =>
      dsimp only at e
      rw [ex] at e
      cases e
      exact k
theorem own_xok {G : Gi} {st : S} {σ : L2.St} {c : Cf} {x : V} {d : D} {cn : Str} {ds : List (Str × D)} (r : Rel G st σ c) (h : Rp G c.F c.al x d) (e : d = .xok cn ds) :
    ∃ a C, x = .ref a ∧ G.mg cn = some (.ref C) ∧ KeptX c.H a C ∧ (∀ f d2, ds.lookup f = some d2 → ∃ dx fs u, XKp c.H a C (some dx) ∧ c.H dx = some (.xd fs) ∧ fs.lookup f = some u ∧ Rp G c.F c.al u d2) := by
  subst e
  cases h with
  | xok k1 k2 k3 k4 k5 =>
    obtain ⟨oe, q1, q2⟩ := k1
    have kk : XKp c.H _ _ _ := ⟨oe, r.sub _ _ q1, q2⟩
    refine ⟨_, _, rfl, k2, ⟨_, kk, .inr ⟨_, _, rfl, r.sub _ _ k3⟩⟩, fun f d2 hl => ?_⟩
    obtain ⟨u, l1, l2⟩ := lk_rp k4 k5 hl
    exact ⟨_, _, u, kk, r.sub _ _ k3, l1, l2⟩
  | xok0 k1 k2 =>
    obtain ⟨oe, q1, q2⟩ := k1
    exact ⟨_, _, rfl, k2, ⟨_, ⟨oe, r.sub _ _ q1, q2⟩, .inl rfl⟩, fun f d2 hl => by cases hl⟩
def isiXT (IX : XITab) (BX : XBTab) (ds : List D) : Option O := match ds with
  | [.xok c fs, .tup ys] => if (ys.all fun y => (isiXc IX BX c y).isSome) = true ∧ (IX.lookup c).isSome = true then isiX IX BX [.xok c fs, .tup ys] else none
  | ds => isiX IX BX ds
theorem d_isiX {G : Gi} {IX : XITab} {BX : XBTab} (T : KxI G IX BX) : CnD G (rIsX G.K) (isiXT IX BX) := by
  intro st σ c vs ds o Q r rv e q
  unfold isiXT at e
  split at e
  · rename_i cn fs ys
    split at e
    · rename_i hc
      obtain ⟨b, h1, rfl⟩ := map_some e
      cases rv with
      | cons h hs =>
        cases hs with
        | cons h' hs' =>
          cases hs'
          obtain ⟨a, C, rfl, hC, hk, _⟩ := own_xok r h rfl
          obtain ⟨row, hrow⟩ := Option.isSome_iff_exists.mp hc.2
          obtain ⟨C2, k1, ek⟩ := T.cl _ _ hrow
          rw [hC] at k1
          cases k1
          cases h' with
          | tup t1 t2 =>
            obtain ⟨us, p, k⟩ := isiX_clsV T hC t2 h1 fun y hy => Option.isSome_iff_exists.mp (List.all_eq_true.mp hc.1 y hy)
            exact ⟨a, C, _, b, rfl, hk, ek, .inr ⟨_, _, us, rfl, r.sub _ _ t1, p, k⟩, fin r (.bl _) q⟩
    · cases e
  · rename_i hne
    unfold isiX at e
    split at e
    · rename_i cn fs ys
      exact absurd rfl (hne cn fs ys)
    · rename_i cn fs y hy
      obtain ⟨b, h1, rfl⟩ := map_some e
      cases rv with
      | cons h hs =>
        cases hs with
        | cons h' hs' =>
          cases hs'
          obtain ⟨a, C, rfl, hC, hk, _⟩ := own_xok r h rfl
          have ek : ExK G.K C := by
            unfold isiXc at h1
            split at h1
            · obtain ⟨row, e1, _⟩ := bind_some h1
              obtain ⟨C2, k1, ek⟩ := T.cl _ _ e1
              rw [hC] at k1; cases k1; exact ek
            · obtain ⟨row, e1, _⟩ := bind_some h1
              obtain ⟨C2, k1, ek⟩ := T.bl _ _ e1
              rw [hC] at k1; cases k1; exact ek
            · cases h1
          obtain ⟨u, h2, h3⟩ := isiX_one T hC h' h1
          exact ⟨a, C, _, b, rfl, hk, ek, .inl ⟨u, h2, h3⟩, fin r (.bl _) q⟩
    · cases e
theorem k_isX {X : Cx} {K : PySem.W.Frag} (h : X.K = K) : CallR X (.builtin "isinstance") (rIsX K) := h ▸ call_isX
def xkO (XT : CTab) (f : Str) (d : D) : Option O := match d with
  | .xok c fs => if okF XT c f = true then (fs.lookup f).map .fz else none
  | _ => none
/-- e.f, e a kept exception -/
def xXk (XT : CTab) (f : Str) (m : M D) : M O := bnd m fun d => ofO (xkO XT f d)
section
variable {env : List (Option O)} {mu : List O} {md : M D} {mb : M Fl} {i j : Nat} {tbl : List (Str × Bool)} {s s' : S} {x : Exc} {f : Fl} {c : Str} {fs : List (Str × D)} {XT : CTab}
def tkK (i j : Nat) (tbl : List (Str × Bool)) (r : Tr.R Fl) : Tr.R Fl := match r with
  | .exc x s' => (match tbl.lookup x.cls with
    | some true => if i < s'.env.length then .ok .nx ⟨setS (setS s'.env j (some (.fz (.xok x.cls x.fs)))) i none, s'.mu⟩ else .no
    | some false => .exc x s'
    | none => .no)
  | r => r
theorem sk_xXk {n : Str} : xXk XT n md ⟨env, mu⟩ = (md ⟨env, mu⟩).bind fun d => ofO (xkO XT n d) := rfl
end
/-- behind a try whose exception is kept -/
theorem w_tryKeep {i j : Nat} {tbl : List (Str × Bool)} {mb : M Fl} {s : S} {Q : Fl → S → Prop} {E : Exc → S → Prop}
    (h : wv (mb s) Q (fun x s' => match tbl.lookup x.cls with
      | some true => i < s'.env.length ∧ Q .nx ⟨setS (setS s'.env j (some (.fz (.xok x.cls x.fs)))) i none, s'.mu⟩
      | some false => E x s'
      | none => False)) : wv (sTryKeep i j tbl mb s) Q E := by
  simp only [wv_eq] at *
  show wp (tkK i j tbl (mb s)) Q E
  cases e : mb s with
  | no => rw [e] at h; exact h
  | ok f s' => rw [e] at h; exact h
  | exc x s' =>
    rw [e] at h
    have h : match tbl.lookup x.cls with
      | some true => i < s'.env.length ∧ Q .nx ⟨setS (setS s'.env j (some (.fz (.xok x.cls x.fs)))) i none, s'.mu⟩
      | some false => E x s'
      | none => False := h
    unfold tkK
    dsimp only
    cases hl : tbl.lookup x.cls with
    | none => rw [hl] at h; exact h
    | some b =>
      rw [hl] at h
      cases b with
      | false => exact h
      | true =>
        dsimp only at h ⊢
        rw [if_pos h.1]
        exact h.2
/-! ### tables -/
theorem bt_ValueError : bootBuiltins "ValueError" = some (.type "ValueError") := by decide +kernel
theorem lookup_memB {α β : Type} [BEq α] [LawfulBEq α] {k : α} {v : β} : ∀ {l : List (α × β)}, l.lookup k = some v → (k, v) ∈ l
  | [], h => by cases h
  | (a, b) :: l, h => by
    rw [List.lookup] at h
    split at h
    · rename_i e
      cases h
      have e := eq_of_beq e
      subst e
      exact List.mem_cons_self
    · exact List.mem_cons_of_mem _ (lookup_memB h)
theorem kxi_of {G : Gi} {IX : XITab} {BX : XBTab} (h : ∀ p ∈ IX, ∃ C, G.mg p.1 = some (.ref C) ∧ ExK G.K C ∧ ∀ q ∈ p.2, ∃ C', G.mg q.1 = some (.ref C') ∧ PySem.W.kitOne G.K (.ref C) (.ref C') = some q.2)
    (h2 : ∀ p ∈ BX, ∃ C, G.mg p.1 = some (.ref C) ∧ ExK G.K C ∧ ∀ q ∈ p.2, PySem.W.kitOne G.K (.ref C) (.type q.1) = some q.2) : KxI G IX BX where
  cl := fun c r e => by
    obtain ⟨C, k1, k2, _⟩ := h _ (lookup_mem e)
    exact ⟨C, k1, k2⟩
  bl := fun c r e => by
    obtain ⟨C, k1, k2, _⟩ := h2 _ (lookup_mem e)
    exact ⟨C, k1, k2⟩
  ix := fun c r c' b e e2 => by
    obtain ⟨C, k1, _, k3⟩ := h _ (lookup_mem e)
    obtain ⟨C', q1, q2⟩ := k3 _ (lookup_mem e2)
    exact ⟨C, C', k1, q1, q2⟩
  bx := fun c r n b e e2 => by
    obtain ⟨C, k1, _, k3⟩ := h2 _ (lookup_mem e)
    exact ⟨C, k1, k3 _ (lookup_memB e2)⟩
/-! ### x += e, x -= e, numbers -/
def augK (neg : Bool) (i : Nat) (a : Int) (d : D) : M Fl := fun s => match d with
  | .int b => .ok .nx ⟨setS s.env i (some (.fz (.int (if neg = true then a - b else a + b)))), s.mu⟩
  | _ => .no
def sAugI (neg : Bool) (i : Nat) (md : M D) : M Fl := fun s => match getS s.env i with
  | some (.fz (.int a)) => (md s).bind (augK neg i a)
  | _ => .no
section
variable {env : List (Option O)} {mu : List O} {md : M D} {i : Nat} {neg : Bool} {a b : Int}
theorem sk_augI : sAugI neg i md ⟨env, mu⟩ = (match getS env i with | some (.fz (.int a)) => (md ⟨env, mu⟩).bind (augK neg i a) | _ => .no) := rfl
theorem sk_augKa : augK false i a (.int b) ⟨env, mu⟩ = .ok .nx ⟨setS env i (some (.fz (.int (a + b)))), mu⟩ := rfl
theorem sk_augKb : augK true i a (.int b) ⟨env, mu⟩ = .ok .nx ⟨setS env i (some (.fz (.int (a - b)))), mu⟩ := rfl
end
end L2.Tr
namespace L2
open PySem PySem.Spec PyProof.Rows
/-! ### tuple(xs) whose object is known to have no dict, and t.index(x) of such -/
end L2
namespace L2.Tr
open PySem PySem.Spec PyProof.Rows L2 L2.Pc
section
variable {X : Cx} {G : Gi} {W : WX} {st : S} {σ : L2.St} {c : Cf} {o e : Expr} {m : M O} {md : M D} {pos apos : Pos}
def tunD : D → Option O
  | .lst ds => some (.fz (.tun ds))
  | .lsk ds => some (.fz (.tun ds))
  | _ => none
/-- t.index(x) -/
def tixD : D → List D → Option O
  | .tun ds, [.str z] => match allM strD' ds with
    | some ss => if z ∈ ss then some (.fz (.int (ss.idxOf z : Nat))) else none
    | none => none
  | _, _ => none
def isTn : D → Bool
  | .tun _ => true
  | _ => false
def xTix (mo : M O) (md : M D) : M O := bnd mo fun ox => if isTn ox.toD then bnd md fun d => ofO (tixD ox.toD [d]) else fun _ => .no
@[simp] theorem xTix_app (mo : M O) (md : M D) (s : S) : xTix mo md s = (mo s).bind fun ox s1 => (if isTn ox.toD then bnd md fun d => ofO (tixD ox.toD [d]) else fun _ => .no) s1 := rfl
/-! ### steps -/
theorem sk_tunl {ds : List D} : tunD (.lst ds) = some (.fz (.tun ds)) := rfl
theorem sk_xTix {env : List (Option O)} {mu : List O} : xTix m md ⟨env, mu⟩ = (m ⟨env, mu⟩).bind fun x => if isTn x.toD = true then bnd md fun d => ofO (tixD x.toD [d]) else fun _ => .no := rfl
theorem sk_isitn {xs : List D} : isiD [.tun xs, .ty "tuple"] = some (.fz (.bl true)) := rfl
theorem sk_nntn {xs : List D} : Tr.isNon (.tun xs) = false := rfl
theorem sk_lentn {xs : List D} : lenD (.tun xs) = some (.fz (.int xs.length)) := rfl
theorem sk_istn {ds : List D} : isTn (.tun ds) = true := rfl
theorem sk_sitn {ds : List D} : seqI (.tun ds) = some ds := rfl
end
end L2.Tr
namespace L2
open PySem PySem.Spec PyProof.Rows
/-! ### except C as e: a suite in which e is an object like others -/
end L2
namespace L2.Tr
open PySem PySem.Spec PyProof.Rows L2 L2.Pc
end L2.Tr
namespace L2.Tr
open PySem PySem.Spec PyProof.Rows L2 L2.Pc
/-! ### texts parted and counted -/
variable {G : Gi}
def splitD (x : D) (ds : List D) : Option O := match x, ds with
  | .str a, [.str b] => if b.length ≠ 0 ∧ a.length ≤ 16777214 then some (.lst ((Txt.split a b).map .str)) else none
  | _, _ => none
abbrev rSplit : V → List V → Hp → VK → Prop := fun x xs H Q => ∃ a b, x = .str a ∧ xs = [.str b] ∧ (b.length == 0) = false ∧ a.length + 2 ≤ sizeLine ∧ rNewStrs (Txt.split a b) H Q
theorem mt_splitM {X : Cx} : MtR X "str.split" rSplit := mt_split
theorem d_split : MnD G rSplit splitD := by
  intro st σ c x vs ox fx ds o Q r tx rv e q
  have vx := own_view r tx
  generalize ox.toD = dx at *
  unfold splitD at e
  split at e
  · split at e
    · rename_i hl
      cases e
      obtain rfl : x = _ := vx
      cases rv with
      | cons h hs =>
        cases h; cases hs
        exact ⟨_, _, rfl, rfl, by simpa using hl.1, by rw [szl]; omega, finL r (rpA_ofStrs _) q⟩
    · cases e
  · cases e
theorem sk_split {a b : Str} (hb : b.length ≠ 0) (ha : a.length ≤ 16777214) : splitD (.str a) [.str b] = some (.lst ((Txt.split a b).map .str)) := if_pos ⟨hb, ha⟩
end L2.Tr
namespace L2.Tr
open PySem PySem.Spec PyProof.Rows L2 L2.Pc
/-! ### raise X('m'): own classes without an own __init__ -/
structure XoT (G : Gi) (x : Str) : Prop where
  ex : ∃ C : Addr, G.mg x = some (.ref C) ∧ PySem.W.excIn G.K C [.type "ValueError", .type "Exception", .type "BaseException", .type "object"] "ValueError.__new__" = true ∧ PySem.W.keepIn G.K (.ref C) = true ∧
    PySem.W.subIn G.K (.ref C) (.type "BaseException") = some true ∧ PySem.W.typeIn G.K (.ref C) = some (.type "type")
def sRaiseB (x : Str) : M Fl := fun s => .exc ⟨x, []⟩ s
section
variable {X : Cx} {G : Gi} {W : WX} {x m : Str} {j : Nat} {p p2 pos pos' : Pos} {env : List (Option O)} {mu : List O}
theorem s_raiseB (hK : X.K = G.K) (hM : X.mg = G.mg) (T : XoT G x) (hg : Gl X x) (hc : X.calm = true) (tk : Takes X W) (hdb : (x == ("__debug__" : Str)) = false := by decide) :
    PS X (.Raise (some (.Call (.Name x p) [.Constant (.str m) j p2] [] pos)) none pos') (tS G W (sRaiseB x)) := by
  obtain ⟨C, gC, q, kC, bC, tC⟩ := T.ex
  refine (ps_raise hc tk (L2.pmk_own PySem.F.excBase_ValueError (hK ▸ q) (hM ▸ gC) (hK ▸ kC) (raises_own (hK ▸ bC) (hK ▸ tC)) hg hdb)).weak fun D σ H q => ?_
  obtain ⟨c, st, rfl, r, h⟩ := q
  exact h σ (.ref C) none c r Go.rfl' ⟨C, rfl, gC, .inl ⟨rfl, rfl⟩⟩
end
end L2.Tr
namespace F34
open PySem PyProof.Rows L2 L2.Pc L2.Tr
def topS (i : Nat) : Stmt := PySem.Challenge.pw_pinnedcards_k34_what_is_no_photograph.main.body.getD i (.Pass ⟨0, 0, 0, 0⟩)
abbrev s_is_name : Stmt := topS 10
theorem sc_is_name : FnScope ["thing"] ["thing"] (defScope s_is_name) :=
  ⟨rfl, rfl, rfl, by decide +kernel, rfl, by decide +kernel, by decide +kernel⟩
abbrev s_is_sign : Stmt := topS 15
theorem sc_is_sign : FnScope ["thing"] ["thing"] (defScope s_is_sign) :=
  ⟨rfl, rfl, rfl, by decide +kernel, rfl, by decide +kernel, by decide +kernel⟩
abbrev s_are_rows : Stmt := topS 16
theorem sc_are_rows : FnScope ["thing", "row", "one"] ["thing"] (defScope s_are_rows) :=
  ⟨rfl, rfl, rfl, by decide +kernel, rfl, by decide +kernel, by decide +kernel⟩
abbrev s_Photo_init : Stmt := inClass (topS 17) 0
theorem sc_Photo_init : FnScope ["self", "rows"] ["self", "rows"] (defScope s_Photo_init) :=
  ⟨rfl, rfl, rfl, by decide +kernel, rfl, by decide +kernel, by decide +kernel⟩
abbrev s_law_well : Stmt := topS 19
theorem sc_law_well : FnScope ["_law_script", "_law_k", "_law_cell", "_law_own", "_law_seed", "_law_far"] ["_law_script"] (defScope s_law_well) :=
  ⟨rfl, rfl, rfl, by decide +kernel, rfl, by decide +kernel, by decide +kernel⟩
abbrev s_law_take : Stmt := topS 20
theorem sc_law_take : FnScope ["_law_well_here", "_law_many", "_law_turn", "_law_once", "_law_digit"] ["_law_well_here", "_law_many"] (defScope s_law_take) :=
  ⟨rfl, rfl, rfl, by decide +kernel, rfl, by decide +kernel, by decide +kernel⟩
abbrev s_law_of : Stmt := topS 21
theorem sc_law_of : FnScope ["_law_well_here", "_law_some"] ["_law_well_here", "_law_some"] (defScope s_law_of) :=
  ⟨rfl, rfl, rfl, by decide +kernel, rfl, by decide +kernel, by decide +kernel⟩
abbrev s_law_name : Stmt := topS 22
theorem sc_law_name : FnScope ["_law_well_here", "_law_words", "_law_way", "_law_far", "_law_k"] ["_law_well_here"] (defScope s_law_name) :=
  ⟨rfl, rfl, rfl, by decide +kernel, rfl, by decide +kernel, by decide +kernel⟩
abbrev s_law_sign : Stmt := topS 23
theorem sc_law_sign : FnScope ["_law_well_here", "_law_sign_here", "_law_kept", "_law_way"] ["_law_well_here"] (defScope s_law_sign) :=
  ⟨rfl, rfl, rfl, by decide +kernel, rfl, by decide +kernel, by decide +kernel⟩
abbrev s_law_any_rows : Stmt := topS 24
theorem sc_law_any_rows : FnScope ["_law_well_here", "_law_some", "_law_wide", "_law_high", "_law_y", "_law_x"] ["_law_well_here"] (defScope s_law_any_rows) :=
  ⟨rfl, rfl, rfl, by decide +kernel, rfl, by decide +kernel, by decide +kernel⟩
abbrev s_law_odd : Stmt := topS 25
theorem sc_law_odd : FnScope ["_law_well_here", "_law_word", "_law_some", "_law_thing", "_law_turn"] ["_law_well_here"] (defScope s_law_odd) :=
  ⟨rfl, rfl, rfl, by decide +kernel, rfl, by decide +kernel, by decide +kernel⟩
abbrev s_law_bent : Stmt := topS 26
theorem sc_law_bent : FnScope ["_law_well_here", "_law_lined", "_law_at", "_law_spot", "_law_way", "_law_row", "_law_odd_here", "_law_one"] ["_law_well_here", "_law_lined"] (defScope s_law_bent) :=
  ⟨rfl, rfl, rfl, by decide +kernel, rfl, by decide +kernel, by decide +kernel⟩
abbrev s_law_is_sign : Stmt := topS 27
theorem sc_law_is_sign : FnScope ["_law_thing", "_law_kept", "_law_sign_here"] ["_law_thing"] (defScope s_law_is_sign) :=
  ⟨rfl, rfl, rfl, by decide +kernel, rfl, by decide +kernel, by decide +kernel⟩
abbrev s_law_are_rows : Stmt := topS 28
theorem sc_law_are_rows : FnScope ["_law_thing", "_law_row", "_law_one"] ["_law_thing"] (defScope s_law_are_rows) :=
  ⟨rfl, rfl, rfl, by decide +kernel, rfl, by decide +kernel, by decide +kernel⟩
abbrev s_law_told : Stmt := topS 29
theorem sc_law_told : FnScope ["_law_thing", "_law_way", "e", "_law_told_here", "_law_caught"] ["_law_thing", "_law_way"] (defScope s_law_told) :=
  ⟨rfl, rfl, rfl, by decide +kernel, rfl, by decide +kernel, by decide +kernel⟩
abbrev s_law : Stmt := topS 30
theorem sc_law : FnScope ["_law_script", "_law_well_here", "_law_turn", "_law_bent_here", "_law_k", "_law_kept", "_law_due", "_law_told_here", "_law_caught"] ["_law_script"] (defScope s_law) :=
  ⟨rfl, rfl, rfl, by decide +kernel, rfl, by decide +kernel, by decide +kernel⟩
structure Ad where
  no : Unit
abbrev IXT : XITab := [("BadPhoto", [("BadBoard", false), ("BadCard", false), ("BadPhoto", true), ("NoText", false)])]
abbrev BXT : XBTab := [("BadPhoto", [("ValueError", true)])]
abbrev CT : CTab := [("Photo", ["rows"])]
abbrev CLS : List Str := ["Photo"]
structure Tx (G : Gi) (w : World) : Prop where
  xo : G.xo = none
  h_CardError : HdN G "CardError" [("BadPhoto", true)]
  LETTERS : Gc G "LETTERS" (.str "abcdefghijklmnopqrstuvwxyz")
  LONGEST : Gc G "LONGEST" (.int 8)
  WORDS : Gc G "WORDS" (.tuk [(.str "pin"), (.str "again"), (.str "move"), (.str "take"), (.str "tear"), (.str "at"), (.str "to"), (.str "until"), (.str "strips"), (.str "known")])
  MOST_SIDE : Gc G "MOST_SIDE" (.int 9)
  BARE : Gc G "BARE" (.str "-")
  DARK : Gc G "DARK" (.str "?")
  b_ValueError : G.mg "ValueError" = none
  b_abs : G.mg "abs" = none
  b_all : G.mg "all" = none
  b_isinstance : G.mg "isinstance" = none
  b_len : G.mg "len" = none
  b_list : G.mg "list" = none
  b_range : G.mg "range" = none
  b_repr : G.mg "repr" = none
  b_set : G.mg "set" = none
  b_str : G.mg "str" = none
  b_tuple : G.mg "tuple" = none
  kc : Kc G CT
  isT : IsT G CLS
  c_Photo : Gc G "Photo" (.fn "Photo")
  kxi : KxI G IXT BXT
  c_BadBoard : Gc G "BadBoard" (.fn "BadBoard")
  c_BadCard : Gc G "BadCard" (.fn "BadCard")
  c_BadPhoto : Gc G "BadPhoto" (.fn "BadPhoto")
  c_NoText : Gc G "NoText" (.fn "NoText")
-- finding what is known: an object at an address, what a value holds
local macro_rules | `(tactic| walk_at "ca") => `(tactic| first
  | assumption
  | exact upd_same
  | (refine L2.Same.at (by assumption) ?_; walk_at "ca")
  | (refine Mx.at (by assumption) ?_ rfl; walk_at "ca")
  | (refine Eq.trans (upd_ne ?_) ?_; rotate_left; (walk_at "ca"); (walk_at "ne")))
local macro_rules | `(tactic| walk_at "ne") => `(tactic| first
  | assumption
  | (refine Ne.symm ?_; assumption)
  | (refine ne_of_none (o := ?no) ?nh (by assumption); (case nh => walk_at "ca"))
  | (refine Ne.symm (ne_of_none (o := ?no) ?nh (by assumption)); (case nh => walk_at "ca"))
  | (refine ne_of (by assumption) (by assumption) ?_; (intro z; cases z)))
local macro_rules | `(tactic| walk_at "sq") => `(tactic| first
  | assumption
  | (refine SqL.of ?_; walk_at "ca")
  | (refine SqT.of ?_; walk_at "ca")
  | exact Kt.sq (by assumption) _
  | (refine L2.SqL.mx (L2.Same.mx (by assumption)) ?_; walk_at "sq")
  | (refine L2.SqT.mx (L2.Same.mx (by assumption)) ?_; walk_at "sq")
  | (refine L2.SqL.mx (by assumption) ?_; walk_at "sq")
  | (refine L2.SqT.mx (by assumption) ?_; walk_at "sq"))
local macro_rules | `(tactic| walk_at "da") => `(tactic| first
  | assumption
  | exact Da.non
  | exact Da.bl _
  | exact Da.int _
  | exact Da.str _
  | (refine Da.mx (L2.Same.mx (by assumption)) ?_; walk_at "da")
  | (refine Da.mx (by assumption) ?_; walk_at "da"))
local macro_rules | `(tactic| walk_at "sz") => `(tactic| first
  | assumption
  | omega
  | (constructor <;> omega)
  | (refine Or.inl (Or.inl ⟨?_, ?_⟩) <;> omega)
  | (refine Or.inl (Or.inr ⟨?_, ?_⟩) <;> omega)
  | (refine Or.inr ?_; assumption)
  | (rw [szl]; first | assumption | omega | (simp only [strLen_append, one_len]; omega) | (simp only [List.length_cons, List.length_nil, List.length_append, List.length_map, List.length_take, List.length_drop, List.length_replicate, List.length_set]; omega))
  | decide
  | (rw [szl]; decide))
local macro_rules | `(tactic| walk_at "mx") => `(tactic| first
  | assumption
  | exact Mx.refl _
  | exact L2.Same.mx (by assumption)
  | (refine Mx.trans ?_ (L2.Same.mx (by assumption)); walk_at "mx")
  | (refine Mx.trans ?_ (by assumption); walk_at "mx"))
-- one step of a reading
local macro_rules | `(tactic| walk_at "sqo") => `(tactic| first
  | (refine Or.inl ?_; walk_at "sq"; done)
  | (refine Or.inr ?_; walk_at "sq"; done)
  | (walk_at "sq"; done)
  | (walk_at "ca"; done))
local macro_rules | `(tactic| walk_at "st") => `(tactic| first
  | (refine Step.imp ?_)
  | (refine g_new ?_; intro p H' hp he hv)
  | (refine g_kT ?_ ?_; assumption)
  | (refine g_kF ?_ ?_; assumption)
  | (refine g_knT ?_ ?_; assumption)
  | (refine g_knF ?_ ?_; assumption)
  | (refine g_draw (n := ?dm) ?dp ?d1 ?d2 ?dn ?dq; (case dp => walk_at "ca"); (case d1 => first | decide | omega); (case d2 => first | decide | omega); (case dn => first | omega | assumption); intro r H' r0 r1 x7 hp7)
  | (refine ⟨(by rfl : wipe _ _ = _), ?_⟩)
  | (refine ⟨(by rfl : flatV _ = true), (by first | rfl | decide +kernel : List.all _ flatV = true), ?_⟩)
  | (refine ⟨(by rfl : List.length _ = _), ?_⟩)
  | (refine StepZ.imp ?zc ?zn; case zc => ((try dsimp only); walk_at "sz"))
  | (refine StepQ.imp ?qx ?qc ?qn; case qc => ((try dsimp only); walk_at "sqo"))
  | (refine ⟨_, (by assumption : atI _ _ = some _), ?_⟩)
  | (refine ⟨_, (by assumption : PySem.intText? _ = some _), ?_⟩)
  | (refine ⟨_, (by with_unfolding_all rfl : atI _ _ = some _), ?_⟩)
  | (refine ⟨_, (by with_unfolding_all rfl : ixN _ _ = some _), ?_⟩)
  | (refine StepD.imp ?dx ?dc ?dn; case dc => ((try dsimp only); walk_at "da")))
local macro_rules | `(tactic| walk_at "go") => `(tactic| (repeat (walk_at "st"); try dsimp only))
section
variable {P : Program} {w : World} {G : Gi} {base : Heap} {ad : Ad} {f : Addr} {fd : FuncData}
--! raises Photo.__init__
--! xkept _law_told | _law_caught
--! xkept law | _law_caught
--! xrows BadPhoto
--! exci
--! exco BadPhoto
--! multup _law_bent | _law_lined * 10
--! multup _law_bent | _law_one * 10
--! lseti _law_are_rows | [len(_law_row) for _law_row in _law_thing]
--! only * __str__ |
--! only * __repr__ |
--! only * __eq__ |
--! only * __len__ |
noncomputable def m_is_name : MF := fnM 1
    (sSeq (sIf (bOr (bNot (toB (xCn isiD (aCons (frz (xVar 0)) (aCons (ret (.ty "str")) aNil))))) (bNot (toB (xChain leD leD (xC (.int 1)) (xUn lenD (xRd 0)) (xC (.int 8))))))
    (sRet (xC (.bl false)))
    sNil)
    (sRet (xAndV (xOp eqD (xM1 stripD (xBor 0) (frz (xC (.str "abcdefghijklmnopqrstuvwxyz")))) (xC (.str ""))) (xOp ninD (xBor 0) (xC (.tuk [(.str "pin"), (.str "again"), (.str "move"), (.str "take"), (.str "tear"), (.str "at"), (.str "to"), (.str "until"), (.str "strips"), (.str "known")]))))))
theorem fn_is_name (T : Tx G w) (F : Df G.K "is_name" "is_name" s_is_name f fd) :
    FnT P w G base false 1 f fd ["thing"] m_is_name := by
  refine Df.okT (N := ["thing"]) F sc_is_name (fun cdv A outer s H E hga hr => ?_)
  exact (ss_cons (s_if (PW.pt (xw_or (xt_not (xt_val (x_bn (k_isi rfl) d_isi (by rfl) T.b_isinstance bt_isinstance (xa_cons (x_frz (tv 0)) (xa_cons (x_ty (by rfl) T.b_str bt_str) xa_nil))))) (xw_or1 (xt_not (xt_chain op_le op_le d_le d_le (x_bor tc_int) (x_bor (x_b1 (k_len rfl) d_len (by rfl) T.b_len bt_len (tr 0))) (x_las (x_bor (tg T.LONGEST rfl (by rfl))))))))) (ss_one (s_ret tc_bl)) ss_nil)
      (ss_one (s_ret (x_and (x_cmp (k_eq rfl (hu64 hr)) d_eq (x_bor (x_m1 PySem.F.slot_str_strip PySem.F.type_str_strip mt_stripM d_strip (tb 0) (x_frz (tg T.LETTERS rfl (by rfl))))) (x_las (x_bor tc_str)) (nomark _)) (x_one (x_cmp (k_notIn rfl) d_nin (tb 0) (x_las (x_bor (tg T.WORDS rfl (by rfl)))) (by with_unfolding_all rfl)))))))
noncomputable def m_is_sign : MF := fnM 1
    (sRet (xAndV (xCn isiD (aCons (frz (xVar 0)) (aCons (ret (.ty "str")) aNil))) (xOrV (xOp inD (xBor 0) (xTup (aCons (frz (xC (.str "-"))) (aCons (frz (xC (.str "?"))) aNil)))) (xCall m_is_name (fun ds _ => ds) 1 (nK []) (aCons (frz (xVar 0)) aNil) aNil))))
theorem fn_is_sign (T : Tx G w) (F : Df G.K "is_sign" "is_sign" s_is_sign f fd)
    (K_is_name : KnT P w G base false "is_name" 1 1 [] (fun ds _ => ds) m_is_name) :
    FnT P w G base false 2 f fd ["thing"] m_is_sign := by
  refine Df.okT (N := ["thing"]) F sc_is_sign (fun cdv A outer s H E hga hr => ?_)
  exact (ss_one (s_ret (x_and (x_bn (k_isi rfl) d_isi (by rfl) T.b_isinstance bt_isinstance (xa_cons (x_frz (tv 0)) (xa_cons (x_ty (by rfl) T.b_str bt_str) xa_nil))) (x_one (x_or (x_cmp (k_in rfl) d_in (tb 0) (x_las (x_bor (x_tup (xa_cons (x_frz (tg T.BARE rfl (by rfl))) (xa_cons (x_frz (tg T.DARK rfl (by rfl))) xa_nil))))) (by with_unfolding_all rfl)) (x_one (x_call rfl rfl K_is_name nog (hr.mono (by decide)) (by rfl) (fun σ => passAt (takes_of rfl rfl rfl rfl) σ) (xa_cons (x_frz (tv 0)) xa_nil) xk_nil)))))))
noncomputable def m_are_rows : MF := fnM 3
    (sSeq (sIf (bOr (bNot (toB (xCn isiD (aCons (frz (xVar 0)) (aCons (ret (.ty "tuple")) aNil))))) (bNot (toB (xChain leD leD (xC (.int 1)) (xUn lenD (xRd 0)) (xC (.int 9))))))
    (sRet (xC (.bl false)))
    sNil)
    (sSeq (sFor (mSeq (frz (xVar 0))) (gN 1)
    (sSeq (sIf (bOr (bNot (toB (xCn isiD (aCons (frz (xVar 1)) (aCons (ret (.ty "tuple")) aNil))))) (bOr (bNot (toB (xChain leD leD (xC (.int 1)) (xUn lenD (xRd 1)) (xC (.int 9))))) (toB (xOp neD (xUn lenD (xRd 1)) (xUn lenD (xOpQ ixD (xRd 0) (fun _ => some (.int 0))))))))
    (sRet (xC (.bl false)))
    sNil)
    (sIf (bNot (toB (xUn allD (xLc [2] (mSeq (frz (xVar 1))) (gN 2) (ret true) (frz (xCall m_is_sign (fun ds _ => ds) 1 (nK []) (aCons (frz (xVar 2)) aNil) aNil))))))
    (sRet (xC (.bl false)))
    sNil)))
    (sRet (xC (.bl true)))))
theorem fn_are_rows (T : Tx G w) (F : Df G.K "are_rows" "are_rows" s_are_rows f fd)
    (K_is_sign : KnT P w G base false "is_sign" 2 1 [] (fun ds _ => ds) m_is_sign) :
    FnT P w G base false 3 f fd ["thing"] m_are_rows := by
  refine Df.okT (N := ["thing", "row", "one"]) F sc_are_rows (fun cdv A outer s H E hga hr => ?_)
  exact (ss_cons (s_if (PW.pt (xw_or (xt_not (xt_val (x_bn (k_isi rfl) d_isi (by rfl) T.b_isinstance bt_isinstance (xa_cons (x_frz (tv 0)) (xa_cons (x_ty (by rfl) T.b_tuple bt_tuple) xa_nil))))) (xw_or1 (xt_not (xt_chain op_le op_le d_le d_le (x_bor tc_int) (x_bor (x_b1 (k_len rfl) d_len (by rfl) T.b_len bt_len (tr 0))) (x_las (x_bor (tg T.MOST_SIDE rfl (by rfl))))))))) (ss_one (s_ret tc_bl)) ss_nil)
      (ss_cons (s_for (passes_of rfl) rfl (xi_any rfl (x_frz (tv 0))) (pg_name (i := 1) sc_are_rows.nd rfl (by first | exact Or.inl rfl | exact Or.inr rfl)) tg_name
      (ss_cons (s_if (PW.pt (xw_or (xt_not (xt_val (x_bn (k_isi rfl) d_isi (by rfl) T.b_isinstance bt_isinstance (xa_cons (x_frz (tv 1)) (xa_cons (x_ty (by rfl) T.b_tuple bt_tuple) xa_nil))))) (xw_or (xt_not (xt_chain op_le op_le d_le d_le (x_bor tc_int) (x_bor (x_b1 (k_len rfl) d_len (by rfl) T.b_len bt_len (tr 1))) (x_las (x_bor (tg T.MOST_SIDE rfl (by rfl)))))) (xw_or1 (xt_cmp (k_ne rfl (hu64 hr)) d_ne (x_bor (x_b1 (k_len rfl) d_len (by rfl) T.b_len bt_len (tr 1))) (x_las (x_bor (x_b1 (k_len rfl) d_len (by rfl) T.b_len bt_len (x_las (x_bor (x_ixQ (k_ix rfl) d_ix (tr 0) tq_int (fun _ _ => rfl))))))) (nomark _)))))) (ss_one (s_ret tc_bl)) ss_nil)
      (ss_one (s_if (xt_not (xt_val (x_b1 (k_all rfl rfl) d_all (by rfl) T.b_all bt_all (x_las (x_bor (x_lc (own := [("one", 2)]) (vs := [2]) rfl (by decide) rfl sc_are_rows.nd (xi_any rfl (x_frz (tv 1))) (blkOk_by (N := ["thing", "row", "one"]) (sc := defScope s_are_rows) (by decide +kernel)) (tw_name (by decide)) (fun _ _ _ _ _ => (pg_name (i := 2) sc_are_rows.nd rfl (by first | exact Or.inl rfl | exact Or.inr rfl))) (fun _ _ _ _ _ => xts_nil) (fun _ _ _ _ _ => (x_frz (x_call rfl rfl K_is_sign nog (hr.mono (by decide)) (by rfl) (fun _ => noPass) (xa_cons (x_frz (tv 2)) xa_nil) xk_nil))))))))) (ss_one (s_ret tc_bl)) ss_nil))))
      (ss_one (s_ret tc_bl))))
noncomputable def m_Photo_init : MF := fnI 2 "Photo"
    (sSeq (sIf (bNot (toB (xCall m_are_rows (fun ds _ => ds) 1 (nK []) (aCons (frz (xVar 1)) aNil) aNil)))
    (sRaiseB "BadPhoto")
    sNil)
    (sFldD CT "rows" 0 (frz (xVar 1))))
theorem fn_Photo_init (T : Tx G w) (F : Df G.K "__init__" "Photo.__init__" s_Photo_init f fd)
    (K_are_rows : KnT P w G base false "are_rows" 3 1 [] (fun ds _ => ds) m_are_rows)
    (K_exc_BadPhoto : XoT G "BadPhoto") :
    FnI P w G base 4 f fd ["self", "rows"] "Photo" m_Photo_init := by
  refine Df.okI (N := ["self", "rows"]) F sc_Photo_init ⟨_, rfl⟩ (fun cdv A outer s H E hr => ?_)
  exact (ss_cons (s_if (xt_not (xt_val (x_call rfl rfl K_are_rows nog (hr.mono (by decide)) (by rfl) (fun σ => passAt (takes_of rfl rfl rfl rfl) σ) (xa_cons (x_frz (tv 1)) xa_nil) xk_nil))) (ss_one (s_raiseB rfl rfl K_exc_BadPhoto (by rfl) rfl (takes_of rfl rfl rfl rfl))) ss_nil)
      (ss_one (s_fld (i := 0) T.kc rfl rfl (by first | exact Or.inl rfl | exact Or.inr (Or.inl rfl) | exact Or.inr (Or.inr rfl)) (x_frz (tv 1)))))
noncomputable def m_law_well : MF := fnM 6
    (sSeq (sPar3 3 4 5 (oCons (xLst aNil) (oCons (xC (.int 4099)) (oCons (xOp powD (xC (.int 10)) (xC (.int 60))) oNil))))
    (sSeq (sFor (mRng1 (aCons (frz (xC (.int 6))) aNil)) (gN 1)
    (sAsg 5 (xOp mulD (xBor 5) (xOp powD (xC (.int 10)) (xC (.int 60))))))
    (sSeq (sFor (mSeq (frz (xSl (xBor 0) (ret none) (mPart (xC (.int 63)))))) (gN 2)
    (sAsg 4 (xOp modD (xOp addD (xOp addD (xOp addD (xOp mulD (xBor 4) (xC (.int 69069))) (xOp modD (xBor 2) (xC (.int 1000003)))) (xRd 2)) (xC (.int 5))) (xC (.int 2305843009213693951)))))
    (sSeq (sIf (bAnd (toB (xOp gtD (xUn lenD (xRd 0)) (xC (.int 0)))) (toB (xOp geD (xOpQ ixD (xRd 0) (fun _ => some (.int 0))) (xOp powD (xC (.int 10)) (xC (.int 18))))))
    (sAsg 3 (xLc [2] (mSeq (frz (xSl (xBor 0) (ret none) (mPart (xC (.int 63)))))) (gN 2) (ret true) (frz (xOp modD (xUn absD (xRd 2)) (xRd 5)))))
    sNil)
    (sRet (xWell "own" "seed" "turn" 3 4 0))))))
theorem fn_law_well (T : Tx G w) (F : Df G.K "_law_well" "_law_well" s_law_well f fd) :
    FnT P w G base false 1 f fd ["_law_script"] m_law_well := by
  refine Df.okT (N := ["_law_script", "_law_k", "_law_cell", "_law_own", "_law_seed", "_law_far"]) F sc_law_well (fun cdv A outer s H E hga hr => ?_)
  exact (ss_cons (s_parH3 (xo_cons (x_lst xa_nil) (xo_cons tc_int (xo_cons (x_op op_pow d_pow (x_bor tc_int) (x_las (x_bor tc_int))) xo_nil))) (pg_tupK (K := G.K) rfl rfl (pgs_cons (pg_name (i := 3) sc_law_well.nd rfl (by first | exact Or.inl rfl | exact Or.inr rfl)) (pgs_cons (pg_name (i := 4) sc_law_well.nd rfl (by first | exact Or.inl rfl | exact Or.inr rfl)) (pgs_cons (pg_name (i := 5) sc_law_well.nd rfl (by first | exact Or.inl rfl | exact Or.inr rfl)) pgs_nil)))))
      (ss_cons (s_for (passes_of rfl) rfl (xi_range1 (by rfl) T.b_range (xa_cons (x_frz tc_int) xa_nil)) (pg_name (i := 1) sc_law_well.nd rfl (by first | exact Or.inl rfl | exact Or.inr rfl)) tg_name
      (ss_one (s_asg (i := 5) sc_law_well.nd rfl (by first | exact Or.inl rfl | exact Or.inr rfl) (x_op op_mulM d_mul (tb 5) (x_las (x_bor (x_op op_pow d_pow (x_bor tc_int) (x_las (x_bor tc_int)))))))))
      (ss_cons (s_for (passes_of rfl) rfl (xi_any rfl (x_frz (x_sl rfl (tb 0) xp_none (xp_some tc_int)))) (pg_name (i := 2) sc_law_well.nd rfl (by first | exact Or.inl rfl | exact Or.inr rfl)) tg_name
      (ss_one (s_asg (i := 4) sc_law_well.nd rfl (by first | exact Or.inl rfl | exact Or.inr rfl) (x_op op_mod d_mod (x_bor (x_op (op_addA rfl) d_add (x_bor (x_op (op_addA rfl) d_add (x_bor (x_op (op_addA rfl) d_add (x_bor (x_op op_mulM d_mul (tb 4) (x_las (x_bor tc_int)))) (x_las (x_bor (x_op op_mod d_mod (tb 2) (x_las (x_bor tc_int))))))) (tr 2))) (x_las (x_bor tc_int)))) (x_las (x_bor tc_int))))))
      (ss_cons (s_if (PW.pt (xw_and (xt_cmp op_gt d_gt (x_bor (x_b1 (k_len rfl) d_len (by rfl) T.b_len bt_len (tr 0))) (x_las (x_bor tc_int)) (nomark _)) (xw_and1 (xt_cmp op_ge d_ge (x_bor (x_ixQ (k_ix rfl) d_ix (tr 0) tq_int (fun _ _ => rfl))) (x_las (x_bor (x_op op_pow d_pow (x_bor tc_int) (x_las (x_bor tc_int))))) (nomark _))))) (ss_one (s_setLc (i := 3) (own := [("_law_cell", 2)]) (vs := [2]) rfl (by decide) rfl sc_law_well.nd rfl rfl (sw_true rfl rfl rfl (by decide +kernel)) (xi_any rfl (x_frz (x_sl rfl (tb 0) xp_none (xp_some tc_int)))) (blkOk_by (N := ["_law_script", "_law_k", "_law_cell", "_law_own", "_law_seed", "_law_far"]) (sc := defScope s_law_well) (by decide +kernel)) (tw_name (by decide)) (fun _ _ _ _ _ => (pg_name (i := 2) sc_law_well.nd rfl (by first | exact Or.inl rfl | exact Or.inr rfl))) (fun _ _ _ _ _ => xts_nil) (fun _ _ _ _ _ => (x_frz (x_op op_mod d_mod (x_bor (x_b1 call_absM d_abs (by rfl) T.b_abs bt_abs (tr 2))) (tr 5)))))) ss_nil)
      (ss_one (s_ret (x_well (i := 3) (i2 := 4) rfl (by first | exact Or.inl rfl | exact Or.inr (Or.inl rfl) | exact Or.inr (Or.inr rfl)) rfl (by first | exact Or.inl rfl | exact Or.inr (Or.inl rfl) | exact Or.inr (Or.inr rfl)))))))))
noncomputable def m_law_take : MF := fnM 5
    (sSeq (whileL (bAnd (toB (xNilD true 0 "own")) (toB (xOp eqD (xOpQ ixD (xDg 0 "own") (fun _ => some (.int 0))) (xC (.int 0)))))
    (sExpr (xPopD 0 "own" 0)) 1000)
    (sSeq (sIf (toB (xNilD true 0 "own"))
    (sSeq (sAsg 4 (xOp modD (xOpQ ixD (xDg 0 "own") (fun _ => some (.int 0))) (xRd 1)))
    (sSeq (sPutLD 0 "own" 0 (frz (xOp divD (xOpQ ixD (xDg 0 "own") (fun _ => some (.int 0))) (xRd 1))))
    (sRet (xMov 4))))
    sNil)
    (sSeq (sPutW 0 "turn" (frz (xOp addD (xDgF 0 "turn") (xC (.int 1)))))
    (sSeq (sAsg 2 (xDgF 0 "turn"))
    (sSeq (sAsg 3 (xOp modD (xOp mulD (xOp addD (xDgF 0 "seed") (xOp mulD (xOp mulD (xC (.int 7919)) (xRd 2)) (xRd 2))) (xC (.int 48271))) (xC (.int 2305843009213693907))))
    (sSeq (sAsg 3 (xOp modD (xOp mulD (xBor 3) (xOp addD (xOp addD (xOp modD (xBor 3) (xC (.int 999983))) (xOp mulD (xC (.int 131)) (xRd 2))) (xC (.int 3)))) (xC (.int 2305843009213693921))))
    (sRet (xOp modD (xOp addD (xOp divD (xBor 3) (xC (.int 89))) (xOp divD (xBor 3) (xC (.int 1000033)))) (xRd 1)))))))))
theorem fn_law_take (T : Tx G w) (F : Df G.K "_law_take" "_law_take" s_law_take f fd) :
    FnT P w G base false 1 f fd ["_law_well_here", "_law_many"] m_law_take := by
  refine Df.okT (N := ["_law_well_here", "_law_many", "_law_turn", "_law_once", "_law_digit"]) F sc_law_take (fun cdv A outer s H E hga hr => ?_)
  exact (ss_cons (s_while 1000 (passes_of rfl) (PW.pt (xw_and (xt_nilD (i := 0) true (k_neN rfl (hu64 hr)) (hu64 hr) rfl (by first | exact Or.inl rfl | exact Or.inr (Or.inl rfl) | exact Or.inr (Or.inr rfl)) (nomark _)) (xw_and1 (xt_cmp (k_eq rfl (hu64 hr)) d_eq (x_bor (x_ixQ (k_ix rfl) d_ix (x_dgL (i := 0) (hu64 hr) rfl (by first | exact Or.inl rfl | exact Or.inr (Or.inl rfl) | exact Or.inr (Or.inr rfl))) tq_int (fun _ _ => rfl))) (x_las (x_bor tc_int)) (nomark _)))))
      (ss_one (s_expr (x_popD (i := 0) rfl (hu64 hr) rfl (by first | exact Or.inl rfl | exact Or.inr (Or.inl rfl) | exact Or.inr (Or.inr rfl))))))
      (ss_cons (s_if (xt_nilD (i := 0) true (k_neN rfl (hu64 hr)) (hu64 hr) rfl (by first | exact Or.inl rfl | exact Or.inr (Or.inl rfl) | exact Or.inr (Or.inr rfl)) (nomark _)) (ss_cons (s_asg (i := 4) sc_law_take.nd rfl (by first | exact Or.inl rfl | exact Or.inr rfl) (x_op op_mod d_mod (x_bor (x_ixQ (k_ix rfl) d_ix (x_dgL (i := 0) (hu64 hr) rfl (by first | exact Or.inl rfl | exact Or.inr (Or.inl rfl) | exact Or.inr (Or.inr rfl))) tq_int (fun _ _ => rfl))) (tr 1)))
      (ss_cons (s_putLD (i := 0) (hu64 hr) rfl (by first | exact Or.inl rfl | exact Or.inr (Or.inl rfl) | exact Or.inr (Or.inr rfl)) (x_frz (x_op op_fdiv d_div (x_bor (x_ixQ (k_ix rfl) d_ix (x_dgL (i := 0) (hu64 hr) rfl (by first | exact Or.inl rfl | exact Or.inr (Or.inl rfl) | exact Or.inr (Or.inr rfl))) tq_int (fun _ _ => rfl))) (tr 1))))
      (ss_one (s_ret (tm 4))))) ss_nil)
      (ss_cons (s_putW (i := 0) (hu64 hr) rfl (by first | exact Or.inl rfl | exact Or.inr (Or.inl rfl) | exact Or.inr (Or.inr rfl)) (x_frz (x_op (op_addA rfl) d_add (x_bor (x_dgF (i := 0) (hu64 hr) rfl (by first | exact Or.inl rfl | exact Or.inr (Or.inl rfl) | exact Or.inr (Or.inr rfl)))) (x_las (x_bor tc_int)))))
      (ss_cons (s_asg (i := 2) sc_law_take.nd rfl (by first | exact Or.inl rfl | exact Or.inr rfl) (x_dgF (i := 0) (hu64 hr) rfl (by first | exact Or.inl rfl | exact Or.inr (Or.inl rfl) | exact Or.inr (Or.inr rfl))))
      (ss_cons (s_asg (i := 3) sc_law_take.nd rfl (by first | exact Or.inl rfl | exact Or.inr rfl) (x_op op_mod d_mod (x_bor (x_op op_mulM d_mul (x_bor (x_op (op_addA rfl) d_add (x_bor (x_dgF (i := 0) (hu64 hr) rfl (by first | exact Or.inl rfl | exact Or.inr (Or.inl rfl) | exact Or.inr (Or.inr rfl)))) (x_las (x_bor (x_op op_mulM d_mul (x_bor (x_op op_mulM d_mul (x_bor tc_int) (tr 2))) (tr 2)))))) (x_las (x_bor tc_int)))) (x_las (x_bor tc_int))))
      (ss_cons (s_asg (i := 3) sc_law_take.nd rfl (by first | exact Or.inl rfl | exact Or.inr rfl) (x_op op_mod d_mod (x_bor (x_op op_mulM d_mul (tb 3) (x_las (x_bor (x_op (op_addA rfl) d_add (x_bor (x_op (op_addA rfl) d_add (x_bor (x_op op_mod d_mod (tb 3) (x_las (x_bor tc_int)))) (x_las (x_bor (x_op op_mulM d_mul (x_bor tc_int) (tr 2)))))) (x_las (x_bor tc_int))))))) (x_las (x_bor tc_int))))
      (ss_one (s_ret (x_op op_mod d_mod (x_bor (x_op (op_addA rfl) d_add (x_bor (x_op op_fdiv d_div (tb 3) (x_las (x_bor tc_int)))) (x_las (x_bor (x_op op_fdiv d_div (tb 3) (x_las (x_bor tc_int))))))) (tr 1))))))))))
noncomputable def m_law_of : MF := fnM 2
    (sRet (xOp ixD (xBor 1) (xCall m_law_take (fun ds _ => ds) 2 (nK []) (aCons (frz (xVar 0)) (aCons (frz (xUn lenD (xRd 1))) aNil)) aNil)))
theorem fn_law_of (T : Tx G w) (F : Df G.K "_law_of" "_law_of" s_law_of f fd)
    (K_law_take : KnT P w G base false "_law_take" 1 2 [] (fun ds _ => ds) m_law_take) :
    FnT P w G base false 2 f fd ["_law_well_here", "_law_some"] m_law_of := by
  refine Df.okT (N := ["_law_well_here", "_law_some"]) F sc_law_of (fun cdv A outer s H E hga hr => ?_)
  exact (ss_one (s_ret (x_ix (k_ix rfl) d_ix (tb 1) (x_las (x_bor (x_call rfl rfl K_law_take nog (hr.mono (by decide)) (by rfl) (fun σ => passAt (takes_of rfl rfl rfl rfl) σ) (xa_cons (x_frz (tv 0)) (xa_cons (x_frz (x_b1 (k_len rfl) d_len (by rfl) T.b_len bt_len (tr 1))) xa_nil)) xk_nil))) (fun _ _ => rfl))))
noncomputable def m_law_name : MF := fnM 5
    (sSeq (sAsg 1 (xLst (aCons (frz (xC (.str "done"))) (aCons (frz (xC (.str "idle"))) (aCons (frz (xC (.str "gone"))) (aCons (frz (xC (.str "off"))) (aCons (frz (xC (.str "whole"))) (aCons (frz (xC (.str "partly"))) (aCons (frz (xC (.str "hidden"))) (aCons (frz (xC (.str "end"))) (aCons (frz (xC (.str "deeds"))) (aCons (frz (xC (.str "photo"))) (aCons (frz (xC (.str "order"))) (aCons (frz (xC (.str "ring"))) aNil))))))))))))))
    (sSeq (sAsg 1 (xOp addD (xBor 1) (xLst (aCons (frz (xC (.str "lot"))) (aCons (frz (xC (.str "untold"))) (aCons (frz (xC (.str "there"))) (aCons (frz (xC (.str "past"))) (aCons (frz (xC (.str "few"))) aNil))))))))
    (sSeq (sPar 2 3 (oCons (xCall m_law_take (fun ds _ => ds) 2 (nK []) (aCons (frz (xVar 0)) (aCons (frz (xC (.int 5))) aNil)) aNil) (oCons (xOp addD (xC (.int 1)) (xCall m_law_take (fun ds _ => ds) 2 (nK []) (aCons (frz (xVar 0)) (aCons (frz (xC (.int 8))) aNil)) aNil)) oNil)))
    (sSeq (sIf (toB (xOp eqD (xBor 2) (xC (.int 0))))
    (sRet (xCall m_law_of (fun ds _ => ds) 2 (nK []) (aCons (frz (xVar 0)) (aCons (frz (xVar 1)) aNil)) aNil))
    sNil)
    (sRet (xM1 joinD (xC (.str "")) (frz (xLc [4] (mRng1 (aCons (frz (xIf (toB (xOp eqD (xBor 2) (xC (.int 1)))) (xVar 3) (xOp addD (xC (.int 1)) (xOp modD (xBor 3) (xC (.int 2)))))) aNil)) (gN 4) (ret true) (frz (xCall m_law_of (fun ds _ => ds) 2 (nK []) (aCons (frz (xVar 0)) (aCons (frz (xC (.str "abcdefghijklmnopqrstuvwxyz"))) aNil)) aNil))))))))))
theorem fn_law_name (T : Tx G w) (F : Df G.K "_law_name" "_law_name" s_law_name f fd)
    (K_law_take : KnT P w G base false "_law_take" 1 2 [] (fun ds _ => ds) m_law_take)
    (K_law_of : KnT P w G base false "_law_of" 2 2 [] (fun ds _ => ds) m_law_of) :
    FnT P w G base false 3 f fd ["_law_well_here"] m_law_name := by
  refine Df.okT (N := ["_law_well_here", "_law_words", "_law_way", "_law_far", "_law_k"]) F sc_law_name (fun cdv A outer s H E hga hr => ?_)
  exact (ss_cons (s_asg (i := 1) sc_law_name.nd rfl (by first | exact Or.inl rfl | exact Or.inr rfl) (x_lst (xa_cons (x_frz tc_str) (xa_cons (x_frz tc_str) (xa_cons (x_frz tc_str) (xa_cons (x_frz tc_str) (xa_cons (x_frz tc_str) (xa_cons (x_frz tc_str) (xa_cons (x_frz tc_str) (xa_cons (x_frz tc_str) (xa_cons (x_frz tc_str) (xa_cons (x_frz tc_str) (xa_cons (x_frz tc_str) (xa_cons (x_frz tc_str) xa_nil))))))))))))))
      (ss_cons (s_asg (i := 1) sc_law_name.nd rfl (by first | exact Or.inl rfl | exact Or.inr rfl) (x_op (op_addA rfl) d_add (tb 1) (x_las (x_bor (x_lst (xa_cons (x_frz tc_str) (xa_cons (x_frz tc_str) (xa_cons (x_frz tc_str) (xa_cons (x_frz tc_str) (xa_cons (x_frz tc_str) xa_nil))))))))))
      (ss_cons (s_par (ps_par (i := 2) (j := 3) (by rfl) sc_law_name.nd rfl rfl (by decide) rfl rfl (xo_cons (x_call rfl rfl K_law_take nog (hr.mono (by decide)) (by rfl) (fun σ => passAt (takes_of rfl rfl rfl rfl) σ) (xa_cons (x_frz (tv 0)) (xa_cons (x_frz tc_int) xa_nil)) xk_nil) (xo_cons (x_op (op_addA rfl) d_add (x_bor tc_int) (x_las (x_bor (x_call rfl rfl K_law_take nog (hr.mono (by decide)) (by rfl) (fun σ => passAt (takes_of rfl rfl rfl rfl) σ) (xa_cons (x_frz (tv 0)) (xa_cons (x_frz tc_int) xa_nil)) xk_nil)))) xo_nil)) (by rfl)))
      (ss_cons (s_if (xt_cmp (k_eq rfl (hu64 hr)) d_eq (tb 2) (x_las (x_bor tc_int)) (nomark _)) (ss_one (s_ret (x_call rfl rfl K_law_of nog (hr.mono (by decide)) (by rfl) (fun σ => passAt (takes_of rfl rfl rfl rfl) σ) (xa_cons (x_frz (tv 0)) (xa_cons (x_frz (tv 1)) xa_nil)) xk_nil))) ss_nil)
      (ss_one (s_ret (x_m1 PySem.F.slot_str_join PySem.F.type_str_join (k_join rfl) d_join (x_bor tc_str) (x_frz (x_lc (own := [("_law_k", 4)]) (vs := [4]) rfl (by decide) rfl sc_law_name.nd (xi_range1 (by rfl) T.b_range (xa_cons (x_frz (x_if (xt_cmp (k_eq rfl (hu64 hr)) d_eq (tb 2) (x_las (x_bor tc_int)) (nomark _)) (tv 3) (x_op (op_addA rfl) d_add (x_bor tc_int) (x_las (x_bor (x_op op_mod d_mod (tb 3) (x_las (x_bor tc_int)))))))) xa_nil)) (blkOk_by (N := ["_law_well_here", "_law_words", "_law_way", "_law_far", "_law_k"]) (sc := defScope s_law_name) (by decide +kernel)) (tw_name (by decide)) (fun _ _ _ _ _ => (pg_name (i := 4) sc_law_name.nd rfl (by first | exact Or.inl rfl | exact Or.inr rfl))) (fun _ _ _ _ _ => xts_nil) (fun _ _ _ _ _ => (x_frz (x_call rfl rfl K_law_of nog (hr.mono (by decide)) (by rfl) (fun _ => noPass) (xa_cons (x_frz (tv 0)) (xa_cons (x_frz tc_str) xa_nil)) xk_nil))))))))))))
noncomputable def m_law_sign : MF := fnM 4
    (sSeq (sPar 2 3 (oCons (xLst (aCons (frz (xC (.str "pin"))) (aCons (frz (xC (.str "again"))) (aCons (frz (xC (.str "move"))) (aCons (frz (xC (.str "take"))) (aCons (frz (xC (.str "tear"))) (aCons (frz (xC (.str "at"))) (aCons (frz (xC (.str "to"))) (aCons (frz (xC (.str "until"))) (aCons (frz (xC (.str "strips"))) (aCons (frz (xC (.str "known"))) aNil))))))))))) (oCons (xCall m_law_take (fun ds _ => ds) 2 (nK []) (aCons (frz (xVar 0)) (aCons (frz (xC (.int 4))) aNil)) aNil) oNil)))
    (sSeq (sIf (toB (xOp ltD (xBor 3) (xC (.int 2))))
    (sRet (xOpQ ixD (xLst (aCons (frz (xC (.str "-"))) (aCons (frz (xC (.str "?"))) aNil))) (qVar 3)))
    sNil)
    (sSeq (sAsg 1 (xCall m_law_name (fun ds _ => ds) 1 (nK []) (aCons (frz (xVar 0)) aNil) aNil))
    (sRet (xIf (toB (xOp inD (xBor 1) (xRd 2))) (xOp addD (xBor 1) (xC (.str "q"))) (xVar 1))))))
theorem fn_law_sign (T : Tx G w) (F : Df G.K "_law_sign" "_law_sign" s_law_sign f fd)
    (K_law_take : KnT P w G base false "_law_take" 1 2 [] (fun ds _ => ds) m_law_take)
    (K_law_name : KnT P w G base false "_law_name" 3 1 [] (fun ds _ => ds) m_law_name) :
    FnT P w G base false 4 f fd ["_law_well_here"] m_law_sign := by
  refine Df.okT (N := ["_law_well_here", "_law_sign_here", "_law_kept", "_law_way"]) F sc_law_sign (fun cdv A outer s H E hga hr => ?_)
  exact (ss_cons (s_par (ps_par (i := 2) (j := 3) (by rfl) sc_law_sign.nd rfl rfl (by decide) rfl rfl (xo_cons (x_lst (xa_cons (x_frz tc_str) (xa_cons (x_frz tc_str) (xa_cons (x_frz tc_str) (xa_cons (x_frz tc_str) (xa_cons (x_frz tc_str) (xa_cons (x_frz tc_str) (xa_cons (x_frz tc_str) (xa_cons (x_frz tc_str) (xa_cons (x_frz tc_str) (xa_cons (x_frz tc_str) xa_nil))))))))))) (xo_cons (x_call rfl rfl K_law_take nog (hr.mono (by decide)) (by rfl) (fun σ => passAt (takes_of rfl rfl rfl rfl) σ) (xa_cons (x_frz (tv 0)) (xa_cons (x_frz tc_int) xa_nil)) xk_nil) xo_nil)) (by rfl)))
      (ss_cons (s_if (xt_cmp op_lt d_lt (tb 3) (x_las (x_bor tc_int)) (nomark _)) (ss_one (s_ret (x_ixQ (k_ix rfl) d_ix (x_las (x_bor (x_lst (xa_cons (x_frz tc_str) (xa_cons (x_frz tc_str) xa_nil))))) (tq 3) (fun _ _ => rfl)))) ss_nil)
      (ss_cons (s_asg (i := 1) sc_law_sign.nd rfl (by first | exact Or.inl rfl | exact Or.inr rfl) (x_call rfl rfl K_law_name nog (hr.mono (by decide)) (by rfl) (fun σ => passAt (takes_of rfl rfl rfl rfl) σ) (xa_cons (x_frz (tv 0)) xa_nil) xk_nil))
      (ss_one (s_ret (x_if (xt_cmp (k_in rfl) d_in (tb 1) (tr 2) (by with_unfolding_all rfl)) (x_op (op_addA rfl) d_add (tb 1) (x_las (x_bor tc_str))) (tv 1)))))))
noncomputable def m_law_any_rows : MF := fnM 6
    (sSeq (sAsg 1 (xLst (aCons (frz (xC (.int 1))) (aCons (frz (xC (.int 2))) (aCons (frz (xC (.int 3))) (aCons (frz (xC (.int 5))) (aCons (frz (xC (.int 9))) aNil)))))))
    (sSeq (sAsgT (gT [(gN 2), (gN 3)]) (frz (xTup (aCons (frz (xCall m_law_of (fun ds _ => ds) 2 (nK []) (aCons (frz (xVar 0)) (aCons (frz (xVar 1)) aNil)) aNil)) (aCons (frz (xCall m_law_of (fun ds _ => ds) 2 (nK []) (aCons (frz (xVar 0)) (aCons (frz (xVar 1)) aNil)) aNil)) aNil)))))
    (sRet (xUn tupleD (xLc [4] (mRng1 (aCons (frz (xVar 3)) aNil)) (gN 4) (ret true) (frz (xUn tupleD (xLc [5] (mRng1 (aCons (frz (xVar 2)) aNil)) (gN 5) (ret true) (frz (xCall m_law_sign (fun ds _ => ds) 1 (nK []) (aCons (frz (xVar 0)) aNil) aNil))))))))))
theorem fn_law_any_rows (T : Tx G w) (F : Df G.K "_law_any_rows" "_law_any_rows" s_law_any_rows f fd)
    (K_law_of : KnT P w G base false "_law_of" 2 2 [] (fun ds _ => ds) m_law_of)
    (K_law_sign : KnT P w G base false "_law_sign" 4 1 [] (fun ds _ => ds) m_law_sign) :
    FnT P w G base false 5 f fd ["_law_well_here"] m_law_any_rows := by
  refine Df.okT (N := ["_law_well_here", "_law_some", "_law_wide", "_law_high", "_law_y", "_law_x"]) F sc_law_any_rows (fun cdv A outer s H E hga hr => ?_)
  exact (ss_cons (s_asg (i := 1) sc_law_any_rows.nd rfl (by first | exact Or.inl rfl | exact Or.inr rfl) (x_lst (xa_cons (x_frz tc_int) (xa_cons (x_frz tc_int) (xa_cons (x_frz tc_int) (xa_cons (x_frz tc_int) (xa_cons (x_frz tc_int) xa_nil)))))))
      (ss_cons (s_asgT (x_frz (x_tup (xa_cons (x_frz (x_call rfl rfl K_law_of nog (hr.mono (by decide)) (by rfl) (fun σ => passAt (takes_of rfl rfl rfl rfl) σ) (xa_cons (x_frz (tv 0)) (xa_cons (x_frz (tv 1)) xa_nil)) xk_nil)) (xa_cons (x_frz (x_call rfl rfl K_law_of nog (hr.mono (by decide)) (by rfl) (fun σ => passAt (takes_of rfl rfl rfl rfl) σ) (xa_cons (x_frz (tv 0)) (xa_cons (x_frz (tv 1)) xa_nil)) xk_nil)) xa_nil)))) (pg_tupK (K := G.K) rfl rfl (pgs_cons (pg_name (i := 2) sc_law_any_rows.nd rfl (by first | exact Or.inl rfl | exact Or.inr rfl)) (pgs_cons (pg_name (i := 3) sc_law_any_rows.nd rfl (by first | exact Or.inl rfl | exact Or.inr rfl)) pgs_nil))) (tg_tupK rfl (tgs_cons tg_name (tgs_cons tg_name tgs_nil))))
      (ss_one (s_ret (x_t1 (call_tupK rfl) d_tuple (by rfl) T.b_tuple bt_tuple (x_las (x_bor (x_lc (own := [("_law_y", 4)]) (vs := [4]) rfl (by decide) rfl sc_law_any_rows.nd (xi_range1 (by rfl) T.b_range (xa_cons (x_frz (tv 3)) xa_nil)) (blkOk_by (N := ["_law_well_here", "_law_some", "_law_wide", "_law_high", "_law_y", "_law_x"]) (sc := defScope s_law_any_rows) (by decide +kernel)) (tw_name (by decide)) (fun _ _ _ _ _ => (pg_name (i := 4) sc_law_any_rows.nd rfl (by first | exact Or.inl rfl | exact Or.inr rfl))) (fun _ _ _ _ _ => xts_nil) (fun _ _ _ _ _ => (x_frz (x_t1 (call_tupK rfl) d_tuple (by rfl) T.b_tuple bt_tuple (x_las (x_bor (x_lc (own := [("_law_x", 5)]) (vs := [5]) rfl (by decide) rfl sc_law_any_rows.nd (xi_range1 (by rfl) T.b_range (xa_cons (x_frz (tv 2)) xa_nil)) (blkOk_by (N := ["_law_well_here", "_law_some", "_law_wide", "_law_high", "_law_y", "_law_x"]) (by rfl)) (tw_name (by decide)) (fun _ _ _ _ _ => (pg_name (i := 5) sc_law_any_rows.nd rfl (by first | exact Or.inl rfl | exact Or.inr rfl))) (fun _ _ _ _ _ => xts_nil) (fun _ _ _ _ _ => (x_frz (x_call rfl rfl K_law_sign nog (hr.mono (by decide)) (by rfl) (fun _ => noPass) (xa_cons (x_frz (tv 0)) xa_nil) xk_nil)))))))))))))))))
noncomputable def m_law_odd : MF := fnM 5
    (sSeq (sAsg 1 (xCall m_law_name (fun ds _ => ds) 1 (nK []) (aCons (frz (xVar 0)) aNil) aNil))
    (sSeq (sAsg 2 (xLst (aCons (frz (xC .non)) (aCons (frz (xC (.bl true))) (aCons (frz (xC (.int 0))) (aCons (frz (xC (.int 1))) (aCons (frz (xC (.str ""))) (aCons (frz (xC (.str "--"))) (aCons (frz (xC (.str "??"))) (aCons (frz (xC (.str "-?"))) (aCons (frz (xC (.str " "))) (aCons (frz (xC (.str "A"))) (aCons (frz (xC (.str "a1"))) (aCons (frz (xC (.str "a b"))) (aCons (frz (xC (.str "a_"))) (aCons (frz (xC (.str "a-"))) (aCons (frz (xC (.str "-a"))) (aCons (frz (xM0 upperD (xBor 1))) (aCons (frz (xTup (aCons (frz (xVar 1)) aNil))) aNil)))))))))))))))))))
    (sSeq (sAsg 2 (xOp addD (xBor 2) (xLst (aCons (frz (xC (.str "pin"))) (aCons (frz (xC (.str "again"))) (aCons (frz (xC (.str "move"))) (aCons (frz (xC (.str "take"))) (aCons (frz (xC (.str "tear"))) (aCons (frz (xC (.str "at"))) (aCons (frz (xC (.str "to"))) (aCons (frz (xC (.str "until"))) (aCons (frz (xC (.str "strips"))) (aCons (frz (xC (.str "known"))) (aCons (frz (xLst (aCons (frz (xVar 1)) aNil))) aNil))))))))))))))
    (sSeq (sAsg 2 (xOp addD (xBor 2) (xLst (aCons (frz (xC (.str "abcdefgh"))) (aCons (frz (xC (.str "abcdefghi"))) aNil)))))
    (sSeq (sAsg 3 (xCall m_law_of (fun ds _ => ds) 2 (nK []) (aCons (frz (xVar 0)) (aCons (frz (xOp addD (xBor 2) (xLst (aCons (frz (xOp addD (xBor 1) (xC (.str "abcdefgh")))) (aCons (frz (xOp mulD (xC (.str "z")) (xC (.int 4400)))) (aCons (frz (xTup aNil)) (aCons (frz (ret (.dct []))) (aCons (frz (xC (.str "a\n"))) (aCons (frz (xVar 1)) aNil))))))))) aNil)) aNil))
    (sSeq (sFor (mRng1 (aCons (frz (xOp ixD (xLst (aCons (frz (xC (.int 0))) (aCons (frz (xC (.int 0))) (aCons (frz (xC (.int 0))) (aCons (frz (xC (.int 1))) (aCons (frz (xC (.int 24))) aNil)))))) (xCall m_law_take (fun ds _ => ds) 2 (nK []) (aCons (frz (xVar 0)) (aCons (frz (xC (.int 5))) aNil)) aNil))) aNil)) (gN 4)
    (sAsg 3 (xOp ixD (xLst (aCons (frz (xTup (aCons (frz (xVar 3)) aNil))) (aCons (frz (xLst (aCons (frz (xVar 3)) aNil))) (aCons (frz (xOneK (fun _ => some (.str "a")) (qVar 3))) aNil)))) (xCall m_law_take (fun ds _ => ds) 2 (nK []) (aCons (frz (xVar 0)) (aCons (frz (xC (.int 3))) aNil)) aNil))))
    (sRet (xMov 3))))))))
theorem fn_law_odd (T : Tx G w) (F : Df G.K "_law_odd" "_law_odd" s_law_odd f fd)
    (K_law_name : KnT P w G base false "_law_name" 3 1 [] (fun ds _ => ds) m_law_name)
    (K_law_of : KnT P w G base false "_law_of" 2 2 [] (fun ds _ => ds) m_law_of)
    (K_law_take : KnT P w G base false "_law_take" 1 2 [] (fun ds _ => ds) m_law_take) :
    FnT P w G base false 4 f fd ["_law_well_here"] m_law_odd := by
  refine Df.okT (N := ["_law_well_here", "_law_word", "_law_some", "_law_thing", "_law_turn"]) F sc_law_odd (fun cdv A outer s H E hga hr => ?_)
  exact (ss_cons (s_asg (i := 1) sc_law_odd.nd rfl (by first | exact Or.inl rfl | exact Or.inr rfl) (x_call rfl rfl K_law_name nog (hr.mono (by decide)) (by rfl) (fun σ => passAt (takes_of rfl rfl rfl rfl) σ) (xa_cons (x_frz (tv 0)) xa_nil) xk_nil))
      (ss_cons (s_asg (i := 2) sc_law_odd.nd rfl (by first | exact Or.inl rfl | exact Or.inr rfl) (x_lst (xa_cons (x_frz tc_non) (xa_cons (x_frz tc_bl) (xa_cons (x_frz tc_int) (xa_cons (x_frz tc_int) (xa_cons (x_frz tc_str) (xa_cons (x_frz tc_str) (xa_cons (x_frz tc_str) (xa_cons (x_frz tc_str) (xa_cons (x_frz tc_str) (xa_cons (x_frz tc_str) (xa_cons (x_frz tc_str) (xa_cons (x_frz tc_str) (xa_cons (x_frz tc_str) (xa_cons (x_frz tc_str) (xa_cons (x_frz tc_str) (xa_cons (x_frz (x_m0 PySem.F.slot_str_upper PySem.F.type_str_upper mt_upperM d_upper (tb 1))) (xa_cons (x_frz (x_tup (xa_cons (x_frz (tv 1)) xa_nil))) xa_nil)))))))))))))))))))
      (ss_cons (s_asg (i := 2) sc_law_odd.nd rfl (by first | exact Or.inl rfl | exact Or.inr rfl) (x_op (op_addA rfl) d_add (tb 2) (x_las (x_bor (x_lst (xa_cons (x_frz tc_str) (xa_cons (x_frz tc_str) (xa_cons (x_frz tc_str) (xa_cons (x_frz tc_str) (xa_cons (x_frz tc_str) (xa_cons (x_frz tc_str) (xa_cons (x_frz tc_str) (xa_cons (x_frz tc_str) (xa_cons (x_frz tc_str) (xa_cons (x_frz tc_str) (xa_cons (x_frz (x_lst (xa_cons (x_frz (tv 1)) xa_nil))) xa_nil))))))))))))))))
      (ss_cons (s_asg (i := 2) sc_law_odd.nd rfl (by first | exact Or.inl rfl | exact Or.inr rfl) (x_op (op_addA rfl) d_add (tb 2) (x_las (x_bor (x_lst (xa_cons (x_frz tc_str) (xa_cons (x_frz tc_str) xa_nil)))))))
      (ss_cons (s_asg (i := 3) sc_law_odd.nd rfl (by first | exact Or.inl rfl | exact Or.inr rfl) (x_call rfl rfl K_law_of nog (hr.mono (by decide)) (by rfl) (fun σ => passAt (takes_of rfl rfl rfl rfl) σ) (xa_cons (x_frz (tv 0)) (xa_cons (x_frz (x_op (op_addA rfl) d_add (tb 2) (x_las (x_bor (x_lst (xa_cons (x_frz (x_op (op_addA rfl) d_add (tb 1) (x_las (x_bor tc_str)))) (xa_cons (x_frz (x_op op_mulM d_mul (x_bor tc_str) (x_las (x_bor tc_int)))) (xa_cons (x_frz (x_tup xa_nil)) (xa_cons (x_frz x_dict0) (xa_cons (x_frz tc_str) (xa_cons (x_frz (tv 1)) xa_nil))))))))))) xa_nil)) xk_nil))
      (ss_cons (s_for (passes_of rfl) rfl (xi_range1 (by rfl) T.b_range (xa_cons (x_frz (x_ix (k_ix rfl) d_ix (x_bor (x_lst (xa_cons (x_frz tc_int) (xa_cons (x_frz tc_int) (xa_cons (x_frz tc_int) (xa_cons (x_frz tc_int) (xa_cons (x_frz tc_int) xa_nil))))))) (x_las (x_bor (x_call rfl rfl K_law_take nog (hr.mono (by decide)) (by rfl) (fun σ => passAt (takes_of rfl rfl rfl rfl) σ) (xa_cons (x_frz (tv 0)) (xa_cons (x_frz tc_int) xa_nil)) xk_nil))) (fun _ _ => rfl))) xa_nil)) (pg_name (i := 4) sc_law_odd.nd rfl (by first | exact Or.inl rfl | exact Or.inr rfl)) tg_name
      (ss_one (s_asg (i := 3) sc_law_odd.nd rfl (by first | exact Or.inl rfl | exact Or.inr rfl) (x_ix (k_ix rfl) d_ix (x_bor (x_lst (xa_cons (x_frz (x_tup (xa_cons (x_frz (tv 3)) xa_nil))) (xa_cons (x_frz (x_lst (xa_cons (x_frz (tv 3)) xa_nil))) (xa_cons (x_frz (x_oneK tq_str (tq 3))) xa_nil))))) (x_las (x_bor (x_call rfl rfl K_law_take nog (hr.mono (by decide)) (by rfl) (fun σ => passAt (takes_of rfl rfl rfl rfl) σ) (xa_cons (x_frz (tv 0)) (xa_cons (x_frz tc_int) xa_nil)) xk_nil))) (fun _ _ => rfl)))))
      (ss_one (s_ret (tm 3)))))))))
noncomputable def m_law_bent : MF := fnM 8
    (sSeq (sAsgT (gT [(gN 2), (gN 3), (gN 4)]) (frz (xTup (aCons (frz (xCall m_law_take (fun ds _ => ds) 2 (nK []) (aCons (frz (xVar 0)) (aCons (frz (xUn lenD (xRd 1))) aNil)) aNil)) (aCons (frz (xCall m_law_take (fun ds _ => ds) 2 (nK []) (aCons (frz (xVar 0)) (aCons (frz (xUn lenD (xOpQ ixD (xRd 1) (fun _ => some (.int 0))))) aNil)) aNil)) (aCons (frz (xCall m_law_take (fun ds _ => ds) 2 (nK []) (aCons (frz (xVar 0)) (aCons (frz (xC (.int 12))) aNil)) aNil)) aNil))))))
    (sSeq (sPar 5 6 (oCons (xOpQ ixD (xRd 1) (qVar 2)) (oCons (xCall m_law_odd (fun ds _ => ds) 1 (nK []) (aCons (frz (xVar 0)) aNil) aNil) oNil)))
    (sSeq (sIf (toB (xOp ltD (xBor 4) (xC (.int 3))))
    (sRet (xOp addD (xOp addD (xSl (xBor 1) (ret none) (mPart (xVar 2))) (xTup (aCons (frz (xOp addD (xOp addD (xSl (xBor 5) (ret none) (mPart (xVar 3))) (xTup (aCons (frz (xVar 6)) aNil))) (xSl (xBor 5) (mPart (xOp addD (xBor 3) (xC (.int 1)))) (ret none)))) aNil))) (xSl (xBor 1) (mPart (xOp addD (xBor 2) (xC (.int 1)))) (ret none))))
    sNil)
    (sSeq (sIf (toB (xOp eqD (xBor 4) (xC (.int 3))))
    (sRet (xOp addD (xOp addD (xSl (xBor 1) (ret none) (mPart (xVar 2))) (xTup (aCons (frz (xVar 6)) aNil))) (xSl (xBor 1) (mPart (xOp addD (xBor 2) (xC (.int 1)))) (ret none))))
    sNil)
    (sSeq (sIf (toB (xOp eqD (xBor 4) (xC (.int 4))))
    (sRet (xMov 6))
    sNil)
    (sSeq (sIf (toB (xOp ltD (xBor 4) (xC (.int 7))))
    (sSeq (sAsg 5 (xOp ixD (xLst (aCons (frz (xOp addD (xSl (xBor 5) (ret none) (mPart (xVar 3))) (xSl (xBor 5) (mPart (xOp addD (xBor 3) (xC (.int 1)))) (ret none)))) (aCons (frz (xOp addD (xOp addD (xSl (xBor 5) (ret none) (mPart (xVar 3))) (xSl (xBor 5) (mPart (xVar 3)) (mPart (xOp addD (xBor 3) (xC (.int 1)))))) (xSl (xBor 5) (mPart (xVar 3)) (ret none)))) aNil))) (xOp subD (xBor 4) (xC (.int 5)))))
    (sRet (xOp addD (xOp addD (xSl (xBor 1) (ret none) (mPart (xVar 2))) (xTup (aCons (frz (xVar 5)) aNil))) (xSl (xBor 1) (mPart (xOp addD (xBor 2) (xC (.int 1)))) (ret none)))))
    sNil)
    (sSeq (sIf (toB (xOp eqD (xBor 4) (xC (.int 7))))
    (sRet (xSl (xOp mulTD (xBor 1) (xC (.int 10))) (ret none) (mPart (xOp addD (xC (.int 9)) (xCall m_law_take (fun ds _ => ds) 2 (nK []) (aCons (frz (xVar 0)) (aCons (frz (xC (.int 2))) aNil)) aNil)))))
    sNil)
    (sSeq (sIf (toB (xOp eqD (xBor 4) (xC (.int 8))))
    (sRet (xUn tupleD (xLc [7] (mSeq (frz (xVar 1))) (gN 7) (ret true) (frz (xSl (xOp mulTD (xBor 7) (xC (.int 10))) (ret none) (mPart (xOp addD (xC (.int 9)) (xOp modD (xBor 3) (xC (.int 2))))))))))
    sNil)
    (sSeq (sIf (toB (xOp eqD (xBor 4) (xC (.int 9))))
    (sRet (xOp ixD (xLst (aCons (frz (xUn listD (xRd 1))) (aCons (frz (xOp addD (xOp addD (xSl (xBor 1) (ret none) (mPart (xVar 2))) (xTup (aCons (frz (xUn listD (xRd 5))) aNil))) (xSl (xBor 1) (mPart (xOp addD (xBor 2) (xC (.int 1)))) (ret none)))) (aCons (frz (xOp addD (xSl (xBor 1) (ret none) (mPart (xVar 2))) (xTup (aCons (frz (xM1 joinD (xC (.str "")) (frz (xVar 5)))) aNil)))) aNil)))) (xOp modD (xBor 3) (xC (.int 3)))))
    sNil)
    (sSeq (sIf (toB (xOp eqD (xBor 4) (xC (.int 10))))
    (sRet (xOp ixD (xLst (aCons (frz (xTup aNil)) (aCons (frz (xOp mulTD (xTup (aCons (frz (xTup aNil)) aNil)) (xUn lenD (xRd 1)))) (aCons (frz (xOp addD (xOp addD (xSl (xBor 1) (ret none) (mPart (xVar 2))) (xTup (aCons (frz (xTup aNil)) aNil))) (xSl (xBor 1) (mPart (xOp addD (xBor 2) (xC (.int 1)))) (ret none)))) aNil)))) (xOp modD (xBor 3) (xC (.int 3)))))
    sNil)
    (sRet (xOp addD (xSl (xBor 1) (ret none) (mPart (xVar 2))) (xSl (xBor 1) (mPart (xOp addD (xBor 2) (xC (.int 1)))) (ret none))))))))))))))
theorem fn_law_bent (T : Tx G w) (F : Df G.K "_law_bent" "_law_bent" s_law_bent f fd)
    (K_law_take : KnT P w G base false "_law_take" 1 2 [] (fun ds _ => ds) m_law_take)
    (K_law_odd : KnT P w G base false "_law_odd" 4 1 [] (fun ds _ => ds) m_law_odd) :
    FnT P w G base false 5 f fd ["_law_well_here", "_law_lined"] m_law_bent := by
  refine Df.okT (N := ["_law_well_here", "_law_lined", "_law_at", "_law_spot", "_law_way", "_law_row", "_law_odd_here", "_law_one"]) F sc_law_bent (fun cdv A outer s H E hga hr => ?_)
  exact (ss_cons (s_asgT (x_frz (x_tup (xa_cons (x_frz (x_call rfl rfl K_law_take nog (hr.mono (by decide)) (by rfl) (fun σ => passAt (takes_of rfl rfl rfl rfl) σ) (xa_cons (x_frz (tv 0)) (xa_cons (x_frz (x_b1 (k_len rfl) d_len (by rfl) T.b_len bt_len (tr 1))) xa_nil)) xk_nil)) (xa_cons (x_frz (x_call rfl rfl K_law_take nog (hr.mono (by decide)) (by rfl) (fun σ => passAt (takes_of rfl rfl rfl rfl) σ) (xa_cons (x_frz (tv 0)) (xa_cons (x_frz (x_b1 (k_len rfl) d_len (by rfl) T.b_len bt_len (x_las (x_bor (x_ixQ (k_ix rfl) d_ix (tr 1) tq_int (fun _ _ => rfl)))))) xa_nil)) xk_nil)) (xa_cons (x_frz (x_call rfl rfl K_law_take nog (hr.mono (by decide)) (by rfl) (fun σ => passAt (takes_of rfl rfl rfl rfl) σ) (xa_cons (x_frz (tv 0)) (xa_cons (x_frz tc_int) xa_nil)) xk_nil)) xa_nil))))) (pg_tupK (K := G.K) rfl rfl (pgs_cons (pg_name (i := 2) sc_law_bent.nd rfl (by first | exact Or.inl rfl | exact Or.inr rfl)) (pgs_cons (pg_name (i := 3) sc_law_bent.nd rfl (by first | exact Or.inl rfl | exact Or.inr rfl)) (pgs_cons (pg_name (i := 4) sc_law_bent.nd rfl (by first | exact Or.inl rfl | exact Or.inr rfl)) pgs_nil)))) (tg_tupK rfl (tgs_cons tg_name (tgs_cons tg_name (tgs_cons tg_name tgs_nil)))))
      (ss_cons (s_par (ps_par (i := 5) (j := 6) (by rfl) sc_law_bent.nd rfl rfl (by decide) rfl rfl (xo_cons (x_ixQ (k_ix rfl) d_ix (tr 1) (tq 2) (fun _ _ => rfl)) (xo_cons (x_call rfl rfl K_law_odd nog (hr.mono (by decide)) (by rfl) (fun σ => passAt (takes_of rfl rfl rfl rfl) σ) (xa_cons (x_frz (tv 0)) xa_nil) xk_nil) xo_nil)) (by rfl)))
      (ss_cons (s_if (xt_cmp op_lt d_lt (tb 4) (x_las (x_bor tc_int)) (nomark _)) (ss_one (s_ret (x_op (op_addA rfl) d_add (x_bor (x_op (op_addA rfl) d_add (x_bor (x_sl rfl (tb 1) xp_none (xp_some (tv 2)))) (x_las (x_bor (x_tup (xa_cons (x_frz (x_op (op_addA rfl) d_add (x_bor (x_op (op_addA rfl) d_add (x_bor (x_sl rfl (tb 5) xp_none (xp_some (tv 3)))) (x_las (x_bor (x_tup (xa_cons (x_frz (tv 6)) xa_nil)))))) (x_las (x_bor (x_sl rfl (tb 5) (xp_some (x_op (op_addA rfl) d_add (tb 3) (x_las (x_bor tc_int)))) xp_none))))) xa_nil)))))) (x_las (x_bor (x_sl rfl (tb 1) (xp_some (x_op (op_addA rfl) d_add (tb 2) (x_las (x_bor tc_int)))) xp_none)))))) ss_nil)
      (ss_cons (s_if (xt_cmp (k_eq rfl (hu64 hr)) d_eq (tb 4) (x_las (x_bor tc_int)) (nomark _)) (ss_one (s_ret (x_op (op_addA rfl) d_add (x_bor (x_op (op_addA rfl) d_add (x_bor (x_sl rfl (tb 1) xp_none (xp_some (tv 2)))) (x_las (x_bor (x_tup (xa_cons (x_frz (tv 6)) xa_nil)))))) (x_las (x_bor (x_sl rfl (tb 1) (xp_some (x_op (op_addA rfl) d_add (tb 2) (x_las (x_bor tc_int)))) xp_none)))))) ss_nil)
      (ss_cons (s_if (xt_cmp (k_eq rfl (hu64 hr)) d_eq (tb 4) (x_las (x_bor tc_int)) (nomark _)) (ss_one (s_ret (tm 6))) ss_nil)
      (ss_cons (s_if (xt_cmp op_lt d_lt (tb 4) (x_las (x_bor tc_int)) (nomark _)) (ss_cons (s_asg (i := 5) sc_law_bent.nd rfl (by first | exact Or.inl rfl | exact Or.inr rfl) (x_ix (k_ix rfl) d_ix (x_bor (x_lst (xa_cons (x_frz (x_op (op_addA rfl) d_add (x_bor (x_sl rfl (tb 5) xp_none (xp_some (tv 3)))) (x_las (x_bor (x_sl rfl (tb 5) (xp_some (x_op (op_addA rfl) d_add (tb 3) (x_las (x_bor tc_int)))) xp_none))))) (xa_cons (x_frz (x_op (op_addA rfl) d_add (x_bor (x_op (op_addA rfl) d_add (x_bor (x_sl rfl (tb 5) xp_none (xp_some (tv 3)))) (x_las (x_bor (x_sl rfl (tb 5) (xp_some (tv 3)) (xp_some (x_op (op_addA rfl) d_add (tb 3) (x_las (x_bor tc_int))))))))) (x_las (x_bor (x_sl rfl (tb 5) (xp_some (tv 3)) xp_none))))) xa_nil)))) (x_las (x_bor (x_op op_sub d_sub (tb 4) (x_las (x_bor tc_int))))) (fun _ _ => rfl)))
      (ss_one (s_ret (x_op (op_addA rfl) d_add (x_bor (x_op (op_addA rfl) d_add (x_bor (x_sl rfl (tb 1) xp_none (xp_some (tv 2)))) (x_las (x_bor (x_tup (xa_cons (x_frz (tv 5)) xa_nil)))))) (x_las (x_bor (x_sl rfl (tb 1) (xp_some (x_op (op_addA rfl) d_add (tb 2) (x_las (x_bor tc_int)))) xp_none))))))) ss_nil)
      (ss_cons (s_if (xt_cmp (k_eq rfl (hu64 hr)) d_eq (tb 4) (x_las (x_bor tc_int)) (nomark _)) (ss_one (s_ret (x_sl rfl (x_bor (x_op (op_mulT rfl) d_mulT (tb 1) (x_las (x_bor tc_int)))) xp_none (xp_some (x_op (op_addA rfl) d_add (x_bor tc_int) (x_las (x_bor (x_call rfl rfl K_law_take nog (hr.mono (by decide)) (by rfl) (fun σ => passAt (takes_of rfl rfl rfl rfl) σ) (xa_cons (x_frz (tv 0)) (xa_cons (x_frz tc_int) xa_nil)) xk_nil)))))))) ss_nil)
      (ss_cons (s_if (xt_cmp (k_eq rfl (hu64 hr)) d_eq (tb 4) (x_las (x_bor tc_int)) (nomark _)) (ss_one (s_ret (x_t1 (call_tupK rfl) d_tuple (by rfl) T.b_tuple bt_tuple (x_las (x_bor (x_lc (own := [("_law_one", 7)]) (vs := [7]) rfl (by decide) rfl sc_law_bent.nd (xi_any rfl (x_frz (tv 1))) (blkOk_by (N := ["_law_well_here", "_law_lined", "_law_at", "_law_spot", "_law_way", "_law_row", "_law_odd_here", "_law_one"]) (sc := defScope s_law_bent) (by decide +kernel)) (tw_name (by decide)) (fun _ _ _ _ _ => (pg_name (i := 7) sc_law_bent.nd rfl (by first | exact Or.inl rfl | exact Or.inr rfl))) (fun _ _ _ _ _ => xts_nil) (fun _ _ _ _ _ => (x_frz (x_sl rfl (x_bor (x_op (op_mulT rfl) d_mulT (tb 7) (x_las (x_bor tc_int)))) xp_none (xp_some (x_op (op_addA rfl) d_add (x_bor tc_int) (x_las (x_bor (x_op op_mod d_mod (tb 3) (x_las (x_bor tc_int)))))))))))))))) ss_nil)
      (ss_cons (s_if (xt_cmp (k_eq rfl (hu64 hr)) d_eq (tb 4) (x_las (x_bor tc_int)) (nomark _)) (ss_one (s_ret (x_ix (k_ix rfl) d_ix (x_bor (x_lst (xa_cons (x_frz (x_t1 (call_lstK rfl) d_list (by rfl) T.b_list bt_list (tr 1))) (xa_cons (x_frz (x_op (op_addA rfl) d_add (x_bor (x_op (op_addA rfl) d_add (x_bor (x_sl rfl (tb 1) xp_none (xp_some (tv 2)))) (x_las (x_bor (x_tup (xa_cons (x_frz (x_t1 (call_lstK rfl) d_list (by rfl) T.b_list bt_list (tr 5))) xa_nil)))))) (x_las (x_bor (x_sl rfl (tb 1) (xp_some (x_op (op_addA rfl) d_add (tb 2) (x_las (x_bor tc_int)))) xp_none))))) (xa_cons (x_frz (x_op (op_addA rfl) d_add (x_bor (x_sl rfl (tb 1) xp_none (xp_some (tv 2)))) (x_las (x_bor (x_tup (xa_cons (x_frz (x_m1 PySem.F.slot_str_join PySem.F.type_str_join (k_join rfl) d_join (x_bor tc_str) (x_frz (tv 5)))) xa_nil)))))) xa_nil))))) (x_las (x_bor (x_op op_mod d_mod (tb 3) (x_las (x_bor tc_int))))) (fun _ _ => rfl)))) ss_nil)
      (ss_cons (s_if (xt_cmp (k_eq rfl (hu64 hr)) d_eq (tb 4) (x_las (x_bor tc_int)) (nomark _)) (ss_one (s_ret (x_ix (k_ix rfl) d_ix (x_bor (x_lst (xa_cons (x_frz (x_tup xa_nil)) (xa_cons (x_frz (x_op (op_mulT rfl) d_mulT (x_bor (x_tup (xa_cons (x_frz (x_tup xa_nil)) xa_nil))) (x_las (x_bor (x_b1 (k_len rfl) d_len (by rfl) T.b_len bt_len (tr 1)))))) (xa_cons (x_frz (x_op (op_addA rfl) d_add (x_bor (x_op (op_addA rfl) d_add (x_bor (x_sl rfl (tb 1) xp_none (xp_some (tv 2)))) (x_las (x_bor (x_tup (xa_cons (x_frz (x_tup xa_nil)) xa_nil)))))) (x_las (x_bor (x_sl rfl (tb 1) (xp_some (x_op (op_addA rfl) d_add (tb 2) (x_las (x_bor tc_int)))) xp_none))))) xa_nil))))) (x_las (x_bor (x_op op_mod d_mod (tb 3) (x_las (x_bor tc_int))))) (fun _ _ => rfl)))) ss_nil)
      (ss_one (s_ret (x_op (op_addA rfl) d_add (x_bor (x_sl rfl (tb 1) xp_none (xp_some (tv 2)))) (x_las (x_bor (x_sl rfl (tb 1) (xp_some (x_op (op_addA rfl) d_add (tb 2) (x_las (x_bor tc_int)))) xp_none))))))))))))))))
noncomputable def m_law_is_sign : MF := fnM 3
    (sSeq (sIf (bOr (bNot (toB (xCn isiD (aCons (frz (xVar 0)) (aCons (ret (.ty "str")) aNil))))) (bNot (toB (xChain leD leD (xC (.int 1)) (xUn lenD (xRd 0)) (xC (.int 8))))))
    (sRet (xC (.bl false)))
    sNil)
    (sSeq (sIf (toB (xOp inD (xBor 0) (xTup (aCons (frz (xC (.str "-"))) (aCons (frz (xC (.str "?"))) aNil)))))
    (sRet (xC (.bl true)))
    sNil)
    (sSeq (sAsg 1 (xC (.str "pin again move take tear at to until strips known")))
    (sRet (xAndV (xUn allD (xLc [2] (mSeq (frz (xVar 0))) (gN 2) (ret true) (frz (xOp inD (xBor 2) (xC (.str "abcdefghijklmnopqrstuvwxyz")))))) (xOp ninD (xBor 0) (xM1 splitD (xBor 1) (frz (xC (.str " "))))))))))
theorem fn_law_is_sign (T : Tx G w) (F : Df G.K "_law_is_sign" "_law_is_sign" s_law_is_sign f fd) :
    FnT P w G base false 1 f fd ["_law_thing"] m_law_is_sign := by
  refine Df.okT (N := ["_law_thing", "_law_kept", "_law_sign_here"]) F sc_law_is_sign (fun cdv A outer s H E hga hr => ?_)
  exact (ss_cons (s_if (PW.pt (xw_or (xt_not (xt_val (x_bn (k_isi rfl) d_isi (by rfl) T.b_isinstance bt_isinstance (xa_cons (x_frz (tv 0)) (xa_cons (x_ty (by rfl) T.b_str bt_str) xa_nil))))) (xw_or1 (xt_not (xt_chain op_le op_le d_le d_le (x_bor tc_int) (x_bor (x_b1 (k_len rfl) d_len (by rfl) T.b_len bt_len (tr 0))) (x_las (x_bor tc_int))))))) (ss_one (s_ret tc_bl)) ss_nil)
      (ss_cons (s_if (xt_cmp (k_in rfl) d_in (tb 0) (x_las (x_bor (x_tup (xa_cons (x_frz tc_str) (xa_cons (x_frz tc_str) xa_nil))))) (by with_unfolding_all rfl)) (ss_one (s_ret tc_bl)) ss_nil)
      (ss_cons (s_asg (i := 1) sc_law_is_sign.nd rfl (by first | exact Or.inl rfl | exact Or.inr rfl) tc_str)
      (ss_one (s_ret (x_and (x_b1 (k_all rfl rfl) d_all (by rfl) T.b_all bt_all (x_las (x_bor (x_lc (own := [("_law_sign_here", 2)]) (vs := [2]) rfl (by decide) rfl sc_law_is_sign.nd (xi_any rfl (x_frz (tv 0))) (blkOk_by (N := ["_law_thing", "_law_kept", "_law_sign_here"]) (sc := defScope s_law_is_sign) (by decide +kernel)) (tw_name (by decide)) (fun _ _ _ _ _ => (pg_name (i := 2) sc_law_is_sign.nd rfl (by first | exact Or.inl rfl | exact Or.inr rfl))) (fun _ _ _ _ _ => xts_nil) (fun _ _ _ _ _ => (x_frz (x_cmp (k_in rfl) d_in (tb 2) (x_las (x_bor tc_str)) (by with_unfolding_all rfl)))))))) (x_one (x_cmp (k_notIn rfl) d_nin (tb 0) (x_las (x_bor (x_m1 PySem.F.slot_str_split PySem.F.type_str_split mt_splitM d_split (tb 1) (x_frz tc_str)))) (by with_unfolding_all rfl)))))))))
noncomputable def m_law_are_rows : MF := fnM 3
    (sSeq (sIf (bOr (bNot (toB (xCn isiD (aCons (frz (xVar 0)) (aCons (ret (.ty "tuple")) aNil))))) (bNot (toB (xChain leD leD (xC (.int 1)) (xUn lenD (xRd 0)) (xC (.int 9))))))
    (sRet (xC (.bl false)))
    sNil)
    (sSeq (sIf (bNot (toB (xUn allD (xLc [1] (mSeq (frz (xVar 0))) (gN 1) (ret true) (frz (xAndV (xCn isiD (aCons (frz (xVar 1)) (aCons (ret (.ty "tuple")) aNil))) (xChain leD leD (xC (.int 1)) (xUn lenD (xRd 1)) (xC (.int 9)))))))))
    (sRet (xC (.bl false)))
    sNil)
    (sSeq (sIf (toB (xOp gtD (xUn lenSetID (xLc [1] (mSeq (frz (xVar 0))) (gN 1) (ret true) (frz (xUn lenD (xRd 1))))) (xC (.int 1))))
    (sRet (xC (.bl false)))
    sNil)
    (sRet (xUn allD (xLc [1] (mSeq (frz (xVar 0))) (gN 1) (ret true) (frz (xUn allD (xLc [2] (mSeq (frz (xVar 1))) (gN 2) (ret true) (frz (xCall m_law_is_sign (fun ds _ => ds) 1 (nK []) (aCons (frz (xVar 2)) aNil) aNil)))))))))))
theorem fn_law_are_rows (T : Tx G w) (F : Df G.K "_law_are_rows" "_law_are_rows" s_law_are_rows f fd)
    (K_law_is_sign : KnT P w G base false "_law_is_sign" 1 1 [] (fun ds _ => ds) m_law_is_sign) :
    FnT P w G base false 2 f fd ["_law_thing"] m_law_are_rows := by
  refine Df.okT (N := ["_law_thing", "_law_row", "_law_one"]) F sc_law_are_rows (fun cdv A outer s H E hga hr => ?_)
  exact (ss_cons (s_if (PW.pt (xw_or (xt_not (xt_val (x_bn (k_isi rfl) d_isi (by rfl) T.b_isinstance bt_isinstance (xa_cons (x_frz (tv 0)) (xa_cons (x_ty (by rfl) T.b_tuple bt_tuple) xa_nil))))) (xw_or1 (xt_not (xt_chain op_le op_le d_le d_le (x_bor tc_int) (x_bor (x_b1 (k_len rfl) d_len (by rfl) T.b_len bt_len (tr 0))) (x_las (x_bor tc_int))))))) (ss_one (s_ret tc_bl)) ss_nil)
      (ss_cons (s_if (xt_not (xt_val (x_b1 (k_all rfl rfl) d_all (by rfl) T.b_all bt_all (x_las (x_bor (x_lc (own := [("_law_row", 1)]) (vs := [1]) rfl (by decide) rfl sc_law_are_rows.nd (xi_any rfl (x_frz (tv 0))) (blkOk_by (N := ["_law_thing", "_law_row", "_law_one"]) (sc := defScope s_law_are_rows) (by decide +kernel)) (tw_name (by decide)) (fun _ _ _ _ _ => (pg_name (i := 1) sc_law_are_rows.nd rfl (by first | exact Or.inl rfl | exact Or.inr rfl))) (fun _ _ _ _ _ => xts_nil) (fun _ _ _ _ _ => (x_frz (x_and (x_bn (k_isi rfl) d_isi (by rfl) T.b_isinstance bt_isinstance (xa_cons (x_frz (tv 1)) (xa_cons (x_ty (by rfl) T.b_tuple bt_tuple) xa_nil))) (x_one (x_chain op_le op_le d_le d_le (x_bor tc_int) (x_bor (x_b1 (k_len rfl) d_len (by rfl) T.b_len bt_len (tr 1))) (x_las (x_bor tc_int))))))))))))) (ss_one (s_ret tc_bl)) ss_nil)
      (ss_cons (s_if (xt_cmp op_gt d_gt (x_bor (x_lenSetI rfl rfl (by rfl) T.b_len (by rfl) T.b_set (x_las (x_bor (x_lc (own := [("_law_row", 1)]) (vs := [1]) rfl (by decide) rfl sc_law_are_rows.nd (xi_any rfl (x_frz (tv 0))) (blkOk_by (N := ["_law_thing", "_law_row", "_law_one"]) (sc := defScope s_law_are_rows) (by decide +kernel)) (tw_name (by decide)) (fun _ _ _ _ _ => (pg_name (i := 1) sc_law_are_rows.nd rfl (by first | exact Or.inl rfl | exact Or.inr rfl))) (fun _ _ _ _ _ => xts_nil) (fun _ _ _ _ _ => (x_frz (x_b1 (k_len rfl) d_len (by rfl) T.b_len bt_len (tr 1))))))))) (x_las (x_bor tc_int)) (nomark _)) (ss_one (s_ret tc_bl)) ss_nil)
      (ss_one (s_ret (x_b1 (k_all rfl rfl) d_all (by rfl) T.b_all bt_all (x_las (x_bor (x_lc (own := [("_law_row", 1)]) (vs := [1]) rfl (by decide) rfl sc_law_are_rows.nd (xi_any rfl (x_frz (tv 0))) (blkOk_by (N := ["_law_thing", "_law_row", "_law_one"]) (sc := defScope s_law_are_rows) (by decide +kernel)) (tw_name (by decide)) (fun _ _ _ _ _ => (pg_name (i := 1) sc_law_are_rows.nd rfl (by first | exact Or.inl rfl | exact Or.inr rfl))) (fun _ _ _ _ _ => xts_nil) (fun _ _ _ _ _ => (x_frz (x_b1 (k_all rfl rfl) d_all (by rfl) T.b_all bt_all (x_las (x_bor (x_lc (own := [("_law_one", 2)]) (vs := [2]) rfl (by decide) rfl sc_law_are_rows.nd (xi_any rfl (x_frz (tv 1))) (blkOk_by (N := ["_law_thing", "_law_row", "_law_one"]) (by rfl)) (tw_name (by decide)) (fun _ _ _ _ _ => (pg_name (i := 2) sc_law_are_rows.nd rfl (by first | exact Or.inl rfl | exact Or.inr rfl))) (fun _ _ _ _ _ => xts_nil) (fun _ _ _ _ _ => (x_frz (x_call rfl rfl K_law_is_sign nog (hr.mono (by decide)) (by rfl) (fun _ => noPass) (xa_cons (x_frz (tv 2)) xa_nil) xk_nil))))))))))))))))))
def g_Photo_init_1_rows : List D → List D → List D := fun ds es => pick [(2, 0)] ds [] es
noncomputable def m_law_told : MF := fnM 5
    (sSeq (sAsgT (gT [(gN 3), (gN 4)]) (frz (xTup (aCons (frz (xC .non)) (aCons (frz (xC .non)) aNil)))))
    (sSeq (sTryKeep 2 4 [("BadPhoto", true)]
    (sIf (toB (xOp eqD (xBor 1) (xC (.int 0))))
    (sAsg 3 (xCall m_Photo_init (fun ds _ => ds) 1 (nK []) (aCons (frz (xVar 0)) aNil) aNil))
    (sAsg 3 (xCall m_Photo_init g_Photo_init_1_rows 0 (nK ["rows"]) aNil (aCons (frz (xVar 0)) aNil)))))
    (sRet (xTup (aCons (frz (xVar 3)) (aCons (frz (xVar 4)) aNil))))))
theorem fn_law_told (T : Tx G w) (F : Df G.K "_law_told" "_law_told" s_law_told f fd)
    (K_Photo_init : MkT P w G base "Photo" 4 1 [] (fun ds _ => ds) m_Photo_init)
    (K_Photo_init_1_rows : MkT P w G base "Photo" 4 0 ["rows"] g_Photo_init_1_rows m_Photo_init) :
    FnT P w G base false 6 f fd ["_law_thing", "_law_way"] m_law_told := by
  refine Df.okT (N := ["_law_thing", "_law_way", "e", "_law_told_here", "_law_caught"]) F sc_law_told (fun cdv A outer s H E hga hr => ?_)
  exact (ss_cons (s_asgT (x_frz (x_tup (xa_cons (x_frz tc_non) (xa_cons (x_frz tc_non) xa_nil)))) (pg_tupK (K := G.K) rfl rfl (pgs_cons (pg_name (i := 3) sc_law_told.nd rfl (by first | exact Or.inl rfl | exact Or.inr rfl)) (pgs_cons (pg_name (i := 4) sc_law_told.nd rfl (by first | exact Or.inl rfl | exact Or.inr rfl)) pgs_nil))) (tg_tupK rfl (tgs_cons tg_name (tgs_cons tg_name tgs_nil))))
      (ss_cons (s_tryKeep (i := 2) (j := 4) rfl rfl T.h_CardError (by rfl) rfl rfl rfl sc_law_told.nd rfl rfl (by decide) rfl rfl (takes_of rfl rfl rfl rfl)
      (fun W pn xe tk po => (ss_one (s_if (xt_cmp (k_eq rfl (hu64 hr)) d_eq (tb 1) (x_las (x_bor tc_int)) (nomark _)) (ss_one (s_asg (i := 3) sc_law_told.nd rfl (by first | exact Or.inl rfl | exact Or.inr rfl) (x_make rfl rfl K_Photo_init (hr.mono (by decide)) (by rfl) (fun σ => passAt tk σ) (xa_cons (x_frz (tv 0)) xa_nil) xk_nil))) (ss_one (s_asg (i := 3) sc_law_told.nd rfl (by first | exact Or.inl rfl | exact Or.inr rfl) (x_makeK0 rfl rfl K_Photo_init_1_rows (hr.mono (by decide)) (by rfl) (fun σ => passAt tk σ) (xk_cons (x_frz (tv 0)) xk_nil))))))))
      (ss_one (s_ret (x_tup (xa_cons (x_frz (tv 3)) (xa_cons (x_frz (tv 4)) xa_nil)))))))
noncomputable def m_law : MF := fnM 9
    (sSeq (sAsgC 1 (xCall m_law_well (fun ds _ => ds) 1 (nK []) (aCons (frz (xVar 0)) aNil) aNil))
    (sSeq (sFor (mRng1 (aCons (frz (xC (.int 14))) aNil)) (gN 2)
    (sSeq (sAsg 3 (xCall m_law_any_rows (fun ds _ => ds) 1 (nK []) (aCons (frz (xVar 1)) aNil) aNil))
    (sSeq (sFor (mRng1 (aCons (frz (xOp ixD (xLst (aCons (frz (xC (.int 1))) (aCons (frz (xC (.int 1))) (aCons (frz (xC (.int 1))) (aCons (frz (xC (.int 2))) (aCons (frz (xC (.int 0))) aNil)))))) (xCall m_law_take (fun ds _ => ds) 2 (nK []) (aCons (frz (xVar 1)) (aCons (frz (xC (.int 5))) aNil)) aNil))) aNil)) (gN 4)
    (sIf (toB (xCall m_law_are_rows (fun ds _ => ds) 1 (nK []) (aCons (frz (xVar 3)) aNil) aNil))
    (sAsg 3 (xCall m_law_bent (fun ds _ => ds) 2 (nK []) (aCons (frz (xVar 1)) (aCons (frz (xVar 3)) aNil)) aNil))
    sNil))
    (sSeq (sPar 5 6 (oCons (xUn reprD (xRd 3)) (oCons (xCall m_law_are_rows (fun ds _ => ds) 1 (nK []) (aCons (frz (xVar 3)) aNil) aNil) oNil)))
    (sSeq (sAsgT (gT [(gN 7), (gN 8)]) (frz (xCall m_law_told (fun ds _ => ds) 2 (nK []) (aCons (frz (xVar 3)) (aCons (frz (xOp modD (xBor 2) (xC (.int 2)))) aNil)) aNil)))
    (sSeq (sIf (bOr (toB (xOp neD (xUn reprD (xRd 3)) (xRd 5))) (toB (xOp neD (xBor 6) (xOp isD (xBor 8) (xC .non)))))
    (sRet (xC (.bl false)))
    sNil)
    (sSeq (sIf (bAnd (toB (xVar 6)) (bOr (bNot (toB (xCn (isiO CLS) (aCons (frz (xVar 7)) (aCons (frz (xC (.fn "Photo"))) aNil))))) (toB (xOp neD (xFldF CT "rows" (xRd 7)) (xRd 3)))))
    (sRet (xC (.bl false)))
    sNil)
    (sIf (bNot (toB (xVar 6)))
    (sSeq (sIf (bOr (bNot (toB (xCn (isiXT IXT BXT) (aCons (frz (xVar 8)) (aCons (frz (xC (.fn "BadPhoto"))) aNil))))) (toB (xCn (isiXT IXT BXT) (aCons (frz (xVar 8)) (aCons (frz (xTup (aCons (frz (xC (.fn "NoText"))) (aCons (frz (xC (.fn "BadCard"))) (aCons (frz (xC (.fn "BadBoard"))) aNil))))) aNil)))))
    (sRet (xC (.bl false)))
    sNil)
    (sIf (bNot (toB (xCn (isiXT IXT BXT) (aCons (frz (xVar 8)) (aCons (ret (.ty "ValueError")) aNil)))))
    (sRet (xC (.bl false)))
    sNil))
    sNil))))))))
    (sRet (xC (.bl true)))))
theorem fn_law (T : Tx G w) (F : Df G.K "law" "law" s_law f fd) (SM : Sm base)
    (K_law_well : KnT P w G base false "_law_well" 1 1 [] (fun ds _ => ds) m_law_well)
    (K_law_any_rows : KnT P w G base false "_law_any_rows" 5 1 [] (fun ds _ => ds) m_law_any_rows)
    (K_law_take : KnT P w G base false "_law_take" 1 2 [] (fun ds _ => ds) m_law_take)
    (K_law_are_rows : KnT P w G base false "_law_are_rows" 2 1 [] (fun ds _ => ds) m_law_are_rows)
    (K_law_bent : KnT P w G base false "_law_bent" 5 2 [] (fun ds _ => ds) m_law_bent)
    (K_law_told : KnT P w G base false "_law_told" 6 2 [] (fun ds _ => ds) m_law_told) :
    FnT P w G base true 7 f fd ["_law_script"] m_law := by
  refine Df.okT (N := ["_law_script", "_law_well_here", "_law_turn", "_law_bent_here", "_law_k", "_law_kept", "_law_due", "_law_told_here", "_law_caught"]) F sc_law (fun cdv A outer s H E hga hr => ?_)
  exact (ss_cons (s_asgC (i := 1) sc_law.nd rfl (by first | exact Or.inl rfl | exact Or.inr rfl) (x_call rfl rfl K_law_well nog (hr.mono (by decide)) (by rfl) (fun σ => passAt (takes_of rfl rfl rfl rfl) σ) (xa_cons (x_frz (tv 0)) xa_nil) xk_nil))
      (ss_cons (s_for (passes_of rfl) rfl (xi_range1 (by rfl) T.b_range (xa_cons (x_frz tc_int) xa_nil)) (pg_name (i := 2) sc_law.nd rfl (by first | exact Or.inl rfl | exact Or.inr rfl)) tg_name
      (ss_cons (s_asg (i := 3) sc_law.nd rfl (by first | exact Or.inl rfl | exact Or.inr rfl) (x_call rfl rfl K_law_any_rows nog (hr.mono (by decide)) (by rfl) (fun σ => passAt (takes_of rfl rfl rfl rfl) σ) (xa_cons (x_frz (tv 1)) xa_nil) xk_nil))
      (ss_cons (s_for (passes_of rfl) rfl (xi_range1 (by rfl) T.b_range (xa_cons (x_frz (x_ix (k_ix rfl) d_ix (x_bor (x_lst (xa_cons (x_frz tc_int) (xa_cons (x_frz tc_int) (xa_cons (x_frz tc_int) (xa_cons (x_frz tc_int) (xa_cons (x_frz tc_int) xa_nil))))))) (x_las (x_bor (x_call rfl rfl K_law_take nog (hr.mono (by decide)) (by rfl) (fun σ => passAt (takes_of rfl rfl rfl rfl) σ) (xa_cons (x_frz (tv 1)) (xa_cons (x_frz tc_int) xa_nil)) xk_nil))) (fun _ _ => rfl))) xa_nil)) (pg_name (i := 4) sc_law.nd rfl (by first | exact Or.inl rfl | exact Or.inr rfl)) tg_name
      (ss_one (s_if (xt_val (x_call rfl rfl K_law_are_rows nog (hr.mono (by decide)) (by rfl) (fun σ => passAt (takes_of rfl rfl rfl rfl) σ) (xa_cons (x_frz (tv 3)) xa_nil) xk_nil)) (ss_one (s_asg (i := 3) sc_law.nd rfl (by first | exact Or.inl rfl | exact Or.inr rfl) (x_call rfl rfl K_law_bent nog (hr.mono (by decide)) (by rfl) (fun σ => passAt (takes_of rfl rfl rfl rfl) σ) (xa_cons (x_frz (tv 1)) (xa_cons (x_frz (tv 3)) xa_nil)) xk_nil))) ss_nil)))
      (ss_cons (s_par (ps_par (i := 5) (j := 6) (by rfl) sc_law.nd rfl rfl (by decide) rfl rfl (xo_cons (x_b1 (k_repr rfl (hga rfl) (hu64 hr) SM) d_repr (by rfl) T.b_repr bt_repr (tr 3)) (xo_cons (x_call rfl rfl K_law_are_rows nog (hr.mono (by decide)) (by rfl) (fun σ => passAt (takes_of rfl rfl rfl rfl) σ) (xa_cons (x_frz (tv 3)) xa_nil) xk_nil) xo_nil)) (by rfl)))
      (ss_cons (s_asgT (x_frz (x_call rfl rfl K_law_told nog (hr.mono (by decide)) (by rfl) (fun σ => passAt (takes_of rfl rfl rfl rfl) σ) (xa_cons (x_frz (tv 3)) (xa_cons (x_frz (x_op op_mod d_mod (tb 2) (x_las (x_bor tc_int)))) xa_nil)) xk_nil)) (pg_tupK (K := G.K) rfl rfl (pgs_cons (pg_name (i := 7) sc_law.nd rfl (by first | exact Or.inl rfl | exact Or.inr rfl)) (pgs_cons (pg_name (i := 8) sc_law.nd rfl (by first | exact Or.inl rfl | exact Or.inr rfl)) pgs_nil))) (tg_tupK rfl (tgs_cons tg_name (tgs_cons tg_name tgs_nil))))
      (ss_cons (s_if (PW.pt (xw_or (xt_cmp (k_ne rfl (hu64 hr)) d_ne (x_bor (x_b1 (k_repr rfl (hga rfl) (hu64 hr) SM) d_repr (by rfl) T.b_repr bt_repr (tr 3))) (tr 5) (nomark _)) (xw_or1 (xt_cmp (k_ne rfl (hu64 hr)) d_ne (tb 6) (x_las (x_bor (x_cmp op_isNo d_is (tb 8) (x_las (x_bor tc_non)) (nomark _)))) (nomark _))))) (ss_one (s_ret tc_bl)) ss_nil)
      (ss_cons (s_if (PW.pt (xw_and (xt_val (tv 6)) (xw_and1 (PW.pt (xw_or (xt_not (xt_val (x_bn (k_isi rfl) (d_isiO T.isT) (by rfl) T.b_isinstance bt_isinstance (xa_cons (x_frz (tv 7)) (xa_cons (x_frz (tg T.c_Photo rfl (by rfl))) xa_nil))))) (xw_or1 (xt_cmp (k_ne rfl (hu64 hr)) d_ne (x_bor (x_fldF T.kc rfl (tr 7))) (tr 3) (nomark _)))))))) (ss_one (s_ret tc_bl)) ss_nil)
      (ss_one (s_if (xt_not (xt_val (tv 6))) (ss_cons (s_if (PW.pt (xw_or (xt_not (xt_val (x_bn (k_isX rfl) (d_isiX T.kxi) (by rfl) T.b_isinstance bt_isinstance (xa_cons (x_frz (tv 8)) (xa_cons (x_frz (tg T.c_BadPhoto rfl (by rfl))) xa_nil))))) (xw_or1 (xt_val (x_bn (k_isX rfl) (d_isiX T.kxi) (by rfl) T.b_isinstance bt_isinstance (xa_cons (x_frz (tv 8)) (xa_cons (x_frz (x_tup (xa_cons (x_frz (tg T.c_NoText rfl (by rfl))) (xa_cons (x_frz (tg T.c_BadCard rfl (by rfl))) (xa_cons (x_frz (tg T.c_BadBoard rfl (by rfl))) xa_nil))))) xa_nil))))))) (ss_one (s_ret tc_bl)) ss_nil)
      (ss_one (s_if (xt_not (xt_val (x_bn (k_isX rfl) (d_isiX T.kxi) (by rfl) T.b_isinstance bt_isinstance (xa_cons (x_frz (tv 8)) (xa_cons (x_ty (by rfl) T.b_ValueError bt_ValueError) xa_nil))))) (ss_one (s_ret tc_bl)) ss_nil))) ss_nil)))))))))
      (ss_one (s_ret tc_bl))))
end
end F34
namespace F34
open PySem L2 L2.Pc L2.Tr
-- a step through the tree functions
local macro_rules | `(tactic| walk_at "stp") => `(tactic| simp only [st_ret, st_bnd, st_ofs, st_frz, st_fzd, st_var, st_bor, st_mov, st_rd, st_qv, st_c, st_op, st_un, st_tob, st_band, st_bor2, st_bnot, st_if, st_andV, st_orV, st_notV, st_anil, st_acons, st_onil, st_ocons, st_tup, st_lst, st_cn, st_m1, st_m0, st_opq, st_sl, st_chain, st_mseq, st_rg1, st_rg2, st_snil, st_seq, st_sexpr, st_sret, st_sif, st_asg, st_asgK, st_asgT, st_asgTK, st_asgC, st_asgCK, st_putL, st_putLK, st_putAt, st_getP, st_putP, st_app, st_appK, st_ext, st_extK, st_for, st_for0, st_for1, st_gN, st_gT, st_gs0, st_gs1, st_par, st_parK, st_par3, st_parK3, st_call, st_runF, st_fld, st_fldF, st_sfld, st_fldK, st_meth, st_sp, st_eqO, st_inO, st_js0, st_js1, st_jsK, st_lc, st_lcK, st_lcB, st_lc0, st_lc1, st_lcT, st_lcY, st_mpart, getS_0, setS_0, getS_1, setS_1, getS_2, setS_2, getS_3, setS_3, getS_4, setS_4, getS_5, setS_5, getS_6, setS_6, getS_7, setS_7, getS_8, setS_8, getS_9, setS_9, getS_10, setS_10, getS_11, setS_11, getS_12, setS_12, getS_13, setS_13, getS_14, setS_14, st_fnM, st_env0, st_seqn, st_seqr, st_seqb, st_seqc, st_forn, st_forc, st_forb, st_forr, st_parti, st_opqK, st_bok, st_bex, st_isf, st_isl, st_isi, st_tdf, st_tdl, st_tdi, st_tdn, st_tdc, st_asb, st_celf, st_cell, st_fzO, st_isS, st_sqt, st_squ, st_silst, st_silsk, st_situp, st_situk, st_addi, st_adds, st_addl, st_addt, st_subi, st_lti, st_lei, st_gti, st_gei, st_divi, st_modi, st_muli, st_negi, st_ixl, st_ixk, st_ixt, st_ixu, st_at0, st_at1, st_at2, st_at3, st_at4, st_ixn0, st_ixn1, st_ixn2, st_absi, st_inti, st_intb, st_lenl, st_lenk, st_lent, st_lenu, st_lens, st_ixs, st_stri, st_strs, st_is, st_isnt, st_nonn, st_noni, st_nons, st_zf2, st_eqi, st_eqs, st_nei, st_nes, st_nenn, st_neni, st_nein, st_fmts, st_mull, st_fr0, st_fr1, st_wp0, st_wp1, st_bk0, st_bk1, st_nok, st_rng1, st_joi, st_dtup, st_dlst, st_raise, st_raise1, st_raise2, st_raise3, st_try, st_tryok, st_tryex, st_tryt, st_tryf, st_suite, st_suiok, st_chk0, st_chk1, st_nxo, st_nxl, st_nxs, st_nxb, st_nxi, st_nxn, st_nxt, st_nxL, st_nxa0, st_nxa1, st_nxf, st_nxr, st_try1, st_try1ok, st_try1ex, st_try1t, st_try1f, st_xf, st_xfo, st_mzip, st_menum, st_mrev, st_zipl, st_zipt, st_pair0, st_pair1, st_enuml, st_num0, st_num1, st_revl, st_revt, st_fnI, st_nk0, st_nk1, st_nk2, st_nk3, st_nk4, st_nk5, st_nk6, st_nk7, st_nk8, List.map_cons, List.map_nil, List.cons_append, List.nil_append, List.length_cons, List.length_nil, List.replicate, Nat.reduceSub, Nat.reduceAdd, Nat.reduceLeDiff, List.set_cons_zero, List.set_cons_succ, Nat.zero_add, if_true, if_false, ite_true, ite_false, Option.map_some, Option.bind_some, Option.map_none, Option.bind_none, decide_true, decide_false, decide_eq_true_eq, decide_eq_false_iff_not, Bool.not_true, Bool.not_false, and_self, true_and, and_true, Bool.false_eq_true, Bool.and_self, Bool.and_true, Bool.true_and, *])
local macro_rules | `(tactic| walk_at "dch") => `(tactic| first | assumption | (simp only [Int.reduceLT, Int.reduceLE, Nat.reduceLT, Nat.reduceLeDiff, and_self]; done) | omega | (simp only [strLen_append, c_ltlen, List.length_append, List.length_map, List.length_cons, List.length_nil, Nat.reduceAdd, String.reduceLength, String.length] <;> omega) | decide)
local macro_rules | `(tactic| walk_at "stq") => `(tactic| simp (config := {maxSteps := 4000000}) (disch := walk_at "dch") only [st_ret, st_bnd, st_ofs, st_frz, st_fzd, st_var, st_bor, st_mov, st_rd, st_qv, st_c, st_op, st_un, st_tob, st_band, st_bor2, st_bnot, st_if, st_andV, st_orV, st_notV, st_anil, st_acons, st_onil, st_ocons, st_tup, st_lst, st_cn, st_m1, st_m0, st_opq, st_sl, st_chain, st_mseq, st_rg1, st_rg2, st_snil, st_seq, st_sexpr, st_sret, st_sif, st_asg, st_asgK, st_asgT, st_asgTK, st_asgC, st_asgCK, st_putL, st_putLK, st_putAt, st_getP, st_putP, st_app, st_appK, st_ext, st_extK, st_for, st_for0, st_for1, st_gN, st_gT, st_gs0, st_gs1, st_par, st_parK, st_par3, st_parK3, st_call, st_runF, st_fld, st_fldF, st_sfld, st_fldK, st_meth, st_sp, st_eqO, st_inO, st_js0, st_js1, st_jsK, st_lc, st_lcK, st_lcB, st_lc0, st_lc1, st_lcT, st_lcY, st_mpart, getS_0, setS_0, getS_1, setS_1, getS_2, setS_2, getS_3, setS_3, getS_4, setS_4, getS_5, setS_5, getS_6, setS_6, getS_7, setS_7, getS_8, setS_8, getS_9, setS_9, getS_10, setS_10, getS_11, setS_11, getS_12, setS_12, getS_13, setS_13, getS_14, setS_14, st_fnM, st_env0, st_seqn, st_seqr, st_seqb, st_seqc, st_forn, st_forc, st_forb, st_forr, st_parti, st_opqK, st_bok, st_bex, st_isf, st_isl, st_isi, st_tdf, st_tdl, st_tdi, st_tdn, st_tdc, st_asb, st_celf, st_cell, st_fzO, st_isS, st_sqt, st_squ, st_silst, st_silsk, st_situp, st_situk, st_addi, st_adds, st_addl, st_addt, st_subi, st_lti, st_lei, st_gti, st_gei, st_modi, st_muli, st_negi, st_ixl, st_ixk, st_ixt, st_ixu, st_at0, st_at1, st_at2, st_at3, st_at4, st_ixn0, st_ixn1, st_ixn2, st_absi, st_inti, st_intb, st_lenl, st_lenk, st_lent, st_lenu, st_lens, st_ixs, st_stri, st_strs, st_is, st_isnt, st_nonn, st_noni, st_nons, st_zf2, st_eqi, st_eqs, st_nei, st_nes, st_nenn, st_neni, st_nein, st_fmts, st_mull, st_fr0, st_fr1, st_wp0, st_wp1, st_bk0, st_bk1, st_nok, st_rng1, st_joi, st_dtup, st_dlst, st_raise, st_raise1, st_raise2, st_raise3, st_try, st_tryok, st_tryex, st_tryt, st_tryf, st_suite, st_suiok, st_chk0, st_chk1, st_nxo, st_nxl, st_nxs, st_nxb, st_nxi, st_nxn, st_nxt, st_nxL, st_nxa0, st_nxa1, st_nxf, st_nxr, st_try1, st_try1ok, st_try1ex, st_try1t, st_try1f, st_xf, st_xfo, st_mzip, st_menum, st_mrev, st_zipl, st_zipt, st_pair0, st_pair1, st_enuml, st_num0, st_num1, st_revl, st_revt, st_fnI, st_nk0, st_nk1, st_nk2, st_nk3, st_nk4, st_nk5, st_nk6, st_nk7, st_nk8, c_if, c_ifn, c_dt, c_df, c_fld, c_fldi, c_lk0, c_lk1, c_pu0, c_pu1, c_pu2, c_chK, c_chT, c_chF, c_div, c_str, c_rs1, c_rs2, c_rs3, c_rs4, c_rs5, c_rs6, c_rs7, c_rs8, c_runI, c_strO, c_al0, c_al1, c_g0, c_s0, c_at5, List.map_cons, List.map_nil, List.cons_append, List.nil_append, List.length_cons, List.length_nil, List.replicate, Nat.reduceSub, Nat.reduceAdd, Nat.reduceLeDiff, Nat.reduceLT, Int.reduceAdd, Int.reduceMul, Int.reduceSub, Int.reduceLT, Int.reduceLE, Int.reduceEq, List.set_cons_zero, List.set_cons_succ, Nat.zero_add, if_true, if_false, ite_true, ite_false, Option.map_some, Option.bind_some, Option.map_none, Option.bind_none, decide_true, decide_false, decide_eq_true_eq, decide_eq_false_iff_not, Bool.not_true, Bool.not_false, and_self, true_and, and_true, and_false, false_and, Bool.false_eq_true, reduceCtorEq, Bool.and_self, Bool.and_true, Bool.true_and, Bool.and_false, Bool.false_and, Bool.not_eq_true, Bool.true_eq_false, *])
local macro_rules | `(tactic| walk_at "sqn") => `(tactic| simp (config := {maxSteps := 4000000}) (disch := walk_at "dch") only [st_ret, st_bnd, st_ofs, st_frz, st_fzd, st_var, st_bor, st_mov, st_rd, st_qv, st_c, st_op, st_un, st_tob, st_band, st_bor2, st_bnot, st_if, st_andV, st_orV, st_notV, st_anil, st_acons, st_onil, st_ocons, st_tup, st_lst, st_cn, st_m1, st_m0, st_opq, st_sl, st_chain, st_mseq, st_rg1, st_rg2, st_snil, st_seq, st_sexpr, st_sret, st_sif, st_asg, st_asgK, st_asgT, st_asgTK, st_asgC, st_asgCK, st_putL, st_putLK, st_putAt, st_getP, st_putP, st_app, st_appK, st_ext, st_extK, st_for, st_gN, st_gT, st_gs0, st_gs1, st_par, st_parK, st_par3, st_parK3, st_call, st_runF, st_fld, st_fldF, st_sfld, st_fldK, st_meth, st_sp, st_eqO, st_inO, st_js0, st_js1, st_jsK, st_lc, st_lcK, st_lcB, st_lcT, st_lcY, st_mpart, getS_0, setS_0, getS_1, setS_1, getS_2, setS_2, getS_3, setS_3, getS_4, setS_4, getS_5, setS_5, getS_6, setS_6, getS_7, setS_7, getS_8, setS_8, getS_9, setS_9, getS_10, setS_10, getS_11, setS_11, getS_12, setS_12, getS_13, setS_13, getS_14, setS_14, st_fnM, st_env0, st_seqn, st_seqr, st_seqb, st_seqc, st_forn, st_forc, st_forb, st_forr, st_parti, st_opqK, st_bok, st_bex, st_isf, st_isl, st_isi, st_tdf, st_tdl, st_tdi, st_tdn, st_tdc, st_asb, st_celf, st_cell, st_fzO, st_isS, st_sqt, st_squ, st_silst, st_silsk, st_situp, st_situk, st_addi, st_adds, st_addl, st_addt, st_subi, st_lti, st_lei, st_gti, st_gei, st_modi, st_muli, st_negi, st_ixl, st_ixk, st_ixt, st_ixu, st_at0, st_at1, st_at2, st_at3, st_at4, st_ixn0, st_ixn1, st_ixn2, st_absi, st_inti, st_intb, st_lenl, st_lenk, st_lent, st_lenu, st_lens, st_ixs, st_stri, st_strs, st_is, st_isnt, st_nonn, st_noni, st_nons, st_zf2, st_eqi, st_eqs, st_nei, st_nes, st_nenn, st_neni, st_nein, st_fmts, st_mull, st_fr0, st_fr1, st_wp0, st_wp1, st_bk0, st_bk1, st_nok, st_rng1, st_joi, st_dtup, st_dlst, st_raise, st_raise1, st_raise2, st_raise3, st_try, st_tryok, st_tryex, st_tryt, st_tryf, st_suite, st_suiok, st_chk0, st_chk1, st_nxo, st_nxl, st_nxs, st_nxb, st_nxi, st_nxn, st_nxt, st_nxL, st_nxa0, st_nxa1, st_nxf, st_nxr, st_try1, st_try1ok, st_try1ex, st_try1t, st_try1f, st_xf, st_xfo, st_mzip, st_menum, st_mrev, st_zipl, st_zipt, st_pair0, st_pair1, st_enuml, st_num0, st_num1, st_revl, st_revt, st_fnI, st_nk0, st_nk1, st_nk2, st_nk3, st_nk4, st_nk5, st_nk6, st_nk7, st_nk8, c_if, c_ifn, c_dt, c_df, c_fld, c_fldi, c_lk0, c_lk1, c_pu0, c_pu1, c_pu2, c_chK, c_chT, c_chF, c_div, c_str, c_rs1, c_rs2, c_rs3, c_rs4, c_rs5, c_rs6, c_rs7, c_rs8, c_runI, c_strO, c_al0, c_al1, c_g0, c_s0, c_at5, List.map_cons, List.map_nil, List.cons_append, List.nil_append, List.length_cons, List.length_nil, List.replicate, Nat.reduceSub, Nat.reduceAdd, Nat.reduceLeDiff, Nat.reduceLT, Int.reduceAdd, Int.reduceMul, Int.reduceSub, Int.reduceLT, Int.reduceLE, Int.reduceEq, List.set_cons_zero, List.set_cons_succ, Nat.zero_add, if_true, if_false, ite_true, ite_false, Option.map_some, Option.bind_some, Option.map_none, Option.bind_none, decide_true, decide_false, decide_eq_true_eq, decide_eq_false_iff_not, Bool.not_true, Bool.not_false, and_self, true_and, and_true, and_false, false_and, Bool.false_eq_true, reduceCtorEq, Bool.and_self, Bool.and_true, Bool.true_and, Bool.and_false, Bool.false_and, Bool.not_eq_true, Bool.true_eq_false, *])
local macro_rules | `(tactic| walk_at "spn") => `(tactic| simp (config := {maxSteps := 4000000}) (disch := first | assumption | (simp only [Int.reduceLT, Int.reduceLE, Nat.reduceLT, Nat.reduceLeDiff, and_self]; done) | decide) only [st_ret, st_bnd, st_ofs, st_frz, st_fzd, st_var, st_bor, st_mov, st_rd, st_qv, st_c, st_op, st_un, st_tob, st_band, st_bor2, st_bnot, st_if, st_andV, st_orV, st_notV, st_anil, st_acons, st_onil, st_ocons, st_tup, st_lst, st_cn, st_m1, st_m0, st_opq, st_sl, st_chain, st_mseq, st_rg1, st_rg2, st_snil, st_seq, st_sexpr, st_sret, st_sif, st_asg, st_asgK, st_asgT, st_asgTK, st_asgC, st_asgCK, st_putL, st_putLK, st_putAt, st_getP, st_putP, st_app, st_appK, st_ext, st_extK, st_for, st_gN, st_gT, st_gs0, st_gs1, st_par, st_parK, st_par3, st_parK3, st_call, st_runF, st_fld, st_fldF, st_sfld, st_fldK, st_meth, st_sp, st_eqO, st_inO, st_js0, st_js1, st_jsK, st_lc, st_lcK, st_lcB, st_lcT, st_lcY, st_mpart, getS_0, setS_0, getS_1, setS_1, getS_2, setS_2, getS_3, setS_3, getS_4, setS_4, getS_5, setS_5, getS_6, setS_6, getS_7, setS_7, getS_8, setS_8, getS_9, setS_9, getS_10, setS_10, getS_11, setS_11, getS_12, setS_12, getS_13, setS_13, getS_14, setS_14, st_fnM, st_env0, st_seqn, st_seqr, st_seqb, st_seqc, st_forn, st_forc, st_forb, st_forr, st_parti, st_opqK, st_bok, st_bex, st_isf, st_isl, st_isi, st_tdf, st_tdl, st_tdi, st_tdn, st_tdc, st_asb, st_celf, st_cell, st_fzO, st_isS, st_sqt, st_squ, st_silst, st_silsk, st_situp, st_situk, st_addi, st_adds, st_addl, st_addt, st_subi, st_lti, st_lei, st_gti, st_gei, st_modi, st_muli, st_negi, st_ixl, st_ixk, st_ixt, st_ixu, st_at0, st_at1, st_at2, st_at3, st_at4, st_ixn0, st_ixn1, st_ixn2, st_absi, st_inti, st_intb, st_lenl, st_lenk, st_lent, st_lenu, st_lens, st_ixs, st_stri, st_strs, st_is, st_isnt, st_nonn, st_noni, st_nons, st_zf2, st_eqi, st_eqs, st_nei, st_nes, st_nenn, st_neni, st_nein, st_fmts, st_mull, st_fr0, st_fr1, st_wp0, st_wp1, st_bk0, st_bk1, st_nok, st_rng1, st_joi, st_dtup, st_dlst, st_raise, st_raise1, st_raise2, st_raise3, st_try, st_tryok, st_tryex, st_tryt, st_tryf, st_suite, st_suiok, st_chk0, st_chk1, st_nxo, st_nxl, st_nxs, st_nxb, st_nxi, st_nxn, st_nxt, st_nxL, st_nxa0, st_nxa1, st_nxf, st_nxr, st_try1, st_try1ok, st_try1ex, st_try1t, st_try1f, st_xf, st_xfo, st_mzip, st_menum, st_mrev, st_zipl, st_zipt, st_pair0, st_pair1, st_enuml, st_num0, st_num1, st_revl, st_revt, st_fnI, st_nk0, st_nk1, st_nk2, st_nk3, st_nk4, st_nk5, st_nk6, st_nk7, st_nk8, c_fld, c_fldi, c_lk0, c_lk1, c_pu0, c_pu1, c_pu2, c_chK, c_chT, c_chF, c_div, c_str, c_rs1, c_rs2, c_rs3, c_rs4, c_rs5, c_rs6, c_rs7, c_rs8, c_runI, c_strO, c_al0, c_al1, c_g0, c_s0, c_at5, List.map_cons, List.map_nil, List.cons_append, List.nil_append, List.length_cons, List.length_nil, List.replicate, Nat.reduceSub, Nat.reduceAdd, Nat.reduceLeDiff, Nat.reduceLT, Int.reduceAdd, Int.reduceMul, Int.reduceSub, Int.reduceLT, Int.reduceLE, Int.reduceEq, List.set_cons_zero, List.set_cons_succ, Nat.zero_add, if_true, if_false, ite_true, ite_false, Option.map_some, Option.bind_some, Option.map_none, Option.bind_none, decide_true, decide_false, decide_eq_true_eq, decide_eq_false_iff_not, Bool.not_true, Bool.not_false, and_self, true_and, and_true, and_false, false_and, Bool.false_eq_true, reduceCtorEq, Bool.and_self, Bool.and_true, Bool.true_and, Bool.and_false, Bool.false_and, Bool.not_eq_true, Bool.true_eq_false, *])
-- readings by what is asked behind
local macro_rules | `(tactic| walk_at "vs") => `(tactic| ((with_reducible refine w_id ?_); conv => arg 1; simp (config := {maxSteps := 4000000, implicitDefEqProofs := false}) (disch := first | with_reducible assumption | (simp only [Int.reduceLT, Int.reduceLE, Nat.reduceLT, Nat.reduceLeDiff, and_self]; done) | decide | (simp only [List.map_cons, List.map_nil]; decide) | with_reducible omega | (simp only [List.length_map, List.length_append, List.length_cons, List.length_nil, List.length_reverse]; with_reducible omega)) only [st_ret, st_bnd, st_ofs, st_frz, st_fzd, st_var, st_bor, st_mov, st_rd, st_qv, st_c, st_op, st_un, st_tob, st_band, st_bor2, st_bnot, st_if, st_andV, st_orV, st_notV, st_anil, st_acons, st_onil, st_ocons, st_tup, st_lst, st_cn, st_m1, st_m0, st_opq, st_sl, st_chain, st_mseq, st_rg1, st_rg2, st_snil, st_seq, st_sexpr, st_sret, st_sif, st_asg, st_asgK, st_asgT, st_asgTK, st_asgC, st_asgCK, st_putL, st_putLK, st_putAt, st_getP, st_putP, st_app, st_appK, st_ext, st_extK, st_for, st_gN, st_gT, st_gs0, st_gs1, st_par, st_parK, st_par3, st_parK3, st_call, st_fld, st_fldF, st_sfld, st_fldK, st_meth, st_sp, st_eqO, st_inO, st_js0, st_js1, st_jsK, st_lc, st_lcK, st_lcB, st_lcT, st_lcY, st_mpart, getS_0, setS_0, getS_1, setS_1, getS_2, setS_2, getS_3, setS_3, getS_4, setS_4, getS_5, setS_5, getS_6, setS_6, getS_7, setS_7, getS_8, setS_8, getS_9, setS_9, getS_10, setS_10, getS_11, setS_11, getS_12, setS_12, getS_13, setS_13, getS_14, setS_14, st_fnM, st_env0, st_seqn, st_seqr, st_seqb, st_seqc, st_forn, st_forc, st_forb, st_forr, st_parti, st_opqK, st_bok, st_bex, st_isf, st_isl, st_isi, st_tdf, st_tdl, st_tdi, st_tdn, st_tdc, st_asb, st_celf, st_cell, st_fzO, st_isS, st_sqt, st_squ, st_silst, st_silsk, st_situp, st_situk, st_addi, st_adds, st_addl, st_addt, st_subi, st_lti, st_lei, st_gti, st_gei, st_modi, st_muli, st_negi, st_ixn0, st_ixn1, st_ixn2, st_absi, st_inti, st_intb, st_lenl, st_lenk, st_lent, st_lenu, st_lens, st_ixs, st_stri, st_strs, st_is, st_isnt, st_nonn, st_noni, st_nons, st_zf2, st_eqi, st_eqs, st_nei, st_nes, st_nenn, st_neni, st_nein, st_fmts, st_mull, st_fr0, st_fr1, st_wp0, st_wp1, st_bk0, st_bk1, st_nok, st_rng1, st_joi, st_dtup, st_dlst, st_raise, st_raise1, st_raise2, st_raise3, st_try, st_tryok, st_tryex, st_tryt, st_tryf, st_suite, st_suiok, st_chk0, st_chk1, st_nxo, st_nxl, st_nxs, st_nxb, st_nxi, st_nxn, st_nxt, st_nxL, st_nxa0, st_nxa1, st_nxf, st_nxr, st_try1, st_try1ok, st_try1ex, st_try1t, st_try1f, st_xf, st_xfo, st_mzip, st_menum, st_mrev, st_zipl, st_zipt, st_pair0, st_pair1, st_enuml, st_num0, st_num1, st_revl, st_revt, st_fnI, st_nk0, st_nk1, st_nk2, st_nk3, st_nk4, st_nk5, st_nk6, st_nk7, st_nk8, c_fld, c_fldi, c_lk0, c_lk1, c_pu0, c_pu1, c_pu2, c_chK, c_chT, c_chF, c_div, c_str, c_rs1, c_rs2, c_rs3, c_rs4, c_rs5, c_rs6, c_rs7, c_rs8, c_runI, c_strO, c_al0, c_al1, c_g0, c_s0, List.map_cons, List.map_nil, List.cons_append, List.nil_append, List.length_cons, List.length_nil, List.replicate, Nat.reduceSub, Nat.reduceAdd, Nat.reduceLeDiff, Nat.reduceLT, Int.reduceAdd, Int.reduceMul, Int.reduceSub, Int.reduceLT, Int.reduceLE, Int.reduceEq, List.set_cons_zero, List.set_cons_succ, Nat.zero_add, if_true, if_false, ite_true, ite_false, Option.map_some, Option.bind_some, Option.map_none, Option.bind_none, decide_true, decide_false, decide_eq_true_eq, decide_eq_false_iff_not, Bool.not_true, Bool.not_false, and_self, true_and, and_true, and_false, false_and, Bool.false_eq_true, reduceCtorEq, Bool.and_self, Bool.and_true, Bool.true_and, Bool.and_false, Bool.false_and, Bool.not_eq_true, Bool.true_eq_false, getS_15, getS_16, getS_17, getS_18, getS_19, getS_20, getS_21, getS_22, getS_23, getS_24, getS_25, getS_26, getS_27, getS_28, getS_29, getS_30, setS_15, setS_16, setS_17, setS_18, setS_19, setS_20, setS_21, setS_22, setS_23, setS_24, setS_25, setS_26, setS_27, setS_28, setS_29, setS_30, c_if, c_ifn, c_dt, c_df, c_meth, v_chB, sk_sn, sk_rvl, sk_rvt, sk_isit, sk_reprT, sk_x0, sk_x1, sk_x2, sk_x3, sk_x4, sk_t0, sk_t1, sk_t2, sk_t3, sk_t4, sk_t5, sk_inK, sk_inT, sk_inKi, sk_inKs, sk_inT2, sk_dctK, sk_dctS, sk_ixK, sk_ixT, sk_ixKi, sk_ixKs, sk_ixT2, sk_putK, sk_putT, sk_putKK, sk_putTK, sk_putKi, sk_putKs, sk_putT2, sk_lsK, sk_getT, sk_getT2, sk_oneK, sk_kyi, sk_kys, sk_isd, sk_isu, sk_tod, sk_tou, sk_menum, sk_rg3, sk_ennl, sk_ennt, sk_rev, sk_tupl, sk_tupt, sk_lstl, sk_lstt, sk_bne0, sk_bne1, v_app, v_ok, v_fz, v_int, v_bl, v_str, v_ba, v_bo, Bool.and_eq_true, Bool.or_eq_true, Bool.not_eq_true', Bool.not_not, Bool.decide_and, Bool.decide_or, Bool.decide_eq_true, Bool.decide_eq_false, sk_srtK, sk_popK, sk_popKi, sk_popKs, sk_rem, sk_remi, sk_lstRg, sk_lstRgi, sk_augT, sk_augT2, sk_augTz, sk_dr, sk_opD, sk_opDk, sk_der, sk_forC, sk_mCel, sk_mCelk, sk_mEnC, sk_mEnCk, sk_lcC, sk_lcCK, sk_cel, sk_celn, sk_celr, sk_col, sk_cod, sk_cou, sk_coi, sk_pop, sk_popi, sk_nilD, sk_nil, sk_gap, sk_sap, sk_gap2, sk_sap2, sk_nnt, sk_nnl, sk_nni, sk_nnb, sk_dispK, sk_booli, sk_sdApp, sk_sdK2, sk_sd2, sk_sdK, sk_isv, sk_tdv, sk_reprX, sk_orL, sk_orLo, sk_orLf, sk_inTs, sk_ixTs, sk_putTs, sk_getTs, sk_sdT, sk_sdTs, sk_lcTk, sk_dispG, sk_dispGs, sk_dictL, sk_daApp, sk_daKs, sk_da3, sk_sdKy, sk_sdKys, sk_isw, sk_tdw, sk_remS, sk_remSs, sk_srtKS, sk_xXk, sk_augI, sk_augKa, sk_augKb, sk_xTix, sk_isitn, sk_nntn, sk_istn, sk_lentn, sk_sitn, sk_tunl, sk_fz, sk_fzK]))
local macro_rules | `(tactic| walk_at "vp") => `(tactic| repeat (first | with_reducible refine w_bd ?_ | with_reducible refine w_nox ?_))
local macro_rules | `(tactic| walk_at "vk") => `(tactic| first | with_reducible refine w_ok ?_ | with_reducible refine w_exc ?_ | with_reducible refine rtQ_rt ?_ | with_reducible refine rtQ_nx ?_ | with_reducible refine fQ_nx ?_ | with_reducible refine fQ_rt ?_ | with_reducible refine fQ_ct ?_ | with_reducible refine fQ_bk ?_)
local macro_rules | `(tactic| walk_at "vc") => `(tactic| ((try walk_at "vs"); (walk_at "vp"); repeat ((walk_at "vk"); (try walk_at "vs"); (walk_at "vp"))))
def wellO (o : O) (s t : Int) : O := .dco [(.str "own", o), (.str "seed", .fz (.int s)), (.str "turn", .fz (.int t))]
def OwnOk (o : O) : Prop := o = .fz (.lst []) ∨ ∃ xs : List Int, o = .lst (xs.map .int) ∧ xs.length ≤ 63 ∧ ∀ x ∈ xs, 0 ≤ x
def WellAt (mu : List O) (k n : Nat) : Prop := ∃ o s t, getM mu k = some (wellO o s t) ∧ OwnOk o ∧ 0 ≤ s ∧ s < 2305843009213693952 ∧ 0 ≤ t ∧ t ≤ n
theorem WellAt.mono {mu : List O} {k n m : Nat} (h : WellAt mu k n) (e : n ≤ m) : WellAt mu k m := by
  obtain ⟨o, s, t, q1, q2, q3, q4, q5, q6⟩ := h
  exact ⟨o, s, t, q1, q2, q3, q4, q5, by omega⟩
theorem getM_setM {o' : O} : ∀ {mu : List O} {k : Nat} {o : O}, getM mu k = some o → getM (setM mu k o') k = some o'
  | [], k, o, h => by cases k <;> cases h
  | x :: mu, 0, o, h => rfl
  | x :: mu, k + 1, o, h => getM_setM (mu := mu) (k := k) h
theorem wh_f {mt : M Bool} {mb : M Fl} {n : Nat} {s s1 : S} (h : mt s = .ok false s1) : whileL mt mb (n + 1) s = .ok .nx s1 := by
  show (mt s).bind _ = _
  rw [h]; rfl
theorem wh_t {mt : M Bool} {mb : M Fl} {n : Nat} {s s1 s2 : S} (h : mt s = .ok true s1) (h2 : mb s1 = .ok .nx s2) : whileL mt mb (n + 1) s = whileL mt mb n s2 := by
  show (mt s).bind _ = _
  rw [h]
  show (mb s1).bind _ = _
  rw [h2]; rfl
section
variable {rest : List (Option O)} {mu : List O} {k : Nat} {o : O} {s t : Int} {xs : List D} {d : D}
theorem dg_own (h : getM mu k = some (wellO o s t)) : xDg 0 "own" ⟨some (.fz (.cel k)) :: rest, mu⟩ = .ok o ⟨some (.fz (.cel k)) :: rest, mu⟩ := by
  show (match getM mu k with
    | some (.dco os) => (match getK "own" os with
      | some o => R.ok o (⟨some (.fz (.cel k)) :: rest, mu⟩ : S)
      | none => .no)
    | _ => .no) = _
  rw [h]; rfl
theorem dgf_seed (h : getM mu k = some (wellO o s t)) : xDgF 0 "seed" ⟨some (.fz (.cel k)) :: rest, mu⟩ = .ok (.fz (.int s)) ⟨some (.fz (.cel k)) :: rest, mu⟩ := by
  show (match getM mu k with
    | some (.dco os) => (match getK "seed" os with
      | some (.fz d) => R.ok (O.fz d) (⟨some (.fz (.cel k)) :: rest, mu⟩ : S)
      | _ => .no)
    | _ => .no) = _
  rw [h]; rfl
theorem dgf_turn (h : getM mu k = some (wellO o s t)) : xDgF 0 "turn" ⟨some (.fz (.cel k)) :: rest, mu⟩ = .ok (.fz (.int t)) ⟨some (.fz (.cel k)) :: rest, mu⟩ := by
  show (match getM mu k with
    | some (.dco os) => (match getK "turn" os with
      | some (.fz d) => R.ok (O.fz d) (⟨some (.fz (.cel k)) :: rest, mu⟩ : S)
      | _ => .no)
    | _ => .no) = _
  rw [h]; rfl
theorem nil_own (h : getM mu k = some (wellO o s t)) (hx : o = .lst xs ∨ o = .fz (.lst xs)) : xNilD true 0 "own" ⟨some (.fz (.cel k)) :: rest, mu⟩ = .ok (.fz (.bl (!xs.isEmpty))) ⟨some (.fz (.cel k)) :: rest, mu⟩ := by
  show (match getM mu k with
    | some (.dco os) => (match getK "own" os with
      | some (.lst xs) => R.ok (O.fz (.bl (xs.isEmpty != true))) (⟨some (.fz (.cel k)) :: rest, mu⟩ : S)
      | some (.fz (.lst xs)) => R.ok (O.fz (.bl (xs.isEmpty != true))) (⟨some (.fz (.cel k)) :: rest, mu⟩ : S)
      | _ => .no)
    | _ => .no) = _
  rw [h]
  have e : (xs.isEmpty != true) = !xs.isEmpty := by cases xs <;> rfl
  rcases hx with rfl | rfl
  · show R.ok (O.fz (.bl (xs.isEmpty != true))) _ = _
    rw [e]
  · show R.ok (O.fz (.bl (xs.isEmpty != true))) _ = _
    rw [e]
theorem pop_own (h : getM mu k = some (wellO (.lst (d :: xs)) s t)) : xPopD 0 "own" 0 ⟨some (.fz (.cel k)) :: rest, mu⟩ = .ok (.fz d) ⟨some (.fz (.cel k)) :: rest, setM mu k (wellO (.lst xs) s t)⟩ := by
  show (match getM mu k with
    | some (.dco os) => (match getK "own" os with
      | some (.lst xs) => if -(2 ^ 63) ≤ (0 : Int) ∧ (0 : Int) < 2 ^ 63 then (match seqIndex? 0 xs.length with
        | some p => (match xs[p]? with
          | some y => R.ok (O.fz y) (⟨some (.fz (.cel k)) :: rest, setM mu k (.dco (setK "own" (.lst (xs.eraseIdx p)) os))⟩ : S)
          | none => .no)
        | none => .no) else .no
      | _ => .no)
    | _ => .no) = _
  rw [h]
  show (if -(2 ^ 63) ≤ (0 : Int) ∧ (0 : Int) < 2 ^ 63 then (match seqIndex? 0 (d :: xs).length with
        | some p => (match (d :: xs)[p]? with
          | some y => R.ok (O.fz y) (⟨some (.fz (.cel k)) :: rest, setM mu k (.dco (setK "own" (.lst ((d :: xs).eraseIdx p)) [(.str "own", .lst (d :: xs)), (.str "seed", .fz (.int s)), (.str "turn", .fz (.int t))]))⟩ : S)
          | none => .no)
        | none => .no) else .no) = _
  rw [if_pos ⟨by decide, by decide⟩]
  have e : seqIndex? 0 (d :: xs).length = some 0 := by unfold seqIndex?; simp
  rw [e]
  rfl
theorem put_own {md : M D} {d' : D} (hm : md ⟨some (.fz (.cel k)) :: rest, mu⟩ = .ok d' ⟨some (.fz (.cel k)) :: rest, mu⟩) (h : getM mu k = some (wellO (.lst (d :: xs)) s t)) :
    sPutLD 0 "own" 0 md ⟨some (.fz (.cel k)) :: rest, mu⟩ = .ok .nx ⟨some (.fz (.cel k)) :: rest, setM mu k (wellO (.lst (d' :: xs)) s t)⟩ := by
  unfold sPutLD
  rw [st_bnd, hm, st_bok]
  show (match getM mu k with
    | some (.dco os) => (match getK "own" os with
      | some (.lst xs) => (match ixN xs.length 0 with
        | some q => R.ok Fl.nx (⟨some (.fz (.cel k)) :: rest, setM mu k (.dco (setK "own" (.lst (xs.set q d')) os))⟩ : S)
        | none => .no)
      | _ => .no)
    | _ => .no) = _
  rw [h]
  show (match ixN (d :: xs).length 0 with
        | some q => R.ok Fl.nx (⟨some (.fz (.cel k)) :: rest, setM mu k (.dco (setK "own" (.lst ((d :: xs).set q d')) [(.str "own", .lst (d :: xs)), (.str "seed", .fz (.int s)), (.str "turn", .fz (.int t))]))⟩ : S)
        | none => .no) = _
  have e : ixN (d :: xs).length 0 = some 0 := by unfold ixN; simp
  rw [e]
  rfl
theorem put_turn {md : M D} {d' : D} (hm : md ⟨some (.fz (.cel k)) :: rest, mu⟩ = .ok d' ⟨some (.fz (.cel k)) :: rest, mu⟩) (h : getM mu k = some (wellO o s t)) :
    sPutW 0 "turn" md ⟨some (.fz (.cel k)) :: rest, mu⟩ = .ok .nx ⟨some (.fz (.cel k)) :: rest, setM mu k (.dco [(.str "own", o), (.str "seed", .fz (.int s)), (.str "turn", .fz d')])⟩ := by
  unfold sPutW
  rw [st_bnd, hm, st_bok]
  show (match getM mu k with
    | some (.dco os) => (match getK "turn" os with
      | some _ => if okW "turn" os = true ∧ os.length < 16777216 then R.ok Fl.nx (⟨some (.fz (.cel k)) :: rest, setM mu k (.dco (putW "turn" d' os))⟩ : S) else .no
      | none => .no)
    | _ => .no) = _
  rw [h]
  rfl
end
/-- one cell alone is another one -/
def FrK (k : Nat) (mu mu' : List O) : Prop := mu'.length = mu.length ∧ ∀ c, c ≠ k → getM mu' c = getM mu c
theorem FrK.refl {k : Nat} (mu : List O) : FrK k mu mu := ⟨rfl, fun _ _ => rfl⟩
theorem FrK.trans {k : Nat} {a b c : List O} (h : FrK k a b) (g : FrK k b c) : FrK k a c := ⟨g.1.trans h.1, fun x n => (g.2 x n).trans (h.2 x n)⟩
theorem setM_frk {o : O} : ∀ (mu : List O) (k : Nat), FrK k mu (setM mu k o)
  | [], k => by cases k <;> exact ⟨rfl, fun c n => rfl⟩
  | x :: mu, 0 => ⟨rfl, fun c n => by cases c with
    | zero => exact absurd rfl n
    | succ c => rfl⟩
  | x :: mu, k + 1 => by
    obtain ⟨h1, h2⟩ := setM_frk (o := o) mu k
    refine ⟨congrArg (· + 1) h1, fun c n => ?_⟩
    cases c with
    | zero => rfl
    | succ c => exact h2 c fun e => n (by rw [e])
theorem trim {k : Nat} {m s t : Int} : ∀ (xs : List Int) (F : Nat) (mu : List O), xs.length < F → getM mu k = some (wellO (.lst (xs.map .int)) s t) → (∀ x ∈ xs, 0 ≤ x) →
    ∃ ys mu', whileL (bAnd (toB (xNilD true 0 "own")) (toB (xOp eqD (xOpQ ixD (xDg 0 "own") (fun _ => some (.int 0))) (xC (.int 0))))) (sExpr (xPopD 0 "own" 0)) F ⟨[some (.fz (.cel k)), some (.fz (.int m)), none, none, none], mu⟩ = .ok .nx ⟨[some (.fz (.cel k)), some (.fz (.int m)), none, none, none], mu'⟩ ∧
      getM mu' k = some (wellO (.lst (ys.map .int)) s t) ∧ ys.length ≤ xs.length ∧ (∀ y ∈ ys, 0 ≤ y) ∧ (∀ y r, ys = y :: r → y ≠ 0) ∧ FrK k mu mu'
  | [], F, mu, hF, h, hx => by
    obtain ⟨F, rfl⟩ : ∃ F', F = F' + 1 := ⟨F - 1, by omega⟩
    have n1 := fun rest => nil_own (rest := rest) h (.inl rfl)
    refine ⟨[], mu, wh_f ?_, h, Nat.le_refl _, hx, fun y r e => (by cases e), FrK.refl _⟩
    clear h hx
    simp only [List.map_nil, List.isEmpty_nil, Bool.not_true] at n1
    walk_at "spn"
  | x :: xs, F, mu, hF, h, hx => by
    rw [List.length_cons] at hF
    obtain ⟨F, rfl⟩ : ∃ F', F = F' + 1 := ⟨F - 1, by omega⟩
    have n1 := fun rest => nil_own (rest := rest) h (.inl rfl)
    have n2 := fun rest => dg_own (rest := rest) h
    simp only [List.map_cons, List.isEmpty_cons, Bool.not_false] at n1 n2
    by_cases h0 : x = 0
    · subst h0
      have n3 := fun rest => pop_own (rest := rest) h
      obtain ⟨ys, mu', e, q1, q2, q3, q4, q5⟩ := trim (m := m) xs F (setM mu k (wellO (.lst (xs.map .int)) s t)) (by omega) (getM_setM h) (fun y hy => hx y (List.mem_cons_of_mem _ hy))
      refine ⟨ys, mu', ?_, q1, by rw [List.length_cons]; omega, q3, q4, (setM_frk _ _).trans q5⟩
      have c : (bAnd (toB (xNilD true 0 "own")) (toB (xOp eqD (xOpQ ixD (xDg 0 "own") (fun _ => some (.int 0))) (xC (.int 0))))) ⟨[some (.fz (.cel k)), some (.fz (.int m)), none, none, none], mu⟩ = .ok true ⟨[some (.fz (.cel k)), some (.fz (.int m)), none, none, none], mu⟩ := by
        clear h hx e q1 q2 q3 q4 q5 n3
        walk_at "spn"
      have b : (sExpr (xPopD 0 "own" 0)) ⟨[some (.fz (.cel k)), some (.fz (.int m)), none, none, none], mu⟩ = .ok .nx ⟨[some (.fz (.cel k)), some (.fz (.int m)), none, none, none], setM mu k (wellO (.lst (xs.map .int)) s t)⟩ := by
        clear h hx e q1 q2 q3 q4 q5 n1 n2 c
        walk_at "spn"
      rw [wh_t c b, e]
    · refine ⟨x :: xs, mu, wh_f ?_, h, Nat.le_refl _, hx, fun y r e => (by cases e; exact h0), FrK.refl _⟩
      have hd := decide_eq_false h0
      clear h hx h0
      walk_at "spn"
theorem well_mix {t s m : Int} (hs0 : 0 ≤ s) (hs : s < 2305843009213693952) (ht0 : 0 ≤ t) (ht : t ≤ 1000000000) (hm : 0 < m) : ∃ x y r : Int, (s + 7919 * t * t) * 48271 % 2305843009213693907 = x ∧ x * (x % 999983 + 131 * t + 3) % 2305843009213693921 = y ∧ (y / 89 + y / 1000033) % m = r ∧ 0 ≤ r ∧ r < m ∧
    mulOkB 7919 t = true ∧ mulOkB (7919 * t) t = true ∧ mulOkB (s + 7919 * t * t) 48271 = true ∧ mulOkB 131 t = true ∧ mulOkB x (x % 999983 + 131 * t + 3) = true := by
  refine ⟨_, _, _, rfl, rfl, rfl, Int.emod_nonneg _ (by omega), Int.emod_lt_of_pos _ hm, mulL (by decide) (by decide), mulR (by omega) (by omega), mulR (by decide) (by decide), mulL (by decide) (by decide), mulL ?_ ?_⟩
  · have := Int.emod_nonneg ((s + 7919 * t * t) * 48271) (show (2305843009213693907 : Int) ≠ 0 by decide); omega
  · have := Int.emod_lt_of_pos ((s + 7919 * t * t) * 48271) (show (0 : Int) < 2305843009213693907 by decide); omega
theorem take_okF {mu : List O} {k n : Nat} {m : Int} (h : WellAt mu k n) (h1 : 1 ≤ m) (h2 : m < 1073741824) (hn : n ≤ 900000000) :
    ∃ r mu', m_law_take [.cel k, .int m] mu = .ok (.fz (.int r)) ⟨[], mu'⟩ ∧ 0 ≤ r ∧ r < m ∧ WellAt mu' k (n + 1) ∧ FrK k mu mu' := by
  obtain ⟨o, s, t, g, ok, s0, s1, t0, t1⟩ := h
  have e0 : env0 5 [D.cel k, D.int m] = [some (.fz (.cel k)), some (.fz (.int m)), none, none, none] := rfl
  have hm : 0 < m := by omega
  have W : ∃ o' mu1, whileL (bAnd (toB (xNilD true 0 "own")) (toB (xOp eqD (xOpQ ixD (xDg 0 "own") (fun _ => some (.int 0))) (xC (.int 0))))) (sExpr (xPopD 0 "own" 0)) 1000 ⟨[some (.fz (.cel k)), some (.fz (.int m)), none, none, none], mu⟩ = .ok .nx ⟨[some (.fz (.cel k)), some (.fz (.int m)), none, none, none], mu1⟩ ∧ getM mu1 k = some (wellO o' s t) ∧ FrK k mu mu1 ∧
      ((o' = .fz (.lst []) ∨ o' = .lst []) ∨ ∃ (x : Int) (xs : List Int), o' = .lst (.int x :: xs.map .int) ∧ xs.length < 63 ∧ 0 ≤ x ∧ ∀ x ∈ xs, 0 ≤ x) := by
    rcases ok with rfl | ⟨xs, rfl, hl, hx⟩
    · refine ⟨_, mu, wh_f ?_, g, FrK.refl _, .inl (.inl rfl)⟩
      have n1 := fun rest => nil_own (rest := rest) g (.inr rfl)
      simp only [List.isEmpty_nil, Bool.not_true] at n1
      clear g
      walk_at "spn"
    · obtain ⟨ys, mu1, e, q1, q2, q3, q4, q5⟩ := trim (m := m) xs 1000 mu (by omega) g hx
      refine ⟨_, mu1, e, q1, q5, ?_⟩
      cases ys with
      | nil => exact .inl (.inr rfl)
      | cons y ys =>
        rw [List.length_cons] at q2
        exact .inr ⟨y, ys, rfl, by omega, q3 y List.mem_cons_self, fun x hx => q3 x (List.mem_cons_of_mem _ hx)⟩
  obtain ⟨o', mu1, eW, g1, gf, ho⟩ := W
  clear g ok
  unfold m_law_take
  rw [st_fnM, e0, st_seq, eW, st_bok, st_seqn]
  clear eW e0
  rcases ho with ho | ⟨x, xs, rfl, hl, x0, hx⟩
  · have n1 := fun rest => nil_own (rest := rest) (xs := []) g1 (ho.symm)
    simp only [List.isEmpty_nil, Bool.not_true] at n1
    obtain ⟨x, y, r, hx, hy, hr, r0, r1, m1, m2, m3, m4, m5⟩ := well_mix (t := t + 1) s0 s1 (by omega) (by omega) hm
    have g2 : getM (setM mu1 k (wellO o' s (t + 1))) k = some (wellO o' s (t + 1)) := getM_setM g1
    refine ⟨r, setM mu1 k (wellO o' s (t + 1)), ?_, r0, r1, ⟨o', s, t + 1, g2, ?_, s0, s1, by omega, by omega⟩, gf.trans (setM_frk _ _)⟩
    · have n2 := fun rest => dgf_turn (rest := rest) g1
      have n3 := fun rest => dgf_turn (rest := rest) g2
      have n4 := fun rest => dgf_seed (rest := rest) g2
      have p1 : (0 : Int) < 2305843009213693907 := by decide
      have p2 : (0 : Int) < 2305843009213693921 := by decide
      have p3 : (0 : Int) < 999983 := by decide
      have p4 : (0 : Int) < 89 ∧ (89 : Int) < 1073741824 := by decide
      have p5 : (0 : Int) < 1000033 ∧ (1000033 : Int) < 1073741824 := by decide
      have pt : sPutW 0 "turn" (frz (xOp addD (xDgF 0 "turn") (xC (.int 1)))) ⟨[some (.fz (.cel k)), some (.fz (.int m)), none, none, none], mu1⟩ = .ok .nx ⟨[some (.fz (.cel k)), some (.fz (.int m)), none, none, none], setM mu1 k (wellO o' s (t + 1))⟩ :=
        put_turn (rest := [some (.fz (.int m)), none, none, none]) (by clear n1 n3 n4; walk_at "spn") g1
      clear gf g1 g2 ho s0 s1 t0 t1 hn
      subst hr hy hx
      walk_at "spn"
    · rcases ho with rfl | rfl
      · exact .inl rfl
      · exact .inr ⟨[], rfl, by decide, fun _ h => nomatch h⟩
  · have n1 := fun rest => nil_own (rest := rest) g1 (.inl rfl)
    simp only [List.isEmpty_cons, Bool.not_false] at n1
    have n2 := fun rest => dg_own (rest := rest) g1
    refine ⟨x % m, setM mu1 k (wellO (.lst (.int (x / m) :: xs.map .int)) s t), ?_, Int.emod_nonneg _ (by omega), Int.emod_lt_of_pos _ hm, ⟨_, s, t, getM_setM g1, .inr ⟨x / m :: xs, rfl, by rw [List.length_cons]; omega, fun z hz => ?_⟩, s0, s1, t0, by omega⟩, gf.trans (setM_frk _ _)⟩
    · have pt : sPutLD 0 "own" 0 (frz (xOp divD (xOpQ ixD (xDg 0 "own") (fun _ => some (.int 0))) (xRd 1))) ⟨[some (.fz (.cel k)), some (.fz (.int m)), none, none, some (.fz (.int (x % m)))], mu1⟩ = .ok .nx ⟨[some (.fz (.cel k)), some (.fz (.int m)), none, none, some (.fz (.int (x % m)))], setM mu1 k (wellO (.lst (.int (x / m) :: xs.map .int)) s t)⟩ :=
        put_own (rest := [some (.fz (.int m)), none, none, some (.fz (.int (x % m)))]) (by clear n1; have hm2 : 0 < m ∧ m < 1073741824 := ⟨hm, h2⟩; walk_at "spn") g1
      clear gf g1 s0 s1 t0 t1 hn hx hl
      walk_at "spn"
    · rcases List.mem_cons.mp hz with rfl | hz
      · exact Int.ediv_nonneg x0 (by omega)
      · exact hx z hz
theorem take_ok {mu : List O} {k n : Nat} {m : Int} (h : WellAt mu k n) (h1 : 1 ≤ m) (h2 : m < 1073741824) (hn : n ≤ 900000000) :
    ∃ r mu', m_law_take [.cel k, .int m] mu = .ok (.fz (.int r)) ⟨[], mu'⟩ ∧ 0 ≤ r ∧ r < m ∧ WellAt mu' k (n + 1) := by
  obtain ⟨r, mu', e, a, b, c, _⟩ := take_okF h h1 h2 hn
  exact ⟨r, mu', e, a, b, c⟩
theorem at_let {r : Int} (h0 : 0 ≤ r) (h1 : r < 26) : ∃ c, atI ("abcdefghijklmnopqrstuvwxyz" : Str).cps.toList r = some c ∧ c ∈ lettersT.cps.toList := by
  obtain ⟨m, rfl⟩ := Int.eq_ofNat_of_zero_le h0
  have hm : m < ("abcdefghijklmnopqrstuvwxyz" : Str).cps.toList.length := by
    have : ("abcdefghijklmnopqrstuvwxyz" : Str).cps.toList.length = 26 := by decide +kernel
    omega
  rw [atN, List.getElem?_eq_getElem hm]
  exact ⟨_, rfl, List.getElem_mem hm⟩
theorem of_lst {k n : Nat} {mu : List O} {ds : List D} (h : WellAt mu k n) (hl : 1 ≤ ds.length) (hl2 : ds.length ≤ 1000) (hn : n ≤ 900000000) :
    ∃ d mu', m_law_of [.cel k, .lst ds] mu = .ok (.fz d) ⟨[], mu'⟩ ∧ d ∈ ds ∧ WellAt mu' k (n + 1) := by
  obtain ⟨r, mu1, e1, r0, r1, p1⟩ := take_ok (m := (ds.length : Int)) h (by omega) (by omega) hn
  obtain ⟨j, rfl⟩ := Int.eq_ofNat_of_zero_le r0
  have hj : j < ds.length := by omega
  refine ⟨ds[j], mu1, ?_, List.getElem_mem hj, p1⟩
  have hix : ixD (.lst ds) (.int (j : Int)) = some (.fz ds[j]) := by
    rw [st_ixl, atN, List.getElem?_eq_getElem hj]; rfl
  generalize ds[j] = d at *
  clear h hl hl2 hn r0 r1 p1 hj
  unfold m_law_of
  walk_at "spn"
theorem of_let {k n : Nat} {mu : List O} (h : WellAt mu k n) (hn : n ≤ 900000000) :
    ∃ c mu', m_law_of [.cel k, .str "abcdefghijklmnopqrstuvwxyz"] mu = .ok (.fz (.str ⟨#[c]⟩)) ⟨[], mu'⟩ ∧ c ∈ lettersT.cps.toList ∧ WellAt mu' k (n + 1) := by
  obtain ⟨r, mu1, e1, r0, r1, p1⟩ := take_ok (m := 26) h (by decide) (by decide) hn
  obtain ⟨c, hc, hm⟩ := at_let r0 r1
  have n1 : (("abcdefghijklmnopqrstuvwxyz" : Str).length ≤ 16777216) := by decide
  have n2 : ((("abcdefghijklmnopqrstuvwxyz" : Str).length : Nat) : Int) = 26 := by decide
  have ll : lenD (.str "abcdefghijklmnopqrstuvwxyz") = some (.fz (.int 26)) := by
    show some (O.fz (D.int (("abcdefghijklmnopqrstuvwxyz" : Str).length : Nat))) = _
    rw [n2]
  refine ⟨c, mu1, ?_, hm, p1⟩
  clear h hn r0 r1 p1 hm n2
  unfold m_law_of
  walk_at "spn"
theorem lets_ok {k : Nat} {x1 x2 x3 : Option O} : ∀ (ds : List D) (mu : List O) (n : Nat), WellAt mu k n → n + ds.length ≤ 900000000 →
    ∃ (cs : List Nat) (mu' : List O), lcL [4] (gN 4) (Tr.ret true) (frz (xCall m_law_of (fun ds _ => ds) 2 (nK []) (aCons (frz (xVar 0)) (aCons (frz (xC (.str "abcdefghijklmnopqrstuvwxyz"))) aNil)) aNil)) ds
      ⟨[some (.fz (.cel k)), x1, x2, x3, none], mu⟩ = .ok (cs.map fun c => .str ⟨#[c]⟩) ⟨[some (.fz (.cel k)), x1, x2, x3, none], mu'⟩ ∧ cs.length = ds.length ∧ (∀ c ∈ cs, c ∈ lettersT.cps.toList) ∧ WellAt mu' k (n + ds.length)
  | [], mu, n, h, hn => ⟨[], mu, rfl, rfl, (fun _ h => nomatch h), h⟩
  | d :: ds, mu, n, h, hn => by
    rw [List.length_cons] at hn
    obtain ⟨c, mu1, e1, hm, p1⟩ := of_let h (by omega)
    obtain ⟨cs, mu2, e2, l2, m2, p2⟩ := lets_ok (x1 := x1) (x2 := x2) (x3 := x3) ds mu1 (n + 1) p1 (by omega)
    refine ⟨c :: cs, mu2, ?_, by rw [List.length_cons, List.length_cons, l2], fun z hz => ?_, by rw [List.length_cons]; rw [show n + (ds.length + 1) = n + 1 + ds.length by omega]; exact p2⟩
    · clear h p1 p2 m2 l2
      walk_at "stp"
    · rcases List.mem_cons.mp hz with rfl | hz
      · exact hm
      · exact m2 z hz
def NameU (s : Str) : Prop := 1 ≤ s.length ∧ s.length ≤ 8 ∧ ∀ c ∈ s.cps.toList, c ∈ lettersT.cps.toList
def NameOk (s : Str) : Prop := 1 ≤ s.length ∧ s.length ≤ 8 ∧ (∀ c ∈ s.cps.toList, c ∈ lettersT.cps.toList) ∧ s ∉ keptT
theorem strs_map {cs : List Nat} : strsD (cs.map fun c => D.str ⟨#[c]⟩) = some (cs.map fun c => (⟨#[c]⟩ : Str)) := by
  induction cs with
  | nil => rfl
  | cons c cs ih => rw [List.map_cons, strsD, ih]; rfl
theorem sum_one {cs : List Nat} : ((cs.map fun c => (⟨#[c]⟩ : Str)).map (·.length)).sum = cs.length := by
  induction cs with
  | nil => rfl
  | cons c cs ih => rw [List.map_cons, List.map_cons, List.sum_cons, ih, List.length_cons]; show 1 + cs.length = _; omega
theorem joinL_single : ∀ cs : List Nat, TL.joinL [] (cs.map fun c => [c]) = cs
  | [] => rfl
  | [c] => rfl
  | c :: d :: cs => by
    show [c] ++ ([] ++ TL.joinL [] ((d :: cs).map fun c => [c])) = c :: d :: cs
    rw [joinL_single (d :: cs)]; rfl
theorem join_single (cs : List Nat) : (Txt.join "" (cs.map fun c => (⟨#[c]⟩ : Str))).cps.toList = cs := by
  rw [TL.join_eq]
  have := TL.tl_join "" (cs.map fun c => (⟨#[c]⟩ : Str))
  rw [List.map_map] at this
  exact this.trans (joinL_single cs)
def wordsS : List Str := ["done", "idle", "gone", "off", "whole", "partly", "hidden", "end", "deeds", "photo", "order", "ring", "lot", "untold", "there", "past", "few"]
theorem words_ok : ∀ s ∈ wordsS, NameU s := by unfold NameU; decide +kernel
abbrev wordsD : List D := [.str "done", .str "idle", .str "gone", .str "off", .str "whole", .str "partly", .str "hidden", .str "end", .str "deeds", .str "photo", .str "order", .str "ring"]
abbrev wordsE : List D := [.str "lot", .str "untold", .str "there", .str "past", .str "few"]
theorem name_ok {mu : List O} {k n : Nat} (h : WellAt mu k n) (hn : n ≤ 800000000) :
    ∃ s mu', m_law_name [.cel k] mu = .ok (.fz (.str s)) ⟨[], mu'⟩ ∧ NameU s ∧ WellAt mu' k (n + 20) := by
  obtain ⟨r1, mu1, e1, a1, b1, p1⟩ := take_ok (m := 5) h (by decide) (by decide) (by omega)
  obtain ⟨r2, mu2, e2, a2, b2, p2⟩ := take_ok (m := 8) p1 (by decide) (by decide) (by omega)
  have z12 : (12 : Nat) ≤ 16777216 := by decide
  have z5 : (5 : Nat) ≤ 16777216 := by decide
  have e0 : env0 5 [D.cel k] = [some (.fz (.cel k)), none, none, none, none] := rfl
  have s0 : (sAsg 1 (xLst (aCons (frz (xC (.str "done"))) (aCons (frz (xC (.str "idle"))) (aCons (frz (xC (.str "gone"))) (aCons (frz (xC (.str "off"))) (aCons (frz (xC (.str "whole"))) (aCons (frz (xC (.str "partly"))) (aCons (frz (xC (.str "hidden"))) (aCons (frz (xC (.str "end"))) (aCons (frz (xC (.str "deeds"))) (aCons (frz (xC (.str "photo"))) (aCons (frz (xC (.str "order"))) (aCons (frz (xC (.str "ring"))) aNil)))))))))))))) ⟨[some (.fz (.cel k)), none, none, none, none], mu⟩ = .ok .nx ⟨[some (.fz (.cel k)), some (.lst wordsD), none, none, none], mu⟩ := rfl
  have s1 : (sAsg 1 (xOp addD (xBor 1) (xLst (aCons (frz (xC (.str "lot"))) (aCons (frz (xC (.str "untold"))) (aCons (frz (xC (.str "there"))) (aCons (frz (xC (.str "past"))) (aCons (frz (xC (.str "few"))) aNil)))))))) ⟨[some (.fz (.cel k)), some (.lst wordsD), none, none, none], mu⟩ = .ok .nx ⟨[some (.fz (.cel k)), some (.lst (wordsD ++ wordsE)), none, none, none], mu⟩ := rfl
  have s2 : (sPar 2 3 (oCons (xCall m_law_take (fun ds _ => ds) 2 (nK []) (aCons (frz (xVar 0)) (aCons (frz (xC (.int 5))) aNil)) aNil) (oCons (xOp addD (xC (.int 1)) (xCall m_law_take (fun ds _ => ds) 2 (nK []) (aCons (frz (xVar 0)) (aCons (frz (xC (.int 8))) aNil)) aNil)) oNil))) ⟨[some (.fz (.cel k)), some (.lst (wordsD ++ wordsE)), none, none, none], mu⟩ = .ok .nx ⟨[some (.fz (.cel k)), some (.lst (wordsD ++ wordsE)), some (.fz (.int r1)), some (.fz (.int (1 + r2))), none], mu2⟩ := by
    generalize wordsD ++ wordsE = WD
    clear h p1 p2 s0 s1
    walk_at "spn"
  unfold m_law_name
  rw [st_fnM, e0, st_seq, s0, st_bok, st_seqn, st_seq, s1, st_bok, st_seqn, st_seq, s2, st_bok, st_seqn]
  clear e0 s0 s1 s2 e1 e2 h
  by_cases hr : r1 = 0
  · obtain ⟨d, mu3, e3, hd, p3⟩ := of_lst (ds := wordsD ++ wordsE) p2 (by decide) (by decide) (by omega)
    have hw : (wordsD ++ wordsE : List D) = wordsS.map D.str := rfl
    rw [hw] at hd
    obtain ⟨s, hs, rfl⟩ := List.mem_map.mp hd
    refine ⟨s, mu3, ?_, words_ok s hs, p3.mono (by omega)⟩
    have hr' := decide_eq_true hr
    generalize wordsD ++ wordsE = WD at *
    clear hd hw hs hr p3 p2 p1 a1 b1 a2 b2
    walk_at "spn"
  · have hr' := decide_eq_false hr
    obtain ⟨q, hq, q0, q1⟩ : ∃ q : Int, (if r1 = 1 then (1 + r2) else 1 + (1 + r2) % 2) = q ∧ 1 ≤ q ∧ q ≤ 8 := by
      refine ⟨_, rfl, ?_, ?_⟩
      · split
        · omega
        · have := Int.emod_nonneg (1 + r2) (show (2 : Int) ≠ 0 by decide); omega
      · split
        · omega
        · have := Int.emod_lt_of_pos (1 + r2) (show (0 : Int) < 2 by decide); omega
    have hL : (rngL 0 q.toNat).length = q.toNat := by unfold rngL; rw [List.length_map, List.length_range]
    obtain ⟨cs, mu3, e3, l3, m3, p3⟩ := lets_ok (x1 := some (.lst (wordsD ++ wordsE))) (x2 := some (.fz (.int r1))) (x3 := some (.fz (.int (1 + r2)))) (rngL 0 q.toNat) mu2 (n + 1 + 1) p2 (by omega)
    have hj : joinD (.str "") [.lst (cs.map fun c => D.str ⟨#[c]⟩)] = some (.fz (.str (Txt.join "" (cs.map fun c => (⟨#[c]⟩ : Str))))) := st_joi strs_map (by
      rw [sum_one, List.length_map]; have : ("" : Str).length = 0 := rfl; rw [this]; omega)
    have hcs := join_single cs
    generalize Txt.join "" (cs.map fun c => (⟨#[c]⟩ : Str)) = own at hj hcs
    have hown : own.length = cs.length := by
      show own.cps.size = _
      rw [← hcs, Array.length_toList]
    refine ⟨own, mu3, ?_, ⟨by omega, by omega, fun c hc => m3 c (by rw [← hcs]; exact hc)⟩, p3.mono (by omega)⟩
    have hl : (rngL 0 q.toNat).length ≤ 16777216 := by omega
    have rg := st_rng1 (i := q) (by omega) (by omega)
    have p02 : (0 : Int) < 2 := by decide
    generalize rngL 0 q.toNat = RL at *
    generalize wordsD ++ wordsE = WD at *
    generalize (cs.map fun c => D.str ⟨#[c]⟩) = CS at *
    clear hcs hown p1 p2 p3 l3 m3 hL hr a1 b1 a2 b2 q0 q1
    by_cases h1 : r1 = 1
    · rw [if_pos h1] at hq
      have h1' := decide_eq_true h1
      clear h1
      subst hq
      walk_at "spn"
    · rw [if_neg h1] at hq
      have h1' := decide_eq_false h1
      clear h1
      subst hq
      walk_at "spn"
abbrev keptD : List D := [(.str "pin"), (.str "again"), (.str "move"), (.str "take"), (.str "tear"), (.str "at"), (.str "to"), (.str "until"), (.str "strips"), (.str "known")]
theorem in_no {s : Str} (h4 : s ∉ keptT) : inD (.str s) (.lst keptD) = some (.fz (.bl false)) := by
  have hm : s ∉ (["pin", "again", "move", "take", "tear", "at", "to", "until", "strips", "known"] : List Str) := h4
  simp only [List.mem_cons, List.not_mem_nil, or_false, not_or] at hm
  obtain ⟨a1, a2, a3, a4, a5, a6, a7, a8, a9, a10⟩ := hm
  simp [inD, inB, itemsD, flatD, eqF, Ne.symm a1, Ne.symm a2, Ne.symm a3, Ne.symm a4, Ne.symm a5, Ne.symm a6, Ne.symm a7, Ne.symm a8, Ne.symm a9, Ne.symm a10]
theorem in_yes {s : Str} (h4 : s ∈ keptT) : inD (.str s) (.lst keptD) = some (.fz (.bl true)) ∧ addD (.str s) (.str "q") = some (.fz (.str (s ++ "q"))) ∧ NameOk (s ++ "q") := by
  have hm : s ∈ (["pin", "again", "move", "take", "tear", "at", "to", "until", "strips", "known"] : List Str) := h4
  simp only [List.mem_cons, List.not_mem_nil, or_false] at hm
  unfold NameOk
  rcases hm with rfl | rfl | rfl | rfl | rfl | rfl | rfl | rfl | rfl | rfl <;> exact ⟨rfl, rfl, by decide +kernel⟩
def SignOk (s : Str) : Prop := s = "-" ∨ s = "?" ∨ NameOk s
theorem lc_img {α : Type} {vs : List Nat} {t : MT} {mt : M Bool} {me : M D} {env : List (Option O)} {mu : List O} (g f : α → D) : ∀ (l : List α),
    (∀ q ∈ l, ∃ e1 e2 e3, t (g q) ⟨env, mu⟩ = some ⟨e1, mu⟩ ∧ mt ⟨e1, mu⟩ = .ok true ⟨e2, mu⟩ ∧ me ⟨e2, mu⟩ = .ok (f q) ⟨e3, mu⟩ ∧ freeE e3 vs = true ∧ wipeE e3 vs = env) →
    lcL vs t mt me (l.map g) ⟨env, mu⟩ = .ok (l.map f) ⟨env, mu⟩
  | [], _ => rfl
  | q :: l, h => by
    obtain ⟨e1, e2, e3, h1, h2, h3, h4, h5⟩ := h q List.mem_cons_self
    have ih := lc_img g f l (fun d hd => h d (List.mem_cons_of_mem _ hd))
    rw [List.map_cons, st_lc1, h1]
    show ((mt ⟨e1, mu⟩).bind (lcT vs t mt me (l.map g))) = _
    rw [h2, st_bok, st_lcT, if_pos rfl, h3, st_bok, st_lcY, if_pos h4, h5, ih, st_bok]
    rfl
theorem far_loop {T : Int} (x0 x3 x4 : Option O) (hp : powD (.int 10) (.int 60) = some (.fz (.int T))) (h1 : mulOkB T T = true) (h2 : mulOkB (T * T) T = true) (h3 : mulOkB (T * T * T) T = true) (h4 : mulOkB (T * T * T * T) T = true) (h5 : mulOkB (T * T * T * T * T) T = true) (h6 : mulOkB (T * T * T * T * T * T) T = true) (mu : List O) :
    forL (gN 1) (sAsg 5 (xOp mulD (xBor 5) (xOp powD (xC (.int 10)) (xC (.int 60))))) [.int 0, .int 1, .int 2, .int 3, .int 4, .int 5] ⟨[x0, none, none, x3, x4, some (.fz (.int T))], mu⟩ = .ok .nx ⟨[x0, some (.fz (.int 5)), none, x3, x4, some (.fz (.int (T * T * T * T * T * T * T)))], mu⟩ := by
  walk_at "stp"
theorem seed_loop {x0 x1 x3 x5 : Option O} {mu : List O} : ∀ (ds : List D), (∀ d ∈ ds, ∃ i, d = .int i) → ∀ (x2 : Option O) (b : Int), 0 ≤ b → b < 2305843009213693952 →
    ∃ x2' b', forL (gN 2) (sAsg 4 (xOp modD (xOp addD (xOp addD (xOp addD (xOp mulD (xBor 4) (xC (.int 69069))) (xOp modD (xBor 2) (xC (.int 1000003)))) (xRd 2)) (xC (.int 5))) (xC (.int 2305843009213693951)))) ds ⟨[x0, x1, x2, x3, some (.fz (.int b)), x5], mu⟩ = .ok .nx ⟨[x0, x1, x2', x3, some (.fz (.int b')), x5], mu⟩ ∧ (0 ≤ b' ∧ b' < 2305843009213693952) ∧ (x2' = x2 ∨ ∃ d, x2' = some (.fz d))
  | [], _, x2, b, h0, h1 => ⟨x2, b, rfl, ⟨h0, h1⟩, .inl rfl⟩
  | d :: ds, hd, x2, b, h0, h1 => by
    obtain ⟨i, rfl⟩ := hd d List.mem_cons_self
    have m1 : mulOkB b 69069 = true := mulR (by decide) (by decide)
    have p1 : (0 : Int) < 2305843009213693951 := by decide
    have p2 : (0 : Int) < 1000003 := by decide
    generalize hv : (b * 69069 + i % 1000003 + i + 5) % 2305843009213693951 = v
    have v0 : 0 ≤ v := by rw [← hv]; exact Int.emod_nonneg _ (by decide)
    have v1 : v < 2305843009213693951 := by rw [← hv]; exact Int.emod_lt_of_pos _ (by decide)
    obtain ⟨x2', b', h2, h3, h4⟩ := seed_loop (x0 := x0) (x1 := x1) (x3 := x3) (x5 := x5) (mu := mu) ds (fun d h => hd d (List.mem_cons_of_mem _ h)) (some (.fz (.int i))) v v0 (by omega)
    refine ⟨x2', b', ?_, h3, by rcases h4 with h4 | h4; exact .inr ⟨_, h4⟩; exact .inr h4⟩
    rw [st_for1, st_gN]
    simp only [setS_2]
    have e : (sAsg 4 (xOp modD (xOp addD (xOp addD (xOp addD (xOp mulD (xBor 4) (xC (.int 69069))) (xOp modD (xBor 2) (xC (.int 1000003)))) (xRd 2)) (xC (.int 5))) (xC (.int 2305843009213693951)))) ⟨[x0, x1, some (.fz (.int i)), x3, some (.fz (.int b)), x5], mu⟩ = .ok .nx ⟨[x0, x1, some (.fz (.int i)), x3, some (.fz (.int v)), x5], mu⟩ := by
      subst hv
      clear h2 hd v0 v1 h0 h1
      walk_at "spn"
    rw [e, st_bok, st_forn, h2]
theorem cut_map {ns : List Int} {lo hi : Option Int} : ∃ ms : List Int, cutD (ns.map D.int) lo hi = ms.map D.int ∧ ms.length ≤ ns.length := by
  refine ⟨(ns.drop (HT.sIx (ns.map D.int).length 0 lo)).take (HT.sIx (ns.map D.int).length (ns.map D.int).length hi - HT.sIx (ns.map D.int).length 0 lo), ?_, ?_⟩
  · unfold cutD
    rw [← List.map_drop, ← List.map_take]
  · rw [List.length_take, List.length_drop]; omega
theorem well_ok {ns : List Int} (hn : ns.length ≤ 63) (mu : List O) : ∃ o b, m_law_well [.lsk (ns.map .int)] mu = .ok (wellO o b 0) ⟨[], mu⟩ ∧ OwnOk o ∧ 0 ≤ b ∧ b < 2305843009213693952 := by
  obtain ⟨T, pT, tT, h1, h2, h3, h4, h5, h6⟩ : ∃ T : Int, powD (.int 10) (.int 60) = some (.fz (.int T)) ∧ 0 < T ∧ mulOkB T T = true ∧ mulOkB (T * T) T = true ∧ mulOkB (T * T * T) T = true ∧ mulOkB (T * T * T * T) T = true ∧ mulOkB (T * T * T * T * T) T = true ∧ mulOkB (T * T * T * T * T * T) T = true :=
    ⟨10 ^ 60, by simp [powD, iiD], by decide +kernel, by decide +kernel, by decide +kernel, by decide +kernel, by decide +kernel, by decide +kernel, by decide +kernel⟩
  have F0 : 0 < T * T * T * T * T * T * T := Int.mul_pos (Int.mul_pos (Int.mul_pos (Int.mul_pos (Int.mul_pos (Int.mul_pos tT tT) tT) tT) tT) tT) tT
  have f1 := far_loop (some (.fz (.lsk (ns.map D.int)))) (some (.lst [])) (some (.fz (.int 4099))) pT h1 h2 h3 h4 h5 h6 mu
  obtain ⟨ms, hms, lms⟩ := cut_map (ns := ns) (lo := none) (hi := some 63)
  have sl : slD (.lsk (ns.map D.int)) none (some 63) = some (.lst (ms.map .int)) := by rw [← hms]; rfl
  obtain ⟨x2, b, f2, ⟨b0, b1⟩, hx2⟩ := seed_loop (x0 := some (.fz (.lsk (ns.map D.int)))) (x1 := some (.fz (.int 5))) (x3 := some (.lst [])) (x5 := some (.fz (.int (T * T * T * T * T * T * T)))) (mu := mu) (ms.map D.int) (fun d h => by obtain ⟨i, _, e⟩ := List.mem_map.mp h; exact ⟨i, e.symm⟩) none 4099 (by decide) (by decide)
  generalize T * T * T * T * T * T * T = F at *
  have e0 : env0 6 [D.lsk (ns.map D.int)] = [some (.fz (.lsk (ns.map D.int))), none, none, none, none, none] := rfl
  have z3 : (3 : Nat) ≤ 16777216 := by decide
  have z0 : (0 : Nat) ≤ 16777216 := by decide
  have s0 : (sPar3 3 4 5 (oCons (xLst aNil) (oCons (xC (.int 4099)) (oCons (xOp powD (xC (.int 10)) (xC (.int 60))) oNil)))) ⟨[some (.fz (.lsk (ns.map D.int))), none, none, none, none, none], mu⟩ = .ok .nx ⟨[some (.fz (.lsk (ns.map D.int))), none, none, some (.lst []), some (.fz (.int 4099)), some (.fz (.int T))], mu⟩ := by
    clear f1 f2 sl hms h1 h2 h3 h4 h5 h6
    walk_at "spn"
  have i1 : (mRng1 (aCons (frz (xC (.int 6))) aNil)) ⟨[some (.fz (.lsk (ns.map D.int))), none, none, some (.lst []), some (.fz (.int 4099)), some (.fz (.int T))], mu⟩ = .ok [.int 0, .int 1, .int 2, .int 3, .int 4, .int 5] ⟨[some (.fz (.lsk (ns.map D.int))), none, none, some (.lst []), some (.fz (.int 4099)), some (.fz (.int T))], mu⟩ := rfl
  have i2 : (mSeq (frz (xSl (xBor 0) (ret none) (mPart (xC (.int 63)))))) ⟨[some (.fz (.lsk (ns.map D.int))), some (.fz (.int 5)), none, some (.lst []), some (.fz (.int 4099)), some (.fz (.int F))], mu⟩ = .ok (ms.map .int) ⟨[some (.fz (.lsk (ns.map D.int))), some (.fz (.int 5)), none, some (.lst []), some (.fz (.int 4099)), some (.fz (.int F))], mu⟩ := by
    clear f1 f2 hms h1 h2 h3 h4 h5 h6 s0 i1
    generalize ns.map D.int = L at *
    generalize ms.map D.int = M at *
    walk_at "spn"
  have last : ∃ o x2', (sIf (bAnd (toB (xOp gtD (xUn lenD (xRd 0)) (xC (.int 0)))) (toB (xOp geD (xOpQ ixD (xRd 0) (fun _ => some (.int 0))) (xOp powD (xC (.int 10)) (xC (.int 18))))))
    (sAsg 3 (xLc [2] (mSeq (frz (xSl (xBor 0) (ret none) (mPart (xC (.int 63)))))) (gN 2) (ret true) (frz (xOp modD (xUn absD (xRd 2)) (xRd 5)))))
    sNil) ⟨[some (.fz (.lsk (ns.map D.int))), some (.fz (.int 5)), x2, some (.lst []), some (.fz (.int b)), some (.fz (.int F))], mu⟩ = .ok .nx ⟨[some (.fz (.lsk (ns.map D.int))), some (.fz (.int 5)), x2', some o, some (.fz (.int b)), some (.fz (.int F))], mu⟩ ∧ OwnOk o := by
    have pw : powD (.int 10) (.int 18) = some (.fz (.int 1000000000000000000)) := by simp [powD, iiD]
    have ll : lenD (.lsk (ns.map D.int)) = some (.fz (.int ((ns.map D.int).length : Int))) := rfl
    rw [List.length_map] at ll
    clear f1 f2 hms h1 h2 h3 h4 h5 h6 s0 i1 i2 e0
    cases hns : ns with
    | nil =>
      subst hns
      refine ⟨.lst [], x2, ?_, .inr ⟨[], rfl, by simp, fun x h => by cases h⟩⟩
      have l0 : lenD (.lsk (([] : List Int).map D.int)) = some (.fz (.int 0)) := rfl
      have hd : decide ((0 : Int) < 0) = false := rfl
      have h00 : ((0 : Int) < 0) = False := eq_false (by decide)
      clear ll
      generalize (([] : List Int).map D.int) = L at *
      clear hn lms hx2
      walk_at "spn"
    | cons n0 nr =>
      have ix : ixD (.lsk (ns.map D.int)) (.int 0) = some (.fz (.int n0)) := by rw [hns, List.map_cons, st_ixk, st_at0]; rfl
      have hd : decide ((0 : Int) < ((ns.length : Nat) : Int)) = true := by rw [hns, List.length_cons]; exact decide_eq_true (by omega)
      rw [← hns]
      have lc := lc_img (vs := [2]) (t := gN 2) (mt := ret true) (me := (frz (xOp modD (xUn absD (xRd 2)) (xRd 5)))) (mu := mu) (env := [some (.fz (.lsk (ns.map D.int))), some (.fz (.int 5)), none, some (.lst []), some (.fz (.int b)), some (.fz (.int F))])
        D.int (fun i => .int ((if i < 0 then -i else i) % F)) ms (fun i _ => ⟨_, _, [some (.fz (.lsk (ns.map D.int))), some (.fz (.int 5)), some (.fz (.int i)), some (.lst []), some (.fz (.int b)), some (.fz (.int F))], rfl, rfl, by
          clear ix hd ll hx2 hns sl
          generalize ns.map D.int = L at *
          walk_at "spn", rfl, rfl⟩)
      have hm : (ms.map fun i => D.int ((if i < 0 then -i else i) % F)) = (ms.map fun i => (if i < 0 then -i else i) % F).map D.int := by rw [List.map_map]; rfl
      rw [hm] at lc
      have own : OwnOk (.lst ((ms.map fun i => (if i < 0 then -i else i) % F).map D.int)) := .inr ⟨_, rfl, by rw [List.length_map]; omega, fun x hx => by
        obtain ⟨i, _, rfl⟩ := List.mem_map.mp hx
        exact Int.emod_nonneg _ (by omega)⟩
      have lM : (ms.map D.int).length ≤ 16777216 := by rw [List.length_map]; omega
      by_cases hb : (1000000000000000000 : Int) ≤ n0
      · have hb' := decide_eq_true hb
        refine ⟨_, x2, ?_, own⟩
        clear own hm hns hb hn lms
        generalize (ms.map fun i => (if i < 0 then -i else i) % F).map D.int = R at *
        generalize ns.map D.int = L at *
        generalize ms.map D.int = M at *
        generalize (1000000000000000000 : Int) = TT at *
        rcases hx2 with rfl | ⟨y, rfl⟩
        · walk_at "spn"
        · walk_at "spn"
      · have hb' := decide_eq_false hb
        refine ⟨.lst [], x2, ?_, .inr ⟨[], rfl, by simp, fun x h => by cases h⟩⟩
        clear own hm hns hb hn lms lc
        generalize ns.map D.int = L at *
        generalize (1000000000000000000 : Int) = TT at *
        walk_at "spn"
  obtain ⟨o, x2', s3, ho⟩ := last
  refine ⟨o, b, ?_, ho, b0, b1⟩
  unfold m_law_well
  rw [st_fnM, e0, st_seq, s0, st_bok, st_seqn, st_seq, st_for, i1, st_bok, f1, st_bok, st_seqn, st_seq, st_for, i2, st_bok, f2, st_bok, st_seqn, st_seq, s3, st_bok, st_seqn]
  clear f1 f2 hms h1 h2 h3 h4 h5 h6 s0 i1 i2 s3 e0 sl
  rcases ho with rfl | ⟨xs, rfl, _⟩ <;> rfl
abbrev dRow (r : List Str) : D := .tup (r.map .str)
abbrev dRows (R : List (List Str)) : D := .tup (R.map dRow)
def RowOk (w : Nat) (r : List Str) : Prop := r.length = w ∧ ∀ s ∈ r, SignOk s
def RowsOk (R : List (List Str)) : Prop := (1 ≤ R.length ∧ R.length ≤ 9) ∧ ∃ w, (1 ≤ w ∧ w ≤ 9) ∧ ∀ r ∈ R, RowOk w r
theorem lc_cons {vs : List Nat} {t : MT} {mt : M Bool} {me : M D} {env e1 e2 e3 : List (Option O)} {mu mu1 : List O} {d y : D} {ds ys : List D} {s' : S} (h1 : t d ⟨env, mu⟩ = some ⟨e1, mu⟩) (h2 : mt ⟨e1, mu⟩ = .ok true ⟨e2, mu⟩) (h3 : me ⟨e2, mu⟩ = .ok y ⟨e3, mu1⟩)
    (h4 : freeE e3 vs = true) (h5 : wipeE e3 vs = env) (h6 : lcL vs t mt me ds ⟨env, mu1⟩ = .ok ys s') : lcL vs t mt me (d :: ds) ⟨env, mu⟩ = .ok (y :: ys) s' := by
  rw [st_lc1, h1]
  show ((mt ⟨e1, mu⟩).bind (lcT vs t mt me ds)) = _
  rw [h2, st_bok, st_lcT, if_pos rfl, h3, st_bok, st_lcY, if_pos h4, h5, h6, st_bok]
  rfl
theorem ix_tup {ds : List D} {i : Int} (h : 0 ≤ i) (h2 : i.toNat < ds.length) : ixD (.tup ds) (.int i) = some (.fz ds[i.toNat]) := by
  obtain ⟨a, rfl⟩ := Int.eq_ofNat_of_zero_le h
  have h2' : a < ds.length := h2
  rw [st_ixt, atN, List.getElem?_eq_getElem h2']; rfl
theorem sign_ok {mu : List O} {k n : Nat} (h : WellAt mu k n) (hn : n ≤ 700000000) :
    ∃ s mu', m_law_sign [.cel k] mu = .ok (.fz (.str s)) ⟨[], mu'⟩ ∧ SignOk s ∧ WellAt mu' k (n + 30) := by
  obtain ⟨r1, mu1, e1, a1, b1, p1⟩ := take_ok (m := 4) h (by decide) (by decide) (by omega)
  obtain ⟨s, mu2, e2, hs, p2⟩ := name_ok p1 (by omega)
  have z10 : (10 : Nat) ≤ 16777216 := by decide
  have z2 : (2 : Nat) ≤ 16777216 := by decide
  have e0 : env0 4 [D.cel k] = [some (.fz (.cel k)), none, none, none] := rfl
  have s0 : (sPar 2 3 (oCons (xLst (aCons (frz (xC (.str "pin"))) (aCons (frz (xC (.str "again"))) (aCons (frz (xC (.str "move"))) (aCons (frz (xC (.str "take"))) (aCons (frz (xC (.str "tear"))) (aCons (frz (xC (.str "at"))) (aCons (frz (xC (.str "to"))) (aCons (frz (xC (.str "until"))) (aCons (frz (xC (.str "strips"))) (aCons (frz (xC (.str "known"))) aNil))))))))))) (oCons (xCall m_law_take (fun ds _ => ds) 2 (nK []) (aCons (frz (xVar 0)) (aCons (frz (xC (.int 4))) aNil)) aNil) oNil))) ⟨[some (.fz (.cel k)), none, none, none], mu⟩ = .ok .nx ⟨[some (.fz (.cel k)), none, some (.lst keptD), some (.fz (.int r1))], mu1⟩ := by
    clear h p1 p2 e2
    walk_at "spn"
  unfold m_law_sign
  rw [st_fnM, e0, st_seq, s0, st_bok, st_seqn]
  clear e0 s0 e1 h
  by_cases h0 : r1 < 2
  · have h0' := decide_eq_true h0
    have hr : r1 = 0 ∨ r1 = 1 := by omega
    rcases hr with rfl | rfl
    · refine ⟨"-", mu1, ?_, .inl rfl, p1.mono (by omega)⟩
      clear e2 p1 p2 hs h0
      walk_at "spn"
    · refine ⟨"?", mu1, ?_, .inr (.inl rfl), p1.mono (by omega)⟩
      clear e2 p1 p2 hs h0
      walk_at "spn"
  · have h0' := decide_eq_false h0
    by_cases hk : s ∈ keptT
    · obtain ⟨i1, i2, i3⟩ := in_yes hk
      refine ⟨s ++ "q", mu2, ?_, .inr (.inr i3), p2.mono (by omega)⟩
      clear p1 p2 hs h0 i3 hk
      walk_at "spn"
    · have i1 := in_no hk
      refine ⟨s, mu2, ?_, .inr (.inr ⟨hs.1, hs.2.1, hs.2.2, hk⟩), p2.mono (by omega)⟩
      clear p1 p2 hs h0 hk
      walk_at "spn"
theorem signs_loop {k : Nat} {x1 x2 x3 x4 : Option O} : ∀ (ds : List D) (mu : List O) (n : Nat), WellAt mu k n → n + 30 * ds.length ≤ 600000000 →
    ∃ (ss : List Str) (mu' : List O), lcL [5] (gN 5) (Tr.ret true) (frz (xCall m_law_sign (fun ds _ => ds) 1 (nK []) (aCons (frz (xVar 0)) aNil) aNil)) ds
      ⟨[some (.fz (.cel k)), x1, x2, x3, x4, none], mu⟩ = .ok (ss.map .str) ⟨[some (.fz (.cel k)), x1, x2, x3, x4, none], mu'⟩ ∧ ss.length = ds.length ∧ (∀ s ∈ ss, SignOk s) ∧ WellAt mu' k (n + 30 * ds.length)
  | [], mu, n, h, hn => ⟨[], mu, rfl, rfl, (fun _ h => nomatch h), h⟩
  | d :: ds, mu, n, h, hn => by
    rw [List.length_cons] at hn
    obtain ⟨c, mu1, e1, hm, p1⟩ := sign_ok h (by omega)
    obtain ⟨cs, mu2, e2, l2, m2, p2⟩ := signs_loop (x1 := x1) (x2 := x2) (x3 := x3) (x4 := x4) ds mu1 (n + 30) p1 (by omega)
    refine ⟨c :: cs, mu2, ?_, by rw [List.length_cons, List.length_cons, l2], fun z hz => ?_, by rw [List.length_cons]; rw [show n + 30 * (ds.length + 1) = n + 30 + 30 * ds.length by omega]; exact p2⟩
    · clear h p1 p2 m2 l2 hm
      walk_at "stp"
    · rcases List.mem_cons.mp hz with rfl | hz
      · exact hm
      · exact m2 z hz
theorem rows_loop {k : Nat} {x1 : Option O} {w : Int} (hw0 : 0 ≤ w) (hw : w ≤ 9) : ∀ (ds : List D) (mu : List O) (n : Nat) (x3 : Option O), WellAt mu k n → n + 300 * ds.length ≤ 500000000 →
    ∃ (R : List (List Str)) (mu' : List O), lcL [4] (gN 4) (Tr.ret true) (frz (xUn tupleD (xLc [5] (mRng1 (aCons (frz (xVar 2)) aNil)) (gN 5) (ret true) (frz (xCall m_law_sign (fun ds _ => ds) 1 (nK []) (aCons (frz (xVar 0)) aNil) aNil))))) ds
      ⟨[some (.fz (.cel k)), x1, some (.fz (.int w)), x3, none, none], mu⟩ = .ok (R.map dRow) ⟨[some (.fz (.cel k)), x1, some (.fz (.int w)), x3, none, none], mu'⟩ ∧ R.length = ds.length ∧ (∀ r ∈ R, RowOk w.toNat r) ∧ WellAt mu' k (n + 300 * ds.length)
  | [], mu, n, x3, h, hn => ⟨[], mu, rfl, rfl, (fun _ h => nomatch h), h⟩
  | d :: ds, mu, n, x3, h, hn => by
    rw [List.length_cons] at hn
    have hL : (rngL 0 w.toNat).length = w.toNat := by unfold rngL; rw [List.length_map, List.length_range]
    obtain ⟨ss, mu1, e1, l1, m1, p1⟩ := signs_loop (x1 := x1) (x2 := some (.fz (.int w))) (x3 := x3) (x4 := some (.fz d)) (rngL 0 w.toNat) mu n h (by omega)
    obtain ⟨R, mu2, e2, l2, m2, p2⟩ := rows_loop (x1 := x1) hw0 hw ds mu1 (n + 300) x3 (p1.mono (by omega)) (by omega)
    refine ⟨ss :: R, mu2, ?_, by rw [List.length_cons, List.length_cons, l2], fun z hz => ?_, by rw [List.length_cons]; rw [show n + 300 * (ds.length + 1) = n + 300 + 300 * ds.length by omega]; exact p2⟩
    · have rg := st_rng1 (i := w) (by omega) (by omega)
      have hl : (rngL 0 w.toNat).length ≤ 16777216 := by omega
      have tq : tupleD (.lst (ss.map D.str)) = some (.fz (.tup (ss.map D.str))) := rfl
      have hr : dRow ss = .tup (ss.map D.str) := rfl
      rw [List.map_cons, hr]
      clear h p1 p2 m2 l2 m1 l1 hL hr
      generalize rngL 0 w.toNat = RL at *
      generalize ss.map D.str = SS at *
      have me : (frz (xUn tupleD (xLc [5] (mRng1 (aCons (frz (xVar 2)) aNil)) (gN 5) (ret true) (frz (xCall m_law_sign (fun ds _ => ds) 1 (nK []) (aCons (frz (xVar 0)) aNil) aNil))))) ⟨[some (.fz (.cel k)), x1, some (.fz (.int w)), x3, some (.fz d), none], mu⟩ = .ok (.tup SS) ⟨[some (.fz (.cel k)), x1, some (.fz (.int w)), x3, some (.fz d), none], mu1⟩ := by
        clear e2
        walk_at "spn"
      exact lc_cons rfl rfl me rfl rfl e2
    · rcases List.mem_cons.mp hz with rfl | hz
      · exact ⟨by rw [l1, hL], m1⟩
      · exact m2 z hz
theorem any_rows_ok {k n : Nat} {mu : List O} (h : WellAt mu k n) (hn : n ≤ 400000000) : ∃ R mu', m_law_any_rows [.cel k] mu = .ok (.fz (dRows R)) ⟨[], mu'⟩ ∧ RowsOk R ∧ WellAt mu' k (n + 3000) := by
  obtain ⟨d1, mu1, e1, h1, p1⟩ := of_lst (ds := [.int 1, .int 2, .int 3, .int 5, .int 9]) h (by decide) (by decide) (by omega)
  obtain ⟨d2, mu2, e2, h2, p2⟩ := of_lst (ds := [.int 1, .int 2, .int 3, .int 5, .int 9]) p1 (by decide) (by decide) (by omega)
  have io : ∀ d ∈ [D.int 1, .int 2, .int 3, .int 5, .int 9], ∃ w : Int, d = .int w ∧ 1 ≤ w ∧ w ≤ 9 := fun d hd => by
    simp only [List.mem_cons, List.not_mem_nil, or_false] at hd
    rcases hd with rfl | rfl | rfl | rfl | rfl
    · exact ⟨1, rfl, by decide, by decide⟩
    · exact ⟨2, rfl, by decide, by decide⟩
    · exact ⟨3, rfl, by decide, by decide⟩
    · exact ⟨5, rfl, by decide, by decide⟩
    · exact ⟨9, rfl, by decide, by decide⟩
  obtain ⟨w, rfl, w1, w9⟩ := io d1 h1
  obtain ⟨t, rfl, t1, t9⟩ := io d2 h2
  have hL : (rngL 0 t.toNat).length = t.toNat := by unfold rngL; rw [List.length_map, List.length_range]
  obtain ⟨R, mu3, e3, l3, m3, p3⟩ := rows_loop (x1 := some (.fz (.lst [.int 1, .int 2, .int 3, .int 5, .int 9]))) (by omega) w9 (rngL 0 t.toNat) mu2 (n + 1 + 1) (some (.fz (.int t))) p2 (by omega)
  refine ⟨R, mu3, ?_, ⟨⟨by omega, by omega⟩, w.toNat, ⟨by omega, by omega⟩, m3⟩, p3.mono (by omega)⟩
  have rg := st_rng1 (i := t) (by omega) (by omega)
  have hl : (rngL 0 t.toNat).length ≤ 16777216 := by omega
  have tq : tupleD (.lst (R.map dRow)) = some (.fz (.tup (R.map dRow))) := rfl
  have z5 : (5 : Nat) ≤ 16777216 := by decide
  have z2 : (2 : Nat) ≤ 16777216 := by decide
  clear h p1 p2 p3 m3 l3 hL h1 h2 io
  show m_law_any_rows [.cel k] mu = .ok (.fz (.tup (R.map dRow))) ⟨[], mu3⟩
  generalize rngL 0 t.toNat = RL at *
  generalize R.map dRow = RR at *
  unfold m_law_any_rows
  walk_at "spn"
def isAny : D → Bool
  | .non => true
  | .bl _ => true
  | .int _ => true
  | .str s => decide (s.length ≤ 10000000)
  | .tup xs => noCA xs
  | .lst xs => noCA xs
  | .dct kvs => noCK kvs
  | _ => false
def nameS (s : Str) : Bool := decide (1 ≤ s.length) && decide (s.length ≤ 8) && s.cps.toList.all (fun c => decide (c ∈ lettersT.cps.toList)) && decide (s ∉ keptT)
def nameB : D → Bool
  | .str s => nameS s
  | _ => false
theorem isi_str {d : D} (h : isAny d = true) : isiD [d, .ty "str"] = some (.fz (.bl (match d with | .str _ => true | _ => false))) := by
  cases d <;> first | (cases h; done) | rfl
theorem any_strs (s : Str) : ∀ l : List Str, (l.map D.str).any (fun y => eqF y (.str s)) = decide (s ∈ l)
  | [] => rfl
  | x :: l => by
    rw [List.map_cons, List.any_cons, any_strs s l]
    show ((x == s) || _) = _
    rw [show (x == s) = decide (s = x) by
      by_cases h : x = s
      · subst h; simp
      · rw [decide_eq_false (Ne.symm h)]; exact beq_eq_false_iff_ne.mpr h]
    rw [← Bool.decide_or]
    exact decide_eq_decide.mpr (List.mem_cons.symm)
theorem inK {s : Str} {L : D} {l : List Str} (hL : itemsD L = some (l.map D.str)) : inB (.str s) L = some (decide (s ∈ l)) := by
  have e : inB (.str s) L = (match itemsD L with
    | some ds => if flatD (.str s) = true ∧ ds.all flatD = true then some (ds.any fun y => eqF y (.str s)) else none
    | none => none) := by
    cases L <;> first | rfl | cases hL
  rw [e, hL]
  dsimp only
  rw [if_pos ⟨rfl, by rw [List.all_map]; exact List.all_eq_true.mpr fun _ _ => rfl⟩, any_strs]
theorem ninK {s : Str} (L : D) (hL : itemsD L = some (keptT.map D.str)) : ninD (.str s) L = some (.fz (.bl (decide (s ∉ keptT)))) := by
  unfold ninD
  rw [inK hL]
  by_cases h : s ∈ keptT <;> simp [h]
theorem name_any {d : D} {mu : List O} (h : isAny d = true) : m_is_name [d] mu = .ok (.fz (.bl (nameB d))) ⟨[], mu⟩ := by
  have e1 := isi_str h
  cases d with
  | str s =>
    have hl : s.length ≤ 10000000 := of_decide_eq_true h
    have hl2 : s.length ≤ 16777216 := by omega
    have e2 : stripD (.str s) [.str "abcdefghijklmnopqrstuvwxyz"] = some (.fz (.str (Txt.stripChars s lettersT))) := by
      show (if s.length ≤ 16777216 then some (O.fz (D.str (Txt.stripChars s lettersT))) else none) = _
      rw [if_pos hl2]
    have e3 := ninK (s := s) (.tuk [(.str "pin"), (.str "again"), (.str "move"), (.str "take"), (.str "tear"), (.str "at"), (.str "to"), (.str "until"), (.str "strips"), (.str "known")]) rfl
    have e4 : decide (Txt.stripChars s lettersT = "") = s.cps.toList.all (fun c => decide (c ∈ lettersT.cps.toList)) := by
      rw [decide_eq_decide.mpr (strip_iff s lettersT)]
      by_cases hh : ∀ c ∈ s.cps.toList, c ∈ lettersT.cps.toList
      · rw [decide_eq_true hh]; exact (List.all_eq_true.mpr fun c hc => decide_eq_true (hh c hc)).symm
      · rw [decide_eq_false hh]
        symm
        rw [← Bool.not_eq_true, List.all_eq_true]
        exact fun z => hh fun c hc => of_decide_eq_true (z c hc)
    dsimp only at e1
    show _ = R.ok (O.fz (D.bl (nameS s))) _
    unfold nameS
    generalize s.cps.toList.all (fun c => decide (c ∈ lettersT.cps.toList)) = A at *
    by_cases h1 : 1 ≤ s.length
    · have k1 : decide ((1 : Int) ≤ (s.length : Int)) = true := decide_eq_true (by omega)
      have k1' := decide_eq_true h1
      by_cases h2 : s.length ≤ 8
      · have k2 : decide ((s.length : Int) ≤ 8) = true := decide_eq_true (by omega)
        have k2' := decide_eq_true h2
        rw [k1', k2']
        clear h hl h1 h2 k1' k2'
        unfold m_is_name
        cases A <;> walk_at "spn"
      · have k2 : decide ((s.length : Int) ≤ 8) = false := decide_eq_false (by omega)
        have k2' := decide_eq_false h2
        rw [k1', k2']
        clear h hl h1 h2 k1' k2'
        unfold m_is_name
        walk_at "spn"
    · have k1 : decide ((1 : Int) ≤ (s.length : Int)) = false := decide_eq_false (by omega)
      have k1' := decide_eq_false h1
      rw [k1']
      clear h hl h1 k1'
      unfold m_is_name
      walk_at "spn"
  | _ =>
    first
    | (cases h; done)
    | (unfold m_is_name nameB; dsimp only at e1; walk_at "spn")
theorem nameS_iff {s : Str} : nameS s = true ↔ NameOk s := by
  unfold nameS NameOk
  simp only [Bool.and_eq_true, decide_eq_true_eq, List.all_eq_true]
  constructor
  · rintro ⟨⟨⟨a, b⟩, c⟩, d⟩; exact ⟨a, b, c, d⟩
  · rintro ⟨a, b, c, d⟩; exact ⟨⟨⟨a, b⟩, c⟩, d⟩
theorem sign_strOk {s : Str} (h : SignOk s) : PyData.strOk s = true := by
  have hc : ∀ c ∈ s.cps.toList, c < 128 := by
    rcases h with rfl | rfl | h
    · decide
    · decide
    · intro c hc
      have : ∀ c ∈ lettersT.cps.toList, c < 128 := by decide +kernel
      exact this c (h.2.2.1 c hc)
  unfold PyData.strOk
  rw [← Array.all_toList]
  exact List.all_eq_true.mpr fun c hc' => decide_eq_true (Nat.lt_trans (hc c hc') (by decide))
theorem in_bd {s : Str} : inD (.str s) (.tup [.str "-", .str "?"]) = some (.fz (.bl (decide (s = "-" ∨ s = "?")))) := by
  unfold inD
  rw [inK (l := ["-", "?"]) rfl]
  show some (O.fz (.bl (decide (s ∈ (["-", "?"] : List Str))))) = _
  rw [decide_eq_decide.mpr (show s ∈ (["-", "?"] : List Str) ↔ (s = "-" ∨ s = "?") by simp)]
noncomputable def is_sign_0 : M Fl :=
    (sRet (xAndV (xCn isiD (aCons (frz (xVar 0)) (aCons (ret (.ty "str")) aNil))) (xOrV (xOp inD (xBor 0) (xTup (aCons (frz (xC (.str "-"))) (aCons (frz (xC (.str "?"))) aNil)))) (xCall m_is_name (fun ds _ => ds) 1 (nK []) (aCons (frz (xVar 0)) aNil) aNil))))
theorem is_sign_eq : m_is_sign = fnM 1
    is_sign_0 := rfl
def signS (s : Str) : Bool := decide (s = "-" ∨ s = "?") || nameS s
theorem signS_iff {s : Str} : signS s = true ↔ SignOk s := by
  unfold signS SignOk
  rw [Bool.or_eq_true, decide_eq_true_eq, nameS_iff, or_assoc]
theorem sign_any {s : Str} {mu : List O} (hl : s.length ≤ 10000000) : m_is_sign [.str s] mu = .ok (.fz (.bl (signS s))) ⟨[], mu⟩ := by
  have e1 : isiD [.str s, .ty "str"] = some (.fz (.bl true)) := rfl
  have e2 := in_bd (s := s)
  have e3 := fun env => run_ok (env := env) (name_any (d := .str s) (mu := mu) (decide_eq_true hl))
  have e3 : ∀ env, runF m_is_name [.str s] ⟨env, mu⟩ = .ok (.fz (.bl (nameS s))) ⟨env, mu⟩ := e3
  unfold signS
  generalize decide (s = "-" ∨ s = "?") = f1 at *
  generalize nameS s = f2 at *
  refine w_eq ?_
  (refine fn_wv is_sign_eq ?_; unfold is_sign_0)
  cases f1
  · ((walk_at "vc"); repeat ((refine w_rw (by first | (simp only [e1, e2, e3]; done) | (simp only [e1, e2, e3]; rfl)) ?_); (walk_at "vc")))
    exact ⟨rfl, rfl⟩
  · ((walk_at "vc"); repeat ((refine w_rw (by first | (simp only [e1, e2]; done) | (simp only [e1, e2]; rfl)) ?_); (walk_at "vc")))
    exact ⟨rfl, rfl⟩
noncomputable def are_rows_0T : M Bool :=
    (bOr (bNot (toB (xCn isiD (aCons (frz (xVar 0)) (aCons (ret (.ty "tuple")) aNil))))) (bNot (toB (xChain leD leD (xC (.int 1)) (xUn lenD (xRd 0)) (xC (.int 9))))))
noncomputable def are_rows_0B0 : M Fl :=
    (sRet (xC (.bl false)))
noncomputable def are_rows_0B : M Fl :=
    are_rows_0B0
noncomputable def are_rows_1I : M (List D) :=
    (mSeq (frz (xVar 0)))
noncomputable def are_rows_1B0T : M Bool :=
    (bOr (bNot (toB (xCn isiD (aCons (frz (xVar 1)) (aCons (ret (.ty "tuple")) aNil))))) (bOr (bNot (toB (xChain leD leD (xC (.int 1)) (xUn lenD (xRd 1)) (xC (.int 9))))) (toB (xOp neD (xUn lenD (xRd 1)) (xUn lenD (xOpQ ixD (xRd 0) (fun _ => some (.int 0))))))))
noncomputable def are_rows_1B0B0 : M Fl :=
    (sRet (xC (.bl false)))
noncomputable def are_rows_1B0B : M Fl :=
    are_rows_1B0B0
noncomputable def are_rows_1B1TL0 : M D :=
    (frz (xCall m_is_sign (fun ds _ => ds) 1 (nK []) (aCons (frz (xVar 2)) aNil) aNil))
noncomputable def are_rows_1B1T : M Bool :=
    (bNot (toB (xUn allD (xLc [2] (mSeq (frz (xVar 1))) (gN 2) (ret true) are_rows_1B1TL0))))
noncomputable def are_rows_1B1B0 : M Fl :=
    (sRet (xC (.bl false)))
noncomputable def are_rows_1B1B : M Fl :=
    are_rows_1B1B0
noncomputable def are_rows_1B : M Fl :=
    (sSeq (sIf are_rows_1B0T are_rows_1B0B sNil) (sIf are_rows_1B1T are_rows_1B1B sNil))
noncomputable def are_rows_2 : M Fl :=
    (sRet (xC (.bl true)))
theorem are_rows_eq : m_are_rows = fnM 3
    (sSeq (sIf are_rows_0T are_rows_0B sNil) (sSeq (sFor are_rows_1I (gN 1) are_rows_1B) are_rows_2)) := rfl
/-! ### data of any kind: numbers, truths, None, texts, tuples, lists, dicts -/
mutual
def hA : D → Bool
  | .non => true
  | .bl _ => true
  | .int i => decide (i.natAbs.log2 < 1920)
  | .str s => decide (s.length ≤ 10000) && s.cps.toList.all (fun c => decide (c < 128))
  | .tup xs => hAA xs
  | .lst xs => hAA xs
  | .dct kvs => hAK kvs
  | _ => false
def hAA : List D → Bool
  | [] => true
  | x :: xs => hA x && hAA xs
def hAK : List (D × D) → Bool
  | [] => true
  | (k, x) :: xs => hA k && hA x && hAK xs
end
theorem hAA_iff : ∀ {xs : List D}, hAA xs = true ↔ ∀ x ∈ xs, hA x = true
  | [] => by simp [hAA]
  | x :: xs => by
    rw [hAA, Bool.and_eq_true, hAA_iff (xs := xs), List.forall_mem_cons]
mutual
theorem hA_ok : ∀ d : D, hA d = true → okD d = true
  | .non, _ => rfl
  | .bl _, _ => rfl
  | .int i, h => by rw [okD]; rw [hA] at h; exact h
  | .str s, h => by
    rw [hA, Bool.and_eq_true] at h
    rw [okD]
    exact List.all_eq_true.mpr fun c hc => decide_eq_true (Nat.lt_trans (of_decide_eq_true (List.all_eq_true.mp h.2 c hc)) (by decide))
  | .tup xs, h => by rw [hA] at h; rw [okD]; exact hA_okA xs h
  | .lst xs, h => by rw [hA] at h; rw [okD]; exact hA_okA xs h
  | .dct xs, h => by rw [hA] at h; rw [okD]; exact hA_okK xs h
  | .tuk _, h => by simp [hA] at h
  | .tun _, h => by simp [hA] at h
  | .lsk _, h => by simp [hA] at h
  | .dcu _, h => by simp [hA] at h
  | .ins _ _, h => by simp [hA] at h
  | .xob _ _, h => by simp [hA] at h
  | .xok _ _, h => by simp [hA] at h
  | .fn _, h => by simp [hA] at h
  | .ty _, h => by simp [hA] at h
  | .cel _, h => by simp [hA] at h
theorem hA_okA : ∀ xs : List D, hAA xs = true → okA xs = true
  | [], _ => rfl
  | x :: xs, h => by
    rw [hAA, Bool.and_eq_true] at h
    rw [okA, hA_ok x h.1, hA_okA xs h.2]; rfl
theorem hA_okK : ∀ xs : List (D × D), hAK xs = true → okK xs = true
  | [], _ => rfl
  | (k, x) :: xs, h => by
    rw [hAK, Bool.and_eq_true, Bool.and_eq_true] at h
    rw [okK, hA_ok k h.1.1, hA_ok x h.1.2, hA_okK xs h.2]; rfl
end
mutual
theorem hA_no : ∀ d : D, hA d = true → noC d = true
  | .non, _ => by rw [noC]
  | .bl _, _ => by rw [noC]
  | .int i, h => by rw [noC]
  | .str s, h => by rw [noC]
  | .tup xs, h => by rw [hA] at h; rw [noC]; exact hA_noA xs h
  | .lst xs, h => by rw [hA] at h; rw [noC]; exact hA_noA xs h
  | .dct xs, h => by rw [hA] at h; rw [noC]; exact hA_noK xs h
  | .tuk _, h => by simp [hA] at h
  | .tun _, h => by simp [hA] at h
  | .lsk _, h => by simp [hA] at h
  | .dcu _, h => by simp [hA] at h
  | .ins _ _, h => by simp [hA] at h
  | .xob _ _, h => by simp [hA] at h
  | .xok _ _, h => by simp [hA] at h
  | .fn _, h => by simp [hA] at h
  | .ty _, h => by simp [hA] at h
  | .cel _, h => by simp [hA] at h
theorem hA_noA : ∀ xs : List D, hAA xs = true → noCA xs = true
  | [], _ => by rw [noCA]
  | x :: xs, h => by
    rw [hAA, Bool.and_eq_true] at h
    rw [noCA, hA_no x h.1, hA_noA xs h.2]; rfl
theorem hA_noK : ∀ xs : List (D × D), hAK xs = true → noCK xs = true
  | [], _ => by rw [noCK]
  | (k, x) :: xs, h => by
    rw [hAK, Bool.and_eq_true, Bool.and_eq_true] at h
    rw [noCK, hA_no x h.1.2, hA_noK xs h.2]; rfl
end
theorem hA_any {d : D} (h : hA d = true) : isAny d = true := by
  cases d with
  | non => rfl
  | bl b => rfl
  | int i => rfl
  | str s =>
    rw [hA, Bool.and_eq_true] at h
    have := of_decide_eq_true h.1
    exact decide_eq_true (by omega)
  | tup xs => rw [hA] at h; exact hA_noA xs h
  | lst xs => rw [hA] at h; exact hA_noA xs h
  | dct xs => rw [hA] at h; exact hA_noK xs h
  | _ => simp [hA] at h
theorem wtA_sum : ∀ xs : List D, wtA xs = (xs.map fun x => wtD x + 2).sum
  | [] => rfl
  | x :: xs => by rw [wtA, wtA_sum xs, List.map_cons, List.sum_cons]
theorem dpA_le {p : Nat} : ∀ {xs : List D}, (∀ x ∈ xs, dpD x ≤ p) → dpA xs ≤ p
  | [], _ => Nat.zero_le _
  | x :: xs, h => by rw [dpA]; exact Nat.max_le.mpr ⟨h x List.mem_cons_self, dpA_le fun y hy => h y (List.mem_cons_of_mem _ hy)⟩
/-- data, how deep and how long at most -/
structure AnyP (d : D) (p w : Nat) : Prop where
  h : hA d = true
  dp : dpD d ≤ p
  wt : wtD d ≤ w
structure AL (xs : List D) (p w : Nat) : Prop where
  h : ∀ x ∈ xs, hA x = true
  dp : ∀ x ∈ xs, dpD x ≤ p
  wt : (xs.map fun x => wtD x + 2).sum ≤ w
theorem AnyP.mono {d : D} {p w p' w' : Nat} (h : AnyP d p w) (e : p ≤ p') (e2 : w ≤ w') : AnyP d p' w' := ⟨h.h, Nat.le_trans h.dp e, Nat.le_trans h.wt e2⟩
theorem AL.mono {xs : List D} {p w p' w' : Nat} (h : AL xs p w) (e : p ≤ p') (e2 : w ≤ w') : AL xs p' w' := ⟨h.h, fun x m => Nat.le_trans (h.dp x m) e, Nat.le_trans h.wt e2⟩
theorem AL.nil : AL [] 0 0 := ⟨fun _ h => (nomatch h), fun _ h => (nomatch h), Nat.le_refl _⟩
theorem AL.one {d : D} {p w : Nat} (h : AnyP d p w) : AL [d] p (w + 2) :=
  ⟨fun x m => by rw [List.mem_singleton.mp m]; exact h.h, fun x m => by rw [List.mem_singleton.mp m]; exact h.dp, by rw [List.map_singleton, List.sum_singleton]; have := h.wt; omega⟩
theorem AL.app {xs ys : List D} {p q w v : Nat} (h : AL xs p w) (g : AL ys q v) : AL (xs ++ ys) (max p q) (w + v) :=
  ⟨fun x m => (List.mem_append.mp m).elim (h.h x) (g.h x), fun x m => (List.mem_append.mp m).elim (fun z => Nat.le_trans (h.dp x z) (Nat.le_max_left _ _)) (fun z => Nat.le_trans (g.dp x z) (Nat.le_max_right _ _)),
    by rw [List.map_append, List.sum_append]; have := h.wt; have := g.wt; omega⟩
theorem sum_td {α : Type} (f : α → Nat) (l : List α) (k : Nat) : ((l.take k).map f).sum + ((l.drop k).map f).sum = (l.map f).sum := by
  rw [← List.sum_append, ← List.map_append, List.take_append_drop]
theorem AL.take {xs : List D} {p w : Nat} (h : AL xs p w) (k : Nat) : AL (xs.take k) p w :=
  ⟨fun x m => h.h x (List.mem_of_mem_take m), fun x m => h.dp x (List.mem_of_mem_take m), by have := sum_td (fun x => wtD x + 2) xs k; have := h.wt; omega⟩
theorem AL.drop {xs : List D} {p w : Nat} (h : AL xs p w) (k : Nat) : AL (xs.drop k) p w :=
  ⟨fun x m => h.h x (List.mem_of_mem_drop m), fun x m => h.dp x (List.mem_of_mem_drop m), by have := sum_td (fun x => wtD x + 2) xs k; have := h.wt; omega⟩
theorem AL.rep {xs : List D} {p w : Nat} (h : AL xs p w) : ∀ n : Nat, AL (List.replicate n xs).flatten p (n * w)
  | 0 => by simpa using AL.nil.mono (Nat.zero_le _) (Nat.le_refl _)
  | n + 1 => by
    rw [List.replicate_succ, List.flatten_cons]
    exact (h.app (AL.rep h n)).mono (by rw [Nat.max_self]; exact Nat.le_refl _) (by rw [Nat.succ_mul]; omega)
theorem AL.len {xs : List D} {p w : Nat} (h : AL xs p w) : 2 * xs.length ≤ w := by
  refine Nat.le_trans ?_ h.wt
  clear h
  induction xs with
  | nil => exact Nat.le_refl _
  | cons x xs ih => rw [List.length_cons, List.map_cons, List.sum_cons]; omega
theorem AL.map {α : Type} {f : α → D} {p w : Nat} : ∀ {l : List α}, (∀ a ∈ l, AnyP (f a) p w) → AL (l.map f) p (l.length * (w + 2))
  | [], _ => by simpa using AL.nil.mono (Nat.zero_le _) (Nat.le_refl _)
  | a :: l, h => by
    have h1 := AL.one (h a List.mem_cons_self)
    have h2 := AL.map (l := l) fun b hb => h b (List.mem_cons_of_mem _ hb)
    rw [List.map_cons]
    exact (h1.app h2).mono (by rw [Nat.max_self]; exact Nat.le_refl _) (by rw [List.length_cons, Nat.succ_mul]; omega)
theorem AL.tup {xs : List D} {p w : Nat} (h : AL xs p w) : AnyP (.tup xs) (p + 1) (w + 3) :=
  ⟨by rw [hA]; exact hAA_iff.mpr h.h, by rw [dpD]; exact Nat.succ_le_succ (dpA_le h.dp), by rw [wtD, wtA_sum]; have := h.wt; omega⟩
theorem AL.lst {xs : List D} {p w : Nat} (h : AL xs p w) : AnyP (.lst xs) (p + 1) (w + 3) :=
  ⟨by rw [hA]; exact hAA_iff.mpr h.h, by rw [dpD]; exact Nat.succ_le_succ (dpA_le h.dp), by rw [wtD, wtA_sum]; have := h.wt; omega⟩
theorem sum_len : ∀ xs : List D, 2 * xs.length ≤ (xs.map fun x => wtD x + 2).sum
  | [] => Nat.le_refl _
  | x :: xs => by have := sum_len xs; rw [List.length_cons, List.map_cons, List.sum_cons]; omega
theorem AnyP.of_tup {xs : List D} {p w : Nat} (h : AnyP (.tup xs) p w) : (∀ x ∈ xs, hA x = true) ∧ 2 * xs.length ≤ w := by
  have h1 := h.h
  have h2 := h.wt
  rw [hA] at h1
  rw [wtD, wtA_sum] at h2
  exact ⟨hAA_iff.mp h1, by have := sum_len xs; omega⟩
theorem AnyP.str {s : Str} {n : Nat} (hl : s.length ≤ n) (hn : n ≤ 10000) (h : ∀ c ∈ s.cps.toList, c < 128) : AnyP (.str s) 0 (10 * n + 2) :=
  ⟨by rw [hA, Bool.and_eq_true]; exact ⟨decide_eq_true (by omega), List.all_eq_true.mpr fun c hc => decide_eq_true (h c hc)⟩, Nat.le_refl _, by rw [wtD]; omega⟩
theorem AnyP.dct {d : D} {p w : Nat} (h : AnyP d p w) : AnyP (.dct [(.str "a", d)]) (p + 1) (w + 19) := by
  have h1 : hA (.str "a") = true := by rw [hA]; decide
  have h2 : wtD (.str "a") = 12 := rfl
  have h3 : dpD (.str "a") = 0 := rfl
  refine ⟨by rw [hA, hAK, hAK, h1, h.h]; rfl, ?_, ?_⟩
  · rw [dpD, dpK, dpK, h3]
    have := h.dp
    exact Nat.succ_le_succ (Nat.max_le.mpr ⟨Nat.max_le.mpr ⟨Nat.zero_le _, this⟩, Nat.zero_le _⟩)
  · rw [wtD, wtK, wtK, h2]
    have := h.wt
    omega
theorem sign_lt {s : Str} (h : SignOk s) : s.length ≤ 8 ∧ ∀ c ∈ s.cps.toList, c < 128 := by
  rcases h with rfl | rfl | h
  · exact ⟨by decide, by decide⟩
  · exact ⟨by decide, by decide⟩
  · refine ⟨h.2.1, fun c hc => ?_⟩
    have : ∀ c ∈ lettersT.cps.toList, c < 128 := by decide +kernel
    exact this c (h.2.2.1 c hc)
theorem sign_P {s : Str} (h : SignOk s) : AnyP (.str s) 0 82 := AnyP.str (n := 8) (sign_lt h).1 (by decide) (sign_lt h).2
theorem row_L {w : Nat} {r : List Str} (h : RowOk w r) (hw : w ≤ 9) : AL (r.map D.str) 0 756 :=
  (AL.map fun s hs => sign_P (h.2 s hs)).mono (Nat.le_refl _) (by rw [h.1]; exact Nat.le_trans (Nat.mul_le_mul_right _ hw) (by decide))
theorem rows_L {R : List (List Str)} (h : RowsOk R) : AL (R.map dRow) 1 6849 := by
  obtain ⟨⟨_, l9⟩, w, ⟨_, w9⟩, hw⟩ := h
  exact (AL.map fun r hr => (row_L (hw r hr) w9).tup).mono (Nat.le_refl _) (Nat.le_trans (Nat.mul_le_mul_right _ l9) (by decide))
def signB : D → Bool
  | .str s => signS s
  | _ => false
theorem sign_no {d : D} {mu : List O} (h : isiD [d, .ty "str"] = some (.fz (.bl false))) : m_is_sign [d] mu = .ok (.fz (.bl false)) ⟨[], mu⟩ := by
  refine w_eq ?_
  (refine fn_wv is_sign_eq ?_; unfold is_sign_0)
  ((walk_at "vc"); repeat ((refine w_rw (by first | (simp only [h]; done) | (simp only [h]; rfl)) ?_); (walk_at "vc")))
  exact ⟨rfl, rfl⟩
theorem sign_anyD {d : D} {mu : List O} (h : isAny d = true) : m_is_sign [d] mu = .ok (.fz (.bl (signB d))) ⟨[], mu⟩ := by
  have e1 := isi_str h
  cases d with
  | str s => exact sign_any (of_decide_eq_true h)
  | _ =>
    first
    | (cases h; done)
    | exact sign_no e1
noncomputable def law_is_sign_0T : M Bool :=
    (bOr (bNot (toB (xCn isiD (aCons (frz (xVar 0)) (aCons (ret (.ty "str")) aNil))))) (bNot (toB (xChain leD leD (xC (.int 1)) (xUn lenD (xRd 0)) (xC (.int 8))))))
noncomputable def law_is_sign_0B0 : M Fl :=
    (sRet (xC (.bl false)))
noncomputable def law_is_sign_0B : M Fl :=
    law_is_sign_0B0
noncomputable def law_is_sign_1T : M Bool :=
    (toB (xOp inD (xBor 0) (xTup (aCons (frz (xC (.str "-"))) (aCons (frz (xC (.str "?"))) aNil)))))
noncomputable def law_is_sign_1B0 : M Fl :=
    (sRet (xC (.bl true)))
noncomputable def law_is_sign_1B : M Fl :=
    law_is_sign_1B0
noncomputable def law_is_sign_2 : M Fl :=
    (sAsg 1 (xC (.str "pin again move take tear at to until strips known")))
noncomputable def law_is_sign_3L0 : M D :=
    (frz (xOp inD (xBor 2) (xC (.str "abcdefghijklmnopqrstuvwxyz"))))
noncomputable def law_is_sign_3 : M Fl :=
    (sRet (xAndV (xUn allD (xLc [2] (mSeq (frz (xVar 0))) (gN 2) (ret true) law_is_sign_3L0)) (xOp ninD (xBor 0) (xM1 splitD (xBor 1) (frz (xC (.str " ")))))))
theorem law_is_sign_eq : m_law_is_sign = fnM 3
    (sSeq (sIf law_is_sign_0T law_is_sign_0B sNil) (sSeq (sIf law_is_sign_1T law_is_sign_1B sNil) (sSeq law_is_sign_2 law_is_sign_3))) := rfl
theorem lsign_no {d : D} {mu : List O} (h : isiD [d, .ty "str"] = some (.fz (.bl false))) : m_law_is_sign [d] mu = .ok (.fz (.bl false)) ⟨[], mu⟩ := by
  refine w_eq ?_
  (refine fn_wv law_is_sign_eq ?_; unfold law_is_sign_2 law_is_sign_3 law_is_sign_0B law_is_sign_0T law_is_sign_1B law_is_sign_1T law_is_sign_0B0 law_is_sign_1B0)
  ((walk_at "vc"); repeat ((refine w_rw (by first | (simp only [h]; done) | (simp only [h]; rfl)) ?_); (walk_at "vc")))
  exact ⟨rfl, rfl⟩
theorem kept_split : Txt.split ("pin again move take tear at to until strips known" : Str) " " = keptT := by decide +kernel
theorem lsign_str {s : Str} {mu : List O} (hl : s.length ≤ 10000000) : m_law_is_sign [.str s] mu = .ok (.fz (.bl (signS s))) ⟨[], mu⟩ := by
  have i1 : isiD [.str s, .ty "str"] = some (.fz (.bl true)) := rfl
  have sk : splitD (.str "pin again move take tear at to until strips known") [.str " "] = some (.lst (keptT.map .str)) := by rw [← kept_split]; exact sk_split (by decide) (by decide)
  have ll : lenD (.str s) = some (.fz (.int (s.length : Int))) := by rw [st_lens, if_pos (by omega)]
  refine w_eq ?_
  (refine fn_wv law_is_sign_eq ?_; unfold law_is_sign_2 law_is_sign_3 law_is_sign_0B law_is_sign_0T law_is_sign_1B law_is_sign_1T law_is_sign_0B0 law_is_sign_1B0)
  by_cases a1 : 1 ≤ s.length
  · have b1 : (1 : Int) ≤ (s.length : Int) := by omega
    by_cases a2 : s.length ≤ 8
    · have b2 : (s.length : Int) ≤ 8 := by omega
      have e2 := in_bd (s := s)
      by_cases c : s = "-" ∨ s = "?"
      · have : signS s = true := by unfold signS; rw [decide_eq_true c]; rfl
        rw [this]
        rw [decide_eq_true c] at e2
        ((walk_at "vc"); repeat ((refine w_rw (by first | (simp only [i1, ll, b1, b2, e2]; done) | (simp only [i1, ll, b1, b2, e2]; rfl)) ?_); (walk_at "vc")))
        exact ⟨rfl, rfl⟩
      · rw [decide_eq_false c] at e2
        have cl : (s.cps.toList.map fun c => D.str ⟨#[c]⟩).length ≤ 16777216 := by
          rw [List.length_map, Array.length_toList]
          have : s.cps.size = s.length := rfl
          omega
        have nk := ninK (s := s) (.lst (keptT.map .str)) rfl
        have al : allD (.lst (s.cps.toList.map fun c => D.bl (decide (c ∈ lettersT.cps.toList)))) = some (.fz (.bl (s.cps.toList.all fun c => decide (c ∈ lettersT.cps.toList)))) := all_mapD s.cps.toList _
        have val : signS s = (s.cps.toList.all (fun c => decide (c ∈ lettersT.cps.toList)) && decide (s ∉ keptT)) := by
          unfold signS nameS
          rw [decide_eq_false c, decide_eq_true a1, decide_eq_true a2]; rfl
        rw [val]
        have ic : ∀ c : Nat, inD (.str ⟨#[c]⟩) (.str "abcdefghijklmnopqrstuvwxyz") = some (.fz (.bl (decide (c ∈ lettersT.cps.toList)))) := fun c => rfl
        generalize keptT.map D.str = KD at *
        obtain ⟨CS, hCS⟩ : ∃ CS, s.cps.toList = CS := ⟨_, rfl⟩
        have sq : seqI (.str s) = some (CS.map fun c => D.str ⟨#[c]⟩) := by rw [← hCS]; rfl
        rw [hCS] at al cl ⊢
        ((walk_at "vc"); repeat ((refine w_rw (by first | (simp only [i1, ll, b1, b2, e2, sq, cl]; done) | (simp only [i1, ll, b1, b2, e2, sq, cl]; rfl)) ?_); (walk_at "vc")))
        refine w_lcx (enc := fun c : Nat => D.str ⟨#[c]⟩) (fun c => D.bl (decide (c ∈ lettersT.cps.toList))) (fun c hc => ?_) ?_
        · have i := ic c
          refine ⟨_, rfl, ?_⟩
          unfold law_is_sign_3L0
          generalize (⟨#[c]⟩ : Str) = C at *
          generalize decide (c ∈ lettersT.cps.toList) = B at *
          ((walk_at "vc"); repeat ((refine w_rw (by first | (simp only [i]; done) | (simp only [i]; rfl)) ?_); (walk_at "vc")))
          exact ⟨rfl, rfl, rfl, rfl⟩
        · generalize (CS.map fun c => D.bl (decide (c ∈ lettersT.cps.toList))) = BL at *
          generalize (CS.all fun c => decide (c ∈ lettersT.cps.toList)) = A at *
          generalize decide (s ∉ keptT) = B at *
          cases A
          · ((walk_at "vc"); repeat ((refine w_rw (by first | (simp only [al]; done) | (simp only [al]; rfl)) ?_); (walk_at "vc")))
            exact ⟨rfl, rfl⟩
          · ((walk_at "vc"); repeat ((refine w_rw (by first | (simp only [al, sk, nk]; done) | (simp only [al, sk, nk]; rfl)) ?_); (walk_at "vc")))
            exact ⟨rfl, rfl⟩
    · have b2 : ¬ (s.length : Int) ≤ 8 := by omega
      have : signS s = false := by
        unfold signS nameS
        rw [decide_eq_false a2, decide_eq_false (fun z => z.elim (fun e => a2 (by rw [e]; decide)) fun e => a2 (by rw [e]; decide))]
        simp
      rw [this]
      ((walk_at "vc"); repeat ((refine w_rw (by first | (simp only [i1, ll, b1, b2]; done) | (simp only [i1, ll, b1, b2]; rfl)) ?_); (walk_at "vc")))
      exact ⟨rfl, rfl⟩
  · have b1 : ¬ (1 : Int) ≤ (s.length : Int) := by omega
    have : signS s = false := by
      unfold signS nameS
      rw [decide_eq_false a1, decide_eq_false (fun z => z.elim (fun e => a1 (by rw [e]; decide)) fun e => a1 (by rw [e]; decide))]
      simp
    rw [this]
    ((walk_at "vc"); repeat ((refine w_rw (by first | (simp only [i1, ll, b1]; done) | (simp only [i1, ll, b1]; rfl)) ?_); (walk_at "vc")))
    exact ⟨rfl, rfl⟩
theorem lsign_anyD {d : D} {mu : List O} (h : isAny d = true) : m_law_is_sign [d] mu = .ok (.fz (.bl (signB d))) ⟨[], mu⟩ := by
  have e1 := isi_str h
  cases d with
  | str s => exact lsign_str (of_decide_eq_true h)
  | _ =>
    first
    | (cases h; done)
    | exact lsign_no e1
theorem isi_tup {d : D} (h : isAny d = true) : isiD [d, .ty "tuple"] = some (.fz (.bl (match d with | .tup _ => true | _ => false))) := by
  cases d <;> first | (cases h; done) | rfl
def RowD (w : Nat) (r : D) : Prop := ∃ xs, r = .tup xs ∧ xs.length = w ∧ ∀ x ∈ xs, signB x = true
def RowsD (d : D) : Prop := ∃ rs, d = .tup rs ∧ (1 ≤ rs.length ∧ rs.length ≤ 9) ∧ ∃ w, (1 ≤ w ∧ w ≤ 9) ∧ ∀ r ∈ rs, RowD w r
theorem strs_of : ∀ {xs : List D}, (∀ x ∈ xs, signB x = true) → ∃ ss : List Str, xs = ss.map D.str ∧ ∀ s ∈ ss, SignOk s
  | [], _ => ⟨[], rfl, fun _ h => (nomatch h)⟩
  | x :: xs, h => by
    obtain ⟨ss, e, hs⟩ := strs_of (xs := xs) fun y hy => h y (List.mem_cons_of_mem _ hy)
    have hx := h x List.mem_cons_self
    cases x with
    | str s => exact ⟨s :: ss, by rw [e]; rfl, fun z hz => by
        rcases List.mem_cons.mp hz with rfl | hz
        · exact signS_iff.mp hx
        · exact hs z hz⟩
    | _ => cases hx
theorem rows_of {w : Nat} : ∀ {rs : List D}, (∀ r ∈ rs, RowD w r) → ∃ R : List (List Str), rs = R.map dRow ∧ ∀ r ∈ R, RowOk w r
  | [], _ => ⟨[], rfl, fun _ h => (nomatch h)⟩
  | r :: rs, h => by
    obtain ⟨R, e, hR⟩ := rows_of (rs := rs) fun y hy => h y (List.mem_cons_of_mem _ hy)
    obtain ⟨xs, rfl, hl, hx⟩ := h r List.mem_cons_self
    obtain ⟨ss, rfl, hs⟩ := strs_of hx
    rw [List.length_map] at hl
    exact ⟨ss :: R, by rw [e]; rfl, fun z hz => by
      rcases List.mem_cons.mp hz with rfl | hz
      · exact ⟨hl, hs⟩
      · exact hR z hz⟩
theorem rowsD_iff {d : D} : RowsD d ↔ ∃ R, RowsOk R ∧ d = dRows R := by
  constructor
  · rintro ⟨rs, rfl, hl, w, hw, hr⟩
    obtain ⟨R, rfl, hR⟩ := rows_of hr
    rw [List.length_map] at hl
    exact ⟨R, ⟨hl, w, hw, hR⟩, rfl⟩
  · rintro ⟨R, ⟨hl, w, hw, hR⟩, rfl⟩
    refine ⟨R.map dRow, rfl, by rw [List.length_map]; exact hl, w, hw, fun r hr => ?_⟩
    obtain ⟨ss, hs, rfl⟩ := List.mem_map.mp hr
    refine ⟨ss.map D.str, rfl, by rw [List.length_map]; exact (hR ss hs).1, fun x hx => ?_⟩
    obtain ⟨s, hs2, rfl⟩ := List.mem_map.mp hx
    exact signS_iff.mpr ((hR ss hs).2 s hs2)
theorem are_rows_no {d : D} {mu : List O} (h : isiD [d, .ty "tuple"] = some (.fz (.bl false))) : m_are_rows [d] mu = .ok (.fz (.bl false)) ⟨[], mu⟩ := by
  refine w_eq ?_
  (refine fn_wv are_rows_eq ?_; unfold are_rows_2 are_rows_0B are_rows_0T are_rows_1I are_rows_0B0)
  ((walk_at "vc"); repeat ((refine w_rw (by first | (simp only [h]; done) | (simp only [h]; rfl)) ?_); (walk_at "vc")))
  exact ⟨rfl, rfl⟩
theorem are_rows_tup {rs : List D} {mu : List O} (ha : ∀ r ∈ rs, hA r = true) (hl : rs.length ≤ 16777216) (hx : ∀ xs, D.tup xs ∈ rs → xs.length ≤ 16777216) :
    ∃ f : Bool, (f = true ↔ RowsD (.tup rs)) ∧ m_are_rows [.tup rs] mu = .ok (.fz (.bl f)) ⟨[], mu⟩ := by
  have hw : wv (m_are_rows [.tup rs] mu) (fun v s => ∃ f : Bool, (f = true ↔ RowsD (.tup rs)) ∧ v = .fz (.bl f) ∧ s = ⟨[], mu⟩) noQ := by
    have no : ¬ RowsD (.tup rs) → ∃ f : Bool, (f = true ↔ RowsD (.tup rs)) ∧ (O.fz (.bl false) : O) = .fz (.bl f) ∧ (⟨[], mu⟩ : Tr.S) = ⟨[], mu⟩ := fun h => ⟨false, ⟨fun z => (nomatch z), fun z => absurd z h⟩, rfl, rfl⟩
    have i1 : ∀ xs, isiD [.tup xs, .ty "tuple"] = some (.fz (.bl true)) := fun _ => rfl
    refine fn_wv are_rows_eq ?_
    unfold are_rows_0T are_rows_0B are_rows_0B0 are_rows_1I are_rows_2
    by_cases h1 : 1 ≤ rs.length
    · have k1 : (1 : Int) ≤ (rs.length : Int) := by omega
      by_cases h2 : rs.length ≤ 9
      · have k2 : (rs.length : Int) ≤ 9 := by omega
        obtain ⟨r0, rs', e0⟩ : ∃ r0 rs', rs = r0 :: rs' := by
          cases rs with
          | nil => rw [List.length_nil] at h1; omega
          | cons r R => exact ⟨r, R, rfl⟩
        have ix0 : ixD (.tup rs) (.int 0) = some (.fz r0) := by rw [e0]; exact sk_t0
        ((walk_at "vc"); repeat ((refine w_rw (by first | (simp only [i1, k1, k2, hl]; done) | (simp only [i1, k1, k2, hl]; rfl)) ?_); (walk_at "vc")))
        refine w_rw (r' := forL (gN 1) are_rows_1B (rs.map id) _) (by rw [List.map_id]) ?_
        refine w_for (enc := id) (fun done todo st => ∃ (x1 : Option O), st = ⟨[some (.fz (.tup rs)), x1, none], mu⟩ ∧ ∃ w, (done ≠ [] → ∃ xs, r0 = .tup xs ∧ xs.length = w) ∧ ∀ r ∈ done, RowD w r ∧ 1 ≤ w ∧ w ≤ 9) ⟨_, rfl, 0, fun h => absurd rfl h, fun r h => (nomatch h)⟩ (fun done r todo st e hh => ?_) (fun st hh => ?_)
        · obtain ⟨x1, rfl, w, hw0, fine⟩ := hh
          have rm : r ∈ rs := by rw [e]; exact List.mem_append_right _ List.mem_cons_self
          have ra := hA_any (ha r rm)
          have bad : (∀ w, RowD w r → 1 ≤ w → w ≤ 9 → RowD w r0 → False) → ¬ RowsD (.tup rs) := fun hb ⟨rs2, e2, _, w, ⟨w1, w9⟩, hw⟩ => by
            cases e2
            exact hb w (hw r rm) w1 w9 (hw r0 (by rw [e0]; exact List.mem_cons_self))
          have it := isi_tup ra
          refine ⟨_, rfl, ?_⟩
          show wv (are_rows_1B ⟨[some (.fz (.tup rs)), some (.fz (r)), none], mu⟩) _ _
          unfold are_rows_1B
          unfold are_rows_1B0T are_rows_1B0B are_rows_1B0B0 are_rows_1B1T are_rows_1B1B are_rows_1B1B0
          by_cases ct : ∃ xs, r = .tup xs
          case neg =>
            have it : isiD [r, .ty "tuple"] = some (.fz (.bl false)) := by
              rw [it]
              cases r with
              | tup xs => exact absurd ⟨xs, rfl⟩ ct
              | _ => rfl
            ((walk_at "vc"); repeat ((refine w_rw (by first | (simp only [it]; done) | (simp only [it]; rfl)) ?_); (walk_at "vc")))
            exact no (bad fun w ⟨xs, z, _⟩ _ _ _ => ct ⟨xs, z⟩)
          obtain ⟨xs, rfl⟩ := ct
          have xl := hx xs rm
          have xa : ∀ x ∈ xs, isAny x = true := fun x hx => by
            have := ha _ rm
            rw [hA] at this
            exact hA_any (hAA_iff.mp this x hx)
          have sa := fun x (hx : x ∈ xs) env => run_ok (env := env) (sign_anyD (mu := mu) (xa x hx))
          have al : allD (.lst (xs.map fun x => D.bl (signB x))) = some (.fz (.bl (xs.all signB))) := all_mapD xs signB
          obtain ⟨xs0, hr0, wn⟩ : ∃ xs0, r0 = .tup xs0 ∧ (done ≠ [] → xs0.length = w) := by
            cases done with
            | nil => rw [e0] at e; cases e; exact ⟨xs, rfl, fun z => absurd rfl z⟩
            | cons a b => obtain ⟨xs0, q1, q2⟩ := hw0 (by simp); exact ⟨xs0, q1, fun _ => q2⟩
          rw [hr0] at ix0
          by_cases a1 : 1 ≤ xs.length
          · have b1 : (1 : Int) ≤ (xs.length : Int) := by omega
            by_cases a2 : xs.length ≤ 9
            · have b2 : (xs.length : Int) ≤ 9 := by omega
              by_cases a3 : xs.length = xs0.length
              · have b3 : (xs.length : Int) = (xs0.length : Int) := by omega
                ((walk_at "vc"); repeat ((refine w_rw (by first | (simp only [i1, b1, b2, ix0, b3, xl]; done) | (simp only [i1, b1, b2, ix0, b3, xl]; rfl)) ?_); (walk_at "vc")))
                refine w_rw (r' := lcL [2] (gN 2) (Tr.ret true) are_rows_1B1TL0 (xs.map id) _) (by rw [List.map_id]) ?_
                refine w_lcx (enc := id) (fun x => D.bl (signB x)) (fun x hx2 => ?_) ?_
                · have e1 := sa x hx2
                  refine ⟨_, rfl, ?_⟩
                  unfold are_rows_1B1TL0
                  show wv _ _ _
                  simp only [id]
                  ((walk_at "vc"); repeat ((refine w_rw (by first | (simp only [e1]; done) | (simp only [e1]; rfl)) ?_); (walk_at "vc")))
                  exact ⟨rfl, rfl, rfl, rfl⟩
                cases hb : xs.all signB with
                | true =>
                  rw [hb] at al
                  generalize (xs.map fun x => D.bl (signB x)) = BL at *
                  ((walk_at "vc"); repeat ((refine w_rw (by first | (simp only [al]; done) | (simp only [al]; rfl)) ?_); (walk_at "vc")))
                  refine ⟨_, rfl, xs.length, fun _ => ⟨xs0, hr0, a3.symm⟩, fun q hq => ?_⟩
                  rcases List.mem_append.mp hq with z | z
                  · obtain ⟨f1, f2⟩ := fine q z
                    have : w = xs.length := by rw [← wn (fun n => by rw [n] at z; cases z)]; exact a3.symm
                    rw [← this]
                    exact ⟨f1, f2⟩
                  · rw [List.mem_singleton.mp z]
                    exact ⟨⟨xs, rfl, rfl, List.all_eq_true.mp hb⟩, a1, a2⟩
                | false =>
                  rw [hb] at al
                  generalize (xs.map fun x => D.bl (signB x)) = BL at *
                  ((walk_at "vc"); repeat ((refine w_rw (by first | (simp only [al]; done) | (simp only [al]; rfl)) ?_); (walk_at "vc")))
                  exact no (bad fun w ⟨ys, z, _, hy⟩ _ _ _ => by
                    cases z
                    have : xs.all signB = true := List.all_eq_true.mpr hy
                    rw [hb] at this; cases this)
              · have b3 : ¬ (xs.length : Int) = (xs0.length : Int) := by omega
                ((walk_at "vc"); repeat ((refine w_rw (by first | (simp only [i1, b1, b2, ix0, b3]; done) | (simp only [i1, b1, b2, ix0, b3]; rfl)) ?_); (walk_at "vc")))
                exact no (bad fun w ⟨ys, z, q, _⟩ _ _ ⟨ys0, z0, q0, _⟩ => by
                  cases z
                  rw [hr0] at z0
                  cases z0
                  exact a3 (q.trans q0.symm))
            · have b2 : ¬ (xs.length : Int) ≤ 9 := by omega
              ((walk_at "vc"); repeat ((refine w_rw (by first | (simp only [i1, b1, b2]; done) | (simp only [i1, b1, b2]; rfl)) ?_); (walk_at "vc")))
              exact no (bad fun w ⟨ys, z, q, _⟩ _ w9 _ => by cases z; omega)
          · have b1 : ¬ (1 : Int) ≤ (xs.length : Int) := by omega
            ((walk_at "vc"); repeat ((refine w_rw (by first | (simp only [i1, b1]; done) | (simp only [i1, b1]; rfl)) ?_); (walk_at "vc")))
            exact no (bad fun w ⟨ys, z, q, _⟩ w1 _ _ => by cases z; omega)
        · obtain ⟨x1, rfl, w, hw0, fine⟩ := hh
          walk_at "vc"
          have f0 := fine r0 (by rw [e0]; exact List.mem_cons_self)
          exact ⟨true, ⟨fun _ => ⟨rs, rfl, ⟨h1, h2⟩, w, f0.2, fun r hr => (fine r hr).1⟩, fun _ => rfl⟩, rfl, rfl⟩
      · have k2 : ¬ (rs.length : Int) ≤ 9 := by omega
        ((walk_at "vc"); repeat ((refine w_rw (by first | (simp only [i1, k1, k2]; done) | (simp only [i1, k1, k2]; rfl)) ?_); (walk_at "vc")))
        exact no fun ⟨_, z, q, _⟩ => by cases z; exact h2 q.2
    · have k1 : ¬ (1 : Int) ≤ (rs.length : Int) := by omega
      ((walk_at "vc"); repeat ((refine w_rw (by first | (simp only [i1, k1]; done) | (simp only [i1, k1]; rfl)) ?_); (walk_at "vc")))
      exact no fun ⟨_, z, q, _⟩ => by cases z; exact h1 q.1
  obtain ⟨v, s, e, f, hf, rfl, rfl⟩ := w_ex hw
  exact ⟨f, hf, e⟩
open PyProof.Rows in
theorem ded_eq {ns : List Int} {w : Int} (h : ∀ x ∈ ns, x = w) : (dedI ns).length ≤ 1 := by
  have key : ∀ i, i ≤ ns.length → firstMet (fun i => ns.getD i 0) i = [] ∨ firstMet (fun i => ns.getD i 0) i = [w] := by
    intro i
    induction i with
    | zero => exact fun _ => .inl rfl
    | succ i ih =>
      intro hi
      have e : ns.getD i 0 = w := by
        rw [List.getD_eq_getElem?_getD, List.getElem?_eq_getElem (by omega)]
        exact h _ (List.getElem_mem _)
      rw [firstMet_succ, e]
      unfold step_dedup
      rcases ih (by omega) with z | z <;> rw [z] <;> simp
  unfold dedI
  rcases key ns.length (Nat.le_refl _) with z | z <;> rw [z] <;> simp
open PyProof.Rows in
theorem ded_le {ns : List Int} {a b : Int} (ha : a ∈ ns) (hb : b ∈ ns) (h : (dedI ns).length ≤ 1) : a = b := by
  have mem : ∀ x ∈ ns, x ∈ dedI ns := fun x hx => by
    obtain ⟨j, hj, e⟩ := List.mem_iff_getElem.mp hx
    have := firstMet_any (fun i => ns.getD i 0) ns.length x
    have t : ((List.range ns.length).map fun i => ns.getD i 0).any (· == x) = true := by
      refine List.any_eq_true.mpr ⟨x, List.mem_map.mpr ⟨j, List.mem_range.mpr hj, ?_⟩, by simp⟩
      show ns.getD j 0 = x
      rw [List.getD_eq_getElem?_getD, List.getElem?_eq_getElem hj]
      exact e
    rw [t] at this
    obtain ⟨y, hy, hxy⟩ := List.any_eq_true.mp this
    have : y = x := by simpa using hxy
    rw [← this]; exact hy
  have h1 := mem a ha
  have h2 := mem b hb
  generalize dedI ns = L at *
  match L, h with
  | [], _ => cases h1
  | [x], _ => rw [List.mem_singleton.mp h1, List.mem_singleton.mp h2]
theorem ints_all {α : Type} (f : α → Int) : ∀ l : List α, allM intD' (l.map fun x => D.int (f x)) = some (l.map f)
  | [] => rfl
  | x :: l => by rw [List.map_cons, allM, ints_all f l]; rfl
def lenR : D → Nat
  | .tup xs => xs.length
  | _ => 0
def tlB : D → Bool
  | .tup xs => decide (1 ≤ xs.length) && decide (xs.length ≤ 9)
  | _ => false
def sgR : D → Bool
  | .tup xs => xs.all signB
  | _ => false
theorem tlB_tup {r : D} (h : tlB r = true) : ∃ xs, r = .tup xs ∧ 1 ≤ xs.length ∧ xs.length ≤ 9 := by
  cases r with
  | tup xs =>
    have h : (decide (1 ≤ xs.length) && decide (xs.length ≤ 9)) = true := h
    rw [Bool.and_eq_true] at h
    exact ⟨xs, rfl, of_decide_eq_true h.1, of_decide_eq_true h.2⟩
  | _ => cases h
noncomputable def law_are_rows_0T : M Bool :=
    (bOr (bNot (toB (xCn isiD (aCons (frz (xVar 0)) (aCons (ret (.ty "tuple")) aNil))))) (bNot (toB (xChain leD leD (xC (.int 1)) (xUn lenD (xRd 0)) (xC (.int 9))))))
noncomputable def law_are_rows_0B0 : M Fl :=
    (sRet (xC (.bl false)))
noncomputable def law_are_rows_0B : M Fl :=
    law_are_rows_0B0
noncomputable def law_are_rows_1TL0 : M D :=
    (frz (xAndV (xCn isiD (aCons (frz (xVar 1)) (aCons (ret (.ty "tuple")) aNil))) (xChain leD leD (xC (.int 1)) (xUn lenD (xRd 1)) (xC (.int 9)))))
noncomputable def law_are_rows_1T : M Bool :=
    (bNot (toB (xUn allD (xLc [1] (mSeq (frz (xVar 0))) (gN 1) (ret true) law_are_rows_1TL0))))
noncomputable def law_are_rows_1B0 : M Fl :=
    (sRet (xC (.bl false)))
noncomputable def law_are_rows_1B : M Fl :=
    law_are_rows_1B0
noncomputable def law_are_rows_2T : M Bool :=
    (toB (xOp gtD (xUn lenSetID (xLc [1] (mSeq (frz (xVar 0))) (gN 1) (ret true) (frz (xUn lenD (xRd 1))))) (xC (.int 1))))
noncomputable def law_are_rows_2B0 : M Fl :=
    (sRet (xC (.bl false)))
noncomputable def law_are_rows_2B : M Fl :=
    law_are_rows_2B0
noncomputable def law_are_rows_3L1 : M D :=
    (frz (xCall m_law_is_sign (fun ds _ => ds) 1 (nK []) (aCons (frz (xVar 2)) aNil) aNil))
noncomputable def law_are_rows_3L0 : M D :=
    (frz (xUn allD (xLc [2] (mSeq (frz (xVar 1))) (gN 2) (ret true) law_are_rows_3L1)))
noncomputable def law_are_rows_3 : M Fl :=
    (sRet (xUn allD (xLc [1] (mSeq (frz (xVar 0))) (gN 1) (ret true) law_are_rows_3L0)))
theorem law_are_rows_eq : m_law_are_rows = fnM 3
    (sSeq (sIf law_are_rows_0T law_are_rows_0B sNil) (sSeq (sIf law_are_rows_1T law_are_rows_1B sNil) (sSeq (sIf law_are_rows_2T law_are_rows_2B sNil) law_are_rows_3))) := rfl
theorem lare_no {d : D} {mu : List O} (h : isiD [d, .ty "tuple"] = some (.fz (.bl false))) : m_law_are_rows [d] mu = .ok (.fz (.bl false)) ⟨[], mu⟩ := by
  refine w_eq ?_
  (refine fn_wv law_are_rows_eq ?_; unfold law_are_rows_3 law_are_rows_0B law_are_rows_0T law_are_rows_1B law_are_rows_1T law_are_rows_2B law_are_rows_2T law_are_rows_0B0 law_are_rows_1B0 law_are_rows_2B0)
  ((walk_at "vc"); repeat ((refine w_rw (by first | (simp only [h]; done) | (simp only [h]; rfl)) ?_); (walk_at "vc")))
  exact ⟨rfl, rfl⟩
set_option maxHeartbeats 1000000 in
theorem lare_tup {rs : List D} {mu : List O} (ha : ∀ r ∈ rs, hA r = true) (hl : rs.length ≤ 16777216) :
    ∃ f : Bool, (f = true ↔ RowsD (.tup rs)) ∧ m_law_are_rows [.tup rs] mu = .ok (.fz (.bl f)) ⟨[], mu⟩ := by
  have hw : wv (m_law_are_rows [.tup rs] mu) (fun v s => ∃ f : Bool, (f = true ↔ RowsD (.tup rs)) ∧ v = .fz (.bl f) ∧ s = ⟨[], mu⟩) noQ := by
    have no : ¬ RowsD (.tup rs) → ∃ f : Bool, (f = true ↔ RowsD (.tup rs)) ∧ (O.fz (.bl false) : O) = .fz (.bl f) ∧ (⟨[], mu⟩ : Tr.S) = ⟨[], mu⟩ := fun h => ⟨false, ⟨fun z => (nomatch z), fun z => absurd z h⟩, rfl, rfl⟩
    have i1 : ∀ xs, isiD [.tup xs, .ty "tuple"] = some (.fz (.bl true)) := fun _ => rfl
    refine fn_wv law_are_rows_eq ?_
    unfold law_are_rows_0T law_are_rows_0B law_are_rows_0B0 law_are_rows_1T law_are_rows_1B law_are_rows_1B0 law_are_rows_2T law_are_rows_2B law_are_rows_2B0 law_are_rows_3
    by_cases h1 : 1 ≤ rs.length
    · have k1 : (1 : Int) ≤ (rs.length : Int) := by omega
      by_cases h2 : rs.length ≤ 9
      · have k2 : (rs.length : Int) ≤ 9 := by omega
        have al1 : allD (.lst (rs.map fun r => D.bl (tlB r))) = some (.fz (.bl (rs.all tlB))) := all_mapD rs tlB
        ((walk_at "vc"); repeat ((refine w_rw (by first | (simp only [i1, k1, k2, hl]; done) | (simp only [i1, k1, k2, hl]; rfl)) ?_); (walk_at "vc")))
        refine w_rw (r' := lcL [1] (gN 1) (Tr.ret true) law_are_rows_1TL0 (rs.map id) _) (by rw [List.map_id]) ?_
        refine w_lcx (enc := id) (fun r => D.bl (tlB r)) (fun r hr => ?_) ?_
        · have ra := hA_any (ha r hr)
          have it := isi_tup ra
          refine ⟨_, rfl, ?_⟩
          unfold law_are_rows_1TL0
          simp only [id]
          by_cases ct : ∃ xs, r = .tup xs
          case neg =>
            have it : isiD [r, .ty "tuple"] = some (.fz (.bl false)) := by
              rw [it]
              cases r with
              | tup xs => exact absurd ⟨xs, rfl⟩ ct
              | _ => rfl
            have e : tlB r = false := by
              cases r with
              | tup xs => exact absurd ⟨xs, rfl⟩ ct
              | _ => rfl
            rw [e]
            ((walk_at "vc"); repeat ((refine w_rw (by first | (simp only [it]; done) | (simp only [it]; rfl)) ?_); (walk_at "vc")))
            exact ⟨rfl, rfl, rfl, rfl⟩
          obtain ⟨xs, rfl⟩ := ct
          have e : tlB (.tup xs) = (decide (1 ≤ xs.length) && decide (xs.length ≤ 9)) := rfl
          rw [e]
          by_cases a1 : 1 ≤ xs.length
          · have b1 : (1 : Int) ≤ (xs.length : Int) := by omega
            by_cases a2 : xs.length ≤ 9
            · have b2 : (xs.length : Int) ≤ 9 := by omega
              rw [decide_eq_true a1, decide_eq_true a2]
              ((walk_at "vc"); repeat ((refine w_rw (by first | (simp only [i1, b1, b2]; done) | (simp only [i1, b1, b2]; rfl)) ?_); (walk_at "vc")))
              exact ⟨rfl, rfl, rfl, rfl⟩
            · have b2 : ¬ (xs.length : Int) ≤ 9 := by omega
              rw [decide_eq_true a1, decide_eq_false a2]
              ((walk_at "vc"); repeat ((refine w_rw (by first | (simp only [i1, b1, b2]; done) | (simp only [i1, b1, b2]; rfl)) ?_); (walk_at "vc")))
              exact ⟨rfl, rfl, rfl, rfl⟩
          · have b1 : ¬ (1 : Int) ≤ (xs.length : Int) := by omega
            rw [decide_eq_false a1]
            ((walk_at "vc"); repeat ((refine w_rw (by first | (simp only [i1, b1]; done) | (simp only [i1, b1]; rfl)) ?_); (walk_at "vc")))
            exact ⟨rfl, rfl, rfl, rfl⟩
        cases h3 : rs.all tlB with
        | false =>
          rw [h3] at al1
          generalize (rs.map fun r => D.bl (tlB r)) = BL at *
          ((walk_at "vc"); repeat ((refine w_rw (by first | (simp only [al1]; done) | (simp only [al1]; rfl)) ?_); (walk_at "vc")))
          exact no fun ⟨_, z, _, w, ⟨w1, w9⟩, hr⟩ => by
            cases z
            have : rs.all tlB = true := List.all_eq_true.mpr fun r hm => by
              obtain ⟨xs, rfl, hl, _⟩ := hr r hm
              show (decide (1 ≤ xs.length) && decide (xs.length ≤ 9)) = true
              rw [hl, decide_eq_true w1, decide_eq_true w9]; rfl
            rw [h3] at this; cases this
        | true =>
          rw [h3] at al1
          generalize (rs.map fun r => D.bl (tlB r)) = BL at *
          have tl := fun r hr => tlB_tup (List.all_eq_true.mp h3 r hr)
          ((walk_at "vc"); repeat ((refine w_rw (by first | (simp only [al1, hl]; done) | (simp only [al1, hl]; rfl)) ?_); (walk_at "vc")))
          refine w_rw (r' := lcL [1] (gN 1) (Tr.ret true) (frz (xUn lenD (xRd 1))) (rs.map id) _) (by rw [List.map_id]) ?_
          refine w_lcx (enc := id) (fun r => D.int (lenR r : Nat)) (fun r hr => ?_) ?_
          · obtain ⟨xs, rfl, _⟩ := tl r hr
            refine ⟨_, rfl, ?_⟩
            simp only [id, lenR]
            walk_at "vc"
            exact ⟨rfl, rfl, rfl, rfl⟩
          have ls : lenSetID (.lst (rs.map fun r => D.int (lenR r : Nat))) = some (.fz (.int ((dedI (rs.map fun r => (lenR r : Int))).length : Int))) := by
            unfold lenSetID
            dsimp only
            rw [ints_all (fun r => (lenR r : Int)) rs]
            dsimp only
            rw [if_pos (by rw [List.length_map]; omega)]
          by_cases h4 : (dedI (rs.map fun r => (lenR r : Int))).length ≤ 1
          · have k4 : ¬ (1 : Int) < ((dedI (rs.map fun r => (lenR r : Int))).length : Int) := by omega
            have al3 : allD (.lst (rs.map fun r => D.bl (sgR r))) = some (.fz (.bl (rs.all sgR))) := all_mapD rs sgR
            generalize (rs.map fun r => D.int (lenR r : Nat)) = IL at *
            generalize ((dedI (rs.map fun r => (lenR r : Int))).length : Int) = DL at *
            ((walk_at "vc"); repeat ((refine w_rw (by first | (simp only [ls, k4, hl]; done) | (simp only [ls, k4, hl]; rfl)) ?_); (walk_at "vc")))
            refine w_rw (r' := lcL [1] (gN 1) (Tr.ret true) law_are_rows_3L0 (rs.map id) _) (by rw [List.map_id]) ?_
            refine w_lcx (enc := id) (fun r => D.bl (sgR r)) (fun r hr => ?_) ?_
            · obtain ⟨xs, rfl, _, x9⟩ := tl r hr
              have xa : ∀ x ∈ xs, isAny x = true := fun x hx => by
                have := ha _ hr
                rw [hA] at this
                exact hA_any (hAA_iff.mp this x hx)
              have sa := fun x (hx : x ∈ xs) env => run_ok (env := env) (lsign_anyD (mu := mu) (xa x hx))
              have al : allD (.lst (xs.map fun x => D.bl (signB x))) = some (.fz (.bl (xs.all signB))) := all_mapD xs signB
              have xl : xs.length ≤ 16777216 := by omega
              refine ⟨_, rfl, ?_⟩
              simp only [id, sgR]
              unfold law_are_rows_3L0
              ((walk_at "vc"); repeat ((refine w_rw (by first | (simp only [xl]; done) | (simp only [xl]; rfl)) ?_); (walk_at "vc")))
              refine w_rw (r' := lcL [2] (gN 2) (Tr.ret true) law_are_rows_3L1 (xs.map id) _) (by rw [List.map_id]) ?_
              refine w_lcx (enc := id) (fun x => D.bl (signB x)) (fun x hx2 => ?_) ?_
              · have e1 := sa x hx2
                refine ⟨_, rfl, ?_⟩
                unfold law_are_rows_3L1
                simp only [id]
                ((walk_at "vc"); repeat ((refine w_rw (by first | (simp only [e1]; done) | (simp only [e1]; rfl)) ?_); (walk_at "vc")))
                exact ⟨rfl, rfl, rfl, rfl⟩
              generalize (xs.map fun x => D.bl (signB x)) = BL2 at *
              ((walk_at "vc"); repeat ((refine w_rw (by first | (simp only [al]; done) | (simp only [al]; rfl)) ?_); (walk_at "vc")))
              exact ⟨rfl, rfl, rfl, rfl⟩
            generalize (rs.map fun r => D.bl (sgR r)) = BL3 at *
            ((walk_at "vc"); repeat ((refine w_rw (by first | (simp only [al3]; done) | (simp only [al3]; rfl)) ?_); (walk_at "vc")))
            refine ⟨rs.all sgR, ⟨fun h5 => ?_, fun ⟨_, z, _, w, _, hr⟩ => ?_⟩, rfl, rfl⟩
            · obtain ⟨r0, rs', e0⟩ : ∃ r0 rs', rs = r0 :: rs' := by
                cases rs with
                | nil => rw [List.length_nil] at h1; omega
                | cons r R => exact ⟨r, R, rfl⟩
              have m0 : r0 ∈ rs := by rw [e0]; exact List.mem_cons_self
              obtain ⟨x0, q0, l1, l9⟩ := tl r0 m0
              refine ⟨rs, rfl, ⟨h1, h2⟩, x0.length, ⟨l1, l9⟩, fun r hr => ?_⟩
              obtain ⟨xs, rfl, _, _⟩ := tl r hr
              have : (lenR (.tup xs) : Int) = (lenR r0 : Int) := ded_le (List.mem_map.mpr ⟨_, hr, rfl⟩) (List.mem_map.mpr ⟨_, m0, rfl⟩) h4
              rw [q0] at this
              have : xs.length = x0.length := Int.ofNat.inj this
              exact ⟨xs, rfl, this, List.all_eq_true.mp (List.all_eq_true.mp h5 _ hr)⟩
            · cases z
              refine List.all_eq_true.mpr fun r hm => ?_
              obtain ⟨xs, rfl, _, hx⟩ := hr r hm
              exact List.all_eq_true.mpr hx
          · have k4 : (1 : Int) < ((dedI (rs.map fun r => (lenR r : Int))).length : Int) := by omega
            generalize (rs.map fun r => D.int (lenR r : Nat)) = IL at *
            have bad : ¬ RowsD (.tup rs) := fun ⟨_, z, _, w, _, hr⟩ => by
              cases z
              refine h4 (ded_eq (w := (w : Int)) fun x hx => ?_)
              obtain ⟨r, hm, rfl⟩ := List.mem_map.mp hx
              obtain ⟨xs, rfl, hl, _⟩ := hr r hm
              show (xs.length : Int) = _
              rw [hl]
            generalize ((dedI (rs.map fun r => (lenR r : Int))).length : Int) = DL at *
            ((walk_at "vc"); repeat ((refine w_rw (by first | (simp only [ls, k4]; done) | (simp only [ls, k4]; rfl)) ?_); (walk_at "vc")))
            exact no bad
      · have k2 : ¬ (rs.length : Int) ≤ 9 := by omega
        ((walk_at "vc"); repeat ((refine w_rw (by first | (simp only [i1, k1, k2]; done) | (simp only [i1, k1, k2]; rfl)) ?_); (walk_at "vc")))
        exact no fun ⟨_, z, q, _⟩ => by cases z; exact h2 q.2
    · have k1 : ¬ (1 : Int) ≤ (rs.length : Int) := by omega
      ((walk_at "vc"); repeat ((refine w_rw (by first | (simp only [i1, k1]; done) | (simp only [i1, k1]; rfl)) ?_); (walk_at "vc")))
      exact no fun ⟨_, z, q, _⟩ => by cases z; exact h1 q.1
  obtain ⟨v, s, e, f, hf, rfl, rfl⟩ := w_ex hw
  exact ⟨f, hf, e⟩
theorem sum_memD {xs : List D} {x : D} (h : x ∈ xs) : wtD x + 2 ≤ (xs.map fun x => wtD x + 2).sum := by
  induction xs with
  | nil => cases h
  | cons y ys ih =>
    rw [List.map_cons, List.sum_cons]
    rcases List.mem_cons.mp h with rfl | h
    · omega
    · have := ih h; omega
noncomputable def rowsB (d : D) : Bool := @decide (RowsD d) (Classical.propDecidable _)
theorem rowsB_iff {d : D} : rowsB d = true ↔ RowsD d := by
  unfold rowsB
  exact @decide_eq_true_iff _ (Classical.propDecidable _)
theorem both_D {d : D} {p w : Nat} (h : AnyP d p w) (hw : w ≤ 10000000) (mu : List O) : m_are_rows [d] mu = .ok (.fz (.bl (rowsB d))) ⟨[], mu⟩ ∧ m_law_are_rows [d] mu = .ok (.fz (.bl (rowsB d))) ⟨[], mu⟩ := by
  by_cases ct : ∃ rs, d = .tup rs
  · obtain ⟨rs, rfl⟩ := ct
    obtain ⟨ha, hl⟩ := h.of_tup
    have hx : ∀ xs, D.tup xs ∈ rs → xs.length ≤ 16777216 := fun xs hm => by
      have h2 := h.wt
      rw [wtD, wtA_sum] at h2
      have h3 := sum_memD hm
      rw [wtD, wtA_sum] at h3
      have := sum_len xs
      omega
    obtain ⟨f, hf, e⟩ := are_rows_tup (mu := mu) ha (by omega) hx
    obtain ⟨g, hg, e2⟩ := lare_tup (mu := mu) ha (by omega)
    have ef : f = rowsB (.tup rs) := Bool.eq_iff_iff.mpr (hf.trans rowsB_iff.symm)
    have eg : g = rowsB (.tup rs) := Bool.eq_iff_iff.mpr (hg.trans rowsB_iff.symm)
    rw [← ef]
    exact ⟨e, by rw [e2, eg, ef]⟩
  · have it : isiD [d, .ty "tuple"] = some (.fz (.bl false)) := by
      rw [isi_tup (hA_any h.h)]
      cases d with
      | tup xs => exact absurd ⟨xs, rfl⟩ ct
      | _ => rfl
    have e : rowsB d = false := by
      cases q : rowsB d with
      | false => rfl
      | true => obtain ⟨rs, z, _⟩ := rowsB_iff.mp q; exact absurd ⟨rs, z⟩ ct
    rw [e]
    exact ⟨are_rows_no it, lare_no it⟩
abbrev dPh (R : List (List Str)) : D := .ins "Photo" [("rows", dRows R)]
abbrev phF (R : List (List Str)) : List (Str × O) := [("rows", .fz (dRows R))]
theorem ph_ok {R : List (List Str)} {mu : List O} (hR : RowsOk R) : m_Photo_init [dRows R] mu = .ok (.ins "Photo" (phF R)) ⟨[], mu⟩ := by
  have aR : AnyP (dRows R) 2 6852 := (rows_L hR).tup
  have e1 : ∀ mu, m_are_rows [dRows R] mu = .ok (.fz (.bl true)) ⟨[], mu⟩ := fun mu => by
    have := (both_D aR (by decide) mu).1
    rw [rowsB_iff.mpr (rowsD_iff.mpr ⟨R, hR, rfl⟩)] at this
    exact this
  have n1 := hA_no _ aR.h
  have nc : noCA [dRows R] = true := by rw [noCA, n1, noCA]; rfl
  have nd : noCO (.ins "Photo" (phF R)) = true := by
    simp only [phF, noCO, noCOF, n1, Bool.and_self]
  have o1 : okF CT "Photo" "rows" = true := rfl
  have z0 : (0 : Nat) < 1000 := by decide
  unfold phF at nd ⊢
  clear hR aR n1
  generalize dRows R = DR at *
  unfold m_Photo_init
  walk_at "spn"
theorem ph_bad {d : D} {p w : Nat} {mu : List O} (h : AnyP d p w) (hw : w ≤ 10000000) (hb : rowsB d = false) : m_Photo_init [d] mu = .exc ⟨"BadPhoto", []⟩ ⟨[], mu⟩ := by
  have e1 : ∀ mu, m_are_rows [d] mu = .ok (.fz (.bl false)) ⟨[], mu⟩ := fun mu => by
    have := (both_D h hw mu).1
    rw [hb] at this
    exact this
  have n1 := hA_no _ h.h
  have nc : noCA [d] = true := by rw [noCA, n1, noCA]; rfl
  have nf : noCF [] = true := by rw [noCF]
  have rb : ∀ env mu, sRaiseB "BadPhoto" ⟨env, mu⟩ = .exc ⟨"BadPhoto", []⟩ ⟨env, mu⟩ := fun _ _ => rfl
  clear h hb n1
  unfold m_Photo_init
  walk_at "spn"
abbrev bpX : D := .xok "BadPhoto" []
noncomputable def law_told_0 : M Fl :=
    (sAsgT (gT [(gN 3), (gN 4)]) (frz (xTup (aCons (frz (xC .non)) (aCons (frz (xC .non)) aNil)))))
noncomputable def law_told_1B0T : M Bool :=
    (toB (xOp eqD (xBor 1) (xC (.int 0))))
noncomputable def law_told_1B0B0 : M Fl :=
    (sAsg 3 (xCall m_Photo_init (fun ds _ => ds) 1 (nK []) (aCons (frz (xVar 0)) aNil) aNil))
noncomputable def law_told_1B0B : M Fl :=
    law_told_1B0B0
noncomputable def law_told_1B0E0 : M Fl :=
    (sAsg 3 (xCall m_Photo_init g_Photo_init_1_rows 0 (nK ["rows"]) aNil (aCons (frz (xVar 0)) aNil)))
noncomputable def law_told_1B0E : M Fl :=
    law_told_1B0E0
noncomputable def law_told_1B : M Fl :=
    (sIf law_told_1B0T law_told_1B0B law_told_1B0E)
noncomputable def law_told_1 : M Fl :=
    (sTryKeep 2 4 [("BadPhoto", true)]
    law_told_1B)
noncomputable def law_told_2 : M Fl :=
    (sRet (xTup (aCons (frz (xVar 3)) (aCons (frz (xVar 4)) aNil))))
theorem law_told_eq : m_law_told = fnM 5
    (sSeq law_told_0 (sSeq law_told_1 law_told_2)) := rfl
theorem told_good {R : List (List Str)} {w : Int} {mu : List O} (h0 : w = 0 ∨ w = 1) (hR : RowsOk R) : m_law_told [dRows R, .int w] mu = .ok (.fz (.tup [dPh R, .non])) ⟨[], mu⟩ := by
  have er := fun env => run_ok (env := env) (ph_ok (mu := mu) hR)
  have td : D.ins "Photo" (O.toDf (phF R)) = dPh R := by simp only [phF, st_tdc, st_tdf, st_tdn]
  have gk : ∀ d, g_Photo_init_1_rows [] [d] = [d] := fun _ => rfl
  generalize dPh R = DP at *
  generalize phF R = PF at *
  generalize dRows R = DR at *
  clear hR
  refine w_eq ?_
  rcases h0 with rfl | rfl
  all_goals
    (refine fn_wv law_told_eq ?_; unfold law_told_0 law_told_1 law_told_2 law_told_1B law_told_1B0B law_told_1B0E law_told_1B0T law_told_1B0B0 law_told_1B0E0)
    walk_at "vc"
    refine w_tryKeep ?_
    ((walk_at "vc"); repeat ((refine w_rw (by first | (simp only [er, gk]; done) | (simp only [er, gk]; rfl)) ?_); (walk_at "vc")))
    walk_at "vc"
    exact ⟨by rw [td], rfl⟩
theorem told_bad {d : D} {p v : Nat} {w : Int} {mu : List O} (h0 : w = 0 ∨ w = 1) (h : AnyP d p v) (hw : v ≤ 10000000) (hb : rowsB d = false) : m_law_told [d, .int w] mu = .ok (.fz (.tup [.non, bpX])) ⟨[], mu⟩ := by
  have er := fun env => run_ex (env := env) (ph_bad (mu := mu) h hw hb)
  have gk : g_Photo_init_1_rows [] [d] = [d] := rfl
  refine w_eq ?_
  rcases h0 with rfl | rfl
  all_goals
    (refine fn_wv law_told_eq ?_; unfold law_told_0 law_told_1 law_told_2 law_told_1B law_told_1B0B law_told_1B0E law_told_1B0T law_told_1B0B0 law_told_1B0E0)
    walk_at "vc"
    refine w_tryKeep ?_
    ((walk_at "vc"); repeat ((refine w_rw (by first | (simp only [er, gk]; done) | (simp only [er, gk]; rfl)) ?_); (walk_at "vc")))
    refine ⟨by show 2 < 5; decide, ?_⟩
    walk_at "vc"
    exact ⟨rfl, rfl⟩
theorem take_w {mu : List O} {k n : Nat} {m : Int} {env : List (Option O)} {Q : O → S → Prop} {E : Exc → S → Prop} (h : WellAt mu k n) (h1 : 1 ≤ m) (h2 : m < 1073741824) (hn : n ≤ 900000000) (hQ : ∀ r mu', 0 ≤ r → r < m → WellAt mu' k (n + 1) → Q (.fz (.int r)) ⟨env, mu'⟩) : wv (runF m_law_take [.cel k, .int m] ⟨env, mu⟩) Q E := by
  obtain ⟨r, mu', e, r0, r1, p⟩ := take_ok h h1 h2 hn
  exact w_runE e (hQ r mu' r0 r1 p)
theorem of_w {mu : List O} {k n : Nat} {ds : List D} {env : List (Option O)} {Q : O → S → Prop} {E : Exc → S → Prop} (h : WellAt mu k n) (hl : 1 ≤ ds.length) (hl2 : ds.length ≤ 1000) (hn : n ≤ 900000000) (hQ : ∀ d mu', d ∈ ds → WellAt mu' k (n + 1) → Q (.fz d) ⟨env, mu'⟩) : wv (runF m_law_of [.cel k, .lst ds] ⟨env, mu⟩) Q E := by
  obtain ⟨d, mu', e, hd, p⟩ := of_lst h hl hl2 hn
  exact w_runE e (hQ d mu' hd p)
theorem name_w {mu : List O} {k n : Nat} {env : List (Option O)} {Q : O → S → Prop} {E : Exc → S → Prop} (h : WellAt mu k n) (hn : n ≤ 800000000) (hQ : ∀ s mu', NameU s → WellAt mu' k (n + 20) → Q (.fz (.str s)) ⟨env, mu'⟩) : wv (runF m_law_name [.cel k] ⟨env, mu⟩) Q E := by
  obtain ⟨s, mu', e, hs, p⟩ := name_ok h hn
  exact w_runE e (hQ s mu' hs p)
theorem rows_w {mu : List O} {k n : Nat} {env : List (Option O)} {Q : O → S → Prop} {E : Exc → S → Prop} (h : WellAt mu k n) (hn : n ≤ 400000000) (hQ : ∀ R mu', RowsOk R → WellAt mu' k (n + 3000) → Q (.fz (dRows R)) ⟨env, mu'⟩) : wv (runF m_law_any_rows [.cel k] ⟨env, mu⟩) Q E := by
  obtain ⟨R, mu', e, hR, p⟩ := any_rows_ok h hn
  exact w_runE e (hQ R mu' hR p)
theorem nameU_lt {s : Str} (h : NameU s) : s.length ≤ 8 ∧ ∀ c ∈ s.cps.toList, c < 128 := ⟨h.2.1, fun c hc => by
  have : ∀ c ∈ lettersT.cps.toList, c < 128 := by decide +kernel
  exact this c (h.2.2 c hc)⟩
open PyProof.Rows in
theorem up_lt {s : Str} (h : ∀ c ∈ s.cps.toList, c < 128) : (Txt.upper s).length = s.length ∧ ∀ c ∈ (Txt.upper s).cps.toList, c < 128 := by
  rw [upper_ascii h]
  refine ⟨by show (s.cps.map up1).size = s.cps.size; rw [Array.size_map], fun c hc => ?_⟩
  have hc : c ∈ (s.cps.map up1).toList := hc
  rw [Array.toList_map] at hc
  obtain ⟨x, hx, rfl⟩ := List.mem_map.mp hc
  have := h x hx
  unfold up1
  split <;> omega
theorem app_lt {s t : Str} (h : ∀ c ∈ s.cps.toList, c < 128) (g : ∀ c ∈ t.cps.toList, c < 128) : ∀ c ∈ (s ++ t).cps.toList, c < 128 := fun c hc => by
  have hc : c ∈ (s.cps ++ t.cps).toList := hc
  rw [Array.toList_append] at hc
  exact (List.mem_append.mp hc).elim (h c) (g c)
theorem fold_rep (x : Nat) : ∀ (n : Nat) (A : Array Nat), ((List.replicate n #[x]).foldl (· ++ ·) A).toList = A.toList ++ List.replicate n x
  | 0, A => by simp
  | n + 1, A => by rw [List.replicate_succ, List.foldl_cons, fold_rep x n, List.replicate_succ]; simp
@[irreducible] def z44 : Str := Txt.mul "z" 4400
theorem z44_eq : Txt.mul "z" 4400 = z44 := by unfold z44; rfl
theorem z44_list : z44.cps.toList = List.replicate 4400 122 := by
  rw [← z44_eq]
  unfold Txt.mul
  rw [if_neg (by decide), if_neg (by decide)]
  show ((List.replicate (4400 : Int).toNat #[122]).foldl (· ++ ·) #[]).toList = _
  rw [fold_rep]; rfl
theorem z44_P : AnyP (.str z44) 1 44002 := by
  refine (AnyP.str (n := 4400) ?_ (by decide) (fun c hc => ?_)).mono (by decide) (by decide)
  · show z44.cps.size ≤ 4400
    rw [← Array.length_toList, z44_list, List.length_replicate]; exact Nat.le_refl _
  · rw [z44_list] at hc
    rw [(List.mem_replicate.mp hc).2]; decide
theorem lit_P {s : Str} (h : (decide (s.length ≤ 10) && s.cps.toList.all (fun c => decide (c < 128))) = true) : AnyP (.str s) 1 44002 := by
  rw [Bool.and_eq_true] at h
  exact (AnyP.str (n := 10) (of_decide_eq_true h.1) (by decide) (fun c hc => of_decide_eq_true (List.all_eq_true.mp h.2 c hc))).mono (by decide) (by decide)
theorem none_P : AnyP .non 1 44002 := ⟨rfl, by decide, by decide⟩
theorem bl_P {b : Bool} : AnyP (.bl b) 1 44002 := ⟨rfl, by show 0 ≤ 1; decide, by show 5 ≤ 44002; decide⟩
theorem int0_P : AnyP (.int 0) 1 44002 := ⟨by decide, by decide, by decide⟩
theorem int1_P : AnyP (.int 1) 1 44002 := ⟨by decide, by decide, by decide⟩
theorem dct0_P : AnyP (.dct []) 1 44002 := ⟨rfl, by decide, by decide⟩
theorem tup0_P : AnyP (.tup []) 1 44002 := ⟨rfl, by decide, by decide⟩
noncomputable def law_odd_0 : M Fl :=
    (sAsg 1 (xCall m_law_name (fun ds _ => ds) 1 (nK []) (aCons (frz (xVar 0)) aNil) aNil))
noncomputable def law_odd_1 : M Fl :=
    (sAsg 2 (xLst (aCons (frz (xC .non)) (aCons (frz (xC (.bl true))) (aCons (frz (xC (.int 0))) (aCons (frz (xC (.int 1))) (aCons (frz (xC (.str ""))) (aCons (frz (xC (.str "--"))) (aCons (frz (xC (.str "??"))) (aCons (frz (xC (.str "-?"))) (aCons (frz (xC (.str " "))) (aCons (frz (xC (.str "A"))) (aCons (frz (xC (.str "a1"))) (aCons (frz (xC (.str "a b"))) (aCons (frz (xC (.str "a_"))) (aCons (frz (xC (.str "a-"))) (aCons (frz (xC (.str "-a"))) (aCons (frz (xM0 upperD (xBor 1))) (aCons (frz (xTup (aCons (frz (xVar 1)) aNil))) aNil)))))))))))))))))))
noncomputable def law_odd_2 : M Fl :=
    (sAsg 2 (xOp addD (xBor 2) (xLst (aCons (frz (xC (.str "pin"))) (aCons (frz (xC (.str "again"))) (aCons (frz (xC (.str "move"))) (aCons (frz (xC (.str "take"))) (aCons (frz (xC (.str "tear"))) (aCons (frz (xC (.str "at"))) (aCons (frz (xC (.str "to"))) (aCons (frz (xC (.str "until"))) (aCons (frz (xC (.str "strips"))) (aCons (frz (xC (.str "known"))) (aCons (frz (xLst (aCons (frz (xVar 1)) aNil))) aNil))))))))))))))
noncomputable def law_odd_3 : M Fl :=
    (sAsg 2 (xOp addD (xBor 2) (xLst (aCons (frz (xC (.str "abcdefgh"))) (aCons (frz (xC (.str "abcdefghi"))) aNil)))))
noncomputable def law_odd_4 : M Fl :=
    (sAsg 3 (xCall m_law_of (fun ds _ => ds) 2 (nK []) (aCons (frz (xVar 0)) (aCons (frz (xOp addD (xBor 2) (xLst (aCons (frz (xOp addD (xBor 1) (xC (.str "abcdefgh")))) (aCons (frz (xOp mulD (xC (.str "z")) (xC (.int 4400)))) (aCons (frz (xTup aNil)) (aCons (frz (ret (.dct []))) (aCons (frz (xC (.str "a\n"))) (aCons (frz (xVar 1)) aNil))))))))) aNil)) aNil))
noncomputable def law_odd_5I : M (List D) :=
    (mRng1 (aCons (frz (xOp ixD (xLst (aCons (frz (xC (.int 0))) (aCons (frz (xC (.int 0))) (aCons (frz (xC (.int 0))) (aCons (frz (xC (.int 1))) (aCons (frz (xC (.int 24))) aNil)))))) (xCall m_law_take (fun ds _ => ds) 2 (nK []) (aCons (frz (xVar 0)) (aCons (frz (xC (.int 5))) aNil)) aNil))) aNil))
noncomputable def law_odd_5B0 : M Fl :=
    (sAsg 3 (xOp ixD (xLst (aCons (frz (xTup (aCons (frz (xVar 3)) aNil))) (aCons (frz (xLst (aCons (frz (xVar 3)) aNil))) (aCons (frz (xOneK (fun _ => some (.str "a")) (qVar 3))) aNil)))) (xCall m_law_take (fun ds _ => ds) 2 (nK []) (aCons (frz (xVar 0)) (aCons (frz (xC (.int 3))) aNil)) aNil)))
noncomputable def law_odd_5B : M Fl :=
    law_odd_5B0
noncomputable def law_odd_6 : M Fl :=
    (sRet (xMov 3))
theorem law_odd_eq : m_law_odd = fnM 5
    (sSeq law_odd_0 (sSeq law_odd_1 (sSeq law_odd_2 (sSeq law_odd_3 (sSeq law_odd_4 (sSeq (sFor law_odd_5I (gN 4) law_odd_5B) law_odd_6)))))) := rfl
set_option maxHeartbeats 2000000 in
theorem odd_w {mu : List O} {k n : Nat} {env : List (Option O)} {Q : O → S → Prop} {E : Exc → S → Prop} (h : WellAt mu k n) (hn : n ≤ 700000000) (hQ : ∀ d mu', AnyP d 25 44600 → WellAt mu' k (n + 100) → Q (.fz d) ⟨env, mu'⟩) : wv (runF m_law_odd [.cel k] ⟨env, mu⟩) Q E := by
  refine w_run ?_
  refine fn_wv law_odd_eq ?_
  unfold law_odd_0 law_odd_1 law_odd_2 law_odd_3 law_odd_4 law_odd_5I law_odd_6
  walk_at "vc"
  refine name_w h (by omega) fun s mu1 hs p1 => ?_
  obtain ⟨s8, sc⟩ := nameU_lt hs
  obtain ⟨u8, uc⟩ := up_lt sc
  have up : upperD (.str s) [] = some (.fz (.str (Txt.upper s))) := if_pos (by omega)
  have sl : s.length + ("abcdefgh" : Str).length ≤ 16777216 := by have : ("abcdefgh" : Str).length = 8 := rfl; omega
  have mz : mulD (.str "z") (.int 4400) = some (.fz (.str z44)) := by rw [← z44_eq]; rfl
  have sP : AnyP (.str s) 0 82 := AnyP.str (n := 8) s8 (by decide) sc
  have uP : AnyP (.str (Txt.upper s)) 1 44002 := (AnyP.str (n := 8) (by omega) (by decide) uc).mono (by decide) (by decide)
  have aP : AnyP (.str (s ++ "abcdefgh")) 1 44002 := (AnyP.str (n := 16) (by rw [strLen_append]; have : ("abcdefgh" : Str).length = 8 := rfl; omega) (by decide) (app_lt sc (by decide))).mono (by decide) (by decide)
  have tP : AnyP (.tup [.str s]) 1 44002 := (AL.one sP).tup.mono (by decide) (by decide)
  have lP : AnyP (.lst [.str s]) 1 44002 := (AL.one sP).lst.mono (by decide) (by decide)
  have sP : AnyP (.str s) 1 44002 := sP.mono (by decide) (by decide)
  generalize Txt.upper s = U at *
  ((walk_at "vc"); repeat ((refine w_rw (by first | (simp only [up]; done) | (simp only [up]; rfl)) ?_); (walk_at "vc")))
  have mz' := mz
  ((walk_at "vc"); repeat ((refine w_rw (by first | (simp only [sl, mz]; done) | (simp only [sl, mz]; rfl)) ?_); (walk_at "vc")))
  refine of_w p1 (show 1 ≤ 36 by decide) (show 36 ≤ 1000 by decide) (by omega) fun d mu2 hd p2 => ?_
  have dP : AnyP d 1 44002 := by
    simp only [List.mem_cons, List.not_mem_nil, or_false] at hd
    rcases hd with rfl | rfl | rfl | rfl | rfl | rfl | rfl | rfl | rfl | rfl | rfl | rfl | rfl | rfl | rfl | rfl | rfl | rfl | rfl | rfl | rfl | rfl | rfl | rfl | rfl | rfl | rfl | rfl | rfl | rfl | rfl | rfl | rfl | rfl | rfl | rfl
    all_goals first
      | exact none_P
      | exact bl_P
      | exact int0_P
      | exact int1_P
      | exact dct0_P
      | exact tup0_P
      | exact z44_P
      | exact uP
      | exact aP
      | exact tP
      | exact lP
      | exact sP
      | exact lit_P (by decide)
  walk_at "vc"
  refine take_w p2 (by omega) (by omega) (by omega) fun r mu3 r0 r1 p3 => ?_
  have cs : r = 0 ∨ r = 1 ∨ r = 2 ∨ r = 3 ∨ r = 4 := by omega
  rcases cs with rfl | rfl | rfl | rfl | rfl
  all_goals
    walk_at "vc"
    refine w_rng (fun j st => ∃ (x1 x2 x4 : Option O) (d : D) (mu : List O), st = ⟨[some (.fz (.cel k)), x1, x2, some (.fz d), x4], mu⟩ ∧ AnyP d (1 + j) (44002 + 20 * j) ∧ WellAt mu k (n + 30 + j)) ⟨_, _, _, _, _, rfl, dP, p3.mono (by omega)⟩ (fun j st hj hh => ?_) (fun st hh => ?_)
    · obtain ⟨x1, x2, x4, d, mu, rfl, dP, p⟩ := hh
      have hj : j < 24 := by omega
      refine ⟨_, rfl, ?_⟩
      unfold law_odd_5B law_odd_5B0
      walk_at "vc"
      refine take_w p (by omega) (by omega) (by omega) fun r mu4 r0 r1 p4 => ?_
      have cs : r = 0 ∨ r = 1 ∨ r = 2 := by omega
      rcases cs with rfl | rfl | rfl
      · walk_at "vc"
        exact ⟨_, _, _, _, _, rfl, (AL.one dP).tup.mono (by omega) (by omega), p4.mono (by omega)⟩
      · walk_at "vc"
        exact ⟨_, _, _, _, _, rfl, (AL.one dP).lst.mono (by omega) (by omega), p4.mono (by omega)⟩
      · walk_at "vc"
        exact ⟨_, _, _, _, _, rfl, dP.dct.mono (by omega) (by omega), p4.mono (by omega)⟩
    · obtain ⟨x1, x2, x4, d, mu, rfl, dP, p⟩ := hh
      walk_at "vc"
      exact hQ _ _ (dP.mono (by decide) (by decide)) (p.mono (by omega))
theorem AL.cut {xs : List D} {p w : Nat} (h : AL xs p w) (lo hi : Option Int) : AL (cutD xs lo hi) p w := by
  unfold cutD
  exact (h.drop _).take _
theorem mulT_ok {xs : List D} {p w : Nat} {n : Int} (h : AL xs p w) (h1 : 1 ≤ xs.length) (hl : xs.length ≤ 1000) (n1 : 1 ≤ n) (n2 : n ≤ 1000) : ∃ ys, mulTD (.tup xs) (.int n) = some (.fz (.tup ys)) ∧ AL ys p (n.toNat * w) :=
  ⟨_, if_pos ⟨n1, n2, h1, hl⟩, h.rep _⟩
theorem join_chr {y : Str} (hy : ∀ c ∈ y.cps.toList, c < 128) : ∀ {ps : List Str}, (∀ p ∈ ps, ∀ c ∈ p.cps.toList, c < 128) → ∀ c ∈ (Txt.join y ps).cps.toList, c < 128
  | [], _ => fun c hc => by
    have : (Txt.join y []).cps.toList = [] := rfl
    rw [this] at hc; cases hc
  | [a], h => by rw [join_one]; exact h a List.mem_cons_self
  | a :: b :: r, h => by
    rw [join_two]
    intro c hc
    have hc : c ∈ (a.cps ++ (y.cps ++ (Txt.join y (b :: r)).cps)).toList := hc
    rw [Array.toList_append, Array.toList_append, List.mem_append, List.mem_append] at hc
    rcases hc with z | z | z
    · exact h a List.mem_cons_self c z
    · exact hy c z
    · exact join_chr hy (fun p hp => h p (List.mem_cons_of_mem _ hp)) c z
theorem strs_row : ∀ r : List Str, strsD (r.map D.str) = some r
  | [] => rfl
  | s :: r => by rw [List.map_cons, strsD, strs_row r]; rfl
theorem sum_le8 : ∀ l : List Str, (∀ x ∈ l, x.length ≤ 8) → (l.map (·.length)).sum ≤ l.length * 8
  | [], _ => Nat.le_refl 0
  | x :: l, h => by
    have h1 := sum_le8 l fun y hy => h y (List.mem_cons_of_mem _ hy)
    have h2 := h x List.mem_cons_self
    rw [List.map_cons, List.sum_cons, List.length_cons, Nat.add_mul]; omega
theorem join_row {w : Nat} {r : List Str} (h : RowOk w r) (hw : w ≤ 9) : ∃ J, joinD (.str "") [.tup (r.map D.str)] = some (.fz (.str J)) ∧ AnyP (.str J) 0 1002 := by
  have s8 : ∀ s ∈ r, s.length ≤ 8 := fun s hs => (sign_lt (h.2 s hs)).1
  have sc : ∀ s ∈ r, ∀ c ∈ s.cps.toList, c < 128 := fun s hs => (sign_lt (h.2 s hs)).2
  have s1 := sum_le8 r s8
  have rl := h.1
  have e2 : ("" : Str).length = 0 := rfl
  have jl := join_le "" r
  rw [e2] at jl
  refine ⟨Txt.join "" r, ?_, (AnyP.str (n := 100) (by omega) (by decide) (join_chr (by decide) sc)).mono (by decide) (by decide)⟩
  show ((strsD (r.map D.str)).bind fun ys => if (ys.map (·.length)).sum + ys.length * ("" : Str).length ≤ 16777216 then some (O.fz (D.str (Txt.join "" ys))) else none) = _
  rw [strs_row]
  show (if (r.map (·.length)).sum + r.length * ("" : Str).length ≤ 16777216 then _ else _) = _
  rw [e2, if_pos (by omega)]
noncomputable def law_bent_0 : M Fl :=
    (sAsgT (gT [(gN 2), (gN 3), (gN 4)]) (frz (xTup (aCons (frz (xCall m_law_take (fun ds _ => ds) 2 (nK []) (aCons (frz (xVar 0)) (aCons (frz (xUn lenD (xRd 1))) aNil)) aNil)) (aCons (frz (xCall m_law_take (fun ds _ => ds) 2 (nK []) (aCons (frz (xVar 0)) (aCons (frz (xUn lenD (xOpQ ixD (xRd 1) (fun _ => some (.int 0))))) aNil)) aNil)) (aCons (frz (xCall m_law_take (fun ds _ => ds) 2 (nK []) (aCons (frz (xVar 0)) (aCons (frz (xC (.int 12))) aNil)) aNil)) aNil))))))
noncomputable def law_bent_1 : M Fl :=
    (sPar 5 6 (oCons (xOpQ ixD (xRd 1) (qVar 2)) (oCons (xCall m_law_odd (fun ds _ => ds) 1 (nK []) (aCons (frz (xVar 0)) aNil) aNil) oNil)))
noncomputable def law_bent_2T : M Bool :=
    (toB (xOp ltD (xBor 4) (xC (.int 3))))
noncomputable def law_bent_2B0 : M Fl :=
    (sRet (xOp addD (xOp addD (xSl (xBor 1) (ret none) (mPart (xVar 2))) (xTup (aCons (frz (xOp addD (xOp addD (xSl (xBor 5) (ret none) (mPart (xVar 3))) (xTup (aCons (frz (xVar 6)) aNil))) (xSl (xBor 5) (mPart (xOp addD (xBor 3) (xC (.int 1)))) (ret none)))) aNil))) (xSl (xBor 1) (mPart (xOp addD (xBor 2) (xC (.int 1)))) (ret none))))
noncomputable def law_bent_2B : M Fl :=
    law_bent_2B0
noncomputable def law_bent_3T : M Bool :=
    (toB (xOp eqD (xBor 4) (xC (.int 3))))
noncomputable def law_bent_3B0 : M Fl :=
    (sRet (xOp addD (xOp addD (xSl (xBor 1) (ret none) (mPart (xVar 2))) (xTup (aCons (frz (xVar 6)) aNil))) (xSl (xBor 1) (mPart (xOp addD (xBor 2) (xC (.int 1)))) (ret none))))
noncomputable def law_bent_3B : M Fl :=
    law_bent_3B0
noncomputable def law_bent_4T : M Bool :=
    (toB (xOp eqD (xBor 4) (xC (.int 4))))
noncomputable def law_bent_4B0 : M Fl :=
    (sRet (xMov 6))
noncomputable def law_bent_4B : M Fl :=
    law_bent_4B0
noncomputable def law_bent_5T : M Bool :=
    (toB (xOp ltD (xBor 4) (xC (.int 7))))
noncomputable def law_bent_5B0 : M Fl :=
    (sAsg 5 (xOp ixD (xLst (aCons (frz (xOp addD (xSl (xBor 5) (ret none) (mPart (xVar 3))) (xSl (xBor 5) (mPart (xOp addD (xBor 3) (xC (.int 1)))) (ret none)))) (aCons (frz (xOp addD (xOp addD (xSl (xBor 5) (ret none) (mPart (xVar 3))) (xSl (xBor 5) (mPart (xVar 3)) (mPart (xOp addD (xBor 3) (xC (.int 1)))))) (xSl (xBor 5) (mPart (xVar 3)) (ret none)))) aNil))) (xOp subD (xBor 4) (xC (.int 5)))))
noncomputable def law_bent_5B1 : M Fl :=
    (sRet (xOp addD (xOp addD (xSl (xBor 1) (ret none) (mPart (xVar 2))) (xTup (aCons (frz (xVar 5)) aNil))) (xSl (xBor 1) (mPart (xOp addD (xBor 2) (xC (.int 1)))) (ret none))))
noncomputable def law_bent_5B : M Fl :=
    (sSeq law_bent_5B0 law_bent_5B1)
noncomputable def law_bent_6T : M Bool :=
    (toB (xOp eqD (xBor 4) (xC (.int 7))))
noncomputable def law_bent_6B0 : M Fl :=
    (sRet (xSl (xOp mulTD (xBor 1) (xC (.int 10))) (ret none) (mPart (xOp addD (xC (.int 9)) (xCall m_law_take (fun ds _ => ds) 2 (nK []) (aCons (frz (xVar 0)) (aCons (frz (xC (.int 2))) aNil)) aNil)))))
noncomputable def law_bent_6B : M Fl :=
    law_bent_6B0
noncomputable def law_bent_7T : M Bool :=
    (toB (xOp eqD (xBor 4) (xC (.int 8))))
noncomputable def law_bent_7B0L0 : M D :=
    (frz (xSl (xOp mulTD (xBor 7) (xC (.int 10))) (ret none) (mPart (xOp addD (xC (.int 9)) (xOp modD (xBor 3) (xC (.int 2)))))))
noncomputable def law_bent_7B0 : M Fl :=
    (sRet (xUn tupleD (xLc [7] (mSeq (frz (xVar 1))) (gN 7) (ret true) law_bent_7B0L0)))
noncomputable def law_bent_7B : M Fl :=
    law_bent_7B0
noncomputable def law_bent_8T : M Bool :=
    (toB (xOp eqD (xBor 4) (xC (.int 9))))
noncomputable def law_bent_8B0 : M Fl :=
    (sRet (xOp ixD (xLst (aCons (frz (xUn listD (xRd 1))) (aCons (frz (xOp addD (xOp addD (xSl (xBor 1) (ret none) (mPart (xVar 2))) (xTup (aCons (frz (xUn listD (xRd 5))) aNil))) (xSl (xBor 1) (mPart (xOp addD (xBor 2) (xC (.int 1)))) (ret none)))) (aCons (frz (xOp addD (xSl (xBor 1) (ret none) (mPart (xVar 2))) (xTup (aCons (frz (xM1 joinD (xC (.str "")) (frz (xVar 5)))) aNil)))) aNil)))) (xOp modD (xBor 3) (xC (.int 3)))))
noncomputable def law_bent_8B : M Fl :=
    law_bent_8B0
noncomputable def law_bent_9T : M Bool :=
    (toB (xOp eqD (xBor 4) (xC (.int 10))))
noncomputable def law_bent_9B0 : M Fl :=
    (sRet (xOp ixD (xLst (aCons (frz (xTup aNil)) (aCons (frz (xOp mulTD (xTup (aCons (frz (xTup aNil)) aNil)) (xUn lenD (xRd 1)))) (aCons (frz (xOp addD (xOp addD (xSl (xBor 1) (ret none) (mPart (xVar 2))) (xTup (aCons (frz (xTup aNil)) aNil))) (xSl (xBor 1) (mPart (xOp addD (xBor 2) (xC (.int 1)))) (ret none)))) aNil)))) (xOp modD (xBor 3) (xC (.int 3)))))
noncomputable def law_bent_9B : M Fl :=
    law_bent_9B0
noncomputable def law_bent_10 : M Fl :=
    (sRet (xOp addD (xSl (xBor 1) (ret none) (mPart (xVar 2))) (xSl (xBor 1) (mPart (xOp addD (xBor 2) (xC (.int 1)))) (ret none))))
theorem law_bent_eq : m_law_bent = fnM 8
    (sSeq law_bent_0 (sSeq law_bent_1 (sSeq (sIf law_bent_2T law_bent_2B sNil) (sSeq (sIf law_bent_3T law_bent_3B sNil) (sSeq (sIf law_bent_4T law_bent_4B sNil) (sSeq (sIf law_bent_5T law_bent_5B sNil) (sSeq (sIf law_bent_6T law_bent_6B sNil) (sSeq (sIf law_bent_7T law_bent_7B sNil) (sSeq (sIf law_bent_8T law_bent_8B sNil) (sSeq (sIf law_bent_9T law_bent_9B sNil) law_bent_10)))))))))) := rfl
set_option maxHeartbeats 4000000 in
theorem bent_w {R : List (List Str)} {mu : List O} {k n : Nat} {env : List (Option O)} {Q : O → S → Prop} {E : Exc → S → Prop} (hR : RowsOk R) (h : WellAt mu k n) (hn : n ≤ 600000000) (hQ : ∀ d mu', AnyP d 30 200000 → WellAt mu' k (n + 200) → Q (.fz d) ⟨env, mu'⟩) : wv (runF m_law_bent [.cel k, dRows R] ⟨env, mu⟩) Q E := by
  have aR := rows_L hR
  obtain ⟨⟨l1, l9⟩, w, ⟨w1, w9⟩, hw⟩ := hR
  have rlen : (R.map dRow).length = R.length := List.length_map _
  have rowm : ∀ x ∈ R.map dRow, ∃ r, x = .tup (r.map D.str) ∧ RowOk w r := fun x hx => by
    obtain ⟨r, hr, rfl⟩ := List.mem_map.mp hx
    exact ⟨r, rfl, hw r hr⟩
  show wv (runF m_law_bent [.cel k, .tup (R.map dRow)] ⟨env, mu⟩) Q E
  obtain ⟨RD, hRD⟩ : ∃ RD, R.map dRow = RD := ⟨_, rfl⟩
  rw [hRD] at aR rlen rowm ⊢
  obtain ⟨x0, RT, e0⟩ : ∃ x0 RT, RD = x0 :: RT := by
    cases RD with
    | nil => rw [List.length_nil] at rlen; omega
    | cons x R => exact ⟨x, R, rfl⟩
  obtain ⟨r0, hx0, hr0⟩ := rowm x0 (by rw [e0]; exact List.mem_cons_self)
  have ix0 : ixD (.tup RD) (.int 0) = some (.fz (.tup (r0.map D.str))) := by rw [e0, hx0]; exact sk_t0
  have W0l : (r0.map D.str).length = w := by rw [List.length_map]; exact hr0.1
  generalize r0.map D.str = W0 at *
  refine w_run ?_
  refine fn_wv law_bent_eq ?_
  unfold law_bent_0 law_bent_1 law_bent_2T law_bent_2B law_bent_2B0 law_bent_3T law_bent_3B law_bent_3B0 law_bent_4T law_bent_4B law_bent_4B0
  walk_at "vc"
  refine take_w h (by omega) (by omega) (by omega) fun a mu1 a0 a1 p1 => ?_
  ((walk_at "vc"); repeat ((refine w_rw (by first | (simp only [ix0]; done) | (simp only [ix0]; rfl)) ?_); (walk_at "vc")))
  refine take_w p1 (by omega) (by omega) (by omega) fun b mu2 b0 b1 p2 => ?_
  walk_at "vc"
  refine take_w p2 (by omega) (by omega) (by omega) fun c mu3 c0 c1 p3 => ?_
  have al : a.toNat < RD.length := by omega
  obtain ⟨ra, hxa, hra⟩ := rowm RD[a.toNat] (List.getElem_mem al)
  have ixa : ixD (.tup RD) (.int a) = some (.fz (.tup (ra.map D.str))) := by rw [ix_tup a0 al, hxa]
  have aW := row_L hra w9
  obtain ⟨J, jD, jP⟩ := join_row hra w9
  have Wl : (ra.map D.str).length = w := by rw [List.length_map]; exact hra.1
  generalize ra.map D.str = RW at *
  ((walk_at "vc"); repeat ((refine w_rw (by first | (simp only [ixa]; done) | (simp only [ixa]; rfl)) ?_); (walk_at "vc")))
  refine odd_w p3 (by omega) fun d mu4 dP p4 => ?_
  have p4 := p4.mono (show n + 1 + 1 + 1 + 100 ≤ n + 150 by omega)
  have fin := fun (d : D) (mu' : List O) (h1 : AnyP d 30 200000) (h2 : WellAt mu' k (n + 200)) => hQ d mu' h1 h2
  have sA : slD (.tup RD) none (some a) = some (.fz (.tup (cutD RD none (some a)))) := rfl
  have sB : slD (.tup RD) (some (a + 1)) none = some (.fz (.tup (cutD RD (some (a + 1)) none))) := rfl
  have sa : slD (.tup RW) none (some b) = some (.fz (.tup (cutD RW none (some b)))) := rfl
  have sb : slD (.tup RW) (some (b + 1)) none = some (.fz (.tup (cutD RW (some (b + 1)) none))) := rfl
  have so : slD (.tup RW) (some b) (some (b + 1)) = some (.fz (.tup (cutD RW (some b) (some (b + 1))))) := rfl
  have sc : slD (.tup RW) (some b) none = some (.fz (.tup (cutD RW (some b) none))) := rfl
  have A1 := aR.cut none (some a)
  have A2 := aR.cut (some (a + 1)) none
  have B1 := aW.cut none (some b)
  have B2 := aW.cut (some (b + 1)) none
  have B3 := aW.cut (some b) (some (b + 1))
  have B4 := aW.cut (some b) none
  generalize cutD RD none (some a) = TA at *
  generalize cutD RD (some (a + 1)) none = TB at *
  generalize cutD RW none (some b) = RA at *
  generalize cutD RW (some (b + 1)) none = RB at *
  generalize cutD RW (some b) (some (b + 1)) = RO at *
  generalize cutD RW (some b) none = RC at *
  have A1l := A1.len
  have A2l := A2.len
  have B1l := B1.len
  have B2l := B2.len
  have B3l := B3.len
  have B4l := B4.len
  have q1 : TA.length + 1 ≤ 16777216 := by omega
  have q2 : ∀ x : D, (TA ++ [x]).length + TB.length ≤ 16777216 := fun x => by rw [List.length_append, List.length_singleton]; omega
  have q3 : TA.length + TB.length ≤ 16777216 := by omega
  have q4 : RA.length + 1 ≤ 16777216 := by omega
  have q5 : (RA ++ [d]).length + RB.length ≤ 16777216 := by rw [List.length_append, List.length_singleton]; omega
  have q6 : RA.length + RB.length ≤ 16777216 := by omega
  have q7 : RA.length + RO.length ≤ 16777216 := by omega
  have q8 : (RA ++ RO).length + RC.length ≤ 16777216 := by rw [List.length_append]; omega
  have row : ∀ x : D, AnyP x 29 45500 → AnyP (.tup (TA ++ [x] ++ TB)) 30 200000 := fun x hx => ((A1.app (AL.one hx)).app A2).tup.mono (by decide) (by omega)
  have cs : c = 0 ∨ c = 1 ∨ c = 2 ∨ c = 3 ∨ c = 4 ∨ c = 5 ∨ c = 6 ∨ c = 7 ∨ c = 8 ∨ c = 9 ∨ c = 10 ∨ c = 11 := by omega
  have w3 : AnyP (.tup (RA ++ [d] ++ RB)) 29 46200 := ((B1.app (AL.one dP)).app B2).tup.mono (by decide) (by omega)
  have w3' : AnyP (.tup (TA ++ [.tup (RA ++ [d] ++ RB)] ++ TB)) 30 200000 := ((A1.app (AL.one w3)).app A2).tup.mono (by decide) (by omega)
  rcases cs with rfl | rfl | rfl | rfl | rfl | rfl | rfl | rfl | rfl | rfl | rfl | rfl
  · ((walk_at "vc"); repeat ((refine w_rw (by first | (simp only [sA, sa, q4, sb, q5, q1, sB, q2]; done) | (simp only [sA, sa, q4, sb, q5, q1, sB, q2]; rfl)) ?_); (walk_at "vc")))
    exact fin _ _ w3' (p4.mono (by omega))
  · ((walk_at "vc"); repeat ((refine w_rw (by first | (simp only [sA, sa, q4, sb, q5, q1, sB, q2]; done) | (simp only [sA, sa, q4, sb, q5, q1, sB, q2]; rfl)) ?_); (walk_at "vc")))
    exact fin _ _ w3' (p4.mono (by omega))
  · ((walk_at "vc"); repeat ((refine w_rw (by first | (simp only [sA, sa, q4, sb, q5, q1, sB, q2]; done) | (simp only [sA, sa, q4, sb, q5, q1, sB, q2]; rfl)) ?_); (walk_at "vc")))
    exact fin _ _ w3' (p4.mono (by omega))
  · ((walk_at "vc"); repeat ((refine w_rw (by first | (simp only [sA, q1, sB, q2]; done) | (simp only [sA, q1, sB, q2]; rfl)) ?_); (walk_at "vc")))
    exact fin _ _ (row d (dP.mono (by decide) (by decide))) (p4.mono (by omega))
  · walk_at "vc"
    exact fin _ _ (dP.mono (by decide) (by decide)) (p4.mono (by omega))
  · unfold law_bent_5T law_bent_5B law_bent_5B0 law_bent_5B1
    ((walk_at "vc"); repeat ((refine w_rw (by first | (simp only [sA, sa, sb, q6, so, q7, sc, q8, q1, sB, q2]; done) | (simp only [sA, sa, sb, q6, so, q7, sc, q8, q1, sB, q2]; rfl)) ?_); (walk_at "vc")))
    exact fin _ _ (row _ ((B1.app B2).tup.mono (by decide) (by omega))) (p4.mono (by omega))
  · unfold law_bent_5T law_bent_5B law_bent_5B0 law_bent_5B1
    ((walk_at "vc"); repeat ((refine w_rw (by first | (simp only [sA, sa, sb, q6, so, q7, sc, q8, q1, sB, q2]; done) | (simp only [sA, sa, sb, q6, so, q7, sc, q8, q1, sB, q2]; rfl)) ?_); (walk_at "vc")))
    exact fin _ _ (row _ (((B1.app B3).app B4).tup.mono (by decide) (by omega))) (p4.mono (by omega))
  · unfold law_bent_5T law_bent_6T law_bent_6B law_bent_6B0
    obtain ⟨M, mt, aM⟩ := mulT_ok (n := 10) aR (by omega) (by omega) (by decide) (by decide)
    ((walk_at "vc"); repeat ((refine w_rw (by first | (simp only [mt]; done) | (simp only [mt]; rfl)) ?_); (walk_at "vc")))
    refine take_w p4 (by omega) (by omega) (by omega) fun r mu5 r0 r1 p5 => ?_
    have sm : slD (.tup M) none (some (9 + r)) = some (.fz (.tup (cutD M none (some (9 + r))))) := rfl
    ((walk_at "vc"); repeat ((refine w_rw (by first | (simp only [sm]; done) | (simp only [sm]; rfl)) ?_); (walk_at "vc")))
    exact fin _ _ ((aM.cut _ _).tup.mono (by decide) (by decide)) (p5.mono (by omega))
  · unfold law_bent_5T law_bent_6T law_bent_7T law_bent_7B law_bent_7B0
    have RDl : RD.length ≤ 16777216 := by omega
    ((walk_at "vc"); repeat ((refine w_rw (by first | (simp only [RDl]; done) | (simp only [RDl]; rfl)) ?_); (walk_at "vc")))
    refine w_rw (r' := lcL [7] (gN 7) (Tr.ret true) law_bent_7B0L0 (RD.map id) _) (by rw [List.map_id]) ?_
    have each : ∀ x ∈ RD, ∃ xs M, x = .tup xs ∧ mulTD (.tup xs) (.int 10) = some (.fz (.tup M)) ∧ AL M 0 7560 := fun x hx => by
      obtain ⟨r, rfl, hr⟩ := rowm x hx
      have aX := row_L hr w9
      have xl : (r.map D.str).length = w := by rw [List.length_map]; exact hr.1
      obtain ⟨M, mt, aM⟩ := mulT_ok (n := 10) aX (by omega) (by omega) (by decide) (by decide)
      exact ⟨_, M, rfl, mt, aM⟩
    have fx : ∃ f : D → D, ∀ x ∈ RD, ∃ xs M, x = .tup xs ∧ mulTD (.tup xs) (.int 10) = some (.fz (.tup M)) ∧ AL M 0 7560 ∧ f x = .tup (cutD M none (some (9 + b % 2))) := by
      refine ⟨fun x => match mulTD x (.int 10) with | some (.fz (.tup M)) => .tup (cutD M none (some (9 + b % 2))) | _ => .non, fun x hx => ?_⟩
      obtain ⟨xs, M, rfl, mt, aM⟩ := each x hx
      exact ⟨xs, M, rfl, mt, aM, by show (match mulTD (.tup xs) (.int 10) with | some (.fz (.tup M)) => D.tup (cutD M none (some (9 + b % 2))) | _ => .non) = _; rw [mt]⟩
    obtain ⟨f, hf⟩ := fx
    refine w_lcx (enc := id) f (fun x hx => ?_) ?_
    · obtain ⟨xs, M, rfl, mt, aM, ef⟩ := hf x hx
      have sm : slD (.tup M) none (some (9 + b % 2)) = some (.fz (.tup (cutD M none (some (9 + b % 2))))) := rfl
      rw [ef]
      refine ⟨_, rfl, ?_⟩
      unfold law_bent_7B0L0
      simp only [id]
      ((walk_at "vc"); repeat ((refine w_rw (by first | (simp only [mt, sm]; done) | (simp only [mt, sm]; rfl)) ?_); (walk_at "vc")))
      exact ⟨rfl, rfl, rfl, rfl⟩
    have aF : AL (RD.map f) 1 (RD.length * (7563 + 2)) := AL.map fun x hx => by
      obtain ⟨xs, M, rfl, mt, aM, ef⟩ := hf x hx
      rw [ef]
      exact (aM.cut _ _).tup
    have aF := aF.mono (p' := 1) (w' := 68085) (Nat.le_refl _) (by omega)
    generalize RD.map f = RF at *
    walk_at "vc"
    exact fin _ _ (aF.tup.mono (by decide) (by decide)) (p4.mono (by omega))
  · unfold law_bent_5T law_bent_6T law_bent_7T law_bent_8T law_bent_8B law_bent_8B0
    have m3 : b % 3 = 0 ∨ b % 3 = 1 ∨ b % 3 = 2 := by omega
    rcases m3 with m3 | m3 | m3
    · ((walk_at "vc"); repeat ((refine w_rw (by first | (simp only [sA, q1, sB, q2, jD, m3]; done) | (simp only [sA, q1, sB, q2, jD, m3]; rfl)) ?_); (walk_at "vc")))
      exact fin _ _ (aR.lst.mono (by decide) (by decide)) (p4.mono (by omega))
    · ((walk_at "vc"); repeat ((refine w_rw (by first | (simp only [sA, q1, sB, q2, jD, m3]; done) | (simp only [sA, q1, sB, q2, jD, m3]; rfl)) ?_); (walk_at "vc")))
      exact fin _ _ (row _ (aW.lst.mono (by decide) (by decide))) (p4.mono (by omega))
    · ((walk_at "vc"); repeat ((refine w_rw (by first | (simp only [sA, q1, sB, q2, jD, m3]; done) | (simp only [sA, q1, sB, q2, jD, m3]; rfl)) ?_); (walk_at "vc")))
      exact fin _ _ ((A1.app (AL.one jP)).tup.mono (by decide) (by decide)) (p4.mono (by omega))
  · unfold law_bent_5T law_bent_6T law_bent_7T law_bent_8T law_bent_9T law_bent_9B law_bent_9B0
    have t0 : AnyP (.tup []) 1 44002 := tup0_P
    obtain ⟨M, mt, aM⟩ := mulT_ok (n := (RD.length : Int)) (AL.one (AL.nil.tup)) (by decide) (by decide) (by omega) (by omega)
    have m3 : b % 3 = 0 ∨ b % 3 = 1 ∨ b % 3 = 2 := by omega
    rcases m3 with m3 | m3 | m3
    · ((walk_at "vc"); repeat ((refine w_rw (by first | (simp only [mt, sA, q1, sB, q2, m3]; done) | (simp only [mt, sA, q1, sB, q2, m3]; rfl)) ?_); (walk_at "vc")))
      exact fin _ _ (t0.mono (by decide) (by decide)) (p4.mono (by omega))
    · ((walk_at "vc"); repeat ((refine w_rw (by first | (simp only [mt, sA, q1, sB, q2, m3]; done) | (simp only [mt, sA, q1, sB, q2, m3]; rfl)) ?_); (walk_at "vc")))
      exact fin _ _ (aM.tup.mono (by decide) (by omega)) (p4.mono (by omega))
    · ((walk_at "vc"); repeat ((refine w_rw (by first | (simp only [mt, sA, q1, sB, q2, m3]; done) | (simp only [mt, sA, q1, sB, q2, m3]; rfl)) ?_); (walk_at "vc")))
      exact fin _ _ (row _ (t0.mono (by decide) (by decide))) (p4.mono (by omega))
  · unfold law_bent_5T law_bent_6T law_bent_7T law_bent_8T law_bent_9T law_bent_10
    ((walk_at "vc"); repeat ((refine w_rw (by first | (simp only [sA, sB, q3]; done) | (simp only [sA, sB, q3]; rfl)) ?_); (walk_at "vc")))
    exact fin _ _ ((A1.app A2).tup.mono (by decide) (by omega)) (p4.mono (by omega))
theorem simA_row : ∀ {r : List Str}, (∀ s ∈ r, SignOk s) → simA (r.map D.str) = true := fun {r} h => simA_map fun s hs => by rw [simD]; exact sign_strOk (h s hs)
theorem ne_rows {R : List (List Str)} (h : RowsOk R) : neD (dRows R) (dRows R) = some (.fz (.bl false)) := by
  have dp := (rows_L h).tup.dp
  obtain ⟨_, w, _, hw⟩ := h
  have d2 : simA (R.map dRow) = true := simA_map fun r hr => by
    show simD (.tup (r.map .str)) = true
    rw [simD]
    exact simA_row (hw r hr).2
  exact ne_self (by show simD (.tup (R.map dRow)) = true; rw [simD]; exact d2) (by show dpD (.tup (R.map dRow)) ≤ 60; omega)
noncomputable def law_0 : M Fl :=
    (sAsgC 1 (xCall m_law_well (fun ds _ => ds) 1 (nK []) (aCons (frz (xVar 0)) aNil) aNil))
noncomputable def law_1I : M (List D) :=
    (mRng1 (aCons (frz (xC (.int 14))) aNil))
noncomputable def law_1B0 : M Fl :=
    (sAsg 3 (xCall m_law_any_rows (fun ds _ => ds) 1 (nK []) (aCons (frz (xVar 1)) aNil) aNil))
noncomputable def law_1B1I : M (List D) :=
    (mRng1 (aCons (frz (xOp ixD (xLst (aCons (frz (xC (.int 1))) (aCons (frz (xC (.int 1))) (aCons (frz (xC (.int 1))) (aCons (frz (xC (.int 2))) (aCons (frz (xC (.int 0))) aNil)))))) (xCall m_law_take (fun ds _ => ds) 2 (nK []) (aCons (frz (xVar 1)) (aCons (frz (xC (.int 5))) aNil)) aNil))) aNil))
noncomputable def law_1B1B0T : M Bool :=
    (toB (xCall m_law_are_rows (fun ds _ => ds) 1 (nK []) (aCons (frz (xVar 3)) aNil) aNil))
noncomputable def law_1B1B0B0 : M Fl :=
    (sAsg 3 (xCall m_law_bent (fun ds _ => ds) 2 (nK []) (aCons (frz (xVar 1)) (aCons (frz (xVar 3)) aNil)) aNil))
noncomputable def law_1B1B0B : M Fl :=
    law_1B1B0B0
noncomputable def law_1B1B : M Fl :=
    (sIf law_1B1B0T law_1B1B0B sNil)
noncomputable def law_1B2 : M Fl :=
    (sPar 5 6 (oCons (xUn reprD (xRd 3)) (oCons (xCall m_law_are_rows (fun ds _ => ds) 1 (nK []) (aCons (frz (xVar 3)) aNil) aNil) oNil)))
noncomputable def law_1B3 : M Fl :=
    (sAsgT (gT [(gN 7), (gN 8)]) (frz (xCall m_law_told (fun ds _ => ds) 2 (nK []) (aCons (frz (xVar 3)) (aCons (frz (xOp modD (xBor 2) (xC (.int 2)))) aNil)) aNil)))
noncomputable def law_1B4T : M Bool :=
    (bOr (toB (xOp neD (xUn reprD (xRd 3)) (xRd 5))) (toB (xOp neD (xBor 6) (xOp isD (xBor 8) (xC .non)))))
noncomputable def law_1B4B0 : M Fl :=
    (sRet (xC (.bl false)))
noncomputable def law_1B4B : M Fl :=
    law_1B4B0
noncomputable def law_1B5T : M Bool :=
    (bAnd (toB (xVar 6)) (bOr (bNot (toB (xCn (isiO CLS) (aCons (frz (xVar 7)) (aCons (frz (xC (.fn "Photo"))) aNil))))) (toB (xOp neD (xFldF CT "rows" (xRd 7)) (xRd 3)))))
noncomputable def law_1B5B0 : M Fl :=
    (sRet (xC (.bl false)))
noncomputable def law_1B5B : M Fl :=
    law_1B5B0
noncomputable def law_1B6T : M Bool :=
    (bNot (toB (xVar 6)))
noncomputable def law_1B6B0T : M Bool :=
    (bOr (bNot (toB (xCn (isiXT IXT BXT) (aCons (frz (xVar 8)) (aCons (frz (xC (.fn "BadPhoto"))) aNil))))) (toB (xCn (isiXT IXT BXT) (aCons (frz (xVar 8)) (aCons (frz (xTup (aCons (frz (xC (.fn "NoText"))) (aCons (frz (xC (.fn "BadCard"))) (aCons (frz (xC (.fn "BadBoard"))) aNil))))) aNil)))))
noncomputable def law_1B6B0B0 : M Fl :=
    (sRet (xC (.bl false)))
noncomputable def law_1B6B0B : M Fl :=
    law_1B6B0B0
noncomputable def law_1B6B1T : M Bool :=
    (bNot (toB (xCn (isiXT IXT BXT) (aCons (frz (xVar 8)) (aCons (ret (.ty "ValueError")) aNil)))))
noncomputable def law_1B6B1B0 : M Fl :=
    (sRet (xC (.bl false)))
noncomputable def law_1B6B1B : M Fl :=
    law_1B6B1B0
noncomputable def law_1B6B : M Fl :=
    (sSeq (sIf law_1B6B0T law_1B6B0B sNil) (sIf law_1B6B1T law_1B6B1B sNil))
noncomputable def law_1B : M Fl :=
    (sSeq law_1B0 (sSeq (sFor law_1B1I (gN 4) law_1B1B) (sSeq law_1B2 (sSeq law_1B3 (sSeq (sIf law_1B4T law_1B4B sNil) (sSeq (sIf law_1B5T law_1B5B sNil) (sIf law_1B6T law_1B6B sNil)))))))
noncomputable def law_2 : M Fl :=
    (sRet (xC (.bl true)))
theorem law_eq : m_law = fnM 9
    (sSeq law_0 (sSeq (sFor law_1I (gN 2) law_1B) law_2)) := rfl
set_option maxHeartbeats 1000000 in
theorem law_turn {L : O} {w : Int} {k n : Nat} {x3 x4 x5 x6 x7 x8 : Option O} {mu : List O} (h : WellAt mu k n) (hn : n ≤ 100000) (w0 : 0 ≤ w) {Q : Fl → Tr.S → Prop}
    (hQ : ∀ (x3 x4 x5 x6 x7 x8 : Option O) (mu : List O), WellAt mu k (n + 5000) → Q .nx ⟨[some L, some (.fz (.cel k)), some (.fz (.int w)), x3, x4, x5, x6, x7, x8], mu⟩) :
    wv (law_1B ⟨[some L, some (.fz (.cel k)), some (.fz (.int w)), x3, x4, x5, x6, x7, x8], mu⟩) Q noQ := by
  unfold law_1B law_1B0 law_1B1I
  walk_at "vc"
  refine rows_w h (by omega) fun R0 mu1 hR0 p1 => ?_
  have aP0 : AnyP (dRows R0) 30 200000 := (rows_L hR0).tup.mono (by decide) (by decide)
  generalize dRows R0 = d0 at *
  walk_at "vc"
  refine take_w p1 (by omega) (by omega) (by omega) fun r mu2 r0 r1 p2 => ?_
  have w2 : w % 2 = 0 ∨ w % 2 = 1 := by omega
  have cs : r = 0 ∨ r = 1 ∨ r = 2 ∨ r = 3 ∨ r = 4 := by omega
  have tail : ∀ {d : D} {x4 : Option O} {mu : List O}, AnyP d 30 200000 → WellAt mu k (n + 4000) →
      wv (sSeq law_1B2 (sSeq law_1B3 (sSeq (sIf law_1B4T law_1B4B sNil) (sSeq (sIf law_1B5T law_1B5B sNil) (sIf law_1B6T law_1B6B sNil)))) ⟨[some L, some (.fz (.cel k)), some (.fz (.int w)), some (.fz d), x4, x5, x6, x7, x8], mu⟩) Q noQ := fun {d x4 mu} dP p => by
    obtain ⟨T, rd, te⟩ : ∃ T : Str, reprD d = some (.fz (.str T)) ∧ neD (.str T) (.str T) = some (.fz (.bl false)) := by
      obtain ⟨q, _, e, _⟩ := repr_okD (hA_ok _ dP.h) (by have := dP.dp; omega) (by have := dP.wt; omega)
      exact ⟨_, e, by rw [st_nes]; simp⟩
    have la := fun env => run_ok (env := env) (both_D (mu := mu) dP (by decide)).2
    unfold law_1B2 law_1B3 law_1B4T law_1B4B law_1B4B0 law_1B5T law_1B5B law_1B5B0 law_1B6T law_1B6B
    cases hb : rowsB d with
    | true =>
      rw [hb] at la
      obtain ⟨R, hR, rfl⟩ := rowsD_iff.mp (rowsB_iff.mp hb)
      have tg := fun env => run_ok (env := env) (told_good (w := w % 2) (mu := mu) w2 hR)
      have i2 : isiO CLS [dPh R, .fn "Photo"] = some (.fz (.bl true)) := rfl
      have i1 : isD .non .non = some (.fz (.bl true)) := rfl
      have nb : neD (.bl true) (.bl true) = some (.fz (.bl false)) := rfl
      have nr := ne_rows hR
      obtain ⟨X, hX⟩ : ∃ X, dPh R = .ins "Photo" X := ⟨_, rfl⟩
      obtain ⟨RD, hRD⟩ : ∃ RD, R.map dRow = RD := ⟨_, rfl⟩
      have hD : dRows R = .tup RD := by show D.tup (R.map dRow) = _; rw [hRD]
      rw [hX] at i2
      rw [hD] at nr rd ⊢
      simp only [hD] at la
      simp only [hX, hD] at tg
      have f2 : X.lookup ("rows" : Str) = some (.tup RD) := by
        have hP := (D.ins.inj hX).2
        rw [← hP, ← hD]; rfl
      clear hX hD hRD hR hb dP
      ((walk_at "vc"); repeat ((refine w_rw (by first | (simp only [rd, la, tg, te, i1, nb, i2, f2, nr]; done) | (simp only [rd, la, tg, te, i1, nb, i2, f2, nr]; rfl)) ?_); (walk_at "vc")))
      exact hQ _ _ _ _ _ _ _ (p.mono (by omega))
    | false =>
      rw [hb] at la
      have tb := fun env => run_ok (env := env) (told_bad (w := w % 2) (mu := mu) w2 dP (by decide) hb)
      have i1 : isD bpX .non = some (.fz (.bl false)) := rfl
      have nb : neD (.bl false) (.bl false) = some (.fz (.bl false)) := rfl
      have xn : isNon bpX = false := rfl
      have i3 : isiXT IXT BXT [bpX, .fn "BadPhoto"] = some (.fz (.bl true)) := rfl
      have i4 : isiXT IXT BXT [bpX, .tup [.fn "NoText", .fn "BadCard", .fn "BadBoard"]] = some (.fz (.bl false)) := rfl
      have i5 : isiXT IXT BXT [bpX, .ty "ValueError"] = some (.fz (.bl true)) := rfl
      unfold law_1B6B0T law_1B6B1T
      cases d <;> first
        | (exfalso; rw [reprD, D.py] at rd; cases rd; done)
        | (((walk_at "vc"); repeat ((refine w_rw (by first | (simp only [rd, la, tb, te, i1, xn, nb, i3, i4, i5]; done) | (simp only [rd, la, tb, te, i1, xn, nb, i3, i4, i5]; rfl)) ?_); (walk_at "vc")))
           exact hQ _ _ _ _ _ _ _ (p.mono (by omega)))
  rcases cs with rfl | rfl | rfl | rfl | rfl
  rotate_left 4
  · walk_at "vc"
    refine w_rng (fun j st => st = ⟨[some L, some (.fz (.cel k)), some (.fz (.int w)), some (.fz d0), x4, x5, x6, x7, x8], mu2⟩) rfl (fun j st hj hh => absurd hj (Nat.not_lt_zero _)) (fun st hh => ?_)
    subst hh
    exact tail aP0 (p2.mono (by omega))
  all_goals
    walk_at "vc"
    refine w_rng (fun j st => ∃ (d : D) (x4 : Option O) (mu : List O), st = ⟨[some L, some (.fz (.cel k)), some (.fz (.int w)), some (.fz d), x4, x5, x6, x7, x8], mu⟩ ∧ AnyP d 30 200000 ∧ WellAt mu k (n + 3100 + 200 * j)) ⟨_, _, _, rfl, aP0, p2.mono (by omega)⟩ (fun j st hj hh => ?_) (fun st hh => ?_)
    · obtain ⟨d, x4, mu, rfl, dP, p⟩ := hh
      have hj : j < 2 := by omega
      refine ⟨_, rfl, ?_⟩
      have la := fun env => run_ok (env := env) (both_D (mu := mu) dP (by decide)).2
      unfold law_1B1B law_1B1B0T law_1B1B0B law_1B1B0B0
      cases hb : rowsB d with
      | true =>
        rw [hb] at la
        ((walk_at "vc"); repeat ((refine w_rw (by first | (simp only [la]; done) | (simp only [la]; rfl)) ?_); (walk_at "vc")))
        obtain ⟨R, hR, rfl⟩ := rowsD_iff.mp (rowsB_iff.mp hb)
        refine bent_w hR p (by omega) fun d mu3 dP p3 => ?_
        walk_at "vc"
        exact ⟨_, _, _, rfl, dP, p3.mono (by omega)⟩
      | false =>
        rw [hb] at la
        ((walk_at "vc"); repeat ((refine w_rw (by first | (simp only [la]; done) | (simp only [la]; rfl)) ?_); (walk_at "vc")))
        exact ⟨_, _, _, rfl, dP, p.mono (by omega)⟩
    · obtain ⟨d, x4, mu, rfl, dP, p⟩ := hh
      exact tail dP (p.mono (by omega))
theorem law_true' : ∀ ns : List Int, ns.length ≤ 63 → ∃ mu, m_law [.lsk (ns.map .int)] [] = .ok (.fz (.bl true)) ⟨[], mu⟩ := by
  intro ns hn
  have h : wv (m_law [.lsk (ns.map .int)] []) (fun o s => o = .fz (.bl true) ∧ s.env = []) noQ := by
    obtain ⟨o, b, e, ok, b0, b1⟩ := well_ok hn []
    have e1 := fun env => run_ok (env := env) e
    have h0 : WellAt [wellO o b 0] 0 0 := ⟨o, b, 0, rfl, ok, b0, b1, Int.le_refl _, Int.le_refl _⟩
    have ce : cellO (wellO o b 0) = true := by
      rcases ok with rfl | ⟨xs, rfl, _⟩ <;> rfl
    generalize hL : ns.map D.int = L at *
    generalize hW : wellO o b 0 = W at *
    refine fn_wv law_eq ?_
    unfold law_0 law_1I law_2
    ((walk_at "vc"); repeat ((refine w_rw (by first | (simp only [e1, ce]; done) | (simp only [e1, ce]; rfl)) ?_); (walk_at "vc")))
    refine w_rng (fun j st => ∃ (x2 x3 x4 x5 x6 x7 x8 : Option O) (mu : List O), st = ⟨[some (.fz (.lsk L)), some (.fz (.cel 0)), x2, x3, x4, x5, x6, x7, x8], mu⟩ ∧ WellAt mu 0 (5000 * j)) ⟨_, _, _, _, _, _, _, _, rfl, h0⟩ (fun j st hj hh => ?_) (fun st hh => ?_)
    · obtain ⟨x2, x3, x4, x5, x6, x7, x8, mu, rfl, pw⟩ := hh
      have hj : j < 14 := by omega
      refine ⟨_, rfl, ?_⟩
      exact law_turn pw (by omega) (by omega) fun x3 x4 x5 x6 x7 x8 mu' p' => ⟨_, _, _, _, _, _, _, mu', rfl, p'.mono (by omega)⟩
    · obtain ⟨x2, x3, x4, x5, x6, x7, x8, mu, rfl, pw⟩ := hh
      walk_at "vc"
      exact ⟨rfl, rfl⟩
  obtain ⟨o, s, e, rfl, hs⟩ := w_ex h
  obtain ⟨env, mu⟩ := s
  cases hs
  exact ⟨mu, e⟩
end F34
namespace F34
open PySem PyProof.Rows L2 L2.Pc L2.Tr
section
theorem law_true : ∀ ns : List Int, ns.length ≤ 63 → ∃ mu, m_law [.lsk (ns.map .int)] [] = .ok (.fz (.bl true)) ⟨[], mu⟩ := law_true'
end
theorem all_mk {l : PySem.W.OpenLaw} {w : World} {K : PySem.W.Frag} {h : Heap} {mg : Str → Option Value} {fa : Addr} (X : K.In h) (G0 : h.Ns mainGlobals mg) (hfa : mg "law" = some (.ref fa))
    {f_is_name : Addr}
    {f_is_sign : Addr}
    {f_are_rows : Addr}
    {f_Photo_init : Addr}
    {f_law_well : Addr}
    {f_law_take : Addr}
    {f_law_of : Addr}
    {f_law_name : Addr}
    {f_law_sign : Addr}
    {f_law_any_rows : Addr}
    {f_law_odd : Addr}
    {f_law_bent : Addr}
    {f_law_is_sign : Addr}
    {f_law_are_rows : Addr}
    {f_law_told : Addr}
    {f_law : Addr}
    {c_Photo : Addr}
    {c_CardError : Addr}
    {c_BadPhoto : Addr}
    {c_BadBoard : Addr}
    {c_BadCard : Addr}
    {c_NoText : Addr}
    {od_is_name an_is_name : Option Addr} {sl_is_name : Array (Option Value)} {oc_is_name kV_is_name dc_is_name pm_is_name cd_is_name ct_is_name : Value}
    {od_is_sign an_is_sign : Option Addr} {sl_is_sign : Array (Option Value)} {oc_is_sign kV_is_sign dc_is_sign pm_is_sign cd_is_sign ct_is_sign : Value}
    {od_are_rows an_are_rows : Option Addr} {sl_are_rows : Array (Option Value)} {oc_are_rows kV_are_rows dc_are_rows pm_are_rows cd_are_rows ct_are_rows : Value}
    {od_Photo_init an_Photo_init : Option Addr} {sl_Photo_init : Array (Option Value)} {oc_Photo_init kV_Photo_init dc_Photo_init pm_Photo_init cd_Photo_init ct_Photo_init : Value}
    {od_law_well an_law_well : Option Addr} {sl_law_well : Array (Option Value)} {oc_law_well kV_law_well dc_law_well pm_law_well cd_law_well ct_law_well : Value}
    {od_law_take an_law_take : Option Addr} {sl_law_take : Array (Option Value)} {oc_law_take kV_law_take dc_law_take pm_law_take cd_law_take ct_law_take : Value}
    {od_law_of an_law_of : Option Addr} {sl_law_of : Array (Option Value)} {oc_law_of kV_law_of dc_law_of pm_law_of cd_law_of ct_law_of : Value}
    {od_law_name an_law_name : Option Addr} {sl_law_name : Array (Option Value)} {oc_law_name kV_law_name dc_law_name pm_law_name cd_law_name ct_law_name : Value}
    {od_law_sign an_law_sign : Option Addr} {sl_law_sign : Array (Option Value)} {oc_law_sign kV_law_sign dc_law_sign pm_law_sign cd_law_sign ct_law_sign : Value}
    {od_law_any_rows an_law_any_rows : Option Addr} {sl_law_any_rows : Array (Option Value)} {oc_law_any_rows kV_law_any_rows dc_law_any_rows pm_law_any_rows cd_law_any_rows ct_law_any_rows : Value}
    {od_law_odd an_law_odd : Option Addr} {sl_law_odd : Array (Option Value)} {oc_law_odd kV_law_odd dc_law_odd pm_law_odd cd_law_odd ct_law_odd : Value}
    {od_law_bent an_law_bent : Option Addr} {sl_law_bent : Array (Option Value)} {oc_law_bent kV_law_bent dc_law_bent pm_law_bent cd_law_bent ct_law_bent : Value}
    {od_law_is_sign an_law_is_sign : Option Addr} {sl_law_is_sign : Array (Option Value)} {oc_law_is_sign kV_law_is_sign dc_law_is_sign pm_law_is_sign cd_law_is_sign ct_law_is_sign : Value}
    {od_law_are_rows an_law_are_rows : Option Addr} {sl_law_are_rows : Array (Option Value)} {oc_law_are_rows kV_law_are_rows dc_law_are_rows pm_law_are_rows cd_law_are_rows ct_law_are_rows : Value}
    {od_law_told an_law_told : Option Addr} {sl_law_told : Array (Option Value)} {oc_law_told kV_law_told dc_law_told pm_law_told cd_law_told ct_law_told : Value}
    {od_law an_law : Option Addr} {sl_law : Array (Option Value)} {oc_law kV_law dc_law pm_law cd_law ct_law : Value}
    {t_q_LETTERS : Tok}
    {t_q_LONGEST : Tok}
    {A_q_WORDS : Addr} {o_q_WORDS : Option Addr} {its_q_WORDS : Array Value} {n_q_WORDS : Nat} {s_q_WORDS : Array (Option Value)}
    {t_q_MOST_SIDE : Tok}
    {t_q_BARE : Tok}
    {t_q_DARK : Tok}
    (xg : PySem.W.specialIn K (.builtin "object.__class__") "__get__" = some (some (.builtin "getset_descriptor.__get__")))
    (xt : PySem.W.takesIn K (.builtin "object.__class__") = some true)
    (a_Photo : PySem.W.nsIn K mainGlobals "Photo" = some (some (.ref c_Photo)))
    (pg_Photo : PySem.W.plainGet K c_Photo Str.empty = true)
    (hd_Photo : PySem.W.hasDictIn K c_Photo = true)
    (po_Photo : PySem.W.plainOver K c_Photo = true)
    (sa_Photo : PySem.W.findIn K (.ref c_Photo) "__setattr__" = some (some (.builtin "object.__setattr__")))
    (mk_Photo : PySem.W.makesIn K c_Photo = true)
    (kp_Photo : PySem.W.keepIn K (.ref c_Photo) = true)
    (cl_Photo : PySem.W.findIn K (.ref c_Photo) "__class__" = some (some (.builtin "object.__class__")))
    (ob_Photo : PySem.W.mroIn K c_Photo (.type "object") = some true)
    (ne_Photo : PySem.W.findIn K (.ref c_Photo) "__ne__" = some (some (.builtin "object.__ne__")))
    (no_Photo_rows : PySem.W.findIn K (.ref c_Photo) "rows" = some none)
    (ty_Photo : PySem.W.typeIn K (.ref c_Photo) = some (.type "type"))
    (ss_Photo : PySem.W.subIn K (.ref c_Photo) (.ref c_Photo) = some true)
    (up_Photo_NoneType : PySem.W.subIn K (.type "NoneType") (.ref c_Photo) = some false)
    (dn_Photo_NoneType : PySem.W.subIn K (.ref c_Photo) (.type "NoneType") = some false)
    (up_Photo_bool : PySem.W.subIn K (.type "bool") (.ref c_Photo) = some false)
    (dn_Photo_bool : PySem.W.subIn K (.ref c_Photo) (.type "bool") = some false)
    (up_Photo_int : PySem.W.subIn K (.type "int") (.ref c_Photo) = some false)
    (dn_Photo_int : PySem.W.subIn K (.ref c_Photo) (.type "int") = some false)
    (up_Photo_str : PySem.W.subIn K (.type "str") (.ref c_Photo) = some false)
    (dn_Photo_str : PySem.W.subIn K (.ref c_Photo) (.type "str") = some false)
    (up_Photo_tuple : PySem.W.subIn K (.type "tuple") (.ref c_Photo) = some false)
    (dn_Photo_tuple : PySem.W.subIn K (.ref c_Photo) (.type "tuple") = some false)
    (up_Photo_list : PySem.W.subIn K (.type "list") (.ref c_Photo) = some false)
    (dn_Photo_list : PySem.W.subIn K (.ref c_Photo) (.type "list") = some false)
    (up_Photo_dict : PySem.W.subIn K (.type "dict") (.ref c_Photo) = some false)
    (dn_Photo_dict : PySem.W.subIn K (.ref c_Photo) (.type "dict") = some false)
    (fi_Photo_init : PySem.W.findIn K (.ref c_Photo) "__init__" = some (some (.ref f_Photo_init)))
    (isf_Photo_init : PySem.W.isFn K (.ref f_Photo_init) = true)
    (a_CardError : PySem.W.nsIn K mainGlobals "CardError" = some (some (.ref c_CardError)))
    (ty_CardError : PySem.W.typeIn K (.ref c_CardError) = some (.type "type"))
    (ex_CardError : PySem.W.subIn K (.ref c_CardError) (.type "BaseException") = some true)
    (is_CardError : PySem.W.isClsIn K c_CardError = true)
    (sp_CardError : PySem.W.specialIn K (.ref c_CardError) "__getattribute__" = some (some (.builtin "type.__getattribute__")))
    (rd_CardError : PySem.W.readsIn K c_CardError (.type "type") = true)
    (fi_CardError : PySem.W.findCls K (.ref c_CardError) (.type "type") "__init__" = some (.val (.builtin "ValueError.__init__")))
    (a_BadPhoto : PySem.W.nsIn K mainGlobals "BadPhoto" = some (some (.ref c_BadPhoto)))
    (ty_BadPhoto : PySem.W.typeIn K (.ref c_BadPhoto) = some (.type "type"))
    (ex_BadPhoto : PySem.W.subIn K (.ref c_BadPhoto) (.type "BaseException") = some true)
    (is_BadPhoto : PySem.W.isClsIn K c_BadPhoto = true)
    (xw_BadPhoto : PySem.W.excIn K c_BadPhoto [.type "ValueError", .type "Exception", .type "BaseException", .type "object"] "ValueError.__new__" = true)
    (kp_BadPhoto : PySem.W.keepIn K (.ref c_BadPhoto) = true)
    (ga_BadPhoto : PySem.W.findIn K (.ref c_BadPhoto) "__getattribute__" = some (some (.builtin "BaseException.__getattribute__")))
    (gg_BadPhoto : PySem.W.findIn K (.ref c_BadPhoto) "__getattr__" = some none)
    (sp_BadPhoto : PySem.W.specialIn K (.ref c_BadPhoto) "__getattribute__" = some (some (.builtin "type.__getattribute__")))
    (rd_BadPhoto : PySem.W.readsIn K c_BadPhoto (.type "type") = true)
    (fi_BadPhoto : PySem.W.findCls K (.ref c_BadPhoto) (.type "type") "__init__" = some (.val (.builtin "ValueError.__init__")))
    (su_BadPhoto_CardError : PySem.W.subIn K (.ref c_BadPhoto) (.ref c_CardError) = some true)
    (cl_BadBoard : PySem.W.findIn K (.ref c_BadBoard) "__class__" = some (some (.builtin "object.__class__")))
    (ob_BadBoard : PySem.W.mroIn K c_BadBoard (.type "object") = some true)
    (a_BadBoard : PySem.W.nsIn K mainGlobals "BadBoard" = some (some (.ref c_BadBoard)))
    (ty_BadBoard : PySem.W.typeIn K (.ref c_BadBoard) = some (.type "type"))
    (ss_BadBoard : PySem.W.subIn K (.ref c_BadBoard) (.ref c_BadBoard) = some true)
    (cl_BadCard : PySem.W.findIn K (.ref c_BadCard) "__class__" = some (some (.builtin "object.__class__")))
    (ob_BadCard : PySem.W.mroIn K c_BadCard (.type "object") = some true)
    (a_BadCard : PySem.W.nsIn K mainGlobals "BadCard" = some (some (.ref c_BadCard)))
    (ty_BadCard : PySem.W.typeIn K (.ref c_BadCard) = some (.type "type"))
    (ss_BadCard : PySem.W.subIn K (.ref c_BadCard) (.ref c_BadCard) = some true)
    (cl_BadPhoto : PySem.W.findIn K (.ref c_BadPhoto) "__class__" = some (some (.builtin "object.__class__")))
    (ob_BadPhoto : PySem.W.mroIn K c_BadPhoto (.type "object") = some true)
    (ss_BadPhoto : PySem.W.subIn K (.ref c_BadPhoto) (.ref c_BadPhoto) = some true)
    (cl_NoText : PySem.W.findIn K (.ref c_NoText) "__class__" = some (some (.builtin "object.__class__")))
    (ob_NoText : PySem.W.mroIn K c_NoText (.type "object") = some true)
    (a_NoText : PySem.W.nsIn K mainGlobals "NoText" = some (some (.ref c_NoText)))
    (ty_NoText : PySem.W.typeIn K (.ref c_NoText) = some (.type "type"))
    (ss_NoText : PySem.W.subIn K (.ref c_NoText) (.ref c_NoText) = some true)
    (su_BadPhoto_BadBoard : PySem.W.subIn K (.ref c_BadPhoto) (.ref c_BadBoard) = some false)
    (su_BadPhoto_BadCard : PySem.W.subIn K (.ref c_BadPhoto) (.ref c_BadCard) = some false)
    (su_BadPhoto_NoText : PySem.W.subIn K (.ref c_BadPhoto) (.ref c_NoText) = some false)
    (sb_BadPhoto_ValueError : PySem.W.subIn K (.ref c_BadPhoto) (.type "ValueError") = some true)
    (a_is_name : PySem.W.nsIn K mainGlobals "is_name" = some (some (.ref f_is_name)))
    (l_is_name : K.lookup f_is_name = some ⟨oc_is_name, od_is_name, .func (PySem.W.fnOf "is_name" "is_name" (defArgs s_is_name) (defBody s_is_name) (defScope s_is_name) .none kV_is_name dc_is_name pm_is_name an_is_name cd_is_name ct_is_name), sl_is_name⟩)
    (c_is_name : PySem.W.codeIn K cd_is_name "is_name" = true)
    (k_is_name : PySem.W.keepIn K (.ref f_is_name) = true)
    (a_is_sign : PySem.W.nsIn K mainGlobals "is_sign" = some (some (.ref f_is_sign)))
    (l_is_sign : K.lookup f_is_sign = some ⟨oc_is_sign, od_is_sign, .func (PySem.W.fnOf "is_sign" "is_sign" (defArgs s_is_sign) (defBody s_is_sign) (defScope s_is_sign) .none kV_is_sign dc_is_sign pm_is_sign an_is_sign cd_is_sign ct_is_sign), sl_is_sign⟩)
    (c_is_sign : PySem.W.codeIn K cd_is_sign "is_sign" = true)
    (k_is_sign : PySem.W.keepIn K (.ref f_is_sign) = true)
    (a_are_rows : PySem.W.nsIn K mainGlobals "are_rows" = some (some (.ref f_are_rows)))
    (l_are_rows : K.lookup f_are_rows = some ⟨oc_are_rows, od_are_rows, .func (PySem.W.fnOf "are_rows" "are_rows" (defArgs s_are_rows) (defBody s_are_rows) (defScope s_are_rows) .none kV_are_rows dc_are_rows pm_are_rows an_are_rows cd_are_rows ct_are_rows), sl_are_rows⟩)
    (c_are_rows : PySem.W.codeIn K cd_are_rows "are_rows" = true)
    (k_are_rows : PySem.W.keepIn K (.ref f_are_rows) = true)
    (l_Photo_init : K.lookup f_Photo_init = some ⟨oc_Photo_init, od_Photo_init, .func (PySem.W.fnOf "__init__" "Photo.__init__" (defArgs s_Photo_init) (defBody s_Photo_init) (defScope s_Photo_init) .none kV_Photo_init dc_Photo_init pm_Photo_init an_Photo_init cd_Photo_init ct_Photo_init), sl_Photo_init⟩)
    (c_Photo_init : PySem.W.codeIn K cd_Photo_init "Photo.__init__" = true)
    (k_Photo_init : PySem.W.keepIn K (.ref f_Photo_init) = true)
    (a_law_well : PySem.W.nsIn K mainGlobals "_law_well" = some (some (.ref f_law_well)))
    (l_law_well : K.lookup f_law_well = some ⟨oc_law_well, od_law_well, .func (PySem.W.fnOf "_law_well" "_law_well" (defArgs s_law_well) (defBody s_law_well) (defScope s_law_well) .none kV_law_well dc_law_well pm_law_well an_law_well cd_law_well ct_law_well), sl_law_well⟩)
    (c_law_well : PySem.W.codeIn K cd_law_well "_law_well" = true)
    (k_law_well : PySem.W.keepIn K (.ref f_law_well) = true)
    (a_law_take : PySem.W.nsIn K mainGlobals "_law_take" = some (some (.ref f_law_take)))
    (l_law_take : K.lookup f_law_take = some ⟨oc_law_take, od_law_take, .func (PySem.W.fnOf "_law_take" "_law_take" (defArgs s_law_take) (defBody s_law_take) (defScope s_law_take) .none kV_law_take dc_law_take pm_law_take an_law_take cd_law_take ct_law_take), sl_law_take⟩)
    (c_law_take : PySem.W.codeIn K cd_law_take "_law_take" = true)
    (k_law_take : PySem.W.keepIn K (.ref f_law_take) = true)
    (a_law_of : PySem.W.nsIn K mainGlobals "_law_of" = some (some (.ref f_law_of)))
    (l_law_of : K.lookup f_law_of = some ⟨oc_law_of, od_law_of, .func (PySem.W.fnOf "_law_of" "_law_of" (defArgs s_law_of) (defBody s_law_of) (defScope s_law_of) .none kV_law_of dc_law_of pm_law_of an_law_of cd_law_of ct_law_of), sl_law_of⟩)
    (c_law_of : PySem.W.codeIn K cd_law_of "_law_of" = true)
    (k_law_of : PySem.W.keepIn K (.ref f_law_of) = true)
    (a_law_name : PySem.W.nsIn K mainGlobals "_law_name" = some (some (.ref f_law_name)))
    (l_law_name : K.lookup f_law_name = some ⟨oc_law_name, od_law_name, .func (PySem.W.fnOf "_law_name" "_law_name" (defArgs s_law_name) (defBody s_law_name) (defScope s_law_name) .none kV_law_name dc_law_name pm_law_name an_law_name cd_law_name ct_law_name), sl_law_name⟩)
    (c_law_name : PySem.W.codeIn K cd_law_name "_law_name" = true)
    (k_law_name : PySem.W.keepIn K (.ref f_law_name) = true)
    (a_law_sign : PySem.W.nsIn K mainGlobals "_law_sign" = some (some (.ref f_law_sign)))
    (l_law_sign : K.lookup f_law_sign = some ⟨oc_law_sign, od_law_sign, .func (PySem.W.fnOf "_law_sign" "_law_sign" (defArgs s_law_sign) (defBody s_law_sign) (defScope s_law_sign) .none kV_law_sign dc_law_sign pm_law_sign an_law_sign cd_law_sign ct_law_sign), sl_law_sign⟩)
    (c_law_sign : PySem.W.codeIn K cd_law_sign "_law_sign" = true)
    (k_law_sign : PySem.W.keepIn K (.ref f_law_sign) = true)
    (a_law_any_rows : PySem.W.nsIn K mainGlobals "_law_any_rows" = some (some (.ref f_law_any_rows)))
    (l_law_any_rows : K.lookup f_law_any_rows = some ⟨oc_law_any_rows, od_law_any_rows, .func (PySem.W.fnOf "_law_any_rows" "_law_any_rows" (defArgs s_law_any_rows) (defBody s_law_any_rows) (defScope s_law_any_rows) .none kV_law_any_rows dc_law_any_rows pm_law_any_rows an_law_any_rows cd_law_any_rows ct_law_any_rows), sl_law_any_rows⟩)
    (c_law_any_rows : PySem.W.codeIn K cd_law_any_rows "_law_any_rows" = true)
    (k_law_any_rows : PySem.W.keepIn K (.ref f_law_any_rows) = true)
    (a_law_odd : PySem.W.nsIn K mainGlobals "_law_odd" = some (some (.ref f_law_odd)))
    (l_law_odd : K.lookup f_law_odd = some ⟨oc_law_odd, od_law_odd, .func (PySem.W.fnOf "_law_odd" "_law_odd" (defArgs s_law_odd) (defBody s_law_odd) (defScope s_law_odd) .none kV_law_odd dc_law_odd pm_law_odd an_law_odd cd_law_odd ct_law_odd), sl_law_odd⟩)
    (c_law_odd : PySem.W.codeIn K cd_law_odd "_law_odd" = true)
    (k_law_odd : PySem.W.keepIn K (.ref f_law_odd) = true)
    (a_law_bent : PySem.W.nsIn K mainGlobals "_law_bent" = some (some (.ref f_law_bent)))
    (l_law_bent : K.lookup f_law_bent = some ⟨oc_law_bent, od_law_bent, .func (PySem.W.fnOf "_law_bent" "_law_bent" (defArgs s_law_bent) (defBody s_law_bent) (defScope s_law_bent) .none kV_law_bent dc_law_bent pm_law_bent an_law_bent cd_law_bent ct_law_bent), sl_law_bent⟩)
    (c_law_bent : PySem.W.codeIn K cd_law_bent "_law_bent" = true)
    (k_law_bent : PySem.W.keepIn K (.ref f_law_bent) = true)
    (a_law_is_sign : PySem.W.nsIn K mainGlobals "_law_is_sign" = some (some (.ref f_law_is_sign)))
    (l_law_is_sign : K.lookup f_law_is_sign = some ⟨oc_law_is_sign, od_law_is_sign, .func (PySem.W.fnOf "_law_is_sign" "_law_is_sign" (defArgs s_law_is_sign) (defBody s_law_is_sign) (defScope s_law_is_sign) .none kV_law_is_sign dc_law_is_sign pm_law_is_sign an_law_is_sign cd_law_is_sign ct_law_is_sign), sl_law_is_sign⟩)
    (c_law_is_sign : PySem.W.codeIn K cd_law_is_sign "_law_is_sign" = true)
    (k_law_is_sign : PySem.W.keepIn K (.ref f_law_is_sign) = true)
    (a_law_are_rows : PySem.W.nsIn K mainGlobals "_law_are_rows" = some (some (.ref f_law_are_rows)))
    (l_law_are_rows : K.lookup f_law_are_rows = some ⟨oc_law_are_rows, od_law_are_rows, .func (PySem.W.fnOf "_law_are_rows" "_law_are_rows" (defArgs s_law_are_rows) (defBody s_law_are_rows) (defScope s_law_are_rows) .none kV_law_are_rows dc_law_are_rows pm_law_are_rows an_law_are_rows cd_law_are_rows ct_law_are_rows), sl_law_are_rows⟩)
    (c_law_are_rows : PySem.W.codeIn K cd_law_are_rows "_law_are_rows" = true)
    (k_law_are_rows : PySem.W.keepIn K (.ref f_law_are_rows) = true)
    (a_law_told : PySem.W.nsIn K mainGlobals "_law_told" = some (some (.ref f_law_told)))
    (l_law_told : K.lookup f_law_told = some ⟨oc_law_told, od_law_told, .func (PySem.W.fnOf "_law_told" "_law_told" (defArgs s_law_told) (defBody s_law_told) (defScope s_law_told) .none kV_law_told dc_law_told pm_law_told an_law_told cd_law_told ct_law_told), sl_law_told⟩)
    (c_law_told : PySem.W.codeIn K cd_law_told "_law_told" = true)
    (k_law_told : PySem.W.keepIn K (.ref f_law_told) = true)
    (a_law : PySem.W.nsIn K mainGlobals "law" = some (some (.ref f_law)))
    (l_law : K.lookup f_law = some ⟨oc_law, od_law, .func (PySem.W.fnOf "law" "law" (defArgs s_law) (defBody s_law) (defScope s_law) .none kV_law dc_law pm_law an_law cd_law ct_law), sl_law⟩)
    (c_law : PySem.W.codeIn K cd_law "law" = true)
    (k_law : PySem.W.keepIn K (.ref f_law) = true)
    (v_q_LETTERS : PySem.W.nsIn K mainGlobals "LETTERS" = some (some (.str "abcdefghijklmnopqrstuvwxyz" t_q_LETTERS)))
    (v_q_LONGEST : PySem.W.nsIn K mainGlobals "LONGEST" = some (some (.int (8) t_q_LONGEST)))
    (v_q_WORDS : PySem.W.nsIn K mainGlobals "WORDS" = some (some (.ref A_q_WORDS)))
    (w_q_WORDS : K.lookup A_q_WORDS = some ⟨.type "tuple", o_q_WORDS, .seq its_q_WORDS n_q_WORDS, s_q_WORDS⟩)
    (z_q_WORDS : its_q_WORDS.size ≤ sizeLine)
    (y_q_WORDS : Vals [(.str "pin"), (.str "again"), (.str "move"), (.str "take"), (.str "tear"), (.str "at"), (.str "to"), (.str "until"), (.str "strips"), (.str "known")] its_q_WORDS.toList)
    (v_q_MOST_SIDE : PySem.W.nsIn K mainGlobals "MOST_SIDE" = some (some (.int (9) t_q_MOST_SIDE)))
    (v_q_BARE : PySem.W.nsIn K mainGlobals "BARE" = some (some (.str "-" t_q_BARE)))
    (v_q_DARK : PySem.W.nsIn K mainGlobals "DARK" = some (some (.str "?" t_q_DARK)))
    (b_ValueError : PySem.W.nsIn K mainGlobals "ValueError" = some none)
    (b_abs : PySem.W.nsIn K mainGlobals "abs" = some none)
    (b_all : PySem.W.nsIn K mainGlobals "all" = some none)
    (b_isinstance : PySem.W.nsIn K mainGlobals "isinstance" = some none)
    (b_len : PySem.W.nsIn K mainGlobals "len" = some none)
    (b_list : PySem.W.nsIn K mainGlobals "list" = some none)
    (b_range : PySem.W.nsIn K mainGlobals "range" = some none)
    (b_repr : PySem.W.nsIn K mainGlobals "repr" = some none)
    (b_set : PySem.W.nsIn K mainGlobals "set" = some none)
    (b_str : PySem.W.nsIn K mainGlobals "str" = some none)
    (b_tuple : PySem.W.nsIn K mainGlobals "tuple" = some none) :
    ∃ fd : FuncData, (∀ (s : Shared) (u : Value), BindsTo s fd ⟨[u], []⟩ [("_law_script", u)]) ∧ ∀ base : Heap, K.In base → base.Ns mainGlobals mg → Sm base → FnT l.prog w ⟨K, mg, none⟩ base true 7 fa fd ["_law_script"] m_law := by
  have e := hfa.symm.trans (PySem.W.mg_of X G0 a_law)
  cases e
  have Cl_Photo : Cls K c_Photo := ⟨pg_Photo, hd_Photo, po_Photo, sa_Photo⟩
  have Mk_Photo : Mk K c_Photo f_Photo_init := ⟨mk_Photo, fi_Photo_init, isf_Photo_init, kp_Photo⟩
  have BB_CardError : XbK K mg "CardError" c_CardError := ⟨PySem.W.mg_of X G0 a_CardError, sp_CardError, ty_CardError, rd_CardError, fi_CardError⟩
  have BB_BadPhoto : XbK K mg "BadPhoto" c_BadPhoto := ⟨PySem.W.mg_of X G0 a_BadPhoto, sp_BadPhoto, ty_BadPhoto, rd_BadPhoto, fi_BadPhoto⟩
  have T : Tx ⟨K, mg, none⟩ w := ⟨rfl, hd_of (PySem.W.mg_of X G0 a_CardError) (List.forall_mem_cons.mpr ⟨⟨c_BadPhoto, PySem.W.mg_of X G0 a_BadPhoto, exm_of ex_CardError is_CardError ty_CardError su_BadPhoto_CardError⟩, nofun⟩), gc_str (PySem.W.mg_of X G0 v_q_LETTERS), gc_int (PySem.W.mg_of X G0 v_q_LONGEST), gc_tup (PySem.W.mg_of X G0 v_q_WORDS) (kt_mk w_q_WORDS z_q_WORDS y_q_WORDS) fun _ _ => (.cons (.str _) (.cons (.str _) (.cons (.str _) (.cons (.str _) (.cons (.str _) (.cons (.str _) (.cons (.str _) (.cons (.str _) (.cons (.str _) (.cons (.str _) .nil)))))))))), gc_int (PySem.W.mg_of X G0 v_q_MOST_SIDE), gc_str (PySem.W.mg_of X G0 v_q_BARE), gc_str (PySem.W.mg_of X G0 v_q_DARK), PySem.W.mg_none_of X G0 b_ValueError, PySem.W.mg_none_of X G0 b_abs, PySem.W.mg_none_of X G0 b_all, PySem.W.mg_none_of X G0 b_isinstance, PySem.W.mg_none_of X G0 b_len, PySem.W.mg_none_of X G0 b_list, PySem.W.mg_none_of X G0 b_range, PySem.W.mg_none_of X G0 b_repr, PySem.W.mg_none_of X G0 b_set, PySem.W.mg_none_of X G0 b_str, PySem.W.mg_none_of X G0 b_tuple, kc_of (List.forall_mem_cons.mpr ⟨⟨c_Photo, PySem.W.mg_of X G0 a_Photo, Cl_Photo, List.forall_mem_cons.mpr ⟨no_Photo_rows, nofun⟩⟩, nofun⟩), is_of (List.forall_mem_cons.mpr ⟨⟨c_Photo, PySem.W.mg_of X G0 a_Photo, Cl_Photo, cl_Photo, xg, xt, ob_Photo, List.forall_mem_cons.mpr ⟨kit_up ob_Photo ty_Photo up_Photo_NoneType (by simp), List.forall_mem_cons.mpr ⟨kit_up ob_Photo ty_Photo up_Photo_bool (by simp), List.forall_mem_cons.mpr ⟨kit_up ob_Photo ty_Photo up_Photo_int (by simp), List.forall_mem_cons.mpr ⟨kit_up ob_Photo ty_Photo up_Photo_str (by simp), List.forall_mem_cons.mpr ⟨kit_up ob_Photo ty_Photo up_Photo_tuple (by simp), List.forall_mem_cons.mpr ⟨kit_up ob_Photo ty_Photo up_Photo_list (by simp), List.forall_mem_cons.mpr ⟨kit_up ob_Photo ty_Photo up_Photo_dict (by simp), nofun⟩⟩⟩⟩⟩⟩⟩, List.forall_mem_cons.mpr ⟨kit_dn (by decide +kernel) dn_Photo_str, List.forall_mem_cons.mpr ⟨kit_dn (by decide +kernel) dn_Photo_int, List.forall_mem_cons.mpr ⟨kit_dn (by decide +kernel) dn_Photo_bool, List.forall_mem_cons.mpr ⟨kit_dn (by decide +kernel) dn_Photo_tuple, List.forall_mem_cons.mpr ⟨kit_dn (by decide +kernel) dn_Photo_list, List.forall_mem_cons.mpr ⟨kit_dn (by decide +kernel) dn_Photo_dict, nofun⟩⟩⟩⟩⟩⟩⟩, nofun⟩) (List.forall_mem_cons.mpr ⟨List.forall_mem_cons.mpr ⟨(fun C C' e1 e2 => by have z1 := e1.symm.trans (PySem.W.mg_of X G0 a_Photo); have z2 := e2.symm.trans (PySem.W.mg_of X G0 a_Photo); cases z1; cases z2; exact kit_same), nofun⟩, nofun⟩), gc_cls (PySem.W.mg_of X G0 a_Photo), kxi_of (List.forall_mem_cons.mpr ⟨⟨c_BadPhoto, PySem.W.mg_of X G0 a_BadPhoto, ⟨cls_some ob_BadPhoto, ga_BadPhoto, gg_BadPhoto, ex_BadPhoto, cl_BadPhoto, xg, xt, ob_BadPhoto⟩, List.forall_mem_cons.mpr ⟨⟨c_BadBoard, PySem.W.mg_of X G0 a_BadBoard, kit_x ob_BadBoard ty_BadBoard ss_BadBoard su_BadPhoto_BadBoard⟩, List.forall_mem_cons.mpr ⟨⟨c_BadCard, PySem.W.mg_of X G0 a_BadCard, kit_x ob_BadCard ty_BadCard ss_BadCard su_BadPhoto_BadCard⟩, List.forall_mem_cons.mpr ⟨⟨c_BadPhoto, PySem.W.mg_of X G0 a_BadPhoto, kit_same⟩, List.forall_mem_cons.mpr ⟨⟨c_NoText, PySem.W.mg_of X G0 a_NoText, kit_x ob_NoText ty_NoText ss_NoText su_BadPhoto_NoText⟩, nofun⟩⟩⟩⟩⟩, nofun⟩) (List.forall_mem_cons.mpr ⟨⟨c_BadPhoto, PySem.W.mg_of X G0 a_BadPhoto, ⟨cls_some ob_BadPhoto, ga_BadPhoto, gg_BadPhoto, ex_BadPhoto, cl_BadPhoto, xg, xt, ob_BadPhoto⟩, List.forall_mem_cons.mpr ⟨kit_dn (by decide +kernel) sb_BadPhoto_ValueError, nofun⟩⟩, nofun⟩), gc_cls (PySem.W.mg_of X G0 a_BadBoard), gc_cls (PySem.W.mg_of X G0 a_BadCard), gc_cls (PySem.W.mg_of X G0 a_BadPhoto), gc_cls (PySem.W.mg_of X G0 a_NoText)⟩
  have F_is_name := df_mk (st := s_is_name) l_is_name c_is_name
  have F_is_sign := df_mk (st := s_is_sign) l_is_sign c_is_sign
  have F_are_rows := df_mk (st := s_are_rows) l_are_rows c_are_rows
  have F_Photo_init := df_mk (st := s_Photo_init) l_Photo_init c_Photo_init
  have F_law_well := df_mk (st := s_law_well) l_law_well c_law_well
  have F_law_take := df_mk (st := s_law_take) l_law_take c_law_take
  have F_law_of := df_mk (st := s_law_of) l_law_of c_law_of
  have F_law_name := df_mk (st := s_law_name) l_law_name c_law_name
  have F_law_sign := df_mk (st := s_law_sign) l_law_sign c_law_sign
  have F_law_any_rows := df_mk (st := s_law_any_rows) l_law_any_rows c_law_any_rows
  have F_law_odd := df_mk (st := s_law_odd) l_law_odd c_law_odd
  have F_law_bent := df_mk (st := s_law_bent) l_law_bent c_law_bent
  have F_law_is_sign := df_mk (st := s_law_is_sign) l_law_is_sign c_law_is_sign
  have F_law_are_rows := df_mk (st := s_law_are_rows) l_law_are_rows c_law_are_rows
  have F_law_told := df_mk (st := s_law_told) l_law_told c_law_told
  have F_law := df_mk (st := s_law) l_law c_law
  refine ⟨PySem.W.fnOf "law" "law" (defArgs s_law) (defBody s_law) (defScope s_law) .none kV_law dc_law pm_law an_law cd_law ct_law, fun s u => .of_eq rfl, fun base kin hns M => ?_⟩
  have P_is_name := fn_is_name (P := l.prog) (w := w) (base := base) T F_is_name
  have K_is_name : KnT l.prog w ⟨K, mg, none⟩ base false "is_name" 1 1 [] (fun ds _ => ds) m_is_name := kn_pos P_is_name (PySem.W.mg_of X G0 a_is_name) k_is_name (fun us hl => match us, hl with | [_], _ => rfl)
  have P_is_sign := fn_is_sign (P := l.prog) (w := w) (base := base) T F_is_sign K_is_name
  have K_is_sign : KnT l.prog w ⟨K, mg, none⟩ base false "is_sign" 2 1 [] (fun ds _ => ds) m_is_sign := kn_pos P_is_sign (PySem.W.mg_of X G0 a_is_sign) k_is_sign (fun us hl => match us, hl with | [_], _ => rfl)
  have P_are_rows := fn_are_rows (P := l.prog) (w := w) (base := base) T F_are_rows K_is_sign
  have K_are_rows : KnT l.prog w ⟨K, mg, none⟩ base false "are_rows" 3 1 [] (fun ds _ => ds) m_are_rows := kn_pos P_are_rows (PySem.W.mg_of X G0 a_are_rows) k_are_rows (fun us hl => match us, hl with | [_], _ => rfl)
  have K_exc_BadPhoto : XoT ⟨K, mg, none⟩ "BadPhoto" := ⟨⟨c_BadPhoto, PySem.W.mg_of X G0 a_BadPhoto, xw_BadPhoto, kp_BadPhoto, ex_BadPhoto, ty_BadPhoto⟩⟩
  have P_Photo_init := fn_Photo_init (P := l.prog) (w := w) (base := base) T F_Photo_init K_are_rows K_exc_BadPhoto
  have P_law_well := fn_law_well (P := l.prog) (w := w) (base := base) T F_law_well
  have P_law_take := fn_law_take (P := l.prog) (w := w) (base := base) T F_law_take
  have K_law_take : KnT l.prog w ⟨K, mg, none⟩ base false "_law_take" 1 2 [] (fun ds _ => ds) m_law_take := kn_pos P_law_take (PySem.W.mg_of X G0 a_law_take) k_law_take (fun us hl => match us, hl with | [_, _], _ => rfl)
  have P_law_of := fn_law_of (P := l.prog) (w := w) (base := base) T F_law_of K_law_take
  have K_law_of : KnT l.prog w ⟨K, mg, none⟩ base false "_law_of" 2 2 [] (fun ds _ => ds) m_law_of := kn_pos P_law_of (PySem.W.mg_of X G0 a_law_of) k_law_of (fun us hl => match us, hl with | [_, _], _ => rfl)
  have P_law_name := fn_law_name (P := l.prog) (w := w) (base := base) T F_law_name K_law_take K_law_of
  have K_law_name : KnT l.prog w ⟨K, mg, none⟩ base false "_law_name" 3 1 [] (fun ds _ => ds) m_law_name := kn_pos P_law_name (PySem.W.mg_of X G0 a_law_name) k_law_name (fun us hl => match us, hl with | [_], _ => rfl)
  have P_law_sign := fn_law_sign (P := l.prog) (w := w) (base := base) T F_law_sign K_law_take K_law_name
  have K_law_sign : KnT l.prog w ⟨K, mg, none⟩ base false "_law_sign" 4 1 [] (fun ds _ => ds) m_law_sign := kn_pos P_law_sign (PySem.W.mg_of X G0 a_law_sign) k_law_sign (fun us hl => match us, hl with | [_], _ => rfl)
  have P_law_any_rows := fn_law_any_rows (P := l.prog) (w := w) (base := base) T F_law_any_rows K_law_of K_law_sign
  have P_law_odd := fn_law_odd (P := l.prog) (w := w) (base := base) T F_law_odd K_law_name K_law_of K_law_take
  have K_law_odd : KnT l.prog w ⟨K, mg, none⟩ base false "_law_odd" 4 1 [] (fun ds _ => ds) m_law_odd := kn_pos P_law_odd (PySem.W.mg_of X G0 a_law_odd) k_law_odd (fun us hl => match us, hl with | [_], _ => rfl)
  have P_law_bent := fn_law_bent (P := l.prog) (w := w) (base := base) T F_law_bent K_law_take K_law_odd
  have P_law_is_sign := fn_law_is_sign (P := l.prog) (w := w) (base := base) T F_law_is_sign
  have K_law_is_sign : KnT l.prog w ⟨K, mg, none⟩ base false "_law_is_sign" 1 1 [] (fun ds _ => ds) m_law_is_sign := kn_pos P_law_is_sign (PySem.W.mg_of X G0 a_law_is_sign) k_law_is_sign (fun us hl => match us, hl with | [_], _ => rfl)
  have P_law_are_rows := fn_law_are_rows (P := l.prog) (w := w) (base := base) T F_law_are_rows K_law_is_sign
  have K_Photo_init : MkT l.prog w ⟨K, mg, none⟩ base "Photo" 4 1 [] (fun ds _ => ds) m_Photo_init := mk_pos Mk_Photo (PySem.W.mg_of X G0 a_Photo) P_Photo_init (fun us hl => match us, hl with | [_, _], _ => rfl)
  have K_Photo_init_1_rows : MkT l.prog w ⟨K, mg, none⟩ base "Photo" 4 0 ["rows"] g_Photo_init_1_rows m_Photo_init := mk_kwn [(2, 0)] Mk_Photo (PySem.W.mg_of X G0 a_Photo) P_Photo_init (fun vs zs h1 h2 => match vs, zs, h1, h2 with | [], [_], _, _ => rfl) (fun us ws h1 h2 => match us, ws, h1, h2 with | [_], [_], _, _ => rfl)
  have P_law_told := fn_law_told (P := l.prog) (w := w) (base := base) T F_law_told K_Photo_init K_Photo_init_1_rows
  have K_law_well : KnT l.prog w ⟨K, mg, none⟩ base false "_law_well" 1 1 [] (fun ds _ => ds) m_law_well := kn_pos P_law_well (PySem.W.mg_of X G0 a_law_well) k_law_well (fun us hl => match us, hl with | [_], _ => rfl)
  have K_law_any_rows : KnT l.prog w ⟨K, mg, none⟩ base false "_law_any_rows" 5 1 [] (fun ds _ => ds) m_law_any_rows := kn_pos P_law_any_rows (PySem.W.mg_of X G0 a_law_any_rows) k_law_any_rows (fun us hl => match us, hl with | [_], _ => rfl)
  have K_law_are_rows : KnT l.prog w ⟨K, mg, none⟩ base false "_law_are_rows" 2 1 [] (fun ds _ => ds) m_law_are_rows := kn_pos P_law_are_rows (PySem.W.mg_of X G0 a_law_are_rows) k_law_are_rows (fun us hl => match us, hl with | [_], _ => rfl)
  have K_law_bent : KnT l.prog w ⟨K, mg, none⟩ base false "_law_bent" 5 2 [] (fun ds _ => ds) m_law_bent := kn_pos P_law_bent (PySem.W.mg_of X G0 a_law_bent) k_law_bent (fun us hl => match us, hl with | [_, _], _ => rfl)
  have K_law_told : KnT l.prog w ⟨K, mg, none⟩ base false "_law_told" 6 2 [] (fun ds _ => ds) m_law_told := kn_pos P_law_told (PySem.W.mg_of X G0 a_law_told) k_law_told (fun us hl => match us, hl with | [_, _], _ => rfl)
  have P_law := fn_law (P := l.prog) (w := w) (base := base) T F_law M K_law_well K_law_any_rows K_law_take K_law_are_rows K_law_bent K_law_told
  exact P_law
end F34
open PySem PySem.W PyProof.Rows L2 L2.Pc L2.Tr in
set_option maxRecDepth 100000 in
set_option maxHeartbeats 0 in
set_option pp.maxSteps 60 in
theorem PySem.Challenge.cw_pinnedcards_k34_what_is_no_photograph_holds : PySem.Challenge.rw_pinnedcards_k34_what_is_no_photograph.Holds := by
  w_on; o_law; k_head; (case hw => w_witness2)
  k_fill
  refine walkT (n := 63) (k := 7) (gb := true) (x := "_law_script") (m := F34.m_law) rfl (by decide) (by decide +kernel) rfl ⟨rfl, by decide, by decide⟩ (fun w h Y => PySem.W.kIn_of Y) ?F F34.law_true
  case F =>
    intro w mg fa h KX G hmg
    refine' F34.all_mk KX G hmg ?xg ?xt ?a_Photo ?pg_Photo ?hd_Photo ?po_Photo ?sa_Photo ?mk_Photo ?kp_Photo ?cl_Photo ?ob_Photo ?ne_Photo ?no_Photo_rows ?ty_Photo ?ss_Photo ?up_Photo_NoneType ?dn_Photo_NoneType ?up_Photo_bool ?dn_Photo_bool ?up_Photo_int ?dn_Photo_int ?up_Photo_str ?dn_Photo_str ?up_Photo_tuple ?dn_Photo_tuple ?up_Photo_list ?dn_Photo_list ?up_Photo_dict ?dn_Photo_dict ?fi_Photo_init ?isf_Photo_init ?a_CardError ?ty_CardError ?ex_CardError ?is_CardError ?sp_CardError ?rd_CardError ?fi_CardError ?a_BadPhoto ?ty_BadPhoto ?ex_BadPhoto ?is_BadPhoto ?xw_BadPhoto ?kp_BadPhoto ?ga_BadPhoto ?gg_BadPhoto ?sp_BadPhoto ?rd_BadPhoto ?fi_BadPhoto ?su_BadPhoto_CardError ?cl_BadBoard ?ob_BadBoard ?a_BadBoard ?ty_BadBoard ?ss_BadBoard ?cl_BadCard ?ob_BadCard ?a_BadCard ?ty_BadCard ?ss_BadCard ?cl_BadPhoto ?ob_BadPhoto ?ss_BadPhoto ?cl_NoText ?ob_NoText ?a_NoText ?ty_NoText ?ss_NoText ?su_BadPhoto_BadBoard ?su_BadPhoto_BadCard ?su_BadPhoto_NoText ?sb_BadPhoto_ValueError ?a_is_name ?l_is_name ?c_is_name ?k_is_name ?a_is_sign ?l_is_sign ?c_is_sign ?k_is_sign ?a_are_rows ?l_are_rows ?c_are_rows ?k_are_rows ?l_Photo_init ?c_Photo_init ?k_Photo_init ?a_law_well ?l_law_well ?c_law_well ?k_law_well ?a_law_take ?l_law_take ?c_law_take ?k_law_take ?a_law_of ?l_law_of ?c_law_of ?k_law_of ?a_law_name ?l_law_name ?c_law_name ?k_law_name ?a_law_sign ?l_law_sign ?c_law_sign ?k_law_sign ?a_law_any_rows ?l_law_any_rows ?c_law_any_rows ?k_law_any_rows ?a_law_odd ?l_law_odd ?c_law_odd ?k_law_odd ?a_law_bent ?l_law_bent ?c_law_bent ?k_law_bent ?a_law_is_sign ?l_law_is_sign ?c_law_is_sign ?k_law_is_sign ?a_law_are_rows ?l_law_are_rows ?c_law_are_rows ?k_law_are_rows ?a_law_told ?l_law_told ?c_law_told ?k_law_told ?a_law ?l_law ?c_law ?k_law ?v_q_LETTERS ?v_q_LONGEST ?v_q_WORDS ?w_q_WORDS ?z_q_WORDS ?y_q_WORDS ?v_q_MOST_SIDE ?v_q_BARE ?v_q_DARK ?b_ValueError ?b_abs ?b_all ?b_isinstance ?b_len ?b_list ?b_range ?b_repr ?b_set ?b_str ?b_tuple
    (case a_Photo => k_is)
    (case a_CardError => k_is)
    (case a_BadPhoto => k_is)
    (case a_BadBoard => k_is)
    (case a_BadCard => k_is)
    (case a_NoText => k_is)
    (case a_is_name => k_is)
    (case a_is_sign => k_is)
    (case a_are_rows => k_is)
    (case a_law_well => k_is)
    (case a_law_take => k_is)
    (case a_law_of => k_is)
    (case a_law_name => k_is)
    (case a_law_sign => k_is)
    (case a_law_any_rows => k_is)
    (case a_law_odd => k_is)
    (case a_law_bent => k_is)
    (case a_law_is_sign => k_is)
    (case a_law_are_rows => k_is)
    (case a_law_told => k_is)
    (case a_law => k_is)
    (case xg => k_is)
    (case xt => k_is)
    (case pg_Photo => k_is)
    (case hd_Photo => k_is)
    (case po_Photo => k_is)
    (case sa_Photo => k_is)
    (case mk_Photo => k_is)
    (case kp_Photo => k_is)
    (case cl_Photo => k_is)
    (case ob_Photo => k_is)
    (case ne_Photo => k_is)
    (case no_Photo_rows => k_is)
    (case ty_Photo => k_is)
    (case ss_Photo => first | rfl | k_is)
    (case up_Photo_NoneType => k_is)
    (case dn_Photo_NoneType => k_is)
    (case up_Photo_bool => k_is)
    (case dn_Photo_bool => k_is)
    (case up_Photo_int => k_is)
    (case dn_Photo_int => k_is)
    (case up_Photo_str => k_is)
    (case dn_Photo_str => k_is)
    (case up_Photo_tuple => k_is)
    (case dn_Photo_tuple => k_is)
    (case up_Photo_list => k_is)
    (case dn_Photo_list => k_is)
    (case up_Photo_dict => k_is)
    (case dn_Photo_dict => k_is)
    (case fi_Photo_init => k_is)
    (case isf_Photo_init => k_is)
    (case ty_CardError => k_is)
    (case ex_CardError => k_is)
    (case is_CardError => k_is)
    (case sp_CardError => k_is)
    (case rd_CardError => k_is)
    (case fi_CardError => k_is)
    (case ty_BadPhoto => k_is)
    (case ex_BadPhoto => k_is)
    (case is_BadPhoto => k_is)
    (case xw_BadPhoto => k_exc)
    (case kp_BadPhoto => k_is)
    (case ga_BadPhoto => k_is)
    (case gg_BadPhoto => k_is)
    (case sp_BadPhoto => k_is)
    (case rd_BadPhoto => k_is)
    (case fi_BadPhoto => k_is)
    (case cl_BadBoard => k_is)
    (case ob_BadBoard => k_is)
    (case ty_BadBoard => k_is)
    (case ss_BadBoard => first | rfl | k_is)
    (case cl_BadCard => k_is)
    (case ob_BadCard => k_is)
    (case ty_BadCard => k_is)
    (case ss_BadCard => first | rfl | k_is)
    (case cl_BadPhoto => k_is)
    (case ob_BadPhoto => k_is)
    (case ss_BadPhoto => first | rfl | k_is)
    (case cl_NoText => k_is)
    (case ob_NoText => k_is)
    (case ty_NoText => k_is)
    (case ss_NoText => first | rfl | k_is)
    (case sb_BadPhoto_ValueError => k_is)
    (case l_is_name => k_is)
    (case c_is_name => k_is)
    (case k_is_name => k_is)
    (case l_is_sign => k_is)
    (case c_is_sign => k_is)
    (case k_is_sign => k_is)
    (case l_are_rows => k_is)
    (case c_are_rows => k_is)
    (case k_are_rows => k_is)
    (case l_Photo_init => k_is)
    (case c_Photo_init => k_is)
    (case k_Photo_init => k_is)
    (case l_law_well => k_is)
    (case c_law_well => k_is)
    (case k_law_well => k_is)
    (case l_law_take => k_is)
    (case c_law_take => k_is)
    (case k_law_take => k_is)
    (case l_law_of => k_is)
    (case c_law_of => k_is)
    (case k_law_of => k_is)
    (case l_law_name => k_is)
    (case c_law_name => k_is)
    (case k_law_name => k_is)
    (case l_law_sign => k_is)
    (case c_law_sign => k_is)
    (case k_law_sign => k_is)
    (case l_law_any_rows => k_is)
    (case c_law_any_rows => k_is)
    (case k_law_any_rows => k_is)
    (case l_law_odd => k_is)
    (case c_law_odd => k_is)
    (case k_law_odd => k_is)
    (case l_law_bent => k_is)
    (case c_law_bent => k_is)
    (case k_law_bent => k_is)
    (case l_law_is_sign => k_is)
    (case c_law_is_sign => k_is)
    (case k_law_is_sign => k_is)
    (case l_law_are_rows => k_is)
    (case c_law_are_rows => k_is)
    (case k_law_are_rows => k_is)
    (case l_law_told => k_is)
    (case c_law_told => k_is)
    (case k_law_told => k_is)
    (case l_law => k_is)
    (case c_law => k_is)
    (case k_law => k_is)
    (case v_q_LETTERS => k_is)
    (case v_q_LONGEST => k_is)
    (case v_q_WORDS => k_is)
    (case w_q_WORDS => k_is)
    (case z_q_WORDS => decide)
    (case y_q_WORDS => repeat (first | exact .nil | (refine .cons ⟨_, rfl⟩ ?_) | (refine .cons rfl ?_)))
    (case v_q_MOST_SIDE => k_is)
    (case v_q_BARE => k_is)
    (case v_q_DARK => k_is)
    (case b_ValueError => k_is)
    (case b_abs => k_is)
    (case b_all => k_is)
    (case b_isinstance => k_is)
    (case b_len => k_is)
    (case b_list => k_is)
    (case b_range => k_is)
    (case b_repr => k_is)
    (case b_set => k_is)
    (case b_str => k_is)
    (case b_tuple => k_is)
    (case su_BadPhoto_CardError => k_is)
    (case su_BadPhoto_BadBoard => k_is)
    (case su_BadPhoto_BadCard => k_is)
    (case su_BadPhoto_NoText => k_is)
